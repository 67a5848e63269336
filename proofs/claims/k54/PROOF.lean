import PyProof.Rows.All
import Wide.All
import OpenK.AllK
import Wide.FinOn
import PySem.Challenge.RW_halveline_k54_whole_odd_between_ends
import HandS.ForMost
import HandS.Wide
import HandS.WideMore
import HandS.WideBits
import HandS.TupSets
import HandS.SetFor
import HandS.IsInst
import HandS.Flow
import HandS.Zip
import HandS.Conv
import HandS.SortInts
import HandS.RevRange
import HandS.TupAny
import HandS.TupLe
import HandS.Deep
import HandS.Rev
import HandS.ForExc
import HandS.ExcIs
import HandS.TryMany
import KE.KSortTupG
import HandS.Style
import HandS.TupLen
set_option Elab.async false
set_option linter.all false
set_option maxRecDepth 100000
namespace PD
open PySem PySem.Spec PyProof.Rows L2

/-! ## data -/
inductive Dt where
  | non | bl (b : Bool) | int (i : Int) | str (x : Str) | tup (xs : List Dt) | lst (xs : List Dt)
  | scr (ns : List Int) | ptr (k : Nat) | ty (n : String) | rf (a : Addr) | exc (n : Str) | cls (n : Str)
  deriving Inhabited

/-- the addresses of what may change: in the store (m), beside it (g) -/
structure MM where
  m : List Addr
  g : List Addr
def MM.has (m : MM) (a : Addr) : Prop := a ∈ m.m ∨ a ∈ m.g
instance (m : MM) (a : Addr) : Decidable (m.has a) := by unfold MM.has; infer_instance
def MM.add (m : MM) (p : Addr) : MM := ⟨m.m ++ [p], m.g⟩
def MM.le (m m' : MM) : Prop := m.m <+: m'.m ∧ m.g = m'.g
theorem MM.le_refl (m : MM) : m.le m := ⟨List.prefix_refl _, rfl⟩
theorem MM.le.trans {a b c : MM} (x : a.le b) (y : b.le c) : a.le c := ⟨x.1.trans y.1, x.2.trans y.2⟩

/-- a tuple that is followed -/
def TupAt (H : Hp) (a : Addr) (vs : List V) : Prop := H a = some (.tup vs)
theorem TupAt.sq {K : PySem.W.Frag} {H : Hp} {a : Addr} {vs : List V} (h : TupAt H a vs) : SqT K H a vs := .inl (.inl h)
mutual
inductive Rep (K : PySem.W.Frag) (H : Hp) (m : MM) : Dt → V → Prop
  | non : Rep K H m .non .non
  | bl (b : Bool) : Rep K H m (.bl b) (.bl b)
  | int (i : Int) : Rep K H m (.int i) (.int i)
  | str (x : Str) : Rep K H m (.str x) (.str x)
  | tup {a : Addr} {vs : List V} {ds : List Dt} : TupAt H a vs → Reps K H m ds vs → Rep K H m (.tup ds) (.ref a)
  | lst {a : Addr} {vs : List V} {ds : List Dt} : H a = some (.lst vs) → Reps K H m ds vs → Rep K H m (.lst ds) (.ref a)
  | scr {a : Addr} {ns : List Int} : SqL K H a (ns.map V.int) → Rep K H m (.scr ns) (.ref a)
  | ptr {k : Nat} {a : Addr} : m.m[k]? = some a → Rep K H m (.ptr k) (.ref a)
  | ty (n : String) : Rep K H m (.ty n) (.ty n)
  | rf (a : Addr) : Rep K H m (.rf a) (.ref a)
  | exc {n : Str} {a C : Addr} {oe : Obj} {u : HO} : PySem.W.nsIn K mainGlobals n = some (some (.ref C)) → H a = some (.frz oe u) → Zc (.ref C) none oe → (∃ vs, oe.data = .fields vs) → Rep K H m (.exc n) (.ref a)
  | cls {n : Str} {C : Addr} : PySem.W.nsIn K mainGlobals n = some (some (.ref C)) → Rep K H m (.cls n) (.ref C)
inductive Reps (K : PySem.W.Frag) (H : Hp) (m : MM) : List Dt → List V → Prop
  | nil : Reps K H m [] []
  | cons {d : Dt} {v : V} {ds : List Dt} {vs : List V} : Rep K H m d v → Reps K H m ds vs → Reps K H m (d :: ds) (v :: vs)
end

def Ext (H H' : Hp) : Prop := ∀ a o, H a = some o → H' a = some o
theorem Ext.refl (H : Hp) : Ext H H := fun _ _ h => h
theorem Ext.trans {H H1 H2 : Hp} (a : Ext H H1) (b : Ext H1 H2) : Ext H H2 := fun x o h => b x o (a x o h)
theorem Ext.rd {H H' : Hp} {a : Addr} {u : HO} (e : Ext H H') (h : Rd H a u) : Rd H' a u := by
  rcases h with h | ⟨o, h⟩
  · exact Or.inl (e a _ h)
  · exact Or.inr ⟨o, e a _ h⟩
theorem Ext.sqT {K : PySem.W.Frag} {H H' : Hp} {a : Addr} {xs : List V} (e : Ext H H') (h : SqT K H a xs) : SqT K H' a xs := by
  rcases h with h | h
  · exact Or.inl (e.rd h)
  · exact Or.inr h
theorem Ext.sqL {K : PySem.W.Frag} {H H' : Hp} {a : Addr} {xs : List V} (e : Ext H H') (h : SqL K H a xs) : SqL K H' a xs := by
  rcases h with h | h
  · exact Or.inl (e.rd h)
  · exact Or.inr h

theorem nodupIx {α : Type} {N : List α} (hN : N.Nodup) {i j : Nat} {x : α} (a : N[i]? = some x) (b : N[j]? = some x) : i = j := by
  obtain ⟨h1, e1⟩ := List.getElem?_eq_some_iff.mp a
  obtain ⟨h2, e2⟩ := List.getElem?_eq_some_iff.mp b
  exact (List.getElem_inj hN).mp (e1.trans e2.symm)
theorem pre_get {α : Type} {m m' : List α} (p : m <+: m') {k : Nat} {a : α} (h : m[k]? = some a) : m'[k]? = some a := by
  obtain ⟨l, rfl⟩ := p
  rw [List.getElem?_append_left (List.getElem?_eq_some_iff.mp h).1]
  exact h

section
variable {K : PySem.W.Frag} {H H' : Hp} {m m' : MM}
mutual
theorem Rep.mono (e : Ext H H') (p : m.m <+: m'.m) : ∀ (d : Dt) (v : V), Rep K H m d v → Rep K H' m' d v
  | .non, _, h => by cases h; exact .non
  | .bl b, _, h => by cases h; exact .bl b
  | .int i, _, h => by cases h; exact .int i
  | .str x, _, h => by cases h; exact .str x
  | .tup ds, _, h => by
    cases h with
    | tup h1 h2 => exact .tup (e _ _ h1) (Reps.mono e p ds _ h2)
  | .lst ds, _, h => by
    cases h with
    | lst h1 h2 => exact .lst (e _ _ h1) (Reps.mono e p ds _ h2)
  | .scr ns, _, h => by
    cases h with
    | scr h1 => exact .scr (e.sqL h1)
  | .ptr k, _, h => by
    cases h with
    | ptr h1 => exact .ptr (pre_get p h1)
  | .ty n, _, h => by cases h; exact .ty n
  | .rf a, _, h => by cases h; exact .rf a
  | .exc n, _, h => by
    cases h with
    | exc h1 h2 h3 h4 => exact .exc h1 (e _ _ h2) h3 h4
  | .cls n, _, h => by
    cases h with
    | cls h1 => exact .cls h1
theorem Reps.mono (e : Ext H H') (p : m.m <+: m'.m) : ∀ (ds : List Dt) (vs : List V), Reps K H m ds vs → Reps K H' m' ds vs
  | [], _, h => by cases h; exact .nil
  | d :: ds, _, h => by
    cases h with
    | cons h1 h2 => exact .cons (Rep.mono e p d _ h1) (Reps.mono e p ds _ h2)
end
end
section
variable {K : PySem.W.Frag} {H H' : Hp} {m m' : MM}
theorem Reps.length : ∀ {ds : List Dt} {vs : List V}, Reps K H m ds vs → ds.length = vs.length
  | _, _, .nil => rfl
  | _, _, .cons _ t => by rw [List.length_cons, List.length_cons, Reps.length t]
theorem Reps.get : ∀ {ds : List Dt} {vs : List V} {i : Nat} {d : Dt}, Reps K H m ds vs → ds[i]? = some d → ∃ v, vs[i]? = some v ∧ Rep K H m d v
  | _, _, _, _, .nil, e => by simp at e
  | _, _, 0, _, .cons r _, e => by simp at e; subst e; exact ⟨_, rfl, r⟩
  | _, _, i + 1, x, .cons _ t, e => by
    obtain ⟨u, h1, h2⟩ := Reps.get (i := i) (d := x) t (by simpa using e)
    exact ⟨u, by simpa using h1, h2⟩
theorem Reps.getV : ∀ {ds : List Dt} {vs : List V} {i : Nat} {v : V}, Reps K H m ds vs → vs[i]? = some v → ∃ d, ds[i]? = some d ∧ Rep K H m d v
  | _, _, _, _, .nil, e => by simp at e
  | _, _, 0, _, .cons r _, e => by simp at e; subst e; exact ⟨_, rfl, r⟩
  | _, _, i + 1, x, .cons _ t, e => by
    obtain ⟨u, h1, h2⟩ := Reps.getV (i := i) (v := x) t (by simpa using e)
    exact ⟨u, by simpa using h1, h2⟩
theorem Reps.append : ∀ {ds es : List Dt} {vs us : List V}, Reps K H m ds vs → Reps K H m es us → Reps K H m (ds ++ es) (vs ++ us)
  | _, _, _, _, .nil, t => t
  | _, _, _, _, .cons r s, t => .cons r (Reps.append s t)
theorem Reps.set {d : Dt} {v : V} (r : Rep K H m d v) : ∀ {ds : List Dt} {vs : List V} (i : Nat), Reps K H m ds vs → Reps K H m (ds.set i d) (vs.set i v)
  | _, _, _, .nil => .nil
  | _, _, 0, .cons _ t => .cons r t
  | _, _, i + 1, .cons q t => .cons q (Reps.set r i t)
theorem Reps.take : ∀ {ds : List Dt} {vs : List V} (n : Nat), Reps K H m ds vs → Reps K H m (ds.take n) (vs.take n)
  | _, _, 0, _ => .nil
  | _, _, _ + 1, .nil => .nil
  | _, _, n + 1, .cons r t => .cons r (Reps.take n t)
theorem Reps.drop : ∀ {ds : List Dt} {vs : List V} (n : Nat), Reps K H m ds vs → Reps K H m (ds.drop n) (vs.drop n)
  | _, _, 0, r => r
  | _, _, _ + 1, .nil => .nil
  | _, _, n + 1, .cons _ t => Reps.drop n t
theorem Reps.reverse : ∀ {ds : List Dt} {vs : List V}, Reps K H m ds vs → Reps K H m ds.reverse vs.reverse
  | _, _, .nil => .nil
  | _, _, .cons r t => by
    rw [List.reverse_cons, List.reverse_cons]
    exact Reps.append (Reps.reverse t) (.cons r .nil)
theorem Reps.one {d : Dt} {vs : List V} (h : Reps K H m [d] vs) : ∃ v, vs = [v] ∧ Rep K H m d v := by
  cases h with
  | cons r t => cases t; exact ⟨_, rfl, r⟩
theorem Reps.two {d e : Dt} {vs : List V} (h : Reps K H m [d, e] vs) : ∃ v u, vs = [v, u] ∧ Rep K H m d v ∧ Rep K H m e u := by
  cases h with
  | cons r t =>
    cases t with
    | cons r2 t => cases t; exact ⟨_, _, rfl, r, r2⟩
theorem Reps.ints : ∀ {ns : List Int} {vs : List V}, Reps K H m (ns.map Dt.int) vs → vs = ns.map V.int
  | [], _, h => by cases h; rfl
  | n :: ns, _, h => by
    cases h with
    | cons r t =>
      cases r
      rw [Reps.ints t]
      rfl
theorem Reps.bls : ∀ {ns : List Bool} {vs : List V}, Reps K H m (ns.map Dt.bl) vs → vs = ns.map V.bl
  | [], _, h => by cases h; rfl
  | n :: ns, _, h => by
    cases h with
    | cons r t =>
      cases r
      rw [Reps.bls t]
      rfl
theorem Reps.strs : ∀ {ns : List Str} {vs : List V}, Reps K H m (ns.map Dt.str) vs → vs = ns.map V.str
  | [], _, h => by cases h; rfl
  | n :: ns, _, h => by
    cases h with
    | cons r t =>
      cases r
      rw [Reps.strs t]
      rfl
theorem Reps.of_ints : ∀ (ns : List Int), Reps K H m (ns.map Dt.int) (ns.map V.int)
  | [] => .nil
  | n :: ns => .cons (.int n) (Reps.of_ints ns)
theorem Reps.of_strs : ∀ (ns : List Str), Reps K H m (ns.map Dt.str) (ns.map V.str)
  | [] => .nil
  | n :: ns => .cons (.str n) (Reps.of_strs ns)
end

/-! ## the heap without what may change -/
def hid (H : Hp) (m : MM) : Hp := fun a => if m.has a then none else H a
theorem hid_some {H : Hp} {m : MM} {a : Addr} {o : HO} : hid H m a = some o ↔ ¬ m.has a ∧ H a = some o := by
  simp only [hid]
  by_cases h : m.has a
  · simp [h]
  · simp [h]
theorem hid_ext (H : Hp) (m : MM) : Ext (hid H m) H := fun _ _ h => (hid_some.mp h).2
theorem hid_none {H : Hp} {m : MM} {a : Addr} (h : H a = none) : hid H m a = none := by
  simp [hid, h]
def Stp (H : Hp) (m : MM) (H' : Hp) (m' : MM) : Prop := m.le m' ∧ Ext (hid H m) (hid H' m') ∧ ∀ a ∈ m.g, H' a = H a
theorem Stp.refl (H : Hp) (m : MM) : Stp H m H m := ⟨MM.le_refl _, Ext.refl _, fun _ _ => rfl⟩
theorem Stp.trans {H H1 H2 : Hp} {m m1 m2 : MM} (a : Stp H m H1 m1) (b : Stp H1 m1 H2 m2) : Stp H m H2 m2 := ⟨a.1.trans b.1, a.2.1.trans b.2.1, fun x hx => (b.2.2 x (by rw [← a.1.2]; exact hx)).trans (a.2.2 x hx)⟩

inductive MO where
  | lst (xs : List Dt)
  | dct (kvs : List (Key × Dt))
  | dcs (ks : List (List Int))
  | ins (C : Addr) (fs : List (Str × Dt))
abbrev Sto := List MO
def MOk (K : PySem.W.Frag) (H : Hp) (m : MM) (a : Addr) : MO → Prop
  | .lst ds => ∃ vs, H a = some (.lst vs) ∧ Reps K (hid H m) m ds vs
  | .dcs ks => H a = some (.dT (ks.map fun k => (k.map Sum.inl, V.bl true)))
  | .dct kvs => ∃ vs : List V, H a = some (.dK ((kvs.map (·.1)).zip vs)) ∧ Reps K (hid H m) m (kvs.map (·.2)) vs
  | .ins C fs => ∃ (dx : Addr) (vs : List V), H a = some (.ins C dx ((fs.map (·.1)).zip vs)) ∧ Reps K (hid H m) m (fs.map (·.2)) vs
structure StR (K : PySem.W.Frag) (H : Hp) (m : MM) (st : Sto) : Prop where
  nd : m.m.Nodup
  len : m.m.length = st.length
  ok : ∀ (k : Nat) (a : Addr) (o : MO), m.m[k]? = some a → st[k]? = some o → MOk K H m a o
  gh : ∀ a ∈ m.g, (∃ xs : List V, H a = some (.lst xs)) ∧ a ∉ m.m
section
variable {K : PySem.W.Frag} {H H' : Hp} {m m' : MM} {st st' : Sto} {p a : Addr} {o : HO} {d : Dt} {v : V} {ds : List Dt} {vs : List V}
theorem Stp.rep (s : Stp H m H' m') (h : Rep K (hid H m) m d v) : Rep K (hid H' m') m' d v := Rep.mono s.2.1 s.1.1 d v h
theorem Stp.reps (s : Stp H m H' m') (h : Reps K (hid H m) m ds vs) : Reps K (hid H' m') m' ds vs := Reps.mono s.2.1 s.1.1 ds vs h
/-- .. whatever lies beside the store -/
def StpG (H : Hp) (m : MM) (H' : Hp) (m' : MM) : Prop := m.m <+: m'.m ∧ Ext (hid H m) (hid H' m')
theorem Stp.toG (s : Stp H m H' m') : StpG H m H' m' := ⟨s.1.1, s.2.1⟩
theorem StpG.then {H2 : Hp} {m2 : MM} (s : StpG H m H' m') (t : Stp H' m' H2 m2) : StpG H m H2 m2 := ⟨s.1.trans t.1.1, s.2.trans t.2.1⟩
theorem StpG.rep (s : StpG H m H' m') (h : Rep K (hid H m) m d v) : Rep K (hid H' m') m' d v := Rep.mono s.2 s.1 d v h
theorem StpG.reps (s : StpG H m H' m') (h : Reps K (hid H m) m ds vs) : Reps K (hid H' m') m' ds vs := Reps.mono s.2 s.1 ds vs h
theorem StR.some (S : StR K H m st) (h : m.has a) : ∃ o, H a = some o := by
  rcases h with h | h
  · obtain ⟨k, hk, e⟩ := List.mem_iff_getElem.mp h
    have e1 : m.m[k]? = Option.some a := by rw [List.getElem?_eq_getElem hk, e]
    have hk2 : k < st.length := by rw [← S.len]; exact hk
    have q := S.ok k a st[k] e1 (List.getElem?_eq_getElem hk2)
    cases hq : st[k] with
    | lst ds => rw [hq] at q; obtain ⟨vs, h, _⟩ := q; exact ⟨_, h⟩
    | dct ds => rw [hq] at q; obtain ⟨vs, h, _⟩ := q; exact ⟨_, h⟩
    | dcs ds => rw [hq] at q; exact ⟨_, q⟩
    | ins C ds => rw [hq] at q; obtain ⟨_, vs, h, _⟩ := q; exact ⟨_, h⟩
  · exact let ⟨⟨_, e⟩, _⟩ := S.gh a h; ⟨_, e⟩
theorem StR.fresh (S : StR K H m st) (h : H p = none) : ¬ m.has p := fun q => by
  obtain ⟨o, e⟩ := S.some q
  rw [h] at e; cases e
theorem hid_upd_new (hp : ¬ m.has p) : hid (upd H p o) m = upd (hid H m) p o := by
  funext b
  simp only [hid, upd]
  by_cases hb : b = p
  · subst hb; simp [hp]
  · simp [hb]
theorem hid_upd_mut (hp : m.has p) : hid (upd H p o) m = hid H m := by
  funext b
  simp only [hid, upd]
  by_cases hm : m.has b
  · simp [hm]
  · have : b ≠ p := fun e => hm (by rw [e]; exact hp)
    simp [hm, this]
theorem hid_upd_app (hn : H p = none) : hid (upd H p o) (m.add p) = hid H m := by
  funext b
  simp only [hid, upd, MM.has, MM.add]
  by_cases hb : b = p
  · subst hb; simp [hn]
  · simp [hb]
theorem ext_upd (h : H p = none) : Ext H (upd H p o) := fun b x e => by
  rw [upd_ne (ne_of_none e h)]; exact e
/-- a new object that stays as it is -/
theorem Stp.new (S : StR K H m st) (h : H p = none) : Stp H m (upd H p o) m := ⟨MM.le_refl _, by
  rw [hid_upd_new (S.fresh h)]
  exact ext_upd (hid_none h), fun a ha => by
  obtain ⟨⟨u, e⟩, _⟩ := S.gh a ha
  rw [upd_ne (ne_of_none e h)]⟩
theorem MOk.mono {m0 : MO} (q : Stp H m H' m') (ha : ∀ o, H a = Option.some o → H' a = Option.some o) (h : MOk K H m a m0) : MOk K H' m' a m0 := by
  cases m0 with
  | lst ds => obtain ⟨vs, h1, h2⟩ := h; exact ⟨vs, ha _ h1, q.reps h2⟩
  | dct kvs => obtain ⟨vs, h1, h2⟩ := h; exact ⟨vs, ha _ h1, q.reps h2⟩
  | dcs ks => exact ha _ h
  | ins C fs => obtain ⟨dx, vs, h1, h2⟩ := h; exact ⟨dx, vs, ha _ h1, q.reps h2⟩
theorem StR.new (S : StR K H m st) (h : H p = none) : StR K (upd H p o) m st :=
  ⟨S.nd, S.len, fun k a x e1 e2 => (S.ok k a x e1 e2).mono (Stp.new S h) fun u e => by rw [upd_ne (ne_of_none e h)]; exact e, fun a ha => by
    obtain ⟨⟨u, e⟩, hm⟩ := S.gh a ha
    exact ⟨⟨u, by rw [upd_ne (ne_of_none e h)]; exact e⟩, hm⟩⟩
/-- a new object that may change -/
theorem Stp.newM (S : StR K H m st) (h : H p = none) : Stp H m (upd H p o) (m.add p) := ⟨⟨⟨[p], rfl⟩, rfl⟩, by
  rw [hid_upd_app h]
  exact Ext.refl _, fun a ha => by
  obtain ⟨⟨u, e⟩, _⟩ := S.gh a ha
  rw [upd_ne (ne_of_none e h)]⟩
theorem StR.newM {mo : MO} (S : StR K H m st) (h : H p = none) (hm : MOk K (upd H p o) (m.add p) p mo) : StR K (upd H p o) (m.add p) (st ++ [mo]) := by
  have hp := S.fresh h
  refine ⟨?_, by simp only [MM.add, List.length_append, S.len]; rfl, fun k a x e1 e2 => ?_, fun a ha => ?_⟩
  · show (m.m ++ [p]).Nodup
    rw [List.nodup_append]
    refine ⟨S.nd, by simp, fun a ha b hb => ?_⟩
    simp at hb
    subst hb
    exact fun e => hp (.inl (e ▸ ha))
  · simp only [MM.add] at e1
    by_cases hk : k < m.m.length
    · rw [List.getElem?_append_left hk] at e1
      rw [List.getElem?_append_left (by rw [← S.len]; exact hk)] at e2
      exact (S.ok k a x e1 e2).mono (Stp.newM S h) fun u e => by rw [upd_ne (ne_of_none e h)]; exact e
    · rw [List.getElem?_append_right (by omega)] at e1
      rw [List.getElem?_append_right (by rw [← S.len]; omega), ← S.len] at e2
      have hk0 : k - m.m.length = 0 := by
        have := (List.getElem?_eq_some_iff.mp e1).1
        simp at this; omega
      rw [hk0] at e1 e2
      simp at e1 e2
      subst e1 e2
      exact hm
  · obtain ⟨⟨u, e⟩, hn⟩ := S.gh a ha
    refine ⟨⟨u, by rw [upd_ne (ne_of_none e h)]; exact e⟩, fun q => ?_⟩
    simp only [MM.add, List.mem_append, List.mem_singleton] at q
    rcases q with q | q
    · exact hn q
    · subst q; rw [h] at e; cases e
/-- an object that may change is changed -/
theorem Stp.mut {k : Nat} (S : StR K H m st) (hk : m.m[k]? = Option.some p) : Stp H m (upd H p o) m := ⟨MM.le_refl _, by
  rw [hid_upd_mut (.inl (List.mem_iff_getElem?.mpr ⟨k, hk⟩))]
  exact Ext.refl _, fun a ha => by
  rw [upd_ne (fun e => (S.gh a ha).2 (by rw [e]; exact List.mem_iff_getElem?.mpr ⟨k, hk⟩))]⟩
theorem StR.mut {mo : MO} {k : Nat} (S : StR K H m st) (hk : m.m[k]? = Option.some p) (hm : MOk K (upd H p o) m p mo) : StR K (upd H p o) m (st.set k mo) := by
  refine ⟨S.nd, by rw [List.length_set]; exact S.len, fun j a x e1 e2 => ?_, fun a ha => ?_⟩
  · by_cases hj : k = j
    · subst hj
      rw [hk] at e1; cases e1
      have hl : k < st.length := by rw [← S.len]; exact (List.getElem?_eq_some_iff.mp hk).1
      rw [List.getElem?_set_self hl] at e2; cases e2
      exact hm
    · rw [List.getElem?_set_ne hj] at e2
      have hne : a ≠ p := fun e => hj (nodupIx S.nd hk (by rw [← e]; exact e1))
      exact (S.ok j a x e1 e2).mono (Stp.mut S hk) fun u e => by rw [upd_ne hne]; exact e
  · obtain ⟨⟨u, e⟩, hn⟩ := S.gh a ha
    exact ⟨⟨u, by rw [upd_ne (fun q => hn (by rw [q]; exact List.mem_iff_getElem?.mpr ⟨k, hk⟩))]; exact e⟩, hn⟩
/-! ### an object beside the store -/
def MM.gh (m : MM) (D : Addr) : MM := ⟨m.m, D :: m.g⟩
theorem hid_gh_upd (hn : H p = none) : hid (upd H p o) (m.gh p) = hid H m := by
  funext b
  simp only [hid, upd, MM.has, MM.gh]
  by_cases hb : b = p
  · subst hb; simp [hn]
  · simp [hb]
theorem ext_gh : Ext (hid H (m.gh p)) (hid H m) := fun a o e => by
  obtain ⟨h1, h2⟩ := hid_some.mp e
  refine hid_some.mpr ⟨fun q => h1 ?_, h2⟩
  rcases q with q | q
  · exact .inl q
  · exact .inr (List.mem_cons_of_mem _ q)
theorem reps_gh {Hh : Hp} (h : Reps K Hh m ds vs) : Reps K Hh (m.gh p) ds vs := Reps.mono (m := m) (m' := m.gh p) (Ext.refl _) (List.prefix_refl _) _ _ h
theorem reps_ungh (h : Reps K (hid H (m.gh p)) (m.gh p) ds vs) : Reps K (hid H m) m ds vs := Reps.mono (m := m.gh p) (m' := m) (ext_gh (m := m) (p := p)) (List.prefix_refl _) _ _ h
theorem rep_ungh (h : Rep K (hid H (m.gh p)) (m.gh p) d v) : Rep K (hid H m) m d v := Rep.mono (m := m.gh p) (m' := m) (ext_gh (m := m) (p := p)) (List.prefix_refl _) _ _ h
theorem StR.ghIn {xs : List V} (S : StR K H m st) (h : H p = none) : StR K (upd H p (.lst xs)) (m.gh p) st :=
  ⟨S.nd, S.len, fun k a x e1 e2 => by
    have q := S.ok k a x e1 e2
    have ha : ∀ u, H a = Option.some u → upd H p (.lst xs) a = Option.some u := fun u e => by rw [upd_ne (ne_of_none e h)]; exact e
    cases x with
    | lst ds => obtain ⟨vs, h1, h2⟩ := q; exact ⟨vs, ha _ h1, by rw [hid_gh_upd h]; exact reps_gh h2⟩
    | dct kvs => obtain ⟨vs, h1, h2⟩ := q; exact ⟨vs, ha _ h1, by rw [hid_gh_upd h]; exact reps_gh h2⟩
    | dcs ks => exact ha _ q
    | ins C fs => obtain ⟨dx, vs, h1, h2⟩ := q; exact ⟨dx, vs, ha _ h1, by rw [hid_gh_upd h]; exact reps_gh h2⟩,
   fun a ha => by
    rcases List.mem_cons.mp ha with e | ha
    · subst e
      exact ⟨⟨xs, upd_same⟩, fun q => S.fresh h (.inl q)⟩
    · obtain ⟨⟨u, e⟩, hn⟩ := S.gh a ha
      exact ⟨⟨u, by rw [upd_ne (ne_of_none e h)]; exact e⟩, hn⟩⟩
theorem StR.ghOut (S : StR K H (m.gh p) st) : StR K H m st :=
  ⟨S.nd, S.len, fun k a x e1 e2 => by
    have q := S.ok k a x e1 e2
    cases x with
    | lst ds => obtain ⟨vs, h1, h2⟩ := q; exact ⟨vs, h1, reps_ungh h2⟩
    | dct kvs => obtain ⟨vs, h1, h2⟩ := q; exact ⟨vs, h1, reps_ungh h2⟩
    | dcs ks => exact q
    | ins C fs => obtain ⟨dx, vs, h1, h2⟩ := q; exact ⟨dx, vs, h1, reps_ungh h2⟩,
   fun a ha => S.gh a (List.mem_cons_of_mem _ ha)⟩
/-- the object beside the store is written -/
theorem hid_upd_gh : hid (upd H p o) (m.gh p) = hid H (m.gh p) := hid_upd_mut (.inr List.mem_cons_self)
theorem StR.ghUpd {xs : List V} (S : StR K H (m.gh p) st) : StR K (upd H p (.lst xs)) (m.gh p) st :=
  ⟨S.nd, S.len, fun k a x e1 e2 => by
    have q := S.ok k a x e1 e2
    have hp : a ≠ p := fun e => (S.gh p List.mem_cons_self).2 (by rw [← e]; exact List.mem_iff_getElem?.mpr ⟨k, e1⟩)
    have ha : ∀ u, H a = Option.some u → upd H p (.lst xs) a = Option.some u := fun u e => by rw [upd_ne hp]; exact e
    cases x with
    | lst ds => obtain ⟨vs, h1, h2⟩ := q; exact ⟨vs, ha _ h1, by rw [hid_upd_gh]; exact h2⟩
    | dct kvs => obtain ⟨vs, h1, h2⟩ := q; exact ⟨vs, ha _ h1, by rw [hid_upd_gh]; exact h2⟩
    | dcs ks => exact ha _ q
    | ins C fs => obtain ⟨dx, vs, h1, h2⟩ := q; exact ⟨dx, vs, ha _ h1, by rw [hid_upd_gh]; exact h2⟩,
   fun a ha => by
    refine ⟨?_, (S.gh a ha).2⟩
    by_cases e : a = p
    · exact ⟨xs, by rw [e]; exact upd_same⟩
    · obtain ⟨u, q⟩ := (S.gh a ha).1
      exact ⟨u, by rw [upd_ne e]; exact q⟩⟩
end

/-! ## what a list is, by the store -/
def look (st : Sto) : Dt → Option (List Dt)
  | .lst ds => some ds
  | .ptr k => match st[k]? with
    | some (.lst ds) => some ds
    | _ => none
  | _ => none
section
variable {K : PySem.W.Frag} {H H' : Hp} {m m' : MM} {st st' : Sto} {p a : Addr} {o : HO} {d : Dt} {v : V} {ds : List Dt} {vs : List V}
theorem look_ok (S : StR K H m st) (r : Rep K (hid H m) m d v) (h : look st d = some ds) : ∃ a vs, v = .ref a ∧ H a = some (.lst vs) ∧ Reps K (hid H m) m ds vs := by
  cases r with
  | lst h1 h2 =>
    have e : _ = ds := Option.some.inj h
    subst e
    exact ⟨_, _, rfl, hid_ext _ _ _ _ h1, h2⟩
  | @ptr k a h1 =>
    have hk : k < st.length := by rw [← S.len]; exact (List.getElem?_eq_some_iff.mp h1).1
    simp only [look, List.getElem?_eq_getElem hk] at h
    cases hq : st[k] with
    | lst xs =>
      rw [hq] at h
      have e : xs = ds := Option.some.inj h
      subst e
      obtain ⟨vs, h3, h4⟩ := S.ok k a _ h1 (by rw [List.getElem?_eq_getElem hk, hq])
      exact ⟨a, vs, rfl, h3, h4⟩
    | dct xs => rw [hq] at h; cases h
    | dcs xs => rw [hq] at h; cases h
    | ins C xs => rw [hq] at h; cases h
  | _ => cases h
end
end PD

namespace PD
open PySem PySem.Spec PyProof.Rows L2

/-! ## denotations -/
abbrev En := List (Option Dt)
abbrev DE := En → Sto → Option (Dt × Sto)
abbrev DA := En → Sto → Option (List Dt × Sto)
abbrev DT := En → Sto → Option (Bool × Sto)
inductive Out where
  | nx (e : En) (s : Sto) | rt (d : Dt) (s : Sto) | bk (e : En) (s : Sto) | ct (e : En) (s : Sto)
abbrev DS := En → Sto → Option Out
abbrev DG := Sto → Dt → En → Option En
abbrev DF := List Dt → Sto → Option (Dt × Sto)

def EnR (K : PySem.W.Frag) (H : Hp) (m : MM) (ev : En) (σ : L2.St) : Prop :=
  ev.length = σ.length ∧ ∀ (i : Nat) (d : Dt), ev[i]? = some (some d) → ∃ v, σ[i]? = some (some v) ∧ Rep K (hid H m) m d v
theorem EnR.stp {K : PySem.W.Frag} {H H' : Hp} {m m' : MM} {ev : En} {σ : L2.St} (e : EnR K H m ev σ) (s : Stp H m H' m') : EnR K H' m' ev σ :=
  ⟨e.1, fun i d h => let ⟨v, h1, h2⟩ := e.2 i d h; ⟨v, h1, s.rep h2⟩⟩
theorem EnR.set {K : PySem.W.Frag} {H : Hp} {m : MM} {ev : En} {σ : L2.St} {d : Dt} {v : V} (e : EnR K H m ev σ) (r : Rep K (hid H m) m d v) (i : Nat) : EnR K H m (ev.set i (some d)) (σ.set i (some v)) := by
  refine ⟨by rw [List.length_set, List.length_set]; exact e.1, fun j x h => ?_⟩
  by_cases hj : i = j
  · subst hj
    have hl : i < ev.length := by
      have := (List.getElem?_eq_some_iff.mp h).1
      rwa [List.length_set] at this
    rw [List.getElem?_set_self hl] at h
    cases h
    exact ⟨v, by rw [List.getElem?_set_self (by rw [← e.1]; exact hl)], r⟩
  · rw [List.getElem?_set_ne hj] at h ⊢
    exact e.2 j x h

section
variable (K : PySem.W.Frag)
def SE (t : TE) (den : DE) : Prop := ∀ (σ : L2.St) (H : Hp) (m : MM) (ev : En) (st : Sto) (d : Dt) (st' : Sto), StR K H m st → EnR K H m ev σ → den ev st = some (d, st') →
  ∀ Q : VK, (∀ v H' m', Stp H m H' m' → StR K H' m' st' → Rep K (hid H' m') m' d v → Q v H') → t σ H Q
def SA (t : TA) (den : DA) : Prop := ∀ (σ : L2.St) (H : Hp) (m : MM) (ev : En) (st : Sto) (d : List Dt) (st' : Sto), StR K H m st → EnR K H m ev σ → den ev st = some (d, st') →
  ∀ Q : List V → Hp → Prop, (∀ v H' m', Stp H m H' m' → StR K H' m' st' → Reps K (hid H' m') m' d v → Q v H') → t σ H Q
def ST (t : TT) (den : DT) : Prop := ∀ (σ : L2.St) (H : Hp) (m : MM) (ev : En) (st : Sto) (d : Bool) (st' : Sto), StR K H m st → EnR K H m ev σ → den ev st = some (d, st') →
  ∀ Q : Bool → Hp → Prop, (∀ H' m', Stp H m H' m' → StR K H' m' st' → Q d H') → t σ H Q
/-- what is wanted behind an outcome -/
def OutOk (H : Hp) (m : MM) (D : Ends) : Out → Prop
  | .nx ev st => ∀ σ' H' m', Stp H m H' m' → StR K H' m' st → EnR K H' m' ev σ' → D.nx σ' H'
  | .bk ev st => ∀ σ' H' m', Stp H m H' m' → StR K H' m' st → EnR K H' m' ev σ' → D.bk σ' H'
  | .ct ev st => ∀ σ' H' m', Stp H m H' m' → StR K H' m' st → EnR K H' m' ev σ' → D.ct σ' H'
  | .rt d st => ∀ v H' m', Stp H m H' m' → StR K H' m' st → Rep K (hid H' m') m' d v → D.rt v H'
def SS (t : TS) (den : DS) : Prop := ∀ (σ : L2.St) (H : Hp) (m : MM) (ev : En) (st : Sto) (o : Out), StR K H m st → EnR K H m ev σ → den ev st = some o →
  ∀ D : Ends, OutOk K H m D o → t D σ H
/-- targets; js: the slots that are stored -/
def SG (g : TG) (tg : DG) (js : List Nat) : Prop := ∀ (v : V) (σ : L2.St) (H : Hp) (m : MM) (ev : En) (st : Sto) (d : Dt) (ev' : En), StR K H m st → EnR K H m ev σ → Rep K (hid H m) m d v → tg st d ev = some ev' →
  ∀ Q : L2.St → Hp → Prop, (∀ σ', EnR K H m ev' σ' → (∀ j, j ∉ js → σ'[j]? = σ[j]?) → σ'.length = σ.length → Q σ' H) → g v σ H Q
end
theorem OutOk.stp {K : PySem.W.Frag} {H H1 : Hp} {m m1 : MM} {D : Ends} {o : Out} (s : Stp H m H1 m1) (h : OutOk K H m D o) : OutOk K H1 m1 D o := by
  cases o with
  | nx ev st => exact fun σ' H' m' a b c => h σ' H' m' (s.trans a) b c
  | bk ev st => exact fun σ' H' m' a b c => h σ' H' m' (s.trans a) b c
  | ct ev st => exact fun σ' H' m' a b c => h σ' H' m' (s.trans a) b c
  | rt d st => exact fun σ' H' m' a b c => h σ' H' m' (s.trans a) b c

def PD (X : Cx) (e : Expr) (den : DE) : Prop := ∃ t, PE X e t ∧ SE X.K t den
def PDA (X : Cx) (es : List Expr) (den : DA) : Prop := ∃ t, PA X es t ∧ SA X.K t den
def PDT (X : Cx) (e : Expr) (den : DT) : Prop := ∃ t, PT X e t ∧ ST X.K t den
/-- and, or as tests, whatever their whole is -/
def PDW (X : Cx) (e : Expr) (den : DT) : Prop := ∃ t, PW X e t ∧ ST X.K t den
def PDS (X : Cx) (st : Stmt) (den : DS) : Prop := ∃ t, PS X st t ∧ SS X.K t den
def PDSs (X : Cx) (sts : List Stmt) (den : DS) : Prop := ∃ t, PSs X sts t ∧ SS X.K t den
def PDG (X : Cx) (tg : Expr) (den : DG) (js : List Nat) : Prop := ∃ t, PG X tg t ∧ SG X.K t den js
def PDGs (X : Cx) (tgs : List Expr) (den : Sto → List Dt → En → Option En) (js : List Nat) : Prop := ∃ t : TGs, PGs X tgs t ∧
  ∀ (vs : List V) (σ : L2.St) (H : Hp) (m : MM) (ev : En) (st : Sto) (ds : List Dt) (ev' : En), StR X.K H m st → EnR X.K H m ev σ → Reps X.K (hid H m) m ds vs → den st ds ev = some ev' →
    ∀ Q : L2.St → Hp → Prop, (∀ σ', EnR X.K H m ev' σ' → (∀ j, j ∉ js → σ'[j]? = σ[j]?) → σ'.length = σ.length → Q σ' H) → t vs σ H Q

/-! ## names, constants -/
def dVar (i : Nat) : DE := fun ev st => match ev[i]? with
  | some (some d) => some (d, st)
  | _ => none
def dC (d : Dt) : DE := fun _ st => some (d, st)
section
variable {X : Cx}
theorem pd_of {e : Expr} {t : TE} {den : DE} (h : PE X e t) (s : SE X.K t den) : PD X e den := ⟨t, h, s⟩
theorem pd_var (i : Nat) {x : Str} {pos : Pos} (hN : X.N[i]? = some x := by rfl) (hv : Vis X.env.scope x := by first | exact Or.inl rfl | exact Or.inr (Or.inl rfl) | exact Or.inr (Or.inr rfl)) (hd : (x == ("__debug__" : Str)) = false := by decide)
    (hcd : (x == ("__classdict__" : Str)) = false := by decide) : PD X (.Name x pos) (dVar i) := by
  refine ⟨_, pe_var hN hv hd hcd, fun σ H m ev st d st' S E h Q q => ?_⟩
  unfold dVar at h
  split at h
  · rename_i d' e
    cases h
    obtain ⟨v, e1, r⟩ := E.2 i _ e
    exact ⟨v, e1, q v H m (Stp.refl H m) S r⟩
  · cases h
theorem se_c {v : V} {d : Dt} (r : ∀ H m, Rep X.K H m d v) : SE X.K (tC v) (dC d) := fun σ H m ev st d' st' S E h Q q => by
  cases h
  exact q v H m (Stp.refl H m) S (r _ _)
theorem pd_int {i j pos} : PD X (.Constant (.int i) j pos) (dC (.int i)) := ⟨_, pe_int, se_c fun _ _ => .int i⟩
theorem pd_bl {i j pos} : PD X (.Constant (.bool i) j pos) (dC (.bl i)) := ⟨_, pe_bl, se_c fun _ _ => .bl i⟩
theorem pd_non {j pos} : PD X (.Constant .none j pos) (dC .non) := ⟨_, pe_non, se_c fun _ _ => .non⟩
theorem pd_str {i j pos} : PD X (.Constant (.str i) j pos) (dC (.str i)) := ⟨_, pe_str, se_c fun _ _ => .str i⟩
theorem pd_ty {x : Str} {n : String} {pos : Pos} (hg : Gl X x) (hm : X.mg x = none) (hv : bootBuiltins x = some (.type n)) (hn : x ≠ "__name__" := by decide) (hd : (x == ("__debug__" : Str)) = false := by decide) : PD X (.Name x pos) (dC (.ty n)) :=
  ⟨_, pe_bltn hg hm hv (v := .ty n) rfl hn hd, se_c fun _ _ => .ty n⟩
theorem pd_rf {x : Str} {a : Addr} {pos : Pos} (hg : Gl X x) (hm : X.mg x = some (.ref a)) (hd : (x == ("__debug__" : Str)) = false := by decide) : PD X (.Name x pos) (dC (.rf a)) :=
  ⟨_, pe_glob hg hm (v := .ref a) rfl hd, se_c fun _ _ => .rf a⟩
theorem pd_globInt {x : Str} {i : Int} {u : Value} {pos : Pos} (hg : Gl X x) (hm : X.mg x = some u) (r : RelV (.int i) u) (hd : (x == ("__debug__" : Str)) = false := by decide) : PD X (.Name x pos) (dC (.int i)) :=
  ⟨_, pe_glob hg hm r hd, se_c fun _ _ => .int i⟩
theorem pd_globStr {x : Str} {i : Str} {u : Value} {pos : Pos} (hg : Gl X x) (hm : X.mg x = some u) (r : RelV (.str i) u) (hd : (x == ("__debug__" : Str)) = false := by decide) : PD X (.Name x pos) (dC (.str i)) :=
  ⟨_, pe_glob hg hm r hd, se_c fun _ _ => .str i⟩

/-! ## operators by values -/
/-- a two-place operation: what it hands back, the store as it was -/
def RS (K : PySem.W.Frag) (r : R2) (g : Sto → Dt → Dt → Option Dt) : Prop := ∀ (H : Hp) (m : MM) (st : Sto) (d e z : Dt) (x y : V), StR K H m st → Rep K (hid H m) m d x → Rep K (hid H m) m e y → g st d e = some z →
  ∀ Q : VK, (∀ v H', Stp H m H' m → StR K H' m st → Rep K (hid H' m) m z v → Q v H') → r x y H Q
def dBin (g : Sto → Dt → Dt → Option Dt) (a b : DE) : DE := fun ev st => (a ev st).bind fun p => (b ev p.2).bind fun q => (g q.2 p.1 q.1).map fun z => (z, q.2)
theorem se_op {r : R2} {g : Sto → Dt → Dt → Option Dt} {ta tb : TE} {da db : DE} {K : PySem.W.Frag} (hr : RS K r g) (ha : SE K ta da) (hb : SE K tb db) : SE K (tOp r ta tb) (dBin g da db) := by
  intro σ H m ev st d st' S E h Q q
  unfold dBin at h
  obtain ⟨⟨x, st1⟩, h1, h⟩ := Option.bind_eq_some_iff.mp h
  obtain ⟨⟨y, st2⟩, h2, h⟩ := Option.bind_eq_some_iff.mp h
  obtain ⟨z, h3, h⟩ := Option.map_eq_some_iff.mp h
  cases h
  refine ha σ H m ev st x st1 S E h1 _ fun v1 H1 m1 s1 S1 r1 => ?_
  refine hb σ H1 m1 ev st1 y st2 S1 (E.stp s1) h2 _ fun v2 H2 m2 s2 S2 r2 => ?_
  exact hr H2 m2 st2 x y d v1 v2 S2 (s2.rep r1) r2 h3 _ fun v H' s3 S3 r3 => q v H' m2 ((s1.trans s2).trans s3) S3 r3
theorem pd_op {op : Operator} {r : R2} {g : Sto → Dt → Dt → Option Dt} {a b : Expr} {da db : DE} {pos : Pos} (ho : OpR X (binaryOp op) r) (hr : RS X.K r g) (ha : PD X a da) (hb : PD X b db) : PD X (.BinOp a op b pos) (dBin g da db) := by
  obtain ⟨ta, pa, sa⟩ := ha
  obtain ⟨tb, pb, sb⟩ := hb
  exact ⟨_, pe_op ho pa pb, se_op hr sa sb⟩
theorem pd_cmp {op : CmpOp} {r : R2} {g : Sto → Dt → Dt → Option Dt} {a b : Expr} {da db : DE} {pos : Pos} (ho : OpR X (compareOp op) r) (hr : RS X.K r g) (ha : PD X a da) (hb : PD X b db) (hm : behindInMarks op b = false) : PD X (.Compare a [op] [b] pos) (dBin g da db) := by
  obtain ⟨ta, pa, sa⟩ := ha
  obtain ⟨tb, pb, sb⟩ := hb
  exact ⟨_, pe_cmpR ho pa pb hm, se_op hr sa sb⟩
/-- a value that is a bool, as a test -/
def dB (a : DE) : DT := fun ev st => match a ev st with
  | some (.bl b, st1) => some (b, st1)
  | _ => none
theorem st_test {t : TE} {da : DE} {K : PySem.W.Frag} (ha : SE K t da) : ST K (tTest t) (dB da) := by
  intro σ H m ev st d st' S E h Q q
  unfold dB at h
  split at h
  · rename_i b st1 e
    cases h
    refine ha σ H m ev st _ _ S E e _ fun v1 H1 m1 s1 S1 r1 => ?_
    cases r1
    exact ⟨d, rfl, q H1 m1 s1 S1⟩
  · cases h
theorem st_B {t : TE} {da : DE} {K : PySem.W.Frag} (ha : SE K t da) : ST K (tB t) (dB da) := st_test ha
theorem pdt_cmp {op : CmpOp} {r : R2} {g : Sto → Dt → Dt → Option Dt} {a b : Expr} {da db : DE} {pos : Pos} (ho : OpR X (compareOp op) r) (hr : RS X.K r g) (ha : PD X a da) (hb : PD X b db) (hm : behindInMarks op b = false) : PDT X (.Compare a [op] [b] pos) (dB (dBin g da db)) := by
  obtain ⟨ta, pa, sa⟩ := ha
  obtain ⟨tb, pb, sb⟩ := hb
  exact ⟨_, pt_cmpR ho pa pb hm, st_test (se_op hr sa sb)⟩
theorem pdt_val {e : Expr} {de : DE} (h : PD X e de) (he : ∀ whole, isTrue e X.env whole = (do let v ← whole; standAt e.pos; holding [v] (truthy v)) := by intro _; rfl) : PDT X e (dB de) := by
  obtain ⟨t, p, s⟩ := h
  exact ⟨_, pt_val p he, st_B s⟩
/-- a < b < c -/
def dChain (g g' : Sto → Dt → Dt → Option Dt) (a b c : DE) : DE := fun ev st => (a ev st).bind fun p => (b ev p.2).bind fun q => match g q.2 p.1 q.1 with
  | some (.bl true) => (c ev q.2).bind fun r => (g' r.2 q.1 r.1).map fun z => (z, r.2)
  | some (.bl false) => some (.bl false, q.2)
  | _ => none
theorem se_chain {r r' : R2} {g g' : Sto → Dt → Dt → Option Dt} {ta tb tc : TE} {da db dc : DE} {K : PySem.W.Frag} (hr : RS K r g) (hr' : RS K r' g') (ha : SE K ta da) (hb : SE K tb db) (hc : SE K tc dc) : SE K (tChain r r' ta tb tc) (dChain g g' da db dc) := by
  intro σ H m ev st d st' S E h Q q
  unfold dChain at h
  obtain ⟨⟨x, st1⟩, h1, h⟩ := Option.bind_eq_some_iff.mp h
  obtain ⟨⟨y, st2⟩, h2, h⟩ := Option.bind_eq_some_iff.mp h
  refine ha σ H m ev st x st1 S E h1 _ fun v1 H1 m1 s1 S1 r1 => ?_
  refine hb σ H1 m1 ev st1 y st2 S1 (E.stp s1) h2 _ fun v2 H2 m2 s2 S2 r2 => ?_
  simp only at h
  split at h
  · rename_i hg
    obtain ⟨⟨z, st3⟩, h3, h⟩ := Option.bind_eq_some_iff.mp h
    obtain ⟨w, h4, h⟩ := Option.map_eq_some_iff.mp h
    cases h
    refine hr H2 m2 st2 x y _ v1 v2 S2 (s2.rep r1) r2 hg _ fun v H' s3 S3 r3 => ?_
    cases r3
    refine ⟨true, rfl, ?_⟩
    rw [if_pos rfl]
    refine hc σ H' m2 ev st2 z st3 S3 (E.stp ((s1.trans s2).trans s3)) h3 _ fun v3 H4 m4 s4 S4 r4 => ?_
    exact hr' H4 m4 st3 y z d v2 v3 S4 ((s3.trans s4).rep r2) r4 h4 _ fun v5 H5 s5 S5 r5 => q v5 H5 m4 ((((s1.trans s2).trans s3).trans s4).trans s5) S5 r5
  · rename_i hg
    cases h
    refine hr H2 m2 _ x y _ v1 v2 S2 (s2.rep r1) r2 hg _ fun v H' s3 S3 r3 => ?_
    cases r3
    refine ⟨false, rfl, ?_⟩
    rw [if_neg Bool.false_ne_true]
    exact q _ H' m2 ((s1.trans s2).trans s3) S3 (.bl false)
  · cases h
theorem pd_chain {op op' : CmpOp} {r r' : R2} {g g' : Sto → Dt → Dt → Option Dt} {a b c : Expr} {da db dc : DE} {pos : Pos} (ho : OpR X (compareOp op) r) (ho' : OpR X (compareOp op') r') (hr : RS X.K r g) (hr' : RS X.K r' g') (ha : PD X a da) (hb : PD X b db) (hc : PD X c dc)
    (hm : lastMarks [op, op'] [b, c] = false := by with_unfolding_all rfl) : PD X (.Compare a [op, op'] [b, c] pos) (dChain g g' da db dc) := by
  obtain ⟨ta, pa, sa⟩ := ha
  obtain ⟨tb, pb, sb⟩ := hb
  obtain ⟨tc, pc, sc⟩ := hc
  exact ⟨_, pe_chain ho ho' pa pb pc hm, se_chain hr hr' sa sb sc⟩
theorem pdt_chain {op op' : CmpOp} {r r' : R2} {g g' : Sto → Dt → Dt → Option Dt} {a b c : Expr} {da db dc : DE} {pos : Pos} (ho : OpR X (compareOp op) r) (ho' : OpR X (compareOp op') r') (hr : RS X.K r g) (hr' : RS X.K r' g') (ha : PD X a da) (hb : PD X b db) (hc : PD X c dc)
    (hm : lastMarks [op, op'] [b, c] = false := by with_unfolding_all rfl) : PDT X (.Compare a [op, op'] [b, c] pos) (dB (dChain g g' da db dc)) := by
  obtain ⟨ta, pa, sa⟩ := ha
  obtain ⟨tb, pb, sb⟩ := hb
  obtain ⟨tc, pc, sc⟩ := hc
  exact ⟨_, pt_chain ho ho' pa pb pc hm, st_test (se_chain hr hr' sa sb sc)⟩

/-! ## and, or, not, if -/
def dAnd (a b : DT) : DT := fun ev st => (a ev st).bind fun p => if p.1 = true then b ev p.2 else some (false, p.2)
def dOr (a b : DT) : DT := fun ev st => (a ev st).bind fun p => if p.1 = true then some (true, p.2) else b ev p.2
def dNot (a : DT) : DT := fun ev st => (a ev st).map fun p => (!p.1, p.2)
theorem pdw_and1 {a : Expr} {da : DT} {pos : Pos} (h : PDT X a da) : PDW X (.BoolOp .And [a] pos) da := let ⟨_, p, s⟩ := h; ⟨_, pw_and1 p, s⟩
theorem pdw_or1 {a : Expr} {da : DT} {pos : Pos} (h : PDT X a da) : PDW X (.BoolOp .Or [a] pos) da := let ⟨_, p, s⟩ := h; ⟨_, pw_or1 p, s⟩
theorem st_and {ta tb : TT} {da db : DT} {K : PySem.W.Frag} (ha : ST K ta da) (hb : ST K tb db) : ST K (tAnd ta tb) (dAnd da db) := by
  intro σ H m ev st d st' S E h Q q
  unfold dAnd at h
  obtain ⟨⟨x, st1⟩, h1, h⟩ := Option.bind_eq_some_iff.mp h
  refine ha σ H m ev st x st1 S E h1 _ fun H1 m1 s1 S1 => ?_
  cases x with
  | true =>
    rw [if_pos rfl] at h
    rw [if_pos rfl]
    exact hb σ H1 m1 ev st1 d st' S1 (E.stp s1) h _ fun H2 m2 s2 S2 => q H2 m2 (s1.trans s2) S2
  | false =>
    rw [if_neg Bool.false_ne_true] at h
    cases h
    rw [if_neg Bool.false_ne_true]
    exact q H1 m1 s1 S1
theorem st_or {ta tb : TT} {da db : DT} {K : PySem.W.Frag} (ha : ST K ta da) (hb : ST K tb db) : ST K (tOr ta tb) (dOr da db) := by
  intro σ H m ev st d st' S E h Q q
  unfold dOr at h
  obtain ⟨⟨x, st1⟩, h1, h⟩ := Option.bind_eq_some_iff.mp h
  refine ha σ H m ev st x st1 S E h1 _ fun H1 m1 s1 S1 => ?_
  cases x with
  | true =>
    rw [if_pos rfl] at h
    cases h
    rw [if_pos rfl]
    exact q H1 m1 s1 S1
  | false =>
    rw [if_neg Bool.false_ne_true] at h
    rw [if_neg Bool.false_ne_true]
    exact hb σ H1 m1 ev st1 d st' S1 (E.stp s1) h _ fun H2 m2 s2 S2 => q H2 m2 (s1.trans s2) S2
theorem pdw_and {a b : Expr} {rest : List Expr} {da db : DT} {pos : Pos} (ha : PDT X a da) (hb : PDW X (.BoolOp .And (b :: rest) pos) db) : PDW X (.BoolOp .And (a :: b :: rest) pos) (dAnd da db) :=
  let ⟨_, p1, s1⟩ := ha; let ⟨_, p2, s2⟩ := hb; ⟨_, pw_and p1 p2, st_and s1 s2⟩
theorem pdw_or {a b : Expr} {rest : List Expr} {da db : DT} {pos : Pos} (ha : PDT X a da) (hb : PDW X (.BoolOp .Or (b :: rest) pos) db) : PDW X (.BoolOp .Or (a :: b :: rest) pos) (dOr da db) :=
  let ⟨_, p1, s1⟩ := ha; let ⟨_, p2, s2⟩ := hb; ⟨_, pw_or p1 p2, st_or s1 s2⟩
theorem pdt_w {e : Expr} {de : DT} (h : PDW X e de) : PDT X e de := let ⟨_, p, s⟩ := h; ⟨_, p.pt, s⟩
theorem pdt_not {a : Expr} {da : DT} {pos : Pos} (ha : PDT X a da) : PDT X (.UnaryOp .Not a pos) (dNot da) := by
  obtain ⟨ta, p, s⟩ := ha
  refine ⟨_, pt_not p, fun σ H m ev st d st' S E h Q q => ?_⟩
  unfold dNot at h
  obtain ⟨⟨x, st1⟩, h1, h⟩ := Option.map_eq_some_iff.mp h
  cases h
  exact s σ H m ev st x st1 S E h1 _ fun H1 m1 s1 S1 => q H1 m1 s1 S1
/-- as values, all of them bools -/
def dAndV (a b : DE) : DE := fun ev st => match a ev st with
  | some (.bl true, st1) => b ev st1
  | some (.bl false, st1) => some (.bl false, st1)
  | _ => none
def dOrV (a b : DE) : DE := fun ev st => match a ev st with
  | some (.bl true, st1) => some (.bl true, st1)
  | some (.bl false, st1) => b ev st1
  | _ => none
def dNotV (a : DE) : DE := fun ev st => match a ev st with
  | some (.bl b, st1) => some (.bl (!b), st1)
  | _ => none
theorem pd_one {op} {a : Expr} {da : DE} {pos : Pos} (h : PD X a da) : PD X (.BoolOp op [a] pos) da := let ⟨_, p, s⟩ := h; ⟨_, pe_one p, s⟩
theorem pd_and {a b : Expr} {rest : List Expr} {da db : DE} {pos : Pos} (ha : PD X a da) (hb : PD X (.BoolOp .And (b :: rest) pos) db) : PD X (.BoolOp .And (a :: b :: rest) pos) (dAndV da db) := by
  obtain ⟨ta, pa, sa⟩ := ha
  obtain ⟨tb, pb, sb⟩ := hb
  refine ⟨_, pe_and pa pb, fun σ H m ev st d st' S E h Q q => ?_⟩
  unfold dAndV at h
  split at h
  · rename_i st1 e
    refine sa σ H m ev st _ _ S E e _ fun v1 H1 m1 s1 S1 r1 => ?_
    cases r1
    refine ⟨true, rfl, ?_⟩
    rw [if_pos rfl]
    exact sb σ H1 m1 ev st1 d st' S1 (E.stp s1) h _ fun v2 H2 m2 s2 S2 r2 => q v2 H2 m2 (s1.trans s2) S2 r2
  · rename_i st1 e
    cases h
    refine sa σ H m ev st _ _ S E e _ fun v1 H1 m1 s1 S1 r1 => ?_
    cases r1
    refine ⟨false, rfl, ?_⟩
    rw [if_neg Bool.false_ne_true]
    exact q _ H1 m1 s1 S1 (.bl false)
  · cases h
theorem pd_or {a b : Expr} {rest : List Expr} {da db : DE} {pos : Pos} (ha : PD X a da) (hb : PD X (.BoolOp .Or (b :: rest) pos) db) : PD X (.BoolOp .Or (a :: b :: rest) pos) (dOrV da db) := by
  obtain ⟨ta, pa, sa⟩ := ha
  obtain ⟨tb, pb, sb⟩ := hb
  refine ⟨_, pe_or pa pb, fun σ H m ev st d st' S E h Q q => ?_⟩
  unfold dOrV at h
  split at h
  · rename_i st1 e
    cases h
    refine sa σ H m ev st _ _ S E e _ fun v1 H1 m1 s1 S1 r1 => ?_
    cases r1
    refine ⟨true, rfl, ?_⟩
    rw [if_pos rfl]
    exact q _ H1 m1 s1 S1 (.bl true)
  · rename_i st1 e
    refine sa σ H m ev st _ _ S E e _ fun v1 H1 m1 s1 S1 r1 => ?_
    cases r1
    refine ⟨false, rfl, ?_⟩
    rw [if_neg Bool.false_ne_true]
    exact sb σ H1 m1 ev st1 d st' S1 (E.stp s1) h _ fun v2 H2 m2 s2 S2 r2 => q v2 H2 m2 (s1.trans s2) S2 r2
  · cases h
theorem pd_not {a : Expr} {da : DE} {pos : Pos} (ha : PD X a da) : PD X (.UnaryOp .Not a pos) (dNotV da) := by
  obtain ⟨ta, pa, sa⟩ := ha
  refine ⟨_, pe_not pa, fun σ H m ev st d st' S E h Q q => ?_⟩
  unfold dNotV at h
  split at h
  · rename_i b st1 e
    cases h
    refine sa σ H m ev st _ _ S E e _ fun v1 H1 m1 s1 S1 r1 => ?_
    cases r1
    exact ⟨b, rfl, q _ H1 m1 s1 S1 (.bl _)⟩
  · cases h
def dIfE (c : DT) (a b : DE) : DE := fun ev st => (c ev st).bind fun p => if p.1 = true then a ev p.2 else b ev p.2
theorem pd_ifE {c a b : Expr} {dc : DT} {da db : DE} {pos : Pos} (hc : PDT X c dc) (ha : PD X a da) (hb : PD X b db) : PD X (.IfExp c a b pos) (dIfE dc da db) := by
  obtain ⟨tc, pc, sc⟩ := hc
  obtain ⟨ta, pa, sa⟩ := ha
  obtain ⟨tb, pb, sb⟩ := hb
  refine ⟨_, pe_ifExp pc pa pb, fun σ H m ev st d st' S E h Q q => ?_⟩
  unfold dIfE at h
  obtain ⟨⟨x, st1⟩, h1, h⟩ := Option.bind_eq_some_iff.mp h
  refine sc σ H m ev st x st1 S E h1 _ fun H1 m1 s1 S1 => ?_
  cases x with
  | true =>
    rw [if_pos rfl] at h
    rw [if_pos rfl]
    exact sa σ H1 m1 ev st1 d st' S1 (E.stp s1) h _ fun v2 H2 m2 s2 S2 r2 => q v2 H2 m2 (s1.trans s2) S2 r2
  | false =>
    rw [if_neg Bool.false_ne_true] at h
    rw [if_neg Bool.false_ne_true]
    exact sb σ H1 m1 ev st1 d st' S1 (E.stp s1) h _ fun v2 H2 m2 s2 S2 r2 => q v2 H2 m2 (s1.trans s2) S2 r2

/-! ## one-place operators, arguments, displays, calls by values -/
def dUn (g : Dt → Option Dt) (a : DE) : DE := fun ev st => (a ev st).bind fun p => (g p.1).map fun z => (z, p.2)
def gNeg : Dt → Option Dt
  | .int i => some (.int (-i))
  | _ => none
theorem pd_neg {a : Expr} {da : DE} {pos : Pos} (ha : PD X a da) : PD X (.UnaryOp .USub a pos) (dUn gNeg da) := by
  obtain ⟨ta, pa, sa⟩ := ha
  refine ⟨_, pe_un un_neg pa, fun σ H m ev st d st' S E h Q q => ?_⟩
  unfold dUn at h
  obtain ⟨⟨x, st1⟩, h1, h⟩ := Option.bind_eq_some_iff.mp h
  obtain ⟨z, h2, h⟩ := Option.map_eq_some_iff.mp h
  cases h
  refine sa σ H m ev st x st1 S E h1 _ fun v1 H1 m1 s1 S1 r1 => ?_
  cases r1 with
  | int i =>
    cases h2
    exact ⟨i, rfl, q _ H1 m1 s1 S1 (.int _)⟩
  | _ => cases h2
def dNil : DA := fun _ st => some ([], st)
def dCons (a : DE) (r : DA) : DA := fun ev st => (a ev st).bind fun p => (r ev p.2).map fun q => (p.1 :: q.1, q.2)
theorem pda_nil : PDA X [] dNil := ⟨_, pa_nil, fun σ H m ev st d st' S E h Q q => by
  cases h
  exact q [] H m (Stp.refl H m) S .nil⟩
theorem sa_cons {ta : TE} {tr : TA} {da : DE} {dr : DA} {K : PySem.W.Frag} (ha : SE K ta da) (hr : SA K tr dr) : SA K (tCons ta tr) (dCons da dr) := by
  intro σ H m ev st d st' S E h Q q
  unfold dCons at h
  obtain ⟨⟨x, st1⟩, h1, h⟩ := Option.bind_eq_some_iff.mp h
  obtain ⟨⟨y, st2⟩, h2, h⟩ := Option.map_eq_some_iff.mp h
  cases h
  refine ha σ H m ev st x st1 S E h1 _ fun v1 H1 m1 s1 S1 r1 => ?_
  exact hr σ H1 m1 ev st1 y _ S1 (E.stp s1) h2 _ fun v2 H2 m2 s2 S2 r2 => q _ H2 m2 (s1.trans s2) S2 (.cons (s2.rep r1) r2)
theorem pda_cons {e : Expr} {es : List Expr} {da : DE} {dr : DA} (ha : PD X e da) (hr : PDA X es dr) (hs : starEach (e :: es) X.env = (false, eval e X.env) :: starEach es X.env := by rfl) : PDA X (e :: es) (dCons da dr) :=
  let ⟨_, p1, s1⟩ := ha; let ⟨_, p2, s2⟩ := hr; ⟨_, pa_cons p1 p2 hs, sa_cons s1 s2⟩
/-- arguments, then what is made of them; the store as it was -/
def dAp (g : Sto → List Dt → Option Dt) (a : DA) : DE := fun ev st => (a ev st).bind fun p => (g p.2 p.1).map fun z => (z, p.2)
/-- .. and a new list, that may change -/
def dApM (g : Sto → List Dt → Option (List Dt)) (a : DA) : DE := fun ev st => (a ev st).bind fun p => (g p.2 p.1).map fun z => (.ptr p.2.length, p.2 ++ [.lst z])
def RCS (K : PySem.W.Frag) (r : List V → Hp → VK → Prop) (g : Sto → List Dt → Option Dt) : Prop := ∀ (H : Hp) (m : MM) (st : Sto) (ds : List Dt) (z : Dt) (xs : List V), StR K H m st → Reps K (hid H m) m ds xs → g st ds = some z →
  ∀ Q : VK, (∀ v H', Stp H m H' m → StR K H' m st → Rep K (hid H' m) m z v → Q v H') → r xs H Q
/-- a new list of these is handed back -/
def RCN (K : PySem.W.Frag) (r : List V → Hp → VK → Prop) (g : Sto → List Dt → Option (List Dt)) : Prop := ∀ (H : Hp) (m : MM) (st : Sto) (ds : List Dt) (z : List Dt) (xs : List V), StR K H m st → Reps K (hid H m) m ds xs → g st ds = some z →
  ∀ Q : VK, (∀ p H' zs, H' p = none → Stp H m H' m → StR K H' m st → Reps K (hid H' m) m z zs → Q (.ref p) (upd H' p (.lst zs))) → r xs H Q
def asLst (g : Sto → List Dt → Option (List Dt)) : Sto → List Dt → Option Dt := fun st ds => (g st ds).map .lst
theorem mk_lst {K : PySem.W.Frag} {H : Hp} {m : MM} {st : Sto} {p : Addr} {zs : List V} {z : List Dt} (S : StR K H m st) (hp : H p = none) (r : Reps K (hid H m) m z zs) :
    Stp H m (upd H p (.lst zs)) m ∧ StR K (upd H p (.lst zs)) m st ∧ Rep K (hid (upd H p (.lst zs)) m) m (.lst z) (.ref p) :=
  ⟨Stp.new S hp, S.new hp, .lst (hid_some.mpr ⟨S.fresh hp, upd_same⟩) ((Stp.new S hp).reps r)⟩
theorem mk_tup {K : PySem.W.Frag} {H : Hp} {m : MM} {st : Sto} {p : Addr} {zs : List V} {z : List Dt} (S : StR K H m st) (hp : H p = none) (r : Reps K (hid H m) m z zs) :
    Stp H m (upd H p (.tup zs)) m ∧ StR K (upd H p (.tup zs)) m st ∧ Rep K (hid (upd H p (.tup zs)) m) m (.tup z) (.ref p) :=
  ⟨Stp.new S hp, S.new hp, .tup (hid_some.mpr ⟨S.fresh hp, upd_same⟩) ((Stp.new S hp).reps r)⟩
theorem mk_lstM {K : PySem.W.Frag} {H : Hp} {m : MM} {st : Sto} {p : Addr} {zs : List V} {z : List Dt} (S : StR K H m st) (hp : H p = none) (r : Reps K (hid H m) m z zs) :
    Stp H m (upd H p (.lst zs)) (m.add p) ∧ StR K (upd H p (.lst zs)) (m.add p) (st ++ [.lst z]) ∧ Rep K (hid (upd H p (.lst zs)) (m.add p)) (m.add p) (.ptr st.length) (.ref p) :=
  ⟨Stp.newM S hp, S.newM hp ⟨zs, upd_same, (Stp.newM S hp).reps r⟩, .ptr (by rw [← S.len]; simp [MM.add])⟩
theorem RCN.rcs {K : PySem.W.Frag} {r : List V → Hp → VK → Prop} {g : Sto → List Dt → Option (List Dt)} (h : RCN K r g) : RCS K r (asLst g) := by
  intro H m st ds z xs S rs hg Q q
  obtain ⟨zs, h1, h2⟩ := Option.map_eq_some_iff.mp hg
  subst h2
  refine h H m st ds zs xs S rs h1 Q fun p H' vs hp s1 S1 r1 => ?_
  obtain ⟨a, b, c⟩ := mk_lst S1 hp r1
  exact q _ _ (s1.trans a) b c
theorem se_cb {K : PySem.W.Frag} {r : List V → Hp → VK → Prop} {g : Sto → List Dt → Option Dt} {ta : TA} {da : DA} (h : RCS K r g) (ha : SA K ta da) : SE K (tCB r ta) (dAp g da) := by
  intro σ H m ev st d st' S E h0 Q q
  unfold dAp at h0
  obtain ⟨⟨x, st1⟩, h1, h0⟩ := Option.bind_eq_some_iff.mp h0
  obtain ⟨z, h2, h0⟩ := Option.map_eq_some_iff.mp h0
  cases h0
  refine ha σ H m ev st x _ S E h1 _ fun v1 H1 m1 s1 S1 r1 => ?_
  exact h H1 m1 _ x d v1 S1 r1 h2 Q fun v H' s2 S2 r2 => q v H' m1 (s1.trans s2) S2 r2
theorem se_cbM {K : PySem.W.Frag} {r : List V → Hp → VK → Prop} {g : Sto → List Dt → Option (List Dt)} {ta : TA} {da : DA} (h : RCN K r g) (ha : SA K ta da) : SE K (tCB r ta) (dApM g da) := by
  intro σ H m ev st d st' S E h0 Q q
  unfold dApM at h0
  obtain ⟨⟨x, st1⟩, h1, h0⟩ := Option.bind_eq_some_iff.mp h0
  obtain ⟨z, h2, h0⟩ := Option.map_eq_some_iff.mp h0
  cases h0
  refine ha σ H m ev st x _ S E h1 _ fun v1 H1 m1 s1 S1 r1 => ?_
  refine h H1 m1 _ x z v1 S1 r1 h2 Q fun p H' vs hp s2 S2 r2 => ?_
  obtain ⟨a, b, c⟩ := mk_lstM S2 hp r2
  exact q _ _ _ ((s1.trans s2).trans a) b c
theorem pd_callB {id : String} {x : Str} {r : List V → Hp → VK → Prop} {g : Sto → List Dt → Option Dt} {e : Expr} {es : List Expr} {da : DA} {p pos : Pos} (hc : CallR X (.builtin id) r) (hs : RCS X.K r g) (hg : Gl X x) (hm : X.mg x = none) (hv : bootBuiltins x = some (.builtin id)) (ha : PDA X (e :: es) da)
    (hn : x ≠ "__name__" := by decide) (hdb : (x == ("__debug__" : Str)) = false := by decide) (he : starEach (e :: es) X.env = (false, eval e X.env) :: starEach es X.env := by rfl) (hpl : (backTo pos (starEach es X.env)).any (·.1) = false := by rfl) :
    PD X (.Call (.Name x p) (e :: es) [] pos) (dAp g da) := by
  obtain ⟨ta, pa, sa⟩ := ha
  exact ⟨_, pe_callB hc hg hm hv pa hn hdb he hpl, se_cb hs sa⟩
theorem pd_callT {T : String} {x : Str} {r : List V → Hp → VK → Prop} {g : Sto → List Dt → Option Dt} {e : Expr} {es : List Expr} {da : DA} {p pos : Pos} (hc : CallR X (.type T) r) (hs : RCS X.K r g) (hg : Gl X x) (hm : X.mg x = none) (hv : bootBuiltins x = some (.type T)) (ha : PDA X (e :: es) da)
    (hn : x ≠ "__name__" := by decide) (hdb : (x == ("__debug__" : Str)) = false := by decide) (he : starEach (e :: es) X.env = (false, eval e X.env) :: starEach es X.env := by rfl) (hpl : (backTo pos (starEach es X.env)).any (·.1) = false := by rfl) :
    PD X (.Call (.Name x p) (e :: es) [] pos) (dAp g da) := by
  obtain ⟨ta, pa, sa⟩ := ha
  exact ⟨_, pe_callTy hc hg hm hv pa hn hdb he hpl, se_cb hs sa⟩
theorem pd_callBM {id : String} {x : Str} {r : List V → Hp → VK → Prop} {g : Sto → List Dt → Option (List Dt)} {e : Expr} {es : List Expr} {da : DA} {p pos : Pos} (hc : CallR X (.builtin id) r) (hs : RCN X.K r g) (hg : Gl X x) (hm : X.mg x = none) (hv : bootBuiltins x = some (.builtin id)) (ha : PDA X (e :: es) da)
    (hn : x ≠ "__name__" := by decide) (hdb : (x == ("__debug__" : Str)) = false := by decide) (he : starEach (e :: es) X.env = (false, eval e X.env) :: starEach es X.env := by rfl) (hpl : (backTo pos (starEach es X.env)).any (·.1) = false := by rfl) :
    PD X (.Call (.Name x p) (e :: es) [] pos) (dApM g da) := by
  obtain ⟨ta, pa, sa⟩ := ha
  exact ⟨_, pe_callB hc hg hm hv pa hn hdb he hpl, se_cbM hs sa⟩
theorem pd_callTM {T : String} {x : Str} {r : List V → Hp → VK → Prop} {g : Sto → List Dt → Option (List Dt)} {e : Expr} {es : List Expr} {da : DA} {p pos : Pos} (hc : CallR X (.type T) r) (hs : RCN X.K r g) (hg : Gl X x) (hm : X.mg x = none) (hv : bootBuiltins x = some (.type T)) (ha : PDA X (e :: es) da)
    (hn : x ≠ "__name__" := by decide) (hdb : (x == ("__debug__" : Str)) = false := by decide) (he : starEach (e :: es) X.env = (false, eval e X.env) :: starEach es X.env := by rfl) (hpl : (backTo pos (starEach es X.env)).any (·.1) = false := by rfl) :
    PD X (.Call (.Name x p) (e :: es) [] pos) (dApM g da) := by
  obtain ⟨ta, pa, sa⟩ := ha
  exact ⟨_, pe_callTy hc hg hm hv pa hn hdb he hpl, se_cbM hs sa⟩
def gTupD : Sto → List Dt → Option Dt := fun _ ds => if ds.length ≤ 1000000 then some (.tup ds) else none
def gLstD : Sto → List Dt → Option (List Dt) := fun _ ds => if ds.length ≤ 1000000 then some ds else none
theorem size1m {n : Nat} (h : n ≤ 1000000) : n ≤ sizeLine := Nat.le_trans h (by decide)
theorem rtup : RCS X.K (fun xs H Q => xs.length ≤ sizeLine ∧ ∀ p, H p = none → Q (.ref p) (upd H p (.tup xs))) gTupD := by
  intro H m st ds z xs S rs hg Q q
  unfold gTupD at hg
  split at hg
  · rename_i hl
    cases hg
    refine ⟨by rw [← rs.length]; exact size1m hl, fun p hp => ?_⟩
    obtain ⟨a, b, c⟩ := mk_tup S hp rs
    exact q _ _ a b c
  · cases hg
theorem rlst : RCN X.K (fun xs H Q => xs.length ≤ sizeLine ∧ ∀ p, H p = none → Q (.ref p) (upd H p (.lst xs))) gLstD := by
  intro H m st ds z xs S rs hg Q q
  unfold gLstD at hg
  split at hg
  · rename_i hl
    cases hg
    refine ⟨by rw [← rs.length]; exact size1m hl, fun p hp => q p H xs hp (Stp.refl H m) S rs⟩
  · cases hg
theorem pd_tup {es : List Expr} {da : DA} {x1} {pos : Pos} (ha : PDA X es da) : PD X (.Tuple es x1 pos) (dAp gTupD da) := by
  obtain ⟨ta, pa, sa⟩ := ha
  exact ⟨_, pe_tup pa, se_cb rtup sa⟩
theorem pd_lst {es : List Expr} {da : DA} {pos : Pos} (ha : PDA X es da) : PD X (.List es pos) (dAp (asLst gLstD) da) := by
  obtain ⟨ta, pa, sa⟩ := ha
  exact ⟨_, pe_lst pa, se_cb rlst.rcs sa⟩
theorem pd_lstM {es : List Expr} {da : DA} {pos : Pos} (ha : PDA X es da) : PD X (.List es pos) (dApM gLstD da) := by
  obtain ⟨ta, pa, sa⟩ := ha
  exact ⟨_, pe_lst pa, se_cbM rlst sa⟩

/-! ## subscripts, slices -/
theorem pd_ix {r : R2} {g : Sto → Dt → Dt → Option Dt} {a b : Expr} {da db : DE} {pos : Pos} (hr : IxR X r) (hs : RS X.K r g) (ha : PD X a da) (hb : PD X b db) (hp : PlainIx b) : PD X (.Subscript a b pos) (dBin g da db) := by
  obtain ⟨ta, pa, sa⟩ := ha
  obtain ⟨tb, pb, sb⟩ := hb
  exact ⟨_, pe_ix hr pa pb hp, se_op hs sa sb⟩

/-! ## calls of defs -/
/-- the promise of a def whose denotation is G -/
def spD (K : PySem.W.Frag) (np : Nat) (G : DF) : Sp := fun vs H Q _ => ∃ (m : MM) (st : Sto) (ds : List Dt) (d : Dt) (st' : Sto), StR K H m st ∧ Reps K (hid H m) m ds vs ∧ ds.length = np ∧ G ds st = some (d, st') ∧
  ∀ v H' m', Stp H m H' m' → StR K H' m' st' → Rep K (hid H' m') m' d v → Q v H'
def dCall (np : Nat) (G : DF) (a : DA) : DE := fun ev st => (a ev st).bind fun p => if p.1.length = np then G p.1 p.2 else none
theorem pd_call {k : Nat} {np : Nat} {f : Addr} {fd : FuncData} {ps : List Str} {G : DF} {x : Str} {e : Expr} {es : List Expr} {da : DA} {p pos : Pos} (F : FnOk X.prog X.w X.K X.mg X.base CX0 k f fd ps (spD X.K np G)) (hr : Room k X.A) (hg : Gl X x) (hm : X.mg x = some (.ref f)) (hk : PySem.W.keepIn X.K (.ref f) = true) (hb : Binds X.K fd ps [])
    (ha : PDA X (e :: es) da) (hdb : (x == ("__debug__" : Str)) = false := by decide) (he : starEach (e :: es) X.env = (false, eval e X.env) :: starEach es X.env := by rfl) (hpl : (backTo pos (starEach es X.env)).any (·.1) = false := by rfl) :
    PD X (.Call (.Name x p) (e :: es) [] pos) (dCall np G da) := by
  obtain ⟨ta, pa, sa⟩ := ha
  refine ⟨_, pe_call F hr hg hm hk hb .nil pass0 pa hdb he hpl, fun σ H m ev st d st' S E h Q q => ?_⟩
  unfold dCall at h
  obtain ⟨⟨x, st1⟩, h1, h⟩ := Option.bind_eq_some_iff.mp h
  simp only at h
  split at h
  · rename_i hl
    refine sa σ H m ev st x st1 S E h1 _ fun v1 H1 m1 s1 S1 r1 => ?_
    rw [List.append_nil]
    exact ⟨m1, st1, x, d, st', S1, r1, hl, h, fun v H' m' s2 S2 r2 => q v H' m' (s1.trans s2) S2 r2⟩
  · cases h
end
end PD

namespace PD
open PySem PySem.Spec PyProof.Rows L2

/-! ## targets -/
section
variable {X : Cx}
def gtName (i : Nat) : DG := fun _ d ev => some (ev.set i (some d))
theorem pdg_name {i : Nat} {x : Str} {pos : Pos} (hN : X.N.Nodup) (hi : X.N[i]? = some x) (hx : Loc X.env.scope x) (hf : X.fn x = true ∨ X.env.scope.names.lookup x = some .local := by first | exact .inl rfl | exact .inr rfl | assumption) : PDG X (.Name x pos) (gtName i) [i] := by
  refine ⟨_, pg_name hN hi hx hf, fun v σ H m ev st d ev' S E r h Q q => ?_⟩
  cases h
  exact q _ (E.set r i) (fun j hj => by rw [List.getElem?_set_ne (by simpa [eq_comm] using hj)]) (by rw [List.length_set])
def gsNil : Sto → List Dt → En → Option En := fun _ ds ev => match ds with
  | [] => some ev
  | _ => none
def gsCons (g : DG) (r : Sto → List Dt → En → Option En) : Sto → List Dt → En → Option En := fun st ds ev => match ds with
  | d :: ds => (g st d ev).bind fun ev1 => r st ds ev1
  | _ => none
theorem pdgs_nil : PDGs X [] gsNil [] := by
  refine ⟨_, pgs_nil, fun vs σ H m ev st ds ev' S E r h Q q => ?_⟩
  cases r with
  | nil =>
    cases h
    exact ⟨rfl, q σ E (fun _ _ => rfl) rfl⟩
  | cons _ _ => cases h
theorem pdgs_cons {e : Expr} {es : List Expr} {g : DG} {r : Sto → List Dt → En → Option En} {js ks : List Nat} (h1 : PDG X e g js) (h2 : PDGs X es r ks)
    (hs : (assignEach (e :: es) X.env).map (·.2) = assign e X.env :: (assignEach es X.env).map (·.2) := by rfl) : PDGs X (e :: es) (gsCons g r) (js ++ ks) := by
  obtain ⟨t1, p1, s1⟩ := h1
  obtain ⟨t2, p2, s2⟩ := h2
  refine ⟨_, pgs_cons p1 p2 hs, fun vs σ H m ev st ds ev' S E rr h Q q => ?_⟩
  cases rr with
  | nil => cases h
  | cons ra rb =>
    rename_i d v ds vs
    unfold gsCons at h
    obtain ⟨ev1, e1, h⟩ := Option.bind_eq_some_iff.mp h
    refine ⟨_, _, rfl, s1 v σ H m ev st d ev1 S E ra e1 _ fun σ1 E1 k1 l1 => ?_⟩
    exact s2 vs σ1 H m ev1 st ds ev' S E1 rb h _ fun σ2 E2 k2 l2 => q σ2 E2 (fun j hj => by
      rw [List.mem_append, not_or] at hj
      rw [k2 j hj.2, k1 j hj.1]) (l2.trans l1)
def gtTup (n : Nat) (r : Sto → List Dt → En → Option En) : DG := fun st d ev => match d with
  | .tup ds => if ds.length = n then r st ds ev else none
  | _ => none
theorem pdg_tup {es : List Expr} {k n : Nat} {r : Sto → List Dt → En → Option En} {js : List Nat} {pos : Pos} (hc : X.calm = true) (h : PDGs X es r js)
    (hn : (assignEach es X.env).length = n := by rfl) (hst : (assignEach es X.env).findIdx? (·.1) = none := by rfl) : PDG X (.Tuple es k pos) (gtTup n r) js := by
  obtain ⟨t, p, s⟩ := h
  refine ⟨_, pg_tup hc p hn hst, fun v σ H m ev st d ev' S E rr hh Q q => ?_⟩
  cases rr with
  | @tup a vs ds h1 h2 =>
    simp only [gtTup] at hh
    split at hh
    · rename_i hl
      exact ⟨a, vs, rfl, (hid_ext H m).sqT (TupAt.sq h1), by rw [← h2.length]; exact hl, s vs σ H m ev st ds ev' S E h2 hh Q q⟩
    · cases hh
  | _ => cases hh
end

/-! ## statements -/
def dNext : DS := fun ev st => some (.nx ev st)
def dNever : DS := fun _ _ => none
def dSeq (a b : DS) : DS := fun ev st => (a ev st).bind fun o => match o with
  | .nx ev1 st1 => b ev1 st1
  | o => some o
def dIf (c : DT) (a b : DS) : DS := fun ev st => (c ev st).bind fun p => if p.1 = true then a ev p.2 else b ev p.2
def dAsg (e : DE) (g : DG) : DS := fun ev st => (e ev st).bind fun p => (g p.2 p.1 ev).map fun ev1 => .nx ev1 p.2
def dRet (e : DE) : DS := fun ev st => (e ev st).map fun p => .rt p.1 p.2
def dRetN : DS := fun _ st => some (.rt .non st)
def dDrop (e : DE) : DS := fun ev st => (e ev st).map fun p => .nx ev p.2
def dBrk : DS := fun ev st => some (.bk ev st)
def dCnt : DS := fun ev st => some (.ct ev st)
section
variable {X : Cx}
theorem pds_never {st : Stmt} : PDS X st dNever := ⟨_, ps_never, fun σ H m ev st o S E h D q => by cases h⟩
theorem pdss_never {st : List Stmt} : PDSs X st dNever := ⟨_, pss_never, fun σ H m ev st o S E h D q => by cases h⟩
theorem pdss_nil : PDSs X [] dNext := ⟨_, pss_nil, fun σ H m ev st o S E h D q => by
  cases h
  exact q σ H m (Stp.refl H m) S E⟩
theorem pds_pass {pos : Pos} : PDS X (.Pass pos) dNext := ⟨_, ps_pass, fun σ H m ev st o S E h D q => by
  cases h
  exact q σ H m (Stp.refl H m) S E⟩
theorem pds_brk {pos : Pos} : PDS X (.Break pos) dBrk := ⟨_, ps_break, fun σ H m ev st o S E h D q => by
  cases h
  exact q σ H m (Stp.refl H m) S E⟩
theorem pds_cnt {pos : Pos} : PDS X (.Continue pos) dCnt := ⟨_, ps_continue, fun σ H m ev st o S E h D q => by
  cases h
  exact q σ H m (Stp.refl H m) S E⟩
theorem pdss_one {st : Stmt} {d : DS} (h : PDS X st d) : PDSs X [st] d := let ⟨_, p, s⟩ := h; ⟨_, pss_one p, s⟩
theorem pdss_cons {st : Stmt} {rest : List Stmt} {a b : DS} (h1 : PDS X st a) (h2 : PDSs X rest b) : PDSs X (st :: rest) (dSeq a b) := by
  obtain ⟨t1, p1, s1⟩ := h1
  obtain ⟨t2, p2, s2⟩ := h2
  refine ⟨_, pss_cons p1 p2, fun σ H m ev st o S E h D q => ?_⟩
  unfold dSeq at h
  obtain ⟨o1, e1, h⟩ := Option.bind_eq_some_iff.mp h
  refine s1 σ H m ev st o1 S E e1 _ ?_
  cases o1 with
  | nx ev1 st1 => exact fun σ' H' m' a b c => s2 σ' H' m' ev1 st1 o b c h D (q.stp a)
  | bk ev1 st1 => cases h; exact q
  | ct ev1 st1 => cases h; exact q
  | rt d st1 => cases h; exact q
theorem pds_if {c : Expr} {a b : List Stmt} {pos : Pos} {dc : DT} {da db : DS} (hc : PDT X c dc) (ha : PDSs X a da) (hb : PDSs X b db) : PDS X (.If c a b pos) (dIf dc da db) := by
  obtain ⟨tc, pc, sc⟩ := hc
  obtain ⟨ta, pa, sa⟩ := ha
  obtain ⟨tb, pb, sb⟩ := hb
  refine ⟨_, ps_if pc pa pb, fun σ H m ev st o S E h D q => ?_⟩
  unfold dIf at h
  obtain ⟨⟨x, st1⟩, h1, h⟩ := Option.bind_eq_some_iff.mp h
  refine sc σ H m ev st x st1 S E h1 _ fun H1 m1 s1 S1 => ?_
  cases x with
  | true =>
    rw [if_pos rfl] at h
    rw [if_pos rfl]
    exact sa σ H1 m1 ev st1 o S1 (E.stp s1) h D (q.stp s1)
  | false =>
    rw [if_neg Bool.false_ne_true] at h
    rw [if_neg Bool.false_ne_true]
    exact sb σ H1 m1 ev st1 o S1 (E.stp s1) h D (q.stp s1)
theorem ss_asg {K : PySem.W.Frag} {te : TE} {de : DE} {g : TG} {dg : DG} {js : List Nat} (he : SE K te de) (hg : SG K g dg js) : SS K (tAsg te g) (dAsg de dg) := by
  intro σ H m ev st o S E h D q
  unfold dAsg at h
  obtain ⟨⟨x, st1⟩, h1, h⟩ := Option.bind_eq_some_iff.mp h
  obtain ⟨ev1, h2, h⟩ := Option.map_eq_some_iff.mp h
  cases h
  refine he σ H m ev st x st1 S E h1 _ fun v1 H1 m1 s1 S1 r1 => ?_
  exact hg v1 σ H1 m1 ev st1 x ev1 S1 (E.stp s1) r1 h2 _ fun σ' E' _ _ => q σ' H1 m1 s1 S1 E'
theorem pds_asg {tg e : Expr} {de : DE} {dg : DG} {js : List Nat} {pos : Pos} (he : PD X e de) (hg : PDG X tg dg js) (hs : swapsWithSole [tg] e pos.line X.env = pure false := by rfl) (hw : swappedStores [tg] e X.env = pure none := by rfl)
    (h1 : (assignEach [tg] X.env).map (·.2) = [assign tg X.env] := by rfl) : PDS X (.Assign [tg] e pos) (dAsg de dg) := by
  obtain ⟨te, pe, se⟩ := he
  obtain ⟨t, p, s⟩ := hg
  exact ⟨_, ps_asg pe p hs hw h1, ss_asg se s⟩
theorem sg_name {K : PySem.W.Frag} {i : Nat} : SG K (gName i) (gtName i) [i] := fun v σ H m ev st d ev' S E r h Q q => by
  cases h
  exact q _ (E.set r i) (fun j hj => by rw [List.getElem?_set_ne (by simpa [eq_comm] using hj)]) (by rw [List.length_set])
theorem pds_set {i : Nat} {x : Str} {e : Expr} {de : DE} {pos pos' : Pos} (hN : X.N.Nodup) (hi : X.N[i]? = some x) (hx : Loc X.env.scope x) (he : PD X e de) (hs : swapsWith e (some (.Name x pos')) pos.line X.env = pure false := by rfl) (hf : X.fn x = true ∨ X.env.scope.names.lookup x = some .local := by first | exact .inl rfl | exact .inr rfl | assumption) :
    PDS X (.Assign [.Name x pos'] e pos) (dAsg de (gtName i)) := by
  obtain ⟨te, pe, se⟩ := he
  exact ⟨_, ps_set hN hi hx pe hs hf, ss_asg se sg_name⟩
theorem pds_ret {e : Expr} {de : DE} {pos : Pos} (he : PD X e de) : PDS X (.Return (some e) pos) (dRet de) := by
  obtain ⟨te, pe, se⟩ := he
  refine ⟨_, ps_ret pe, fun σ H m ev st o S E h D q => ?_⟩
  unfold dRet at h
  obtain ⟨⟨x, st1⟩, h1, h⟩ := Option.map_eq_some_iff.mp h
  cases h
  exact se σ H m ev st x st1 S E h1 _ fun v1 H1 m1 s1 S1 r1 => q v1 H1 m1 s1 S1 r1
theorem pds_drop {e : Expr} {de : DE} {pos : Pos} (he : PD X e de) (hs : swapsWith e none pos.line X.env = pure false := by rfl) : PDS X (.Expr e pos) (dDrop de) := by
  obtain ⟨te, pe, se⟩ := he
  refine ⟨_, ps_expr pe hs, fun σ H m ev st o S E h D q => ?_⟩
  unfold dDrop at h
  obtain ⟨⟨x, st1⟩, h1, h⟩ := Option.map_eq_some_iff.mp h
  cases h
  exact se σ H m ev st x st1 S E h1 _ fun v1 H1 m1 s1 S1 r1 => q σ H1 m1 s1 S1 (E.stp s1)
/-- a, b = x, y by names, stored from the right -/
def dPar (i j : Nat) (a : DA) : DS := fun ev st => match a ev st with
  | some ([d, e], st1) => some (.nx ((ev.set i (some d)).set j (some e)) st1)
  | _ => none
theorem pds_par {i j : Nat} {x y : Str} {a b : Expr} {da : DA} {px py pt pos : Pos} {kt k2 pt2} (hc : X.calm = true) (hN : X.N.Nodup) (hi : X.N[i]? = some x) (hj : X.N[j]? = some y) (hij : i ≠ j)
    (hx : X.env.scope.names.lookup x = some .local) (hy : X.env.scope.names.lookup y = some .local) (ha : PDA X [a, b] da)
    (hw : swappedStores [.Tuple [.Name x px, .Name y py] kt pt] (.Tuple [a, b] k2 pt2) X.env = pure (some [x, y]))
    (hs : swapsWithSole [.Tuple [.Name x px, .Name y py] kt pt] (.Tuple [a, b] k2 pt2) pos.line X.env = pure false := by rfl) :
    PDS X (.Assign [.Tuple [.Name x px, .Name y py] kt pt] (.Tuple [a, b] k2 pt2) pos) (dPar i j da) := by
  obtain ⟨ta, pa, sa⟩ := ha
  refine ⟨_, ps_par hc hN hi hj hij hx hy pa hw hs, fun σ H m ev st o S E h D q => ?_⟩
  unfold dPar at h
  split at h
  · rename_i d e st1 h1
    cases h
    refine sa σ H m ev st _ _ S E h1 _ fun vs H1 m1 s1 S1 r1 => ?_
    obtain ⟨v, u, rfl, ra, rb⟩ := r1.two
    exact ⟨v, u, rfl, q _ H1 m1 s1 S1 (((E.stp s1).set ra i).set rb j)⟩
  · cases h
/-- x op= e -/
def dAug (i : Nat) (e : DE) (g : Sto → Dt → Dt → Option Dt) : DS := fun ev st => match ev[i]? with
  | some (some d) => (e ev st).bind fun p => (g p.2 d p.1).map fun z => .nx (ev.set i (some z)) p.2
  | _ => none
theorem pip_of {op : Operator} {r : R2} (h : OpR X (inplaceOp op) r) : PIp X op r := fun pins s σ H x y v u Q I rx ry q => h pins s σ H x y v u Q I rx ry q
theorem pds_aug {i : Nat} {x : Str} {e : Expr} {de : DE} {op : Operator} {r : R2} {g : Sto → Dt → Dt → Option Dt} {pos pos' : Pos} (hN : X.N.Nodup) (hi : X.N[i]? = some x) (hx : Loc X.env.scope x) (he : PD X e de) (ho : OpR X (inplaceOp op) r) (hr : RS X.K r g) (hf : X.fn x = true ∨ X.env.scope.names.lookup x = some .local := by first | exact .inl rfl | exact .inr rfl | assumption) :
    PDS X (.AugAssign (.Name x pos') op e pos) (dAug i de g) := by
  obtain ⟨te, pe, se⟩ := he
  refine ⟨_, ps_aug hN hi hx pe (pip_of ho) hf, fun σ H m ev st o S E h D q => ?_⟩
  unfold dAug at h
  split at h
  · rename_i d e0
    obtain ⟨⟨y, st1⟩, h1, h⟩ := Option.bind_eq_some_iff.mp h
    obtain ⟨z, h2, h⟩ := Option.map_eq_some_iff.mp h
    cases h
    obtain ⟨v0, e1, r0⟩ := E.2 i _ e0
    refine ⟨v0, e1, se σ H m ev st y _ S E h1 _ fun v1 H1 m1 s1 S1 r1 => ?_⟩
    exact hr H1 m1 _ d y z v0 v1 S1 (s1.rep r0) r1 h2 _ fun v H' s2 S2 r2 => q _ H' m1 (s1.trans s2) S2 ((E.stp (s1.trans s2)).set r2 i)
  · cases h

/-! ## while -/
def dWhileN (c : DT) (b : DS) : Nat → En → Sto → Option Out
  | 0, _, _ => none
  | n + 1, ev, st => (c ev st).bind fun p => if p.1 = true then (b ev p.2).bind fun o => match o with
      | .nx ev1 st1 => dWhileN c b n ev1 st1
      | .ct ev1 st1 => dWhileN c b n ev1 st1
      | .bk ev1 st1 => some (.nx ev1 st1)
      | .rt d st1 => some (.rt d st1)
    else some (.nx ev p.2)
def dWhile (n : Nat) (c : DT) (b : DS) : DS := dWhileN c b n
theorem pds_while {c : Expr} {body : List Stmt} {dc : DT} {db : DS} {pos : Pos} (n : Nat) (hp : PassesOwn (model X.prog X.w) X.A X.env X.xe) (hc : PDT X c dc) (hb : PDSs X body db) : PDS X (.While c body [] pos) (dWhile n dc db) := by
  obtain ⟨tc, pc, sc⟩ := hc
  obtain ⟨tb, pb, sb⟩ := hb
  refine ⟨_, ps_while hp pc pb, fun σ H m ev st o S E h D q => ?_⟩
  refine ⟨fun k σ1 H1 => ∃ m1 ev1 st1, Stp H m H1 m1 ∧ StR X.K H1 m1 st1 ∧ EnR X.K H1 m1 ev1 σ1 ∧ dWhileN dc db k ev1 st1 = some o, ⟨n, m, ev, st, Stp.refl H m, S, E, h⟩, ?_⟩
  rintro k σ1 H1 ⟨m1, ev1, st1, s1, S1, E1, h1⟩
  cases k with
  | zero => cases h1
  | succ k =>
    unfold dWhileN at h1
    obtain ⟨⟨x, st2⟩, h2, h1⟩ := Option.bind_eq_some_iff.mp h1
    refine sc σ1 H1 m1 ev1 st1 x st2 S1 E1 h2 _ fun H2 m2 s2 S2 => ?_
    cases x with
    | true =>
      rw [if_pos rfl] at h1
      rw [if_pos rfl]
      obtain ⟨o1, h3, h1⟩ := Option.bind_eq_some_iff.mp h1
      have s12 := s1.trans s2
      refine ⟨fun σ' H' => ∃ m' ev' st', Stp H m H' m' ∧ StR X.K H' m' st' ∧ EnR X.K H' m' ev' σ' ∧ dWhileN dc db k ev' st' = some o, fun σ' H' ⟨m', ev', st', a, b, c, d⟩ => ⟨k, Nat.lt_succ_self k, m', ev', st', a, b, c, d⟩, ?_⟩
      refine sb σ1 H2 m2 ev1 st2 o1 S2 (E1.stp s2) h3 _ ?_
      cases o1 with
      | nx ev3 st3 => exact fun σ' H' m' a b c => ⟨m', ev3, st3, s12.trans a, b, c, h1⟩
      | ct ev3 st3 => exact fun σ' H' m' a b c => ⟨m', ev3, st3, s12.trans a, b, c, h1⟩
      | bk ev3 st3 =>
        cases h1
        exact fun σ' H' m' a b c => q σ' H' m' (s12.trans a) b c
      | rt d st3 =>
        cases h1
        exact fun v H' m' a b c => q v H' m' (s12.trans a) b c
    | false =>
      rw [if_neg Bool.false_ne_true] at h1
      rw [if_neg Bool.false_ne_true]
      cases h1
      exact q σ1 H2 m2 (s1.trans s2) S2 (E1.stp s2)

/-! ## what is walked -/
structure Src where
  items : List Dt
  guard : Sto → Prop
abbrev DI := En → Sto → Option (Src × Sto)
structure ItOk (K : PySem.W.Frag) (J : It) (s : Src) (H0 : Hp) (m0 : MM) : Prop where
  go : ∀ (i : Nat) (H : Hp) (m : MM) (st : Sto), StpG H0 m0 H m → StR K H m st → s.guard st → i < s.items.length → J.go i H
  yld : ∀ (i : Nat) (H : Hp) (m : MM) (st : Sto), StpG H0 m0 H m → StR K H m st → s.guard st → i < s.items.length → ∀ x H', J.yld i H x H' → Stp H m H' m ∧ StR K H' m st ∧ ∃ d, s.items[i]? = some d ∧ Rep K (hid H' m) m d x
  stop : ∀ (i : Nat) (H : Hp) (m : MM) (st : Sto), StpG H0 m0 H m → StR K H m st → s.guard st → s.items.length ≤ i → J.stop i H
def SI (K : PySem.W.Frag) (wi : TI) (den : DI) : Prop := ∀ (σ : L2.St) (H : Hp) (m : MM) (ev : En) (st : Sto) (s : Src) (st' : Sto), StR K H m st → EnR K H m ev σ → den ev st = some (s, st') →
  ∀ R : It → Hp → Prop, (∀ J H' m', Stp H m H' m' → StR K H' m' st' → ItOk K J s H' m' → R J H') → wi σ H R
def PDI (X : Cx) (tg it : Expr) (den : DI) : Prop := ∃ t, PI X tg it t ∧ SI X.K t den
/-- a list: the items, and that it stays -/
def srcL (d : Dt) (ds : List Dt) : Src := ⟨ds, fun st => look st d = some ds⟩
def diLst (e : DE) : DI := fun ev st => (e ev st).bind fun p => (look p.2 p.1).map fun ds => (srcL p.1 ds, p.2)
theorem stp_look {K : PySem.W.Frag} {H H' : Hp} {m m' : MM} {st st' : Sto} {d : Dt} {ds : List Dt} {a : Addr} {vs : List V} (S : StR K H m st) (r : Rep K (hid H m) m d (.ref a)) (h : look st d = some ds) (hv : H a = some (.lst vs)) (rs : Reps K (hid H m) m ds vs) (s : StpG H m H' m') (S' : StR K H' m' st') (h' : look st' d = some ds) :
    ∃ vs', H' a = some (.lst vs') ∧ Reps K (hid H' m') m' ds vs' := by
  obtain ⟨a', vs', e, h1, h2⟩ := look_ok S' (s.rep r) h'
  cases e
  exact ⟨vs', h1, h2⟩
theorem itl_ok {K : PySem.W.Frag} {H : Hp} {m : MM} {st : Sto} {d : Dt} {ds : List Dt} {a : Addr} {vs : List V} (S : StR K H m st) (r : Rep K (hid H m) m d (.ref a)) (h : look st d = some ds) (hv : H a = some (.lst vs)) (rs : Reps K (hid H m) m ds vs) : ItOk K (Itl K a) (srcL d ds) H m where
  go := fun i H' m' st' s S' g hi => by
    obtain ⟨vs', h1, h2⟩ := stp_look S r h hv rs s S' g
    have hi' : i < vs'.length := by rw [← h2.length]; exact hi
    exact ⟨vs', vs'[i], .inl (.inl h1), List.getElem?_eq_getElem hi'⟩
  yld := fun i H' m' st' s S' g hi x H2 y => by
    obtain ⟨e, y⟩ := y
    subst e
    obtain ⟨vs', h1, h2⟩ := stp_look S r h hv rs s S' g
    obtain ⟨d', e1, r1⟩ := h2.getV (y vs' (.inl (.inl h1)))
    exact ⟨Stp.refl _ _, S', d', e1, r1⟩
  stop := fun i H' m' st' s S' g hi => by
    obtain ⟨vs', h1, h2⟩ := stp_look S r h hv rs s S' g
    exact ⟨vs', .inl (.inl h1), by rw [← h2.length]; exact hi⟩
theorem pdi_lst {tg e : Expr} {de : DE} (h : PD X e de) : PDI X tg e (diLst de) := by
  obtain ⟨t, p, s⟩ := h
  refine ⟨_, pi_list p, fun σ H m ev st sr st' S E h R q => ?_⟩
  unfold diLst at h
  obtain ⟨⟨d, st1⟩, h1, h⟩ := Option.bind_eq_some_iff.mp h
  obtain ⟨ds, h2, h⟩ := Option.map_eq_some_iff.mp h
  cases h
  refine s σ H m ev st d _ S E h1 _ fun v1 H1 m1 s1 S1 r1 => ?_
  obtain ⟨a, vs, e, h3, h4⟩ := look_ok S1 r1 h2
  subst e
  exact ⟨a, rfl, ⟨vs, .inl (.inl h3)⟩, q _ H1 m1 s1 S1 (itl_ok S1 r1 h2 h3 h4)⟩
/-- what stays by itself -/
def srcC (ds : List Dt) : Src := ⟨ds, fun _ => True⟩
def diTup (e : DE) : DI := fun ev st => match e ev st with
  | some (.tup ds, st1) => some (srcC ds, st1)
  | _ => none
theorem pdi_tup {tg e : Expr} {de : DE} (h : PD X e de) : PDI X tg e (diTup de) := by
  obtain ⟨t, p, s⟩ := h
  refine ⟨_, pi_tup p, fun σ H m ev st sr st' S E h R q => ?_⟩
  unfold diTup at h
  split at h
  · rename_i ds st1 h1
    cases h
    refine s σ H m ev st _ _ S E h1 _ fun v1 H1 m1 s1 S1 r1 => ?_
    cases r1 with
    | @tup a vs _ h2 h3 =>
      refine ⟨a, rfl, ⟨vs, (hid_ext H1 m1).sqT (TupAt.sq h2)⟩, q _ H1 m1 s1 S1 ?_⟩
      have key : ∀ (H' : Hp) (m' : MM), StpG H1 m1 H' m' → SqT X.K H' a vs := fun H' m' s => (hid_ext H' m').sqT (s.2.sqT (TupAt.sq h2))
      refine ⟨fun i H' m' st2 s S2 _ hi => ?_, fun i H' m' st2 s S2 _ hi x H2 y => ?_, fun i H' m' st2 s S2 _ hi => ?_⟩
      · have hi' : i < vs.length := by rw [← h3.length]; exact hi
        exact ⟨vs, vs[i], key H' m' s, List.getElem?_eq_getElem hi'⟩
      · obtain ⟨e, y⟩ := y
        subst e
        obtain ⟨d', e1, r1⟩ := (s.reps h3).getV (y vs (key _ _ s))
        exact ⟨Stp.refl _ _, S2, d', e1, r1⟩
      · exact ⟨vs, key _ _ s, by rw [← h3.length]; exact hi⟩
  · cases h
def diScr (e : DE) : DI := fun ev st => match e ev st with
  | some (.scr ns, st1) => some (srcC (ns.map .int), st1)
  | _ => none
def rngD (lo hi : Int) : List Dt := (List.range (hi - lo).toNat).map fun (i : Nat) => Dt.int (lo + (i : Int))
def okR (i : Int) : Bool := decide (-(2 ^ 62) ≤ i ∧ i < 2 ^ 62)
def diRng1 (a : DE) : DI := fun ev st => match a ev st with
  | some (.int n, st1) => if okR n then some (srcC (rngD 0 n), st1) else none
  | _ => none
def diRng2 (a b : DE) : DI := fun ev st => (a ev st).bind fun p => (b ev p.2).bind fun q => match p.1, q.1 with
  | .int i, .int j => if okR i && okR j then some (srcC (rngD i j), q.2) else none
  | _, _ => none
theorem itr_ok {K : PySem.W.Frag} {H : Hp} {m : MM} {lo hh : Int} : ItOk K (Itr lo (hh - lo).toNat) (srcC (rngD lo hh)) H m := by
  have hl : (rngD lo hh).length = (hh - lo).toNat := by unfold rngD; rw [List.length_map, List.length_range]
  refine ⟨fun i H' m' st s S g hi => ?_, fun i H' m' st s S g hi x H2 y => ?_, fun i H' m' st s S g hi => ?_⟩
  · exact Nat.lt_of_lt_of_eq hi hl
  · obtain ⟨e, y⟩ := y
    subst e y
    refine ⟨Stp.refl _ _, S, _, ?_, .int _⟩
    have hi' : i < (hh - lo).toNat := Nat.lt_of_lt_of_eq hi hl
    show (rngD lo hh)[i]? = _
    unfold rngD
    rw [List.getElem?_map, List.getElem?_range hi']
    rfl
  · have hi' : (rngD lo hh).length ≤ i := hi
    rw [hl] at hi'
    exact hi'
theorem pdi_rng1 {tg a : Expr} {da : DE} {p pos : Pos} (hg : Gl X "range") (hm : X.mg "range" = none) (ha : PD X a da) (hs : starEach [a] X.env = [(false, eval a X.env)] := by rfl) : PDI X tg (.Call (.Name "range" p) [a] [] pos) (diRng1 da) := by
  obtain ⟨t, pa, s⟩ := ha
  refine ⟨_, pi_range1 hg hm (pa_cons pa pa_nil (by rw [hs]; rfl)) hs, fun σ H m ev st sr st' S E h R q => ?_⟩
  unfold diRng1 at h
  split at h
  · rename_i n st1 h1
    split at h
    · rename_i hn
      cases h
      refine s σ H m ev st _ _ S E h1 _ fun v1 H1 m1 s1 S1 r1 => ?_
      cases r1
      have hn := of_decide_eq_true hn
      refine ⟨n, rfl, hn.1, hn.2, ?_⟩
      have e : n.toNat = (n - 0).toNat := by rw [Int.sub_zero]
      rw [e]
      exact q _ H1 m1 s1 S1 itr_ok
    · cases h
  · cases h
theorem pdi_rng2 {tg a b : Expr} {da db : DE} {p pos : Pos} (hg : Gl X "range") (hm : X.mg "range" = none) (ha : PD X a da) (hb : PD X b db) (hs : starEach [a, b] X.env = [(false, eval a X.env), (false, eval b X.env)] := by rfl) (hs2 : starEach [b] X.env = [(false, eval b X.env)] := by rfl) : PDI X tg (.Call (.Name "range" p) [a, b] [] pos) (diRng2 da db) := by
  obtain ⟨t, pa, s⟩ := ha
  obtain ⟨t2, pb, s2⟩ := hb
  refine ⟨_, pi_range2 hg hm (pa_cons pa (pa_cons pb pa_nil (by rw [hs2]; rfl)) (by rw [hs, hs2])) hs hs2, fun σ H m ev st sr st' S E h R q => ?_⟩
  unfold diRng2 at h
  obtain ⟨⟨x, st1⟩, h1, h⟩ := Option.bind_eq_some_iff.mp h
  obtain ⟨⟨y, st2⟩, h2, h⟩ := Option.bind_eq_some_iff.mp h
  refine s σ H m ev st x st1 S E h1 _ fun v1 H1 m1 s1 S1 r1 => ?_
  refine s2 σ H1 m1 ev st1 y st2 S1 (E.stp s1) h2 _ fun v2 H2 m2 s12 S2 r2 => ?_
  have key : ∃ i j : Int, x = .int i ∧ y = .int j ∧ okR i = true ∧ okR j = true ∧ srcC (rngD i j) = sr ∧ st2 = st' := by
    cases x <;> cases y <;> simp at h
    obtain ⟨⟨h1, h2⟩, h3, h4⟩ := h
    exact ⟨_, _, rfl, rfl, h1, h2, h3, h4⟩
  obtain ⟨i, j, rfl, rfl, h3, h4, rfl, rfl⟩ := key
  cases r1
  cases r2
  have h3 := of_decide_eq_true h3
  have h4 := of_decide_eq_true h4
  exact ⟨i, j, rfl, ⟨h3.1, h3.2, h4.1, h4.2⟩, q _ H2 m2 (s1.trans s12) S2 itr_ok⟩
/-- pairs of a number and an item, pairs of items -/
def enumD (n : Nat) : List Dt → List Dt
  | [] => []
  | d :: ds => .tup [.int (n : Int), d] :: enumD (n + 1) ds
def diEnum (e : DE) : DI := fun ev st => (e ev st).bind fun p => (look p.2 p.1).map fun ds => (⟨enumD 0 ds, fun st => look st p.1 = some ds⟩, p.2)
theorem enumD_length : ∀ (n : Nat) (ds : List Dt), (enumD n ds).length = ds.length
  | _, [] => rfl
  | n, d :: ds => by simp only [enumD, List.length_cons, enumD_length (n + 1) ds]
theorem enumD_get : ∀ (n : Nat) (ds : List Dt) (i : Nat) (d : Dt), ds[i]? = some d → (enumD n ds)[i]? = some (.tup [.int ((n + i : Nat) : Int), d])
  | _, [], i, d, h => by simp at h
  | n, x :: ds, 0, d, h => by
    simp at h
    subst h
    rfl
  | n, x :: ds, i + 1, d, h => by
    have := enumD_get (n + 1) ds i d (by simpa using h)
    simp only [enumD, List.getElem?_cons_succ, this]
    rw [show n + 1 + i = n + (i + 1) by omega]
theorem pdi_enum {e : Expr} {de : DE} {p pos tpos : Pos} {elts : List Expr} {kk : Nat} (hg : Gl X "enumerate") (hm : X.mg "enumerate" = none) (h : PD X e de) (hs : starEach [e] X.env = [(false, eval e X.env)] := by rfl) :
    PDI X (.Tuple elts kk tpos) (.Call (.Name "enumerate" p) [e] [] pos) (diEnum de) := by
  obtain ⟨t, pa, s⟩ := h
  refine ⟨_, pi_enum hg hm (pa_cons pa pa_nil (by rw [hs]; rfl)) hs, fun σ H m ev st sr st' S E h R q => ?_⟩
  unfold diEnum at h
  obtain ⟨⟨d, st1⟩, h1, h⟩ := Option.bind_eq_some_iff.mp h
  obtain ⟨ds, h2, h⟩ := Option.map_eq_some_iff.mp h
  cases h
  refine s σ H m ev st d _ S E h1 _ fun v1 H1 m1 s1 S1 r1 => ?_
  obtain ⟨a, vs, e, h3, h4⟩ := look_ok S1 r1 h2
  subst e
  refine ⟨a, vs, rfl, .inl (.inl h3), q _ H1 m1 s1 S1 ?_⟩
  refine ⟨fun i H' m' st2 s S2 g hi => ?_, fun i H' m' st2 s S2 g hi x H2 y => ?_, fun i H' m' st2 s S2 g hi => ?_⟩
  · obtain ⟨vs', h5, h6⟩ := stp_look S1 r1 h2 h3 h4 s S2 g
    have hi' : i < vs'.length := by rw [← h6.length, ← enumD_length 0 ds]; exact hi
    exact ⟨vs', vs'[i], .inl (.inl h5), List.getElem?_eq_getElem hi'⟩
  · obtain ⟨vs', h5, h6⟩ := stp_look S1 r1 h2 h3 h4 s S2 g
    obtain ⟨T, x0, rfl, hT, rfl, hx⟩ := y
    obtain ⟨d', e1, r2⟩ := h6.getV (hx vs' (.inl (.inl h5)))
    obtain ⟨a1, a2, a3⟩ := mk_tup (K := X.K) (z := [.int ((i : Nat) : Int), d']) (zs := [.int ((i : Nat) : Int), x0]) S2 hT (.cons (.int _) (.cons r2 .nil))
    refine ⟨a1, a2, _, ?_, a3⟩
    have := enumD_get 0 ds i d' e1
    rw [Nat.zero_add] at this
    exact this
  · obtain ⟨vs', h5, h6⟩ := stp_look S1 r1 h2 h3 h4 s S2 g
    exact ⟨vs', .inl (.inl h5), by rw [← h6.length, ← enumD_length 0 ds]; exact hi⟩
def zipD (as bs : List Dt) : List Dt := List.zipWith (fun a b => .tup [a, b]) as bs
def diZip (a b : DE) : DI := fun ev st => (a ev st).bind fun p => (b ev p.2).bind fun q => (look q.2 p.1).bind fun as => (look q.2 q.1).map fun bs => (⟨zipD as bs, fun st => look st p.1 = some as ∧ look st q.1 = some bs⟩, q.2)
theorem pdi_zip {e e2 : Expr} {da db : DE} {p pos tpos : Pos} {elts : List Expr} {kk : Nat} (hg : Gl X "zip") (hm : X.mg "zip" = none) (ha : PD X e da) (hb : PD X e2 db)
    (hs : starEach [e, e2] X.env = (false, eval e X.env) :: starEach [e2] X.env := by rfl) (hs2 : starEach [e2] X.env = [(false, eval e2 X.env)] := by rfl) (hpl : (backTo pos (starEach [e2] X.env)).any (·.1) = false := by rfl) :
    PDI X (.Tuple elts kk tpos) (.Call (.Name "zip" p) [e, e2] [] pos) (diZip da db) := by
  obtain ⟨t, pa, s⟩ := ha
  obtain ⟨t2, pb, s2⟩ := hb
  refine ⟨_, pi_zip hg hm (pa_cons pa (pa_cons pb pa_nil (by rw [hs2]; rfl)) hs) hs hpl, fun σ H m ev st sr st' S E h R q => ?_⟩
  unfold diZip at h
  obtain ⟨⟨x, st1⟩, h1, h⟩ := Option.bind_eq_some_iff.mp h
  obtain ⟨⟨y, st2⟩, h2, h⟩ := Option.bind_eq_some_iff.mp h
  obtain ⟨as, h3, h⟩ := Option.bind_eq_some_iff.mp h
  obtain ⟨bs, h4, h⟩ := Option.map_eq_some_iff.mp h
  cases h
  refine s σ H m ev st x st1 S E h1 _ fun v1 H1 m1 s1 S1 r1 => ?_
  refine s2 σ H1 m1 ev st1 y _ S1 (E.stp s1) h2 _ fun v2 H2 m2 s12 S2 r2 => ?_
  obtain ⟨a, vs, e, h5, h6⟩ := look_ok S2 (s12.rep r1) h3
  subst e
  obtain ⟨b, us, e, h7, h8⟩ := look_ok S2 r2 h4
  subst e
  have hl : (zipD as bs).length = min as.length bs.length := by unfold zipD; rw [List.length_zipWith]
  refine ⟨a, b, vs, us, rfl, .inl (.inl h5), .inl (.inl h7), q _ H2 m2 (s1.trans s12) S2 ?_⟩
  refine ⟨fun i H' m' st2 s S3 g hi => ?_, fun i H' m' st2 s S3 g hi x H2 y => ?_, fun i H' m' st2 s S3 g hi => ?_⟩
  · obtain ⟨vs', h9, h10⟩ := stp_look S2 (s12.rep r1) h3 h5 h6 s S3 g.1
    obtain ⟨us', h11, h12⟩ := stp_look S2 r2 h4 h7 h8 s S3 g.2
    have hi : i < min as.length bs.length := Nat.lt_of_lt_of_eq hi hl
    have hi1 : i < vs'.length := by rw [← h10.length]; omega
    have hi2 : i < us'.length := by rw [← h12.length]; omega
    exact ⟨vs', us', vs'[i], us'[i], .inl (.inl h9), .inl (.inl h11), List.getElem?_eq_getElem hi1, List.getElem?_eq_getElem hi2⟩
  · obtain ⟨vs', h9, h10⟩ := stp_look S2 (s12.rep r1) h3 h5 h6 s S3 g.1
    obtain ⟨us', h11, h12⟩ := stp_look S2 r2 h4 h7 h8 s S3 g.2
    obtain ⟨T, x0, y0, rfl, hT, rfl, hx, hy⟩ := y
    obtain ⟨d1, e1, r3⟩ := h10.getV (hx vs' (.inl (.inl h9)))
    obtain ⟨d2, e2, r4⟩ := h12.getV (hy us' (.inl (.inl h11)))
    obtain ⟨a1, a2, a3⟩ := mk_tup (K := X.K) (z := [d1, d2]) (zs := [x0, y0]) S3 hT (.cons r3 (.cons r4 .nil))
    refine ⟨a1, a2, _, ?_, a3⟩
    show (zipD as bs)[i]? = _
    unfold zipD
    rw [List.getElem?_zipWith, e1, e2]
  · obtain ⟨vs', h9, h10⟩ := stp_look S2 (s12.rep r1) h3 h5 h6 s S3 g.1
    obtain ⟨us', h11, h12⟩ := stp_look S2 r2 h4 h7 h8 s S3 g.2
    have hi : (zipD as bs).length ≤ i := hi
    rw [hl] at hi
    refine ⟨vs', us', .inl (.inl h9), .inl (.inl h11), ?_⟩
    have := h10.length
    have := h12.length
    omega

/-! ## for -/
open Classical in
noncomputable def dForL (g : DG) (b : DS) (guard : Sto → Prop) : List Dt → En → Sto → Option Out
  | [], ev, st => if guard st then some (.nx ev st) else none
  | d :: ds, ev, st => if guard st then (g st d ev).bind fun ev1 => (b ev1 st).bind fun o => match o with
      | .nx ev2 st2 => dForL g b guard ds ev2 st2
      | .ct ev2 st2 => dForL g b guard ds ev2 st2
      | .bk ev2 st2 => some (.nx ev2 st2)
      | .rt d st2 => some (.rt d st2)
    else none
noncomputable def dFor (i : DI) (g : DG) (b : DS) : DS := fun ev st => (i ev st).bind fun p => dForL g b p.1.guard p.1.items ev p.2
theorem pds_for {tg iter : Expr} {body : List Stmt} {pos : Pos} {di : DI} {dg : DG} {db : DS} {js : List Nat} (hp : PassesOwn (model X.prog X.w) X.A X.env X.xe) (hc : X.calm = true) (hi : PDI X tg iter di) (hg : PDG X tg dg js) (hb : PDSs X body db)
    (hs : ∀ x, foldedSetIterable iter X.env x = pure x := by intro _; rfl) : PDS X (.For tg iter body [] pos) (dFor di dg db) := by
  obtain ⟨ti, pi, si⟩ := hi
  obtain ⟨tg, pg, sg⟩ := hg
  obtain ⟨tb, pb, sb⟩ := hb
  refine ⟨_, ps_for hp hc pi pg pb hs, fun σ H m ev st o S E h D q => ?_⟩
  unfold dFor at h
  obtain ⟨⟨sr, st0⟩, h0, h⟩ := Option.bind_eq_some_iff.mp h
  simp only at h
  refine si σ H m ev st sr st0 S E h0 _ fun J H0 m0 s0 S0 ok => ?_
  refine ⟨fun i k σ1 H1 => k = sr.items.length - i ∧ i ≤ sr.items.length ∧ ∃ m1 ev1 st1, Stp H0 m0 H1 m1 ∧ StR X.K H1 m1 st1 ∧ EnR X.K H1 m1 ev1 σ1 ∧ dForL dg db sr.guard (sr.items.drop i) ev1 st1 = some o,
    ⟨sr.items.length, by simp, Nat.zero_le _, m0, ev, st0, Stp.refl _ _, S0, E.stp s0, by simpa using h⟩, ?_⟩
  rintro i k σ1 H1 ⟨rfl, hil, m1, ev1, st1, s1, S1, E1, h1⟩
  by_cases hlt : i < sr.items.length
  · rw [List.drop_eq_getElem_cons hlt] at h1
    unfold dForL at h1
    split at h1
    · rename_i hgd
      obtain ⟨ev2, h2, h1⟩ := Option.bind_eq_some_iff.mp h1
      obtain ⟨o1, h3, h1⟩ := Option.bind_eq_some_iff.mp h1
      refine .inr ⟨ok.go i H1 m1 st1 s1.toG S1 hgd hlt, fun σ' H' => ∃ m' ev' st', Stp H0 m0 H' m' ∧ StR X.K H' m' st' ∧ EnR X.K H' m' ev' σ' ∧ dForL dg db sr.guard (sr.items.drop (i + 1)) ev' st' = some o,
        fun σ' H' ⟨m', ev', st', a, b, c, d⟩ => ⟨sr.items.length - (i + 1), by omega, rfl, hlt, m', ev', st', a, b, c, d⟩, fun x H' y => ?_⟩
      obtain ⟨y1, y2, d, y3, y4⟩ := ok.yld i H1 m1 st1 s1.toG S1 hgd hlt x H' y
      rw [List.getElem?_eq_getElem hlt] at y3
      cases y3
      refine sg x σ1 H' m1 ev1 st1 _ ev2 y2 (E1.stp y1) y4 h2 _ fun σ2 E2 _ _ => ?_
      refine sb σ2 H' m1 ev2 st1 o1 y2 E2 h3 _ ?_
      have s2 := s1.trans y1
      cases o1 with
      | nx ev3 st3 => exact fun σ' H' m' a b c => ⟨m', ev3, st3, s2.trans a, b, c, h1⟩
      | ct ev3 st3 => exact fun σ' H' m' a b c => ⟨m', ev3, st3, s2.trans a, b, c, h1⟩
      | bk ev3 st3 =>
        cases h1
        exact fun σ' H' m' a b c => q σ' H' m' ((s0.trans s2).trans a) b c
      | rt d st3 =>
        cases h1
        exact fun v H' m' a b c => q v H' m' ((s0.trans s2).trans a) b c
    · cases h1
  · have hi' : sr.items.length ≤ i := by omega
    rw [List.drop_eq_nil_of_le hi'] at h1
    unfold dForL at h1
    split at h1
    · rename_i hgd
      cases h1
      exact .inl ⟨ok.stop i H1 m1 st1 s1.toG S1 hgd hi', q σ1 H1 m1 (s0.trans s1) S1 E1⟩
    · cases h1
end
end PD

namespace PD
open PySem PySem.Spec PyProof.Rows L2

/-! ## comprehensions -/
def wipeE (ev : En) : List Nat → En
  | [] => ev
  | v :: vs => (wipeE ev vs).set v none
theorem EnR.wipe {K : PySem.W.Frag} {H : Hp} {m : MM} {ev : En} {σ : L2.St} (e : EnR K H m ev σ) : ∀ vs : List Nat, EnR K H m (wipeE ev vs) (L2.wipe σ vs)
  | [] => e
  | v :: vs => by
    have ih := EnR.wipe e vs
    refine ⟨by simp only [wipeE, L2.wipe, List.length_set]; exact ih.1, fun i d h => ?_⟩
    simp only [wipeE, L2.wipe] at h ⊢
    by_cases hv : v = i
    · subst hv
      by_cases hl : v < (wipeE ev vs).length
      · rw [List.getElem?_set_self hl] at h; cases h
      · rw [List.getElem?_eq_none (by rw [List.length_set]; omega)] at h; cases h
    · rw [List.getElem?_set_ne hv] at h ⊢
      exact ih.2 i d h
theorem wipe_get {σ : L2.St} {i : Nat} : ∀ {vs : List Nat}, i < σ.length → (L2.wipe σ vs)[i]? = if i ∈ vs then some none else σ[i]?
  | [], _ => by simp [L2.wipe]
  | v :: vs, h => by
    have hl : i < (L2.wipe σ vs).length := by rw [wipe_length]; exact h
    simp only [L2.wipe]
    by_cases hv : v = i
    · subst hv
      rw [List.getElem?_set_self hl]
      simp
    · rw [List.getElem?_set_ne hv, wipe_get (vs := vs) h]
      simp [Ne.symm hv]
theorem wipe_same {σ τ : L2.St} {vs js : List Nat} (hl : τ.length = σ.length) (hj : ∀ j ∈ js, j ∈ vs) (h : ∀ j, j ∉ js → τ[j]? = (L2.wipe σ vs)[j]?) : L2.wipe τ vs = L2.wipe σ vs := by
  refine List.ext_getElem? fun i => ?_
  by_cases hi : i < σ.length
  · rw [wipe_get (by omega), wipe_get hi]
    by_cases hm : i ∈ vs
    · rw [if_pos hm, if_pos hm]
    · rw [if_neg hm, if_neg hm, h i (fun q => hm (hj i q)), wipe_get hi, if_neg hm]
  · rw [List.getElem?_eq_none (by rw [wipe_length]; omega), List.getElem?_eq_none (by rw [wipe_length]; omega)]
open Classical in
/-- the comprehension's turns: what is made so far, then the rest -/
noncomputable def dLcL (g : DG) (t : DT) (e : DE) (guard : Sto → Prop) (ev : En) : List Dt → List Dt → Sto → Option (List Dt × Sto)
  | [], acc, st => if guard st then some (acc, st) else none
  | d :: ds, acc, st => if guard st then (g st d ev).bind fun ev1 => (t ev1 st).bind fun p => if p.1 = true then (e ev1 p.2).bind fun q => if acc.length < 1000000 then dLcL g t e guard ev ds (acc ++ [q.1]) q.2 else none
      else dLcL g t e guard ev ds acc p.2
    else none
noncomputable def dLcX (i : DI) (g : DG) (t : DT) (e : DE) (vs : List Nat) : DA := fun ev st => (i ev st).bind fun p => dLcL g t e p.1.guard (wipeE ev vs) p.1.items [] p.2
noncomputable def dLc (i : DI) (g : DG) (t : DT) (e : DE) (vs : List Nat) : DE := fun ev st => (dLcX i g t e vs ev st).map fun p => (.lst p.1, p.2)
noncomputable def dLcM (i : DI) (g : DG) (t : DT) (e : DE) (vs : List Nat) : DE := fun ev st => (dLcX i g t e vs ev st).map fun p => (.ptr p.2.length, p.2 ++ [.lst p.1])
def dYes : DT := fun _ st => some (true, st)
def PDTs (X : Cx) (ifs : List Expr) (den : DT) : Prop := ∃ t, PTs X ifs t ∧ ST X.K t den
section
variable {X : Cx}
theorem pdts_nil : PDTs X [] dYes := ⟨_, pts_nil, fun σ H m ev st d st' S E h Q q => by
  cases h
  exact q H m (Stp.refl _ _) S⟩
theorem pdts_one {c : Expr} {d : DT} (h : PDT X c d) : PDTs X [c] d := let ⟨_, p, s⟩ := h; ⟨_, pts_one p, s⟩
/-- one reading for all contexts of the block -/
def PDG' (X : Cx) (scope : Scope) (tg : Expr) (den : DG) (js : List Nat) : Prop := ∃ t, (∀ (s : Shared) (H : Hp) (C : Addr) (cl : List (Str × Addr)) (fp : List Addr), PG (X.blk s H scope (compEnvC scope cl C X.env) fp) tg t) ∧ SG X.K t den js
def PDTs' (X : Cx) (scope : Scope) (ifs : List Expr) (den : DT) : Prop := ∃ t, (∀ (s : Shared) (H : Hp) (C : Addr) (cl : List (Str × Addr)) (fp : List Addr), PTs (X.blk s H scope (compEnvC scope cl C X.env) fp) ifs t) ∧ ST X.K t den
def PD' (X : Cx) (scope : Scope) (e : Expr) (den : DE) : Prop := ∃ t, (∀ (s : Shared) (H : Hp) (C : Addr) (cl : List (Str × Addr)) (fp : List Addr), PE (X.blk s H scope (compEnvC scope cl C X.env) fp) e t) ∧ SE X.K t den
/-- readings chosen by the context may be taken as one: all of them hold -/
theorem pd'_of {scope : Scope} {e : Expr} {den : DE} (h : ∀ (s : Shared) (H : Hp) (C : Addr) (cl : List (Str × Addr)) (fp : List Addr), PD (X.blk s H scope (compEnvC scope cl C X.env) fp) e den) : PD' X scope e den :=
  ⟨fun σ H Q => ∀ (s0 : Shared) (H0 : Hp) (C : Addr) (cl : List (Str × Addr)) (fp : List Addr), (h s0 H0 C cl fp).choose σ H Q, fun s H C cl fp => ⟨fun pins s' σ H' Q I hq => (h s H C cl fp).choose_spec.1.run pins s' σ H' Q I (hq s H C cl fp)⟩,
   fun σ H m ev st d st' S E hd Q q s0 H0 C cl fp => (h s0 H0 C cl fp).choose_spec.2 σ H m ev st d st' S E hd Q q⟩
theorem pdt'_of {scope : Scope} {ifs : List Expr} {den : DT} (h : ∀ (s : Shared) (H : Hp) (C : Addr) (cl : List (Str × Addr)) (fp : List Addr), PDTs (X.blk s H scope (compEnvC scope cl C X.env) fp) ifs den) : PDTs' X scope ifs den :=
  ⟨fun σ H Q => ∀ (s0 : Shared) (H0 : Hp) (C : Addr) (cl : List (Str × Addr)) (fp : List Addr), (h s0 H0 C cl fp).choose σ H Q, fun s H C cl fp => ⟨fun pins s' σ H' Q I hq => (h s H C cl fp).choose_spec.1.run pins s' σ H' Q I (hq s H C cl fp)⟩,
   fun σ H m ev st d st' S E hd Q q s0 H0 C cl fp => (h s0 H0 C cl fp).choose_spec.2 σ H m ev st d st' S E hd Q q⟩
theorem pdg'_of {scope : Scope} {tg : Expr} {den : DG} {js : List Nat} (h : ∀ (s : Shared) (H : Hp) (C : Addr) (cl : List (Str × Addr)) (fp : List Addr), PDG (X.blk s H scope (compEnvC scope cl C X.env) fp) tg den js) : PDG' X scope tg den js :=
  ⟨fun v σ H Q => ∀ (s0 : Shared) (H0 : Hp) (C : Addr) (cl : List (Str × Addr)) (fp : List Addr), (h s0 H0 C cl fp).choose v σ H Q, fun s H C cl fp => ⟨fun pins s' σ H' v u Q I r hq => (h s H C cl fp).choose_spec.1.run pins s' σ H' v u Q I r (hq s H C cl fp)⟩,
   fun v σ H m ev st d ev' S E r hd Q q s0 H0 C cl fp => (h s0 H0 C cl fp).choose_spec.2 v σ H m ev st d ev' S E r hd Q q⟩
theorem se_lcX {scope : Scope} {tg iter elt : Expr} {ifs : List Expr} {pos : Pos} {own : List (Str × Nat)} {di : DI} {dg : DG} {dt : DT} {de : DE} {js : List Nat}
    (hc : X.calm = true) (hN : X.N.Nodup) (hi : PDI X tg iter di) (ok : BlkOk X.N X.env.scope scope own)
    (hg : ∀ (s : Shared) (H : Hp) (C : Addr) (cl : List (Str × Addr)) (fp : List Addr), PDG (X.blk s H scope (compEnvC scope cl C X.env) fp) tg dg js) (ht : ∀ (s : Shared) (H : Hp) (C : Addr) (cl : List (Str × Addr)) (fp : List Addr), PDTs (X.blk s H scope (compEnvC scope cl C X.env) fp) ifs dt)
    (he : ∀ (s : Shared) (H : Hp) (C : Addr) (cl : List (Str × Addr)) (fp : List Addr), PD (X.blk s H scope (compEnvC scope cl C X.env) fp) elt de) (hj : ∀ j ∈ js, j ∈ own.map (·.2)) :
    ∃ wi g tt te, PI X tg iter wi ∧ (∀ (s : Shared) (H : Hp) (C : Addr) (cl : List (Str × Addr)) (fp : List Addr), PG (X.blk s H scope (compEnvC scope cl C X.env) fp) tg g) ∧ (∀ (s : Shared) (H : Hp) (C : Addr) (cl : List (Str × Addr)) (fp : List Addr), PTs (X.blk s H scope (compEnvC scope cl C X.env) fp) ifs tt) ∧
      (∀ (s : Shared) (H : Hp) (C : Addr) (cl : List (Str × Addr)) (fp : List Addr), PE (X.blk s H scope (compEnvC scope cl C X.env) fp) elt te) ∧
      ∀ (σ : L2.St) (H : Hp) (m : MM) (ev : En) (st : Sto) (ds : List Dt) (st' : Sto), StR X.K H m st → EnR X.K H m ev σ → dLcX di dg dt de (own.map (·.2)) ev st = some (ds, st') →
        ∀ Q : VK, (∀ D H' m' vs, ¬ m'.has D → H D = none → H' D = some (.lst vs) → Stp H m H' m' → StR X.K H' (m'.gh D) st' → Reps X.K (hid H' (m'.gh D)) (m'.gh D) ds vs → Q (.ref D) H') → tLc wi g tt te (own.map (·.2)) σ H Q := by
  obtain ⟨wi, pi, si⟩ := hi
  obtain ⟨g, pg, sg⟩ := pdg'_of hg
  obtain ⟨tt, pt, stt⟩ := pdt'_of ht
  obtain ⟨te, pe, se⟩ := pd'_of he
  refine ⟨wi, g, tt, te, pi, pg, pt, pe, fun σ H m ev st ds st' S E h Q q => ?_⟩
  unfold dLcX at h
  obtain ⟨⟨sr, st0⟩, h0, h⟩ := Option.bind_eq_some_iff.mp h
  simp only at h
  refine si σ H m ev st sr st0 S E h0 _ fun J H0 m0 s0 S0 ok => ?_
  intro D hD
  have hDf : ¬ m0.has D := S0.fresh hD
  have hDH : H D = none := by
    cases hq : H D with
    | none => rfl
    | some o =>
      by_cases hm : m.has D
      · rcases hm with hm | hm
        · exact absurd (.inl (s0.1.1.subset hm)) hDf
        · exact absurd (.inr (by rw [← s0.1.2]; exact hm)) hDf
      · have := (hid_some.mp (s0.2.1 D o (hid_some.mpr ⟨hm, hq⟩))).2
        rw [hD] at this; cases this
  have G0 : StpG H0 m0 (upd H0 D (.lst [])) (m0.gh D) := ⟨List.prefix_refl _, by rw [hid_gh_upd hD]; exact Ext.refl _⟩
  have P0 : Stp (upd H0 D (.lst [])) (m0.gh D) (upd H0 D (.lst [])) (m0.gh D) := Stp.refl _ _
  have E0 : EnR X.K H0 m0 ev σ := E.stp s0
  -- what is known at a turn
  refine ⟨fun i k H1 => k = sr.items.length - i ∧ i ≤ sr.items.length ∧ ∃ (m1 : MM), ∃ st1 acc vs, m0.m <+: m1.m ∧ m1.g = m0.g ∧ Ext (hid H0 m0) (hid H1 (m1.gh D)) ∧ (∀ a ∈ m0.g, H1 a = H0 a) ∧ StR X.K H1 (m1.gh D) st1 ∧ H1 D = some (.lst vs) ∧ Reps X.K (hid H1 (m1.gh D)) (m1.gh D) acc vs ∧ dLcL dg dt de sr.guard (wipeE ev (own.map (·.2))) (sr.items.drop i) acc st1 = some (ds, st'),
    ⟨sr.items.length, by simp, Nat.zero_le _, m0, st0, [], [], List.prefix_refl _, rfl, G0.2, (fun a ha => let ⟨⟨_, e⟩, _⟩ := S0.gh a ha; upd_ne (ne_of_none e hD)), S0.ghIn hD, upd_same, .nil, by simpa using h⟩, ?_⟩
  rintro i k H1 ⟨rfl, hil, m1, st1, acc, vs, hm1, hg1, x1, gg1, S1, hL, rA, h1⟩
  have G1 : StpG H0 m0 H1 (m1.gh D) := ⟨hm1, x1⟩
  have E1 : EnR X.K H1 (m1.gh D) (wipeE ev (own.map (·.2))) (L2.wipe σ (own.map (·.2))) := by
    have e0 : EnR X.K H1 (m1.gh D) ev σ := ⟨E0.1, fun i d hh => let ⟨v, a, b⟩ := E0.2 i d hh; ⟨v, a, G1.rep b⟩⟩
    exact e0.wipe _
  by_cases hlt : i < sr.items.length
  · rw [List.drop_eq_getElem_cons hlt] at h1
    unfold dLcL at h1
    split at h1
    · rename_i hgd
      obtain ⟨ev2, h2, h1⟩ := Option.bind_eq_some_iff.mp h1
      obtain ⟨⟨b, st2⟩, h3, h1⟩ := Option.bind_eq_some_iff.mp h1
      refine .inr ⟨ok.go i H1 (m1.gh D) st1 G1 S1 hgd hlt, fun H' => ∃ (m' : MM), ∃ st1' acc' vs', m0.m <+: m'.m ∧ m'.g = m0.g ∧ Ext (hid H0 m0) (hid H' (m'.gh D)) ∧ (∀ a ∈ m0.g, H' a = H0 a) ∧ StR X.K H' (m'.gh D) st1' ∧ H' D = some (.lst vs') ∧ Reps X.K (hid H' (m'.gh D)) (m'.gh D) acc' vs' ∧ dLcL dg dt de sr.guard (wipeE ev (own.map (·.2))) (sr.items.drop (i + 1)) acc' st1' = some (ds, st'),
        fun H' ⟨m', st1', acc', vs', a, b, c, d, e, f, g, h⟩ => ⟨sr.items.length - (i + 1), by omega, rfl, hlt, m', st1', acc', vs', a, b, c, d, e, f, g, h⟩, fun x H' y => ?_⟩
      obtain ⟨y1, y2, dx, y3, y4⟩ := ok.yld i H1 (m1.gh D) st1 G1 S1 hgd hlt x H' y
      rw [List.getElem?_eq_getElem hlt] at y3
      cases y3
      refine sg x _ H' (m1.gh D) _ st1 _ ev2 y2 (E1.stp y1) y4 h2 _ fun σ2 E2 k2 l2 => ?_
      refine ⟨wipe_same (by rw [l2, wipe_length]) hj k2, ?_⟩
      refine stt σ2 H' (m1.gh D) ev2 st1 b st2 y2 E2 h3 _ fun H3 m3 s3 S3 => ?_
      -- beside the store D stands as it stood
      have back : ∀ (mm : MM) (Hh : Hp), Stp H1 (m1.gh D) Hh mm → ∃ mq : MM, mm = mq.gh D ∧ m0.m <+: mq.m ∧ mq.g = m0.g := fun mm Hh s => ⟨⟨mm.m, m1.g⟩, by
        obtain ⟨a, b⟩ := s.1
        cases mm
        simp only [MM.gh] at b ⊢
        exact ⟨by rw [← b], hm1.trans s.1.1, hg1⟩⟩
      have s13 := y1.trans s3
      cases b with
      | true =>
        simp only [if_true] at h1 ⊢
        obtain ⟨⟨dz, st4⟩, h4, h1⟩ := Option.bind_eq_some_iff.mp h1
        refine se σ2 H3 m3 ev2 st2 dz st4 S3 (E2.stp s3) h4 _ fun v4 H4 m4 s4 S4 r4 => ?_
        have s14 := s13.trans s4
        obtain ⟨mq, rfl, z1, z2⟩ := back m4 H4 s14
        simp only at h1
        split at h1
        · rename_i hlen
          have hL4 : H4 D = some (.lst vs) := (s14.2.2 D List.mem_cons_self).trans hL
          have hl : acc.length = vs.length := rA.length
          refine ⟨vs, hL4, by rw [← hl]; exact Nat.lt_of_lt_of_le hlen (by decide), mq, st4, acc ++ [dz], vs ++ [v4], z1, z2, ?_, fun a ha => ?_, S4.ghUpd, upd_same, ?_, h1⟩
          · rw [hid_upd_gh]; exact x1.trans s14.2.1
          · have hne : a ≠ D := fun e => hDf (.inr (by rw [← e]; exact ha))
            rw [upd_ne hne, s14.2.2 a (List.mem_cons_of_mem _ (by rw [hg1]; exact ha)), gg1 a ha]
          · rw [hid_upd_gh]
            exact (s14.reps rA).append (.cons r4 .nil)
        · cases h1
      | false =>
        simp only [Bool.false_eq_true, if_false] at h1 ⊢
        obtain ⟨mq, rfl, z1, z2⟩ := back m3 H3 s13
        refine ⟨mq, st2, acc, vs, z1, z2, x1.trans s13.2.1, fun a ha => ?_, S3, (s13.2.2 D List.mem_cons_self).trans hL, s13.reps rA, h1⟩
        rw [s13.2.2 a (List.mem_cons_of_mem _ (by rw [hg1]; exact ha)), gg1 a ha]
    · cases h1
  · have hi' : sr.items.length ≤ i := by omega
    rw [List.drop_eq_nil_of_le hi'] at h1
    unfold dLcL at h1
    split at h1
    · rename_i hgd
      cases h1
      have hD1 : ¬ m1.has D := fun z => by
        rcases z with z | z
        · exact (S1.gh D List.mem_cons_self).2 z
        · exact hDf (.inr (by rw [← hg1]; exact z))
      exact .inl ⟨ok.stop i H1 (m1.gh D) _ G1 S1 hgd hi', q D H1 m1 vs hD1 hDH hL (s0.trans ⟨⟨hm1, hg1.symm⟩, x1.trans ext_gh, gg1⟩) S1 rA⟩
    · cases h1
theorem pd_lc {scope : Scope} {tg iter elt : Expr} {ifs : List Expr} {pos : Pos} {own : List (Str × Nat)} {di : DI} {dg : DG} {dt : DT} {de : DE} {js : List Nat}
    (hc : X.calm = true) (hN : X.N.Nodup) (hi : PDI X tg iter di) (ok : BlkOk X.N X.env.scope scope own)
    (hg : ∀ (s : Shared) (H : Hp) (C : Addr) (cl : List (Str × Addr)) (fp : List Addr), PDG (X.blk s H scope (compEnvC scope cl C X.env) fp) tg dg js) (ht : ∀ (s : Shared) (H : Hp) (C : Addr) (cl : List (Str × Addr)) (fp : List Addr), PDTs (X.blk s H scope (compEnvC scope cl C X.env) fp) ifs dt)
    (he : ∀ (s : Shared) (H : Hp) (C : Addr) (cl : List (Str × Addr)) (fp : List Addr), PD (X.blk s H scope (compEnvC scope cl C X.env) fp) elt de) (hj : ∀ j ∈ js, j ∈ own.map (·.2)) (hs : ∀ x, foldedSetIterable iter X.env x = pure x := by intro _; rfl) :
    PD X (.ListComp elt [⟨tg, iter, ifs, 0⟩] scope pos) (dLc di dg dt de (own.map (·.2))) := by
  obtain ⟨wi, g, tt, te, pi, pg, pt, pe, se⟩ := se_lcX (pos := pos) hc hN hi ok hg ht he hj
  refine ⟨_, pe_lc hc hN pi ok pg pt pe hs, fun σ H m ev st d st' S E h Q q => ?_⟩
  unfold dLc at h
  obtain ⟨⟨ds, st1⟩, h1, h⟩ := Option.map_eq_some_iff.mp h
  cases h
  refine se σ H m ev st ds _ S E h1 Q fun D H' m' vs hD hDn hL s S' r => q _ H' m' s S'.ghOut (.lst (hid_some.mpr ⟨hD, hL⟩) (reps_ungh r))
theorem upd_self {H : Hp} {D : Addr} {o : HO} (h : H D = some o) : upd H D o = H := by
  funext b
  simp only [upd]
  by_cases hb : b = D
  · subst hb; simp [h]
  · simp [hb]
/-- the ghost becomes the store's last -/
theorem ghM {K : PySem.W.Frag} {H H' : Hp} {m m' : MM} {D : Addr} {vs : List V} {ds : List Dt} {st' : Sto} (hDn : H D = none) (hD : ¬ m'.has D) (hL : H' D = some (.lst vs)) (s : Stp H m H' m') (S' : StR K H' (m'.gh D) st') (r : Reps K (hid H' (m'.gh D)) (m'.gh D) ds vs) :
    Stp H m H' (m'.add D) ∧ StR K H' (m'.add D) (st' ++ [.lst ds]) ∧ Rep K (hid H' (m'.add D)) (m'.add D) (.ptr st'.length) (.ref D) := by
  have hh : hid H' (m'.gh D) = hid H' (m'.add D) := by
    funext b
    simp only [hid, MM.has, MM.gh, MM.add]
    by_cases h1 : b = D
    · simp [h1]
    · simp [h1]
  have hp : m'.m <+: (m'.add D).m := ⟨[D], rfl⟩
  have rr : ∀ {es : List Dt} {us : List V}, Reps K (hid H' (m'.gh D)) (m'.gh D) es us → Reps K (hid H' (m'.add D)) (m'.add D) es us := fun {es us} q => by
    rw [← hh]
    exact Reps.mono (m := m'.gh D) (m' := m'.add D) (Ext.refl _) hp _ _ q
  have hDm : D ∉ m'.m := fun z => hD (.inl z)
  refine ⟨⟨⟨s.1.1.trans hp, s.1.2⟩, fun a o e => ?_, s.2.2⟩, ⟨?_, ?_, fun k a x e1 e2 => ?_, fun a ha => ?_⟩, .ptr ?_⟩
  · have e' := s.2.1 a o e
    obtain ⟨e1, e2⟩ := hid_some.mp e'
    refine hid_some.mpr ⟨fun z => ?_, e2⟩
    simp only [MM.has, MM.add, List.mem_append, List.mem_singleton] at z
    rcases z with (z | z) | z
    · exact e1 (.inl z)
    · subst z
      have := (hid_some.mp e).2
      rw [hDn] at this; cases this
    · exact e1 (.inr z)
  · show (m'.m ++ [D]).Nodup
    rw [List.nodup_append]
    refine ⟨S'.nd, by simp, fun a ha b hb => ?_⟩
    simp at hb
    subst hb
    exact fun e => hDm (e ▸ ha)
  · have := S'.len
    simp only [MM.gh] at this
    simp [MM.add, this]
  · have hlen := S'.len
    simp only [MM.gh] at hlen
    simp only [MM.add] at e1
    by_cases hk : k < m'.m.length
    · rw [List.getElem?_append_left hk] at e1
      rw [List.getElem?_append_left (by rw [← hlen]; exact hk)] at e2
      have q := S'.ok k a x e1 e2
      cases x with
      | lst ds => obtain ⟨us, h1, h2⟩ := q; exact ⟨us, h1, rr h2⟩
      | dct kvs => obtain ⟨us, h1, h2⟩ := q; exact ⟨us, h1, rr h2⟩
      | dcs ks => exact q
      | ins C fs => obtain ⟨dx, us, h1, h2⟩ := q; exact ⟨dx, us, h1, rr h2⟩
    · rw [List.getElem?_append_right (by omega)] at e1
      rw [List.getElem?_append_right (by rw [← hlen]; omega), ← hlen] at e2
      have hk0 : k - m'.m.length = 0 := by
        have := (List.getElem?_eq_some_iff.mp e1).1
        simp at this; omega
      rw [hk0] at e1 e2
      simp at e1 e2
      subst e1 e2
      exact ⟨vs, hL, rr r⟩
  · obtain ⟨x, hn⟩ := S'.gh a (List.mem_cons_of_mem _ ha)
    refine ⟨x, fun z => ?_⟩
    simp only [MM.add, List.mem_append, List.mem_singleton] at z
    rcases z with z | z
    · exact hn z
    · subst z
      exact hD (.inr ha)
  · have := S'.len
    simp only [MM.gh] at this
    simp [MM.add, this]
theorem pd_lcM {scope : Scope} {tg iter elt : Expr} {ifs : List Expr} {pos : Pos} {own : List (Str × Nat)} {di : DI} {dg : DG} {dt : DT} {de : DE} {js : List Nat}
    (hc : X.calm = true) (hN : X.N.Nodup) (hi : PDI X tg iter di) (ok : BlkOk X.N X.env.scope scope own)
    (hg : ∀ (s : Shared) (H : Hp) (C : Addr) (cl : List (Str × Addr)) (fp : List Addr), PDG (X.blk s H scope (compEnvC scope cl C X.env) fp) tg dg js) (ht : ∀ (s : Shared) (H : Hp) (C : Addr) (cl : List (Str × Addr)) (fp : List Addr), PDTs (X.blk s H scope (compEnvC scope cl C X.env) fp) ifs dt)
    (he : ∀ (s : Shared) (H : Hp) (C : Addr) (cl : List (Str × Addr)) (fp : List Addr), PD (X.blk s H scope (compEnvC scope cl C X.env) fp) elt de) (hj : ∀ j ∈ js, j ∈ own.map (·.2)) (hs : ∀ x, foldedSetIterable iter X.env x = pure x := by intro _; rfl) :
    PD X (.ListComp elt [⟨tg, iter, ifs, 0⟩] scope pos) (dLcM di dg dt de (own.map (·.2))) := by
  obtain ⟨wi, g, tt, te, pi, pg, pt, pe, se⟩ := se_lcX (pos := pos) hc hN hi ok hg ht he hj
  refine ⟨_, pe_lc hc hN pi ok pg pt pe hs, fun σ H m ev st d st' S E h Q q => ?_⟩
  unfold dLcM at h
  obtain ⟨⟨ds, st1⟩, h1, h⟩ := Option.map_eq_some_iff.mp h
  cases h
  refine se σ H m ev st ds _ S E h1 Q fun D H' m' vs hD hDn hL s S' r => ?_
  obtain ⟨a, b, c⟩ := ghM hDn hD hL s S' r
  exact q _ H' _ a b c
/-- name = [..] on one line -/
theorem pds_setLc {i : Nat} {y : Str} {py : Pos} {scope : Scope} {tg iter elt : Expr} {ifs : List Expr} {pos spos : Pos} {own : List (Str × Nat)} {di : DI} {dg : DG} {dt : DT} {de : DE} {js : List Nat}
    (hc : X.calm = true) (hN : X.N.Nodup) (hy : X.N[i]? = some y) (hyl : X.env.scope.names.lookup y = some .local) (hsw : swapsWith (.ListComp elt [⟨tg, iter, ifs, 0⟩] scope pos) (some (.Name y py)) spos.line X.env = pure true) (hi : PDI X tg iter di) (ok : BlkOk X.N X.env.scope scope own)
    (hg : ∀ (s : Shared) (H : Hp) (C : Addr) (cl : List (Str × Addr)) (fp : List Addr), PDG (X.blk s H scope (compEnvC scope cl C X.env) fp) tg dg js) (ht : ∀ (s : Shared) (H : Hp) (C : Addr) (cl : List (Str × Addr)) (fp : List Addr), PDTs (X.blk s H scope (compEnvC scope cl C X.env) fp) ifs dt)
    (he : ∀ (s : Shared) (H : Hp) (C : Addr) (cl : List (Str × Addr)) (fp : List Addr), PD (X.blk s H scope (compEnvC scope cl C X.env) fp) elt de) (hj : ∀ j ∈ js, j ∈ own.map (·.2)) (hs : ∀ x, foldedSetIterable iter X.env x = pure x := by intro _; rfl) :
    PDS X (.Assign [.Name y py] (.ListComp elt [⟨tg, iter, ifs, 0⟩] scope pos) spos) (dAsg (dLc di dg dt de (own.map (·.2))) (gtName i)) := by
  obtain ⟨wi, g, tt, te, pi, pg, pt, pe, se⟩ := se_lcX (pos := pos) hc hN hi ok hg ht he hj
  refine ⟨_, ps_setLc hc hN hy hyl hsw pi ok pg pt pe hs, ss_asg (js := [i]) (fun σ H m ev st d st' S E h Q q => ?_) sg_name⟩
  unfold dLc at h
  obtain ⟨⟨ds, st1⟩, h1, h⟩ := Option.map_eq_some_iff.mp h
  cases h
  refine se σ H m ev st ds _ S E h1 Q fun D H' m' vs hD hDn hL s S' r => q _ H' m' s S'.ghOut (.lst (hid_some.mpr ⟨hD, hL⟩) (reps_ungh r))
theorem pds_setLcM {i : Nat} {y : Str} {py : Pos} {scope : Scope} {tg iter elt : Expr} {ifs : List Expr} {pos spos : Pos} {own : List (Str × Nat)} {di : DI} {dg : DG} {dt : DT} {de : DE} {js : List Nat}
    (hc : X.calm = true) (hN : X.N.Nodup) (hy : X.N[i]? = some y) (hyl : X.env.scope.names.lookup y = some .local) (hsw : swapsWith (.ListComp elt [⟨tg, iter, ifs, 0⟩] scope pos) (some (.Name y py)) spos.line X.env = pure true) (hi : PDI X tg iter di) (ok : BlkOk X.N X.env.scope scope own)
    (hg : ∀ (s : Shared) (H : Hp) (C : Addr) (cl : List (Str × Addr)) (fp : List Addr), PDG (X.blk s H scope (compEnvC scope cl C X.env) fp) tg dg js) (ht : ∀ (s : Shared) (H : Hp) (C : Addr) (cl : List (Str × Addr)) (fp : List Addr), PDTs (X.blk s H scope (compEnvC scope cl C X.env) fp) ifs dt)
    (he : ∀ (s : Shared) (H : Hp) (C : Addr) (cl : List (Str × Addr)) (fp : List Addr), PD (X.blk s H scope (compEnvC scope cl C X.env) fp) elt de) (hj : ∀ j ∈ js, j ∈ own.map (·.2)) (hs : ∀ x, foldedSetIterable iter X.env x = pure x := by intro _; rfl) :
    PDS X (.Assign [.Name y py] (.ListComp elt [⟨tg, iter, ifs, 0⟩] scope pos) spos) (dAsg (dLcM di dg dt de (own.map (·.2))) (gtName i)) := by
  obtain ⟨wi, g, tt, te, pi, pg, pt, pe, se⟩ := se_lcX (pos := pos) hc hN hi ok hg ht he hj
  refine ⟨_, ps_setLc hc hN hy hyl hsw pi ok pg pt pe hs, ss_asg (js := [i]) (fun σ H m ev st d st' S E h Q q => ?_) sg_name⟩
  unfold dLcM at h
  obtain ⟨⟨ds, st1⟩, h1, h⟩ := Option.map_eq_some_iff.mp h
  cases h
  refine se σ H m ev st ds _ S E h1 Q fun D H' m' vs hD hDn hL s S' r => ?_
  obtain ⟨a, b, c⟩ := ghM hDn hD hL s S' r
  exact q _ H' _ a b c
end
end PD

namespace PD
open PySem PySem.Spec PyProof.Rows L2

/-! ## the end of a def: what it made is no longer to change -/
mutual
def low (n : Nat) : Dt → Bool
  | .tup ds => lowL n ds
  | .lst ds => lowL n ds
  | .ptr k => decide (k < n)
  | _ => true
def lowL (n : Nat) : List Dt → Bool
  | [] => true
  | d :: ds => low n d && lowL n ds
end
def mapO {α β : Type} (f : α → Option β) : List α → Option (List β)
  | [] => some []
  | d :: ds => (f d).bind fun x => (mapO f ds).map (x :: ·)
def rsv (st : Sto) (n : Nat) : Nat → Dt → Option Dt
  | 0, d => if low n d = true then some d else none
  | f + 1, d => if low n d = true then some d else match d with
    | .tup ds => (mapO (rsv st n f) ds).map .tup
    | .lst ds => (mapO (rsv st n f) ds).map .lst
    | .ptr k => match st[k]? with
      | some (.lst ds) => (mapO (rsv st n f) ds).map .lst
      | _ => none
    | _ => none
def lowMO (n : Nat) : MO → Bool
  | .lst ds => lowL n ds
  | .dct kvs => lowL n (kvs.map (·.2))
  | .dcs _ => true
  | .ins _ fs => lowL n (fs.map (·.2))
def okSto (st0 st : Sto) : Prop := st0.length ≤ st.length ∧ ∀ k, k < st0.length → st[k]? = st0[k]? ∨ ∃ o, st[k]? = some o ∧ lowMO st0.length o = true
open Classical in
noncomputable def finP (st0 : Sto) (d : Dt) (st : Sto) : Option (Dt × Sto) := if okSto st0 st then (rsv st st0.length 5 d).map fun x => (x, st.take st0.length) else none
open Classical in
noncomputable def finM (st0 : Sto) (d : Dt) (st : Sto) : Option (Dt × Sto) := if okSto st0 st then match d with
    | .ptr k => if k < st0.length then none else match st[k]? with
      | some o => if lowMO st0.length o = true then some (.ptr st0.length, st.take st0.length ++ [o]) else none
      | _ => none
    | _ => none
  else none
section
variable {K : PySem.W.Frag} {H H' : Hp} {m m0 : MM} {st st0 : Sto}
theorem ext_less (h1 : ∀ a, m0.has a → m.has a) : Ext (hid H m) (hid H m0) := fun a o e => by
  obtain ⟨e1, e2⟩ := hid_some.mp e
  exact hid_some.mpr ⟨fun z => e1 (h1 a z), e2⟩
theorem has_le (h : m0.m <+: m.m) (hg : m0.g = m.g) : ∀ a, m0.has a → m.has a := fun a z => by
  rcases z with z | z
  · exact .inl (h.subset z)
  · exact .inr (by rw [← hg]; exact z)
mutual
theorem Rep.lower {Hh Hh' : Hp} (x : Ext Hh Hh') (p : m0.m <+: m.m) : ∀ (d : Dt) (v : V), low m0.m.length d = true → Rep K Hh m d v → Rep K Hh' m0 d v
  | .non, _, _, h => by cases h; exact .non
  | .bl b, _, _, h => by cases h; exact .bl b
  | .int i, _, _, h => by cases h; exact .int i
  | .str s, _, _, h => by cases h; exact .str s
  | .tup ds, _, l, h => by
    simp only [low] at l
    cases h with
    | tup h1 h2 => exact .tup (x _ _ h1) (Reps.lower x p ds _ l h2)
  | .lst ds, _, l, h => by
    simp only [low] at l
    cases h with
    | lst h1 h2 => exact .lst (x _ _ h1) (Reps.lower x p ds _ l h2)
  | .scr ns, _, _, h => by
    cases h with
    | scr h1 => exact .scr (x.sqL h1)
  | .ptr k, _, l, h => by
    simp only [low, decide_eq_true_eq] at l
    cases h with
    | ptr h1 =>
      refine .ptr ?_
      obtain ⟨t, e⟩ := p
      rw [← e, List.getElem?_append_left l] at h1
      exact h1
  | .ty n, _, _, h => by cases h; exact .ty n
  | .rf a, _, _, h => by cases h; exact .rf a
  | .exc n, _, _, h => by
    cases h with
    | exc h1 h2 h3 h4 => exact .exc h1 (x _ _ h2) h3 h4
  | .cls n, _, _, h => by
    cases h with
    | cls h1 => exact .cls h1
theorem Reps.lower {Hh Hh' : Hp} (x : Ext Hh Hh') (p : m0.m <+: m.m) : ∀ (ds : List Dt) (vs : List V), lowL m0.m.length ds = true → Reps K Hh m ds vs → Reps K Hh' m0 ds vs
  | [], _, _, h => by cases h; exact .nil
  | d :: ds, _, l, h => by
    simp only [lowL, Bool.and_eq_true] at l
    cases h with
    | cons h1 h2 => exact .cons (Rep.lower x p d _ l.1 h1) (Reps.lower x p ds _ l.2 h2)
end
mutual
theorem Rep.low {Hh : Hp} : ∀ (d : Dt) (v : V), Rep K Hh m d v → PD.low m.m.length d = true
  | .non, _, _ => rfl
  | .bl b, _, _ => rfl
  | .int i, _, _ => rfl
  | .str s, _, _ => rfl
  | .tup ds, _, h => by
    cases h with
    | tup h1 h2 => simp only [PD.low]; exact Reps.low ds _ h2
  | .lst ds, _, h => by
    cases h with
    | lst h1 h2 => simp only [PD.low]; exact Reps.low ds _ h2
  | .scr ns, _, _ => rfl
  | .ptr k, _, h => by
    cases h with
    | ptr h1 => simp only [PD.low, decide_eq_true_eq]; exact (List.getElem?_eq_some_iff.mp h1).1
  | .ty n, _, _ => rfl
  | .rf a, _, _ => rfl
  | .exc n, _, _ => rfl
  | .cls n, _, _ => rfl
theorem Reps.low {Hh : Hp} : ∀ (ds : List Dt) (vs : List V), Reps K Hh m ds vs → lowL m.m.length ds = true
  | [], _, _ => rfl
  | d :: ds, _, h => by
    cases h with
    | cons h1 h2 => simp only [lowL, Bool.and_eq_true]; exact ⟨Rep.low d _ h1, Reps.low ds _ h2⟩
end
theorem MOk.low {a : Addr} {o : MO} (h : MOk K H m a o) : lowMO m.m.length o = true := by
  cases o with
  | lst ds => obtain ⟨vs, _, h⟩ := h; exact Reps.low ds _ h
  | dct kvs => obtain ⟨vs, _, h⟩ := h; exact Reps.low _ _ h
  | dcs ks => rfl
  | ins C fs => obtain ⟨dx, vs, _, h⟩ := h; exact Reps.low _ _ h
theorem MOk.lower {a : Addr} {o : MO} (x : Ext (hid H m) (hid H m0)) (p : m0.m <+: m.m) (l : lowMO m0.m.length o = true) (h : MOk K H m a o) : MOk K H m0 a o := by
  cases o with
  | lst ds => obtain ⟨vs, e, h⟩ := h; exact ⟨vs, e, Reps.lower x p ds _ l h⟩
  | dct kvs => obtain ⟨vs, e, h⟩ := h; exact ⟨vs, e, Reps.lower x p _ _ l h⟩
  | dcs ks => exact h
  | ins C fs => obtain ⟨dx, vs, e, h⟩ := h; exact ⟨dx, vs, e, Reps.lower x p _ _ l h⟩
theorem mapO_reps {f : Dt → Option Dt} {Hh Hh' : Hp} {m' : MM} : ∀ {ds es : List Dt} {vs : List V}, (∀ d v e, f d = some e → Rep K Hh m d v → Rep K Hh' m' e v) → mapO f ds = some es → Reps K Hh m ds vs → Reps K Hh' m' es vs
  | [], _, _, _, h, r => by
    cases r
    cases h
    exact .nil
  | d :: ds, _, _, hf, h, r => by
    cases r with
    | cons r1 r2 =>
      unfold mapO at h
      obtain ⟨x, h1, h⟩ := Option.bind_eq_some_iff.mp h
      obtain ⟨xs, h2, h⟩ := Option.map_eq_some_iff.mp h
      cases h
      exact .cons (hf _ _ _ h1 r1) (mapO_reps hf h2 r2)
theorem rsv_ok (S : StR K H m st) (p : m0.m <+: m.m) (hg : m0.g = m.g) : ∀ (f : Nat) (d : Dt) (v : V) (d' : Dt), rsv st m0.m.length f d = some d' → Rep K (hid H m) m d v → Rep K (hid H m0) m0 d' v := by
  have x : Ext (hid H m) (hid H m0) := ext_less (has_le p hg)
  intro f
  induction f with
  | zero =>
    intro d v d' h r
    unfold rsv at h
    split at h
    · rename_i l
      cases h
      exact Rep.lower x p d v l r
    · cases h
  | succ f ih =>
    intro d v d' h r
    unfold rsv at h
    split at h
    · rename_i l
      cases h
      exact Rep.lower x p d v l r
    · rename_i hl
      cases r with
      | tup h1 h2 =>
        obtain ⟨es, e1, h⟩ := Option.map_eq_some_iff.mp h
        cases h
        exact .tup (x _ _ h1) (mapO_reps (fun d v e a b => ih d v e a b) e1 h2)
      | lst h1 h2 =>
        obtain ⟨es, e1, h⟩ := Option.map_eq_some_iff.mp h
        cases h
        exact .lst (x _ _ h1) (mapO_reps (fun d v e a b => ih d v e a b) e1 h2)
      | @ptr k a h1 =>
        simp only [PD.low, decide_eq_true_eq] at hl
        simp only at h
        split at h
        · rename_i ds hk
          obtain ⟨es, e1, h⟩ := Option.map_eq_some_iff.mp h
          cases h
          obtain ⟨vs, h3, h4⟩ := S.ok k a _ h1 hk
          refine .lst (hid_some.mpr ⟨fun z => ?_, h3⟩) (mapO_reps (fun d v e a b => ih d v e a b) e1 h4)
          rcases z with z | z
          · obtain ⟨j, hj, e⟩ := List.mem_iff_getElem.mp z
            have hj' : m0.m[j]? = some a := by rw [List.getElem?_eq_getElem hj, e]
            exact hl (by rw [nodupIx S.nd h1 (pre_get p hj')]; exact hj)
          · exact (S.gh a (by rw [← hg]; exact z)).2 (List.mem_iff_getElem?.mpr ⟨k, h1⟩)
        · cases h
      | _ => exact absurd rfl hl
/-- the store cut back -/
theorem okSto_ok (S0 : ∃ H0, StR K H0 m0 st0) (S : StR K H m st) (p : m0.m <+: m.m) (hg : m0.g = m.g) (ok : okSto st0 st) : StR K H m0 (st.take st0.length) := by
  obtain ⟨H0, S0⟩ := S0
  have x : Ext (hid H m) (hid H m0) := ext_less (has_le p hg)
  refine ⟨S0.nd, by rw [List.length_take, S0.len]; have := ok.1; omega, fun k a o e1 e2 => ?_, fun a ha => ⟨(S.gh a (by rw [← hg]; exact ha)).1, fun z => (S.gh a (by rw [← hg]; exact ha)).2 (p.subset z)⟩⟩
  have hk : k < st0.length := by rw [← S0.len]; exact (List.getElem?_eq_some_iff.mp e1).1
  rw [List.getElem?_take_of_lt hk] at e2
  have q := S.ok k a o (pre_get p e1) e2
  refine q.lower x p ?_
  rcases ok.2 k hk with e | ⟨o', e, l⟩
  · rw [e2] at e
    exact (S0.ok k a o e1 e.symm).low
  · rw [e2] at e
    cases e
    rw [S0.len]
    exact l
def FinOk (fin : Sto → Dt → Sto → Option (Dt × Sto)) : Prop := ∀ (K : PySem.W.Frag) (H0 H : Hp) (m0 m : MM) (st0 st : Sto) (d d' : Dt) (st' : Sto) (v : V), StR K H0 m0 st0 → Stp H0 m0 H m → StR K H m st → Rep K (hid H m) m d v → fin st0 d st = some (d', st') →
  ∃ m', Stp H0 m0 H m' ∧ StR K H m' st' ∧ Rep K (hid H m') m' d' v
theorem finP_ok : FinOk finP := by
  intro K H0 H m0 m st0 st d d' st' v S0 s S r h
  unfold finP at h
  split at h
  · rename_i ok
    obtain ⟨x, h1, h⟩ := Option.map_eq_some_iff.mp h
    cases h
    refine ⟨m0, ⟨MM.le_refl _, s.2.1.trans (ext_less (has_le s.1.1 s.1.2)), s.2.2⟩, okSto_ok ⟨H0, S0⟩ S s.1.1 s.1.2 ok, ?_⟩
    rw [← S0.len] at h1
    exact rsv_ok S s.1.1 s.1.2 5 d v _ h1 r
  · cases h
theorem finM_ok : FinOk finM := by
  intro K H0 H m0 m st0 st d d' st' v S0 s S r h
  unfold finM at h
  split at h
  · rename_i ok
    split at h
    · rename_i k
      split at h
      · cases h
      · rename_i hk
        split at h
        · rename_i o0 e
          split at h
          case isFalse => cases h
          rename_i hlow
          cases h
          cases r with
          | @ptr _ a ha =>
            have S' := okSto_ok ⟨H0, S0⟩ S s.1.1 s.1.2 ok
            have hlen : (st.take st0.length).length = st0.length := by rw [List.length_take]; have := ok.1; omega
            have q1 := S.ok k a _ ha e
            have hn : a ∉ m0.m := fun z => by
              obtain ⟨j, hj, e⟩ := List.mem_iff_getElem.mp z
              have hj' : m0.m[j]? = some a := by rw [List.getElem?_eq_getElem hj, e]
              exact hk (by rw [nodupIx S.nd ha (pre_get s.1.1 hj'), ← S0.len]; exact hj)
            have hng : a ∉ m0.g := fun z => (S.gh a (by rw [← s.1.2]; exact z)).2 (List.mem_iff_getElem?.mpr ⟨k, ha⟩)
            have hm : ∀ b, (m0.add a).has b → m.has b := fun b z => by
              rcases z with z | z
              · simp only [MM.add, List.mem_append, List.mem_singleton] at z
                rcases z with z | z
                · exact .inl (s.1.1.subset z)
                · subst z; exact .inl (List.mem_iff_getElem?.mpr ⟨k, ha⟩)
              · exact .inr (by rw [← s.1.2]; exact z)
            have x1 : Ext (hid H m) (hid H (m0.add a)) := ext_less hm
            have x2 : Ext (hid H0 m0) (hid H (m0.add a)) := s.2.1.trans x1
            -- objects that do not lean on a
            have up : ∀ {es : List Dt} {us : List V}, lowL m0.m.length es = true → Reps K (hid H m) m es us → Reps K (hid H (m0.add a)) (m0.add a) es us := fun {es us} l q =>
              Reps.mono (m := m0) (m' := m0.add a) (Ext.refl _) ⟨[a], rfl⟩ _ _ (Reps.lower (Hh' := hid H (m0.add a)) x1 s.1.1 es us l q)
            have S'' : StR K H (m0.add a) (st.take st0.length ++ [o0]) := by
              refine ⟨?_, by simp [MM.add, S'.len], fun j b o e1 e2 => ?_, fun b hb => ⟨(S'.gh b hb).1, fun z => ?_⟩⟩
              · show (m0.m ++ [a]).Nodup
                rw [List.nodup_append]
                refine ⟨S0.nd, by simp, fun b hb c hc => ?_⟩
                simp at hc
                subst hc
                exact fun e => hn (e ▸ hb)
              · simp only [MM.add] at e1
                by_cases hj : j < m0.m.length
                · rw [List.getElem?_append_left hj] at e1
                  have hj2 : j < st0.length := by rw [← S0.len]; exact hj
                  rw [List.getElem?_append_left (by rw [hlen]; exact hj2)] at e2
                  have q0 := (S'.ok j b o e1 e2).low
                  rw [List.getElem?_take_of_lt hj2] at e2
                  have q := S.ok j b o (pre_get s.1.1 e1) e2
                  cases o with
                  | lst es => obtain ⟨us, h5, h6⟩ := q; exact ⟨us, h5, up q0 h6⟩
                  | dct es => obtain ⟨us, h5, h6⟩ := q; exact ⟨us, h5, up q0 h6⟩
                  | dcs es => exact q
                  | ins C es => obtain ⟨dx, us, h5, h6⟩ := q; exact ⟨dx, us, h5, up q0 h6⟩
                · rw [List.getElem?_append_right (by omega)] at e1
                  rw [List.getElem?_append_right (by rw [hlen, ← S0.len]; omega), hlen, ← S0.len] at e2
                  have hk0 : j - m0.m.length = 0 := by
                    have := (List.getElem?_eq_some_iff.mp e1).1
                    simp at this; omega
                  rw [hk0] at e1 e2
                  simp at e1 e2
                  subst e1 e2
                  cases o0 with
                  | lst ds => obtain ⟨vs, h3, h4⟩ := q1; exact ⟨vs, h3, up (by rw [S0.len]; exact hlow) h4⟩
                  | dct ds => obtain ⟨vs, h3, h4⟩ := q1; exact ⟨vs, h3, up (by rw [S0.len]; exact hlow) h4⟩
                  | ins C ds => obtain ⟨dx, vs, h3, h4⟩ := q1; exact ⟨dx, vs, h3, up (by rw [S0.len]; exact hlow) h4⟩
                  | dcs ks => exact q1
              · simp only [MM.add, List.mem_append, List.mem_singleton] at z
                rcases z with z | z
                · exact (S'.gh b hb).2 z
                · subst z; exact hng hb
            exact ⟨m0.add a, ⟨⟨⟨[a], rfl⟩, rfl⟩, x2, s.2.2⟩, S'', .ptr (by simp [MM.add, S0.len])⟩
        · cases h
    · cases h
  · cases h
end
end PD

namespace PD
open PySem PySem.Spec PyProof.Rows L2

/-! ## defs -/
def dDef (np nl : Nat) (fin : Sto → Dt → Sto → Option (Dt × Sto)) (b : DS) : DF := fun ds st => match b (ds.map some ++ List.replicate (nl - np) none) st with
  | some (.rt d st') => fin st d st'
  | some (.nx _ st') => fin st .non st'
  | _ => none
theorem start_en {K : PySem.W.Frag} {H : Hp} {m : MM} {N : List Str} {np : Nat} {ds : List Dt} {vs : List V} (hl : ds.length = np) (r : Reps K (hid H m) m ds vs) : EnR K H m (ds.map some ++ List.replicate (N.length - np) none) (L2.start N vs) := by
  have hl2 := r.length
  refine ⟨by unfold L2.start; simp; omega, fun i d h => ?_⟩
  by_cases hi : i < ds.length
  · rw [List.getElem?_append_left (by rw [List.length_map]; exact hi), List.getElem?_map] at h
    obtain ⟨d', e, h⟩ := Option.map_eq_some_iff.mp h
    cases h
    obtain ⟨v, e1, r1⟩ := r.get e
    refine ⟨v, ?_, r1⟩
    unfold L2.start
    rw [List.getElem?_append_left (by rw [List.length_map]; omega), List.getElem?_map, e1]
    rfl
  · rw [List.getElem?_append_right (by rw [List.length_map]; omega)] at h
    rw [List.getElem?_replicate] at h
    split at h <;> cases h
section
variable {P : Program} {w : World} {K : PySem.W.Frag} {mg : Str → Option Value} {base : Heap}
theorem fn_den {x qual : Str} {st : Stmt} {f : Addr} {fd : FuncData} {N ps : List Str} {k np nl : Nat} {fin : Sto → Dt → Sto → Option (Dt × Sto)} {b : DS} (F : Fun K x qual st f fd) (S : FnScope N ps (defScope st)) (hfin : FinOk fin) (hnp : ps.length = np) (hnl : N.length = nl)
    (hb : ∀ (cdv : Value) (A : Around) (outer : List Env) (s : Shared) (H : Hp) (E : XK), Room k (A.deeper (envOfC qual (defScope st) s.heap.objs.size f cdv)) →
      PDSs (cxOf CX0 P w K mg base N qual (defScope st) f cdv A outer s H E).nox (defBody st) b) : FnOk P w K mg base CX0 (k + 1) f fd ps (spD K np (dDef np nl fin b)) := by
  refine F.ok S (fun vs H Q E h => ?_) (fun cdv A outer s H vs Q E hr h => ?_)
  · obtain ⟨m, st, ds, d, st', _, r, hl, _⟩ := h
    rw [← r.length, hl, hnp]
  · obtain ⟨m, st0, ds, d, st', S0, r, hl, hG, q⟩ := h
    obtain ⟨t, pt, s⟩ := hb cdv A outer s H E hr
    refine ⟨t, pt, ?_⟩
    unfold dDef at hG
    have E0 := start_en (N := N) hl r
    rw [hnl] at E0
    split at hG
    · rename_i d1 st1 e
      refine s (L2.start N vs) H m _ st0 _ S0 E0 e _ ?_
      intro v H' m' s1 S1 r1
      obtain ⟨m2, s2, S2, r2⟩ := hfin K H H' m m' st0 st1 d1 d st' v S0 s1 S1 r1 hG
      exact q v H' m2 s2 S2 r2
    · rename_i ev1 st1 e
      refine s (L2.start N vs) H m _ st0 _ S0 E0 e _ ?_
      intro σ' H' m' s1 S1 E1
      obtain ⟨m2, s2, S2, r2⟩ := hfin K H H' m m' st0 st1 .non d st' .non S0 s1 S1 .non hG
      exact q _ H' m2 s2 S2 r2
    · cases hG
end

/-! ## methods of built-in things -/
def dMth (g : Sto → Dt → List Dt → Option Dt) (o : DE) (a : DA) : DE := fun ev st => (o ev st).bind fun p => (a ev p.2).bind fun q => (g q.2 p.1 q.1).map fun z => (z, q.2)
def dMthN (g : Sto → Dt → List Dt → Option (List Dt)) (o : DE) (a : DA) : DE := fun ev st => (o ev st).bind fun p => (a ev p.2).bind fun q => (g q.2 p.1 q.1).map fun z => (.ptr q.2.length, q.2 ++ [.lst z])
def dMut (g : Sto → List Dt → List Dt → Option (Dt × List Dt)) (o : DE) (a : DA) : DE := fun ev st => (o ev st).bind fun p => match p.1 with
  | .ptr k => (a ev p.2).bind fun q => match p.2[k]?, q.2[k]? with
    | some (.lst _), some (.lst ds) => (g q.2 ds q.1).map fun r => (r.1, q.2.set k (.lst r.2))
    | _, _ => none
  | _ => none
def RMS (K : PySem.W.Frag) (T : String) (r : V → List V → Hp → VK → Prop) (g : Sto → Dt → List Dt → Option Dt) : Prop := ∀ (H : Hp) (m : MM) (st : Sto) (d : Dt) (ds : List Dt) (z : Dt) (x : V) (xs : List V), StR K H m st → Rep K (hid H m) m d x → Reps K (hid H m) m ds xs → g st d ds = some z →
  (∀ Q : VK, (∀ v H', Stp H m H' m → StR K H' m st → Rep K (hid H' m) m z v → Q v H') → r x xs H Q)
/-- the receiver's kind is seen off its data -/
def kindIs (T : String) (st : Sto) : Dt → Prop
  | .str _ => T = "str"
  | .int _ => T = "int"
  | .lst _ => T = "list"
  | .ptr k => T = "list" ∧ ∃ ds, st[k]? = some (.lst ds)
  | _ => False
theorem kind_ty {K : PySem.W.Frag} {H : Hp} {m : MM} {st : Sto} {T : String} {d : Dt} {v : V} (S : StR K H m st) (r : Rep K (hid H m) m d v) (h : kindIs T st d) : tyV K T v H := by
  cases r with
  | str x => exact h
  | int x => exact h
  | lst h1 h2 => exact .inl ⟨h, _, .inl (.inl (hid_ext _ _ _ _ h1))⟩
  | @ptr k a h1 =>
    obtain ⟨h, ds, e⟩ := h
    obtain ⟨vs, h3, _⟩ := S.ok k a _ h1 e
    exact .inl ⟨h, vs, .inl (.inl h3)⟩
  | _ => exact h.elim
section
variable {X : Cx}
theorem se_bm {K : PySem.W.Frag} {T : String} {r : V → List V → Hp → VK → Prop} {g : Sto → Dt → List Dt → Option Dt} {to : TE} {ta : TA} {d_o : DE} {da : DA} (hs : RMS K T r g) (hk : ∀ ev st d st1, d_o ev st = some (d, st1) → ∀ ds st2 z, da ev st1 = some (ds, st2) → g st2 d ds = some z → kindIs T st1 d) (ho : SE K to d_o) (ha : SA K ta da) : SE K (tBM K T r to ta) (dMth g d_o da) := by
  intro σ H m ev st d st' S E h Q q
  unfold dMth at h
  obtain ⟨⟨x, st1⟩, h1, h⟩ := Option.bind_eq_some_iff.mp h
  obtain ⟨⟨ys, st2⟩, h2, h⟩ := Option.bind_eq_some_iff.mp h
  obtain ⟨z, h3, h⟩ := Option.map_eq_some_iff.mp h
  cases h
  refine ho σ H m ev st x st1 S E h1 _ fun v1 H1 m1 s1 S1 r1 => ⟨kind_ty S1 r1 (hk ev st x st1 h1 ys _ _ h2 h3), ?_⟩
  refine ha σ H1 m1 ev st1 ys _ S1 (E.stp s1) h2 _ fun v2 H2 m2 s2 S2 r2 => ?_
  exact hs H2 m2 _ x ys d v1 v2 S2 (s2.rep r1) r2 h3 Q fun v H' s3 S3 r3 => q v H' m2 ((s1.trans s2).trans s3) S3 r3
/-- the receiver's kind is asked of the data -/
def dMthK (T : String) (g : Sto → Dt → List Dt → Option Dt) (o : DE) (a : DA) : DE := fun ev st => match o ev st with
  | some (.str x, st1) => if T = "str" then (a ev st1).bind fun q => (g q.2 (.str x) q.1).map fun z => (z, q.2) else none
  | some (.int x, st1) => if T = "int" then (a ev st1).bind fun q => (g q.2 (.int x) q.1).map fun z => (z, q.2) else none
  | some (.lst x, st1) => if T = "list" then (a ev st1).bind fun q => (g q.2 (.lst x) q.1).map fun z => (z, q.2) else none
  | some (.ptr k, st1) => if T = "list" then match st1[k]? with
      | some (.lst _) => (a ev st1).bind fun q => (g q.2 (.ptr k) q.1).map fun z => (z, q.2)
      | _ => none
    else none
  | _ => none
theorem se_bmK {K : PySem.W.Frag} {T : String} {r : V → List V → Hp → VK → Prop} {g : Sto → Dt → List Dt → Option Dt} {to : TE} {ta : TA} {d_o : DE} {da : DA} (hs : RMS K T r g) (ho : SE K to d_o) (ha : SA K ta da) : SE K (tBM K T r to ta) (dMthK T g d_o da) := by
  intro σ H m ev st d st' S E h Q q
  have key : ∃ x st1, d_o ev st = some (x, st1) ∧ kindIs T st1 x ∧ ((da ev st1).bind fun q => (g q.2 x q.1).map fun z => (z, q.2)) = some (d, st') := by
    unfold dMthK at h
    split at h
    · rename_i x st1 e
      split at h
      · rename_i ht; exact ⟨_, _, e, ht, h⟩
      · cases h
    · rename_i x st1 e
      split at h
      · rename_i ht; exact ⟨_, _, e, ht, h⟩
      · cases h
    · rename_i x st1 e
      split at h
      · rename_i ht; exact ⟨_, _, e, ht, h⟩
      · cases h
    · rename_i x st1 e
      split at h
      · rename_i ht
        split at h
        · rename_i ds e2; exact ⟨_, _, e, ⟨ht, _, e2⟩, h⟩
        · cases h
      · cases h
    · cases h
  obtain ⟨x, st1, h1, hk, h⟩ := key
  obtain ⟨⟨ys, st2⟩, h2, h⟩ := Option.bind_eq_some_iff.mp h
  obtain ⟨z, h3, h⟩ := Option.map_eq_some_iff.mp h
  cases h
  refine ho σ H m ev st x st1 S E h1 _ fun v1 H1 m1 s1 S1 r1 => ⟨kind_ty S1 r1 hk, ?_⟩
  refine ha σ H1 m1 ev st1 ys _ S1 (E.stp s1) h2 _ fun v2 H2 m2 s2 S2 r2 => ?_
  exact hs H2 m2 _ x ys d v1 v2 S2 (s2.rep r1) r2 h3 Q fun v H' s3 S3 r3 => q v H' m2 ((s1.trans s2).trans s3) S3 r3
theorem pd_bm {T id : String} {name : Str} {r : V → List V → Hp → VK → Prop} {g : Sto → Dt → List Dt → Option Dt} {o e : Expr} {es : List Expr} {d_o : DE} {da : DA} {apos cpos : Pos} (pa : PlainAttrs T) (slot : Slot T name id) (hty : typeOf (.builtin id) = pure (.type "method_descriptor")) (hm : MtR X id r) (hs : RMS X.K T r g) (ho : PD X o d_o) (ha : PDA X (e :: es) da)
    (hbase : attributeBase o name X.env (eval o X.env) = eval o X.env := by rfl)
    (hfew : ((backTo cpos (starEach (e :: es) X.env)).all (fun x => !x.1) && (backToKw cpos (keywordEach [] X.env)).all (fun x => x.1.isSome)
      && decide ((e :: es).length + ([] : List Keyword).length + (if ([] : List Keyword).isEmpty then 0 else 1) < 30)) = true := by rfl)
    (hline : (apos.endLine == cpos.line) = true := by rfl) (hst : starEach (e :: es) X.env = (false, eval e X.env) :: starEach es X.env := by rfl) (hplain : (backTo cpos (starEach es X.env)).any (·.1) = false := by rfl) :
    PD X (.Call (.Attribute o name apos) (e :: es) [] cpos) (dMthK T g d_o da) := by
  obtain ⟨to, po, so⟩ := ho
  obtain ⟨ta, pa', sa⟩ := ha
  exact ⟨_, pe_bm pa slot hty hm po pa' hbase hfew hline hst hplain, se_bmK hs so sa⟩
/-- a method that changes its list -/
def RMM (K : PySem.W.Frag) (r : V → List V → Hp → VK → Prop) (g : Sto → List Dt → List Dt → Option (Dt × List Dt)) : Prop := ∀ (H : Hp) (m : MM) (st : Sto) (k : Nat) (a : Addr) (ds args : List Dt) (z : Dt) (ds' : List Dt) (vs xs : List V), StR K H m st → m.m[k]? = some a → H a = some (.lst vs) → st[k]? = some (.lst ds) →
  Reps K (hid H m) m ds vs → Reps K (hid H m) m args xs → g st ds args = some (z, ds') → ∀ Q : VK, (∀ v vs', Reps K (hid H m) m ds' vs' → Rep K (hid H m) m z v → Q v (upd H a (.lst vs'))) → r (.ref a) xs H Q
theorem se_mut {K : PySem.W.Frag} {r : V → List V → Hp → VK → Prop} {g : Sto → List Dt → List Dt → Option (Dt × List Dt)} {to : TE} {ta : TA} {d_o : DE} {da : DA} (hs : RMM K r g) (ho : SE K to d_o) (ha : SA K ta da) : SE K (tBM K "list" r to ta) (dMut g d_o da) := by
  intro σ H m ev st d st' S E h Q q
  unfold dMut at h
  obtain ⟨⟨x, st1⟩, h1, h⟩ := Option.bind_eq_some_iff.mp h
  simp only at h
  split at h
  · rename_i k
    obtain ⟨⟨ys, st2⟩, h2, h⟩ := Option.bind_eq_some_iff.mp h
    simp only at h
    split at h
    · rename_i ds0 ds e0 e
      obtain ⟨⟨z, ds'⟩, h3, h⟩ := Option.map_eq_some_iff.mp h
      cases h
      refine ho σ H m ev st _ st1 S E h1 _ fun v1 H1 m1 s1 S1 r1 => ?_
      refine ⟨kind_ty S1 r1 ⟨rfl, _, e0⟩, ?_⟩
      refine ha σ H1 m1 ev st1 ys _ S1 (E.stp s1) h2 _ fun v2 H2 m2 s2 S2 r2 => ?_
      have r1' := s2.rep r1
      cases r1' with
      | @ptr _ a hk =>
        obtain ⟨vs, h4, h5⟩ := S2.ok k a _ hk e
        refine hs H2 m2 _ k a ds ys z ds' vs v2 S2 hk h4 e h5 r2 h3 Q fun v vs' r3 r4 => ?_
        have st3 := Stp.mut (o := .lst vs') S2 hk
        exact q v _ m2 ((s1.trans s2).trans st3) (S2.mut hk ⟨vs', upd_same, st3.reps r3⟩) (st3.rep r4)
    · cases h
  · cases h
theorem pd_mut {id : String} {name : Str} {r : V → List V → Hp → VK → Prop} {g : Sto → List Dt → List Dt → Option (Dt × List Dt)} {o e : Expr} {es : List Expr} {d_o : DE} {da : DA} {apos cpos : Pos} (slot : Slot "list" name id) (hty : typeOf (.builtin id) = pure (.type "method_descriptor")) (hm : MtM X id r) (hs : RMM X.K r g) (ho : PD X o d_o) (ha : PDA X (e :: es) da)
    (hbase : attributeBase o name X.env (eval o X.env) = eval o X.env := by rfl)
    (hfew : ((backTo cpos (starEach (e :: es) X.env)).all (fun x => !x.1) && (backToKw cpos (keywordEach [] X.env)).all (fun x => x.1.isSome)
      && decide ((e :: es).length + ([] : List Keyword).length + (if ([] : List Keyword).isEmpty then 0 else 1) < 30)) = true := by rfl)
    (hline : (apos.endLine == cpos.line) = true := by rfl) (hst : starEach (e :: es) X.env = (false, eval e X.env) :: starEach es X.env := by rfl) (hplain : (backTo cpos (starEach es X.env)).any (·.1) = false := by rfl) :
    PD X (.Call (.Attribute o name apos) (e :: es) [] cpos) (dMut g d_o da) := by
  obtain ⟨to, po, so⟩ := ho
  obtain ⟨ta, pa', sa⟩ := ha
  exact ⟨_, pe_bm PySem.F.plainAttrs_list slot hty hm po pa' hbase hfew hline hst hplain, se_mut hs so sa⟩
theorem pd_mut0 {id : String} {name : Str} {r : V → List V → Hp → VK → Prop} {g : Sto → List Dt → List Dt → Option (Dt × List Dt)} {o : Expr} {d_o : DE} {apos cpos : Pos} (slot : Slot "list" name id) (hty : typeOf (.builtin id) = pure (.type "method_descriptor")) (hm : MtM X id r) (hs : RMM X.K r g) (ho : PD X o d_o)
    (hbase : attributeBase o name X.env (eval o X.env) = eval o X.env := by rfl) (hline : (apos.endLine == cpos.line) = true := by rfl) :
    PD X (.Call (.Attribute o name apos) [] [] cpos) (dMut g d_o dNil) := by
  obtain ⟨to, po, so⟩ := ho
  have sa : SA X.K tNil dNil := fun σ H m ev st d st' S E h Q q => by
    cases h
    exact q [] H m (Stp.refl H m) S .nil
  exact ⟨_, pe_bm0 PySem.F.plainAttrs_list slot hty hm po hbase hline, se_mut hs so sa⟩
def gAppend : Sto → List Dt → List Dt → Option (Dt × List Dt) := fun _ ds as => match as with
  | [a] => if ds.length < 1000000 then some (.non, ds ++ [a]) else none
  | _ => none
def gExtend : Sto → List Dt → List Dt → Option (Dt × List Dt) := fun st ds as => match as with
  | [a] => (look st a).bind fun es => if ds.length + es.length ≤ 1000000 then some (.non, ds ++ es) else none
  | _ => none
def gPop : Sto → List Dt → List Dt → Option (Dt × List Dt) := fun _ ds as => match as with
  | [] => (ds[ds.length - 1]?).map fun x => (x, ds.dropLast)
  | _ => none
def gClear : Sto → List Dt → List Dt → Option (Dt × List Dt) := fun _ ds as => match as with
  | [] => some (.non, [])
  | _ => none
theorem line1m {n : Nat} (h : n < 1000000) : n < sizeLine := Nat.lt_of_lt_of_le h (by decide)
theorem rm_append {K : PySem.W.Frag} : RMM K rAppend gAppend := by
  intro H m st k a ds args z ds' vs xs S hk hH hst r ra hg Q q
  unfold gAppend at hg
  split at hg
  · split at hg
    · rename_i hl
      cases hg
      obtain ⟨v, rfl, rv⟩ := ra.one
      exact ⟨a, vs, v, rfl, rfl, hH, by rw [← r.length]; exact line1m hl, q _ _ (r.append (.cons rv .nil)) .non⟩
    · cases hg
  · cases hg
theorem rm_extend {K : PySem.W.Frag} : RMM K rExtend gExtend := by
  intro H m st k a ds args z ds' vs xs S hk hH hst r ra hg Q q
  unfold gExtend at hg
  split at hg
  · obtain ⟨es, h1, hg⟩ := Option.bind_eq_some_iff.mp hg
    split at hg
    · rename_i hl
      cases hg
      obtain ⟨v, rfl, rv⟩ := ra.one
      obtain ⟨b, us, rfl, h2, h3⟩ := look_ok S rv h1
      exact ⟨a, b, vs, us, rfl, rfl, hH, h2, by rw [← r.length, ← h3.length]; exact size1m hl, q _ _ (r.append h3) .non⟩
    · cases hg
  · cases hg
theorem Reps.dropLast {K : PySem.W.Frag} {Hh : Hp} {m : MM} : ∀ {ds : List Dt} {vs : List V}, Reps K Hh m ds vs → Reps K Hh m ds.dropLast vs.dropLast
  | _, _, .nil => .nil
  | _, _, .cons r .nil => .nil
  | _, _, .cons r (.cons r2 t) => .cons r (Reps.dropLast (.cons r2 t))
theorem rm_pop {K : PySem.W.Frag} : RMM K rPop gPop := by
  intro H m st k a ds args z ds' vs xs S hk hH hst r ra hg Q q
  unfold gPop at hg
  split at hg
  · obtain ⟨x, h1, hg⟩ := Option.map_eq_some_iff.mp hg
    cases hg
    cases ra
    obtain ⟨v, e, rv⟩ := r.get h1
    exact ⟨a, vs, v, rfl, rfl, hH, by rw [← r.length]; exact e, q _ _ r.dropLast rv⟩
  · cases hg
theorem rm_clear {K : PySem.W.Frag} : RMM K rClear gClear := by
  intro H m st k a ds args z ds' vs xs S hk hH hst r ra hg Q q
  unfold gClear at hg
  split at hg
  · cases hg
    cases ra
    exact ⟨a, vs, rfl, rfl, hH, q _ _ .nil .non⟩
  · cases hg

/-! ## stores to items -/
abbrev DGX := Dt → En → Sto → Option (En × Sto)
def SGX (K : PySem.W.Frag) (g : TG) (tg : DGX) : Prop := ∀ (v : V) (σ : L2.St) (H : Hp) (m : MM) (ev : En) (st : Sto) (d : Dt) (ev' : En) (st' : Sto), StR K H m st → EnR K H m ev σ → Rep K (hid H m) m d v → tg d ev st = some (ev', st') →
  ∀ Q : L2.St → Hp → Prop, (∀ σ' H' m', Stp H m H' m' → StR K H' m' st' → EnR K H' m' ev' σ' → Q σ' H') → g v σ H Q
def PDX (X : Cx) (tg : Expr) (den : DGX) : Prop := ∃ t, PG X tg t ∧ SGX X.K t den
def PDXs (X : Cx) (tgs : List Expr) (den : List Dt → En → Sto → Option (En × Sto)) : Prop := ∃ t : TGs, PGs X tgs t ∧
  ∀ (vs : List V) (σ : L2.St) (H : Hp) (m : MM) (ev : En) (st : Sto) (ds : List Dt) (ev' : En) (st' : Sto), StR X.K H m st → EnR X.K H m ev σ → Reps X.K (hid H m) m ds vs → den ds ev st = some (ev', st') →
    ∀ Q : L2.St → Hp → Prop, (∀ σ' H' m', Stp H m H' m' → StR X.K H' m' st' → EnR X.K H' m' ev' σ' → Q σ' H') → t vs σ H Q
def gx (g : DG) : DGX := fun d ev st => (g st d ev).map fun e => (e, st)
theorem pdx_of {tg : Expr} {g : DG} {js : List Nat} (h : PDG X tg g js) : PDX X tg (gx g) := by
  obtain ⟨t, p, s⟩ := h
  refine ⟨t, p, fun v σ H m ev st d ev' st' S E r h Q q => ?_⟩
  unfold gx at h
  obtain ⟨e, h1, h⟩ := Option.map_eq_some_iff.mp h
  cases h
  exact s v σ H m ev _ d _ S E r h1 Q fun σ' E' _ _ => q σ' H m (Stp.refl _ _) S E'
def gxSub (o i : DE) : DGX := fun d ev st => (o ev st).bind fun p => (i ev p.2).bind fun q => match p.1, q.1 with
  | .ptr k, .int n => match q.2[k]? with
    | some (.lst ds) => (ixN ds.length n).map fun j => (ev, q.2.set k (.lst (ds.set j d)))
    | _ => none
  | _, _ => none
theorem pdx_sub {o i : Expr} {d_o di : DE} {pos : Pos} (ho : PD X o d_o) (hi : PD X i di)
    (ha : ∀ v, assign (.Subscript o i pos) X.env v = (do
      let ov ← holding [v] (eval o X.env)
      let iv ← holding [v, ov] (eval i X.env)
      standAt pos
      holding [v, ov, iv] (setItem ov iv v)
      release [v, ov, iv] []) := by intro _; rfl) : PDX X (.Subscript o i pos) (gxSub d_o di) := by
  obtain ⟨to, po, so⟩ := ho
  obtain ⟨ti, pi, si⟩ := hi
  refine ⟨_, pg_sub po pi set_list ha, fun v σ H m ev st d ev' st' S E r h Q q => ?_⟩
  unfold gxSub at h
  obtain ⟨⟨x, st1⟩, h1, h⟩ := Option.bind_eq_some_iff.mp h
  obtain ⟨⟨y, st2⟩, h2, h⟩ := Option.bind_eq_some_iff.mp h
  refine so σ H m ev st x st1 S E h1 _ fun v1 H1 m1 s1 S1 r1 => ?_
  refine si σ H1 m1 ev st1 y st2 S1 (E.stp s1) h2 _ fun v2 H2 m2 s2 S2 r2 => ?_
  have key : ∃ k n ds j, x = .ptr k ∧ y = .int n ∧ st2[k]? = some (.lst ds) ∧ ixN ds.length n = some j ∧ ev' = ev ∧ st' = st2.set k (.lst (ds.set j d)) := by
    cases x <;> cases y <;> simp only [reduceCtorEq] at h
    split at h
    · rename_i ds e
      obtain ⟨j, h3, h⟩ := Option.map_eq_some_iff.mp h
      cases h
      exact ⟨_, _, _, _, rfl, rfl, e, h3, rfl, rfl⟩
    · cases h
  obtain ⟨k, n, ds, j, rfl, rfl, e, h3, rfl, rfl⟩ := key
  have r1' := s2.rep r1
  cases r2
  cases r1' with
  | @ptr _ a hk =>
    obtain ⟨vs, h4, h5⟩ := S2.ok k a _ hk e
    have hr := (s1.trans s2).rep r
    have st3 := Stp.mut (o := .lst (vs.set j v)) S2 hk
    exact ⟨a, vs, n, j, rfl, rfl, h4, by rw [← h5.length]; exact h3, q σ _ m2 ((s1.trans s2).trans st3) (S2.mut hk ⟨_, upd_same, st3.reps (h5.set hr j)⟩) (E.stp ((s1.trans s2).trans st3))⟩
def gxNil : List Dt → En → Sto → Option (En × Sto) := fun ds ev st => match ds with
  | [] => some (ev, st)
  | _ => none
def gxCons (g : DGX) (r : List Dt → En → Sto → Option (En × Sto)) : List Dt → En → Sto → Option (En × Sto) := fun ds ev st => match ds with
  | d :: ds => (g d ev st).bind fun p => r ds p.1 p.2
  | _ => none
theorem pdxs_nil : PDXs X [] gxNil := by
  refine ⟨_, pgs_nil, fun vs σ H m ev st ds ev' st' S E r h Q q => ?_⟩
  cases r with
  | nil =>
    cases h
    exact ⟨rfl, q σ H m (Stp.refl _ _) S E⟩
  | cons _ _ => cases h
theorem pdxs_cons {e : Expr} {es : List Expr} {g : DGX} {r : List Dt → En → Sto → Option (En × Sto)} (h1 : PDX X e g) (h2 : PDXs X es r)
    (hs : (assignEach (e :: es) X.env).map (·.2) = assign e X.env :: (assignEach es X.env).map (·.2) := by rfl) : PDXs X (e :: es) (gxCons g r) := by
  obtain ⟨t1, p1, s1⟩ := h1
  obtain ⟨t2, p2, s2⟩ := h2
  refine ⟨_, pgs_cons p1 p2 hs, fun vs σ H m ev st ds ev' st' S E rr h Q q => ?_⟩
  cases rr with
  | nil => cases h
  | cons ra rb =>
    rename_i d v ds vs
    unfold gxCons at h
    obtain ⟨⟨ev1, st1⟩, e1, h⟩ := Option.bind_eq_some_iff.mp h
    refine ⟨_, _, rfl, s1 v σ H m ev st d ev1 st1 S E ra e1 _ fun σ1 H1 m1 k1 S1 E1 => ?_⟩
    exact s2 vs σ1 H1 m1 ev1 st1 ds ev' st' S1 E1 (k1.reps rb) h _ fun σ2 H2 m2 k2 S2 E2 => q σ2 H2 m2 (k1.trans k2) S2 E2
def gxTup (n : Nat) (r : List Dt → En → Sto → Option (En × Sto)) : DGX := fun d ev st => match d with
  | .tup ds => if ds.length = n then r ds ev st else none
  | _ => none
theorem pdx_tup {es : List Expr} {k n : Nat} {r : List Dt → En → Sto → Option (En × Sto)} {pos : Pos} (hc : X.calm = true) (h : PDXs X es r)
    (hn : (assignEach es X.env).length = n := by rfl) (hst : (assignEach es X.env).findIdx? (·.1) = none := by rfl) : PDX X (.Tuple es k pos) (gxTup n r) := by
  obtain ⟨t, p, s⟩ := h
  refine ⟨_, pg_tup hc p hn hst, fun v σ H m ev st d ev' st' S E rr hh Q q => ?_⟩
  cases rr with
  | @tup a vs ds h1 h2 =>
    simp only [gxTup] at hh
    split at hh
    · rename_i hl
      exact ⟨a, vs, rfl, (hid_ext H m).sqT (TupAt.sq h1), by rw [← h2.length]; exact hl, s vs σ H m ev st ds ev' st' S E h2 hh Q q⟩
    · cases hh
  | _ => cases hh
def dAsgX (e : DE) (g : DGX) : DS := fun ev st => (e ev st).bind fun p => (g p.1 ev p.2).map fun q => .nx q.1 q.2
theorem pds_asgX {tg e : Expr} {de : DE} {dg : DGX} {pos : Pos} (he : PD X e de) (hg : PDX X tg dg) (hs : swapsWithSole [tg] e pos.line X.env = pure false := by rfl) (hw : swappedStores [tg] e X.env = pure none := by rfl)
    (h1 : (assignEach [tg] X.env).map (·.2) = [assign tg X.env] := by rfl) : PDS X (.Assign [tg] e pos) (dAsgX de dg) := by
  obtain ⟨te, pe, se⟩ := he
  obtain ⟨t, p, s⟩ := hg
  refine ⟨_, ps_asg pe p hs hw h1, fun σ H m ev st o S E h D q => ?_⟩
  unfold dAsgX at h
  obtain ⟨⟨x, st1⟩, h2, h⟩ := Option.bind_eq_some_iff.mp h
  obtain ⟨⟨ev1, st2⟩, h3, h⟩ := Option.map_eq_some_iff.mp h
  cases h
  refine se σ H m ev st x st1 S E h2 _ fun v1 H1 m1 s1 S1 r1 => ?_
  exact s v1 σ H1 m1 ev st1 x ev1 st2 S1 (E.stp s1) r1 h3 _ fun σ' H' m' s2 S2 E2 => q σ' H' m' (s1.trans s2) S2 E2
/-- xs[i] op= e -/
theorem get_list : PGet X (rIxL X.K) := by
  intro pins s σ H x y v u Q I rx ry h
  obtain ⟨p, xs, i, z, rfl, rfl, hq, he, q⟩ := h
  cases rx
  obtain ⟨t, rfl⟩ := ry
  obtain ⟨its, r, pl, hz⟩ := I.list hq
  obtain ⟨j, h1, h2, h3, h4, h5⟩ := atI_get he
  obtain ⟨w, ew, rw'⟩ := r.get h2
  have hl := r.length
  have hn := line63
  have fin : EP X pins σ Q w s := ⟨z, H, I, rw', q⟩
  by_cases h0 : 0 ≤ i
  · have hj : i.toNat = j := by
      rw [seqIndex_of h0 h5] at h1
      exact Option.some.inj h1
    exact wpAny_getItem_list pl.isList h0 (by omega) (by rw [hj]; simpa using ew) fin
  · have hj : (i + (its.toArray.size : Int)).toNat = j := by
      rw [seqIndex_neg (by omega) h4] at h1
      rw [List.size_toArray, ← hl]
      exact Option.some.inj h1
    exact wpAny_getItem_list_neg pl.isList (by omega) (by rw [List.size_toArray] <;> omega) (by omega) (by rw [hj]; simpa using ew) fin
def dAugX (o i e : DE) (g : Sto → Dt → Dt → Option Dt) : DS := fun ev st => (o ev st).bind fun p => (i ev p.2).bind fun q => match p.1, q.1 with
  | .ptr k, .int n => match q.2[k]? with
    | some (.lst ds) => (atI ds n).bind fun x => (e ev q.2).bind fun r => (g r.2 x r.1).bind fun z => match r.2[k]? with
      | some (.lst es) => (ixN es.length n).map fun j => .nx ev (r.2.set k (.lst (es.set j z)))
      | _ => none
    | _ => none
  | _, _ => none
theorem pds_augX {o i e : Expr} {d_o di de : DE} {op : Operator} {r : R2} {g : Sto → Dt → Dt → Option Dt} {tpos pos : Pos} (ho : PD X o d_o) (hi : PD X i di) (he : PD X e de) (hop : OpR X (inplaceOp op) r) (hr : RS X.K r g)
    (ha : ∀ ov iv new, augStore i ov iv new = (do holding [new, ov, iv] (setItem ov iv new); release [new, ov, iv] []; pure .next) := by intros; rfl) : PDS X (.AugAssign (.Subscript o i tpos) op e pos) (dAugX d_o di de g) := by
  obtain ⟨to, po, so⟩ := ho
  obtain ⟨ti, pi, si⟩ := hi
  obtain ⟨te, pe, se⟩ := he
  refine ⟨_, ps_augS po pi get_list pe (pip_of hop) set_list ha, fun σ H m ev st ou S E h D q => ?_⟩
  unfold dAugX at h
  obtain ⟨⟨x, st1⟩, h1, h⟩ := Option.bind_eq_some_iff.mp h
  obtain ⟨⟨y, st2⟩, h2, h⟩ := Option.bind_eq_some_iff.mp h
  refine so σ H m ev st x st1 S E h1 _ fun v1 H1 m1 s1 S1 r1 => ?_
  refine si σ H1 m1 ev st1 y st2 S1 (E.stp s1) h2 _ fun v2 H2 m2 s2 S2 r2 => ?_
  have key : ∃ k n ds x0, x = .ptr k ∧ y = .int n ∧ st2[k]? = some (.lst ds) ∧ atI ds n = some x0 ∧ ((de ev st2).bind fun r => (g r.2 x0 r.1).bind fun z => match r.2[k]? with
      | some (.lst es) => (ixN es.length n).map fun j => Out.nx ev (r.2.set k (.lst (es.set j z)))
      | _ => none) = some ou := by
    cases x <;> cases y <;> simp only [reduceCtorEq] at h
    split at h
    · rename_i ds e
      obtain ⟨x0, h3, h⟩ := Option.bind_eq_some_iff.mp h
      exact ⟨_, _, _, _, rfl, rfl, e, h3, h⟩
    · cases h
  obtain ⟨k, n, ds, x0, rfl, rfl, e, h3, h⟩ := key
  obtain ⟨⟨yv, st3⟩, h4, h⟩ := Option.bind_eq_some_iff.mp h
  obtain ⟨z, h5, h⟩ := Option.bind_eq_some_iff.mp h
  simp only at h
  split at h
  · rename_i es e3
    obtain ⟨j, h6, h⟩ := Option.map_eq_some_iff.mp h
    cases h
    have r1' := s2.rep r1
    cases r2
    cases r1' with
    | @ptr _ a hk =>
      obtain ⟨vs, h7, h8⟩ := S2.ok k a _ hk e
      obtain ⟨j0, g1, g2⟩ : ∃ j0, ixN ds.length n = some j0 ∧ ds[j0]? = some x0 := by
        unfold atI at h3
        exact Option.bind_eq_some_iff.mp h3
      obtain ⟨vx, g3, g4⟩ := h8.get g2
      refine ⟨a, vs, n, vx, rfl, rfl, .inl (.inl h7), by unfold atI; rw [← h8.length, g1]; exact g3, ?_⟩
      refine se σ H2 m2 ev st2 yv st3 S2 (E.stp (s1.trans s2)) h4 _ fun v3 H3 m3 s3 S3 r3 => ?_
      refine hr H3 m3 st3 x0 yv z vx v3 S3 (s3.rep g4) r3 h5 _ fun v4 H4 s4 S4 r4 => ?_
      have hk3 : m3.m[k]? = some a := pre_get s3.1.1 hk
      obtain ⟨us, g5, g6⟩ := S4.ok k a _ hk3 e3
      have st5 := Stp.mut (o := .lst (us.set j v4)) S4 hk3
      exact ⟨a, us, n, j, rfl, rfl, g5, by rw [← g6.length]; exact h6, q σ _ m3 ((((s1.trans s2).trans s3).trans s4).trans st5) (S4.mut hk3 ⟨_, upd_same, st5.reps (g6.set r4 j)⟩) (E.stp ((((s1.trans s2).trans s3).trans s4).trans st5))⟩
  · cases h
end
end PD

namespace PD
open PySem PySem.Spec PyProof.Rows L2

/-! ## whole numbers -/
/-- a bound that every number of ours keeps -/
@[irreducible] def Bd (n : Nat) (i : Int) : Prop := i.natAbs < 2 ^ n
theorem Bd_iff {n : Nat} {i : Int} : Bd n i ↔ i.natAbs < 2 ^ n := by unfold Bd; exact Iff.rfl
instance (n : Nat) (i : Int) : Decidable (Bd n i) := decidable_of_iff _ Bd_iff.symm
theorem Bd.mono {n k : Nat} {i : Int} (h : Bd n i) (hk : n ≤ k) : Bd k i := by
  rw [Bd_iff] at *
  exact Nat.lt_of_lt_of_le h (Nat.pow_le_pow_right (by decide) hk)
theorem Bd.mul {n k : Nat} {i j : Int} (h : Bd n i) (h2 : Bd k j) : Bd (n + k) (i * j) := by
  rw [Bd_iff] at *
  rw [Int.natAbs_mul, Nat.pow_add]
  exact Nat.mul_lt_mul'' h h2
theorem Bd.add {n k : Nat} {i j : Int} (h : Bd n i) (h2 : Bd k j) : Bd (max n k + 1) (i + j) := by
  have h1 := h.mono (Nat.le_max_left n k)
  have h3 := h2.mono (Nat.le_max_right n k)
  rw [Bd_iff] at *
  rw [Nat.pow_succ]
  omega
theorem Bd.neg {n : Nat} {i : Int} (h : Bd n i) : Bd n (-i) := by
  rw [Bd_iff] at *
  omega
theorem Bd.sub {n k : Nat} {i j : Int} (h : Bd n i) (h2 : Bd k j) : Bd (max n k + 1) (i - j) := by
  rw [Int.sub_eq_add_neg]
  exact h.add h2.neg
theorem Bd.lit (i : Int) (n : Nat) (h : i.natAbs < 2 ^ n) : Bd n i := Bd_iff.mpr h
theorem Bd.le {n : Nat} {i j : Int} (h : Bd n i) (hj : j.natAbs ≤ i.natAbs) : Bd n j := by
  rw [Bd_iff] at *
  exact Nat.lt_of_le_of_lt hj h
def okMul (i j : Int) : Prop := Bd 1000000 i ∧ Bd 1000000 j
instance (i j : Int) : Decidable (okMul i j) := by unfold okMul; infer_instance
def okDiv (j : Int) : Prop := j ≠ 0 ∧ Bd 8000 j
instance (j : Int) : Decidable (okDiv j) := by unfold okDiv; infer_instance
/-- floor division: the divisor of any sign -/
def fdivZ (i j : Int) : Int := if 0 < j then i / j else (-i) / (-j)
theorem fdivZ_eq {i j : Int} (h : j ≠ 0) : fdivZ i j = i.fdiv j := by
  unfold fdivZ
  split
  · exact (Int.fdiv_eq_ediv_of_nonneg i (by omega)).symm
  · rw [← Int.neg_fdiv_neg]
    exact (Int.fdiv_eq_ediv_of_nonneg (-i) (by omega)).symm
section
variable {X : Cx} {K : PySem.W.Frag}
theorem bd_log2 {n : Nat} {j : Int} (h : Bd n j) (h0 : 0 < n) : j.natAbs.log2 < n := PySem.Flt.log2_lt_of h0 (Bd_iff.mp h)
theorem op_fdivZ : OpR X (binaryOp .FloorDiv) (rI (fun _ j => okDiv j) fun i j => .int (fdivZ i j)) := opI fun i j _ _ _ _ _ hc q =>
  floordiv_int hc.1 (by rw [← fdivZ_eq hc.1]; exact q) (.inl (PyProof.noPylong_of_log2 (Nat.lt_trans (bd_log2 hc.2 (by decide)) (by decide))))
theorem iop_fdivZ : OpR X (inplaceOp .FloorDiv) (rI (fun _ j => okDiv j) fun i j => .int (fdivZ i j)) := opI fun i j _ _ _ _ _ hc q =>
  ifloordiv_int hc.1 (by rw [← fdivZ_eq hc.1]; exact q) (.inl (PyProof.noPylong_of_log2 (Nat.lt_trans (bd_log2 hc.2 (by decide)) (by decide))))
theorem okMul.ok {i j : Int} (h : okMul i j) : CMulX i j := mulx_ok (Bd_iff.mp h.1) (Bd_iff.mp h.2) (by decide)
def gII (C : Int → Int → Prop) [∀ i j, Decidable (C i j)] (f : Int → Int → Dt) : Sto → Dt → Dt → Option Dt := fun _ d e => match d, e with
  | .int i, .int j => if C i j then some (f i j) else none
  | _, _ => none
def gI2 (f : Int → Int → Dt) : Sto → Dt → Dt → Option Dt := fun _ d e => match d, e with
  | .int i, .int j => some (f i j)
  | _, _ => none
/-- a flat value and its data -/
def flatD : Dt → Option V
  | .non => some .non
  | .bl b => some (.bl b)
  | .int i => some (.int i)
  | .str x => some (.str x)
  | _ => none
theorem flat_rep {H : Hp} {m : MM} {d : Dt} {v : V} (h : flatD d = some v) : Rep K H m d v := by
  cases d <;> cases h
  · exact .non
  · exact .bl _
  · exact .int _
  · exact .str _
theorem rs_II {C C' : Int → Int → Prop} [∀ i j, Decidable (C i j)] {f : Int → Int → V} {g : Int → Int → Dt} (hc : ∀ i j, C i j → C' i j) (hf : ∀ i j, flatD (g i j) = some (f i j)) : RS K (rI C' f) (gII C g) := by
  intro H m st d e z x y S rx ry h Q q
  cases rx <;> cases ry <;> simp only [gII, reduceCtorEq] at h
  split at h
  · rename_i hC
    cases h
    exact ⟨_, _, rfl, rfl, hc _ _ hC, q _ H (Stp.refl _ _) S (flat_rep (hf _ _))⟩
  · cases h
theorem rs_I2 {f : Int → Int → V} {g : Int → Int → Dt} (hf : ∀ i j, flatD (g i j) = some (f i j)) : RS K (rI0 f) (gI2 g) := by
  intro H m st d e z x y S rx ry h Q q
  cases rx <;> cases ry <;> simp only [gI2, reduceCtorEq] at h
  cases h
  exact ⟨_, _, rfl, rfl, q _ H (Stp.refl _ _) S (flat_rep (hf _ _))⟩
abbrev gSub := gI2 fun i j => .int (i - j)
abbrev gMul := gII okMul fun i j => .int (i * j)
abbrev gFdiv := gII (fun _ j => okDiv j) fun i j => .int (fdivZ i j)
abbrev gMod := gII (fun _ j => 0 < j) fun i j => .int (i % j)
abbrev gPow := gII (fun i j => 0 ≤ j ∧ j ≤ 1000000 ∧ i.natAbs < 2 ^ 64) fun i j => .int (i ^ j.toNat)
abbrev gLt := gI2 fun i j => .bl (decide (i < j))
abbrev gLe := gI2 fun i j => .bl (decide (i ≤ j))
abbrev gGt := gI2 fun i j => .bl (decide (j < i))
abbrev gGe := gI2 fun i j => .bl (decide (j ≤ i))
theorem rs_sub : RS K (rI0 fun i j => .int (i - j)) gSub := rs_I2 fun _ _ => rfl
theorem rs_mul : RS K (rI CMulX fun i j => .int (i * j)) gMul := rs_II (fun _ _ h => okMul.ok h) fun _ _ => rfl
theorem rs_fdiv : RS K (rI (fun _ j => okDiv j) fun i j => .int (fdivZ i j)) gFdiv := rs_II (fun _ _ h => h) fun _ _ => rfl
theorem rs_mod : RS K (rI (fun _ j => 0 < j) fun i j => .int (i % j)) gMod := rs_II (fun _ _ h => h) fun _ _ => rfl
theorem rs_pow : RS K (rI CPow fun i j => .int (i ^ j.toNat)) gPow := rs_II (fun _ _ h => h) fun _ _ => rfl
theorem rs_lt : RS K (rI0 fun i j => .bl (decide (i < j))) gLt := rs_I2 fun _ _ => rfl
theorem rs_le : RS K (rI0 fun i j => .bl (decide (i ≤ j))) gLe := rs_I2 fun _ _ => rfl
theorem rs_gt : RS K (rI0 fun i j => .bl (decide (j < i))) gGt := rs_I2 fun _ _ => rfl
theorem rs_ge : RS K (rI0 fun i j => .bl (decide (j ≤ i))) gGe := rs_I2 fun _ _ => rfl
theorem iop_mulX : OpR X (inplaceOp .Mult) (rI CMulX fun i j => .int (i * j)) := opI fun _ _ _ _ _ _ _ hc q => imul_int q hc.ok

/-! ## + of numbers, texts, tuples, lists -/
def gAdd : Sto → Dt → Dt → Option Dt := fun st d e => match d, e with
  | .int i, .int j => some (.int (i + j))
  | .str x, .str y => if x.length + y.length ≤ 1000000 then some (.str (x ++ y)) else none
  | .tup xs, .tup ys => if xs.length + ys.length ≤ 1000000 then some (.tup (xs ++ ys)) else none
  | d, e => match look st d, look st e with
    | some xs, some ys => if xs.length + ys.length ≤ 1000000 then some (.lst (xs ++ ys)) else none
    | _, _ => none
def rAddA (K : PySem.W.Frag) : R2 := fun x y H Q => (rI0 fun i j => .int (i + j)) x y H Q ∨ ((∃ i j, x = .str i ∧ y = .str j ∧ i.length + j.length ≤ sizeLine ∧ Q (.str (i ++ j)) H) ∨ (rCatA K x y H Q ∨ rCat x y H Q))
theorem op_addA : OpR X (binaryOp .Add) (rAddA X.K) := op_add.or (op_add_str.or (op_catA.or op_cat))
theorem look_lst {st : Sto} {d : Dt} {ds : List Dt} (h : look st d = some ds) : (∃ xs, d = .lst xs) ∨ ∃ k, d = .ptr k := by
  cases d <;> first | exact .inl ⟨_, rfl⟩ | exact .inr ⟨_, rfl⟩ | (simp only [look, reduceCtorEq] at h)
theorem rs_addLL {H : Hp} {m : MM} {st : Sto} {d e z : Dt} {x y : V} (S : StR K H m st) (rx : Rep K (hid H m) m d x) (ry : Rep K (hid H m) m e y) (h : (match look st d, look st e with
    | some xs, some ys => if xs.length + ys.length ≤ 1000000 then some (Dt.lst (xs ++ ys)) else none
    | _, _ => none) = some z) (Q : VK) (q : ∀ v H', Stp H m H' m → StR K H' m st → Rep K (hid H' m) m z v → Q v H') : rCat x y H Q := by
  split at h
  · rename_i xs ys e1 e2
    split at h
    · rename_i hl
      cases h
      obtain ⟨a, vs, rfl, h1, h2⟩ := look_ok S rx e1
      obtain ⟨b, us, rfl, h3, h4⟩ := look_ok S ry e2
      refine ⟨a, b, vs, us, rfl, rfl, h1, h3, by rw [← h2.length, ← h4.length]; exact size1m hl, fun p hp => ?_⟩
      obtain ⟨x1, x2, x3⟩ := mk_lst S hp (h2.append h4)
      exact q _ _ x1 x2 x3
    · cases h
  · cases h
theorem rs_add : RS K (rAddA K) gAdd := by
  intro H m st d e z x y S rx ry h Q q
  unfold gAdd at h
  split at h
  · cases h
    cases rx
    cases ry
    exact .inl ⟨_, _, rfl, rfl, q _ H (Stp.refl _ _) S (.int _)⟩
  · split at h
    · rename_i hl
      cases h
      cases rx
      cases ry
      exact .inr (.inl ⟨_, _, rfl, rfl, size1m hl, q _ H (Stp.refl _ _) S (.str _)⟩)
    · cases h
  · split at h
    · rename_i xs ys hl
      cases h
      cases rx with
      | @tup a vs _ h1 h2 =>
        cases ry with
        | @tup b us _ h3 h4 =>
          refine .inr (.inr (.inl ⟨a, b, vs, us, rfl, rfl, (hid_ext H m).sqT (TupAt.sq h1), (hid_ext H m).sqT (TupAt.sq h3), by rw [← h2.length, ← h4.length]; exact size1m hl, fun e => ?_, fun _ e => ?_, fun _ _ p hp => ?_⟩))
          · subst e
            cases h2
            exact q _ H (Stp.refl _ _) S (.tup h3 h4)
          · subst e
            cases h4
            rw [List.append_nil] at q
            exact q _ H (Stp.refl _ _) S (.tup h1 h2)
          · obtain ⟨x1, x2, x3⟩ := mk_tup S hp (h2.append h4)
            exact q _ _ x1 x2 x3
    · cases h
  · exact .inr (.inr (.inr (rs_addLL S rx ry h Q q)))
/-- + of two lists: the new one may change -/
def dCatM (a b : DE) : DE := fun ev st => (a ev st).bind fun p => (b ev p.2).bind fun q => match look q.2 p.1, look q.2 q.1 with
  | some xs, some ys => if xs.length + ys.length ≤ 1000000 then some (.ptr q.2.length, q.2 ++ [.lst (xs ++ ys)]) else none
  | _, _ => none
theorem pd_catM {a b : Expr} {da db : DE} {pos : Pos} (ha : PD X a da) (hb : PD X b db) : PD X (.BinOp a .Add b pos) (dCatM da db) := by
  obtain ⟨ta, pa, sa⟩ := ha
  obtain ⟨tb, pb, sb⟩ := hb
  refine ⟨_, pe_op op_cat pa pb, fun σ H m ev st d st' S E h Q q => ?_⟩
  unfold dCatM at h
  obtain ⟨⟨x, st1⟩, h1, h⟩ := Option.bind_eq_some_iff.mp h
  obtain ⟨⟨y, st2⟩, h2, h⟩ := Option.bind_eq_some_iff.mp h
  refine sa σ H m ev st x st1 S E h1 _ fun v1 H1 m1 s1 S1 r1 => ?_
  refine sb σ H1 m1 ev st1 y st2 S1 (E.stp s1) h2 _ fun v2 H2 m2 s2 S2 r2 => ?_
  simp only at h
  split at h
  · rename_i xs ys e1 e2
    split at h
    · rename_i hl
      cases h
      obtain ⟨a, vs, rfl, h3, h4⟩ := look_ok S2 (s2.rep r1) e1
      obtain ⟨b, us, rfl, h5, h6⟩ := look_ok S2 r2 e2
      refine ⟨a, b, vs, us, rfl, rfl, h3, h5, by rw [← h4.length, ← h6.length]; exact size1m hl, fun p hp => ?_⟩
      obtain ⟨x1, x2, x3⟩ := mk_lstM S2 hp (h4.append h6)
      exact q _ _ _ ((s1.trans s2).trans x1) x2 x3
    · cases h
  · cases h

/-! ## == and in, at any depth -/
def py (st : Sto) : Nat → Dt → Option PyData
  | _, .non => some .none
  | _, .bl b => some (.bool b)
  | _, .int i => some (.int i)
  | _, .str x => if PyData.strOk x = true then some (.str x) else none
  | f + 1, .tup ds => (mapO (py st f) ds).map .tuple
  | f + 1, .lst ds => (mapO (py st f) ds).map .list
  | f + 1, .ptr k => match st[k]? with
    | some (.lst ds) => (mapO (py st f) ds).map .list
    | _ => none
  | _, _ => none
theorem mapO_dp {H : Hp} {m : MM} {Hh : Hp} {f : Dt → Option PyData} : ∀ {ds : List Dt} {es : List PyData} {vs : List V}, (∀ d e v, f d = some e → Rep K Hh m d v → Dp K H v e) → mapO f ds = some es → Reps K Hh m ds vs → DpAll K H vs es
  | [], _, _, _, h, r => by
    cases r
    cases h
    exact .nil
  | d :: ds, _, _, hf, h, r => by
    cases r with
    | cons r1 r2 =>
      unfold mapO at h
      obtain ⟨x, h1, h⟩ := Option.bind_eq_some_iff.mp h
      obtain ⟨xs, h2, h⟩ := Option.map_eq_some_iff.mp h
      cases h
      exact .cons (hf _ _ _ h1 r1) (mapO_dp hf h2 r2)
theorem py_dp {H : Hp} {m : MM} {st : Sto} (S : StR K H m st) : ∀ (f : Nat) (d : Dt) (e : PyData) (v : V), py st f d = some e → Rep K (hid H m) m d v → Dp K H v e := by
  intro f
  induction f with
  | zero =>
    intro d e v h r
    cases r <;> simp only [py, reduceCtorEq] at h <;> first | (cases h; first | exact .non | exact .bl _ | exact .int _) | skip
    split at h
    · cases h; exact .str _
    · cases h
  | succ f ih =>
    intro d e v h r
    cases r with
    | non => cases h; exact .non
    | bl b => cases h; exact .bl _
    | int i => cases h; exact .int _
    | str x =>
      simp only [py] at h
      split at h
      · cases h; exact .str _
      · cases h
    | tup h1 h2 =>
      simp only [py] at h
      obtain ⟨es, e1, h⟩ := Option.map_eq_some_iff.mp h
      cases h
      exact .tup ((hid_ext H m).sqT (TupAt.sq h1)) (mapO_dp (fun d e v a b => ih d e v a b) e1 h2)
    | lst h1 h2 =>
      simp only [py] at h
      obtain ⟨es, e1, h⟩ := Option.map_eq_some_iff.mp h
      cases h
      exact .lst (.inl (.inl (hid_ext _ _ _ _ h1))) (mapO_dp (fun d e v a b => ih d e v a b) e1 h2)
    | @ptr k a h1 =>
      simp only [py] at h
      split at h
      · rename_i ds hk
        obtain ⟨es, e1, h⟩ := Option.map_eq_some_iff.mp h
        cases h
        obtain ⟨vs, h3, h4⟩ := S.ok k a _ h1 hk
        exact .lst (.inl (.inl h3)) (mapO_dp (fun d e v a b => ih d e v a b) e1 h4)
      · cases h
    | scr h1 => simp only [py, reduceCtorEq] at h
    | ty n => simp only [py, reduceCtorEq] at h
    | rf a => simp only [py, reduceCtorEq] at h
    | exc h1 h2 h3 h4 => simp only [py, reduceCtorEq] at h
    | cls h1 => simp only [py, reduceCtorEq] at h
theorem mapO_all {f : Dt → Option PyData} {n : Nat} : ∀ {ds : List Dt} {es : List PyData}, (∀ d e, f d = some e → PyData.canLay0 e = true ∧ e.depth ≤ n) → mapO f ds = some es → PyData.canLayAll0 es = true ∧ PyData.depthAll es ≤ n
  | [], _, _, h => by
    cases h
    exact ⟨rfl, Nat.zero_le _⟩
  | d :: ds, _, hf, h => by
    unfold mapO at h
    obtain ⟨x, h1, h⟩ := Option.bind_eq_some_iff.mp h
    obtain ⟨xs, h2, h⟩ := Option.map_eq_some_iff.mp h
    cases h
    obtain ⟨a, b⟩ := hf _ _ h1
    obtain ⟨c, e⟩ := mapO_all hf h2
    refine ⟨by simp only [PyData.canLayAll0, a, c, Bool.and_self], ?_⟩
    simp only [PyData.depthAll]
    omega
theorem py_shape {st : Sto} : ∀ (f : Nat) (d : Dt) (e : PyData), py st f d = some e → PyData.canLay0 e = true ∧ e.depth ≤ f := by
  intro f
  induction f with
  | zero =>
    intro d e h
    cases d <;> simp only [py, reduceCtorEq] at h <;> first | (cases h; exact ⟨by simp only [PyData.canLay0], by simp only [PyData.depth]; omega⟩) | skip
    split at h
    · rename_i hs
      cases h
      exact ⟨by simp only [PyData.canLay0]; exact hs, by simp only [PyData.depth]; omega⟩
    · cases h
  | succ f ih =>
    intro d e h
    cases d <;> simp only [py, reduceCtorEq] at h <;> first | (cases h; exact ⟨by simp only [PyData.canLay0], by simp only [PyData.depth]; omega⟩) | skip
    · split at h
      · rename_i hs
        cases h
        exact ⟨by simp only [PyData.canLay0]; exact hs, by simp only [PyData.depth]; omega⟩
      · cases h
    · obtain ⟨es, e1, h⟩ := Option.map_eq_some_iff.mp h
      cases h
      obtain ⟨a, b⟩ := mapO_all ih e1
      exact ⟨by simp only [PyData.canLay0]; exact a, by simp only [PyData.depth]; omega⟩
    · obtain ⟨es, e1, h⟩ := Option.map_eq_some_iff.mp h
      cases h
      obtain ⟨a, b⟩ := mapO_all ih e1
      exact ⟨by simp only [PyData.canLay0]; exact a, by simp only [PyData.depth]; omega⟩
    · split at h
      · obtain ⟨es, e1, h⟩ := Option.map_eq_some_iff.mp h
        cases h
        obtain ⟨a, b⟩ := mapO_all ih e1
        exact ⟨by simp only [PyData.canLay0]; exact a, by simp only [PyData.depth]; omega⟩
      · cases h
theorem py_shaped {st : Sto} {d : Dt} {e : PyData} (h : py st 9 d = some e) : SeqAt.shaped e = true := by
  obtain ⟨a, b⟩ := py_shape 9 d e h
  unfold SeqAt.shaped
  rw [a, decide_eq_true (show e.depth ≤ 64 by omega)] <;> rfl
def gEq : Sto → Dt → Dt → Option Dt := fun st d e => (py st 9 d).bind fun a => (py st 9 e).map fun b => .bl (PyData.eqv a b)
def gNe : Sto → Dt → Dt → Option Dt := fun st d e => (py st 9 d).bind fun a => (py st 9 e).map fun b => .bl (!PyData.eqv a b)
def gIn : Sto → Dt → Dt → Option Dt := fun st d e => (py st 9 d).bind fun a => match py st 9 e with
  | some (.list bs) => some (.bl (bs.any fun z => PyData.eqv z a))
  | _ => none
def gNotIn : Sto → Dt → Dt → Option Dt := fun st d e => (py st 9 d).bind fun a => match py st 9 e with
  | some (.list bs) => some (.bl (!bs.any fun z => PyData.eqv z a))
  | _ => none
theorem rs_eq : RS K (rEqD K) gEq := by
  intro H m st d e z x y S rx ry h Q q
  unfold gEq at h
  obtain ⟨a, h1, h⟩ := Option.bind_eq_some_iff.mp h
  obtain ⟨b, h2, h⟩ := Option.map_eq_some_iff.mp h
  cases h
  exact ⟨a, b, py_dp S _ _ _ _ h1 rx, py_dp S _ _ _ _ h2 ry, py_shaped h1, py_shaped h2, q _ H (Stp.refl _ _) S (.bl _)⟩
theorem rs_ne : RS K (rNeD K) gNe := by
  intro H m st d e z x y S rx ry h Q q
  unfold gNe at h
  obtain ⟨a, h1, h⟩ := Option.bind_eq_some_iff.mp h
  obtain ⟨b, h2, h⟩ := Option.map_eq_some_iff.mp h
  cases h
  exact ⟨a, b, py_dp S _ _ _ _ h1 rx, py_dp S _ _ _ _ h2 ry, py_shaped h1, py_shaped h2, q _ H (Stp.refl _ _) S (.bl _)⟩
theorem rs_in : RS K (rInD K) gIn := by
  intro H m st d e z x y S rx ry h Q q
  unfold gIn at h
  obtain ⟨a, h1, h⟩ := Option.bind_eq_some_iff.mp h
  split at h
  · rename_i bs h2
    cases h
    exact ⟨a, bs, py_dp S _ _ _ _ h1 rx, py_dp S _ _ _ _ h2 ry, py_shaped h1, py_shaped h2, q _ H (Stp.refl _ _) S (.bl _)⟩
  · cases h
theorem rs_notIn : RS K (rNotInD K) gNotIn := by
  intro H m st d e z x y S rx ry h Q q
  unfold gNotIn at h
  obtain ⟨a, h1, h⟩ := Option.bind_eq_some_iff.mp h
  split at h
  · rename_i bs h2
    cases h
    exact ⟨a, bs, py_dp S _ _ _ _ h1 rx, py_dp S _ _ _ _ h2 ry, py_shaped h1, py_shaped h2, q _ H (Stp.refl _ _) S (.bl _)⟩
  · cases h
theorem hu64 {k : Nat} {A : Around} (hr : Room k A) : A.units + 64 < cLine := hr.units
theorem hu65 {k : Nat} {A : Around} (hr : Room (k + 1) A) : A.units + 65 < cLine := by
  have h1 := hr.un
  omega
/-! is None, is True -/
def gIs : Sto → Dt → Dt → Option Dt := fun _ d e => match d, e with
  | .non, .non => some (.bl true)
  | .bl a, .bl b => some (.bl (decide (a = b)))
  | .bl _, .non | .int _, .non | .str _, .non | .tup _, .non | .lst _, .non | .ptr _, .non | .scr _, .non => some (.bl false)
  | _, _ => none
def gIsNot : Sto → Dt → Dt → Option Dt := fun _ d e => match d, e with
  | .non, .non => some (.bl false)
  | .bl a, .bl b => some (.bl (!decide (a = b)))
  | .bl _, .non | .int _, .non | .str _, .non | .tup _, .non | .lst _, .non | .ptr _, .non | .scr _, .non => some (.bl true)
  | _, _ => none
def rIsA : R2 := fun x y H Q => (y = .non ∧ Q (.bl (decide (x = .non))) H) ∨ ∃ a b, x = .bl a ∧ y = .bl b ∧ Q (.bl (decide (a = b))) H
def rIsNotA : R2 := fun x y H Q => (y = .non ∧ Q (.bl (!decide (x = .non))) H) ∨ ∃ a b, x = .bl a ∧ y = .bl b ∧ Q (.bl (!decide (a = b))) H
theorem op_isA : OpR X (compareOp .Is) rIsA := op_isN.or op_is_bl
theorem op_isNotA : OpR X (compareOp .IsNot) rIsNotA := op_notN.or op_isnot_bl
theorem rs_is : RS K rIsA gIs := by
  intro H m st d e z x y S rx ry h Q q
  unfold gIs at h
  split at h <;> first | (cases h; done) | skip
  all_goals (first | (cases h; cases rx; cases ry; first | exact .inl ⟨rfl, q _ H (Stp.refl _ _) S (.bl _)⟩ | exact .inr ⟨_, _, rfl, rfl, q _ H (Stp.refl _ _) S (.bl _)⟩))
theorem rs_isNot : RS K rIsNotA gIsNot := by
  intro H m st d e z x y S rx ry h Q q
  unfold gIsNot at h
  split at h <;> first | (cases h; done) | skip
  all_goals (first | (cases h; cases rx; cases ry; first | exact .inl ⟨rfl, q _ H (Stp.refl _ _) S (.bl _)⟩ | exact .inr ⟨_, _, rfl, rfl, q _ H (Stp.refl _ _) S (.bl _)⟩))

/-! ## subscripts, slices -/
def gIx : Sto → Dt → Dt → Option Dt := fun st d e => match d, e with
  | .tup ds, .int i => atI ds i
  | .scr ns, .int i => (atI ns i).map .int
  | .str z, .int i => if z.length ≤ 1000000 then (atI z.cps.toList i).map fun c => .str ⟨#[c]⟩ else none
  | d, .int i => (look st d).bind fun ds => atI ds i
  | _, _ => none
theorem atI_reps {Hh : Hp} {m : MM} {ds : List Dt} {vs : List V} {i : Int} {d : Dt} (r : Reps K Hh m ds vs) (h : atI ds i = some d) : ∃ v, atI vs i = some v ∧ Rep K Hh m d v := by
  unfold atI at *
  obtain ⟨j, h1, h2⟩ := Option.bind_eq_some_iff.mp h
  obtain ⟨v, h3, h4⟩ := r.get h2
  exact ⟨v, by rw [← r.length, h1]; exact h3, h4⟩
theorem atI_map {α β : Type} {f : α → β} {xs : List α} {i : Int} {x : α} (h : atI xs i = some x) : atI (xs.map f) i = some (f x) := by
  unfold atI at *
  obtain ⟨j, h1, h2⟩ := Option.bind_eq_some_iff.mp h
  rw [List.length_map, h1]
  show (xs.map f)[j]? = _
  rw [List.getElem?_map, h2] <;> rfl
theorem rs_ix : RS K (rIx K) gIx := by
  intro H m st d e z x y S rx ry h Q q
  unfold gIx at h
  split at h
  · cases rx with
    | tup h1 h2 =>
      cases ry
      obtain ⟨v, e1, r1⟩ := atI_reps h2 h
      exact .inr (.inl ⟨_, _, _, v, rfl, rfl, (hid_ext H m).sqT (TupAt.sq h1), e1, q _ H (Stp.refl _ _) S r1⟩)
  · cases rx with
    | scr h1 =>
      cases ry
      obtain ⟨n, e1, h⟩ := Option.map_eq_some_iff.mp h
      cases h
      exact .inl ⟨_, _, _, _, rfl, rfl, (hid_ext H m).sqL h1, atI_map e1, q _ H (Stp.refl _ _) S (.int _)⟩
  · cases rx
    cases ry
    split at h
    · rename_i hl
      obtain ⟨n, e1, h⟩ := Option.map_eq_some_iff.mp h
      cases h
      exact .inr (.inr ⟨_, _, n, rfl, rfl, size1m hl, e1, q _ H (Stp.refl _ _) S (.str _)⟩)
    · cases h
  · obtain ⟨ds, h1, h⟩ := Option.bind_eq_some_iff.mp h
    obtain ⟨a, vs, rfl, h2, h3⟩ := look_ok S rx h1
    cases ry
    obtain ⟨v, e1, r1⟩ := atI_reps h3 h
    exact .inl ⟨a, vs, _, v, rfl, rfl, .inl (.inl h2), e1, q _ H (Stp.refl _ _) S r1⟩
  · cases h
/-- x[lo:hi] -/
def DO := En → Sto → Option (Option Int × Sto)
def SO (K : PySem.W.Frag) (t : TO) (den : DO) : Prop := ∀ (σ : L2.St) (H : Hp) (m : MM) (ev : En) (st : Sto) (d : Option Int) (st' : Sto), StR K H m st → EnR K H m ev σ → den ev st = some (d, st') →
  ∀ Q : Option Int → Hp → Prop, (∀ H' m', Stp H m H' m' → StR K H' m' st' → Q d H') → t σ H Q
def PDO (X : Cx) (e : Option Expr) (den : DO) : Prop := ∃ t, PO X e t ∧ SO X.K t den
def doNone : DO := fun _ st => some (none, st)
def doSome (e : DE) : DO := fun ev st => match e ev st with
  | some (.int i, st1) => some (some i, st1)
  | _ => none
theorem pdo_none : PDO X none doNone := ⟨_, po_none, fun σ H m ev st d st' S E h Q q => by
  cases h
  exact q H m (Stp.refl _ _) S⟩
theorem pdo_some {e : Expr} {de : DE} (h : PD X e de) : PDO X (some e) (doSome de) := by
  obtain ⟨t, p, s⟩ := h
  refine ⟨_, po_some p, fun σ H m ev st d st' S E h Q q => ?_⟩
  unfold doSome at h
  split at h
  · rename_i i st1 e
    cases h
    refine s σ H m ev st _ _ S E e _ fun v H1 m1 s1 S1 r1 => ?_
    cases r1
    exact ⟨i, rfl, q H1 m1 s1 S1⟩
  · cases h
def cutD {α : Type} (xs : List α) (lo hi : Option Int) : List α := (xs.drop (HT.sIx xs.length 0 lo)).take (HT.sIx xs.length xs.length hi - HT.sIx xs.length 0 lo)
theorem cut_reps {Hh : Hp} {m : MM} {ds : List Dt} {vs : List V} {lo hi : Option Int} (r : Reps K Hh m ds vs) : Reps K Hh m (cutD ds lo hi) (cutV vs lo hi) := by
  unfold cutD cutV
  rw [r.length]
  exact (r.drop _).take _
def gSlice : Sto → Dt → Option Int → Option Int → Option Dt := fun st d lo hi => match d with
  | .tup ds => some (.tup (cutD ds lo hi))
  | .scr ns => some (.lst ((cutD ns lo hi).map .int))
  | d => (look st d).map fun ds => .lst (cutD ds lo hi)
def dSlice (e : DE) (lo hi : DO) : DE := fun ev st => (e ev st).bind fun p => (lo ev p.2).bind fun l => (hi ev l.2).bind fun h => (gSlice h.2 p.1 l.1 h.1).map fun z => (z, h.2)
def rSlAll (K : PySem.W.Frag) : V → Option Int → Option Int → Hp → VK → Prop := fun x lo hi H Q => rSlA K x lo hi H Q ∨ rSlL K x lo hi H Q
theorem sl_all : SlR X (rSlAll X.K) := sl_tupA.or sl_list
theorem cut_whole {α : Type} {xs : List α} {lo hi : Option Int} (h : HT.sIx xs.length 0 lo = 0 ∧ HT.sIx xs.length xs.length hi = xs.length) : cutD xs lo hi = xs := by
  unfold cutD
  rw [h.1, h.2, List.drop_zero, Nat.sub_zero, List.take_length]
theorem cut_map {α β : Type} (f : α → β) (xs : List α) (lo hi : Option Int) : (cutD xs lo hi).map f = cutD (xs.map f) lo hi := by
  unfold cutD
  rw [List.map_take, List.map_drop, List.length_map]
theorem slice_ok {H : Hp} {m : MM} {st : Sto} {d z : Dt} {x : V} {lo hi : Option Int} (S : StR K H m st) (rx : Rep K (hid H m) m d x) (h : gSlice st d lo hi = some z) (Q : VK) (q : ∀ v H', Stp H m H' m → StR K H' m st → Rep K (hid H' m) m z v → Q v H') : rSlAll K x lo hi H Q := by
  unfold gSlice at h
  split at h
  · cases h
    cases rx with
    | @tup a vs _ h1 h2 =>
      refine .inl ⟨a, vs, rfl, (hid_ext H m).sqT (TupAt.sq h1), fun hw => ?_, fun _ p hp => ?_⟩
      · rw [← h2.length] at hw
        rw [cut_whole hw] at q
        exact q _ H (Stp.refl _ _) S (.tup h1 h2)
      · obtain ⟨x1, x2, x3⟩ := mk_tup S hp (cut_reps (lo := lo) (hi := hi) h2)
        exact q _ _ x1 x2 x3
  · rename_i ns
    cases h
    cases rx with
    | @scr a _ h1 =>
      refine .inr ⟨a, _, rfl, (hid_ext H m).sqL h1, fun p hp => ?_⟩
      have e : cutV (ns.map V.int) lo hi = (cutD ns lo hi).map V.int := (cut_map V.int ns lo hi).symm
      rw [e]
      obtain ⟨x1, x2, x3⟩ := mk_lst S hp (Reps.of_ints (K := K) (cutD ns lo hi))
      exact q _ _ x1 x2 x3
  · obtain ⟨ds, h1, h⟩ := Option.map_eq_some_iff.mp h
    cases h
    obtain ⟨a, vs, rfl, h2, h3⟩ := look_ok S rx h1
    refine .inr ⟨a, vs, rfl, .inl (.inl h2), fun p hp => ?_⟩
    obtain ⟨x1, x2, x3⟩ := mk_lst S hp (cut_reps (lo := lo) (hi := hi) h3)
    exact q _ _ x1 x2 x3
theorem pd_slice {e : Expr} {lo hi : Option Expr} {de : DE} {dl dh : DO} {pos p2 : Pos} (he : PD X e de) (hl : PDO X lo dl) (hh : PDO X hi dh) : PD X (.Subscript e (.Slice lo hi none p2) pos) (dSlice de dl dh) := by
  obtain ⟨te, pe, se⟩ := he
  obtain ⟨tl, pl, sl⟩ := hl
  obtain ⟨th, ph, sh⟩ := hh
  refine ⟨_, pe_slice sl_all pe pl ph, fun σ H m ev st d st' S E h Q q => ?_⟩
  unfold dSlice at h
  obtain ⟨⟨x, st1⟩, h1, h⟩ := Option.bind_eq_some_iff.mp h
  obtain ⟨⟨l, st2⟩, h2, h⟩ := Option.bind_eq_some_iff.mp h
  obtain ⟨⟨u, st3⟩, h3, h⟩ := Option.bind_eq_some_iff.mp h
  obtain ⟨z, h4, h⟩ := Option.map_eq_some_iff.mp h
  cases h
  refine se σ H m ev st x st1 S E h1 _ fun v1 H1 m1 s1 S1 r1 => ?_
  refine sl σ H1 m1 ev st1 l st2 S1 (E.stp s1) h2 _ fun H2 m2 s2 S2 => ?_
  refine sh σ H2 m2 ev st2 u _ S2 (E.stp (s1.trans s2)) h3 _ fun H3 m3 s3 S3 => ?_
  exact slice_ok S3 ((s2.trans s3).rep r1) h4 Q fun v H' s4 S4 r4 => q v H' m3 (((s1.trans s2).trans s3).trans s4) S4 r4
end
end PD

namespace PD
open PySem PySem.Spec PyProof.Rows L2

/-! ## built-in functions -/
section
variable {X : Cx} {K : PySem.W.Frag}
def lenD (st : Sto) : Dt → Option Nat
  | .tup xs => some xs.length
  | .scr ns => some ns.length
  | .str x => if x.length ≤ 1000000 then some x.length else none
  | .lst xs => some xs.length
  | .ptr k => match st[k]? with
    | some (.lst xs) => some xs.length
    | _ => none
  | _ => none
def gLen : Sto → List Dt → Option Dt := fun st ds => match ds with
  | [d] => (lenD st d).map fun (n : Nat) => Dt.int (n : Int)
  | _ => none
theorem lenD_ok {H : Hp} {m : MM} {st : Sto} {d : Dt} {v : V} {n : Nat} (S : StR K H m st) (r : Rep K (hid H m) m d v) (h : lenD st d = some n) : LenV K v H n := by
  cases r with
  | @tup a vs _ h1 h2 =>
    cases h
    exact .inr ⟨vs, (hid_ext H m).sqT (TupAt.sq h1), h2.length⟩
  | scr h1 =>
    cases h
    exact .inl ⟨_, (hid_ext H m).sqL h1, by rw [List.length_map]⟩
  | str x =>
    simp only [lenD] at h
    split at h
    · rename_i hl
      cases h
      exact ⟨size1m hl, rfl⟩
    · cases h
  | @lst a vs _ h1 h2 =>
    cases h
    exact .inl ⟨vs, .inl (.inl (hid_ext _ _ _ _ h1)), h2.length⟩
  | @ptr k a h1 =>
    simp only [lenD] at h
    split at h
    · rename_i es hk
      cases h
      obtain ⟨vs, h2, h3⟩ := S.ok k a _ h1 hk
      exact .inl ⟨vs, .inl (.inl h2), h3.length⟩
    · cases h
  | _ => cases h
theorem rc_len : RCS K (fun xs H Q => ∃ x n, xs = [x] ∧ LenV K x H n ∧ Q (.int n) H) gLen := by
  intro H m st ds z xs S rs h Q q
  unfold gLen at h
  split at h
  · obtain ⟨n, h1, h⟩ := Option.map_eq_some_iff.mp h
    cases h
    obtain ⟨v, rfl, r⟩ := rs.one
    exact ⟨v, _, rfl, lenD_ok S r h1, q _ H (Stp.refl _ _) S (.int _)⟩
  · cases h
def absZ (i : Int) : Int := if i < 0 then -i else i
def gAbs : Sto → List Dt → Option Dt := fun _ ds => match ds with
  | [.int i] => some (.int (absZ i))
  | _ => none
theorem rc_abs : RCS K (fun xs H Q => ∃ i, xs = [V.int i] ∧ Q (.int (if i < 0 then -i else i)) H) gAbs := by
  intro H m st ds z xs S rs h Q q
  unfold gAbs at h
  split at h
  · cases h
    obtain ⟨v, rfl, r⟩ := rs.one
    cases r
    exact ⟨_, rfl, q _ H (Stp.refl _ _) S (.int _)⟩
  · cases h
def maxZ (i j : Int) : Int := if j > i then j else i
def minZ (i j : Int) : Int := if j < i then j else i
def gMax2 : Sto → List Dt → Option Dt := fun _ ds => match ds with
  | [.int i, .int j] => some (.int (maxZ i j))
  | _ => none
def gMin2 : Sto → List Dt → Option Dt := fun _ ds => match ds with
  | [.int i, .int j] => some (.int (minZ i j))
  | _ => none
theorem rc_max2 : RCS K (fun xs H Q => ∃ i j, xs = [V.int i, V.int j] ∧ Q (.int (if j > i then j else i)) H) gMax2 := by
  intro H m st ds z xs S rs h Q q
  unfold gMax2 at h
  split at h
  · cases h
    obtain ⟨v, u, rfl, r, r2⟩ := rs.two
    cases r
    cases r2
    exact ⟨_, _, rfl, q _ H (Stp.refl _ _) S (.int _)⟩
  · cases h
theorem rc_min2 : RCS K (fun xs H Q => ∃ i j, xs = [V.int i, V.int j] ∧ Q (.int (if j < i then j else i)) H) gMin2 := by
  intro H m st ds z xs S rs h Q q
  unfold gMin2 at h
  split at h
  · cases h
    obtain ⟨v, u, rfl, r, r2⟩ := rs.two
    cases r
    cases r2
    exact ⟨_, _, rfl, q _ H (Stp.refl _ _) S (.int _)⟩
  · cases h
def gInt1 : Sto → List Dt → Option Dt := fun _ ds => match ds with
  | [.int i] => some (.int i)
  | [.bl b] => some (.int (if b then 1 else 0))
  | _ => none
theorem rc_int1 : RCS K (fun xs H Q => (∃ i, xs = [V.int i] ∧ Q (.int i) H) ∨ ∃ k, xs = [V.bl k] ∧ Q (.int (if k then 1 else 0)) H) gInt1 := by
  intro H m st ds z xs S rs h Q q
  unfold gInt1 at h
  split at h
  · cases h
    obtain ⟨v, rfl, r⟩ := rs.one
    cases r
    exact .inl ⟨_, rfl, q _ H (Stp.refl _ _) S (.int _)⟩
  · cases h
    obtain ⟨v, rfl, r⟩ := rs.one
    cases r
    exact .inr ⟨_, rfl, q _ H (Stp.refl _ _) S (.int _)⟩
  · cases h
/-- the ints of a list -/
def intsD : List Dt → Option (List Int)
  | [] => some []
  | .int i :: r => (intsD r).map (i :: ·)
  | _ => none
theorem intsD_map : ∀ (ns : List Int), intsD (ns.map Dt.int) = some ns
  | [] => rfl
  | n :: ns => by simp only [List.map_cons, intsD, intsD_map ns] <;> rfl
theorem intsD_eq : ∀ {ds : List Dt} {ns : List Int}, intsD ds = some ns → ds = ns.map Dt.int
  | [], ns, h => by cases h; rfl
  | d :: ds, ns, h => by
    cases d <;> simp only [intsD, reduceCtorEq] at h
    obtain ⟨ms, h1, h⟩ := Option.map_eq_some_iff.mp h
    cases h
    rw [intsD_eq h1] <;> rfl
def blsD : List Dt → Option (List Bool)
  | [] => some []
  | .bl i :: r => (blsD r).map (i :: ·)
  | _ => none
theorem blsD_map : ∀ (ns : List Bool), blsD (ns.map Dt.bl) = some ns
  | [] => rfl
  | n :: ns => by simp only [List.map_cons, blsD, blsD_map ns] <;> rfl
theorem blsD_eq : ∀ {ds : List Dt} {ns : List Bool}, blsD ds = some ns → ds = ns.map Dt.bl
  | [], ns, h => by cases h; rfl
  | d :: ds, ns, h => by
    cases d <;> simp only [blsD, reduceCtorEq] at h
    obtain ⟨ms, h1, h⟩ := Option.map_eq_some_iff.mp h
    cases h
    rw [blsD_eq h1] <;> rfl
def lookI (st : Sto) (d : Dt) : Option (List Int) := (look st d).bind intsD
def lookB (st : Sto) (d : Dt) : Option (List Bool) := (look st d).bind blsD
theorem lookI_ok {H : Hp} {m : MM} {st : Sto} {d : Dt} {v : V} {ns : List Int} (S : StR K H m st) (r : Rep K (hid H m) m d v) (h : lookI st d = some ns) : ∃ a, v = .ref a ∧ H a = some (.lst (ns.map V.int)) := by
  obtain ⟨ds, h1, h2⟩ := Option.bind_eq_some_iff.mp h
  have e := intsD_eq h2
  subst e
  obtain ⟨a, vs, rfl, h3, h4⟩ := look_ok S r h1
  rw [h4.ints] at h3
  exact ⟨a, rfl, h3⟩
theorem lookB_ok {H : Hp} {m : MM} {st : Sto} {d : Dt} {v : V} {ns : List Bool} (S : StR K H m st) (r : Rep K (hid H m) m d v) (h : lookB st d = some ns) : ∃ a, v = .ref a ∧ H a = some (.lst (ns.map V.bl)) := by
  obtain ⟨ds, h1, h2⟩ := Option.bind_eq_some_iff.mp h
  have e := blsD_eq h2
  subst e
  obtain ⟨a, vs, rfl, h3, h4⟩ := look_ok S r h1
  rw [h4.bls] at h3
  exact ⟨a, rfl, h3⟩
def gSum : Sto → List Dt → Option Dt := fun st ds => match ds with
  | [d] => (lookI st d).map fun ns => .int ns.sum
  | _ => none
def gAll : Sto → List Dt → Option Dt := fun st ds => match ds with
  | [d] => (lookB st d).map fun ns => .bl (ns.all id)
  | _ => none
def gAny : Sto → List Dt → Option Dt := fun st ds => match ds with
  | [d] => (lookB st d).map fun ns => .bl (ns.any id)
  | _ => none
/-- the greatest of some numbers -/
def maxL : List Int → Int
  | [] => 0
  | [x] => x
  | x :: r => max x (maxL r)
def minL : List Int → Int
  | [] => 0
  | [x] => x
  | x :: r => min x (minL r)
theorem maxL_cons (x y : Int) (r : List Int) : maxL (x :: y :: r) = max x (maxL (y :: r)) := rfl
theorem minL_cons (x y : Int) (r : List Int) : minL (x :: y :: r) = min x (minL (y :: r)) := rfl
theorem maxL_le : ∀ {ns : List Int} {x : Int}, x ∈ ns → x ≤ maxL ns
  | [y], x, h => by simp at h; subst h; exact Int.le_refl _
  | y :: z :: r, x, h => by
    rw [maxL_cons]
    rcases List.mem_cons.mp h with e | h
    · subst e; omega
    · have := maxL_le h; omega
theorem minL_le : ∀ {ns : List Int} {x : Int}, x ∈ ns → minL ns ≤ x
  | [y], x, h => by simp at h; subst h; exact Int.le_refl _
  | y :: z :: r, x, h => by
    rw [minL_cons]
    rcases List.mem_cons.mp h with e | h
    · subst e; omega
    · have := minL_le h; omega
theorem maxL_mem : ∀ {ns : List Int}, ns ≠ [] → maxL ns ∈ ns
  | [y], _ => by simp [maxL]
  | y :: z :: r, _ => by
    rw [maxL_cons]
    have := maxL_mem (ns := z :: r) (by simp)
    by_cases h : maxL (z :: r) ≤ y
    · rw [Int.max_eq_left h]; exact List.mem_cons_self
    · rw [Int.max_eq_right (by omega)]; exact List.mem_cons_of_mem _ this
theorem minL_mem : ∀ {ns : List Int}, ns ≠ [] → minL ns ∈ ns
  | [y], _ => by simp [minL]
  | y :: z :: r, _ => by
    rw [minL_cons]
    have := minL_mem (ns := z :: r) (by simp)
    by_cases h : y ≤ minL (z :: r)
    · rw [Int.min_eq_left h]; exact List.mem_cons_self
    · rw [Int.min_eq_right (by omega)]; exact List.mem_cons_of_mem _ this
def gMaxL : Sto → List Dt → Option Dt := fun st ds => match ds with
  | [d] => match lookI st d with
    | some (x :: r) => some (.int (maxL (x :: r)))
    | _ => none
  | _ => none
def gMinL : Sto → List Dt → Option Dt := fun st ds => match ds with
  | [d] => match lookI st d with
    | some (x :: r) => some (.int (minL (x :: r)))
    | _ => none
  | _ => none
theorem rc_sum : RCS K (rSum K) gSum := by
  intro H m st ds z xs S rs h Q q
  unfold gSum at h
  split at h
  · obtain ⟨ns, h1, h⟩ := Option.map_eq_some_iff.mp h
    cases h
    obtain ⟨v, rfl, r⟩ := rs.one
    obtain ⟨a, rfl, h2⟩ := lookI_ok S r h1
    exact ⟨a, ns, rfl, .inl (.inl h2), q _ H (Stp.refl _ _) S (.int _)⟩
  · cases h
theorem rc_all : RCS K (L2.rAll K) gAll := by
  intro H m st ds z xs S rs h Q q
  unfold gAll at h
  split at h
  · obtain ⟨ns, h1, h⟩ := Option.map_eq_some_iff.mp h
    cases h
    obtain ⟨v, rfl, r⟩ := rs.one
    obtain ⟨a, rfl, h2⟩ := lookB_ok S r h1
    exact ⟨a, ns, rfl, .inl (.inl h2), q _ H (Stp.refl _ _) S (.bl _)⟩
  · cases h
theorem rc_any : RCS K (L2.rAny K) gAny := by
  intro H m st ds z xs S rs h Q q
  unfold gAny at h
  split at h
  · obtain ⟨ns, h1, h⟩ := Option.map_eq_some_iff.mp h
    cases h
    obtain ⟨v, rfl, r⟩ := rs.one
    obtain ⟨a, rfl, h2⟩ := lookB_ok S r h1
    exact ⟨a, ns, rfl, .inl (.inl h2), q _ H (Stp.refl _ _) S (.bl _)⟩
  · cases h
theorem rc_maxL : RCS K (rMax K) gMaxL := by
  intro H m st ds z xs S rs h Q q
  unfold gMaxL at h
  split at h
  · split at h
    · rename_i x r h1
      cases h
      obtain ⟨v, rfl, rr⟩ := rs.one
      obtain ⟨a, rfl, h2⟩ := lookI_ok S rr h1
      refine ⟨a, _, rfl, .inl (.inl h2), by simp, fun mm hm hle => ?_⟩
      have e : mm = maxL (x :: r) := Int.le_antisymm (maxL_le hm) (hle _ (maxL_mem (by simp)))
      rw [e]
      exact q _ H (Stp.refl _ _) S (.int _)
    · cases h
  · cases h
theorem rc_minL : RCS K (rMin K) gMinL := by
  intro H m st ds z xs S rs h Q q
  unfold gMinL at h
  split at h
  · split at h
    · rename_i x r h1
      cases h
      obtain ⟨v, rfl, rr⟩ := rs.one
      obtain ⟨a, rfl, h2⟩ := lookI_ok S rr h1
      refine ⟨a, _, rfl, .inl (.inl h2), by simp, fun mm hm hle => ?_⟩
      have e : mm = minL (x :: r) := Int.le_antisymm (hle _ (minL_mem (by simp))) (minL_le hm)
      rw [e]
      exact q _ H (Stp.refl _ _) S (.int _)
    · cases h
  · cases h
/-! list(..), tuple(..) -/
def gItems : Sto → Dt → Option (List Dt) := fun st d => match d with
  | .tup ds => some ds
  | d => look st d
def gList1 : Sto → List Dt → Option (List Dt) := fun st ds => match ds with
  | [d] => gItems st d
  | _ => none
theorem rn_list : RCN K (fun xs H Q => ∃ p ys, xs = [V.ref p] ∧ (SqL K H p ys ∨ SqT K H p ys) ∧ ∀ l, H l = none → Q (.ref l) (upd H l (.lst ys))) gList1 := by
  intro H m st ds z xs S rs h Q q
  unfold gList1 at h
  split at h
  · obtain ⟨v, rfl, r⟩ := rs.one
    unfold gItems at h
    split at h
    · cases h
      cases r with
      | @tup a vs _ h1 h2 => exact ⟨a, vs, rfl, .inr ((hid_ext H m).sqT (TupAt.sq h1)), fun l hl => q l H vs hl (Stp.refl _ _) S h2⟩
    · obtain ⟨a, vs, rfl, h1, h2⟩ := look_ok S r h
      exact ⟨a, vs, rfl, .inl (.inl (.inl h1)), fun l hl => q l H vs hl (Stp.refl _ _) S h2⟩
  · cases h
def gTup1 : Sto → List Dt → Option Dt := fun st ds => match ds with
  | [d] => (gItems st d).map .tup
  | _ => none
theorem rc_tup1 : RCS K (fun xs H Q => ∃ p ys, xs = [V.ref p] ∧ ((SqL K H p ys ∧ ∀ l, H l = none → Q (.ref l) (upd H l (.tup ys))) ∨ (SqT K H p ys ∧ Q (.ref p) H))) gTup1 := by
  intro H m st ds z xs S rs h Q q
  unfold gTup1 at h
  split at h
  · obtain ⟨es, h1, h⟩ := Option.map_eq_some_iff.mp h
    cases h
    obtain ⟨v, rfl, r⟩ := rs.one
    unfold gItems at h1
    split at h1
    · cases h1
      cases r with
      | @tup a vs _ h1 h2 => exact ⟨a, vs, rfl, .inr ⟨(hid_ext H m).sqT (TupAt.sq h1), q _ H (Stp.refl _ _) S (.tup h1 h2)⟩⟩
    · obtain ⟨a, vs, rfl, h2, h3⟩ := look_ok S r h1
      refine ⟨a, vs, rfl, .inl ⟨.inl (.inl h2), fun p hp => ?_⟩⟩
      obtain ⟨x1, x2, x3⟩ := mk_tup S hp h3
      exact q _ _ x1 x2 x3
  · cases h
/-! divmod -/
def gDivmod : Sto → List Dt → Option Dt := fun _ ds => match ds with
  | [.int i, .int j] => if 0 < j ∧ j < 1073741824 then some (.tup [.int (i / j), .int (i % j)]) else none
  | _ => none
theorem rc_divmod : RCS K (fun xs H Q => ∃ i j, xs = [V.int i, V.int j] ∧ CDiv i j ∧ ∀ p, H p = none → Q (.ref p) (upd H p (.tup [.int (i / j), .int (i % j)]))) gDivmod := by
  intro H m st ds z xs S rs h Q q
  unfold gDivmod at h
  split at h
  · split at h
    · rename_i hc
      cases h
      obtain ⟨v, u, rfl, r, r2⟩ := rs.two
      cases r
      cases r2
      refine ⟨_, _, rfl, hc, fun p hp => ?_⟩
      obtain ⟨x1, x2, x3⟩ := mk_tup (K := K) (z := [.int _, .int _]) S hp (.cons (.int _) (.cons (.int _) .nil))
      exact q _ _ x1 x2 x3
    · cases h
  · cases h
/-! sorted of numbers -/
def insI (x : Int) : List Int → List Int
  | [] => [x]
  | y :: r => if x ≤ y then x :: y :: r else y :: insI x r
def sortI : List Int → List Int
  | [] => []
  | x :: r => insI x (sortI r)
theorem insI_perm (x : Int) : ∀ l : List Int, (insI x l).Perm (x :: l)
  | [] => List.Perm.refl _
  | y :: r => by
    unfold insI
    split
    · exact List.Perm.refl _
    · exact ((insI_perm x r).cons y).trans (List.Perm.swap x y r)
theorem sortI_perm : ∀ l : List Int, (sortI l).Perm l
  | [] => List.Perm.refl _
  | x :: r => (insI_perm x _).trans ((sortI_perm r).cons x)
theorem insI_sorted (x : Int) : ∀ {l : List Int}, l.Pairwise (· ≤ ·) → (insI x l).Pairwise (· ≤ ·)
  | [], _ => by simp [insI]
  | y :: r, h => by
    unfold insI
    obtain ⟨h1, h2⟩ := List.pairwise_cons.mp h
    split
    · rename_i hxy
      refine List.pairwise_cons.mpr ⟨fun z hz => ?_, h⟩
      rcases List.mem_cons.mp hz with e | hz
      · rw [e]; exact hxy
      · exact Int.le_trans hxy (h1 z hz)
    · refine List.pairwise_cons.mpr ⟨fun z hz => ?_, insI_sorted x h2⟩
      rcases List.mem_cons.mp ((insI_perm x r).mem_iff.mp hz) with e | hz
      · rw [e]; omega
      · exact h1 z hz
theorem sortI_sorted : ∀ l : List Int, (sortI l).Pairwise (· ≤ ·)
  | [] => List.Pairwise.nil
  | x :: r => insI_sorted x (sortI_sorted r)
theorem sorted_uniq : ∀ {l k : List Int}, l.Pairwise (· ≤ ·) → k.Pairwise (· ≤ ·) → l.Perm k → l = k
  | [], k, _, _, h => (List.Perm.eq_nil h.symm).symm
  | x :: l, [], _, _, h => absurd h.length_eq (by simp)
  | x :: l, y :: k, hl, hk, h => by
    obtain ⟨a1, a2⟩ := List.pairwise_cons.mp hl
    obtain ⟨b1, b2⟩ := List.pairwise_cons.mp hk
    have h1 : x ≤ y := by
      rcases List.mem_cons.mp (h.mem_iff.mpr (List.mem_cons_self (a := y) (l := k))) with e | m
      · rw [e]; exact Int.le_refl _
      · exact a1 y m
    have h2 : y ≤ x := by
      rcases List.mem_cons.mp (h.mem_iff.mp (List.mem_cons_self (a := x) (l := l))) with e | m
      · rw [e]; exact Int.le_refl _
      · exact b1 x m
    have e : x = y := Int.le_antisymm h1 h2
    subst e
    rw [sorted_uniq a2 b2 h.cons_inv]
def gSortI : Sto → List Dt → Option (List Dt) := fun st ds => match ds with
  | [d] => (lookI st d).map fun ns => (sortI ns).map .int
  | _ => none
theorem rn_sortI : RCN K (rSortedI K) gSortI := by
  intro H m st ds z xs S rs h Q q
  unfold gSortI at h
  split at h
  · obtain ⟨ns, h1, h⟩ := Option.map_eq_some_iff.mp h
    cases h
    obtain ⟨v, rfl, r⟩ := rs.one
    obtain ⟨a, rfl, h2⟩ := lookI_ok S r h1
    refine ⟨a, ns, rfl, .inl (.inl h2), fun ns' p hp hs hn => ?_⟩
    have e : ns' = sortI ns := sorted_uniq hs (sortI_sorted ns) (hp.trans (sortI_perm ns).symm)
    rw [e]
    exact q p H _ hn (Stp.refl _ _) S (Reps.of_ints _)
  · cases h
/-! count -/
def gCountI : Sto → Dt → List Dt → Option Dt := fun st d as => match as with
  | [.int k] => (lookI st d).map fun ns => .int (ns.count k : Nat)
  | _ => none
theorem rm_countI {T : String} : RMS K T (rCntI K) gCountI := by
  intro H m st d ds z x xs S rx rs h Q q
  unfold gCountI at h
  split at h
  · obtain ⟨ns, h1, h⟩ := Option.map_eq_some_iff.mp h
    cases h
    obtain ⟨v, rfl, r⟩ := rs.one
    cases r
    obtain ⟨a, rfl, h2⟩ := lookI_ok S rx h1
    exact ⟨a, ns, _, rfl, rfl, .inl (.inl h2), q _ H (Stp.refl _ _) S (.int _)⟩
  · cases h
/-! isinstance, a built-in class -/
def tyN : Sto → Dt → Option String := fun st d => match d with
  | .non => some "NoneType"
  | .bl _ => some "bool"
  | .int _ => some "int"
  | .str _ => some "str"
  | .tup _ => some "tuple"
  | .lst _ => some "list"
  | .scr _ => some "list"
  | .ptr k => match st[k]? with
    | some (.lst _) => some "list"
    | some (.dct _) => some "dict"
    | _ => none
  | _ => none
def isT (t c : String) : Option Bool :=
  if c = "int" then (if t = "int" ∨ t = "bool" then some true else some false)
  else if c = "bool" ∨ c = "str" ∨ c = "tuple" ∨ c = "list" then some (decide (t = c))
  else none
def gIsi : Sto → List Dt → Option Dt := fun st ds => match ds with
  | [d, .ty c] => (tyN st d).bind fun t => (isT t c).map fun b => .bl b
  | _ => none
theorem tyN_ok {H : Hp} {m : MM} {st : Sto} {d : Dt} {v : V} {t : String} (S : StR K H m st) (r : Rep K (hid H m) m d v) (h : tyN st d = some t) : TyX K H v (.type t) ∧ (t = "NoneType" ∨ t = "bool" ∨ t = "int" ∨ t = "str" ∨ t = "tuple" ∨ t = "list" ∨ t = "dict") := by
  cases r with
  | non => cases h; exact ⟨.base .non, by simp⟩
  | bl b => cases h; exact ⟨.base (.bl b), by simp⟩
  | int b => cases h; exact ⟨.base (.int b), by simp⟩
  | str b => cases h; exact ⟨.base (.str b), by simp⟩
  | tup h1 h2 =>
    cases h
    refine ⟨?_, by simp⟩
    rcases (hid_ext H m).sqT (TupAt.sq h1) with (h | ⟨o, h⟩) | ⟨o, its, n, h, hc, _⟩
    · exact .base (.tup h)
    · exact .fTuple h
    · exact .kTuple h hc
  | lst h1 h2 => cases h; exact ⟨.base (.lst (hid_ext _ _ _ _ h1)), by simp⟩
  | scr h1 =>
    cases h
    refine ⟨?_, by simp⟩
    rcases (hid_ext H m).sqL h1 with (h | ⟨o, h⟩) | ⟨o, its, n, h, hc, _⟩
    · exact .base (.lst h)
    · exact .base (.frz h)
    · exact .kList h hc
  | @ptr k a h1 =>
    simp only [tyN] at h
    split at h
    · rename_i ds e
      cases h
      obtain ⟨vs, h2, _⟩ := S.ok k a _ h1 e
      exact ⟨.base (.lst h2), by simp⟩
    · rename_i ds e
      cases h
      obtain ⟨vs, h2, _⟩ := S.ok k a _ h1 e
      exact ⟨.base (.dK h2), by simp⟩
    · cases h
  | ty n => cases h
  | rf a => cases h
  | exc h1 h2 h3 h4 => cases h
  | cls h1 => cases h
theorem isT_ok {t c : String} {b : Bool} (ht : t = "NoneType" ∨ t = "bool" ∨ t = "int" ∨ t = "str" ∨ t = "tuple" ∨ t = "list" ∨ t = "dict") (h : isT t c = some b) : PySem.W.kitOne K (.type t) (.type c) = some b := by
  have hc : c = "int" ∨ c = "bool" ∨ c = "str" ∨ c = "tuple" ∨ c = "list" := by
    unfold isT at h
    split at h
    · exact .inl (by assumption)
    · split at h
      · rename_i q; exact .inr q
      · cases h
  rcases hc with rfl | rfl | rfl | rfl | rfl <;> rcases ht with rfl | rfl | rfl | rfl | rfl | rfl | rfl <;> (simp [isT] at h; subst h; rfl)
theorem rc_isi : RCS K (rIsi K) gIsi := by
  intro H m st ds z xs S rs h Q q
  unfold gIsi at h
  split at h
  · obtain ⟨t, h1, h⟩ := Option.bind_eq_some_iff.mp h
    obtain ⟨b, h2, h⟩ := Option.map_eq_some_iff.mp h
    cases h
    obtain ⟨v, u, rfl, r, r2⟩ := rs.two
    cases r2
    obtain ⟨k1, k2⟩ := tyN_ok S r h1
    exact ⟨v, _, _, _, b, rfl, .ty _, k1, isT_ok k2 h2, q _ H (Stp.refl _ _) S (.bl _)⟩
  · cases h
end
end PD

namespace PD
open PySem PySem.Spec PyProof.Rows L2
theorem bt_len : bootBuiltins "len" = some (.builtin "len") := by decide +kernel
theorem bt_abs : bootBuiltins "abs" = some (.builtin "abs") := by decide +kernel
theorem bt_max : bootBuiltins "max" = some (.builtin "max") := by decide +kernel
theorem bt_min : bootBuiltins "min" = some (.builtin "min") := by decide +kernel
theorem bt_sum : bootBuiltins "sum" = some (.builtin "sum") := by decide +kernel
theorem bt_all : bootBuiltins "all" = some (.builtin "all") := by decide +kernel
theorem bt_any : bootBuiltins "any" = some (.builtin "any") := by decide +kernel
theorem bt_sorted : bootBuiltins "sorted" = some (.builtin "sorted") := by decide +kernel
theorem bt_divmod : bootBuiltins "divmod" = some (.builtin "divmod") := by decide +kernel
theorem bt_isinstance : bootBuiltins "isinstance" = some (.builtin "isinstance") := by decide +kernel
theorem bt_int : bootBuiltins "int" = some (.type "int") := by decide +kernel
theorem bt_bool : bootBuiltins "bool" = some (.type "bool") := by decide +kernel
theorem bt_str : bootBuiltins "str" = some (.type "str") := by decide +kernel
theorem bt_list : bootBuiltins "list" = some (.type "list") := by decide +kernel
theorem bt_tuple : bootBuiltins "tuple" = some (.type "tuple") := by decide +kernel
theorem bt_set : bootBuiltins "set" = some (.type "set") := by decide +kernel
theorem bt_dict : bootBuiltins "dict" = some (.type "dict") := by decide +kernel
theorem bt_ValueError : bootBuiltins "ValueError" = some (.type "ValueError") := by decide +kernel
abbrev gAddI := gI2 fun i j => .int (i + j)
theorem rs_addI {K : PySem.W.Frag} : RS K (rI0 fun i j => .int (i + j)) gAddI := rs_I2 fun _ _ => rfl
/-- turns enough for every while of ours -/
def FU : Nat := 2 ^ 4000
/-! ## a list, a tuple or the script walked -/
def srcOf (st : Sto) : Dt → Option Src
  | .tup ds => some (srcC ds)
  | .scr ns => some (srcC (ns.map .int))
  | d => (look st d).map fun ds => srcL d ds
def diAny (e : DE) : DI := fun ev st => (e ev st).bind fun p => (srcOf p.2 p.1).map fun s => (s, p.2)
theorem scr_it {K : PySem.W.Frag} {H : Hp} {m : MM} {a : Addr} {ns : List Int} (h : SqL K (hid H m) a (ns.map V.int)) : ItOk K (Itl K a) (srcC (ns.map .int)) H m := by
  have key : ∀ (H' : Hp) (m' : MM), StpG H m H' m' → SqL K H' a (ns.map V.int) := fun H' m' s => (hid_ext H' m').sqL (s.2.sqL h)
  have hl : (ns.map Dt.int).length = (ns.map V.int).length := by rw [List.length_map, List.length_map]
  refine ⟨fun i H' m' st2 s S2 _ hi => ?_, fun i H' m' st2 s S2 _ hi x H2 y => ?_, fun i H' m' st2 s S2 _ hi => ?_⟩
  · have hi' : i < (ns.map V.int).length := by rw [← hl]; exact hi
    exact ⟨_, _, key _ _ s, List.getElem?_eq_getElem hi'⟩
  · obtain ⟨e, y⟩ := y
    subst e
    have z := y _ (key _ _ s)
    obtain ⟨d', e1, r1⟩ := (Reps.of_ints (K := K) (H := hid H2 m') (m := m') ns).getV z
    exact ⟨Stp.refl _ _, S2, d', e1, r1⟩
  · exact ⟨_, key _ _ s, by rw [← hl]; exact hi⟩
theorem pi_or {X : Cx} {tg e : Expr} {w1 w2 : TI} (h1 : PI X tg e w1) (h2 : PI X tg e w2) : PI X tg e (fun σ H R => w1 σ H R ∨ w2 σ H R) :=
  ⟨fun pins s σ H R I h => h.elim (h1.run pins s σ H R I) (h2.run pins s σ H R I)⟩
theorem pdi_any {X : Cx} {tg e : Expr} {de : DE} (h : PD X e de) : PDI X tg e (diAny de) := by
  have ⟨t1, p1, s1⟩ := pdi_tup (tg := tg) h
  have ⟨t2, p2, s2⟩ := pdi_lst (tg := tg) h
  obtain ⟨t, p, s⟩ := h
  refine ⟨_, pi_or p1 (pi_or p2 (pi_list p)), fun σ H m ev st sr st' S E h R q => ?_⟩
  unfold diAny at h
  obtain ⟨⟨d, st1⟩, h1, h⟩ := Option.bind_eq_some_iff.mp h
  obtain ⟨sr', h0, h⟩ := Option.map_eq_some_iff.mp h
  injection h with e1 e2
  subst e1 e2
  replace h0 : srcOf st1 d = some sr' := h0
  unfold srcOf at h0
  split at h0
  · rename_i ds
    cases h0
    exact .inl (s1 σ H m ev st _ _ S E (by simp only [diTup, h1]) R q)
  · rename_i ns
    cases h0
    refine .inr (.inr (s σ H m ev st _ _ S E h1 _ fun v1 H1 m1 k1 S1 r1 => ?_))
    cases r1 with
    | @scr a _ h2 => exact ⟨a, rfl, ⟨_, (hid_ext H1 m1).sqL h2⟩, q _ H1 m1 k1 S1 (scr_it h2)⟩
  · obtain ⟨ds, h2, h0⟩ := Option.map_eq_some_iff.mp h0
    cases h0
    refine .inr (.inl (s2 σ H m ev st _ _ S E ?_ R q))
    simp only [diLst, h1, Option.bind_some, h2, Option.map_some]
/-! ## the law's own call -/
theorem law_sp {K : PySem.W.Frag} {G : DF} (h : ∀ ns : List Int, ns.length ≤ 63 → ∃ st', G [.scr ns] [] = some (.bl true, st')) :
    ∀ (H : Hp) (a : Addr) (ns : List Int), ns.length ≤ 63 → SqL K H a (ns.map V.int) → spD K 1 G [.ref a] H (fun v _ => v = .bl true) fun _ _ _ => False := by
  intro H a ns hl hS
  obtain ⟨st', e⟩ := h ns hl
  have e0 : hid H ⟨[], []⟩ = H := by
    funext b
    simp [hid, MM.has]
  refine ⟨⟨[], []⟩, [], [.scr ns], .bl true, st', ⟨List.nodup_nil, rfl, fun k a o h => by simp at h, fun a h => by simp at h⟩, .cons (.scr (by rw [e0]; exact hS)) .nil, rfl, e, fun v H' m' _ _ r => ?_⟩
  cases r
  rfl
end PD

namespace PD
open PySem PySem.Spec PyProof.Rows L2
/-! ## plain reckoning with denotations -/
section
variable {ev : En} {st st1 : Sto} {i j : Int}
@[simp] theorem dVar_eq {k : Nat} : dVar k ev st = (match ev[k]? with | some (some d) => some (d, st) | _ => none) := (rfl)
@[simp] theorem dC_eq {d : Dt} : dC d ev st = some (d, st) := (rfl)
@[simp] theorem dBin_eq {g : Sto → Dt → Dt → Option Dt} {a b : DE} : dBin g a b ev st = (a ev st).bind fun p => (b ev p.2).bind fun q => (g q.2 p.1 q.1).map fun z => (z, q.2) := (rfl)
@[simp] theorem dB_eq {a : DE} : dB a ev st = (match a ev st with | some (.bl b, st1) => some (b, st1) | _ => none) := (rfl)
@[simp] theorem dChain_eq {g g' : Sto → Dt → Dt → Option Dt} {a b c : DE} : dChain g g' a b c ev st = (a ev st).bind fun p => (b ev p.2).bind fun q => match g q.2 p.1 q.1 with
  | some (.bl true) => (c ev q.2).bind fun r => (g' r.2 q.1 r.1).map fun z => (z, r.2)
  | some (.bl false) => some (.bl false, q.2)
  | _ => none := (rfl)
@[simp] theorem dAnd_eq {a b : DT} : dAnd a b ev st = (a ev st).bind fun p => if p.1 = true then b ev p.2 else some (false, p.2) := (rfl)
@[simp] theorem dOr_eq {a b : DT} : dOr a b ev st = (a ev st).bind fun p => if p.1 = true then some (true, p.2) else b ev p.2 := (rfl)
@[simp] theorem dNot_eq {a : DT} : dNot a ev st = (a ev st).map fun p => (!p.1, p.2) := (rfl)
@[simp] theorem dAndV_eq {a b : DE} : dAndV a b ev st = (match a ev st with
  | some (.bl true, st1) => b ev st1
  | some (.bl false, st1) => some (.bl false, st1)
  | _ => none) := (rfl)
@[simp] theorem dOrV_eq {a b : DE} : dOrV a b ev st = (match a ev st with
  | some (.bl true, st1) => some (.bl true, st1)
  | some (.bl false, st1) => b ev st1
  | _ => none) := (rfl)
@[simp] theorem dNotV_eq {a : DE} : dNotV a ev st = (match a ev st with
  | some (.bl b, st1) => some (.bl (!b), st1)
  | _ => none) := (rfl)
@[simp] theorem dIfE_eq {c : DT} {a b : DE} : dIfE c a b ev st = (c ev st).bind fun p => if p.1 = true then a ev p.2 else b ev p.2 := (rfl)
@[simp] theorem dUn_eq {g : Dt → Option Dt} {a : DE} : dUn g a ev st = (a ev st).bind fun p => (g p.1).map fun z => (z, p.2) := (rfl)
@[simp] theorem gNeg_eq : gNeg (.int i) = some (.int (-i)) := (rfl)
@[simp] theorem dNil_eq : dNil ev st = some ([], st) := (rfl)
@[simp] theorem dCons_eq {a : DE} {r : DA} : dCons a r ev st = (a ev st).bind fun p => (r ev p.2).map fun q => (p.1 :: q.1, q.2) := (rfl)
@[simp] theorem dAp_eq {g : Sto → List Dt → Option Dt} {a : DA} : dAp g a ev st = (a ev st).bind fun p => (g p.2 p.1).map fun z => (z, p.2) := (rfl)
@[simp] theorem dApM_eq {g : Sto → List Dt → Option (List Dt)} {a : DA} : dApM g a ev st = (a ev st).bind fun p => (g p.2 p.1).map fun z => (.ptr p.2.length, p.2 ++ [.lst z]) := (rfl)
@[simp] theorem asLst_eq {g : Sto → List Dt → Option (List Dt)} {ds : List Dt} : asLst g st ds = (g st ds).map .lst := (rfl)
@[simp] theorem gTupD_1 {a : Dt} : gTupD st [a] = some (.tup [a]) := (rfl)
@[simp] theorem gTupD_2 {a b : Dt} : gTupD st [a, b] = some (.tup [a, b]) := (rfl)
@[simp] theorem gTupD_3 {a b c : Dt} : gTupD st [a, b, c] = some (.tup [a, b, c]) := (rfl)
@[simp] theorem gTupD_4 {a b c d : Dt} : gTupD st [a, b, c, d] = some (.tup [a, b, c, d]) := (rfl)
@[simp] theorem gTupD_5 {a b c d e : Dt} : gTupD st [a, b, c, d, e] = some (.tup [a, b, c, d, e]) := (rfl)
@[simp] theorem gLstD_0 : gLstD st [] = some [] := (rfl)
@[simp] theorem gLstD_1 {a : Dt} : gLstD st [a] = some [a] := (rfl)
@[simp] theorem gLstD_2 {a b : Dt} : gLstD st [a, b] = some [a, b] := (rfl)
@[simp] theorem gLstD_3 {a b c : Dt} : gLstD st [a, b, c] = some [a, b, c] := (rfl)
@[simp] theorem gLstD_4 {a b c d : Dt} : gLstD st [a, b, c, d] = some [a, b, c, d] := (rfl)
@[simp] theorem gLstD_5 {a b c d e : Dt} : gLstD st [a, b, c, d, e] = some [a, b, c, d, e] := (rfl)
@[simp] theorem dCall_eq {np : Nat} {G : DF} {a : DA} : dCall np G a ev st = (a ev st).bind fun p => if p.1.length = np then G p.1 p.2 else none := (rfl)
@[simp] theorem gtName_eq {k : Nat} {d : Dt} : gtName k st d ev = some (ev.set k (some d)) := (rfl)
@[simp] theorem gsNil_eq : gsNil st [] ev = some ev := (rfl)
@[simp] theorem gsCons_eq {g : DG} {r : Sto → List Dt → En → Option En} {d : Dt} {ds : List Dt} : gsCons g r st (d :: ds) ev = (g st d ev).bind fun ev1 => r st ds ev1 := (rfl)
@[simp] theorem gtTup_eq {n : Nat} {r : Sto → List Dt → En → Option En} {ds : List Dt} : gtTup n r st (.tup ds) ev = if ds.length = n then r st ds ev else none := (rfl)
@[simp] theorem dNext_eq : dNext ev st = some (.nx ev st) := (rfl)
@[simp] theorem dNever_eq : dNever ev st = none := (rfl)
@[simp] theorem dBrk_eq : dBrk ev st = some (.bk ev st) := (rfl)
@[simp] theorem dCnt_eq : dCnt ev st = some (.ct ev st) := (rfl)
@[simp] theorem dSeq_eq {a b : DS} : dSeq a b ev st = (a ev st).bind fun o => match o with
  | .nx ev1 st1 => b ev1 st1
  | o => some o := (rfl)
@[simp] theorem dIf_eq {c : DT} {a b : DS} : dIf c a b ev st = (c ev st).bind fun p => if p.1 = true then a ev p.2 else b ev p.2 := (rfl)
@[simp] theorem dAsg_eq {e : DE} {g : DG} : dAsg e g ev st = (e ev st).bind fun p => (g p.2 p.1 ev).map fun ev1 => .nx ev1 p.2 := (rfl)
@[simp] theorem dRet_eq {e : DE} : dRet e ev st = (e ev st).map fun p => .rt p.1 p.2 := (rfl)
@[simp] theorem dDrop_eq {e : DE} : dDrop e ev st = (e ev st).map fun p => .nx ev p.2 := (rfl)
@[simp] theorem dPar_eq {k l : Nat} {a : DA} : dPar k l a ev st = (match a ev st with
  | some ([d, e], st1) => some (.nx ((ev.set k (some d)).set l (some e)) st1)
  | _ => none) := (rfl)
@[simp] theorem dAug_eq {k : Nat} {e : DE} {g : Sto → Dt → Dt → Option Dt} : dAug k e g ev st = (match ev[k]? with
  | some (some d) => (e ev st).bind fun p => (g p.2 d p.1).map fun z => .nx (ev.set k (some z)) p.2
  | _ => none) := (rfl)
@[simp] theorem dFor_eq {i : DI} {g : DG} {b : DS} : dFor i g b ev st = (i ev st).bind fun p => dForL g b p.1.guard p.1.items ev p.2 := (rfl)
@[simp] theorem diAny_eq {e : DE} : diAny e ev st = (e ev st).bind fun p => (srcOf p.2 p.1).map fun s => (s, p.2) := (rfl)
@[simp] theorem srcOf_tup {ds : List Dt} : srcOf st (.tup ds) = some (srcC ds) := (rfl)
@[simp] theorem srcOf_scr {ns : List Int} : srcOf st (.scr ns) = some (srcC (ns.map .int)) := (rfl)
@[simp] theorem srcOf_lst {ds : List Dt} : srcOf st (.lst ds) = some (srcL (.lst ds) ds) := (rfl)
theorem srcOf_look {d : Dt} {ds : List Dt} (h : look st d = some ds) : srcOf st d = some (srcL d ds) := by
  cases d <;> simp only [look, reduceCtorEq] at h
  · cases h; rfl
  · simp only [srcOf, look, h, Option.map_some]
theorem gLen_look {d : Dt} {ds : List Dt} (h : look st d = some ds) : gLen st [d] = some (.int ds.length) := by
  cases d <;> simp only [look, reduceCtorEq] at h
  · cases h; rfl
  · rename_i k
    simp only [gLen, lenD]
    split at h
    · rename_i xs e
      cases h
      simp only [e, Option.map_some]
    · cases h
theorem gIx_look {d : Dt} {ds : List Dt} (h : look st d = some ds) : gIx st d (.int i) = atI ds i := by
  cases d <;> simp only [look, reduceCtorEq] at h
  · cases h; rfl
  · simp only [gIx, look, h, Option.bind_some]
theorem gSlice_look {d : Dt} {ds : List Dt} {lo hi : Option Int} (h : look st d = some ds) : gSlice st d lo hi = some (.lst (cutD ds lo hi)) := by
  cases d <;> simp only [look, reduceCtorEq] at h
  · cases h; rfl
  · simp only [gSlice, look, h, Option.map_some]
@[simp] theorem dSlice_eq {e : DE} {lo hi : DO} : dSlice e lo hi ev st = (e ev st).bind fun p => (lo ev p.2).bind fun l => (hi ev l.2).bind fun h => (gSlice h.2 p.1 l.1 h.1).map fun z => (z, h.2) := (rfl)
@[simp] theorem doNone_eq : doNone ev st = some (none, st) := (rfl)
@[simp] theorem doSome_eq {e : DE} : doSome e ev st = (match e ev st with
  | some (.int i, st1) => some (some i, st1)
  | _ => none) := (rfl)
@[simp] theorem gSlice_tup {ds : List Dt} {lo hi : Option Int} : gSlice st (.tup ds) lo hi = some (.tup (cutD ds lo hi)) := (rfl)
@[simp] theorem gSlice_lst {ds : List Dt} {lo hi : Option Int} : gSlice st (.lst ds) lo hi = some (.lst (cutD ds lo hi)) := (rfl)
@[simp] theorem gSlice_scr {ns : List Int} {lo hi : Option Int} : gSlice st (.scr ns) lo hi = some (.lst ((cutD ns lo hi).map .int)) := (rfl)
theorem sIx_nat (n k d : Nat) : HT.sIx n d (some (k : Int)) = min k n := HT.sIx_nat n d k
theorem cut_to {α : Type} (xs : List α) (k : Nat) : cutD xs none (some (k : Int)) = xs.take k := by
  unfold cutD
  rw [HT.sIx_none, HT.sIx_nat, List.drop_zero, Nat.sub_zero]
  by_cases h : k ≤ xs.length
  · rw [Nat.min_eq_left h]
  · rw [Nat.min_eq_right (by omega), List.take_length, List.take_of_length_le (by omega)]
theorem cut_from {α : Type} (xs : List α) (k : Nat) : cutD xs (some (k : Int)) none = xs.drop k := by
  unfold cutD
  rw [HT.sIx_none, HT.sIx_nat]
  by_cases h : k ≤ xs.length
  · rw [Nat.min_eq_left h]
    exact List.take_of_length_le (by rw [List.length_drop]; exact Nat.le_refl _)
  · rw [Nat.min_eq_right (by omega), List.drop_of_length_le (Nat.le_refl _), List.drop_of_length_le (by omega)]
    simp
@[simp] theorem lookI_ints {ns : List Int} : lookI st (.lst (ns.map .int)) = some ns := by
  show (some (ns.map Dt.int)).bind intsD = some ns
  rw [Option.bind_some, intsD_map]
@[simp] theorem lookB_bls {ns : List Bool} : lookB st (.lst (ns.map .bl)) = some ns := by
  show (some (ns.map Dt.bl)).bind blsD = some ns
  rw [Option.bind_some, blsD_map]
@[simp] theorem gCountI_eq {d : Dt} {k : Int} : gCountI st d [.int k] = (lookI st d).map fun ns => .int (ns.count k : Nat) := (rfl)
@[simp] theorem gAll_eq {d : Dt} : gAll st [d] = (lookB st d).map fun ns => .bl (ns.all id) := (rfl)
@[simp] theorem gAny_eq {d : Dt} : gAny st [d] = (lookB st d).map fun ns => .bl (ns.any id) := (rfl)
@[simp] theorem gSum_eq {d : Dt} : gSum st [d] = (lookI st d).map fun ns => .int ns.sum := (rfl)
@[simp] theorem dLc_eq {di : DI} {g : DG} {t : DT} {e : DE} {vs : List Nat} : dLc di g t e vs ev st = ((di ev st).bind fun p => dLcL g t e p.1.guard (wipeE ev vs) p.1.items [] p.2).map fun p => (.lst p.1, p.2) := (rfl)
@[simp] theorem dLcM_eq {di : DI} {g : DG} {t : DT} {e : DE} {vs : List Nat} : dLcM di g t e vs ev st = ((di ev st).bind fun p => dLcL g t e p.1.guard (wipeE ev vs) p.1.items [] p.2).map fun p => (.ptr p.2.length, p.2 ++ [.lst p.1]) := (rfl)
@[simp] theorem wipeE_nil : wipeE ev [] = ev := (rfl)
@[simp] theorem wipeE_cons {v : Nat} {vs : List Nat} : wipeE ev (v :: vs) = (wipeE ev vs).set v none := (rfl)
@[simp] theorem srcC_items {ds : List Dt} : (srcC ds).items = ds := (rfl)
@[simp] theorem srcL_items {d : Dt} {ds : List Dt} : (srcL d ds).items = ds := (rfl)
@[simp] theorem srcL_guard {d : Dt} {ds : List Dt} : (srcL d ds).guard = fun st => look st d = some ds := (rfl)
@[simp] theorem srcC_guard {ds : List Dt} : (srcC ds).guard = fun _ => True := (rfl)
@[simp] theorem dMthK_eq {T : String} {g : Sto → Dt → List Dt → Option Dt} {o : DE} {a : DA} : dMthK T g o a ev st = (match o ev st with
  | some (.str x, st1) => if T = "str" then (a ev st1).bind fun q => (g q.2 (.str x) q.1).map fun z => (z, q.2) else none
  | some (.int x, st1) => if T = "int" then (a ev st1).bind fun q => (g q.2 (.int x) q.1).map fun z => (z, q.2) else none
  | some (.lst x, st1) => if T = "list" then (a ev st1).bind fun q => (g q.2 (.lst x) q.1).map fun z => (z, q.2) else none
  | some (.ptr k, st1) => if T = "list" then match st1[k]? with
      | some (.lst _) => (a ev st1).bind fun q => (g q.2 (.ptr k) q.1).map fun z => (z, q.2)
      | _ => none
    else none
  | _ => none) := (rfl)
@[simp] theorem dMut_eq {g : Sto → List Dt → List Dt → Option (Dt × List Dt)} {o : DE} {a : DA} : dMut g o a ev st = (o ev st).bind fun p => match p.1 with
  | .ptr k => (a ev p.2).bind fun q => match p.2[k]?, q.2[k]? with
    | some (.lst _), some (.lst ds) => (g q.2 ds q.1).map fun r => (r.1, q.2.set k (.lst r.2))
    | _, _ => none
  | _ => none := (rfl)
theorem gAppend_eq {ds : List Dt} {a : Dt} (h : ds.length < 1000000) : gAppend st ds [a] = some (.non, ds ++ [a]) := if_pos h
theorem gExtend_eq {ds es : List Dt} {a : Dt} (h : look st a = some es) (hl : ds.length + es.length ≤ 1000000) : gExtend st ds [a] = some (.non, ds ++ es) := by
  simp only [gExtend, h, Option.bind_some, if_pos hl]
@[simp] theorem dAsgX_eq {e : DE} {g : DGX} : dAsgX e g ev st = (e ev st).bind fun p => (g p.1 ev p.2).map fun q => .nx q.1 q.2 := (rfl)
@[simp] theorem gxSub_eq {o i : DE} {d : Dt} : gxSub o i d ev st = (o ev st).bind fun p => (i ev p.2).bind fun q => match p.1, q.1 with
  | .ptr k, .int n => match q.2[k]? with
    | some (.lst ds) => (ixN ds.length n).map fun j => (ev, q.2.set k (.lst (ds.set j d)))
    | _ => none
  | _, _ => none := (rfl)
@[simp] theorem gx_eq {g : DG} {d : Dt} : gx g d ev st = (g st d ev).map fun e => (e, st) := (rfl)
@[simp] theorem gxNil_eq : gxNil [] ev st = some (ev, st) := (rfl)
@[simp] theorem gxCons_eq {g : DGX} {r : List Dt → En → Sto → Option (En × Sto)} {d : Dt} {ds : List Dt} : gxCons g r (d :: ds) ev st = (g d ev st).bind fun p => r ds p.1 p.2 := (rfl)
@[simp] theorem gxTup_eq {n : Nat} {r : List Dt → En → Sto → Option (En × Sto)} {ds : List Dt} : gxTup n r (.tup ds) ev st = if ds.length = n then r ds ev st else none := (rfl)
@[simp] theorem dAugX_eq {o i e : DE} {g : Sto → Dt → Dt → Option Dt} : dAugX o i e g ev st = (o ev st).bind fun p => (i ev p.2).bind fun q => match p.1, q.1 with
  | .ptr k, .int n => match q.2[k]? with
    | some (.lst ds) => (atI ds n).bind fun x => (e ev q.2).bind fun r => (g r.2 x r.1).bind fun z => match r.2[k]? with
      | some (.lst es) => (ixN es.length n).map fun j => .nx ev (r.2.set k (.lst (es.set j z)))
      | _ => none
    | _ => none
  | _, _ => none := (rfl)
theorem gDivmod_eq (h : 0 < j ∧ j < 1073741824) : gDivmod st [.int i, .int j] = some (.tup [.int (i / j), .int (i % j)]) := if_pos h
@[simp] theorem ixN_20 : ixN 2 0 = some 0 := by decide
@[simp] theorem ixN_21 : ixN 2 1 = some 1 := by decide
@[simp] theorem set_last {o o' : MO} : (st ++ [o]).set st.length o' = st ++ [o'] := by
  simp [List.set_append]
theorem set_front {p : Nat} {o : MO} {g : Sto} (h : p < st.length) : (st ++ g).set p o = st.set p o ++ g := by simp [List.set_append, h]
@[simp] theorem get_last {o : MO} : (st ++ [o])[st.length]? = some o := by simp
theorem lc_map {g : DG} {e : DE} {guard : Sto → Prop} {ev : En} {α : Type} {f : α → Dt} {h : α → Dt} {st : Sto} (hg : guard st) : ∀ (xs : List α) (acc : List Dt), acc.length + xs.length < 1000000 →
    (∀ x ∈ xs, ∃ ev1, g st (f x) ev = some ev1 ∧ e ev1 st = some (h x, st)) → dLcL g dYes e guard ev (xs.map f) acc st = some (acc ++ xs.map h, st)
  | [], acc, _, _ => by
    rw [List.map_nil, dLcL, if_pos hg]
    simp
  | x :: xs, acc, hl, hx => by
    obtain ⟨ev1, h1, h2⟩ := hx x List.mem_cons_self
    rw [List.map_cons, dLcL, if_pos hg, h1]
    simp only [Option.bind_some, dYes, if_true, h2]
    rw [if_pos (by simp at hl; omega), lc_map hg xs (acc ++ [h x]) (by simp at hl ⊢; omega) fun y hy => hx y (List.mem_cons_of_mem _ hy)]
    simp
/-- .. with a test -/
theorem lc_filter {g : DG} {t : DT} {e : DE} {guard : Sto → Prop} {ev : En} {α : Type} {f : α → Dt} {c : α → Bool} {h : α → Dt} {st : Sto} (hg : guard st) : ∀ (xs : List α) (acc : List Dt), acc.length + xs.length < 1000000 →
    (∀ x ∈ xs, ∃ ev1, g st (f x) ev = some ev1 ∧ t ev1 st = some (c x, st) ∧ (c x = true → e ev1 st = some (h x, st))) → dLcL g t e guard ev (xs.map f) acc st = some (acc ++ (xs.filter c).map h, st)
  | [], acc, _, _ => by
    rw [List.map_nil, dLcL, if_pos hg]
    simp
  | x :: xs, acc, hl, hx => by
    obtain ⟨ev1, h1, h2, h3⟩ := hx x List.mem_cons_self
    have ih := fun acc hl => lc_filter (t := t) (h := h) hg xs acc hl fun y hy => hx y (List.mem_cons_of_mem _ hy)
    rw [List.map_cons, dLcL, if_pos hg, h1]
    simp only [Option.bind_some, h2]
    cases hc : c x with
    | true =>
      simp only [if_true, h3 hc, Option.bind_some]
      rw [if_pos (by simp at hl; omega), ih _ (by simp at hl ⊢; omega), List.filter_cons_of_pos hc]
      simp
    | false =>
      simp only [Bool.false_eq_true, if_false]
      rw [ih _ (by simp at hl ⊢; omega), List.filter_cons_of_neg (by rw [hc]; decide)]
@[simp] theorem diRng1_eq {a : DE} : diRng1 a ev st = (match a ev st with
  | some (.int n, st1) => if okR n then some (srcC (rngD 0 n), st1) else none
  | _ => none) := (rfl)
@[simp] theorem diEnum_eq {e : DE} : diEnum e ev st = (e ev st).bind fun p => (look p.2 p.1).map fun ds => (⟨enumD 0 ds, fun st => look st p.1 = some ds⟩, p.2) := (rfl)
@[simp] theorem diZip_eq {a b : DE} : diZip a b ev st = (a ev st).bind fun p => (b ev p.2).bind fun q => (look q.2 p.1).bind fun as => (look q.2 q.1).map fun bs => (⟨zipD as bs, fun st => look st p.1 = some as ∧ look st q.1 = some bs⟩, q.2) := (rfl)
@[simp] theorem look_lst_eq {ds : List Dt} : look st (.lst ds) = some ds := (rfl)
@[simp] theorem gI2_eq {f : Int → Int → Dt} : gI2 f st (.int i) (.int j) = some (f i j) := (rfl)
@[simp] theorem gAdd_int : gAdd st (.int i) (.int j) = some (.int (i + j)) := (rfl)
theorem gMul_eq (h : okMul i j) : gMul st (.int i) (.int j) = some (.int (i * j)) := by
  simp only [gII]; exact if_pos h
theorem gFdiv_eq (h : okDiv j) : gFdiv st (.int i) (.int j) = some (.int (fdivZ i j)) := by
  simp only [gII]; exact if_pos h
theorem gMod_eq (h : 0 < j) : gMod st (.int i) (.int j) = some (.int (i % j)) := by
  simp only [gII]; exact if_pos h
theorem gPow_eq (h : 0 ≤ j ∧ j ≤ 1000000 ∧ i.natAbs < 2 ^ 64) : gPow st (.int i) (.int j) = some (.int (i ^ j.toNat)) := by
  simp only [gII]; exact if_pos h
@[simp] theorem gIx_tup {ds : List Dt} : gIx st (.tup ds) (.int i) = atI ds i := (rfl)
@[simp] theorem gIx_lst {ds : List Dt} : gIx st (.lst ds) (.int i) = atI ds i := (rfl)
@[simp] theorem gIx_scr {ns : List Int} : gIx st (.scr ns) (.int i) = (atI ns i).map .int := (rfl)
theorem gIx_ptr {k : Nat} {ds : List Dt} (h : st[k]? = some (.lst ds)) : gIx st (.ptr k) (.int i) = atI ds i := by
  simp only [gIx, look, h, Option.bind_some]
theorem look_ptr {k : Nat} {ds : List Dt} (h : st[k]? = some (.lst ds)) : look st (.ptr k) = some ds := by
  simp only [look, h]
@[simp] theorem atI_0 {α : Type} {a : α} {l : List α} : atI (a :: l) 0 = some a := by
  have : (0 : Int) < (l.length : Int) + 1 := by omega
  simp [atI, ixN, this]
@[simp] theorem atI_1 {α : Type} {a b : α} {l : List α} : atI (a :: b :: l) 1 = some b := by
  have : (1 : Int) < (l.length : Int) + 1 + 1 := by omega
  simp [atI, ixN, this]
@[simp] theorem atI_2 {α : Type} {a b c : α} {l : List α} : atI (a :: b :: c :: l) 2 = some c := by
  have : (2 : Int) < (l.length : Int) + 1 + 1 + 1 := by omega
  simp [atI, ixN, this]
@[simp] theorem atI_3 {α : Type} {a b c d : α} {l : List α} : atI (a :: b :: c :: d :: l) 3 = some d := by
  have : (3 : Int) < (l.length : Int) + 1 + 1 + 1 + 1 := by omega
  simp [atI, ixN, this]
@[simp] theorem gAbs_eq : gAbs st [.int i] = some (.int (absZ i)) := (rfl)
@[simp] theorem gMax2_eq : gMax2 st [.int i, .int j] = some (.int (maxZ i j)) := (rfl)
@[simp] theorem gMin2_eq : gMin2 st [.int i, .int j] = some (.int (minZ i j)) := (rfl)
@[simp] theorem gInt1_int : gInt1 st [.int i] = some (.int i) := (rfl)
@[simp] theorem gInt1_bl {b : Bool} : gInt1 st [.bl b] = some (.int (if b then 1 else 0)) := (rfl)
@[simp] theorem gLen_tup {ds : List Dt} : gLen st [.tup ds] = some (.int ds.length) := (rfl)
@[simp] theorem gLen_lst {ds : List Dt} : gLen st [.lst ds] = some (.int ds.length) := (rfl)
@[simp] theorem gLen_scr {ns : List Int} : gLen st [.scr ns] = some (.int ns.length) := (rfl)
theorem gLen_ptr {k : Nat} {ds : List Dt} (h : st[k]? = some (.lst ds)) : gLen st [.ptr k] = some (.int ds.length) := by
  simp only [gLen, lenD, h, Option.map_some]
@[simp] theorem gList1_lst {ds : List Dt} : gList1 st [.lst ds] = some ds := (rfl)
@[simp] theorem gList1_tup {ds : List Dt} : gList1 st [.tup ds] = some ds := (rfl)
@[simp] theorem gTup1_lst {ds : List Dt} : gTup1 st [.lst ds] = some (.tup ds) := (rfl)
@[simp] theorem gIsi_eq {d : Dt} {c : String} : gIsi st [d, .ty c] = (tyN st d).bind fun t => (isT t c).map fun b => .bl b := (rfl)
@[simp] theorem tyN_int : tyN st (.int i) = some "int" := (rfl)
@[simp] theorem tyN_bl {b : Bool} : tyN st (.bl b) = some "bool" := (rfl)
@[simp] theorem tyN_tup {ds : List Dt} : tyN st (.tup ds) = some "tuple" := (rfl)
@[simp] theorem tyN_lst {ds : List Dt} : tyN st (.lst ds) = some "list" := (rfl)
@[simp] theorem tyN_non : tyN st .non = some "NoneType" := (rfl)
@[simp] theorem tyN_str {x : Str} : tyN st (.str x) = some "str" := (rfl)
@[simp] theorem isT_ii : isT "int" "int" = some true := by decide
@[simp] theorem isT_bi : isT "bool" "int" = some true := by decide
@[simp] theorem isT_ti : isT "tuple" "int" = some false := by decide
@[simp] theorem isT_li : isT "list" "int" = some false := by decide
@[simp] theorem isT_ni : isT "NoneType" "int" = some false := by decide
@[simp] theorem isT_si : isT "str" "int" = some false := by decide
@[simp] theorem isT_ib : isT "int" "bool" = some false := by decide
@[simp] theorem isT_bb : isT "bool" "bool" = some true := by decide
@[simp] theorem isT_tb : isT "tuple" "bool" = some false := by decide
@[simp] theorem isT_lb : isT "list" "bool" = some false := by decide
@[simp] theorem isT_nb : isT "NoneType" "bool" = some false := by decide
@[simp] theorem isT_sb : isT "str" "bool" = some false := by decide
@[simp] theorem isT_tt : isT "tuple" "tuple" = some true := by decide
@[simp] theorem isT_lt : isT "list" "tuple" = some false := by decide
@[simp] theorem isT_it : isT "int" "tuple" = some false := by decide
@[simp] theorem isT_nt : isT "NoneType" "tuple" = some false := by decide
@[simp] theorem isT_ll : isT "list" "list" = some true := by decide
@[simp] theorem isT_tl : isT "tuple" "list" = some false := by decide
@[simp] theorem isT_il : isT "int" "list" = some false := by decide
@[simp] theorem low_int {n : Nat} : low n (.int i) = true := (rfl)
@[simp] theorem low_bl {n : Nat} {b : Bool} : low n (.bl b) = true := (rfl)
@[simp] theorem low_non {n : Nat} : low n .non = true := (rfl)
@[simp] theorem low_str {n : Nat} {x : Str} : low n (.str x) = true := (rfl)
@[simp] theorem low_ptr {n k : Nat} : low n (.ptr k) = decide (k < n) := by simp only [low]
@[simp] theorem low_tup {n : Nat} {ds : List Dt} : low n (.tup ds) = lowL n ds := by simp only [low]
@[simp] theorem low_lst {n : Nat} {ds : List Dt} : low n (.lst ds) = lowL n ds := by simp only [low]
@[simp] theorem lowL_nil {n : Nat} : lowL n [] = true := (rfl)
@[simp] theorem lowL_cons {n : Nat} {d : Dt} {ds : List Dt} : lowL n (d :: ds) = (low n d && lowL n ds) := by simp only [lowL]
@[simp] theorem lowL_append {n : Nat} : ∀ {ds es : List Dt}, lowL n (ds ++ es) = (lowL n ds && lowL n es)
  | [], es => by simp
  | d :: ds, es => by simp [lowL_append (ds := ds), Bool.and_assoc]
theorem lowL_all {n : Nat} : ∀ {ds : List Dt}, (∀ d ∈ ds, low n d = true) → lowL n ds = true
  | [], _ => rfl
  | d :: ds, h => by
    rw [lowL_cons, h d List.mem_cons_self, lowL_all fun x hx => h x (List.mem_cons_of_mem _ hx)]
    rfl
theorem rsv_low {f n : Nat} {d : Dt} (h : low n d = true) : rsv st n f d = some d := by
  cases f <;> simp [rsv, h]
theorem okSto_refl (st : Sto) : okSto st st := ⟨Nat.le_refl _, fun _ _ => .inl rfl⟩
theorem okSto_app (st g : Sto) : okSto st (st ++ g) := ⟨by rw [List.length_append]; omega, fun k hk => .inl (List.getElem?_append_left hk)⟩
theorem okSto_set {p : Nat} {o : MO} (h : lowMO st.length o = true) : okSto st (st.set p o) := ⟨by rw [List.length_set]; exact Nat.le_refl _, fun k hk => by
  by_cases e : p = k
  · subst e
    exact .inr ⟨o, List.getElem?_set_self hk, h⟩
  · exact .inl (List.getElem?_set_ne e)⟩
theorem okSto_set_app {p : Nat} {o : MO} {g : Sto} (h : lowMO st.length o = true) : okSto st (st.set p o ++ g) := by
  obtain ⟨a, b⟩ := okSto_set (st := st) (p := p) h
  refine ⟨by rw [List.length_append]; omega, fun k hk => ?_⟩
  rw [List.getElem?_append_left (by omega)]
  exact b k hk
/-- the end of a def that left the store, grew it, changed one of it -/
theorem finP_same {d : Dt} (h : low st.length d = true) : finP st d st = some (d, st) := by
  simp [finP, okSto_refl, rsv_low h]
theorem finP_app {d : Dt} {g : Sto} (h : low st.length d = true) : finP st d (st ++ g) = some (d, st) := by
  simp [finP, okSto_app, rsv_low h]
theorem finP_set {d : Dt} {p : Nat} {o : MO} (hd : low st.length d = true) (h : lowMO st.length o = true) : finP st d (st.set p o) = some (d, st.set p o) := by
  have e : (st.set p o).take st.length = st.set p o := List.take_of_length_le (by rw [List.length_set]; exact Nat.le_refl _)
  simp [finP, okSto_set h, rsv_low hd, e]
theorem take_set_app {p : Nat} {o : MO} {g : Sto} : (st.set p o ++ g).take st.length = st.set p o := by
  rw [List.take_append_of_le_length (by rw [List.length_set]; exact Nat.le_refl _)]
  exact List.take_of_length_le (by rw [List.length_set]; exact Nat.le_refl _)
theorem finP_set_app {d : Dt} {p : Nat} {o : MO} {g : Sto} (hd : low st.length d = true) (h : lowMO st.length o = true) : finP st d (st.set p o ++ g) = some (d, st.set p o) := by
  simp [finP, okSto_set_app h, rsv_low hd, take_set_app]
theorem mapO_low {n f : Nat} : ∀ {ds : List Dt}, lowL n ds = true → mapO (rsv st n f) ds = some ds
  | [], _ => rfl
  | d :: ds, h => by
    rw [lowL_cons, Bool.and_eq_true] at h
    simp only [mapO, rsv_low h.1, Option.bind_some, mapO_low h.2, Option.map_some]
theorem rsv_own {n f k : Nat} {ds : List Dt} (hk : ¬ k < n) (e : st[k]? = some (.lst ds)) (h : lowL n ds = true) : rsv st n (f + 1) (.ptr k) = some (.lst ds) := by
  simp only [rsv, low_ptr, decide_eq_false hk, Bool.false_eq_true, if_false, e, mapO_low h, Option.map_some]
/-- a list of this def's own is handed back -/
theorem finP_own {ds : List Dt} {g : Sto} (h : lowL st.length ds = true) : finP st (.ptr st.length) (st ++ .lst ds :: g) = some (.lst ds, st) := by
  unfold finP
  rw [if_pos (okSto_app _ _), rsv_own (ds := ds) (Nat.lt_irrefl _) (by simp) h, List.take_left']
  · rfl
  · rfl
theorem finP_own_set {ds : List Dt} {p : Nat} {o : MO} {g : Sto} (h : lowL st.length ds = true) (ho : lowMO st.length o = true) : finP st (.ptr st.length) (st.set p o ++ .lst ds :: g) = some (.lst ds, st.set p o) := by
  have hk : (st.set p o ++ MO.lst ds :: g)[st.length]? = some (.lst ds) := by
    rw [List.getElem?_append_right (by rw [List.length_set]; exact Nat.le_refl _), List.length_set, Nat.sub_self]
    rfl
  unfold finP
  rw [if_pos (okSto_set_app ho), rsv_own (ds := ds) (Nat.lt_irrefl _) hk h, take_set_app]
  rfl
theorem finM_own {ds : List Dt} {g : Sto} (h : lowL st.length ds = true) : finM st (.ptr st.length) (st ++ .lst ds :: g) = some (.ptr st.length, st ++ [.lst ds]) := by
  simp [finM, okSto_app, h, lowMO]
end
/-! ### the end of a loop's reckoning -/
theorem forL_nil {g : DG} {b : DS} {guard : Sto → Prop} {ev : En} {st : Sto} (h : guard st) : dForL g b guard [] ev st = some (.nx ev st) := by
  rw [dForL, if_pos h]
theorem forL_cons {g : DG} {b : DS} {guard : Sto → Prop} {d : Dt} {ds : List Dt} {ev : En} {st : Sto} (h : guard st) : dForL g b guard (d :: ds) ev st = (g st d ev).bind fun ev1 => (b ev1 st).bind fun o => match o with
      | .nx ev2 st2 => dForL g b guard ds ev2 st2
      | .ct ev2 st2 => dForL g b guard ds ev2 st2
      | .bk ev2 st2 => some (.nx ev2 st2)
      | .rt d st2 => some (.rt d st2) := by
  rw [dForL, if_pos h]
  try rfl
/-- an invariant by the turn; the body goes on, or breaks, or hands back -/
theorem forL_inv {g : DG} {b : DS} {guard : Sto → Prop} {items : List Dt} (I : Nat → En → Sto → Prop) (B : En → Sto → Prop) (R : Dt → Sto → Prop)
    (hg : ∀ i ev st, I i ev st → guard st)
    (ht : ∀ i d ev st, items[i]? = some d → I i ev st → ∃ ev1 o, g st d ev = some ev1 ∧ b ev1 st = some o ∧ match o with
      | .nx ev2 st2 => I (i + 1) ev2 st2
      | .ct ev2 st2 => I (i + 1) ev2 st2
      | .bk ev2 st2 => B ev2 st2
      | .rt d st2 => R d st2) :
    ∀ (n i : Nat) (ev : En) (st : Sto), n + i = items.length → I i ev st → ∃ o, dForL g b guard (items.drop i) ev st = some o ∧ match o with
      | .nx ev2 st2 => I items.length ev2 st2 ∨ B ev2 st2
      | .rt d st2 => R d st2
      | _ => False := by
  intro n
  induction n with
  | zero =>
    intro i ev st hn hI
    have hi : i = items.length := by omega
    subst hi
    rw [List.drop_length]
    exact ⟨.nx ev st, by simp [dForL, hg _ _ _ hI], .inl hI⟩
  | succ n ih =>
    intro i ev st hn hI
    have hi : i < items.length := by omega
    rw [List.drop_eq_getElem_cons hi]
    obtain ⟨ev1, o, h1, h2, h3⟩ := ht i items[i] ev st (List.getElem?_eq_getElem hi) hI
    unfold dForL
    rw [if_pos (hg _ _ _ hI), h1, Option.bind_some, h2, Option.bind_some]
    cases o with
    | nx ev2 st2 => exact ih (i + 1) ev2 st2 (by omega) h3
    | ct ev2 st2 => exact ih (i + 1) ev2 st2 (by omega) h3
    | bk ev2 st2 => exact ⟨.nx ev2 st2, rfl, .inr h3⟩
    | rt d st2 => exact ⟨.rt d st2, rfl, h3⟩
/-- .. where nothing breaks or hands back -/
theorem forL_all {g : DG} {b : DS} {guard : Sto → Prop} {items : List Dt} (I : Nat → En → Sto → Prop) {ev : En} {st : Sto} (h0 : I 0 ev st)
    (hg : ∀ i ev st, I i ev st → guard st)
    (ht : ∀ i d ev st, items[i]? = some d → I i ev st → ∃ ev1 ev2 st2, g st d ev = some ev1 ∧ b ev1 st = some (.nx ev2 st2) ∧ I (i + 1) ev2 st2) :
    ∃ ev2 st2, dForL g b guard items ev st = some (.nx ev2 st2) ∧ I items.length ev2 st2 := by
  obtain ⟨o, h1, h2⟩ := forL_inv (g := g) (b := b) (guard := guard) (items := items) I (fun _ _ => False) (fun _ _ => False) hg (fun i d ev st hd hI => by
    obtain ⟨ev1, ev2, st2, a, b, c⟩ := ht i d ev st hd hI
    exact ⟨ev1, _, a, b, c⟩) items.length 0 ev st (by omega) h0
  rw [List.drop_zero] at h1
  cases o with
  | nx ev2 st2 => exact ⟨ev2, st2, h1, h2.resolve_right id⟩
  | _ => exact h2.elim
theorem while_inv {c : DT} {b : DS} (I : En → Sto → Prop) (μ : En → Sto → Nat) (Q : En → Sto → Prop)
    (ht : ∀ ev st, I ev st → (∃ st1 ev2 st2, c ev st = some (true, st1) ∧ b ev st1 = some (.nx ev2 st2) ∧ I ev2 st2 ∧ μ ev2 st2 < μ ev st) ∨ (∃ st1, c ev st = some (false, st1) ∧ Q ev st1)) :
    ∀ (n : Nat) (ev : En) (st : Sto), I ev st → μ ev st < n → ∃ ev2 st2, dWhileN c b n ev st = some (.nx ev2 st2) ∧ Q ev2 st2 := by
  intro n
  induction n with
  | zero => intro ev st _ h; omega
  | succ n ih =>
    intro ev st hI hm
    unfold dWhileN
    rcases ht ev st hI with ⟨st1, ev2, st2, h1, h2, h3, h4⟩ | ⟨st1, h1, h2⟩
    · rw [h1, Option.bind_some, if_pos rfl, h2, Option.bind_some]
      exact ih ev2 st2 h3 (by omega)
    · rw [h1, Option.bind_some, if_neg Bool.false_ne_true]
      exact ⟨ev, st1, rfl, h2⟩
theorem dWhile_eq {n : Nat} {c : DT} {b : DS} {ev : En} {st : Sto} : dWhile n c b ev st = dWhileN c b n ev st := rfl
theorem FU_big {i : Int} {n : Nat} (h : Bd n i) (hn : n ≤ 4000) : i.natAbs < FU := by
  have := Bd_iff.mp (h.mono hn)
  unfold FU
  exact this
/-! ### bounds -/
theorem okMul_of {n k : Nat} {i j : Int} (h1 : Bd n i) (h2 : Bd k j) (hn : n ≤ 1000000) (hk : k ≤ 1000000) : okMul i j := ⟨h1.mono hn, h2.mono hk⟩
theorem Bd.om {i : Int} (h : i.natAbs < 18446744073709551616) : Bd 64 i := Bd_iff.mpr h
theorem Bd.om2 {i : Int} (h : i.natAbs < 340282366920938463463374607431768211456) : Bd 128 i := Bd_iff.mpr h
theorem okDiv_of {n : Nat} {j : Int} (h0 : j ≠ 0) (h : Bd n j) (hn : n ≤ 8000) : okDiv j := ⟨h0, h.mono hn⟩
theorem fdivZ_pos {i j : Int} (h : 0 < j) : fdivZ i j = i / j := if_pos h
end PD

/-! ## tuples of ints in order; sorted, sorted(set(..)), len(set(..)) -/
namespace PD
open PySem PySem.Spec PyProof.Rows L2
/-- x stands ahead of y -/
def ltT : List Int → List Int → Bool
  | [], [] => false
  | [], _ :: _ => true
  | _ :: _, [] => false
  | a :: x, b :: y => decide (a < b) || (!decide (b < a) && ltT x y)
theorem ltT_lex : ∀ x y : List Int, PyProof.Rows.lexLt PyProof.Rows.itemOrd (x.map Sum.inl) (y.map Sum.inl) = ltT x y
  | [], [] => rfl
  | [], _ :: _ => rfl
  | _ :: _, [] => rfl
  | a :: x, b :: y => by
    show PyProof.Rows.lexLt PyProof.Rows.itemOrd (Sum.inl a :: x.map Sum.inl) (Sum.inl b :: y.map Sum.inl) = _
    rw [PyProof.Rows.lex_cons, ltT_lex x y]
    rfl
theorem ltT_irrefl (x : List Int) : ltT x x = false := by rw [← ltT_lex]; exact PyProof.Rows.lex_irrefl _
theorem ltT_trans {x y z : List Int} (h1 : ltT x y = true) (h2 : ltT y z = true) : ltT x z = true := by
  rw [← ltT_lex] at *
  exact PyProof.Rows.lex_trans _ _ _ h1 h2
theorem ltT_neg {x z : List Int} (y : List Int) (h : ltT x z = true) : ltT x y = true ∨ ltT y z = true := by
  rw [← ltT_lex] at *
  rw [← ltT_lex]
  exact PyProof.Rows.lex_negTrans _ _ _ h
theorem ltT_total {x y : List Int} (h1 : ltT x y = false) (h2 : ltT y x = false) : x = y := by
  rw [← ltT_lex] at *
  have := PyProof.Rows.lex_total _ _ h1 h2
  exact (List.map_inj_right fun a b h => Sum.inl.inj h).mp this
theorem ltT_swo {α : Type} (k : α → List Int) : SrtO.Swo fun v u => ltT (k v) (k u) := by
  refine ⟨fun x y h => ?_, fun x y z h1 h2 => ?_⟩
  · cases e : ltT (k y) (k x) with
    | false => rfl
    | true =>
      have := ltT_trans h e
      rw [ltT_irrefl] at this
      cases this
  · cases e : ltT (k z) (k x) with
    | false => rfl
    | true =>
      rcases ltT_neg (k y) e with q | q
      · rw [h2] at q; cases q
      · rw [h1] at q; cases q
/-- the tuple v of h has these ints -/
def TI (h : Heap) (v : Value) (ns : List Int) : Prop := ∃ a o xs n, v = .ref a ∧ h.get? a = some o ∧ o.cls = .type "tuple" ∧ o.data = .seq xs n ∧ IntsAre xs.toList ns
theorem TI.keeps {h h' : Heap} {v : Value} {ns : List Int} (t : TI h v ns) (k : ∀ b o, h.get? b = some o → o.cls = .type "tuple" → h'.get? b = some o) : TI h' v ns := by
  obtain ⟨a, o, xs, n, e, ho, hc, hd, hi⟩ := t
  exact ⟨a, o, xs, n, e, k a o ho hc, hc, hd, hi⟩
theorem TI.ints {h : Heap} {v : Value} {ns : List Int} (t : TI h v ns) : TS.intsOf h v = ns := by
  obtain ⟨a, o, xs, n, rfl, ho, hc, hd, hi⟩ := t
  simp only [TS.intsOf, ho, hd]
  exact hi.nums
theorem items_of : ∀ {vs : List Value} {ns : List Int} (i : Nat), IntsAre vs ns → PyProof.Rows.tupItems (fun _ => false) i vs = some (ns.map Sum.inl)
  | _, _, _, .nil => rfl
  | _, _, i, .cons n t r => by
    simp only [PyProof.Rows.tupItems, items_of (i + 1) r, Bool.false_eq_true, if_false, Option.map_some, List.map_cons]
section
variable {prog : Program} {w : World} {A : Around} {E : Value → Shared → Prop} {s : Shared}
theorem ti_cmp {vs : List Value} {k : Value → List Int} (hp : ∀ v ∈ vs, TI s.heap v (k v)) : SrtO.Cmp prog w A s (tuples' true) (fun p => p.1 ∈ vs) (SrtO.lt2 fun v u => ltT (k v) (k u)) := by
  intro p q hm hm'
  show wpAny (model prog w) A (keyLt' (tuples' true) p.1 q.1) (fun r s' => s' = s ∧ r = ltT (k p.1) (k q.1)) (fun _ _ => False) s
  obtain ⟨a, o, xs, n, e, ho, hc, hd, hi⟩ := hp _ hm
  obtain ⟨a', o', xs', n', e', ho', hc', hd', hi'⟩ := hp _ hm'
  generalize k p.1 = x at *
  generalize k q.1 = y at *
  rw [e, e']
  exact PySem.W.kat_lt ho hd ho' hd' (PyProof.Rows.tup_lex xs.toList xs'.toList 0 _ _ (items_of 0 hi) (items_of 0 hi') (by rw [Array.length_toList, Array.length_toList]) ⟨rfl, ltT_lex _ _⟩)
theorem ti_firsts {h : Heap} {k : Value → List Int} : ∀ {vs : List Value}, (∀ v ∈ vs, TI h v (k v) ∧ k v ≠ []) → ∃ fs, W.KatTups h vs fs ∧ fs.length = vs.length ∧ ∀ f ∈ fs, ∃ x t, f = Value.int x t
  | [], _ => ⟨[], .nil, rfl, fun _ h => nomatch h⟩
  | v :: vs, hp => by
    obtain ⟨fs, h1, h2, h3⟩ := ti_firsts (vs := vs) fun u hu => hp u (List.mem_cons_of_mem _ hu)
    obtain ⟨⟨a, o, xs, n, e, ho, hc, hd, hi⟩, hne⟩ := hp v List.mem_cons_self
    generalize k v = x at *
    have hf : ∃ y t, xs[0]? = some (Value.int y t) := by
      rw [← Array.getElem?_toList]
      generalize xs.toList = l at hi
      cases hi with
      | nil => exact absurd rfl hne
      | cons y t r => exact ⟨y, t, rfl⟩
    obtain ⟨y, t, hf⟩ := hf
    subst e
    refine ⟨Value.int y t :: fs, .cons ho hc hd hf h1, by rw [List.length_cons, List.length_cons, h2], fun f hm => ?_⟩
    rcases List.mem_cons.mp hm with e | hm
    · exact ⟨y, t, e⟩
    · exact h3 f hm
theorem ti_sortable {a : Addr} {vs : List Value} {k : Value → List Int} (h0 : 0 < vs.length) (hp : ∀ v ∈ vs, TI s.heap v (k v) ∧ k v ≠ []) (ha : ∀ o, s.heap.get? a = some o → o.cls ≠ .type "tuple") : SrtO.SortableO prog w A s a vs fun v u => ltT (k v) (k u) := by
  intro h' keep
  have hp' : ∀ v ∈ vs, TI h' v (k v) ∧ k v ≠ [] := fun v hm => ⟨(hp v hm).1.keeps fun b o e c => keep b o (fun z => by subst z; exact ha o e c) e, (hp v hm).2⟩
  obtain ⟨fs, h1, h2, h3⟩ := ti_firsts hp'
  refine ⟨tuples' true, fun Q E hq => ?_, ti_cmp (s := { s with heap := h' }) fun v hv => (hp' v hv).1⟩
  refine PySem.W.kat_kind (T := .type "int") h1 (by omega) (fun f hm => ?_) (by rfl) ?_
  · obtain ⟨x, t, rfl⟩ := h3 f hm
    exact PySem.W.Looks.now
  · have e : (Value.type "int" != Value.type "tuple") = true := by first | decide +kernel | rfl | decide
    rw [e]
    exact hq
end
/-- a rearrangement of what a map gives -/
theorem perm_map {α β : Type} {f : α → β} {out : List β} {l : List β} (h : out.Perm l) : ∀ ks : List α, l = ks.map f → ∃ ks' : List α, ks'.Perm ks ∧ out = ks'.map f := by
  induction h with
  | nil =>
    intro ks e
    exact ⟨[], by rw [List.map_eq_nil_iff.mp e.symm], rfl⟩
  | cons x _ ih =>
    intro ks e
    cases ks with
    | nil => cases e
    | cons k ks =>
      obtain ⟨e1, e2⟩ := List.cons.inj e
      obtain ⟨ks', h1, h2⟩ := ih ks e2
      exact ⟨k :: ks', h1.cons k, by rw [h2, e1]; rfl⟩
  | swap x y l =>
    intro ks e
    match ks, e with
    | [], e => cases e
    | [_], e => cases e
    | k1 :: k2 :: ks, e =>
      obtain ⟨e1, e2⟩ := List.cons.inj e
      obtain ⟨e3, e4⟩ := List.cons.inj e2
      exact ⟨k2 :: k1 :: ks, List.Perm.swap k1 k2 ks, by rw [e1, e3, e4]; rfl⟩
  | trans _ _ ih1 ih2 =>
    intro ks e
    obtain ⟨k1, h1, e1⟩ := ih2 ks e
    obtain ⟨k2, h2, e2⟩ := ih1 k1 e1
    exact ⟨k2, h2.trans h1, e2⟩
theorem ti_of_vals : ∀ {ns : List Int} {us : List Value}, Vals (ns.map V.int) us → IntsAre us ns
  | [], _, .nil => .nil
  | n :: ns, _, .cons r t => by
    obtain ⟨tk, rfl⟩ := r
    exact .cons n tk (ti_of_vals t)
section
variable {X : Cx}
theorem ti_inv {pins : List (Addr × Obj)} {σ : L2.St} {H : Hp} {s : Shared} {b : Addr} {k : List Int} (I : Inv X pins σ H s) (h : SqT X.K H b (k.map V.int)) : TI s.heap (.ref b) k := by
  obtain ⟨its, r, ⟨o, ho, hc, n, hd⟩, _⟩ := I.tuple h
  exact ⟨b, o, its.toArray, n, rfl, ho, hc, hd, by simpa using ti_of_vals r⟩
abbrev Ks := List (Addr × List Int)
def refs (ks : Ks) : List V := ks.map fun p => V.ref p.1
def SrtK (ks : Ks) : Prop := ks.Pairwise fun p q => ltT q.2 p.2 = false
/-- sorted(xs), xs a list of tuples of ints -/
def rSortT (K : PySem.W.Frag) : List V → Hp → VK → Prop := fun vs H Q => ∃ (a : Addr) (ks : Ks), vs = [V.ref a] ∧ SqL K H a (refs ks) ∧ (∀ p ∈ ks, SqT K H p.1 (p.2.map V.int) ∧ p.2 ≠ []) ∧
  ∀ (ks' : Ks) (p : Addr), ks'.Perm ks → SrtK ks' → H p = none → Q (.ref p) (upd H p (.lst (refs ks')))
theorem cr_sortT : CallR X (.builtin "sorted") (rSortT X.K) := by
  intro pins s σ H vs us Q I r h
  obtain ⟨a, ks, rfl, hs, hk, q⟩ := h
  obtain ⟨its, rv, hl, hz⟩ := I.list hs
  rw [Vals.ref1 r]
  have e := refs_of_vals rv
  have ti : ∀ p ∈ ks, TI s.heap (.ref p.1) p.2 := fun p hp => ti_inv I (hk p hp).1
  have hv : ∀ v ∈ its, TI s.heap v (TS.intsOf s.heap v) ∧ TS.intsOf s.heap v ≠ [] := fun v hv => by
    rw [e] at hv
    obtain ⟨p, hp, rfl⟩ := List.mem_map.mp hv
    rw [(ti p hp).ints]
    exact ⟨ti p hp, (hk p hp).2⟩
  refine SrtO.sorted_ord (ltT_swo (TS.intsOf s.heap)) hl.isList (by rw [← rv.length]; exact hz) (fun h2 h₁ a' ha kk => ti_sortable (s := { s with heap := h₁ }) (by omega) (fun v hm => ⟨(hv v hm).1.keeps fun b o e _ => (kk b o e).2, (hv v hm).2⟩) fun o e => ?_) fun out h1 h2 => ?_
  · have e' : some o = some (seqObj "list" its.toArray 0) := e.symm.trans ha
    cases e'
    intro c
    exact absurd (Value.type.inj c) (by decide)
  · obtain ⟨ks', h3, h4⟩ := perm_map h2.perm ks e
    obtain ⟨ep, he'⟩ := PyProof.Rows.sortedAll_at s.heap its out.toArray
    have hlen : (refs ks').length ≤ sizeLine := by
      have := hz
      unfold refs at this ⊢
      rw [List.length_map] at this ⊢
      rw [h3.length_eq]
      exact this
    have sk : SrtK ks' := by
      rw [h4] at h1
      refine List.Pairwise.imp_of_mem (fun {p q} hp hq h => ?_) (List.pairwise_map.mp h1)
      have h' : ltT (TS.intsOf s.heap (.ref q.1)) (TS.intsOf s.heap (.ref p.1)) = false := h
      rwa [(ti q (h3.mem_iff.mp hq)).ints, (ti p (h3.mem_iff.mp hp)).ints] at h'
    exact ⟨.ref _, upd H (s.heap.objs.size + 1) (.lst (refs ks')), I.laid (t' := s.toks) (fun _ _ => PyProof.Rows.sortedAll_old) (Nat.le_succ _) ⟨hlen, out, ep, by rw [h4]; exact vals_of_refs ks', he'⟩, rfl, q _ _ h3 sk (I.hok.fresh (Nat.le_succ _))⟩
/-- sorted(s), s a set of tuples of ints -/
def rSortSet (K : PySem.W.Frag) (P : Program) (w : World) : List V → Hp → VK → Prop := fun vs H Q => ∃ (a : Addr) (L : Ks), vs = [V.ref a] ∧ H a = some (SetTO P w a L) ∧ (∀ p ∈ L, SqT K H p.1 (p.2.map V.int) ∧ p.2 ≠ []) ∧
  ∀ (L' : Ks) (p : Addr), L'.Perm L → (L.map (·.2)).Nodup → SrtK L' → H p = none → Q (.ref p) (upd H p (.lst (refs L')))
theorem cr_sortSet (hc : X.calm = true) : CallR X (.builtin "sorted") (rSortSet X.K X.prog X.w) := by
  intro pins s σ H vs us Q I r h
  obtain ⟨a, L, rfl, ha, hk, q⟩ := h
  have R0 : SetT0 X.prog X.w s.heap a L := (I.hok a _ ha).1
  obtain ⟨es, ep, t, R⟩ := R0.full fun p hp => I.isT (hk p hp).1
  rw [Vals.ref1 r]
  obtain ⟨o, ho, hex, hd⟩ := R.ob
  have hsz := R.size
  have hfew := R.few
  refine Calls.call_function_entry kind_sorted plain_sorted entry_sorted (args_sorted1 _) ?_
  unfold Builtin.«sorted»
  refine wpAny_bind (m := checkCount "sorted" 1 1 _) (wpAny_pure ?_)
  refine wpAny_bind (collect_set (A := X.A.in1) (I.ok.hd hc) ⟨o, ho, hex.1, hd⟩ R.fits (by unfold scanBound; omega) R.tab.ris R.led fun s1 its k1 hz g1 o1 pm => ?_)
  have hes : es.toList.map (·.2) = L.map fun q => Value.ref q.1 := by
    rw [R.rows]
    unfold rowsOf
    rw [List.map_map] <;> rfl
  rw [hes] at pm
  obtain ⟨ks, p1, e1⟩ := perm_map pm L rfl
  have hvl : its.length < 64 := by rw [pm.length_eq, List.length_map]; exact hfew
  refine wpAny_bind (wpAny_newList ?_ (by rw [sizeLine_eq]; omega))
  have hoL : (s1.heap.push (seqObj "list" its.toArray 0)).get? s1.heap.objs.size = some (seqObj "list" its.toArray 0) := Heap.get?_push_size _ rfl
  have ti : ∀ p ∈ ks, TI (s1.heap.push (seqObj "list" its.toArray 0)) (.ref p.1) p.2 := fun p hp => (ti_inv I (hk p (p1.mem_iff.mp hp)).1).keeps fun b u e _ => Heap.get?_push_of_some _ (k1 b u e)
  have hv : ∀ v ∈ its, TI (s1.heap.push (seqObj "list" its.toArray 0)) v (TS.intsOf (s1.heap.push (seqObj "list" its.toArray 0)) v) ∧ TS.intsOf (s1.heap.push (seqObj "list" its.toArray 0)) v ≠ [] := fun v hv => by
    rw [e1] at hv
    obtain ⟨p, hp, rfl⟩ := List.mem_map.mp hv
    rw [(ti p hp).ints]
    exact ⟨ti p hp, (hk p (p1.mem_iff.mp hp)).2⟩
  refine wpAny_bind (wpAny_holding (wpAny_call_entry slot_list_sort ⟨_, hoL, rfl⟩ entry_list_sort (SrtO.list_sort_ord (s := { s1 with heap := s1.heap.push (seqObj "list" its.toArray 0) }) (ltT_swo (TS.intsOf (s1.heap.push (seqObj "list" its.toArray 0)))) hoL (by rw [sizeLine_eq]; omega)
    (fun h2 => ti_sortable (s := { s1 with heap := s1.heap.push (seqObj "list" its.toArray 0) }) (by omega) hv fun o e => ?_) fun out h1 h2 => ⟨_, rfl, ?_⟩) (args_list_sort _)))
  · have e' : some o = some (seqObj "list" its.toArray 0) := e.symm.trans hoL
    cases e'
    intro c
    exact absurd (Value.type.inj c) (by decide)
  · obtain ⟨L', h3, h4⟩ := perm_map h2.perm ks e1
    obtain ⟨c, hcL⟩ := sortedHeap_at (vs := its) (out := out.toArray) hoL
    have pL : L'.Perm L := h3.trans p1
    have sk : SrtK L' := by
      rw [h4] at h1
      refine List.Pairwise.imp_of_mem (fun {p q} hp hq h => ?_) (List.pairwise_map.mp h1)
      have h' : ltT (TS.intsOf (s1.heap.push (seqObj "list" its.toArray 0)) (.ref q.1)) (TS.intsOf (s1.heap.push (seqObj "list" its.toArray 0)) (.ref p.1)) = false := h
      rwa [(ti q (h3.mem_iff.mp hq)).ints, (ti p (h3.mem_iff.mp hp)).ints] at h'
    have hlen : (refs L').length ≤ sizeLine := by
      unfold refs
      rw [List.length_map, pL.length_eq, sizeLine_eq]
      omega
    have kk : ∀ b u, s.heap.get? b = some u → (sortedHeap (s1.heap.push (seqObj "list" its.toArray 0)) s1.heap.objs.size its out.toArray).get? b = some u := fun b u e => by
      have q := k1 b u e
      have hlt := Heap.lt_size q
      rw [sortedHeap_old (Nat.ne_of_lt hlt) (by rw [size_push']; exact Nat.lt_succ_of_lt hlt)]
      exact Heap.get?_push_of_some _ q
    have hn : H s1.heap.objs.size = none := I.hok.fresh hz
    have hv' : Vals (refs L') out := by rw [h4]; exact vals_of_refs L'
    refine wpAny_pure ⟨_, rfl, ?_⟩
    have J : Inv X pins σ (upd H s1.heap.objs.size (.lst (refs L'))) { s with heap := sortedHeap (s1.heap.push (seqObj "list" its.toArray 0)) s1.heap.objs.size its out.toArray, gens := s1.gens, drawn := s1.drawn, toks := s1.toks } :=
      I.call (ch := []) (Un.laid kk hz hn) (I.hok.laid kk hz ⟨hlen, out, c, hv', hcL⟩) (by rw [g1]; exact I.bare) (fun _ z => nomatch z)
    have e : ({ s1 with heap := sortedHeap (s1.heap.push (seqObj "list" its.toArray 0)) s1.heap.objs.size its out.toArray } : Shared) = { s with heap := sortedHeap (s1.heap.push (seqObj "list" its.toArray 0)) s1.heap.objs.size its out.toArray, gens := s1.gens, drawn := s1.drawn, toks := s1.toks } := by
      cases s1
      cases s
      cases o1
      rfl
    show ∃ _, _
    exact ⟨.ref _, _, by simpa only [e] using J, rfl, q L' _ pL R.nd sk hn⟩
/-- len(s), s a set of tuples -/
def rLenSet (P : Program) (w : World) : List V → Hp → VK → Prop := fun vs H Q => ∃ (a : Addr) (L : Ks), vs = [V.ref a] ∧ H a = some (SetTO P w a L) ∧ ((L.map (·.2)).Nodup → Q (.int L.length) H)
theorem cr_lenSet : CallR X (.builtin "len") (rLenSet X.prog X.w) := by
  intro pins s σ H vs us Q I r h
  obtain ⟨a, L, rfl, ha, q⟩ := h
  have R0 : SetT0 X.prog X.w s.heap a L := (I.hok a _ ha).1
  obtain ⟨es, ep, t, ⟨o, ho, hex, hd⟩, h2, h3, h4, h5, h6, h7, h8⟩ := R0.ex
  rw [Vals.ref1 r]
  have hsz : es.size = L.length := by
    rw [← Array.length_toList, h2]
    unfold rowsOf
    rw [List.length_map]
  have hf : t.fits es.size = true := by
    have h1 := h3.sz
    rw [List.length_map] at h1
    unfold SetTable.fits SetTable.fill
    rw [h3.dm, Bool.and_eq_true, beq_iff_eq, decide_eq_true_eq]
    show t.place.size = es.size ∧ t.place.size + 0 ≤ t.mask
    omega
  refine call_len_set ho hex hd hf (by omega) ⟨.int L.length, H, I.tok _, ⟨_, by rw [hsz]⟩, q h4⟩
end
/-! ## the layer's side -/
variable {K : PySem.W.Frag} {X : Cx}
def keyD : Dt → Option (List Int)
  | .tup (d :: ds) => intsD (d :: ds)
  | _ => none
def tupD (k : List Int) : Dt := .tup (k.map .int)
def lookT (st : Sto) (d : Dt) : Option (List (List Int)) := (look st d).bind (mapO keyD)
theorem keyD_ok {H : Hp} {m : MM} {d : Dt} {v : V} {k : List Int} (r : Rep K H m d v) (h : keyD d = some k) : ∃ a, v = .ref a ∧ TupAt H a (k.map V.int) ∧ k ≠ [] := by
  unfold keyD at h
  split at h
  · rename_i d ds
    have e := intsD_eq h
    cases r with
    | tup h1 h2 =>
      rw [e] at h2
      rw [h2.ints] at h1
      refine ⟨_, rfl, h1, fun z => ?_⟩
      subst z
      cases e
  · cases h
theorem keysD_ok {H : Hp} {m : MM} : ∀ {ds : List Dt} {vs : List V} {ks : List (List Int)}, Reps K H m ds vs → mapO keyD ds = some ks → ∃ kas : Ks, vs = refs kas ∧ kas.map (·.2) = ks ∧ ∀ p ∈ kas, TupAt H p.1 (p.2.map V.int) ∧ p.2 ≠ []
  | [], _, ks, .nil, h => by
    cases h
    exact ⟨[], rfl, rfl, fun _ h => nomatch h⟩
  | d :: ds, _, ks, .cons r rs, h => by
    obtain ⟨k, h1, h⟩ := Option.bind_eq_some_iff.mp h
    obtain ⟨ks', h2, h⟩ := Option.map_eq_some_iff.mp h
    subst h
    obtain ⟨kas, e1, e2, e3⟩ := keysD_ok rs h2
    obtain ⟨a, e4, e5, e6⟩ := keyD_ok r h1
    refine ⟨(a, k) :: kas, by rw [e4, e1]; rfl, by rw [List.map_cons, e2], fun p hp => ?_⟩
    rcases List.mem_cons.mp hp with e | hp
    · subst e
      exact ⟨e5, e6⟩
    · exact e3 p hp
theorem keys_reps {H : Hp} {m : MM} : ∀ {kas : Ks}, (∀ p ∈ kas, TupAt H p.1 (p.2.map V.int)) → Reps K H m (kas.map fun p => tupD p.2) (refs kas)
  | [], _ => .nil
  | p :: kas, h => .cons (.tup (h p List.mem_cons_self) (Reps.of_ints _)) (keys_reps fun q hq => h q (List.mem_cons_of_mem _ hq))
theorem lookT_ok {H : Hp} {m : MM} {st : Sto} {d : Dt} {v : V} {ks : List (List Int)} (S : StR K H m st) (r : Rep K (hid H m) m d v) (h : lookT st d = some ks) :
    ∃ a, ∃ kas : Ks, v = .ref a ∧ H a = some (.lst (refs kas)) ∧ kas.map (·.2) = ks ∧ ∀ p ∈ kas, TupAt (hid H m) p.1 (p.2.map V.int) ∧ p.2 ≠ [] := by
  obtain ⟨ds, h1, h2⟩ := Option.bind_eq_some_iff.mp h
  obtain ⟨a, vs, rfl, h3, h4⟩ := look_ok S r h1
  obtain ⟨kas, rfl, e2, e3⟩ := keysD_ok h4 h2
  exact ⟨a, kas, rfl, h3, e2, e3⟩
def sortT (ks : List (List Int)) : List (List Int) := ks.mergeSort fun a b => !ltT b a
theorem sortT_perm (ks : List (List Int)) : (sortT ks).Perm ks := List.mergeSort_perm _ _
theorem sortT_sorted (ks : List (List Int)) : (sortT ks).Pairwise fun a b => ltT b a = false := by
  refine (List.pairwise_mergeSort (le := fun a b => !ltT b a) (fun a b c h1 h2 => ?_) (fun a b => ?_) ks).imp fun h => by simpa using h
  · simp only [Bool.not_eq_true'] at h1 h2 ⊢
    cases e : ltT c a with
    | false => rfl
    | true =>
      rcases ltT_neg b e with q | q
      · rw [h2] at q; cases q
      · rw [h1] at q; cases q
  · cases e : ltT b a with
    | false => rfl
    | true =>
      cases e2 : ltT a b with
      | false => rfl
      | true =>
        have := ltT_trans e e2
        rw [ltT_irrefl] at this
        cases this
theorem sortT_uniq {ks l : List (List Int)} (hp : l.Perm ks) (hs : l.Pairwise fun a b => ltT b a = false) : l = sortT ks :=
  List.Perm.eq_of_pairwise (le := fun a b => ltT b a = false) (fun a b _ _ h1 h2 => ltT_total h2 h1) hs (sortT_sorted ks) (hp.trans (sortT_perm ks).symm)
/-- each once -/
def onceT (ks : List (List Int)) : List (List Int) := ks.foldr (fun k r => if k ∈ r then r else k :: r) []
theorem onceT_mem {x : List Int} : ∀ {ks : List (List Int)}, x ∈ onceT ks ↔ x ∈ ks
  | [] => Iff.rfl
  | k :: ks => by
    show x ∈ (if k ∈ onceT ks then onceT ks else k :: onceT ks) ↔ _
    split
    · rename_i h
      rw [onceT_mem, List.mem_cons]
      exact ⟨.inr, fun z => z.elim (fun e => by rw [e]; exact onceT_mem.mp h) id⟩
    · rw [List.mem_cons, List.mem_cons, onceT_mem]
theorem onceT_nodup : ∀ ks : List (List Int), (onceT ks).Nodup
  | [] => List.nodup_nil
  | k :: ks => by
    show (if k ∈ onceT ks then onceT ks else k :: onceT ks).Nodup
    split
    · exact onceT_nodup ks
    · rename_i h
      exact List.nodup_cons.mpr ⟨h, onceT_nodup ks⟩
theorem onceT_perm {ks l : List (List Int)} (hn : l.Nodup) (hm : ∀ x, x ∈ l ↔ x ∈ ks) : l.Perm (onceT ks) :=
  (List.perm_ext_iff_of_nodup hn (onceT_nodup ks)).mpr fun x => by rw [onceT_mem, hm]
def gSortT : Sto → List Dt → Option (List Dt) := fun st ds => match ds with
  | [d] => (lookT st d).map fun ks => (sortT ks).map tupD
  | _ => none
theorem srtK_map {ks : Ks} (h : SrtK ks) : (ks.map (·.2)).Pairwise fun a b => ltT b a = false := List.pairwise_map.mpr h
theorem rn_sortT : RCN K (rSortT K) gSortT := by
  intro H m st ds z xs S rs h Q q
  unfold gSortT at h
  split at h
  · obtain ⟨ks, h1, h⟩ := Option.map_eq_some_iff.mp h
    cases h
    obtain ⟨v, rfl, r⟩ := rs.one
    obtain ⟨a, kas, rfl, h2, rfl, h4⟩ := lookT_ok S r h1
    refine ⟨a, kas, rfl, .inl (.inl h2), fun p hp => ⟨TupAt.sq (hid_ext _ _ _ _ (h4 p hp).1), (h4 p hp).2⟩, fun ks' p hp hs hn => ?_⟩
    have e := sortT_uniq (hp.map (·.2)) (srtK_map hs)
    have e2 : (sortT (kas.map (·.2))).map tupD = ks'.map fun p => tupD p.2 := by rw [← e, List.map_map]; rfl
    exact q p H _ hn (Stp.refl _ _) S (by rw [e2]; exact keys_reps fun p hp' => (h4 p (hp.mem_iff.mp hp')).1)
  · cases h
/-- sorted: of ints, or of tuples of ints -/
def rSort (K : PySem.W.Frag) : List V → Hp → VK → Prop := fun vs H Q => rSortedI K vs H Q ∨ rSortT K vs H Q
theorem cr_sort : CallR X (.builtin "sorted") (rSort X.K) := fun pins s σ H vs us Q I r h => h.elim (cr_sortedI pins s σ H vs us Q I r) (cr_sortT pins s σ H vs us Q I r)
def gSort : Sto → List Dt → Option (List Dt) := fun st ds => match gSortI st ds with
  | some z => some z
  | none => gSortT st ds
theorem rn_sort : RCN K (rSort K) gSort := by
  intro H m st ds z xs S rs h Q q
  unfold gSort at h
  split at h
  · rename_i e
    cases h
    exact .inl (rn_sortI H m st ds _ xs S rs e Q q)
  · exact .inr (rn_sortT H m st ds z xs S rs h Q q)
/-- sorted(set(xs)) -/
def gSortSet : Sto → List Dt → Option (List Dt) := fun st ds => match ds with
  | [d] => (lookT st d).bind fun ks => if ks.length < 64 then some ((sortT (onceT ks)).map tupD) else none
  | _ => none
def rSortSet2 (K : PySem.W.Frag) (P : Program) (w : World) : List V → Hp → VK → Prop := fun xs H Q => rSetOfT K P w xs H fun v H1 => rSortSet K P w [v] H1 Q
theorem mem_keys {L kas : Ks} (h1 : ∀ p ∈ L, p ∈ kas) (h2 : ∀ p ∈ kas, p.2 ∈ L.map (·.2)) (x : List Int) : x ∈ L.map (·.2) ↔ x ∈ kas.map (·.2) := by
  constructor
  · intro h
    obtain ⟨p, hp, e⟩ := List.mem_map.mp h
    exact List.mem_map.mpr ⟨p, h1 p hp, e⟩
  · intro h
    obtain ⟨p, hp, rfl⟩ := List.mem_map.mp h
    exact h2 p hp
theorem rn_sortSet {P : Program} {w : World} : RCN K (rSortSet2 K P w) gSortSet := by
  intro H m st ds z xs S rs h Q q
  unfold gSortSet at h
  split at h
  · obtain ⟨ks, h1, h⟩ := Option.bind_eq_some_iff.mp h
    split at h
    · rename_i hl
      cases h
      obtain ⟨v, rfl, r⟩ := rs.one
      obtain ⟨a, kas, rfl, h2, rfl, h4⟩ := lookT_ok S r h1
      refine ⟨a, kas, rfl, .inl (.inl h2), fun p hp => TupAt.sq (hid_ext _ _ _ _ (h4 p hp).1), by simpa using hl, fun b L hb g1 g2 => ?_⟩
      have s1 : Stp H m (upd H b (SetTO P w b L)) m := Stp.new S hb
      have S1 : StR K (upd H b (SetTO P w b L)) m st := S.new hb
      refine ⟨b, L, rfl, upd_same, fun p hp => ⟨TupAt.sq (hid_ext _ _ _ _ (s1.2.1 _ _ (h4 p (g1 p hp)).1)), (h4 p (g1 p hp)).2⟩, fun L' p pL nd hs hn => ?_⟩
      have e : L'.map (·.2) = sortT (onceT (kas.map (·.2))) := sortT_uniq ((pL.map (·.2)).trans (onceT_perm nd (mem_keys g1 g2))) (srtK_map hs)
      have e2 : (sortT (onceT (kas.map (·.2)))).map tupD = L'.map fun p => tupD p.2 := by rw [← e, List.map_map]; rfl
      exact q p _ _ hn s1 S1 (by rw [e2]; exact keys_reps fun p hp' => s1.2.1 _ _ (h4 p (g1 p (pL.mem_iff.mp hp'))).1)
    · cases h
  · cases h
/-- len(set(xs)) -/
def gLenSet : Sto → List Dt → Option Dt := fun st ds => match ds with
  | [d] => (lookT st d).bind fun ks => if ks.length < 64 then some (.int (onceT ks).length) else none
  | _ => none
def rLenSet2 (K : PySem.W.Frag) (P : Program) (w : World) : List V → Hp → VK → Prop := fun xs H Q => rSetOfT K P w xs H fun v H1 => rLenSet P w [v] H1 Q
theorem rc_lenSet {P : Program} {w : World} : RCS K (rLenSet2 K P w) gLenSet := by
  intro H m st ds z xs S rs h Q q
  unfold gLenSet at h
  split at h
  · obtain ⟨ks, h1, h⟩ := Option.bind_eq_some_iff.mp h
    split at h
    · rename_i hl
      cases h
      obtain ⟨v, rfl, r⟩ := rs.one
      obtain ⟨a, kas, rfl, h2, rfl, h4⟩ := lookT_ok S r h1
      refine ⟨a, kas, rfl, .inl (.inl h2), fun p hp => TupAt.sq (hid_ext _ _ _ _ (h4 p hp).1), by simpa using hl, fun b L hb g1 g2 => ?_⟩
      refine ⟨b, L, rfl, upd_same, fun nd => ?_⟩
      have e := (onceT_perm nd (mem_keys g1 g2)).length_eq
      rw [List.length_map] at e
      rw [e]
      exact q _ _ (Stp.new S hb) (S.new hb) (.int _)
    · cases h
  · cases h
theorem pd_sortSet {e : Expr} {da : DA} {p p2 pos pos2 : Pos} (hu : X.A.units + 64 < cLine) (hg : Gl X "sorted") (hm : X.mg "sorted" = none) (hv : bootBuiltins "sorted" = some (.builtin "sorted")) (hg2 : Gl X "set") (hm2 : X.mg "set" = none) (hv2 : bootBuiltins "set" = some (.type "set")) (ha : PDA X [e] da)
    (hc : X.calm = true := by rfl) (hs : starEach [e] X.env = [(false, eval e X.env)] := by rfl) (hs2 : starEach [.Call (.Name "set" p2) [e] [] pos2] X.env = [(false, eval (.Call (.Name "set" p2) [e] [] pos2) X.env)] := by rfl) :
    PD X (.Call (.Name "sorted" p) [.Call (.Name "set" p2) [e] [] pos2] [] pos) (dAp (asLst gSortSet) da) := by
  obtain ⟨ta, pa, sa⟩ := ha
  exact ⟨tCB (rSortSet X.K X.prog X.w) (tCons (tCB (rSetOfT X.K X.prog X.w) ta) tNil), pe_callB (cr_sortSet hc) hg hm hv (pa_cons (pe_callTy (cr_setOfT hc hu) hg2 hm2 hv2 pa (he := hs)) pa_nil hs2) (he := hs2), se_cb (r := rSortSet2 X.K X.prog X.w) rn_sortSet.rcs sa⟩
theorem pd_sortSetM {e : Expr} {da : DA} {p p2 pos pos2 : Pos} (hu : X.A.units + 64 < cLine) (hg : Gl X "sorted") (hm : X.mg "sorted" = none) (hv : bootBuiltins "sorted" = some (.builtin "sorted")) (hg2 : Gl X "set") (hm2 : X.mg "set" = none) (hv2 : bootBuiltins "set" = some (.type "set")) (ha : PDA X [e] da)
    (hc : X.calm = true := by rfl) (hs : starEach [e] X.env = [(false, eval e X.env)] := by rfl) (hs2 : starEach [.Call (.Name "set" p2) [e] [] pos2] X.env = [(false, eval (.Call (.Name "set" p2) [e] [] pos2) X.env)] := by rfl) :
    PD X (.Call (.Name "sorted" p) [.Call (.Name "set" p2) [e] [] pos2] [] pos) (dApM gSortSet da) := by
  obtain ⟨ta, pa, sa⟩ := ha
  exact ⟨tCB (rSortSet X.K X.prog X.w) (tCons (tCB (rSetOfT X.K X.prog X.w) ta) tNil), pe_callB (cr_sortSet hc) hg hm hv (pa_cons (pe_callTy (cr_setOfT hc hu) hg2 hm2 hv2 pa (he := hs)) pa_nil hs2) (he := hs2), se_cbM (r := rSortSet2 X.K X.prog X.w) rn_sortSet sa⟩
theorem pd_lenSet {e : Expr} {da : DA} {p p2 pos pos2 : Pos} (hu : X.A.units + 64 < cLine) (hg : Gl X "len") (hm : X.mg "len" = none) (hv : bootBuiltins "len" = some (.builtin "len")) (hg2 : Gl X "set") (hm2 : X.mg "set" = none) (hv2 : bootBuiltins "set" = some (.type "set")) (ha : PDA X [e] da)
    (hc : X.calm = true := by rfl) (hs : starEach [e] X.env = [(false, eval e X.env)] := by rfl) (hs2 : starEach [.Call (.Name "set" p2) [e] [] pos2] X.env = [(false, eval (.Call (.Name "set" p2) [e] [] pos2) X.env)] := by rfl) :
    PD X (.Call (.Name "len" p) [.Call (.Name "set" p2) [e] [] pos2] [] pos) (dAp gLenSet da) := by
  obtain ⟨ta, pa, sa⟩ := ha
  exact ⟨tCB (rLenSet X.prog X.w) (tCons (tCB (rSetOfT X.K X.prog X.w) ta) tNil), pe_callB cr_lenSet hg hm hv (pa_cons (pe_callTy (cr_setOfT hc hu) hg2 hm2 hv2 pa (he := hs)) pa_nil hs2) (he := hs2), se_cb (r := rLenSet2 X.K X.prog X.w) rc_lenSet sa⟩
/-! ## zip of two lists or of two tuples -/
def zipSrc (st : Sto) : Dt → Dt → Option Src
  | .tup as, .tup bs => some ⟨zipD as bs, fun _ => True⟩
  | a, b => (look st a).bind fun as => (look st b).map fun bs => ⟨zipD as bs, fun st => look st a = some as ∧ look st b = some bs⟩
def diZipA (a : DA) : DI := fun ev st => match a ev st with
  | some ([x, y], st1) => (zipSrc st1 x y).map fun s => (s, st1)
  | _ => none
theorem pdi_zipA {e e2 : Expr} {da : DA} {p pos tpos : Pos} {elts : List Expr} {kk : Nat} (hg : Gl X "zip") (hm : X.mg "zip" = none) (ha : PDA X [e, e2] da)
    (hs : starEach [e, e2] X.env = (false, eval e X.env) :: starEach [e2] X.env := by rfl) (hpl : (backTo pos (starEach [e2] X.env)).any (·.1) = false := by rfl) :
    PDI X (.Tuple elts kk tpos) (.Call (.Name "zip" p) [e, e2] [] pos) (diZipA da) := by
  obtain ⟨t, pa, sa⟩ := ha
  refine ⟨_, RZ.pi_zipA hg hm pa hs hpl, fun σ H m ev st sr st' S E h R q => ?_⟩
  unfold diZipA at h
  split at h
  · rename_i x y st1 h1
    obtain ⟨sr', h2, h⟩ := Option.map_eq_some_iff.mp h
    cases h
    refine sa σ H m ev st [x, y] st' S E h1 _ fun vs H2 m2 s2 S2 rr => ?_
    obtain ⟨v, u, rfl, r1, r2⟩ := rr.two
    have hl : ∀ as bs : List Dt, (zipD as bs).length = min as.length bs.length := fun as bs => by unfold zipD; rw [List.length_zipWith]
    unfold zipSrc at h2
    split at h2
    · rename_i as bs
      cases h2
      cases r1 with
      | @tup a vs _ t1 rs1 =>
        cases r2 with
        | @tup b us _ t2 rs2 =>
          have t1' := TupAt.sq (K := X.K) (hid_ext _ _ _ _ t1)
          have t2' := TupAt.sq (K := X.K) (hid_ext _ _ _ _ t2)
          refine ⟨a, b, vs, us, rfl, .inr ⟨t1', t2', q _ H2 m2 s2 S2 ?_⟩⟩
          refine ⟨fun i H' m' st2 s S3 g hi => ?_, fun i H' m' st2 s S3 g hi x H3 y => ?_, fun i H' m' st2 s S3 g hi => ?_⟩
          · have hi : i < min as.length bs.length := Nat.lt_of_lt_of_eq hi (hl as bs)
            have hi1 : i < vs.length := by rw [← rs1.length]; omega
            have hi2 : i < us.length := by rw [← rs2.length]; omega
            exact ⟨vs, us, vs[i], us[i], TupAt.sq (hid_ext _ _ _ _ (s.2 _ _ t1)), TupAt.sq (hid_ext _ _ _ _ (s.2 _ _ t2)), List.getElem?_eq_getElem hi1, List.getElem?_eq_getElem hi2⟩
          · have rs1' := Reps.mono s.2 s.1 _ _ rs1
            have rs2' := Reps.mono s.2 s.1 _ _ rs2
            obtain ⟨T, x0, y0, rfl, hT, rfl, hx, hy⟩ := y
            obtain ⟨d1, e1, r3⟩ := rs1'.getV (hx vs (TupAt.sq (hid_ext _ _ _ _ (s.2 _ _ t1))))
            obtain ⟨d2, e2, r4⟩ := rs2'.getV (hy us (TupAt.sq (hid_ext _ _ _ _ (s.2 _ _ t2))))
            obtain ⟨a1, a2, a3⟩ := mk_tup (K := X.K) (z := [d1, d2]) (zs := [x0, y0]) S3 hT (.cons r3 (.cons r4 .nil))
            refine ⟨a1, a2, _, ?_, a3⟩
            show (zipD as bs)[i]? = _
            unfold zipD
            rw [List.getElem?_zipWith, e1, e2]
          · have hi : (zipD as bs).length ≤ i := hi
            rw [hl] at hi
            refine ⟨vs, us, TupAt.sq (hid_ext _ _ _ _ (s.2 _ _ t1)), TupAt.sq (hid_ext _ _ _ _ (s.2 _ _ t2)), ?_⟩
            have := rs1.length
            have := rs2.length
            omega
    · obtain ⟨as, h3, h2⟩ := Option.bind_eq_some_iff.mp h2
      obtain ⟨bs, h4, h2⟩ := Option.map_eq_some_iff.mp h2
      cases h2
      obtain ⟨a, vs, e, h5, h6⟩ := look_ok S2 r1 h3
      subst e
      obtain ⟨b, us, e, h7, h8⟩ := look_ok S2 r2 h4
      subst e
      refine ⟨a, b, vs, us, rfl, .inl ⟨.inl (.inl h5), .inl (.inl h7), q _ H2 m2 s2 S2 ?_⟩⟩
      refine ⟨fun i H' m' st2 s S3 g hi => ?_, fun i H' m' st2 s S3 g hi x H3 y => ?_, fun i H' m' st2 s S3 g hi => ?_⟩
      · obtain ⟨vs', h9, h10⟩ := stp_look S2 r1 h3 h5 h6 s S3 g.1
        obtain ⟨us', h11, h12⟩ := stp_look S2 r2 h4 h7 h8 s S3 g.2
        have hi : i < min as.length bs.length := Nat.lt_of_lt_of_eq hi (hl as bs)
        have hi1 : i < vs'.length := by rw [← h10.length]; omega
        have hi2 : i < us'.length := by rw [← h12.length]; omega
        exact ⟨vs', us', vs'[i], us'[i], .inl (.inl h9), .inl (.inl h11), List.getElem?_eq_getElem hi1, List.getElem?_eq_getElem hi2⟩
      · obtain ⟨vs', h9, h10⟩ := stp_look S2 r1 h3 h5 h6 s S3 g.1
        obtain ⟨us', h11, h12⟩ := stp_look S2 r2 h4 h7 h8 s S3 g.2
        obtain ⟨T, x0, y0, rfl, hT, rfl, hx, hy⟩ := y
        obtain ⟨d1, e1, r3⟩ := h10.getV (hx vs' (.inl (.inl h9)))
        obtain ⟨d2, e2, r4⟩ := h12.getV (hy us' (.inl (.inl h11)))
        obtain ⟨a1, a2, a3⟩ := mk_tup (K := X.K) (z := [d1, d2]) (zs := [x0, y0]) S3 hT (.cons r3 (.cons r4 .nil))
        refine ⟨a1, a2, _, ?_, a3⟩
        show (zipD as bs)[i]? = _
        unfold zipD
        rw [List.getElem?_zipWith, e1, e2]
      · obtain ⟨vs', h9, h10⟩ := stp_look S2 r1 h3 h5 h6 s S3 g.1
        obtain ⟨us', h11, h12⟩ := stp_look S2 r2 h4 h7 h8 s S3 g.2
        have hi : (zipD as bs).length ≤ i := hi
        rw [hl] at hi
        refine ⟨vs', us', .inl (.inl h9), .inl (.inl h11), ?_⟩
        have := h10.length
        have := h12.length
        omega
  · cases h
section
variable {ev : En} {st : Sto}
@[simp] theorem diZipA_eq {a : DA} : diZipA a ev st = (match a ev st with
  | some ([x, y], st1) => (zipSrc st1 x y).map fun s => (s, st1)
  | _ => none) := (rfl)
@[simp] theorem zipSrc_tup {as bs : List Dt} : zipSrc st (.tup as) (.tup bs) = some ⟨zipD as bs, fun _ => True⟩ := (rfl)
@[simp] theorem zipSrc_lst {as bs : List Dt} : zipSrc st (.lst as) (.lst bs) = some ⟨zipD as bs, fun st => look st (.lst as) = some as ∧ look st (.lst bs) = some bs⟩ := (rfl)
end
end PD

/-! ## more plain reckoning -/
namespace PD
open PySem PySem.Spec PyProof.Rows L2
section
variable {ev : En} {st : Sto}
@[simp] theorem intsD_nil : intsD [] = some [] := (rfl)
@[simp] theorem intsD_cons {i : Int} {r : List Dt} : intsD (.int i :: r) = (intsD r).map (i :: ·) := (rfl)
theorem lookI_lst {ds : List Dt} : lookI st (.lst ds) = intsD ds := (rfl)
theorem lookI_look {d : Dt} {ns : List Int} (h : look st d = some (ns.map .int)) : lookI st d = some ns := by
  unfold lookI
  rw [h, Option.bind_some, intsD_map]
@[simp] theorem blsD_nil : blsD [] = some [] := (rfl)
@[simp] theorem blsD_cons {i : Bool} {r : List Dt} : blsD (.bl i :: r) = (blsD r).map (i :: ·) := (rfl)
theorem lookB_lst {ds : List Dt} : lookB st (.lst ds) = blsD ds := (rfl)
theorem lookB_look {d : Dt} {ns : List Bool} (h : look st d = some (ns.map .bl)) : lookB st d = some ns := by
  unfold lookB
  rw [h, Option.bind_some, blsD_map]
theorem gMaxL_of {d : Dt} {x : Int} {r : List Int} (h : lookI st d = some (x :: r)) : gMaxL st [d] = some (.int (maxL (x :: r))) := by
  simp only [gMaxL, h]
theorem gMinL_of {d : Dt} {x : Int} {r : List Int} (h : lookI st d = some (x :: r)) : gMinL st [d] = some (.int (minL (x :: r))) := by
  simp only [gMinL, h]
@[simp] theorem zipD_nil {bs : List Dt} : zipD [] bs = [] := (rfl)
@[simp] theorem zipD_nil2 {as : List Dt} : zipD as [] = [] := by cases as <;> rfl
@[simp] theorem zipD_cons {a b : Dt} {as bs : List Dt} : zipD (a :: as) (b :: bs) = .tup [a, b] :: zipD as bs := (rfl)
@[simp] theorem dLcL_nil {g : DG} {t : DT} {e : DE} {acc : List Dt} : dLcL g t e (fun _ => True) ev [] acc st = some (acc, st) := by simp [dLcL]
theorem dLcL_cons {g : DG} {t : DT} {e : DE} {d : Dt} {ds acc : List Dt} : dLcL g t e (fun _ => True) ev (d :: ds) acc st = (g st d ev).bind fun ev1 => (t ev1 st).bind fun p => if p.1 = true then (e ev1 p.2).bind fun q => if acc.length < 1000000 then dLcL g t e (fun _ => True) ev ds (acc ++ [q.1]) q.2 else none
      else dLcL g t e (fun _ => True) ev ds acc p.2 := by simp [dLcL]
@[simp] theorem dYes_eq : dYes ev st = some (true, st) := (rfl)
theorem dForL_nil {g : DG} {b : DS} : dForL g b (fun _ => True) [] ev st = some (.nx ev st) := by simp [dForL]
theorem dForL_cons {g : DG} {b : DS} {d : Dt} {ds : List Dt} : dForL g b (fun _ => True) (d :: ds) ev st = (g st d ev).bind fun ev1 => (b ev1 st).bind fun o => match o with
      | .nx ev2 st2 => dForL g b (fun _ => True) ds ev2 st2
      | .ct ev2 st2 => dForL g b (fun _ => True) ds ev2 st2
      | .bk ev2 st2 => some (.nx ev2 st2)
      | .rt d st2 => some (.rt d st2) := forL_cons (guard := fun _ => True) trivial
@[simp] theorem ixN_30 : ixN 3 0 = some 0 := by decide
@[simp] theorem ixN_31 : ixN 3 1 = some 1 := by decide
@[simp] theorem ixN_32 : ixN 3 2 = some 2 := by decide
@[simp] theorem atI_31 {α : Type} {a b c : α} : atI [a, b, c] (-1) = some c := by simp [atI, ixN]
@[simp] theorem atI_3m2 {α : Type} {a b c : α} : atI [a, b, c] (-2) = some b := by simp [atI, ixN]
@[simp] theorem atI_3m3 {α : Type} {a b c : α} : atI [a, b, c] (-3) = some a := by simp [atI, ixN]
theorem atI_last {α : Type} {l : List α} {a : α} : atI (l ++ [a]) (-1) = some a := by
  have h : ¬ (0 : Int) ≤ -1 := by decide
  unfold atI ixN
  rw [if_neg h, if_pos (by rw [List.length_append]; simp; omega), Option.bind_some]
  have e : ((-1 : Int) + ((l ++ [a]).length : Nat)).toNat = l.length := by rw [List.length_append]; simp; omega
  rw [e]
  simp
theorem atI_lastOf {α : Type} {l : List α} (h : l ≠ []) : atI l (-1) = some (l.getLast h) := by
  have e := atI_last (l := l.dropLast) (a := l.getLast h)
  rwa [List.dropLast_concat_getLast h] at e
/-! == of lists of numbers -/
theorem eqvAll_ints : ∀ l k : List Int, PyData.eqvAll (l.map PyData.int) (k.map PyData.int) = decide (l = k)
  | [], [] => rfl
  | [], b :: k => by simp [PyData.eqvAll]
  | a :: l, [] => by simp [PyData.eqvAll]
  | a :: l, b :: k => by
    simp only [List.map_cons, PyData.eqvAll, eqvAll_ints l k, List.cons.injEq, Bool.decide_and, PyData.eqv]
    by_cases h : a = b <;> simp [h]
theorem py_intI {f : Nat} {i : Int} : py st f (.int i) = some (.int i) := by cases f <;> simp only [py]
theorem mapO_ints (f : Nat) : ∀ ns : List Int, mapO (py st f) (ns.map .int) = some (ns.map PyData.int)
  | [] => rfl
  | n :: ns => by simp only [List.map_cons, mapO, py_intI, Option.bind_some, mapO_ints f ns, Option.map_some]
theorem py_ints {d : Dt} {ns : List Int} {f : Nat} (h : look st d = some (ns.map .int)) : py st (f + 1) d = some (.list (ns.map PyData.int)) := by
  cases d <;> simp only [look, reduceCtorEq] at h
  · cases h
    simp only [py, mapO_ints, Option.map_some]
  · split at h
    · rename_i k xs e
      cases h
      simp only [py, e, mapO_ints, Option.map_some]
    · cases h
theorem gEq_ints {d e : Dt} {ns ms : List Int} (h : look st d = some (ns.map .int)) (h2 : look st e = some (ms.map .int)) : gEq st d e = some (.bl (decide (ns = ms))) := by
  simp only [gEq, py_ints h, py_ints h2, Option.bind_some, Option.map_some, PyData.eqv, eqvAll_ints]
theorem gNe_ints {d e : Dt} {ns ms : List Int} (h : look st d = some (ns.map .int)) (h2 : look st e = some (ms.map .int)) : gNe st d e = some (.bl (!decide (ns = ms))) := by
  simp only [gNe, py_ints h, py_ints h2, Option.bind_some, Option.map_some, PyData.eqv, eqvAll_ints]
end
end PD

/-! ## more statements and expressions -/
namespace PD
open PySem PySem.Spec PyProof.Rows L2
variable {X : Cx}
theorem Reps.three {K : PySem.W.Frag} {H : Hp} {m : MM} {d e f : Dt} {vs : List V} (h : Reps K H m [d, e, f] vs) : ∃ v u w, vs = [v, u, w] ∧ Rep K H m d v ∧ Rep K H m e u ∧ Rep K H m f w := by
  cases h with
  | cons r t =>
    obtain ⟨u, w, rfl, r2, r3⟩ := t.two
    exact ⟨_, u, w, rfl, r, r2, r3⟩
def dPar3 (i j l : Nat) (a : DA) : DS := fun ev st => match a ev st with
  | some ([d, e, f], st1) => some (.nx (((ev.set i (some d)).set j (some e)).set l (some f)) st1)
  | _ => none
theorem pds_par3 {i j l : Nat} {x y z : Str} {a b c : Expr} {da : DA} {px py pz pt pos : Pos} {kt k2 pt2} (hc : X.calm = true) (hN : X.N.Nodup) (hi : X.N[i]? = some x) (hj : X.N[j]? = some y) (hl : X.N[l]? = some z) (hij : i ≠ j) (hil : i ≠ l) (hjl : j ≠ l)
    (hx : X.env.scope.names.lookup x = some .local) (hy : X.env.scope.names.lookup y = some .local) (hz : X.env.scope.names.lookup z = some .local) (ha : PDA X [a, b, c] da)
    (hw : swappedStores [.Tuple [.Name x px, .Name y py, .Name z pz] kt pt] (.Tuple [a, b, c] k2 pt2) X.env = pure (some [x, y, z]))
    (hs : swapsWithSole [.Tuple [.Name x px, .Name y py, .Name z pz] kt pt] (.Tuple [a, b, c] k2 pt2) pos.line X.env = pure false := by rfl) :
    PDS X (.Assign [.Tuple [.Name x px, .Name y py, .Name z pz] kt pt] (.Tuple [a, b, c] k2 pt2) pos) (dPar3 i j l da) := by
  obtain ⟨ta, pa, sa⟩ := ha
  refine ⟨_, ps_par3 hc hN hi hj hl hij hil hjl hx hy hz pa hw hs, fun σ H m ev st o S E h D q => ?_⟩
  unfold dPar3 at h
  split at h
  · rename_i d e f st1 h1
    cases h
    refine sa σ H m ev st _ _ S E h1 _ fun vs H1 m1 s1 S1 r1 => ?_
    obtain ⟨v, u, w, rfl, ra, rb, rc⟩ := r1.three
    exact ⟨v, u, w, rfl, q _ H1 m1 s1 S1 ((((E.stp s1).set ra i).set rb j).set rc l)⟩
  · cases h
@[simp] theorem dPar3_eq {i j l : Nat} {a : DA} {ev : En} {st : Sto} : dPar3 i j l a ev st = (match a ev st with
  | some ([d, e, f], st1) => some (.nx (((ev.set i (some d)).set j (some e)).set l (some f)) st1)
  | _ => none) := (rfl)
/-! xs[::-1] -/
def dRev (e : DE) : DE := fun ev st => (e ev st).bind fun p => (look p.2 p.1).map fun ds => (.lst ds.reverse, p.2)
theorem pd_rev {e : Expr} {de : DE} {k : Nat} {p1 p2 p3 pos : Pos} (he : PD X e de) : PD X (.Subscript e (.Slice none none (some (.UnaryOp .USub (.Constant (.int 1) k p1) p2)) p3) pos) (dRev de) := by
  obtain ⟨te, pe, se⟩ := he
  refine ⟨_, pe_revL pe, fun σ H m ev st d st' S E h Q q => ?_⟩
  unfold dRev at h
  obtain ⟨⟨x, st1⟩, h1, h⟩ := Option.bind_eq_some_iff.mp h
  obtain ⟨ds, h2, h⟩ := Option.map_eq_some_iff.mp h
  cases h
  refine se σ H m ev st x _ S E h1 _ fun v1 H1 m1 s1 S1 r1 => ?_
  obtain ⟨a, vs, rfl, h3, h4⟩ := look_ok S1 r1 h2
  refine ⟨a, vs, rfl, .inl (.inl h3), fun p hp => ?_⟩
  obtain ⟨a1, a2, a3⟩ := mk_lst S1 hp h4.reverse
  exact q _ _ _ (s1.trans a1) a2 a3
@[simp] theorem dRev_eq {e : DE} {ev : En} {st : Sto} : dRev e ev st = (e ev st).bind fun p => (look p.2 p.1).map fun ds => (.lst ds.reverse, p.2) := (rfl)
/-! range with a step -/
def rngC (lo c : Int) (n : Nat) : List Dt := (List.range n).map fun i => .int (lo + (i : Nat) * c)
def diRng3 (a : DA) : DI := fun ev st => match a ev st with
  | some ([.int i, .int j, .int c], st1) => if c ≠ 0 ∧ c.natAbs < 1073741824 ∧ Builtin.Range.small i j c = true then some (srcC (rngC i c (Builtin.Range.rangeSize i j c).toNat), st1) else none
  | _ => none
theorem rngC_get {lo c : Int} {n i : Nat} (h : i < n) : (rngC lo c n)[i]? = some (.int (lo + (i : Nat) * c)) := by
  unfold rngC
  rw [List.getElem?_map, List.getElem?_range h] <;> rfl
theorem rngC_len (lo c : Int) (n : Nat) : (rngC lo c n).length = n := by unfold rngC; rw [List.length_map, List.length_range]
theorem pdi_rng3 {tg a b c : Expr} {da : DA} {p pos : Pos} (hg : Gl X "range") (hm : X.mg "range" = none) (ha : PDA X [a, b, c] da)
    (hs : starEach [a, b, c] X.env = (false, eval a X.env) :: starEach [b, c] X.env := by rfl) (hpl : (backTo pos (starEach [b, c] X.env)).any (·.1) = false := by rfl) :
    PDI X tg (.Call (.Name "range" p) [a, b, c] [] pos) (diRng3 da) := by
  obtain ⟨t, pa, sa⟩ := ha
  refine ⟨_, pi_range3 hg hm pa hs hpl, fun σ H m ev st sr st' S E h R q => ?_⟩
  unfold diRng3 at h
  split at h
  · rename_i i j c st1 h1
    split at h
    · rename_i hc
      cases h
      refine sa σ H m ev st _ _ S E h1 _ fun vs H1 m1 s1 S1 r1 => ?_
      obtain ⟨v, u, w, rfl, ra, rb, rc⟩ := r1.three
      cases ra
      cases rb
      cases rc
      refine ⟨i, j, c, (Builtin.Range.rangeSize i j c).toNat, rfl, ⟨hc.1, hc.2.1, hc.2.2, PyProof.Rows.rangeSize_toNat i j c⟩, q _ H1 m1 s1 S1 ?_⟩
      refine ⟨fun i' H' m' st2 s S3 g hi => ?_, fun i' H' m' st2 s S3 g hi x H3 y => ?_, fun i' H' m' st2 s S3 g hi => ?_⟩
      · exact Nat.lt_of_lt_of_eq hi (rngC_len _ _ _)
      · obtain ⟨rfl, rfl⟩ := y
        exact ⟨Stp.refl _ _, S3, _, rngC_get (Nat.lt_of_lt_of_eq hi (rngC_len _ _ _)), .int _⟩
      · have hi : (rngC i c (Builtin.Range.rangeSize i j c).toNat).length ≤ i' := hi
        rw [rngC_len] at hi
        exact hi
    · cases h
  · cases h
@[simp] theorem diRng3_eq {a : DA} {ev : En} {st : Sto} : diRng3 a ev st = (match a ev st with
  | some ([.int i, .int j, .int c], st1) => if c ≠ 0 ∧ c.natAbs < 1073741824 ∧ Builtin.Range.small i j c = true then some (srcC (rngC i c (Builtin.Range.rangeSize i j c).toNat), st1) else none
  | _ => none) := (rfl)
end PD

/-! ## dicts: keys are tuples of ints, each value is True -/
namespace PD
open PySem PySem.Spec PyProof.Rows L2
variable {X : Cx} {K : PySem.W.Frag}
theorem hu1 {k : Nat} {A : Around} (hr : Room k A) : A.units + 1 < cLine := Nat.lt_of_le_of_lt (by omega) (hu64 hr)
def kvT (ks : List (List Int)) : List (List Key × V) := ks.map fun k => (k.map Sum.inl, V.bl true)
theorem kV_ints (k : List Int) : (k.map (Sum.inl : Int → Key)).map kV = k.map V.int := by
  rw [List.map_map]
  rfl
theorem inl_inj {a b : List Int} : a.map (Sum.inl : Int → Key) = b.map Sum.inl ↔ a = b := List.map_inj_right fun a b h => Sum.inl.inj h
theorem valV_kvT (k : List Int) : ∀ ks : List (List Int), (valV (kvT ks) (k.map Sum.inl)).isSome = decide (k ∈ ks)
  | [] => by simp [kvT, valV]
  | x :: ks => by
    have ih := valV_kvT k ks
    by_cases h : x = k
    · subst h
      have : valV (kvT (x :: ks)) (x.map Sum.inl) = some (V.bl true) := valV_pos rfl
      rw [this]
      simp
    · have h2 : ¬ x.map (Sum.inl : Int → Key) = k.map Sum.inl := fun e => h (inl_inj.mp e)
      have : valV (kvT (x :: ks)) (k.map Sum.inl) = valV (kvT ks) (k.map Sum.inl) := valV_neg h2
      rw [this, ih]
      have h3 : ¬ k = x := fun e => h e.symm
      simp [h3]
def putS (ks : List (List Int)) (k : List Int) : List (List Int) := if k ∈ ks then ks else ks ++ [k]
theorem putK_kvT (ks : List (List Int)) (k : List Int) : putK (kvT ks) (k.map Sum.inl) (V.bl true) = kvT (putS ks k) := by
  unfold putK putS
  rw [valV_any, valV_kvT]
  by_cases h : k ∈ ks
  · rw [decide_eq_true h, if_pos rfl, if_pos h]
    unfold kvT
    rw [List.map_map]
    refine List.map_congr_left fun x _ => ?_
    simp only [Function.comp]
    split <;> rfl
  · rw [decide_eq_false h, if_neg Bool.false_ne_true, if_neg h]
    unfold kvT
    rw [List.map_append]
    rfl
/-! {} -/
def dDcs0 : DE := fun ev st => some (.ptr st.length, st ++ [.dcs []])
theorem pd_dcs0 {pos : Pos} : PD X (.Dict [] [] pos) dDcs0 := ⟨_, pe_dnewT, fun σ H m ev st d st' S E h Q q => by
  cases h
  intro p hp
  exact q (.ref p) _ (m.add p) (Stp.newM S hp) (S.newM hp upd_same) (.ptr (by rw [← S.len]; simp [MM.add]))⟩
/-- where the pointer leads -/
theorem dcs_at {H : Hp} {m : MM} {st : Sto} {k : Nat} {v : V} {ks : List (List Int)} (S : StR K H m st) (r : Rep K (hid H m) m (.ptr k) v) (h : st[k]? = some (.dcs ks)) : ∃ a, v = .ref a ∧ m.m[k]? = some a ∧ H a = some (.dT (kvT ks)) := by
  cases r with
  | @ptr _ a h1 => exact ⟨a, rfl, h1, S.ok k a _ h1 h⟩
theorem key_at {H : Hp} {m : MM} {d : Dt} {v : V} {k : List Int} (r : Rep K (hid H m) m d v) (h : keyD d = some k) : ∃ a, v = .ref a ∧ H a = some (.tup ((k.map (Sum.inl : Int → Key)).map kV)) := by
  obtain ⟨a, e, h1, _⟩ := keyD_ok r h
  exact ⟨a, e, by rw [kV_ints]; exact hid_ext _ _ _ _ h1⟩
/-! k in d, k not in d -/
def rInC : R2 := fun x y H Q => ∃ a o, y = .ref a ∧ DGet H a x o ∧ Q (.bl o.isSome) H
def rNotInC : R2 := fun x y H Q => ∃ a o, y = .ref a ∧ DGet H a x o ∧ Q (.bl (!o.isSome)) H
theorem op_inC (hu : X.A.units + 1 < cLine) : OpR X (compareOp .In) rInC := by
  intro pins s σ H x y v u Q I rx ry h
  obtain ⟨a, o, rfl, g, q⟩ := h
  obtain rfl : u = Value.ref a := ry
  exact d_in hu I g rx fun s3 I3 => ⟨.bl o.isSome, H, I3, rfl, q⟩
theorem op_notInC (hu : X.A.units + 1 < cLine) : OpR X (compareOp .NotIn) rNotInC := by
  intro pins s σ H x y v u Q I rx ry h
  obtain ⟨a, o, rfl, g, q⟩ := h
  obtain rfl : u = Value.ref a := ry
  exact d_notIn hu I g rx fun s3 I3 => ⟨.bl (!o.isSome), H, I3, rfl, q⟩
def gInC : Sto → Dt → Dt → Option Dt := fun st d e => match keyD d, e with
  | some k, .ptr p => match st[p]? with
    | some (.dcs ks) => some (.bl (decide (k ∈ ks)))
    | _ => none
  | _, _ => none
def gNotInC : Sto → Dt → Dt → Option Dt := fun st d e => match keyD d, e with
  | some k, .ptr p => match st[p]? with
    | some (.dcs ks) => some (.bl (!decide (k ∈ ks)))
    | _ => none
  | _, _ => none
theorem rs_inC : RS K rInC gInC := by
  intro H m st d e z x y S rx ry h Q q
  unfold gInC at h
  split at h
  · rename_i k p hk
    split at h
    · rename_i ks hks
      cases h
      obtain ⟨a, rfl, _, h2⟩ := dcs_at S ry hks
      obtain ⟨b, rfl, h3⟩ := key_at rx hk
      refine ⟨a, _, rfl, DGet.t h2 h3, ?_⟩
      rw [valV_kvT]
      exact q _ H (Stp.refl _ _) S (.bl _)
    · cases h
  · cases h
theorem rs_notInC : RS K rNotInC gNotInC := by
  intro H m st d e z x y S rx ry h Q q
  unfold gNotInC at h
  split at h
  · rename_i k p hk
    split at h
    · rename_i ks hks
      cases h
      obtain ⟨a, rfl, _, h2⟩ := dcs_at S ry hks
      obtain ⟨b, rfl, h3⟩ := key_at rx hk
      refine ⟨a, _, rfl, DGet.t h2 h3, ?_⟩
      rw [valV_kvT]
      exact q _ H (Stp.refl _ _) S (.bl _)
    · cases h
  · cases h
/-! len(d) -/
def gLenC : Sto → List Dt → Option Dt := fun st ds => match ds with
  | [.ptr p] => match st[p]? with
    | some (.dcs ks) => some (.int ks.length)
    | _ => none
  | _ => none
theorem rc_lenC : RCS K rLenT gLenC := by
  intro H m st ds z xs S rs h Q q
  unfold gLenC at h
  split at h
  · rename_i p
    split at h
    · rename_i ks hks
      cases h
      obtain ⟨v, rfl, r⟩ := rs.one
      obtain ⟨a, rfl, _, h2⟩ := dcs_at S r hks
      refine ⟨a, _, rfl, h2, ?_⟩
      have e : (kvT ks).length = ks.length := by unfold kvT; rw [List.length_map]
      rw [e]
      exact q _ H (Stp.refl _ _) S (.int _)
    · cases h
  · cases h
/-! d[k] = True -/
def dDput (o i : DE) : DS := fun ev st => (o ev st).bind fun p => (i ev p.2).bind fun q => match p.1, keyD q.1 with
  | .ptr k, some key => match q.2[k]? with
    | some (.dcs ks) => if ks.length < 1000000 then some (.nx ev (q.2.set k (.dcs (putS ks key)))) else none
    | _ => none
  | _, _ => none
theorem pds_dput {o i : Expr} {d_o di : DE} {j : Nat} {pos pos' p2 : Pos} (hu : X.A.units + 1 < cLine) (ho : PD X o d_o) (hi : PD X i di) (hs : swapsWith (.Constant (.bool true) j p2) (some (.Subscript o i pos')) pos.line X.env = pure false := by rfl) :
    PDS X (.Assign [.Subscript o i pos'] (.Constant (.bool true) j p2) pos) (dDput d_o di) := by
  obtain ⟨to, po, so⟩ := ho
  obtain ⟨ti, pi, si⟩ := hi
  refine ⟨_, ps_dput hu po pi pe_bl hs, fun σ H m ev st o S E h D q => ?_⟩
  unfold dDput at h
  obtain ⟨⟨x, st1⟩, h1, h⟩ := Option.bind_eq_some_iff.mp h
  obtain ⟨⟨y, st2⟩, h2, h⟩ := Option.bind_eq_some_iff.mp h
  have hh := h
  clear h
  simp only at hh
  split at hh
  · rename_i k key e2
    split at hh
    · rename_i ks e3
      split at hh
      · rename_i hl
        cases hh
        refine so σ H m ev st _ _ S E h1 _ fun v1 H1 m1 s1 S1 r1 => ?_
        refine si σ H1 m1 ev st1 _ _ S1 (E.stp s1) h2 _ fun v2 H2 m2 s2 S2 r2 => ?_
        obtain ⟨a, rfl, ha, h3⟩ := dcs_at S2 (s2.rep r1) e3
        obtain ⟨b, rfl, h4⟩ := key_at r2 e2
        refine ⟨a, _, rfl, DPut.t h3 h4 (by unfold kvT; rw [List.length_map]; exact Nat.lt_of_lt_of_le hl (size1m (Nat.le_refl _))), ?_⟩
        rw [putK_kvT]
        have s3 : Stp H2 m2 (upd H2 a (.dT (kvT (putS ks key)))) m2 := Stp.mut S2 ha
        exact q σ _ m2 ((s1.trans s2).trans s3) (StR.mut S2 ha upd_same) (E.stp ((s1.trans s2).trans s3))
      · cases hh
    · cases hh
  · cases hh
section
variable {ev : En} {st : Sto}
@[simp] theorem dDcs0_eq : dDcs0 ev st = some (.ptr st.length, st ++ [.dcs []]) := (rfl)
@[simp] theorem dDput_eq {o i : DE} : dDput o i ev st = (o ev st).bind fun p => (i ev p.2).bind fun q => match p.1, keyD q.1 with
  | .ptr k, some key => match q.2[k]? with
    | some (.dcs ks) => if ks.length < 1000000 then some (.nx ev (q.2.set k (.dcs (putS ks key)))) else none
    | _ => none
  | _, _ => none := (rfl)
theorem gInC_eq {d : Dt} {k : List Int} {p : Nat} {ks : List (List Int)} (hk : keyD d = some k) (h : st[p]? = some (.dcs ks)) : gInC st d (.ptr p) = some (.bl (decide (k ∈ ks))) := by
  simp only [gInC, hk, h]
theorem gNotInC_eq {d : Dt} {k : List Int} {p : Nat} {ks : List (List Int)} (hk : keyD d = some k) (h : st[p]? = some (.dcs ks)) : gNotInC st d (.ptr p) = some (.bl (!decide (k ∈ ks))) := by
  simp only [gNotInC, hk, h]
theorem gLenC_eq {p : Nat} {ks : List (List Int)} (h : st[p]? = some (.dcs ks)) : gLenC st [.ptr p] = some (.int ks.length) := by
  simp only [gLenC, h]
theorem finM_dcs {ks : List (List Int)} {g : Sto} : finM st (.ptr st.length) (st ++ .dcs ks :: g) = some (.ptr st.length, st ++ [.dcs ks]) := by
  simp [finM, okSto_app, lowMO]
end
theorem putS_mem {ks : List (List Int)} {k x : List Int} : x ∈ putS ks k ↔ x = k ∨ x ∈ ks := by
  unfold putS
  split
  · rename_i h
    exact ⟨.inr, fun z => z.elim (fun e => by rw [e]; exact h) id⟩
  · simp only [List.mem_append, List.mem_singleton]
    exact ⟨fun z => z.elim .inr .inl, fun z => z.elim .inr .inl⟩
theorem putS_nodup {ks : List (List Int)} {k : List Int} (h : ks.Nodup) : (putS ks k).Nodup := by
  unfold putS
  split
  · exact h
  · rename_i hk
    exact List.nodup_append.mpr ⟨h, by simp, fun a ha b hb e => hk (by rw [List.mem_singleton.mp hb] at e; rw [← e]; exact ha)⟩
theorem putS_len {ks : List (List Int)} {k : List Int} : (putS ks k).length ≤ ks.length + 1 := by
  unfold putS
  split
  · omega
  · simp
/-! ## < of tuples of ints -/
theorem hu0 {k : Nat} {A : Around} (hr : Room k A) : A.units < cLine := Nat.lt_of_le_of_lt (by omega) (hu64 hr)
def rLtA (K : PySem.W.Frag) : R2 := fun x y H Q => (rI0 fun i j => .bl (decide (i < j))) x y H Q ∨ rLtT K x y H Q
theorem op_ltA (hu : X.A.units < cLine) : OpR X (compareOp .Lt) (rLtA X.K) := op_lt.or (op_ltT hu)
def gLtA : Sto → Dt → Dt → Option Dt := fun st d e => match gLt st d e with
  | some z => some z
  | none => match keyD d, keyD e with
    | some k, some l => some (.bl (HT.lexLt k l))
    | _, _ => none
theorem rs_ltA : RS K (rLtA K) gLtA := by
  intro H m st d e z x y S rx ry h Q q
  unfold gLtA at h
  split at h
  · rename_i e1
    cases h
    exact .inl (rs_lt H m st d e _ x y S rx ry e1 Q q)
  · split at h
    · rename_i k l e1 e2
      cases h
      obtain ⟨a, rfl, h1, _⟩ := keyD_ok rx e1
      obtain ⟨b, rfl, h2, _⟩ := keyD_ok ry e2
      exact .inr ⟨a, b, k, l, rfl, rfl, TupAt.sq (hid_ext _ _ _ _ h1), TupAt.sq (hid_ext _ _ _ _ h2), q _ H (Stp.refl _ _) S (.bl _)⟩
    · cases h
@[simp] theorem gLtA_2 {st : Sto} {a b c d : Int} : gLtA st (.tup [.int a, .int b]) (.tup [.int c, .int d]) = some (.bl (if a = c then (if b = d then false else decide (b < d)) else decide (a < c))) := (rfl)
@[simp] theorem gLtA_int {st : Sto} {a b : Int} : gLtA st (.int a) (.int b) = some (.bl (decide (a < b))) := (rfl)
end PD

namespace PD
open PySem PySem.Spec PyProof.Rows L2

/-! ## an exception that a suite holds, as a thing that is followed -/
abbrev heldO (oe : Obj) : HO := .frz oe (.ext fun _ => True)
section
variable {X : Cx} {pins : List (Addr × Obj)} {σ : L2.St} {H : Hp} {s : Shared} {a : Addr} {oe : Obj} {vs : Array Value}
theorem inv_track (J : Inv X pins σ H s) (ha : s.heap.get? a = some oe) (hd : oe.data = .fields vs) (na : H a = none) (nL : a ≠ X.env.locals) (n0 : X.s_0.heap.get? a = none)
    (np : ∀ p ∈ X.pn ++ pins, p.1 ≠ a) : Inv X pins σ (upd H a (heldO oe)) s := by
  have keepS : ∀ {b : Addr} {o : HO}, H b = some o → upd H a (heldO oe) b = some o := fun {b o} e => (upd_ne (ne_of_none e na)).trans e
  have same : ∀ b u, s.heap.get? b = some u → s.heap.get? b = some u := fun _ _ e => e
  constructor
  · exact J.ok
  · exact J.os
  · exact J.bare
  · constructor
    · exact J.base.keep
    · exact J.base.slot
    · intro b o e n hx
      have hne : b ≠ a := fun z => by rw [z, n0] at e; cases e
      rw [upd_ne hne]
      exact J.base.free b o e n hx
    · exact J.base.there
    · intro b xs e
      exact keepS (J.base.tups b xs e)
    · intro b o u e
      exact keepS (J.base.frzs b o u e)
    · intro b ps e
      obtain ⟨more, z⟩ := J.base.tbls b ps e
      exact ⟨more, keepS z⟩
  · exact J.loc
  · exact J.cell
  · rw [upd_ne (Ne.symm nL)]
    exact J.free
  · intro x c e
    obtain ⟨v, o, h1, h2⟩ := J.cell x c e
    have hne : c ≠ a := fun z => by
      rw [z, ha] at h1
      cases h1
      rw [hd] at h2
      cases h2
    rw [upd_ne hne]
    exact J.freeC x c e
  · intro p hp
    obtain ⟨h1, h2, h3⟩ := J.pin p hp
    exact ⟨h1, by rw [upd_ne (np p hp)]; exact h2, h3⟩
  · intro b o e
    by_cases hb : b = a
    · subst hb
      rw [upd_same] at e
      cases e
      exact ⟨ha, trivial, ⟨oe, ha⟩, fun _ _ _ _ => trivial⟩
    · rw [upd_ne hb] at e
      exact (J.hok b o e).stay (fun c u _ q => same c u q) (fun c q => keepS q) (fun c xs q => keepS q)
  · exact J.len
/-- into a suite, out of it -/
theorem inv_in (J : Inv X pins σ H s) (a : Addr) : Inv (X.suite a X.pn) pins σ H s :=
  ⟨J.ok.suite a X.pn, J.os, J.bare, J.base, J.loc, J.cell, J.free, J.freeC, J.pin, J.hok, J.len⟩
theorem inv_out (J : Inv (X.suite a X.pn) pins σ H s) (ok : X.Ok) : Inv X pins σ H s :=
  ⟨ok, J.os, J.bare, J.base, J.loc, J.cell, J.free, J.freeC, J.pin, J.hok, J.len⟩
end
/-- an end of a suite: the slot of its name is free -/
def endsBut (i : Nat) (D : Ends) : Ends where
  nx := fun τ G => D.nx (τ.set i none) G
  rt := D.rt
  bk := fun τ G => D.bk (τ.set i none) G
  ct := fun τ G => D.ct (τ.set i none) G
/-- what a clause 'except c as ..' (slot i) wishes: its suite runs with the exception followed -/
def wHeld (K : PySem.W.Frag) (c : Value) (i : Nat) (ts : Addr → TS) (Wout : WX) (D : Ends) : WX := fun cls d τ G =>
  ∃ b, PySem.W.exmOne K cls c = some b ∧ (b = false → Wout cls d τ G) ∧
    (b = true → ∀ (a : Addr) (oe : Obj), G a = none → Zc cls d oe → (∃ vs, oe.data = .fields vs) → ts a (endsBut i D) (τ.set i (some (.ref a))) (upd G a (heldO oe)))
section
variable {X : Cx} {x n : Str} {c : Value} {i : Nat} {body suite : List Stmt} {st0 : Stmt} {np pos pos' : Pos} {tb : WX → TS} {ts : Addr → TS} {Wout : WX}
theorem ps_try_held (hstk : X.stack = X.env :: X.outer) (hfr0 : X.env.frame = some X.env.locals) (hex : X.ex = []) (hN : X.N.Nodup) (hi : X.N[i]? = some n) (hln : X.env.kindOf n = some .local) (hc : Names X x c) (tk : Takes X Wout)
    (hbody : ∀ (W : WX) (pn : List (Addr × Obj)) (xe : Value → Shared → Prop), Takes (X.tr pn xe) W → PassesOwn (model X.prog X.w) X.A X.env xe → PSs (X.tr pn xe) body (tb W))
    (hsuite : ∀ a : Addr, PSs (X.suite a X.pn) (st0 :: suite) (ts a)) :
    PS X (.Try body [.ExceptHandler (some (.Name x np)) (some n) (st0 :: suite) pos'] [] [] pos) (fun D τ G => tb (wHeld X.K c i ts Wout D) D τ G) := by
  constructor
  intro pins s σ H D I h
  have okX := I.ok
  have frames : X.A.frames = some (X.env :: X.outer) := okX.frames.trans (by rw [hstk])
  have visN : Loc X.env.scope n := Or.inl hln
  apply wpAny_Try_except
  have runBody := (hbody (wHeld X.K c i ts Wout D) (X.pn ++ pins)
    (fun e z1 => wpAny (model X.prog X.w) X.A (noteFrame e X.env) (fun _ z2 => wpAny (model X.prog X.w) X.A (setFlight e none)
      (fun _ z3 => wpAny (model X.prog X.w) X.A (handleBy e X.env [.ExceptHandler (some (.Name x np)) (some n) (st0 :: suite) pos']) (SP X pins D) X.xe z3) X.xe z2) X.xe z1) ?_ PassesOwn.looking).run [] s σ H D (I.toTry _) h
  · refine wpAny_mono runBody ?_ (fun e z he => he)
    intro fl z hz
    cases fl with
    | next => obtain ⟨τ, G, J, q⟩ := hz; exact wpAny_execs_nil ⟨τ, G, J.ofTry okX, q⟩
    | brk => obtain ⟨τ, G, J, q⟩ := hz; exact ⟨τ, G, J.ofTry okX, q⟩
    | cont => obtain ⟨τ, G, J, q⟩ := hz; exact ⟨τ, G, J.ofTry okX, q⟩
    | ret u => obtain ⟨v, τ, G, J, r, q⟩ := hz; exact ⟨v, τ, G, J.ofTry okX, r, q⟩
  · -- what flies out of the body
    intro u z air
    obtain ⟨a, B, sI, pins2, τ, G, cls, d, rfl, JI, ground, up0, sky0, freeA, osEq, bareZ, b, hb, hPass, hHold⟩ := air
    have JX : Inv X pins τ G sI := JI.ofTry okX
    rw [hstk] at sky0
    show wpAny (model X.prog X.w) X.A (noteFrame (.ref a) X.env) _ _ _
    refine Sky.land Zc.steady frames hfr0 sky0 ?_
    intro h3 fly3 up3
    have J3 : Inv X pins τ G { z with heap := h3 } := JX.landed ground fly3.1 (up0.trans up3) osEq bareZ
    obtain ⟨oe3, vs3, at3, zc3, dat3⟩ := fly3.there
    have noFrame : ∀ {hh : Heap} {o : Obj} {ws : Array Value}, hh.FunFrames B (X.env :: X.outer) → hh.get? a = some o → o.data = .fields ws → a ∉ frs (X.env :: X.outer) := by
      intro hh o ws ff e dd hm
      obtain ⟨_, o', e', nof⟩ := ff.mem hm
      rw [e] at e'
      cases e'
      exact nof _ dd
    have aFr : a ∉ frs (X.env :: X.outer) := noFrame fly3.2.2.1 at3 dat3
    have aL : a ≠ X.env.locals := fun q => aFr (List.mem_filterMap.mpr ⟨X.env, List.mem_cons_self, hfr0.trans (by rw [q])⟩)
    -- it is none of what stood before
    have aI : sI.heap.get? a = none := by
      cases q : sI.heap.get? a with
      | none => rfl
      | some o =>
        have inB := ground a o q (by rw [hstk]; exact aFr)
        rw [fly3.2.1] at inB
        cases inB
    have a0 : X.s_0.heap.get? a = none := by
      cases q : X.s_0.heap.get? a with
      | none => rfl
      | some o =>
        obtain ⟨o', e'⟩ := JX.base.there a o q (by rw [hex]; exact fun w => nomatch w)
        rw [aI] at e'
        cases e'
    have aP : ∀ p ∈ X.pn ++ pins, p.1 ≠ a := fun p hp e => by
      obtain ⟨h1, _⟩ := JX.pin p hp
      rw [e, aI] at h1
      cases h1
    have S3 := inv_in J3 a
    refine wpAny_handleBy_cons (codeAny_handlers_test ?_) (fun q => by cases q)
    have typ : PySem.W.Looks (model X.prog X.w) h3 (typeOf (.ref a)) cls := fun A Q E s' k q => wpAny_typeOf_ref (k _ _ at3) (zc3.1.symm ▸ q)
    have fits := PySem.W.exm_one (M := model X.prog X.w) J3.kIn typ hb
    have theClass : ∀ {Q : Value → Shared → Prop} {E : Value → Shared → Prop}, Q c { z with heap := h3 } → wpAny (model X.prog X.w) (X.A.mark (some (.ref a))) (eval (.Name x np) X.env) Q E { z with heap := h3 } := by
      intro Q E q
      obtain ⟨hg, hdb, hm⟩ := hc
      rcases hm with hm | ⟨hm, hv, hnn⟩
      · exact ld_glob (X := X.suite a X.pn) S3 hg hm q hdb
      · exact ld_blt (X := X.suite a X.pn) S3 hg hm hv q hnn hdb
    refine theClass (fits.here ?_)
    cases b with
    | true =>
      refine codeAny_handlers_suite_as ?_
      refine HandSPX.lands_againZ fly3 ?_
      intro h4 fly4 up4
      have J4 : Inv X pins τ G { z with heap := h4 } := JX.landed ground fly4.1 ((up0.trans up3).trans up4) osEq bareZ
      obtain ⟨oe4, vs4, at4, zc4, dat4⟩ := fly4.there
      have T4 := inv_in (inv_track J4 at4 dat4 freeA aL a0 aP) a
      refine store_ok (X := X.suite a X.pn) (v := .ref a) T4 hN hi visN rfl ?_ (Or.inr hln)
      intro s5 S5
      refine wpAny_mono ((hsuite a).run pins s5 _ _ _ S5 (hHold rfl a oe4 freeA zc4 ⟨_, dat4⟩)) ?_ (fun _ _ w => w.elim)
      intro fl s6 hz
      have close : ∀ {τ6 : L2.St} {G6 : Hp} {Q : Shared → Prop}, Inv (X.suite a X.pn) pins τ6 G6 s6 → (∀ s7, Inv X pins (τ6.set i none) G6 s7 → Q s7) →
          wpAny (model X.prog X.w) X.A (do bindName X.env n .none; unbindBehindTheSuite X.env n pos') (fun _ s7 => Q s7) X.xe s6 := by
        intro τ6 G6 Q S6 hq
        exact gone_ok (inv_out S6 okX) hN hi hln hq
      cases fl with
      | next => obtain ⟨τ6, G6, S6, q6⟩ := hz; exact close S6 fun s7 J7 => ⟨_, _, J7, q6⟩
      | brk => obtain ⟨τ6, G6, S6, q6⟩ := hz; exact close S6 fun s7 J7 => ⟨_, _, J7, q6⟩
      | cont => obtain ⟨τ6, G6, S6, q6⟩ := hz; exact close S6 fun s7 J7 => ⟨_, _, J7, q6⟩
      | ret u => obtain ⟨v6, τ6, G6, S6, r6, q6⟩ := hz; exact close S6 fun s7 J7 => ⟨_, _, _, J7, r6, q6⟩
    | false =>
      show wpAny _ X.A (handleBy (.ref a) X.env []) _ _ _
      refine wpAny_handleBy_nil ?_
      obtain ⟨_, _, _, o, ws, T, _, _, e1, _, e2, e3, _⟩ := id fly3
      unfold PySem.passOn
      refine wpAny_bind (wpAny_field e1 e2 e3 ?_)
      have tNone : ¬ ((Value.ref T == Value.none) = true) := by simp
      rw [if_neg tNone]
      have goOn : wpAny (model X.prog X.w) X.A (setFlight (.ref a) X.env.frame) (fun _ z4 => wpAny (model X.prog X.w) X.A (throw (.ref a) : Sem Flow) (SP X pins D) X.xe z4) X.xe { z with heap := h3 } := by
        rw [hfr0]
        refine HandSPX.setFlight_upZ fly3 ?_
        intro h4 held4 up4
        refine wpAny_throw (tk _ _ ?_)
        exact ⟨a, B, sI, pins, τ, G, cls, d, rfl, JX, ground, (up0.trans up3).trans up4, Or.inr (Or.inr (hstk ▸ held4)), freeA, osEq, bareZ, hPass rfl⟩
      first
        | exact wpAny_bind (wpAny_pure (wpAny_bind goOn))
        | exact wpAny_bind goOn
end
end PD

namespace PD
open PySem PySem.Spec PyProof.Rows L2

/-! ## denotations that may raise -/
inductive OutX where
  | o (x : Out) | ex (n : Str) (ev : En) (st : Sto)
abbrev DSX := En → Sto → Option OutX
/-- a value, or an exception of the class that the top names so -/
abbrev RX (α : Type) := (α × Sto) ⊕ (Str × Sto)
abbrev DEX := En → Sto → Option (RX Dt)
abbrev DAX := En → Sto → Option (RX (List Dt))
abbrev DFX := List Dt → Sto → Option (RX Dt)
def ExOk (X : Cx) (W : WX) (σ : L2.St) (H : Hp) (m : MM) (n : Str) (st : Sto) : Prop := ∀ H' m' C, Stp H m H' m' → StR X.K H' m' st → X.mg n = some (.ref C) → W (.ref C) none σ H'
def OutOkX (X : Cx) (W : WX) (H : Hp) (m : MM) (D : Ends) : OutX → Prop
  | .o x => OutOk X.K H m D x
  | .ex n ev st => ∀ σ' H' m' C, Stp H m H' m' → StR X.K H' m' st → EnR X.K H' m' ev σ' → X.mg n = some (.ref C) → W (.ref C) none σ' H'
theorem OutOkX.stp {X : Cx} {W : WX} {H H1 : Hp} {m m1 : MM} {D : Ends} {o : OutX} (s : Stp H m H1 m1) (h : OutOkX X W H m D o) : OutOkX X W H1 m1 D o := by
  cases o with
  | o x => exact OutOk.stp s h
  | ex n ev st => exact fun σ' H' m' C a b c d => h σ' H' m' C (s.trans a) b c d
theorem ExOk.stp {X : Cx} {W : WX} {σ : L2.St} {H H1 : Hp} {m m1 : MM} {n : Str} {st : Sto} (s : Stp H m H1 m1) (h : ExOk X W σ H m n st) : ExOk X W σ H1 m1 n st := fun H' m' C a b c => h H' m' C (s.trans a) b c
def SSX (X : Cx) (W : WX) (t : TS) (den : DSX) : Prop := ∀ (σ : L2.St) (H : Hp) (m : MM) (ev : En) (st : Sto) (o : OutX), StR X.K H m st → EnR X.K H m ev σ → den ev st = some o → ∀ D : Ends, OutOkX X W H m D o → t D σ H
def SEX (X : Cx) (W : WX) (t : TE) (den : DEX) : Prop := ∀ (σ : L2.St) (H : Hp) (m : MM) (ev : En) (st : Sto) (r : RX Dt), StR X.K H m st → EnR X.K H m ev σ → den ev st = some r → ∀ Q : VK,
  (match r with
    | .inl (d, st') => ∀ v H' m', Stp H m H' m' → StR X.K H' m' st' → Rep X.K (hid H' m') m' d v → Q v H'
    | .inr (n, st') => ExOk X W σ H m n st') → t σ H Q
def SAX (X : Cx) (W : WX) (t : TA) (den : DAX) : Prop := ∀ (σ : L2.St) (H : Hp) (m : MM) (ev : En) (st : Sto) (r : RX (List Dt)), StR X.K H m st → EnR X.K H m ev σ → den ev st = some r → ∀ Q : List V → Hp → Prop,
  (match r with
    | .inl (d, st') => ∀ v H' m', Stp H m H' m' → StR X.K H' m' st' → Reps X.K (hid H' m') m' d v → Q v H'
    | .inr (n, st') => ExOk X W σ H m n st') → t σ H Q
def PDEX (X : Cx) (W : WX) (e : Expr) (den : DEX) : Prop := ∃ t, PE X e t ∧ SEX X W t den
def PDAX (X : Cx) (W : WX) (es : List Expr) (den : DAX) : Prop := ∃ t, PA X es t ∧ SAX X W t den
def PDSX (X : Cx) (W : WX) (st : Stmt) (den : DSX) : Prop := ∃ t, PS X st t ∧ SSX X W t den
def PDSsX (X : Cx) (W : WX) (sts : List Stmt) (den : DSX) : Prop := ∃ t, PSs X sts t ∧ SSX X W t den
def xE (a : DE) : DEX := fun ev st => (a ev st).map .inl
def xA (a : DA) : DAX := fun ev st => (a ev st).map .inl
def xS (a : DS) : DSX := fun ev st => (a ev st).map .o
def dConsX (a : DEX) (r : DAX) : DAX := fun ev st => match a ev st with
  | some (.inl (d, st1)) => (match r ev st1 with
    | some (.inl (ds, st2)) => some (.inl (d :: ds, st2))
    | some (.inr x) => some (.inr x)
    | none => none)
  | some (.inr x) => some (.inr x)
  | none => none
def dApX (g : Sto → List Dt → Option Dt) (a : DAX) : DEX := fun ev st => match a ev st with
  | some (.inl (ds, st1)) => (g st1 ds).map fun z => .inl (z, st1)
  | some (.inr x) => some (.inr x)
  | none => none
def dCallX (np : Nat) (G : DFX) (a : DAX) : DEX := fun ev st => match a ev st with
  | some (.inl (ds, st1)) => if ds.length = np then G ds st1 else none
  | some (.inr x) => some (.inr x)
  | none => none
def dSeqX (a b : DSX) : DSX := fun ev st => match a ev st with
  | some (.o (.nx ev1 st1)) => b ev1 st1
  | o => o
def dIfX (c : DT) (a b : DSX) : DSX := fun ev st => (c ev st).bind fun p => if p.1 = true then a ev p.2 else b ev p.2
def dRaise (n : Str) : DSX := fun ev st => some (.ex n ev st)
def dRetX (e : DEX) : DSX := fun ev st => match e ev st with
  | some (.inl (d, st1)) => some (.o (.rt d st1))
  | some (.inr (n, st1)) => some (.ex n ev st1)
  | none => none
def dSetX (i : Nat) (e : DEX) : DSX := fun ev st => match e ev st with
  | some (.inl (d, st1)) => some (.o (.nx (ev.set i (some d)) st1))
  | some (.inr (n, st1)) => some (.ex n ev st1)
  | none => none
def dDropX (e : DEX) : DSX := fun ev st => match e ev st with
  | some (.inl (_, st1)) => some (.o (.nx ev st1))
  | some (.inr (n, st1)) => some (.ex n ev st1)
  | none => none
section
variable {X : Cx} {W : WX}
theorem pdex_of {e : Expr} {a : DE} (h : PD X e a) : PDEX X W e (xE a) := by
  obtain ⟨t, p, s⟩ := h
  refine ⟨t, p, fun σ H m ev st r S E hd Q q => ?_⟩
  obtain ⟨⟨d, st'⟩, h1, rfl⟩ := Option.map_eq_some_iff.mp hd
  exact s σ H m ev st d st' S E h1 Q q
theorem pdax_of {es : List Expr} {a : DA} (h : PDA X es a) : PDAX X W es (xA a) := by
  obtain ⟨t, p, s⟩ := h
  refine ⟨t, p, fun σ H m ev st r S E hd Q q => ?_⟩
  obtain ⟨⟨d, st'⟩, h1, rfl⟩ := Option.map_eq_some_iff.mp hd
  exact s σ H m ev st d st' S E h1 Q q
theorem pdsx_of {st : Stmt} {a : DS} (h : PDS X st a) : PDSX X W st (xS a) := by
  obtain ⟨t, p, s⟩ := h
  refine ⟨t, p, fun σ H m ev st r S E hd D q => ?_⟩
  obtain ⟨o, h1, rfl⟩ := Option.map_eq_some_iff.mp hd
  exact s σ H m ev st o S E h1 D q
theorem pdssx_of {sts : List Stmt} {a : DS} (h : PDSs X sts a) : PDSsX X W sts (xS a) := by
  obtain ⟨t, p, s⟩ := h
  refine ⟨t, p, fun σ H m ev st r S E hd D q => ?_⟩
  obtain ⟨o, h1, rfl⟩ := Option.map_eq_some_iff.mp hd
  exact s σ H m ev st o S E h1 D q
theorem pdax_cons {e : Expr} {es : List Expr} {a : DEX} {r : DAX} (h1 : PDEX X W e a) (h2 : PDAX X W es r) (hs : starEach (e :: es) X.env = (false, eval e X.env) :: starEach es X.env := by rfl) : PDAX X W (e :: es) (dConsX a r) := by
  obtain ⟨t1, p1, s1⟩ := h1
  obtain ⟨t2, p2, s2⟩ := h2
  refine ⟨_, pa_cons p1 p2 hs, fun σ H m ev st x S E hd Q q => ?_⟩
  unfold dConsX at hd
  cases ha : a ev st with
  | none => rw [ha] at hd; cases hd
  | some y =>
    rw [ha] at hd
    cases y with
    | inr y =>
      cases hd
      exact s1 σ H m ev st _ S E ha _ q
    | inl y =>
      obtain ⟨d, st1⟩ := y
      simp only at hd
      refine s1 σ H m ev st _ S E ha _ fun v1 H1 m1 k1 S1 r1 => ?_
      cases hb : r ev st1 with
      | none => rw [hb] at hd; cases hd
      | some z =>
        rw [hb] at hd
        cases z with
        | inr z =>
          cases hd
          exact s2 σ H1 m1 ev st1 _ S1 (E.stp k1) hb _ (ExOk.stp k1 q)
        | inl z =>
          obtain ⟨ds, st2⟩ := z
          cases hd
          exact s2 σ H1 m1 ev st1 _ S1 (E.stp k1) hb _ fun v2 H2 m2 k2 S2 r2 => q _ H2 m2 (k1.trans k2) S2 (.cons (k2.rep r1) r2)
theorem sex_ap {r : List V → Hp → VK → Prop} {g : Sto → List Dt → Option Dt} {ta : TA} {da : DAX} (h : RCS X.K r g) (ha : SAX X W ta da) : SEX X W (tCB r ta) (dApX g da) := by
  intro σ H m ev st x S E hd Q q
  unfold dApX at hd
  cases e : da ev st with
  | none => rw [e] at hd; cases hd
  | some y =>
    rw [e] at hd
    cases y with
    | inr y =>
      cases hd
      exact ha σ H m ev st _ S E e _ q
    | inl y =>
      obtain ⟨ds, st1⟩ := y
      simp only at hd
      obtain ⟨z, h2, rfl⟩ := Option.map_eq_some_iff.mp hd
      refine ha σ H m ev st _ S E e _ fun v1 H1 m1 k1 S1 r1 => ?_
      exact h H1 m1 _ ds z v1 S1 r1 h2 Q fun v H' k2 S2 r2 => q v H' m1 (k1.trans k2) S2 r2
theorem pdex_lst {es : List Expr} {da : DAX} {pos : Pos} (ha : PDAX X W es da) : PDEX X W (.List es pos) (dApX (asLst gLstD) da) := by
  obtain ⟨ta, pa, sa⟩ := ha
  exact ⟨_, pe_lst pa, sex_ap rlst.rcs sa⟩
theorem pdex_tup {es : List Expr} {da : DAX} {x1} {pos : Pos} (ha : PDAX X W es da) : PDEX X W (.Tuple es x1 pos) (dApX gTupD da) := by
  obtain ⟨ta, pa, sa⟩ := ha
  exact ⟨_, pe_tup pa, sex_ap rtup sa⟩
/-- the promise of a def that may raise -/
def spDX (K : PySem.W.Frag) (mg : Str → Option Value) (np : Nat) (G : DFX) : Sp := fun vs H Q E => ∃ (m : MM) (st : Sto) (ds : List Dt) (r : RX Dt), StR K H m st ∧ Reps K (hid H m) m ds vs ∧ ds.length = np ∧ G ds st = some r ∧
  match r with
  | .inl (d, st') => ∀ v H' m', Stp H m H' m' → StR K H' m' st' → Rep K (hid H' m') m' d v → Q v H'
  | .inr (n, st') => ∀ H' m' C, Stp H m H' m' → StR K H' m' st' → mg n = some (.ref C) → E (.ref C) none H'
theorem pdex_call {k : Nat} {np : Nat} {f : Addr} {fd : FuncData} {ps : List Str} {G : DFX} {x : Str} {e : Expr} {es : List Expr} {da : DAX} {p pos : Pos} (F : FnOk X.prog X.w X.K X.mg X.base (L2.CX X.prog X.w) k f fd ps (spDX X.K X.mg np G)) (tk : Takes X W) (hr : Room k X.A) (hg : Gl X x) (hm : X.mg x = some (.ref f)) (hk : PySem.W.keepIn X.K (.ref f) = true) (hb : Binds X.K fd ps [])
    (ha : PDAX X W (e :: es) da) (hdb : (x == ("__debug__" : Str)) = false := by decide) (he : starEach (e :: es) X.env = (false, eval e X.env) :: starEach es X.env := by rfl) (hpl : (backTo pos (starEach es X.env)).any (·.1) = false := by rfl) :
    PDEX X W (.Call (.Name x p) (e :: es) [] pos) (dCallX np G da) := by
  obtain ⟨ta, pa, sa⟩ := ha
  refine ⟨_, pe_callS F hr hg hm hk hb (fun σ => passAt tk σ) pa hdb he hpl, fun σ H m ev st r S E hd Q q => ?_⟩
  unfold dCallX at hd
  cases e1 : da ev st with
  | none => rw [e1] at hd; cases hd
  | some y =>
    rw [e1] at hd
    cases y with
    | inr y =>
      cases hd
      exact sa σ H m ev st _ S E e1 _ q
    | inl y =>
      obtain ⟨ds, st1⟩ := y
      simp only at hd
      split at hd
      · rename_i hl
        refine sa σ H m ev st _ S E e1 _ fun v1 H1 m1 k1 S1 r1 => ?_
        refine ⟨m1, st1, ds, r, S1, r1, hl, hd, ?_⟩
        cases r with
        | inl z => exact fun v H' m' k2 S2 r2 => q v H' m' (k1.trans k2) S2 r2
        | inr z => exact fun H' m' C k2 S2 hC => q H' m' C (k1.trans k2) S2 hC
      · cases hd
/-! ### statements -/
theorem pdssx_one {st : Stmt} {d : DSX} (h : PDSX X W st d) : PDSsX X W [st] d := let ⟨_, p, s⟩ := h; ⟨_, pss_one p, s⟩
theorem pdssx_cons {st : Stmt} {rest : List Stmt} {a b : DSX} (h1 : PDSX X W st a) (h2 : PDSsX X W rest b) : PDSsX X W (st :: rest) (dSeqX a b) := by
  obtain ⟨t1, p1, s1⟩ := h1
  obtain ⟨t2, p2, s2⟩ := h2
  refine ⟨_, pss_cons p1 p2, fun σ H m ev st o S E hd D q => ?_⟩
  unfold dSeqX at hd
  cases ha : a ev st with
  | none => rw [ha] at hd; cases hd
  | some y =>
    rw [ha] at hd
    refine s1 σ H m ev st y S E ha _ ?_
    cases y with
    | ex n ev1 st1 => cases hd; exact q
    | o y =>
      cases y with
      | nx ev1 st1 => exact fun σ' H' m' k1 S1 E1 => s2 σ' H' m' ev1 st1 o S1 E1 hd D (OutOkX.stp k1 q)
      | rt d st1 => cases hd; exact q
      | bk ev1 st1 => cases hd; exact q
      | ct ev1 st1 => cases hd; exact q
theorem pdsx_if {c : Expr} {a b : List Stmt} {pos : Pos} {dc : DT} {da db : DSX} (hc : PDT X c dc) (ha : PDSsX X W a da) (hb : PDSsX X W b db) : PDSX X W (.If c a b pos) (dIfX dc da db) := by
  obtain ⟨tc, pc, sc⟩ := hc
  obtain ⟨ta, pa, sa⟩ := ha
  obtain ⟨tb, pb, sb⟩ := hb
  refine ⟨_, ps_if pc pa pb, fun σ H m ev st o S E hd D q => ?_⟩
  unfold dIfX at hd
  obtain ⟨⟨x, st1⟩, h1, hd⟩ := Option.bind_eq_some_iff.mp hd
  refine sc σ H m ev st x st1 S E h1 _ fun H1 m1 s1 S1 => ?_
  cases x with
  | true =>
    rw [if_pos rfl] at hd
    rw [if_pos rfl]
    exact sa σ H1 m1 ev st1 o S1 (E.stp s1) hd D (OutOkX.stp s1 q)
  | false =>
    rw [if_neg Bool.false_ne_true] at hd
    rw [if_neg Bool.false_ne_true]
    exact sb σ H1 m1 ev st1 o S1 (E.stp s1) hd D (OutOkX.stp s1 q)
theorem pdsx_raise {x msg : Str} {C : Addr} {bmB : List Value} {B newId initId : String} {j : Nat} {p p2 pos pos' : Pos} (F : ExcBaseFacts B newId initId bmB) (q : PySem.W.excIn X.K C bmB newId = true) (gC : X.mg x = some (.ref C)) (kC : PySem.W.keepIn X.K (.ref C) = true)
    (r1 : PySem.W.subIn X.K (.ref C) (.type "BaseException") = some true) (r2 : PySem.W.typeIn X.K (.ref C) = some (.type "type")) (hc : X.calm = true) (tk : Takes X W) (hg : Gl X x) (hdb : (x == ("__debug__" : Str)) = false := by decide) :
    PDSX X W (.Raise (some (.Call (.Name x p) [.Constant (.str msg) j p2] [] pos)) none pos') (dRaise x) :=
  ⟨_, ps_raise hc tk (pmk_own F q gC kC (raises_own r1 r2) hg hdb), fun σ H m ev st o S E hd D k => by
    cases hd
    exact k σ H m C (Stp.refl _ _) S E gC⟩
theorem pdsx_ret {e : Expr} {de : DEX} {pos : Pos} (he : PDEX X W e de) : PDSX X W (.Return (some e) pos) (dRetX de) := by
  obtain ⟨te, pe, se⟩ := he
  refine ⟨_, ps_ret pe, fun σ H m ev st o S E hd D q => ?_⟩
  unfold dRetX at hd
  cases h1 : de ev st with
  | none => rw [h1] at hd; cases hd
  | some y =>
    rw [h1] at hd
    cases y with
    | inl y => cases hd; exact se σ H m ev st _ S E h1 _ fun v H1 m1 k1 S1 r1 => q v H1 m1 k1 S1 r1
    | inr y => cases hd; exact se σ H m ev st _ S E h1 _ fun H1 m1 C k1 S1 hC => q σ H1 m1 C k1 S1 (E.stp k1) hC
theorem pdsx_drop {e : Expr} {de : DEX} {pos : Pos} (he : PDEX X W e de) (hs : swapsWith e none pos.line X.env = pure false := by rfl) : PDSX X W (.Expr e pos) (dDropX de) := by
  obtain ⟨te, pe, se⟩ := he
  refine ⟨_, ps_expr pe hs, fun σ H m ev st o S E hd D q => ?_⟩
  unfold dDropX at hd
  cases h1 : de ev st with
  | none => rw [h1] at hd; cases hd
  | some y =>
    rw [h1] at hd
    cases y with
    | inl y => cases hd; exact se σ H m ev st _ S E h1 _ fun v H1 m1 k1 S1 r1 => q σ H1 m1 k1 S1 (E.stp k1)
    | inr y => cases hd; exact se σ H m ev st _ S E h1 _ fun H1 m1 C k1 S1 hC => q σ H1 m1 C k1 S1 (E.stp k1) hC
theorem pdsx_set {i : Nat} {x : Str} {e : Expr} {de : DEX} {pos pos' : Pos} (hN : X.N.Nodup) (hi : X.N[i]? = some x) (hx : Loc X.env.scope x) (he : PDEX X W e de) (hs : swapsWith e (some (.Name x pos')) pos.line X.env = pure false := by rfl) (hf : X.fn x = true ∨ X.env.scope.names.lookup x = some .local := by first | exact .inl rfl | exact .inr rfl | assumption) :
    PDSX X W (.Assign [.Name x pos'] e pos) (dSetX i de) := by
  obtain ⟨te, pe, se⟩ := he
  refine ⟨_, ps_set hN hi hx pe hs hf, fun σ H m ev st o S E hd D q => ?_⟩
  unfold dSetX at hd
  cases h1 : de ev st with
  | none => rw [h1] at hd; cases hd
  | some y =>
    rw [h1] at hd
    cases y with
    | inl y => cases hd; exact se σ H m ev st _ S E h1 _ fun v H1 m1 k1 S1 r1 => q _ H1 m1 k1 S1 ((E.stp k1).set r1 i)
    | inr y => cases hd; exact se σ H m ev st _ S E h1 _ fun H1 m1 C k1 S1 hC => q σ H1 m1 C k1 S1 (E.stp k1) hC
end
end PD

namespace PD
open PySem PySem.Spec PyProof.Rows L2

/-! ## defs that may raise -/
noncomputable def dDefX (np nl : Nat) (fin : Sto → Dt → Sto → Option (Dt × Sto)) (b : DSX) : DFX := fun ds st => match b (ds.map some ++ List.replicate (nl - np) none) st with
  | some (.o (.rt d st')) => (fin st d st').map .inl
  | some (.o (.nx _ st')) => (fin st .non st').map .inl
  | some (.ex n _ st') => (finP st .non st').map fun p => .inr (n, p.2)
  | _ => none
section
variable {P : Program} {w : World} {K : PySem.W.Frag} {mg : Str → Option Value} {base : Heap}
theorem fn_denX {x qual : Str} {st : Stmt} {f : Addr} {fd : FuncData} {N ps : List Str} {k np nl : Nat} {fin : Sto → Dt → Sto → Option (Dt × Sto)} {b : DSX} (F : Fun K x qual st f fd) (S : FnScope N ps (defScope st)) (hfin : FinOk fin) (hnp : ps.length = np) (hnl : N.length = nl)
    (hb : ∀ (cdv : Value) (A : Around) (outer : List Env) (s : Shared) (H : Hp) (E : XK), Room k (A.deeper (envOfC qual (defScope st) s.heap.objs.size f cdv)) →
      Takes (cxOf (L2.CX P w) P w K mg base N qual (defScope st) f cdv A outer s H E) (fun cls d _ G => E cls d G) →
      PDSsX (cxOf (L2.CX P w) P w K mg base N qual (defScope st) f cdv A outer s H E) (fun cls d _ G => E cls d G) (defBody st) b) : FnOk P w K mg base (L2.CX P w) (k + 1) f fd ps (spDX K mg np (dDefX np nl fin b)) := by
  refine F.okX S (fun vs H Q E h => ?_) (fun cdv A outer s H vs Q E hr h => ?_)
  · obtain ⟨m, st, ds, r, _, r1, hl, _⟩ := h
    rw [← r1.length, hl, hnp]
  · obtain ⟨m, st0, ds, r, S0, r0, hl, hG, q⟩ := h
    have tk : Takes (cxOf (L2.CX P w) P w K mg base N qual (defScope st) f cdv A outer s H E) (fun cls d _ G => E cls d G) := takes_of rfl rfl rfl rfl
    obtain ⟨t, pt, sx⟩ := hb cdv A outer s H E hr tk
    refine ⟨t, pt, ?_⟩
    unfold dDefX at hG
    have E0 := start_en (N := N) hl r0
    rw [hnl] at E0
    split at hG
    · rename_i d1 st1 e
      obtain ⟨⟨d, st'⟩, hf, rfl⟩ := Option.map_eq_some_iff.mp hG
      refine sx (L2.start N vs) H m _ st0 _ S0 E0 e _ ?_
      intro v H' m' s1 S1 r1
      obtain ⟨m2, s2, S2, r2⟩ := hfin K H H' m m' st0 st1 d1 d st' v S0 s1 S1 r1 hf
      exact q v H' m2 s2 S2 r2
    · rename_i ev1 st1 e
      obtain ⟨⟨d, st'⟩, hf, rfl⟩ := Option.map_eq_some_iff.mp hG
      refine sx (L2.start N vs) H m _ st0 _ S0 E0 e _ ?_
      intro σ' H' m' s1 S1 E1
      obtain ⟨m2, s2, S2, r2⟩ := hfin K H H' m m' st0 st1 .non d st' .non S0 s1 S1 .non hf
      exact q _ H' m2 s2 S2 r2
    · rename_i n ev1 st1 e
      obtain ⟨⟨d, st'⟩, hf, rfl⟩ := Option.map_eq_some_iff.mp hG
      refine sx (L2.start N vs) H m _ st0 _ S0 E0 e _ ?_
      intro σ' H' m' C s1 S1 E1 hC
      obtain ⟨m2, s2, S2, _⟩ := finP_ok K H H' m m' st0 st1 .non d st' .non S0 s1 S1 .non hf
      exact q H' m2 C s2 S2 hC
    · cases hG
end

/-! ## try .. except c as n -/
def outBut (i : Nat) : Out → Out
  | .nx ev st => .nx (ev.set i none) st
  | .bk ev st => .bk (ev.set i none) st
  | .ct ev st => .ct (ev.set i none) st
  | .rt d st => .rt d st
def dTry (i : Nat) (b : DSX) (ns : List Str) (suite : DS) : DS := fun ev st => match b ev st with
  | some (.o x) => some x
  | some (.ex n ev1 st1) => if n ∈ ns then (suite (ev1.set i (some (.exc n))) st1).map (outBut i) else none
  | none => none
theorem en_unset {K : PySem.W.Frag} {H : Hp} {m : MM} {ev : En} {σ : L2.St} (e : EnR K H m ev σ) (i : Nat) : EnR K H m (ev.set i none) (σ.set i none) := by
  refine ⟨by rw [List.length_set, List.length_set]; exact e.1, fun j x h => ?_⟩
  by_cases hj : i = j
  · subst hj
    by_cases hl : i < ev.length
    · rw [List.getElem?_set_self hl] at h; cases h
    · rw [List.getElem?_eq_none (by rw [List.length_set]; omega)] at h; cases h
  · rw [List.getElem?_set_ne hj] at h ⊢
    exact e.2 j x h
/-- what is known of a class that may be raised, where c is caught -/
def Caught (X : Cx) (c : Value) (n : Str) : Prop := ∃ C, X.mg n = some (.ref C) ∧ PySem.W.nsIn X.K mainGlobals n = some (some (.ref C)) ∧ PySem.W.exmOne X.K (.ref C) c = some true
section
variable {X : Cx}
theorem pds_try {x n : Str} {c : Value} {i : Nat} {body suite : List Stmt} {st0 : Stmt} {np pos pos' : Pos} {ns : List Str} {b : DSX} {ds : DS} {Wout : WX} (hstk : X.stack = X.env :: X.outer) (hfr0 : X.env.frame = some X.env.locals) (hex : X.ex = []) (hN : X.N.Nodup) (hi : X.N[i]? = some n) (hln : X.env.kindOf n = some .local) (hc : Names X x c)
    (tk : Takes X Wout) (hns : ∀ m ∈ ns, Caught X c m)
    (hbody : ∀ (W : WX) (pn : List (Addr × Obj)) (xe : Value → Shared → Prop), Takes (X.tr pn xe) W → PassesOwn (model X.prog X.w) X.A X.env xe → PDSsX (X.tr pn xe) W body b)
    (hsuite : ∀ a : Addr, PDSs (X.suite a X.pn) (st0 :: suite) ds) :
    PDS X (.Try body [.ExceptHandler (some (.Name x np)) (some n) (st0 :: suite) pos'] [] [] pos) (dTry i b ns ds) := by
  have hb2 : ∃ tb : WX → TS, (∀ (W : WX) (pn : List (Addr × Obj)) (xe : Value → Shared → Prop), Takes (X.tr pn xe) W → PassesOwn (model X.prog X.w) X.A X.env xe → PSs (X.tr pn xe) body (tb W)) ∧
      ∀ (W : WX) (σ : L2.St) (H : Hp) (m : MM) (ev : En) (st : Sto) (o : OutX), StR X.K H m st → EnR X.K H m ev σ → b ev st = some o → ∀ D : Ends, OutOkX X W H m D o → tb W D σ H :=
    ⟨fun W D σ H => ∀ (pn : List (Addr × Obj)) (xe : Value → Shared → Prop) (h1 : Takes (X.tr pn xe) W) (h2 : PassesOwn (model X.prog X.w) X.A X.env xe), (hbody W pn xe h1 h2).choose D σ H,
     fun W pn xe h1 h2 => ⟨fun pins s σ H D I hq => (hbody W pn xe h1 h2).choose_spec.1.run pins s σ H D I (hq pn xe h1 h2)⟩,
     fun W σ H m ev st o S E hd D q pn xe h1 h2 => (hbody W pn xe h1 h2).choose_spec.2 σ H m ev st o S E hd D (by
      cases o with
      | o x => exact q
      | ex n ev1 st1 => exact q)⟩
  obtain ⟨tb, tb1, tb2⟩ := hb2
  have hs2 : ∃ ts : Addr → TS, (∀ a, PSs (X.suite a X.pn) (st0 :: suite) (ts a)) ∧ ∀ a, SS X.K (ts a) ds :=
    ⟨fun a => (hsuite a).choose, fun a => (hsuite a).choose_spec.1, fun a => (hsuite a).choose_spec.2⟩
  obtain ⟨ts, ts1, ts2⟩ := hs2
  refine ⟨_, ps_try_held (i := i) hstk hfr0 hex hN hi hln hc tk tb1 ts1, fun σ H m ev st o S E hd D q => ?_⟩
  unfold dTry at hd
  split at hd
  · rename_i y e
    cases hd
    exact tb2 _ σ H m ev st _ S E e D q
  · rename_i n1 ev1 st1 e
    split at hd
    · rename_i hn
      obtain ⟨o2, h2, rfl⟩ := Option.map_eq_some_iff.mp hd
      refine tb2 _ σ H m ev st _ S E e D fun σ' H' m' C k1 S1 E1 hC => ?_
      obtain ⟨C', c1, c2, c3⟩ := hns n1 hn
      have hCC : C = C' := by rw [hC] at c1; cases c1; rfl
      subst hCC
      refine ⟨true, c3, (fun z => absurd z (by decide)), fun _ a oe na zc hf => ?_⟩
      have sn : Stp H' m' (upd H' a (heldO oe)) m' := Stp.new S1 na
      have Sn : StR X.K (upd H' a (heldO oe)) m' st1 := S1.new na
      have rp : Rep X.K (hid (upd H' a (heldO oe)) m') m' (.exc n1) (.ref a) := .exc c2 (hid_some.mpr ⟨S1.fresh na, upd_same⟩) zc hf
      refine ts2 a _ (upd H' a (heldO oe)) m' _ st1 o2 Sn ((E1.stp sn).set rp i) h2 _ ?_
      cases o2 with
      | nx ev2 st2 => exact fun τ G m2 k2 S2 E2 => q (τ.set i none) G m2 ((k1.trans sn).trans k2) S2 (en_unset E2 i)
      | bk ev2 st2 => exact fun τ G m2 k2 S2 E2 => q (τ.set i none) G m2 ((k1.trans sn).trans k2) S2 (en_unset E2 i)
      | ct ev2 st2 => exact fun τ G m2 k2 S2 E2 => q (τ.set i none) G m2 ((k1.trans sn).trans k2) S2 (en_unset E2 i)
      | rt d st2 => exact fun v G m2 k2 S2 r2 => q v G m2 ((k1.trans sn).trans k2) S2 r2
    · cases hd
  · cases hd
/-- a class of the text, by its name -/
theorem pd_cls {x : Str} {C : Addr} {pos : Pos} (hg : Gl X x) (hm : X.mg x = some (.ref C)) (hn : PySem.W.nsIn X.K mainGlobals x = some (some (.ref C))) (hd : (x == ("__debug__" : Str)) = false := by decide) : PD X (.Name x pos) (dC (.cls x)) :=
  ⟨_, pe_glob hg hm (v := .ref C) rfl hd, se_c fun _ _ => .cls hn⟩

/-! ## isinstance of an exception that is followed -/
def rIsX (K : PySem.W.Frag) : List V → Hp → VK → Prop := fun xs H Q => ∃ (a D : Addr) (oe : Obj) (u : HO), H a = some (.frz oe u) ∧ Zc (.ref D) none oe ∧ (∃ vs, oe.data = .fields vs) ∧ ExcC K D ∧
  ((∃ (c : V) (cv : Value) (b : Bool), xs = [.ref a, c] ∧ (∀ u, RelV c u → u = cv) ∧ PySem.W.kitOne K (.ref D) cv = some b ∧ Q (.bl b) H) ∨
   ∃ (tp : Addr) (cs : List Addr) (b : Bool), xs = [.ref a, .ref tp] ∧ H tp = some (.tup (cs.map V.ref)) ∧ PySem.W.kitAny K (.ref D) (cs.map Value.ref) = some b ∧ Q (.bl b) H)
theorem vals_refs : ∀ {cs : List Addr} {us : List Value}, Vals (cs.map V.ref) us → us = cs.map Value.ref
  | [], _, h => by cases h; rfl
  | c :: cs, _, h => by
    cases h with
    | cons r t =>
      rw [vals_refs t]
      cases r
      rfl
theorem call_isX : CallR X (.builtin "isinstance") (rIsX X.K) := by
  intro pins s σ H xs us Q I r h
  obtain ⟨a, D, oe, u, hH, hz, ⟨vs, hv⟩, C, h⟩ := h
  have hget : s.heap.get? a = some oe := (I.hok a _ hH).1
  have J : PySem.W.InstAt s.heap a oe D none := by
    obtain ⟨oc, od, oda, osl⟩ := oe
    obtain ⟨h1, h2⟩ := hz
    dsimp only at h1 h2 hv
    subst h1 h2 hv
    exact ⟨hget, rfl, rfl, trivial⟩
  have kit := PySem.W.handS_kitx_exc (x := a) (ox := oe) C.hg C.hk C.hs C.hd C.ha C.hn C.ht C.hm
  rcases h with ⟨c, cv, b, rfl, hcv, e, q⟩ | ⟨tp, cs, b, rfl, htp, e, q⟩
  · cases r with
    | cons rx rr =>
      cases rr with
      | cons rt rr =>
        cases rr
        cases rx
        have ec := hcv _ rt
        subst ec
        exact PySem.W.kia_one kit I.kIn J e (fun z => nomatch z) fun tk => ⟨.bl b, H, I.kept (t' := tk) fun _ _ z => z, rfl, q⟩
  · cases r with
    | cons rx rr =>
      cases rr with
      | cons rt rr =>
        cases rr
        cases rx
        cases rt
        obtain ⟨_, its, vv, ht⟩ := I.hok tp _ htp
        have ei := vals_refs vv
        subst ei
        obtain ⟨⟨oc, od, oda, osl⟩, g1, g2, n, g3⟩ := ht
        dsimp only at g2 g3
        subst g2 g3
        exact PySem.W.kia_tup kit I.kIn J g1 e (fun z => nomatch z) fun tk => ⟨.bl b, H, I.kept (t' := tk) fun _ _ z => z, rfl, q⟩
end
def look1 (t : List (Str × Str × Bool)) (n c : Str) : Option Bool := (t.find? fun r => r.1 == n && r.2.1 == c).map (·.2.2)
def look2 (t : List (Str × String × Bool)) (n : Str) (c : String) : Option Bool := (t.find? fun r => r.1 == n && r.2.1 == c).map (·.2.2)
def clsN : Dt → Option Str
  | .cls c => some c
  | _ => none
def gIsE (t1 : List (Str × Str × Bool)) (t2 : List (Str × String × Bool)) : Sto → List Dt → Option Dt := fun _ ds => match ds with
  | [.exc n, .cls c] => (look1 t1 n c).map .bl
  | [.exc n, .ty c] => (look2 t2 n c).map .bl
  | [.exc n, .tup cs] => (mapO clsN cs).bind fun cs => (mapO (look1 t1 n) cs).map fun bs => .bl (bs.any id)
  | _ => none
def Fact1 (K : PySem.W.Frag) (r : Str × Str × Bool) : Prop := ∃ C D, PySem.W.nsIn K mainGlobals r.1 = some (some (.ref C)) ∧ PySem.W.nsIn K mainGlobals r.2.1 = some (some (.ref D)) ∧ PySem.W.kitOne K (.ref C) (.ref D) = some r.2.2
def Fact2 (K : PySem.W.Frag) (r : Str × String × Bool) : Prop := ∃ C, PySem.W.nsIn K mainGlobals r.1 = some (some (.ref C)) ∧ PySem.W.kitOne K (.ref C) (.type r.2.1) = some r.2.2
def FactC (K : PySem.W.Frag) (n : Str) : Prop := ∃ C, PySem.W.nsIn K mainGlobals n = some (some (.ref C)) ∧ ExcC K C
theorem look1_ok {K : PySem.W.Frag} {t : List (Str × Str × Bool)} (h : ∀ r ∈ t, Fact1 K r) {n c : Str} {b : Bool} (e : look1 t n c = some b) {C D : Addr} (hC : PySem.W.nsIn K mainGlobals n = some (some (.ref C))) (hD : PySem.W.nsIn K mainGlobals c = some (some (.ref D))) :
    PySem.W.kitOne K (.ref C) (.ref D) = some b := by
  obtain ⟨r, h1, h2⟩ := Option.map_eq_some_iff.mp e
  obtain ⟨C', D', e1, e2, e3⟩ := h r (List.mem_of_find?_eq_some h1)
  have h3 := List.find?_some h1
  simp only [Bool.and_eq_true, beq_iff_eq] at h3
  rw [h3.1, hC] at e1
  rw [h3.2, hD] at e2
  cases e1
  cases e2
  rw [e3, h2]
theorem look2_ok {K : PySem.W.Frag} {t : List (Str × String × Bool)} (h : ∀ r ∈ t, Fact2 K r) {n : Str} {c : String} {b : Bool} (e : look2 t n c = some b) {C : Addr} (hC : PySem.W.nsIn K mainGlobals n = some (some (.ref C))) :
    PySem.W.kitOne K (.ref C) (.type c) = some b := by
  obtain ⟨r, h1, h2⟩ := Option.map_eq_some_iff.mp e
  obtain ⟨C', e1, e3⟩ := h r (List.mem_of_find?_eq_some h1)
  have h3 := List.find?_some h1
  simp only [Bool.and_eq_true, beq_iff_eq] at h3
  rw [h3.1, hC] at e1
  cases e1
  rw [← h3.2, e3, h2]
theorem classes_ok {K : PySem.W.Frag} {Hh : Hp} {m : MM} {t : List (Str × Str × Bool)} (h : ∀ r ∈ t, Fact1 K r) {n : Str} {C : Addr} (hC : PySem.W.nsIn K mainGlobals n = some (some (.ref C))) : ∀ {ds : List Dt} {vs : List V} {cs : List Str} {bs : List Bool}, Reps K Hh m ds vs → mapO clsN ds = some cs → mapO (look1 t n) cs = some bs →
    ∃ as : List Addr, vs = as.map V.ref ∧ PySem.W.kitAny K (.ref C) (as.map Value.ref) = some (bs.any id)
  | [], _, _, _, r, e1, e2 => by
    cases r
    cases e1
    cases e2
    exact ⟨[], rfl, rfl⟩
  | d :: ds, _, _, _, r, e1, e2 => by
    cases r with
    | cons r1 r2 =>
      unfold mapO at e1
      obtain ⟨c, k1, e1⟩ := Option.bind_eq_some_iff.mp e1
      obtain ⟨cs', k2, e1⟩ := Option.map_eq_some_iff.mp e1
      subst e1
      unfold mapO at e2
      obtain ⟨b, k3, e2⟩ := Option.bind_eq_some_iff.mp e2
      obtain ⟨bs', k4, e2⟩ := Option.map_eq_some_iff.mp e2
      subst e2
      obtain ⟨as, rfl, k5⟩ := classes_ok h hC r2 k2 k4
      cases r1 with
      | @cls c' D hD =>
        cases k1
        have k6 := look1_ok h k3 hC hD
        refine ⟨D :: as, rfl, ?_⟩
        show PySem.W.kitAny K (.ref C) (.ref D :: as.map Value.ref) = _
        unfold PySem.W.kitAny
        rw [k6]
        cases b with
        | true => rfl
        | false => exact k5
      | _ => cases k1
def gIsX (ns : List Str) (t1 : List (Str × Str × Bool)) (t2 : List (Str × String × Bool)) : Sto → List Dt → Option Dt := fun st ds => match ds with
  | .exc n :: _ => if n ∈ ns then gIsE t1 t2 st ds else none
  | _ => none
theorem rc_isX {K : PySem.W.Frag} {t1 : List (Str × Str × Bool)} {t2 : List (Str × String × Bool)} {ns : List Str} (h1 : ∀ r ∈ t1, Fact1 K r) (h2 : ∀ r ∈ t2, Fact2 K r) (hn : ∀ n ∈ ns, FactC K n) : RCS K (rIsX K) (gIsX ns t1 t2) := by
  intro H m st ds z xs S rs hg Q q
  unfold gIsX at hg
  split at hg
  · rename_i n rest
    split at hg
    · rename_i hmem
      cases rs with
      | cons r1 rs2 =>
        cases r1 with
        | @exc _ a C oe u e1 e2 e3 e4 =>
          obtain ⟨C', c1, c2⟩ := hn n hmem
          rw [e1] at c1
          cases c1
          refine ⟨a, C, oe, u, (hid_some.mp e2).2, e3, e4, c2, ?_⟩
          unfold gIsE at hg
          split at hg
          · rename_i n' c heq
            cases heq
            obtain ⟨b, k1, rfl⟩ := Option.map_eq_some_iff.mp hg
            obtain ⟨v, rfl, r2⟩ := rs2.one
            cases r2 with
            | @cls _ D hD =>
              exact .inl ⟨.ref D, .ref D, b, rfl, fun u hu => hu, look1_ok h1 k1 e1 hD, q _ H (Stp.refl _ _) S (.bl b)⟩
          · rename_i n' c heq
            cases heq
            obtain ⟨b, k1, rfl⟩ := Option.map_eq_some_iff.mp hg
            obtain ⟨v, rfl, r2⟩ := rs2.one
            cases r2
            exact .inl ⟨.ty c, .type c, b, rfl, fun u hu => hu, look2_ok h2 k1 e1, q _ H (Stp.refl _ _) S (.bl b)⟩
          · rename_i n' cs heq
            cases heq
            obtain ⟨cs', k1, hg⟩ := Option.bind_eq_some_iff.mp hg
            obtain ⟨bs, k2, rfl⟩ := Option.map_eq_some_iff.mp hg
            obtain ⟨v, rfl, r2⟩ := rs2.one
            cases r2 with
            | @tup tp vs _ t1' t2' =>
              obtain ⟨as, rfl, k3⟩ := classes_ok h1 e1 t2' k1 k2
              exact .inr ⟨tp, as, _, rfl, hid_ext _ _ _ _ t1', k3, q _ H (Stp.refl _ _) S (.bl _)⟩
          · cases hg
    · cases hg
  · cases hg
end PD

namespace PD
open PySem PySem.Spec PyProof.Rows L2
/-! ## plain reckoning where something may raise -/
section
variable {ev : En} {st : Sto}
@[simp] theorem xE_eq {a : DE} : xE a ev st = (a ev st).map .inl := (rfl)
@[simp] theorem xA_eq {a : DA} : xA a ev st = (a ev st).map .inl := (rfl)
@[simp] theorem xS_eq {a : DS} : xS a ev st = (a ev st).map .o := (rfl)
@[simp] theorem dConsX_eq {a : DEX} {r : DAX} : dConsX a r ev st = (match a ev st with
  | some (.inl (d, st1)) => (match r ev st1 with
    | some (.inl (ds, st2)) => some (.inl (d :: ds, st2))
    | some (.inr x) => some (.inr x)
    | none => none)
  | some (.inr x) => some (.inr x)
  | none => none) := (rfl)
@[simp] theorem dApX_eq {g : Sto → List Dt → Option Dt} {a : DAX} : dApX g a ev st = (match a ev st with
  | some (.inl (ds, st1)) => (g st1 ds).map fun z => .inl (z, st1)
  | some (.inr x) => some (.inr x)
  | none => none) := (rfl)
@[simp] theorem dCallX_eq {np : Nat} {G : DFX} {a : DAX} : dCallX np G a ev st = (match a ev st with
  | some (.inl (ds, st1)) => if ds.length = np then G ds st1 else none
  | some (.inr x) => some (.inr x)
  | none => none) := (rfl)
@[simp] theorem dSeqX_eq {a b : DSX} : dSeqX a b ev st = (match a ev st with
  | some (.o (.nx ev1 st1)) => b ev1 st1
  | o => o) := (rfl)
@[simp] theorem dIfX_eq {c : DT} {a b : DSX} : dIfX c a b ev st = (c ev st).bind fun p => if p.1 = true then a ev p.2 else b ev p.2 := (rfl)
@[simp] theorem dRaise_eq {n : Str} : dRaise n ev st = some (.ex n ev st) := (rfl)
@[simp] theorem dRetX_eq {e : DEX} : dRetX e ev st = (match e ev st with
  | some (.inl (d, st1)) => some (.o (.rt d st1))
  | some (.inr (n, st1)) => some (.ex n ev st1)
  | none => none) := (rfl)
@[simp] theorem dSetX_eq {i : Nat} {e : DEX} : dSetX i e ev st = (match e ev st with
  | some (.inl (d, st1)) => some (.o (.nx (ev.set i (some d)) st1))
  | some (.inr (n, st1)) => some (.ex n ev st1)
  | none => none) := (rfl)
@[simp] theorem dDropX_eq {e : DEX} : dDropX e ev st = (match e ev st with
  | some (.inl (_, st1)) => some (.o (.nx ev st1))
  | some (.inr (n, st1)) => some (.ex n ev st1)
  | none => none) := (rfl)
@[simp] theorem dTry_eq {i : Nat} {b : DSX} {ns : List Str} {suite : DS} : dTry i b ns suite ev st = (match b ev st with
  | some (.o x) => some x
  | some (.ex n ev1 st1) => if n ∈ ns then (suite (ev1.set i (some (.exc n))) st1).map (outBut i) else none
  | none => none) := (rfl)
@[simp] theorem outBut_nx {i : Nat} : outBut i (.nx ev st) = .nx (ev.set i none) st := (rfl)
@[simp] theorem outBut_rt {i : Nat} {d : Dt} : outBut i (.rt d st) = .rt d st := (rfl)
@[simp] theorem low_exc {n : Nat} {c : Str} : low n (.exc c) = true := (rfl)
@[simp] theorem gTupD_8 {a b c d e f g h : Dt} : gTupD st [a, b, c, d, e, f, g, h] = some (.tup [a, b, c, d, e, f, g, h]) := (rfl)
@[simp] theorem gTupD_7 {a b c d e f g : Dt} : gTupD st [a, b, c, d, e, f, g] = some (.tup [a, b, c, d, e, f, g]) := (rfl)
@[simp] theorem gTupD_6 {a b c d e f : Dt} : gTupD st [a, b, c, d, e, f] = some (.tup [a, b, c, d, e, f]) := (rfl)
end
end PD

/-! ## list(d), d a dict with keys that are tuples of ints -/
namespace PD
open PySem PySem.Spec PyProof.Rows L2
variable {X : Cx} {K : PySem.W.Frag}
def gListC : Sto → List Dt → Option (List Dt) := fun st ds => match ds with
  | [.ptr p] => match st[p]? with
    | some (.dcs ks) => some (ks.map tupD)
    | _ => none
  | _ => none
/-- what lies beside the store is no tuple -/
theorem noTup_of {H : Hp} {m : MM} {st : Sto} {b : Addr} {vs : List V} (S : StR K H m st) (h : H b = some (.tup vs)) : ¬ m.has b := fun z => by
  rcases z with z | z
  · obtain ⟨k, hk, e⟩ := List.mem_iff_getElem.mp z
    have e1 : m.m[k]? = some b := by rw [List.getElem?_eq_getElem hk, e]
    have hk2 : k < st.length := by rw [← S.len]; exact hk
    have q := S.ok k b st[k] e1 (List.getElem?_eq_getElem hk2)
    cases hq : st[k] with
    | lst ds => rw [hq] at q; obtain ⟨vs, h2, _⟩ := q; rw [h] at h2; cases h2
    | dct ds => rw [hq] at q; obtain ⟨vs, h2, _⟩ := q; rw [h] at h2; cases h2
    | dcs ds => rw [hq] at q; have q2 : H b = _ := q; rw [h] at q2; cases q2
    | ins C ds => rw [hq] at q; obtain ⟨_, vs, h2, _⟩ := q; rw [h] at h2; cases h2
  · obtain ⟨⟨xs, e⟩, _⟩ := S.gh b z
    rw [h] at e; cases e
theorem reps_ints {Hh : Hp} {m : MM} : ∀ k : List Int, Reps K Hh m (k.map Dt.int) (k.map V.int)
  | [] => .nil
  | i :: k => .cons (.int i) (reps_ints k)
theorem reps_keys {H : Hp} {m : MM} {st : Sto} (S : StR K H m st) : ∀ (ks : List (List Int)) (bs : List Addr), IsKeys H (kvT ks) bs → Reps K (hid H m) m (ks.map tupD) (bs.map V.ref)
  | [], bs, h => by
    cases h
    exact .nil
  | k :: ks, bs, h => by
    cases h with
    | @cons _ b _ bs' h1 h2 =>
      have h1' : H b = some (.tup ((k.map (Sum.inl : Int → Key)).map kV)) := h1
      rw [kV_ints] at h1'
      exact .cons (.tup (hid_some.mpr ⟨noTup_of S h1', h1'⟩) (reps_ints k)) (reps_keys S ks bs' h2)
theorem rn_listC : RCN K (fun xs H Q => ∃ d kvs, xs = [V.ref d] ∧ Rd H d (.dT kvs) ∧ ∀ p bs, H p = none → IsKeys H kvs bs → Q (.ref p) (upd H p (.lst (bs.map V.ref)))) gListC := by
  intro H m st ds z xs S rs h Q q
  unfold gListC at h
  split at h
  · rename_i p
    split at h
    · rename_i ks hks
      cases h
      obtain ⟨v, rfl, r⟩ := rs.one
      obtain ⟨a, rfl, _, h2⟩ := dcs_at S r hks
      refine ⟨a, _, rfl, .inl h2, fun l bs hl hb => ?_⟩
      exact q l H _ hl (Stp.refl _ _) S (reps_keys S ks bs hb)
    · cases h
  · cases h
section
variable {st : Sto}
theorem gListC_eq {p : Nat} {ks : List (List Int)} (h : st[p]? = some (.dcs ks)) : gListC st [.ptr p] = some (ks.map tupD) := by
  simp only [gListC, h]
end
end PD

/-! ## calls: without arguments; and from within an except suite, of a def that never raises -/
namespace PD
open PySem PySem.Spec PyProof.Rows L2
variable {X : Cx} {K : PySem.W.Frag}
theorem pd_call0 {k : Nat} {f : Addr} {fd : FuncData} {ps : List Str} {G : DF} {x : Str} {p pos : Pos} (F : FnOk X.prog X.w X.K X.mg X.base CX0 k f fd ps (spD X.K 0 G)) (hr : Room k X.A) (hg : Gl X x) (hm : X.mg x = some (.ref f)) (hk : PySem.W.keepIn X.K (.ref f) = true) (hb : Binds X.K fd ps [])
    (hdb : (x == ("__debug__" : Str)) = false := by decide) : PD X (.Call (.Name x p) [] [] pos) (dCall 0 G dNil) := by
  refine ⟨_, pe_call0 F hr hg hm hk hb .nil pass0 hdb, fun σ H m ev st d st' S E h Q q => ?_⟩
  have h' : G [] st = some (d, st') := by
    simpa [dCall, dNil] using h
  exact ⟨m, st, [], d, st', S, .nil, rfl, h', fun v H' m' s2 S2 r2 => q v H' m' s2 S2 r2⟩
/-- what a def promises where an exception is being handled -/
structure FnC (P : Program) (w : World) (K : PySem.W.Frag) (mg : Str → Option Value) (base : Heap) (k : Nat) (f : Addr) (fd : FuncData) (ps : List Str) (sp : Sp) : Prop where
  len : ∀ vs H Q E, sp vs H Q E → vs.length = ps.length
  run : ∀ (A : Around) (a : Addr) (outer : List Env) (s : Shared) (H : Hp) (args : Args) (us : List Value) (vs : List V) (Q : VK) (E : XK), Room k A → Env0 P w K mg base A outer s H → BindsTo s fd args (ps.zip us) → Vals vs us → sp vs H Q E →
    codeAny (model P w) (A.mark (some (.ref a))) (.call (.ref f) args) (CR CX0 outer P w H s Q E) s
section
variable {P : Program} {w : World} {mg : Str → Option Value} {base : Heap}
theorem fn_denC {x qual : Str} {st : Stmt} {f : Addr} {fd : FuncData} {N ps : List Str} {k np nl : Nat} {fin : Sto → Dt → Sto → Option (Dt × Sto)} {b : DS} (F : Fun K x qual st f fd) (S : FnScope N ps (defScope st)) (hfin : FinOk fin) (hnp : ps.length = np) (hnl : N.length = nl)
    (hb : ∀ (a : Addr) (cdv : Value) (A : Around) (outer : List Env) (s : Shared) (H : Hp) (E : XK), Room k (A.deeper (envOfC qual (defScope st) s.heap.objs.size f cdv)) →
      PDSs ((cxOf CX0 P w K mg base N qual (defScope st) f cdv A outer s H E).suite a []) (defBody st) b) : FnC P w K mg base (k + 1) f fd ps (spD K np (dDef np nl fin b)) := by
  obtain ⟨oc, od, kV, doc, pm, an, cdv, ct, osl, rfl, lk, hcd⟩ := F.ex
  have len : ∀ vs H Q E, spD K np (dDef np nl fin b) vs H Q E → vs.length = ps.length := fun vs H Q E h => by
    obtain ⟨m, st, ds, d, st', _, r, hl, _⟩ := h
    rw [← r.length, hl, hnp]
  refine ⟨len, fun A a outer s H args us vs Q E room e0 hbind rv hsp => ?_⟩
  have hl := len _ _ _ _ hsp
  have inK : K.In s.heap := e0.mod.kin.keeps fun b o e => (e0.bs b o e).1
  have noLim : s.heap.NoLimit := e0.mod.nolimit.keeps fun b o e => (e0.bs b o e).1
  have kinds : ∀ y ∈ ps.zip us, (defScope st).names.lookup y.1 = some .local ∨ ((defScope st).names.lookup y.1 = some .cell ∧ ((cellsFrom (s.heap.objs.size + 1) (defScope st).names []).lookup y.1).isSome = true) := by
    rintro ⟨n, v⟩ hy
    rcases S.par n (List.of_mem_zip hy).1 with q | q
    · exact Or.inl q
    · exact Or.inr ⟨q, PySem.W.cellsFrom_some _ _ _ (Or.inl q)⟩
  have deep : (A.mark (some (.ref a))).depth < recursionLimit := room.depth
  refine codeAny_call_function deep (inK _ _ lk) rfl S.co S.gen rfl (PySem.W.codeRec_of inK hcd) (hbind _ _ _ _ ?_)
  refine wpAny_newFunctionEnv_cells S.kind kinds ?_
  rintro env rfl s1 x
  refine ⟨noLim.keeps x.toInCall.keep, codeAny_func ?_⟩
  have I0 := inv_start (CX := CX0) (E := E) S room.hd e0 hl rv x
  have I1 : Inv ((cxOf CX0 P w K mg base N qual (defScope st) f cdv A outer s H E).suite a []) [] (L2.start N vs) H s1 :=
    ⟨I0.ok.suite _ _, I0.os, I0.bare, I0.base, I0.loc, I0.cell, I0.free, I0.freeC, (fun p hp => absurd (show p ∈ ([] : List (Addr × Obj)) from hp) (by simp)), I0.hok, I0.len⟩
  obtain ⟨t, pt, sx⟩ := hb a cdv A outer s H E (room.deeper _)
  have goal : t { nx := fun _ H' => Q .non H', rt := Q } (L2.start N vs) H := by
    obtain ⟨m, st0, ds, d, st', S0, r, hl2, hG, q⟩ := hsp
    unfold dDef at hG
    have E0 := start_en (N := N) hl2 r
    rw [hnl] at E0
    split at hG
    · rename_i d1 st1 e
      refine sx (L2.start N vs) H m _ st0 _ S0 E0 e _ ?_
      intro v H' m' s1 S1 r1
      obtain ⟨m2, s2, S2, r2⟩ := hfin K H H' m m' st0 st1 d1 d st' v S0 s1 S1 r1 hG
      exact q v H' m2 s2 S2 r2
    · rename_i ev1 st1 e
      refine sx (L2.start N vs) H m _ st0 _ S0 E0 e _ ?_
      intro σ' H' m' s1 S1 E1
      obtain ⟨m2, s2, S2, r2⟩ := hfin K H H' m m' st0 st1 .non d st' .non S0 s1 S1 .non hG
      exact q _ H' m2 s2 S2 r2
    · cases hG
  refine wpAny_mono (pt.run [] s1 (L2.start N vs) H _ I1 goal) (fun fl s' hs => ?_) (fun e s' hs => hs.elim)
  cases fl with
  | ret u =>
    obtain ⟨v, σ', H', J, rv, q⟩ := hs
    exact ⟨v, H', J.os, J.bare, J.base, J.hok, rv, q⟩
  | next =>
    obtain ⟨σ', H', J, q⟩ := hs
    exact ⟨V.non, H', J.os, J.bare, J.base, J.hok, rfl, q⟩
  | brk => obtain ⟨_, _, _, q⟩ := hs; exact q.elim
  | cont => obtain ⟨_, _, _, q⟩ := hs; exact q.elim
end
theorem pd_callC {k : Nat} {np : Nat} {f : Addr} {fd : FuncData} {ps : List Str} {G : DF} {x : Str} {e : Expr} {es : List Expr} {da : DA} {p pos : Pos} {a : Addr} {pn : List (Addr × Obj)} (F : FnC X.prog X.w X.K X.mg X.base k f fd ps (spD X.K np G)) (hr : Room k X.A) (hg : Gl (X.suite a pn) x) (hm : X.mg x = some (.ref f)) (hk : PySem.W.keepIn X.K (.ref f) = true) (hb : Binds X.K fd ps [])
    (ha : PDA (X.suite a pn) (e :: es) da) (hdb : (x == ("__debug__" : Str)) = false := by decide) (he : starEach (e :: es) X.env = (false, eval e X.env) :: starEach es X.env := by rfl) (hpl : (backTo pos (starEach es X.env)).any (·.1) = false := by rfl) :
    PD (X.suite a pn) (.Call (.Name x p) (e :: es) [] pos) (dCall np G da) := by
  obtain ⟨ta, pa, sa⟩ := ha
  refine ⟨tCall (spD X.K np G) [] E0 ta, ⟨fun pins s σ H Q I h => ?_⟩, fun σ H m ev st d st' S E h Q q => ?_⟩
  · refine wpAny_Call_Name_kw (ld_glob I hg hm ?_ hdb)
    refine PySem.W.callWith_K (h₀ := X.base) I.ok.mod.kin hk (thn (pa.run pos pins s σ H _ I h) fun us s1 ⟨vs, H1, I1, r, q⟩ => ⟨I1.kIn, ?_⟩) he hpl
    have q : spD X.K np G (vs ++ []) H1 Q E0 := q
    rw [List.append_nil] at q
    have hl : us.length = ps.length := by rw [← r.length]; exact F.len _ _ _ _ q
    have bs := hb s1 us I1.kIn (by rw [List.append_nil]; exact hl)
    rw [List.append_nil] at bs
    have e0 := I1.env0
    have e1 : Env0 X.prog X.w X.K X.mg X.base X.A X.stack s1 H1 := ⟨e0.frames, e0.mod, e0.bs, e0.bsz, e0.funs, e0.frf, e0.hok, e0.bare⟩
    refine wpAny_call (codeAny_mono (F.run X.A a X.stack s1 H1 ⟨us, []⟩ us vs Q E0 hr e1 bs r q) fun r s' hq => ?_)
    cases r with
    | error e => exact False.elim hq
    | ok fl =>
      cases fl with
      | ret u => exact I1.after hq
      | next => exact False.elim hq
      | brk => exact False.elim hq
      | cont => exact False.elim hq
  · unfold dCall at h
    obtain ⟨⟨x, st1⟩, h1, h⟩ := Option.bind_eq_some_iff.mp h
    simp only at h
    split at h
    · rename_i hl
      refine sa σ H m ev st x st1 S E h1 _ fun v1 H1 m1 s1 S1 r1 => ?_
      rw [List.append_nil]
      exact ⟨m1, st1, x, d, st', S1, r1, hl, h, fun v H' m' s2 S2 r2 => q v H' m' (s1.trans s2) S2 r2⟩
    · cases h
end PD

namespace My
open PySem PySem.Spec PyProof.Rows L2 PD
/-- sign_of(number); slots: 0 number -/
noncomputable def b_sign_of : DS :=
  (dRet (dBin gSub (dAp gInt1 (dCons (dBin gGt (dVar 0) (dC (.int 0))) dNil)) (dAp gInt1 (dCons (dBin gLt (dVar 0) (dC (.int 0))) dNil))))
noncomputable def d_sign_of : DF := dDef 1 1 finP b_sign_of
noncomputable def common_wb1 : DS :=
  (dPar 0 1 (dCons (dVar 1) (dCons (dBin gMod (dVar 0) (dVar 1)) dNil)))
noncomputable def common_wc1 : DT :=
  (dB (dBin gGt (dVar 1) (dC (.int 0))))
/-- common(one, other); slots: 0 one 1 other -/
noncomputable def b_common : DS :=
  (dSeq (dAsg (dAp gAbs (dCons (dVar 0) dNil)) (gtName 0))
    (dSeq (dAsg (dAp gAbs (dCons (dVar 1) dNil)) (gtName 1))
    (dSeq (dWhile FU common_wc1 common_wb1)
    (dRet (dVar 0)))))
noncomputable def d_common : DF := dDef 2 2 finP b_common
/-- through(one, other); slots: 0 one 1 other 2 a 3 b 4 by -/
noncomputable def b_through : DS :=
  (dSeq (dIf (dB (dBin gEq (dVar 0) (dVar 1))) dNever dNext)
    (dSeq (dAsg (dBin gSub (dBin gIx (dVar 1) (dC (.int 1))) (dBin gIx (dVar 0) (dC (.int 1)))) (gtName 2))
    (dSeq (dAsg (dBin gSub (dBin gIx (dVar 0) (dC (.int 0))) (dBin gIx (dVar 1) (dC (.int 0)))) (gtName 3))
    (dSeq (dAsg (dCall 2 d_common (dCons (dVar 2) (dCons (dVar 3) dNil))) (gtName 4))
    (dSeq (dIf (dOr (dB (dBin gLt (dVar 2) (dC (.int 0)))) (dAnd (dB (dBin gEq (dVar 2) (dC (.int 0)))) (dB (dBin gLt (dVar 3) (dC (.int 0)))))) (dAsg (dUn gNeg (dVar 4)) (gtName 4)) dNext)
    (dSeq (dAug 2 (dVar 4) gFdiv)
    (dSeq (dAug 3 (dVar 4) gFdiv)
    (dRet (dAp gTupD (dCons (dVar 2) (dCons (dVar 3) (dCons (dBin gAdd (dBin gMul (dVar 2) (dBin gIx (dVar 0) (dC (.int 0)))) (dBin gMul (dVar 3) (dBin gIx (dVar 0) (dC (.int 1))))) dNil))))))))))))
noncomputable def d_through : DF := dDef 2 5 finP b_through
/-- side(line, point); slots: 0 line 1 point 2 a 3 b 4 c -/
noncomputable def b_side : DS :=
  (dSeq (dAsg (dVar 0) (gtTup 3 (gsCons (gtName 2) (gsCons (gtName 3) (gsCons (gtName 4) gsNil)))))
    (dRet (dCall 1 d_sign_of (dCons (dBin gSub (dBin gAdd (dBin gMul (dVar 2) (dBin gIx (dVar 1) (dC (.int 0)))) (dBin gMul (dVar 3) (dBin gIx (dVar 1) (dC (.int 1))))) (dVar 4)) dNil))))
noncomputable def d_side : DF := dDef 2 5 finP b_side
noncomputable def counts_el1 : DE :=
  (dCall 2 d_side (dCons (dVar 0) (dCons (dVar 3) dNil)))
/-- counts(line, heap); slots: 0 line 1 heap 2 sides 3 point -/
noncomputable def b_counts : DS :=
  (dSeq (dAsg (dLc (diAny (dVar 1)) (gtName 3) dYes counts_el1 [3]) (gtName 2))
    (dRet (dAp gTupD (dCons (dMthK "list" gCountI (dVar 2) (dCons (dUn gNeg (dC (.int 1))) dNil)) (dCons (dMthK "list" gCountI (dVar 2) (dCons (dC (.int 0)) dNil)) (dCons (dMthK "list" gCountI (dVar 2) (dCons (dC (.int 1)) dNil)) dNil))))))
noncomputable def d_counts : DF := dDef 2 4 finP b_counts
/-- halves(line, heap); slots: 0 line 1 heap 2 below 3 on 4 above -/
noncomputable def b_halves : DS :=
  (dSeq (dAsg (dCall 2 d_counts (dCons (dVar 0) (dCons (dVar 1) dNil))) (gtTup 3 (gsCons (gtName 2) (gsCons (gtName 3) (gsCons (gtName 4) gsNil)))))
    (dRet (dBin gLe (dBin gMul (dC (.int 2)) (dAp gMax2 (dCons (dVar 2) (dCons (dVar 4) dNil)))) (dAp gLen (dCons (dVar 1) dNil)))))
noncomputable def d_halves : DF := dDef 2 5 finP b_halves
end My

namespace My
open PySem PySem.Spec PyProof.Rows L2 PD
/-- places(heap); slots: 0 heap -/
noncomputable def b_places : DS :=
  (dRet (dAp (asLst gSortSet) (dCons (dVar 0) dNil)))
noncomputable def d_places : DF := dDef 1 1 finP b_places
/-- is_ahead(one, other); slots: 0 one 1 other -/
noncomputable def b_is_ahead : DS :=
  (dRet (dBin gGt (dBin gSub (dBin gMul (dBin gIx (dVar 0) (dC (.int 0))) (dBin gIx (dVar 1) (dC (.int 1)))) (dBin gMul (dBin gIx (dVar 0) (dC (.int 1))) (dBin gIx (dVar 1) (dC (.int 0))))) (dC (.int 0))))
noncomputable def d_is_ahead : DF := dDef 2 2 finP b_is_ahead
/-- goes_first(one, other); slots: 0 one 1 other -/
noncomputable def b_goes_first : DS :=
  (dSeq (dIf (dB (dBin gNe (dSlice (dVar 0) doNone (doSome (dC (.int 2)))) (dSlice (dVar 1) doNone (doSome (dC (.int 2)))))) (dRet (dCall 2 d_is_ahead (dCons (dVar 0) (dCons (dVar 1) dNil)))) dNext)
    (dRet (dBin gLt (dBin gIx (dVar 0) (dC (.int 2))) (dBin gIx (dVar 1) (dC (.int 2))))))
noncomputable def d_goes_first : DF := dDef 2 2 finP b_goes_first
noncomputable def merged_wb1 : DS :=
  (dSeq (dDrop (dMut gAppend (dVar 2) (dCons (dBin gIx (dVar 0) (dVar 3)) dNil)))
    (dAsg (dBin gAdd (dVar 3) (dC (.int 1))) (gtName 3)))
noncomputable def merged_wc1 : DT :=
  (dAnd (dB (dBin gLt (dVar 3) (dAp gLen (dCons (dVar 0) dNil)))) (dB (dCall 2 d_goes_first (dCons (dBin gIx (dVar 0) (dVar 3)) (dCons (dVar 4) dNil)))))
noncomputable def merged_for1 : DS :=
  (dSeq (dWhile FU merged_wc1 merged_wb1)
    (dIf (dOr (dB (dBin gEq (dVar 3) (dAp gLen (dCons (dVar 0) dNil)))) (dB (dBin gNe (dBin gIx (dVar 0) (dVar 3)) (dVar 4)))) (dDrop (dMut gAppend (dVar 2) (dCons (dVar 4) dNil))) dNext))
/-- merged(one, other); slots: 0 one 1 other 2 found 3 k 4 line -/
noncomputable def b_merged : DS :=
  (dSeq (dAsg (dApM gLstD dNil) (gtName 2))
    (dSeq (dAsg (dC (.int 0)) (gtName 3))
    (dSeq (dFor (diAny (dVar 1)) (gtName 4) merged_for1)
    (dRet (dBin gAdd (dVar 2) (dSlice (dVar 0) (doSome (dVar 3)) doNone))))))
noncomputable def d_merged : DF := dDef 2 5 finP b_merged
noncomputable def lines_in_order_el1 : DE :=
  (dAp (asLst gLstD) (dCons (dVar 3) dNil))
noncomputable def lines_in_order_el2 : DE :=
  (dCall 2 d_merged (dCons (dBin gIx (dVar 1) (dVar 4)) (dCons (dBin gIx (dVar 1) (dBin gAdd (dVar 4) (dC (.int 1)))) dNil)))
noncomputable def lines_in_order_wb1 : DS :=
  (dSeq (dAsg (dLc (diRng3 (dCons (dC (.int 0)) (dCons (dBin gSub (dAp gLen (dCons (dVar 1) dNil)) (dC (.int 1))) (dCons (dC (.int 2)) dNil)))) (gtName 4) dYes lines_in_order_el2 [4]) (gtName 2))
    (dAsg (dBin gAdd (dVar 2) (dSlice (dVar 1) (doSome (dBin gMul (dC (.int 2)) (dAp gLen (dCons (dVar 2) dNil)))) doNone)) (gtName 1)))
noncomputable def lines_in_order_wc1 : DT :=
  (dB (dBin gGt (dAp gLen (dCons (dVar 1) dNil)) (dC (.int 1))))
/-- lines_in_order(lines); slots: 0 lines 1 rows 2 some 3 line 4 k -/
noncomputable def b_lines_in_order : DS :=
  (dSeq (dAsg (dLc (diAny (dVar 0)) (gtName 3) dYes lines_in_order_el1 [3]) (gtName 1))
    (dSeq (dWhile FU lines_in_order_wc1 lines_in_order_wb1)
    (dRet (dBin gIx (dBin gAdd (dVar 1) (dAp (asLst gLstD) (dCons (dAp (asLst gLstD) dNil) dNil))) (dC (.int 0))))))
noncomputable def d_lines_in_order : DF := dDef 1 5 finP b_lines_in_order
noncomputable def lines_of_el1 : DE :=
  (dCall 2 d_through (dCons (dVar 4) (dCons (dVar 5) dNil)))
noncomputable def lines_of_for1 : DS :=
  (dDrop (dMut gExtend (dVar 2) (dCons (dLc (diAny (dSlice (dVar 1) doNone (doSome (dVar 3)))) (gtName 5) dYes lines_of_el1 [5]) dNil)))
/-- lines_of(heap); slots: 0 heap 1 some 2 found 3 k 4 place 5 other -/
noncomputable def b_lines_of : DS :=
  (dSeq (dAsg (dCall 1 d_places (dCons (dVar 0) dNil)) (gtName 1))
    (dSeq (dAsg (dApM gLstD dNil) (gtName 2))
    (dSeq (dFor (diEnum (dVar 1)) (gtTup 2 (gsCons (gtName 3) (gsCons (gtName 4) gsNil))) lines_of_for1)
    (dRet (dCall 1 d_lines_in_order (dCons (dVar 2) dNil))))))
noncomputable def d_lines_of : DF := dDef 1 6 finP b_lines_of
noncomputable def all_lines_el1 : DE :=
  (dVar 2)
noncomputable def all_lines_if1 : DT :=
  (dAnd (dB (dCall 2 d_halves (dCons (dVar 2) (dCons (dVar 0) dNil)))) (dB (dCall 2 d_halves (dCons (dVar 2) (dCons (dVar 1) dNil)))))
/-- all_lines(one, other); slots: 0 one 1 other 2 line -/
noncomputable def b_all_lines : DS :=
  (dRet (dLcM (diAny (dCall 1 d_lines_of (dCons (dBin gAdd (dAp (asLst gList1) (dCons (dVar 0) dNil)) (dAp (asLst gList1) (dCons (dVar 1) dNil))) dNil))) (gtName 2) all_lines_if1 all_lines_el1 [2]))
noncomputable def d_all_lines : DF := dDef 2 3 finM b_all_lines
end My

namespace My
open PySem PySem.Spec PyProof.Rows L2 PD
noncomputable def law_pot_for1 : DS :=
  (dAsg (dBin gMod (dBin gAdd (dBin gMul (dVar 3) (dC (.int 39373))) (dVar 4)) (dC (.int 2147483629))) (gtName 3))
/-- _law_pot(script, k); slots: 0 script 1 k 2 cell 3 mixed 4 one -/
noncomputable def b_law_pot : DS :=
  (dSeq (dAsg (dIfE (dB (dBin gLt (dVar 1) (dAp gLen (dCons (dVar 0) dNil)))) (dBin gIx (dVar 0) (dVar 1)) (dC (.int 0))) (gtName 2))
    (dSeq (dAsg (dBin gAdd (dC (.int 1000003)) (dBin gMul (dC (.int 7919)) (dVar 1))) (gtName 3))
    (dSeq (dFor (diAny (dSlice (dVar 0) doNone (doSome (dC (.int 40))))) (gtName 4) law_pot_for1)
    (dRet (dApM gLstD (dCons (dAp gMax2 (dCons (dC (.int 0)) (dCons (dBin gSub (dVar 2) (dBin gPow (dC (.int 10)) (dC (.int 18)))) dNil))) (dCons (dVar 3) dNil)))))))
noncomputable def d_law_pot : DF := dDef 2 5 finM b_law_pot
/-- _law_take(pot, many); slots: 0 pot 1 many 2 digit -/
noncomputable def b_law_take : DS :=
  (dSeq (dIf (dB (dBin gGt (dBin gIx (dVar 0) (dC (.int 0))) (dC (.int 0)))) (dSeq (dAsg (dBin gMod (dBin gIx (dVar 0) (dC (.int 0))) (dVar 1)) (gtName 2))
    (dSeq (dAsgX (dBin gFdiv (dBin gIx (dVar 0) (dC (.int 0))) (dVar 1)) (gxSub (dVar 0) (dC (.int 0))))
    (dRet (dVar 2)))) dNext)
    (dSeq (dAsgX (dBin gMod (dBin gAdd (dBin gMul (dBin gIx (dVar 0) (dC (.int 1))) (dC (.int 39373))) (dC (.int 2311))) (dC (.int 2147483629))) (gxSub (dVar 0) (dC (.int 1))))
    (dRet (dBin gMod (dBin gFdiv (dBin gMod (dBin gMul (dBin gIx (dVar 0) (dC (.int 1))) (dBin gIx (dVar 0) (dC (.int 1)))) (dC (.int 2147483587))) (dC (.int 17))) (dVar 1)))))
noncomputable def d_law_take : DF := dDef 2 3 finP b_law_take
noncomputable def law_wide_for1 : DS :=
  (dAsg (dBin gAdd (dBin gMul (dVar 1) (dBin gPow (dC (.int 10)) (dC (.int 8)))) (dCall 2 d_law_take (dCons (dVar 0) (dCons (dBin gPow (dC (.int 10)) (dC (.int 8))) dNil)))) (gtName 1))
/-- _law_wide(pot); slots: 0 pot 1 found 2 k -/
noncomputable def b_law_wide : DS :=
  (dSeq (dAsg (dC (.int 0)) (gtName 1))
    (dSeq (dFor (diRng1 (dC (.int 4))) (gtName 2) law_wide_for1)
    (dRet (dBin gAdd (dBin gSub (dBin gMod (dVar 1) (dBin gSub (dBin gMul (dC (.int 2)) (dBin gPow (dC (.int 10)) (dC (.int 30)))) (dC (.int 1)))) (dBin gPow (dC (.int 10)) (dC (.int 30)))) (dC (.int 1))))))
noncomputable def d_law_wide : DF := dDef 1 3 finP b_law_wide
end My

namespace My
open PySem PySem.Spec PyProof.Rows L2 PD
/-- _law_sum(one, two, three); slots: 0 one 1 two 2 three 3 found -/
noncomputable def b_law_sum : DS :=
  (dSeq (dAsg (dBin gMul (dBin gIx (dVar 0) (dC (.int 0))) (dBin gSub (dBin gIx (dVar 1) (dC (.int 1))) (dBin gIx (dVar 2) (dC (.int 1))))) (gtName 3))
    (dSeq (dAsg (dBin gAdd (dVar 3) (dBin gMul (dBin gIx (dVar 1) (dC (.int 0))) (dBin gSub (dBin gIx (dVar 2) (dC (.int 1))) (dBin gIx (dVar 0) (dC (.int 1)))))) (gtName 3))
    (dRet (dBin gAdd (dVar 3) (dBin gMul (dBin gIx (dVar 2) (dC (.int 0))) (dBin gSub (dBin gIx (dVar 0) (dC (.int 1))) (dBin gIx (dVar 1) (dC (.int 1)))))))))
noncomputable def d_law_sum : DF := dDef 3 4 finP b_law_sum
noncomputable def law_is_free_el1 : DE :=
  (dCall 3 d_law_sum (dCons (dBin gIx (dVar 1) (dVar 2)) (dCons (dVar 3) (dCons (dVar 0) dNil))))
noncomputable def law_is_free_for1 : DS :=
  (dIf (dB (dBin gIn (dC (.int 0)) (dLc (diAny (dSlice (dVar 1) doNone (doSome (dVar 2)))) (gtName 3) dYes law_is_free_el1 [3]))) (dRet (dC (.bl false))) dNext)
/-- _law_is_free(point, some); slots: 0 point 1 some 2 k 3 other -/
noncomputable def b_law_is_free : DS :=
  (dSeq (dIf (dB (dBin gIn (dVar 0) (dVar 1))) (dRet (dC (.bl false))) dNext)
    (dSeq (dFor (diRng1 (dAp gLen (dCons (dVar 1) dNil))) (gtName 2) law_is_free_for1)
    (dRet (dC (.bl true)))))
noncomputable def d_law_is_free : DF := dDef 2 4 finP b_law_is_free
end My

namespace My
open PySem PySem.Spec PyProof.Rows L2 PD
/-- _law_number(pot); slots: 0 pot -/
noncomputable def b_law_number : DS :=
  (dSeq (dIf (dB (dBin gEq (dCall 2 d_law_take (dCons (dVar 0) (dCons (dC (.int 12)) dNil))) (dC (.int 11)))) (dRet (dCall 1 d_law_wide (dCons (dVar 0) dNil))) dNext)
    (dRet (dBin gSub (dCall 2 d_law_take (dCons (dVar 0) (dCons (dC (.int 41)) dNil))) (dC (.int 20)))))
noncomputable def d_law_number : DF := dDef 1 1 finP b_law_number
noncomputable def law_free_for1 : DS :=
  (dSeq (dAsg (dAp gTupD (dCons (dCall 1 d_law_number (dCons (dVar 0) dNil)) (dCons (dCall 1 d_law_number (dCons (dVar 0) dNil)) dNil))) (gtName 3))
    (dIf (dB (dCall 2 d_law_is_free (dCons (dVar 3) (dCons (dVar 1) dNil)))) (dRet (dVar 3)) dNext))
noncomputable def law_free_wb1 : DS :=
  (dAsg (dBin gAdd (dVar 4) (dC (.int 1))) (gtName 4))
noncomputable def law_free_wc1 : DT :=
  (dNot (dB (dCall 2 d_law_is_free (dCons (dAp gTupD (dCons (dVar 4) (dCons (dBin gMul (dVar 4) (dVar 4)) dNil))) (dCons (dVar 1) dNil)))))
/-- _law_free(pot, some); slots: 0 pot 1 some 2 again 3 point 4 far -/
noncomputable def b_law_free : DS :=
  (dSeq (dFor (diRng1 (dC (.int 6))) (gtName 2) law_free_for1)
    (dSeq (dAsg (dC (.int 0)) (gtName 4))
    (dSeq (dWhile FU law_free_wc1 law_free_wb1)
    (dRet (dAp gTupD (dCons (dVar 4) (dCons (dBin gMul (dVar 4) (dVar 4)) dNil)))))))
noncomputable def d_law_free : DF := dDef 2 5 finP b_law_free
noncomputable def law_odd_heaps_for1 : DS :=
  (dDrop (dMut gAppend (dVar 3) (dCons (dCall 2 d_law_free (dCons (dVar 0) (dCons (dBin gAdd (dBin gIx (dVar 2) (dC (.int 0))) (dBin gIx (dVar 2) (dC (.int 1)))) dNil))) dNil)))
noncomputable def law_odd_heaps_for2 : DS :=
  (dFor (diRng1 (dBin gAdd (dC (.int 1)) (dBin gMul (dC (.int 2)) (dCall 2 d_law_take (dCons (dVar 0) (dCons (dVar 1) dNil)))))) (gtName 4) law_odd_heaps_for1)
/-- _law_odd_heaps(pot, most); slots: 0 pot 1 most 2 heaps 3 heap 4 k -/
noncomputable def b_law_odd_heaps : DS :=
  (dSeq (dAsg (dApM gLstD (dCons (dApM gLstD dNil) (dCons (dApM gLstD dNil) dNil))) (gtName 2))
    (dSeq (dFor (diAny (dVar 2)) (gtName 3) law_odd_heaps_for2)
    (dRet (dVar 2))))
noncomputable def d_law_odd_heaps : DF := dDef 2 5 finP b_law_odd_heaps
end My

namespace My
open PySem PySem.Spec PyProof.Rows L2 PD
noncomputable def law_gap_el1 : DE :=
  (dBin gAdd (dBin gMul (dBin gIx (dVar 1) (dC (.int 0))) (dVar 5)) (dBin gMul (dBin gIx (dVar 1) (dC (.int 1))) (dVar 6)))
noncomputable def law_gap_for1 : DS :=
  (dSeq (dAsg (dAp (asLst gSort) (dCons (dLc (diAny (dVar 3)) (gtTup 2 (gsCons (gtName 5) (gsCons (gtName 6) gsNil))) dYes law_gap_el1 [5, 6]) dNil)) (gtName 4))
    (dDrop (dMut gAppend (dVar 2) (dCons (dBin gIx (dVar 4) (dBin gFdiv (dAp gLen (dCons (dVar 4) dNil)) (dC (.int 2)))) dNil))))
/-- _law_gap(heaps, arrow); slots: 0 heaps 1 arrow 2 found 3 heap 4 told 5 x 6 y -/
noncomputable def b_law_gap : DS :=
  (dSeq (dAsg (dApM gLstD dNil) (gtName 2))
    (dSeq (dFor (diAny (dVar 0)) (gtName 3) law_gap_for1)
    (dRet (dBin gSub (dBin gIx (dVar 2) (dC (.int 0))) (dBin gIx (dVar 2) (dC (.int 1)))))))
noncomputable def d_law_gap : DF := dDef 2 7 finP b_law_gap
/-- _law_across(one, other); slots: 0 one 1 other -/
noncomputable def b_law_across : DS :=
  (dRet (dBin gSub (dBin gMul (dBin gIx (dVar 0) (dC (.int 0))) (dBin gIx (dVar 1) (dC (.int 1)))) (dBin gMul (dBin gIx (dVar 0) (dC (.int 1))) (dBin gIx (dVar 1) (dC (.int 0))))))
noncomputable def d_law_across : DF := dDef 2 2 finP b_law_across
noncomputable def law_first_wb1 : DS :=
  (dAsg (dAp gTupD (dCons (dBin gAdd (dBin gIx (dVar 2) (dC (.int 0))) (dC (.int 1))) (dCons (dBin gIx (dVar 2) (dC (.int 1))) dNil))) (gtName 2))
noncomputable def law_first_wc1 : DT :=
  (dB (dBin gEq (dCall 2 d_law_gap (dCons (dVar 1) (dCons (dVar 2) dNil))) (dC (.int 0))))
/-- _law_first(pot, heaps); slots: 0 pot 1 heaps 2 arrow -/
noncomputable def b_law_first : DS :=
  (dSeq (dAsg (dAp gTupD (dCons (dBin gSub (dCall 2 d_law_take (dCons (dVar 0) (dCons (dC (.int 19)) dNil))) (dC (.int 9))) (dCons (dBin gAdd (dC (.int 1)) (dCall 2 d_law_take (dCons (dVar 0) (dCons (dC (.int 9)) dNil)))) dNil))) (gtName 2))
    (dSeq (dWhile FU law_first_wc1 law_first_wb1)
    (dRet (dVar 2))))
noncomputable def d_law_first : DF := dDef 2 3 finP b_law_first
/-- _law_next(pot, one, other); slots: 0 pot 1 one 2 other 3 p 4 q -/
noncomputable def b_law_next : DS :=
  (dSeq (dIf (dB (dBin gEq (dCall 2 d_law_across (dCons (dVar 1) (dCons (dVar 2) dNil))) (dC (.int 0)))) (dSeq (dAsg (dAp gTupD (dCons (dUn gNeg (dBin gIx (dVar 1) (dC (.int 1)))) (dCons (dBin gIx (dVar 1) (dC (.int 0))) dNil))) (gtName 2))
    (dAsg (dBin gIx (dAp (asLst gLstD) (dCons (dVar 1) (dCons (dAp gTupD (dCons (dUn gNeg (dBin gIx (dVar 1) (dC (.int 0)))) (dCons (dUn gNeg (dBin gIx (dVar 1) (dC (.int 1)))) dNil))) dNil))) (dCall 2 d_law_take (dCons (dVar 0) (dCons (dC (.int 2)) dNil)))) (gtName 1))) dNext)
    (dSeq (dPar 3 4 (dCons (dBin gAdd (dC (.int 1)) (dCall 2 d_law_take (dCons (dVar 0) (dCons (dC (.int 5)) dNil)))) (dCons (dBin gAdd (dC (.int 1)) (dCall 2 d_law_take (dCons (dVar 0) (dCons (dC (.int 5)) dNil)))) dNil)))
    (dRet (dAp gTupD (dCons (dBin gAdd (dBin gMul (dVar 3) (dBin gIx (dVar 1) (dC (.int 0)))) (dBin gMul (dVar 4) (dBin gIx (dVar 2) (dC (.int 0))))) (dCons (dBin gAdd (dBin gMul (dVar 3) (dBin gIx (dVar 1) (dC (.int 1)))) (dBin gMul (dVar 4) (dBin gIx (dVar 2) (dC (.int 1))))) dNil))))))
noncomputable def d_law_next : DF := dDef 3 5 finP b_law_next
noncomputable def law_lies_for1 : DS :=
  (dIf (dAnd (dB (dBin gGt (dCall 2 d_law_across (dCons (dVar 1) (dCons (dVar 3) dNil))) (dC (.int 0)))) (dB (dBin gGt (dCall 2 d_law_across (dCons (dVar 3) (dCons (dVar 2) dNil))) (dC (.int 0))))) (dRet (dC (.bl true))) dNext)
/-- _law_lies(line, one, other); slots: 0 line 1 one 2 other 3 normal -/
noncomputable def b_law_lies : DS :=
  (dSeq (dFor (diAny (dAp (asLst gLstD) (dCons (dAp gTupD (dCons (dBin gIx (dVar 0) (dC (.int 0))) (dCons (dBin gIx (dVar 0) (dC (.int 1))) dNil))) (dCons (dAp gTupD (dCons (dUn gNeg (dBin gIx (dVar 0) (dC (.int 0)))) (dCons (dUn gNeg (dBin gIx (dVar 0) (dC (.int 1)))) dNil))) dNil)))) (gtName 3) law_lies_for1)
    (dRet (dC (.bl false))))
noncomputable def d_law_lies : DF := dDef 3 4 finP b_law_lies
noncomputable def law_odd_between_el1 : DE :=
  (dVar 3)
noncomputable def law_odd_between_if1 : DT :=
  (dB (dCall 3 d_law_lies (dCons (dVar 3) (dCons (dVar 1) (dCons (dVar 2) dNil)))))
/-- _law_odd_between(lines, one, other); slots: 0 lines 1 one 2 other 3 line -/
noncomputable def b_law_odd_between : DS :=
  (dRet (dBin gEq (dBin gMod (dAp gLen (dCons (dLc (diAny (dVar 0)) (gtName 3) law_odd_between_if1 law_odd_between_el1 [3]) dNil)) (dC (.int 2))) (dC (.int 1))))
noncomputable def d_law_odd_between : DF := dDef 3 4 finP b_law_odd_between
noncomputable def law_el1 : DE :=
  (dCall 3 d_law_lies (dCons (dVar 10) (dCons (dVar 5) (dCons (dVar 6) dNil))))
noncomputable def law_for1 : DS :=
  (dSeq (dIf (dNot (dB (dCall 3 d_law_odd_between (dCons (dVar 4) (dCons (dVar 5) (dCons (dVar 6) dNil)))))) (dRet (dC (.bl false))) dNext)
    (dSeq (dAsg (dCall 3 d_law_next (dCons (dVar 2) (dCons (dVar 5) (dCons (dVar 6) dNil)))) (gtName 8))
    (dSeq (dAsg (dCall 2 d_law_gap (dCons (dVar 3) (dCons (dVar 8) dNil))) (gtName 9))
    (dIf (dB (dBin gLt (dBin gMul (dVar 9) (dCall 2 d_law_gap (dCons (dVar 3) (dCons (dVar 5) dNil)))) (dC (.int 0)))) (dAsg (dVar 8) (gtName 6)) (dIf (dB (dBin gNe (dVar 9) (dC (.int 0)))) (dAsg (dVar 8) (gtName 5)) dNext)))))
noncomputable def law_for2 : DS :=
  (dSeq (dAsg (dCall 2 d_law_pot (dCons (dVar 0) (dCons (dVar 1) dNil))) (gtName 2))
    (dSeq (dAsg (dCall 2 d_law_odd_heaps (dCons (dVar 2) (dCons (dC (.int 4)) dNil))) (gtName 3))
    (dSeq (dAsg (dCall 2 d_all_lines (dCons (dBin gIx (dVar 3) (dC (.int 0))) (dCons (dBin gIx (dVar 3) (dC (.int 1))) dNil))) (gtName 4))
    (dSeq (dAsg (dCall 2 d_law_first (dCons (dVar 2) (dCons (dVar 3) dNil))) (gtName 5))
    (dSeq (dAsg (dAp gTupD (dCons (dUn gNeg (dBin gIx (dVar 5) (dC (.int 0)))) (dCons (dUn gNeg (dBin gIx (dVar 5) (dC (.int 1)))) dNil))) (gtName 6))
    (dSeq (dIf (dNot (dB (dAp gAll (dCons (dLc (diAny (dVar 4)) (gtName 10) dYes law_el1 [10]) dNil)))) (dRet (dC (.bl false))) dNext)
    (dFor (diRng1 (dC (.int 7))) (gtName 7) law_for1)))))))
/-- law(script); slots: 0 script 1 k 2 pot 3 heaps 4 lines 5 one 6 other 7 again 8 arrow 9 apart 10 line -/
noncomputable def b_law : DS :=
  (dSeq (dFor (diRng1 (dAp gMax2 (dCons (dC (.int 1)) (dCons (dAp gMin2 (dCons (dAp gLen (dCons (dVar 0) dNil)) (dCons (dC (.int 3)) dNil))) dNil)))) (gtName 1) law_for2)
    (dRet (dC (.bl true))))
noncomputable def d_law : DF := dDef 1 11 finP b_law
end My

namespace My
open PySem PySem.Spec PyProof.Rows L2 PD
/-- turn(one, two, three); slots: 0 one 1 two 2 three 3 across -/
noncomputable def b_turn : DS :=
  (dSeq (dAsg (dBin gSub (dBin gMul (dBin gSub (dBin gIx (dVar 1) (dC (.int 0))) (dBin gIx (dVar 0) (dC (.int 0)))) (dBin gSub (dBin gIx (dVar 2) (dC (.int 1))) (dBin gIx (dVar 0) (dC (.int 1))))) (dBin gMul (dBin gSub (dBin gIx (dVar 1) (dC (.int 1))) (dBin gIx (dVar 0) (dC (.int 1)))) (dBin gSub (dBin gIx (dVar 2) (dC (.int 0))) (dBin gIx (dVar 0) (dC (.int 0)))))) (gtName 3))
    (dRet (dCall 1 d_sign_of (dCons (dVar 3) dNil))))
noncomputable def d_turn : DF := dDef 3 4 finP b_turn
noncomputable def is_free_el1 : DE :=
  (dBin gEq (dCall 3 d_turn (dCons (dVar 3) (dCons (dVar 4) (dCons (dVar 0) dNil)))) (dC (.int 0)))
noncomputable def is_free_for1 : DS :=
  (dIf (dOr (dB (dBin gEq (dVar 3) (dVar 0))) (dB (dAp gAny (dCons (dLc (diAny (dSlice (dVar 1) doNone (doSome (dVar 2)))) (gtName 4) dYes is_free_el1 [4]) dNil)))) (dRet (dC (.bl false))) dNext)
/-- is_free(point, some); slots: 0 point 1 some 2 k 3 one 4 other -/
noncomputable def b_is_free : DS :=
  (dSeq (dFor (diEnum (dVar 1)) (gtTup 2 (gsCons (gtName 2) (gsCons (gtName 3) gsNil))) is_free_for1)
    (dRet (dC (.bl true))))
noncomputable def d_is_free : DF := dDef 2 5 finP b_is_free
noncomputable def are_plain_el1 : DE :=
  (dCall 2 d_is_free (dCons (dVar 4) (dCons (dSlice (dVar 2) doNone (doSome (dVar 3))) dNil)))
/-- are_plain(one, other); slots: 0 one 1 other 2 some 3 k 4 point -/
noncomputable def b_are_plain : DS :=
  (dSeq (dAsg (dBin gAdd (dAp (asLst gList1) (dCons (dVar 0) dNil)) (dAp (asLst gList1) (dCons (dVar 1) dNil))) (gtName 2))
    (dRet (dAp gAll (dCons (dLc (diEnum (dVar 2)) (gtTup 2 (gsCons (gtName 3) (gsCons (gtName 4) gsNil))) dYes are_plain_el1 [3, 4]) dNil))))
noncomputable def d_are_plain : DF := dDef 2 5 finP b_are_plain
end My

namespace My
open PySem PySem.Spec PyProof.Rows L2 PD
local macro_rules | `(tactic| walk_at "bdn") => `(tactic| first
  | assumption
  | exact Bd.lit _ 64 (by decide)
  | (refine Bd.mul (n := ?_) (k := ?_) ?_ ?_ <;> walk_at "bdn")
  | (refine Bd.add (n := ?_) (k := ?_) ?_ ?_ <;> walk_at "bdn")
  | (refine Bd.sub (n := ?_) (k := ?_) ?_ ?_ <;> walk_at "bdn")
  | (refine Bd.neg (n := ?_) ?_ <;> walk_at "bdn")
  | exact Bd.om (by omega)
  | exact Bd.om2 (by omega))
local macro_rules | `(tactic| walk_at "bd") => `(tactic| first
  | (refine okMul_of ?_ ?_ ?_ ?_; (walk_at "bdn"); (walk_at "bdn"); decide; decide)
  | (refine okDiv_of ?_ ?_ ?_; omega; (walk_at "bdn"); decide)
  | (refine Bd.mono ?_ ?_; (walk_at "bdn"); decide))
def pt (p : Int × Int) : Dt := .tup [.int p.1, .int p.2]
def tri (l : Int × Int × Int) : Dt := .tup [.int l.1, .int l.2.1, .int l.2.2]
@[simp] theorem low_pt {n : Nat} {p : Int × Int} : low n (pt p) = true := by simp [pt]
@[simp] theorem low_tri {n : Nat} {p : Int × Int × Int} : low n (tri p) = true := by simp [tri]
@[simp] theorem lowL_pts {n : Nat} {h : List (Int × Int)} : lowL n (h.map pt) = true := lowL_all fun d hd => by
  obtain ⟨p, _, rfl⟩ := List.mem_map.mp hd
  exact low_pt
/-! == -/
theorem py_int {st : Sto} {f : Nat} {i : Int} : py st f (.int i) = some (.int i) := by cases f <;> simp only [py]
theorem py_bl {st : Sto} {f : Nat} {i : Bool} : py st f (.bl i) = some (.bool i) := by cases f <;> simp only [py]
theorem py_pt {st : Sto} {f : Nat} {p : Int × Int} : py st (f + 1) (pt p) = some (.tuple [.int p.1, .int p.2]) := by
  simp only [py, pt, mapO, py_int, Option.bind_some, Option.map_some]
theorem py_tri {st : Sto} {f : Nat} {p : Int × Int × Int} : py st (f + 1) (tri p) = some (.tuple [.int p.1, .int p.2.1, .int p.2.2]) := by
  simp only [py, tri, mapO, py_int, Option.bind_some, Option.map_some]
@[simp] theorem gEq_int {st : Sto} {i j : Int} : gEq st (.int i) (.int j) = some (.bl (decide (i = j))) := by
  simp only [gEq, py_int, Option.bind_some, Option.map_some, PyData.eqv, Option.some.injEq, Dt.bl.injEq]
  by_cases h : i = j <;> simp [h]
@[simp] theorem gNe_int {st : Sto} {i j : Int} : gNe st (.int i) (.int j) = some (.bl (!decide (i = j))) := by
  simp only [gNe, py_int, Option.bind_some, Option.map_some, PyData.eqv, Option.some.injEq, Dt.bl.injEq]
  by_cases h : i = j <;> simp [h]
theorem eqv_pt (p q : Int × Int) : PyData.eqv (.tuple [.int p.1, .int p.2]) (.tuple [.int q.1, .int q.2]) = decide (p = q) := by
  obtain ⟨a, b⟩ := p
  obtain ⟨c, d⟩ := q
  simp only [PyData.eqv, PyData.eqvAll, Bool.and_true, Prod.mk.injEq]
  by_cases h1 : a = c <;> by_cases h2 : b = d <;> simp [h1, h2]
@[simp] theorem gEq_pt {st : Sto} {p q : Int × Int} : gEq st (pt p) (pt q) = some (.bl (decide (p = q))) := by
  simp only [gEq, py_pt, Option.bind_some, Option.map_some, eqv_pt]
@[simp] theorem gNe_pt {st : Sto} {p q : Int × Int} : gNe st (pt p) (pt q) = some (.bl (!decide (p = q))) := by
  simp only [gNe, py_pt, Option.bind_some, Option.map_some, eqv_pt]
@[simp] theorem gIx_pt0 {st : Sto} {p : Int × Int} : gIx st (pt p) (.int 0) = some (.int p.1) := by simp [pt]
@[simp] theorem gIx_pt1 {st : Sto} {p : Int × Int} : gIx st (pt p) (.int 1) = some (.int p.2) := by simp [pt]
@[simp] theorem gIx_tri0 {st : Sto} {p : Int × Int × Int} : gIx st (tri p) (.int 0) = some (.int p.1) := by simp [tri]
@[simp] theorem gIx_tri1 {st : Sto} {p : Int × Int × Int} : gIx st (tri p) (.int 1) = some (.int p.2.1) := by simp [tri]
@[simp] theorem gIx_tri2 {st : Sto} {p : Int × Int × Int} : gIx st (tri p) (.int 2) = some (.int p.2.2) := by simp [tri]

theorem rng_get {lo hi : Int} {i : Nat} {d : Dt} (h : (rngD lo hi)[i]? = some d) : d = .int (lo + i) ∧ (i : Int) < hi - lo := by
  unfold rngD at h
  rw [List.getElem?_map] at h
  obtain ⟨j, h1, h2⟩ := Option.map_eq_some_iff.mp h
  obtain ⟨h3, h4⟩ := List.getElem?_eq_some_iff.mp h1
  rw [List.getElem_range] at h4
  rw [List.length_range] at h3
  subst h4
  exact ⟨h2.symm, by omega⟩
theorem rng_len (lo hi : Int) : (rngD lo hi).length = (hi - lo).toNat := by unfold rngD; rw [List.length_map, List.length_range]
@[simp] theorem okR_small {n : Int} : okR n = decide (-(2 ^ 62) ≤ n ∧ n < 2 ^ 62) := (rfl)
/-- a number below 10 ** 30 -/
def In30 (x : Int) : Prop := -1000000000000000000000000000000 < x ∧ x < 1000000000000000000000000000000
theorem In30.bd {x : Int} (h : In30 x) : Bd 128 x := Bd.om2 (by unfold In30 at h; omega)
/-! ## heaps compared -/
def pyPt (p : Int × Int) : PyData := .tuple [.int p.1, .int p.2]
theorem mapO_map {α β γ : Type} {f : β → Option γ} {g : α → β} {h : α → γ} (hf : ∀ a, f (g a) = some (h a)) : ∀ l : List α, mapO f (l.map g) = some (l.map h)
  | [] => rfl
  | a :: l => by simp only [List.map_cons, mapO, hf, Option.bind_some, mapO_map hf l, Option.map_some]
theorem py_look {st : Sto} {f : Nat} {d : Dt} {ds : List Dt} {es : List PyData} (h : look st d = some ds) (hm : mapO (py st f) ds = some es) : py st (f + 1) d = some (.list es) := by
  cases d <;> simp only [look, reduceCtorEq] at h
  · cases h
    simp only [py, hm, Option.map_some]
  · split at h
    · rename_i k xs e
      cases h
      simp only [py, e, hm, Option.map_some]
    · cases h
theorem py_heap {st : Sto} {d : Dt} {h : List (Int × Int)} (hd : look st d = some (h.map pt)) : py st 9 d = some (.list (h.map pyPt)) :=
  py_look hd (mapO_map (fun p => py_pt) h)
theorem eqvAll_map {α : Type} {g : α → PyData} [DecidableEq α] (hg : ∀ a b, PyData.eqv (g a) (g b) = decide (a = b)) : ∀ l k : List α, PyData.eqvAll (l.map g) (k.map g) = decide (l = k)
  | [], [] => rfl
  | [], b :: k => by simp [PyData.eqvAll]
  | a :: l, [] => by simp [PyData.eqvAll]
  | a :: l, b :: k => by
    simp only [List.map_cons, PyData.eqvAll, hg, eqvAll_map hg l k, List.cons.injEq, Bool.decide_and]
theorem gEq_heap {st : Sto} {d e : Dt} {h k : List (Int × Int)} (hd : look st d = some (h.map pt)) (he : look st e = some (k.map pt)) : gEq st d e = some (.bl (decide (h = k))) := by
  simp only [gEq, py_heap hd, py_heap he, Option.bind_some, Option.map_some, PyData.eqv, eqvAll_map (g := pyPt) (fun a b => eqv_pt a b)]
theorem gNe_heap {st : Sto} {d e : Dt} {h k : List (Int × Int)} (hd : look st d = some (h.map pt)) (he : look st e = some (k.map pt)) : gNe st d e = some (.bl (!decide (h = k))) := by
  simp only [gNe, py_heap hd, py_heap he, Option.bind_some, Option.map_some, PyData.eqv, eqvAll_map (g := pyPt) (fun a b => eqv_pt a b)]
theorem look_nil {st : Sto} : look st (.lst []) = some (([] : List (Int × Int)).map pt) := rfl
structure Ok (n : Nat) (p : Int × Int) : Prop where
  x : Bd n p.1
  y : Bd n p.2
def In30P (p : Int × Int) : Prop := In30 p.1 ∧ In30 p.2
theorem In30P.ok {p : Int × Int} (h : In30P p) : Ok 200 p := ⟨h.1.bd.mono (by decide), h.2.bd.mono (by decide)⟩
theorem atI_map {α : Type} {f : α → Dt} {h : List α} {i : Int} (h0 : 0 ≤ i) (h1 : i < h.length) : ∃ p ∈ h, atI (h.map f) i = some (f p) ∧ h[i.toNat]? = some p := by
  obtain ⟨n, rfl⟩ := Int.eq_ofNat_of_zero_le h0
  have hi : n < h.length := by omega
  refine ⟨h[n], List.getElem_mem hi, atI_nat (by rw [List.getElem?_map, List.getElem?_eq_getElem hi]; rfl), by rw [Int.toNat_natCast, List.getElem?_eq_getElem hi]⟩
theorem atI_map_pt {h : List (Int × Int)} {i : Int} (h0 : 0 ≤ i) (h1 : i < h.length) : ∃ p ∈ h, atI (h.map pt) i = some (pt p) := by
  obtain ⟨p, a, b, _⟩ := atI_map (f := pt) h0 h1
  exact ⟨p, a, b⟩
theorem In30P.append {hp : List (Int × Int)} {q : Int × Int} (h : ∀ p ∈ hp, In30P p) (hq : In30P q) : ∀ p ∈ hp ++ [q], In30P p := fun p hp => by
  rcases List.mem_append.mp hp with hp | hp
  · exact h p hp
  · rw [List.mem_singleton.mp hp]
    exact hq
theorem map_push {hp : List (Int × Int)} {q : Int × Int} : (hp ++ [q]).map pt = hp.map pt ++ [pt q] := by rw [List.map_append]; rfl
theorem eqv_tri (p q : Int × Int × Int) : PyData.eqv (.tuple [.int p.1, .int p.2.1, .int p.2.2]) (.tuple [.int q.1, .int q.2.1, .int q.2.2]) = decide (p = q) := by
  obtain ⟨a, b, e⟩ := p
  obtain ⟨c, d, f⟩ := q
  simp only [PyData.eqv, PyData.eqvAll, Bool.and_true, Prod.mk.injEq]
  by_cases h1 : a = c <;> by_cases h2 : b = d <;> by_cases h3 : e = f <;> simp [h1, h2, h3]
theorem gEq_tri {st : Sto} {p q : Int × Int × Int} : gEq st (tri p) (tri q) = some (.bl (decide (p = q))) := by
  simp only [gEq, py_tri, Option.bind_some, Option.map_some, eqv_tri]
theorem gNe_tri {st : Sto} {p q : Int × Int × Int} : gNe st (tri p) (tri q) = some (.bl (!decide (p = q))) := by
  simp only [gNe, py_tri, Option.bind_some, Option.map_some, eqv_tri]
theorem gEq_bl {st : Sto} {i j : Bool} : gEq st (.bl i) (.bl j) = some (.bl (decide (i = j))) := by
  simp only [gEq, py_bl, Option.bind_some, Option.map_some, PyData.eqv, Option.some.injEq, Dt.bl.injEq]
  cases i <;> cases j <;> rfl
theorem gNe_bl {st : Sto} {i j : Bool} : gNe st (.bl i) (.bl j) = some (.bl (!decide (i = j))) := by
  simp only [gNe, py_bl, Option.bind_some, Option.map_some, PyData.eqv, Option.some.injEq, Dt.bl.injEq]
  cases i <;> cases j <;> rfl
theorem any_mem {α : Type} [DecidableEq α] {g : α → PyData} (hg : ∀ a b, PyData.eqv (g a) (g b) = decide (a = b)) (p : α) : ∀ l : List α, ((l.map g).any fun z => PyData.eqv z (g p)) = decide (p ∈ l)
  | [] => by simp
  | a :: l => by
    rw [List.map_cons, List.any_cons, any_mem hg p l, hg]
    by_cases h : a = p
    · simp [h]
    · have h' : ¬ p = a := fun e => h e.symm
      simp [h, h']
theorem gIn_pt {st : Sto} {d : Dt} {l : List (Int × Int)} {p : Int × Int} (hd : look st d = some (l.map pt)) : gIn st (pt p) d = some (.bl (decide (p ∈ l))) := by
  have e : py st 9 (pt p) = some (pyPt p) := py_pt
  simp only [gIn, e, py_heap hd, Option.bind_some]
  rw [any_mem (g := pyPt) (fun a b => eqv_pt a b) p l]
  exact congrArg (fun b => some (Dt.bl b)) (decide_eq_decide.mpr Iff.rfl)
theorem gNotIn_pt {st : Sto} {d : Dt} {l : List (Int × Int)} {p : Int × Int} (hd : look st d = some (l.map pt)) : gNotIn st (pt p) d = some (.bl (!decide (p ∈ l))) := by
  have e : py st 9 (pt p) = some (pyPt p) := py_pt
  simp only [gNotIn, e, py_heap hd, Option.bind_some]
  rw [any_mem (g := pyPt) (fun a b => eqv_pt a b) p l]
  exact congrArg (fun b => some (Dt.bl !b)) (decide_eq_decide.mpr Iff.rfl)
theorem gIn_int {st : Sto} {d : Dt} {l : List Int} {p : Int} (hd : look st d = some (l.map .int)) : gIn st (.int p) d = some (.bl (decide (p ∈ l))) := by
  have e := py_ints (f := 8) hd
  simp only [gIn, py_int, e, Option.bind_some]
  rw [any_mem (g := PyData.int) (fun a b => by simp only [PyData.eqv]; by_cases h : a = b <;> simp [h]) p l]
/-! two heaps in a list -/
theorem py_heaps {st : Sto} {d a b : Dt} {h k : List (Int × Int)} (hd : look st d = some [a, b]) (ha : look st a = some (h.map pt)) (hb : look st b = some (k.map pt)) : py st 9 d = some (.list [.list (h.map pyPt), .list (k.map pyPt)]) := by
  refine py_look (f := 8) hd ?_
  simp only [mapO, py_look (f := 7) ha (mapO_map (fun p => py_pt) h), py_look (f := 7) hb (mapO_map (fun p => py_pt) k), Option.bind_some, Option.map_some]
  rfl
theorem gNe_heaps {st : Sto} {d a b d' a' b' : Dt} {h k h' k' : List (Int × Int)} (hd : look st d = some [a, b]) (ha : look st a = some (h.map pt)) (hb : look st b = some (k.map pt)) (hd' : look st d' = some [a', b']) (ha' : look st a' = some (h'.map pt)) (hb' : look st b' = some (k'.map pt)) :
    gNe st d d' = some (.bl (!decide (h = h' ∧ k = k'))) := by
  have e := fun l k => eqvAll_map (g := pyPt) (fun a b => eqv_pt a b) l k
  simp only [gNe, py_heaps hd ha hb, py_heaps hd' ha' hb', Option.bind_some, Option.map_some, PyData.eqv, PyData.eqvAll, e, Bool.and_true, Bool.decide_and]
end My

namespace My
open PySem PySem.Spec PyProof.Rows L2 PD
local macro_rules | `(tactic| walk_at "bdn") => `(tactic| first
  | assumption
  | exact Bd.lit _ 64 (by decide)
  | (refine Bd.mul (n := ?_) (k := ?_) ?_ ?_ <;> walk_at "bdn")
  | (refine Bd.add (n := ?_) (k := ?_) ?_ ?_ <;> walk_at "bdn")
  | (refine Bd.sub (n := ?_) (k := ?_) ?_ ?_ <;> walk_at "bdn")
  | (refine Bd.neg (n := ?_) ?_ <;> walk_at "bdn")
  | exact Bd.om (by omega)
  | exact Bd.om2 (by omega))
local macro_rules | `(tactic| walk_at "bd") => `(tactic| first
  | (refine okMul_of ?_ ?_ ?_ ?_; (walk_at "bdn"); (walk_at "bdn"); decide; decide)
  | (refine okDiv_of ?_ ?_ ?_; omega; (walk_at "bdn"); decide)
  | (refine Bd.mono ?_ ?_; (walk_at "bdn"); decide))
def sgn (n : Int) : Int := if n > 0 then 1 else if n < 0 then -1 else 0
theorem sgn_eq (n : Int) : ((if 0 < n then (1 : Int) else 0) - if n < 0 then 1 else 0) = sgn n := by
  unfold sgn
  by_cases h1 : 0 < n
  · have : ¬ n < 0 := by omega
    simp [h1, this]
  · by_cases h2 : n < 0 <;> simp [h1, h2]
theorem sign_eq (n : Int) (st : Sto) : d_sign_of [.int n] st = some (.int (sgn n), st) := by
  simp [d_sign_of, dDef, b_sign_of, finP_same, sgn_eq]
theorem absZ_eq (a : Int) : absZ a = (a.natAbs : Int) := by
  unfold absZ
  split <;> omega
theorem common_eq {a b : Int} (h : Bd 3000 b) (st : Sto) : d_common [.int a, .int b] st = some (.int (Int.gcd a b : Nat), st) := by
  obtain ⟨ev2, st2, e, ⟨x, rfl⟩, rfl⟩ := while_inv (c := common_wc1) (b := common_wb1)
    (I := fun ev st' => (∃ x y : Nat, ev = [some (.int (x : Int)), some (.int (y : Int))] ∧ Nat.gcd x y = Int.gcd a b) ∧ st' = st) (μ := fun ev _ => match ev with
      | [_, some (.int y)] => y.natAbs
      | _ => 0) (Q := fun ev st' => (∃ x : Int, ev = [some (.int (Int.gcd a b : Nat)), some (.int x)]) ∧ st' = st) (by
      rintro ev st' ⟨⟨x, y, rfl, hg⟩, rfl⟩
      by_cases hy : y = 0
      · subst hy
        refine .inr ⟨st', by simp [common_wc1], ⟨0, ?_⟩, rfl⟩
        rw [Nat.gcd_zero_right] at hg
        rw [hg]
        rfl
      · have hy' : (0 : Int) < y := by omega
        refine .inl ⟨st', [some (.int (y : Int)), some (.int ((x % y : Nat) : Int))], st', by simp [common_wc1]; omega, ?_, ⟨⟨y, x % y, rfl, ?_⟩, rfl⟩, ?_⟩
        · simp [common_wb1, gMod_eq hy']
        · rw [← hg, Nat.gcd_comm y, Nat.gcd_comm x, ← Nat.gcd_rec]
        · show ((x % y : Nat) : Int).natAbs < ((y : Nat) : Int).natAbs
          have := Nat.mod_lt x (Nat.pos_of_ne_zero hy)
          omega) FU [some (.int (a.natAbs : Int)), some (.int (b.natAbs : Int))] st ⟨⟨a.natAbs, b.natAbs, rfl, rfl⟩, rfl⟩ (by
      show ((b.natAbs : Nat) : Int).natAbs < FU
      have := FU_big h (show 3000 ≤ 4000 by decide)
      simpa using this)
  simp [d_common, dDef, b_common, absZ_eq, dWhile_eq, e, finP_same]
/-- the line through two points -/
def thru (p q : Int × Int) : Int × Int × Int :=
  let a := q.2 - p.2
  let b := p.1 - q.1
  let g : Int := Int.gcd a b
  let s := if a < 0 ∨ (a = 0 ∧ b < 0) then -g else g
  (fdivZ a s, fdivZ b s, fdivZ a s * p.1 + fdivZ b s * p.2)
theorem gcd_bd {n : Nat} {a b : Int} (ha : Bd n a) (hb : Bd n b) : Bd n (Int.gcd a b : Nat) := by
  rw [Bd_iff] at *
  show (Int.gcd a b) < 2 ^ n
  by_cases h : a = 0
  · subst h
    rw [Int.gcd_zero_left]
    exact hb
  · have h1 : Int.gcd a b ∣ a.natAbs := Int.gcd_dvd_natAbs_left a b
    have := Nat.le_of_dvd (by omega) h1
    omega
theorem fdivZ_le {i j : Int} (h : j ≠ 0) : (fdivZ i j).natAbs ≤ i.natAbs := by
  unfold fdivZ
  split
  · exact Int.natAbs_ediv_le_natAbs i j
  · have := Int.natAbs_ediv_le_natAbs (-i) (-j)
    rwa [Int.natAbs_neg] at this
theorem thru_pos {p q : Int × Int} (h : p ≠ q) : Int.gcd (q.2 - p.2) (p.1 - q.1) ≠ 0 := by
  intro e
  rw [Int.gcd_eq_zero_iff] at e
  apply h
  refine Prod.ext ?_ ?_ <;> omega
theorem through_eq {p q : Int × Int} (hp : Ok 200 p) (hq : Ok 200 q) (h : p ≠ q) (st : Sto) : d_through [pt p, pt q] st = some (tri (thru p q), st) := by
  have ba : Bd 201 (q.2 - p.2) := hq.y.sub hp.y
  have bb : Bd 201 (p.1 - q.1) := hp.x.sub hq.x
  have hc := common_eq (a := q.2 - p.2) (b := p.1 - q.1) (bb.mono (by decide)) st
  have hg0 := thru_pos h
  generalize hA : q.2 - p.2 = a at *
  generalize hB : p.1 - q.1 = b at *
  have bg := gcd_bd ba bb
  have hd : okDiv (Int.gcd a b : Nat) := okDiv_of (by omega) bg (by decide)
  have hd2 : okDiv (-(Int.gcd a b : Nat)) := okDiv_of (by omega) bg.neg (by decide)
  have m1 : ∀ s : Int, s ≠ 0 → okMul (fdivZ a s) p.1 := fun s hs => okMul_of (ba.le (fdivZ_le hs)) hp.x (by decide) (by decide)
  have m2 : ∀ s : Int, s ≠ 0 → okMul (fdivZ b s) p.2 := fun s hs => okMul_of (bb.le (fdivZ_le hs)) hp.y (by decide) (by decide)
  have n1 : ((Int.gcd a b : Nat) : Int) ≠ 0 := by omega
  have n2 : -((Int.gcd a b : Nat) : Int) ≠ 0 := by omega
  have ht : thru p q = (if a < 0 ∨ (a = 0 ∧ b < 0) then (fdivZ a (-(Int.gcd a b : Nat)), fdivZ b (-(Int.gcd a b : Nat)), fdivZ a (-(Int.gcd a b : Nat)) * p.1 + fdivZ b (-(Int.gcd a b : Nat)) * p.2)
      else (fdivZ a (Int.gcd a b : Nat), fdivZ b (Int.gcd a b : Nat), fdivZ a (Int.gcd a b : Nat) * p.1 + fdivZ b (Int.gcd a b : Nat) * p.2)) := by
    simp only [thru, hA, hB]
    split <;> rfl
  rw [ht]
  generalize hG : ((Int.gcd a b : Nat) : Int) = g at *
  by_cases hs : a < 0 ∨ (a = 0 ∧ b < 0)
  · rw [if_pos hs]
    rcases hs with hs | ⟨hs1, hs2⟩
    · simp [d_through, dDef, b_through, h, hA, hB, hc, hs, gFdiv_eq hd2, gMul_eq (m1 _ n2), gMul_eq (m2 _ n2), tri, finP_same]
    · subst hs1
      simp [d_through, dDef, b_through, h, hA, hB, hc, hs2, gFdiv_eq hd2, gMul_eq (m1 _ n2), gMul_eq (m2 _ n2), tri, finP_same]
  · rw [if_neg hs]
    have e1 : ¬ a < 0 := fun z => hs (.inl z)
    by_cases e2 : a = 0
    · have e3 : ¬ b < 0 := fun z => hs (.inr ⟨e2, z⟩)
      subst e2
      simp [d_through, dDef, b_through, h, hA, hB, hc, e3, gFdiv_eq hd, gMul_eq (m1 _ n1), gMul_eq (m2 _ n1), tri, finP_same]
    · simp [d_through, dDef, b_through, h, hA, hB, hc, e1, e2, gFdiv_eq hd, gMul_eq (m1 _ n1), gMul_eq (m2 _ n1), tri, finP_same]
theorem thru_bd {p q : Int × Int} (hp : Ok 200 p) (hq : Ok 200 q) (h : p ≠ q) : Bd 201 (thru p q).1 ∧ Bd 201 (thru p q).2.1 ∧ Bd 402 (thru p q).2.2 := by
  have ba : Bd 201 (q.2 - p.2) := hq.y.sub hp.y
  have bb : Bd 201 (p.1 - q.1) := hp.x.sub hq.x
  have hg := thru_pos h
  have n1 : ∀ s : Int, s ≠ 0 → Bd 201 (fdivZ (q.2 - p.2) s) ∧ Bd 201 (fdivZ (p.1 - q.1) s) ∧ Bd 402 (fdivZ (q.2 - p.2) s * p.1 + fdivZ (p.1 - q.1) s * p.2) := fun s hs => by
    have k1 := ba.le (fdivZ_le (j := s) hs)
    have k2 := bb.le (fdivZ_le (j := s) hs)
    exact ⟨k1, k2, ((k1.mul hp.x).add (k2.mul hp.y)).mono (by decide)⟩
  simp only [thru]
  split
  · exact n1 _ (by omega)
  · exact n1 _ (by omega)
/-! ## sides, counts -/
structure OkL (n : Nat) (l : Int × Int × Int) : Prop where
  a : Bd n l.1
  b : Bd n l.2.1
  c : Bd n l.2.2
def sideOf (l : Int × Int × Int) (p : Int × Int) : Int := sgn (l.1 * p.1 + l.2.1 * p.2 - l.2.2)
theorem side_eq {l : Int × Int × Int} {p : Int × Int} (hl : OkL 1000 l) (hp : Ok 200 p) (st : Sto) : d_side [tri l, pt p] st = some (.int (sideOf l p), st) := by
  have m1 : okMul l.1 p.1 := okMul_of hl.a hp.x (by decide) (by decide)
  have m2 : okMul l.2.1 p.2 := okMul_of hl.b hp.y (by decide) (by decide)
  have e : tri l = .tup [.int l.1, .int l.2.1, .int l.2.2] := rfl
  rw [e]
  simp [d_side, dDef, b_side, gMul_eq m1, gMul_eq m2, sign_eq, sideOf, finP_same]
theorem counts_eq {l : Int × Int × Int} {h : List (Int × Int)} {d : Dt} {st : Sto} (hl : OkL 1000 l) (hh : ∀ p ∈ h, Ok 200 p) (hn : h.length < 1000) (hd : look st d = some (h.map pt)) :
    d_counts [tri l, d] st = some (tri (((h.map (sideOf l)).count (-1) : Nat), ((h.map (sideOf l)).count 0 : Nat), ((h.map (sideOf l)).count 1 : Nat)), st) := by
  have e := lc_map (g := gtName 3) (e := counts_el1) (guard := fun s => look s d = some (h.map pt)) (ev := [some (tri l), some d, none, none]) (f := pt) (h := fun p => Dt.int (sideOf l p)) (st := st) hd h [] (by simp; omega) (fun p hp => ⟨_, rfl, by simp [counts_el1, side_eq hl (hh p hp)]⟩)
  have e2 : h.map (fun p => Dt.int (sideOf l p)) = (h.map (sideOf l)).map Dt.int := by rw [List.map_map]; rfl
  rw [e2] at e
  simp [d_counts, dDef, b_counts, srcOf_look hd, e, finP_same, -List.map_map]
  rfl
theorem count_len (l : Int × Int × Int) (h : List (Int × Int)) (k : Int) : (h.map (sideOf l)).count k ≤ h.length := by
  have := List.count_le_length (a := k) (l := h.map (sideOf l))
  rwa [List.length_map] at this
def halvesB (l : Int × Int × Int) (h : List (Int × Int)) : Bool := decide (2 * maxZ ((h.map (sideOf l)).count (-1) : Nat) ((h.map (sideOf l)).count 1 : Nat) ≤ h.length)
theorem halves_eq {l : Int × Int × Int} {h : List (Int × Int)} {d : Dt} {st : Sto} (hl : OkL 1000 l) (hh : ∀ p ∈ h, Ok 200 p) (hn : h.length < 1000) (hd : look st d = some (h.map pt)) :
    d_halves [tri l, d] st = some (.bl (halvesB l h), st) := by
  have c1 := count_len l h (-1)
  have c2 := count_len l h 1
  have m1 : okMul 2 (maxZ ((h.map (sideOf l)).count (-1) : Nat) ((h.map (sideOf l)).count 1 : Nat)) := okMul_of (Bd.lit 2 64 (by decide)) (Bd.om (by unfold maxZ; split <;> omega)) (by decide) (by decide)
  have e := counts_eq hl hh hn hd
  unfold tri at e ⊢
  simp only at e
  simp [d_halves, dDef, b_halves, e, gMul_eq m1, gLen_look hd, halvesB, finP_same, -List.map_map]
end My

namespace My
open PySem PySem.Spec PyProof.Rows L2 PD
/-- a loop that looks for something wrong and leaves the store -/
theorem forL_check {g : DG} {b : DS} {guard : Sto → Prop} {items : List Dt} {st : Sto} (J : En → Prop) (bad : Nat → Prop) (hg : guard st)
    (h1 : ∀ i d ev, items[i]? = some d → J ev → bad i → ∃ ev1, g st d ev = some ev1 ∧ b ev1 st = some (.rt (.bl false) st))
    (h2 : ∀ i d ev, items[i]? = some d → J ev → ¬ bad i → ∃ ev1 ev2, g st d ev = some ev1 ∧ b ev1 st = some (.nx ev2 st) ∧ J ev2) {ev : En} (h0 : J ev) :
    ((∃ i, i < items.length ∧ bad i) ∧ dForL g b guard items ev st = some (.rt (.bl false) st)) ∨ ((∀ i, i < items.length → ¬ bad i) ∧ ∃ ev2, J ev2 ∧ dForL g b guard items ev st = some (.nx ev2 st)) := by
  obtain ⟨o, e, ho⟩ := forL_inv (g := g) (b := b) (guard := guard) (items := items) (fun i ev s => J ev ∧ s = st ∧ ∀ k, k < i → ¬ bad k) (fun _ _ => False) (fun d s => d = .bl false ∧ s = st ∧ ∃ k, k < items.length ∧ bad k)
    (fun i ev s h => by rw [h.2.1]; exact hg) (fun i d ev s hi h => by
      obtain ⟨hJ, rfl, hk⟩ := h
      by_cases hb : bad i
      · obtain ⟨ev1, e1, e2⟩ := h1 i d ev hi hJ hb
        exact ⟨ev1, _, e1, e2, rfl, rfl, i, (List.getElem?_eq_some_iff.mp hi).1, hb⟩
      · obtain ⟨ev1, ev2, e1, e2, e3⟩ := h2 i d ev hi hJ hb
        refine ⟨ev1, _, e1, e2, e3, rfl, fun k hk' => ?_⟩
        by_cases z : k = i
        · rw [z]; exact hb
        · exact hk k (by omega)) items.length 0 ev st (by omega) ⟨h0, rfl, fun k hk => absurd hk (Nat.not_lt_zero k)⟩
  rw [List.drop_zero] at e
  cases o with
  | nx ev2 s =>
    rcases ho with ⟨h3, rfl, h4⟩ | h
    · exact .inr ⟨h4, ev2, h3, e⟩
    · exact h.elim
  | rt d s =>
    obtain ⟨rfl, rfl, h⟩ := ho
    exact .inl ⟨h, e⟩
  | bk _ _ => exact ho.elim
  | ct _ _ => exact ho.elim
/-! ## turns; plain heaps -/
abbrev P2 := Int × Int
def cross (p q r : P2) : Int := (q.1 - p.1) * (r.2 - p.2) - (q.2 - p.2) * (r.1 - p.1)
theorem turn_eq {p q r : P2} (hp : Ok 200 p) (hq : Ok 200 q) (hr : Ok 200 r) (st : Sto) : d_turn [pt p, pt q, pt r] st = some (.int (sgn (cross p q r)), st) := by
  have m : ∀ {a b c d : Int}, Bd 200 a → Bd 200 b → Bd 200 c → Bd 200 d → okMul (a - b) (c - d) := fun ha hb hc hd => okMul_of (ha.sub hb) (hc.sub hd) (by decide) (by decide)
  simp [d_turn, dDef, b_turn, gMul_eq (m hq.x hp.x hr.y hp.y), gMul_eq (m hq.y hp.y hr.x hp.x), sign_eq, cross, finP_same]
theorem sgn_zero_iff {n : Int} : sgn n = 0 ↔ n = 0 := by
  unfold sgn
  by_cases h1 : n > 0
  · simp only [if_pos h1]; constructor <;> intro <;> omega
  · by_cases h2 : n < 0
    · simp only [if_neg h1, if_pos h2]; constructor <;> intro <;> omega
    · rw [if_neg h1, if_neg h2]
      exact ⟨fun _ => by omega, fun _ => rfl⟩
/-- p is none of l, on no line through two of l -/
def FreeP (p : P2) (l : List P2) : Prop := ∀ k one, l[k]? = some one → one ≠ p ∧ ∀ q ∈ l.take k, cross one q p ≠ 0
theorem any_false {l : List Bool} : l.any id = false ↔ ∀ b ∈ l, b = false := by simp
theorem free_loop {p : P2} {l : List P2} {d : Dt} {st : Sto} (hp : Ok 200 p) (hl : ∀ q ∈ l, Ok 200 q) (hn : l.length < 1000) (hd : look st d = some (l.map pt)) (z2 z3 z4 : Option Dt) :
    ((∃ i, i < (enumD 0 (l.map pt)).length ∧ ∃ one, l[i]? = some one ∧ ¬ (one ≠ p ∧ ∀ q ∈ l.take i, cross one q p ≠ 0)) ∧ dForL (gtTup 2 (gsCons (gtName 2) (gsCons (gtName 3) gsNil))) is_free_for1 (fun s => look s d = some (l.map pt)) (enumD 0 (l.map pt)) [some (pt p), some d, z2, z3, none] st = some (.rt (.bl false) st)) ∨
    ((∀ i, i < (enumD 0 (l.map pt)).length → ¬ ∃ one, l[i]? = some one ∧ ¬ (one ≠ p ∧ ∀ q ∈ l.take i, cross one q p ≠ 0)) ∧ ∃ ev2, (∃ z2 z3, ev2 = [some (pt p), some d, z2, z3, none]) ∧ dForL (gtTup 2 (gsCons (gtName 2) (gsCons (gtName 3) gsNil))) is_free_for1 (fun s => look s d = some (l.map pt)) (enumD 0 (l.map pt)) [some (pt p), some d, z2, z3, none] st = some (.nx ev2 st)) := by
  have key : ∀ (i : Nat) (d' : Dt) (ev : En), (enumD 0 (l.map pt))[i]? = some d' → (∃ z2 z3, ev = [some (pt p), some d, z2, z3, none]) → ∃ one z2 z3, l[i]? = some one ∧ ev = [some (pt p), some d, z2, z3, none] ∧
      gtTup 2 (gsCons (gtName 2) (gsCons (gtName 3) gsNil)) st d' ev = some [some (pt p), some d, some (.int i), some (pt one), none] ∧
      dLcL (gtName 4) dYes is_free_el1 (fun _ => True) [some (pt p), some d, some (.int i), some (pt one), none] ((l.take i).map pt) [] st = some ((l.take i).map (fun q => .bl (decide (sgn (cross one q p) = 0))), st) := fun i d' ev hi ⟨z2, z3, e⟩ => by
    have hlen : i < l.length := by
      have := (List.getElem?_eq_some_iff.mp hi).1
      rw [enumD_length, List.length_map] at this
      exact this
    have e1 : (l.map pt)[i]? = some (pt l[i]) := by rw [List.getElem?_map, List.getElem?_eq_getElem hlen]; rfl
    have e2 := enumD_get 0 (l.map pt) i _ e1
    rw [hi, Nat.zero_add] at e2
    cases e2
    refine ⟨l[i], z2, z3, List.getElem?_eq_getElem hlen, e, by subst e; simp, ?_⟩
    have hone := hl _ (List.getElem_mem hlen)
    refine lc_map (g := gtName 4) (guard := fun _ => True) (f := pt) (h := fun q => Dt.bl (decide (sgn (cross l[i] q p) = 0))) trivial (l.take i) [] (by rw [List.length_take, List.length_nil]; omega) fun q hq => ⟨_, rfl, ?_⟩
    simp [is_free_el1, turn_eq hone (hl q (List.mem_of_mem_take hq)) hp]
  have sl : ∀ i : Nat, gSlice st d none (some (i : Int)) = some (.lst ((l.take i).map pt)) := fun i => by
    rw [gSlice_look hd, cut_to, List.map_take]
  have an : ∀ (i : Nat) (one : P2), gAny st [.lst ((l.take i).map (fun q => .bl (decide (sgn (cross one q p) = 0))))] = some (.bl (!decide (∀ q ∈ l.take i, cross one q p ≠ 0))) := fun i one => by
    have e : ((l.take i).map fun q => Dt.bl (decide (sgn (cross one q p) = 0))) = ((l.take i).map fun q => decide (sgn (cross one q p) = 0)).map Dt.bl := by rw [List.map_map]; rfl
    rw [e, gAny_eq, lookB_bls, Option.map_some]
    congr 2
    by_cases h : ∀ q ∈ l.take i, cross one q p ≠ 0
    · rw [decide_eq_true h]
      apply any_false.mpr
      intro b hb
      obtain ⟨q, hq, rfl⟩ := List.mem_map.mp hb
      exact decide_eq_false fun z => h q hq (sgn_zero_iff.mp z)
    · rw [decide_eq_false h]
      simp only [Bool.not_false, List.any_eq_true, List.mem_map]
      simp only [Classical.not_forall, Classical.not_not] at h
      obtain ⟨q, hq, hz⟩ := h
      exact ⟨true, ⟨q, hq, decide_eq_true (sgn_zero_iff.mpr hz)⟩, rfl⟩
  refine forL_check (fun ev => ∃ z2 z3, ev = [some (pt p), some d, z2, z3, none]) (fun i => ∃ one, l[i]? = some one ∧ ¬ (one ≠ p ∧ ∀ q ∈ l.take i, cross one q p ≠ 0)) hd (fun i d' ev hi hJ hb => ?_) (fun i d' ev hi hJ hb => ?_) ⟨z2, z3, rfl⟩
  · obtain ⟨one, z2, z3, e1, rfl, e3, e4⟩ := key i d' ev hi hJ
    obtain ⟨one', e5, hb⟩ := hb
    rw [e1] at e5
    cases e5
    refine ⟨_, e3, ?_⟩
    by_cases h1 : one = p
    · simp [is_free_for1, h1]
    · have h2 : ¬ ∀ q ∈ l.take i, cross one q p ≠ 0 := fun z => hb ⟨h1, z⟩
      have an' := an i one
      rw [decide_eq_false h2] at an'
      simp only [List.map_take] at e4 an' sl
      simp [is_free_for1, h1, sl, e4, an']
  · obtain ⟨one, z2, z3, e1, rfl, e3, e4⟩ := key i d' ev hi hJ
    have h3 : one ≠ p ∧ ∀ q ∈ l.take i, cross one q p ≠ 0 := Classical.byContradiction fun z => hb ⟨one, e1, z⟩
    refine ⟨_, [some (pt p), some d, some (.int i), some (pt one), none], e3, ?_, _, _, rfl⟩
    have an' := an i one
    rw [decide_eq_true h3.2] at an'
    simp only [List.map_take] at e4 an' sl
    simp [is_free_for1, h3.1, sl, e4, an']
open Classical in
theorem is_free_eq {p : P2} {l : List P2} {d : Dt} {st : Sto} (hp : Ok 200 p) (hl : ∀ q ∈ l, Ok 200 q) (hn : l.length < 1000) (hd : look st d = some (l.map pt)) : d_is_free [pt p, d] st = some (.bl (decide (FreeP p l)), st) := by
  have en : ((look st d).map fun ds => ((⟨enumD 0 ds, fun s => look s d = some ds⟩ : Src), st)) = some (⟨enumD 0 (l.map pt), fun s => look s d = some (l.map pt)⟩, st) := by rw [hd]; rfl
  rcases free_loop hp hl hn hd none none none with ⟨⟨i, _, one, e1, hb⟩, e⟩ | ⟨h, ev2, ⟨z2, z3, rfl⟩, e⟩
  · have hF : ¬ FreeP p l := fun z => hb (z i one e1)
    rw [decide_eq_false hF]
    simp [d_is_free, dDef, b_is_free, hd, e, finP_same]
  · have hF : FreeP p l := fun k one e1 => by
      by_cases z : one ≠ p ∧ ∀ q ∈ l.take k, cross one q p ≠ 0
      · exact z
      · exact absurd ⟨one, e1, z⟩ (h k (by rw [enumD_length, List.length_map]; exact (List.getElem?_eq_some_iff.mp e1).1))
    rw [decide_eq_true hF]
    simp [d_is_free, dDef, b_is_free, hd, e, finP_same]
/-- all unlike, no three on a line -/
def PlainP (l : List P2) : Prop := ∀ k p, l[k]? = some p → FreeP p (l.take k)
open Classical in
theorem are_plain_eq {a b : List P2} {d e : Dt} {st : Sto} (ha : ∀ q ∈ a, Ok 200 q) (hb : ∀ q ∈ b, Ok 200 q) (hn : a.length + b.length < 1000) (hd : look st d = some (a.map pt)) (he : look st e = some (b.map pt)) :
    d_are_plain [d, e] st = some (.bl (decide (PlainP (a ++ b))), st) := by
  have l1 : gList1 st [d] = some (a.map pt) := by cases d <;> simp_all [gList1, gItems, look]
  have l2 : gList1 st [e] = some (b.map pt) := by cases e <;> simp_all [gList1, gItems, look]
  have ad : gAdd st (.lst (a.map pt)) (.lst (b.map pt)) = some (.lst ((a ++ b).map pt)) := by
    show (if (a.map pt).length + (b.map pt).length ≤ 1000000 then some (Dt.lst (a.map pt ++ b.map pt)) else none) = _
    rw [if_pos (by simp; omega), List.map_append]
  have hl : ∀ q ∈ a ++ b, Ok 200 q := fun q hq => (List.mem_append.mp hq).elim (ha q) (hb q)
  have hn : (a ++ b).length < 1000 := by rw [List.length_append]; exact hn
  generalize a ++ b = l at *
  have lc : ∀ z : Dt, ∀ g : Sto → Prop, g st → dLcL (gtTup 2 (gsCons (gtName 3) (gsCons (gtName 4) gsNil))) dYes are_plain_el1 g [some d, some e, some (.lst (l.map pt)), none, none] ((List.range l.length).map fun i : Nat => .tup [.int i, pt (l[i]?.getD (0, 0))]) [] st = some ((List.range l.length).map (fun i : Nat => .bl (decide (FreeP (l[i]?.getD (0, 0)) (l.take i)))), st) := fun z g hg => by
    refine lc_map (g := gtTup 2 (gsCons (gtName 3) (gsCons (gtName 4) gsNil))) (guard := g) (f := fun i : Nat => Dt.tup [.int i, pt (l[i]?.getD (0, 0))]) (h := fun i => Dt.bl (decide (FreeP (l[i]?.getD (0, 0)) (l.take i)))) hg (List.range l.length) [] (by simp; omega) fun i hi => ⟨[some d, some e, some (.lst (l.map pt)), some (.int i), some (pt (l[i]?.getD (0, 0)))], rfl, ?_⟩
    have hi := List.mem_range.mp hi
    have hm : l[i]?.getD (0, 0) ∈ l := by rw [List.getElem?_eq_getElem hi]; exact List.getElem_mem hi
    have f := is_free_eq (p := l[i]?.getD (0, 0)) (l := l.take i) (d := .lst ((l.take i).map pt)) (st := st) (hl _ hm) (fun q hq => hl q (List.mem_of_mem_take hq)) (by rw [List.length_take]; omega) rfl
    have sl : gSlice st (.lst (l.map pt)) none (some (i : Int)) = some (.lst ((l.take i).map pt)) := by
      rw [gSlice_look rfl, cut_to, List.map_take]
    simp only [List.map_take] at sl f
    simp [are_plain_el1, gSlice_look, cut_to, f]
  have en : enumD 0 (l.map pt) = (List.range l.length).map fun i : Nat => Dt.tup [.int i, pt (l[i]?.getD (0, 0))] := by
    apply List.ext_getElem?
    intro i
    by_cases hi : i < l.length
    · have e1 : (l.map pt)[i]? = some (pt l[i]) := by rw [List.getElem?_map, List.getElem?_eq_getElem hi]; rfl
      rw [enumD_get 0 _ i _ e1, List.getElem?_map, List.getElem?_range hi, Nat.zero_add]
      simp [List.getElem?_eq_getElem hi]
    · rw [List.getElem?_eq_none (by rw [enumD_length, List.length_map]; omega), List.getElem?_eq_none (by rw [List.length_map, List.length_range]; omega)]
  have al : gAll st [.lst ((List.range l.length).map fun i : Nat => .bl (decide (FreeP (l[i]?.getD (0, 0)) (l.take i))))] = some (.bl (decide (PlainP l))) := by
    have e : ((List.range l.length).map fun i : Nat => Dt.bl (decide (FreeP (l[i]?.getD (0, 0)) (l.take i)))) = ((List.range l.length).map fun i : Nat => decide (FreeP (l[i]?.getD (0, 0)) (l.take i))).map Dt.bl := by rw [List.map_map]; rfl
    rw [e, gAll_eq, lookB_bls, Option.map_some]
    congr 2
    by_cases h : PlainP l
    · rw [decide_eq_true h]
      simp only [List.all_eq_true, List.mem_map, List.mem_range]
      rintro b ⟨i, hi, rfl⟩
      refine decide_eq_true (h i _ ?_)
      rw [List.getElem?_eq_getElem hi]; rfl
    · rw [decide_eq_false h]
      apply Bool.eq_false_iff.mpr
      intro z
      apply h
      intro k p hk
      have hi := (List.getElem?_eq_some_iff.mp hk).1
      have := (List.all_eq_true.mp z) (decide (FreeP (l[k]?.getD (0, 0)) (l.take k))) (List.mem_map.mpr ⟨k, List.mem_range.mpr hi, rfl⟩)
      have := of_decide_eq_true this
      rwa [hk] at this
  have lc' := fun g hg => lc (.bl true) g hg
  rw [← en] at lc'
  have lk : look st (.lst (l.map pt)) = some (l.map pt) := rfl
  simp [d_are_plain, dDef, b_are_plain, l1, l2, ad, lc', al, finP_same]
end My

namespace My
open PySem PySem.Spec PyProof.Rows L2 PD
/-! ## plain: by whatever order -/
theorem cross_cyc (p q r : P2) : cross p q r = cross q r p := by unfold cross; grind
theorem cross_swap (p q r : P2) : cross p q r = -cross q p r := by unfold cross; grind
/-- all unlike, no three unlike ones on a line: no order in it -/
def PlainM (l : List P2) : Prop := l.Nodup ∧ ∀ p ∈ l, ∀ q ∈ l, ∀ r ∈ l, p ≠ q → p ≠ r → q ≠ r → cross p q r ≠ 0
theorem PlainM.perm {l k : List P2} (h : l.Perm k) (p : PlainM l) : PlainM k :=
  ⟨h.nodup_iff.mp p.1, fun a ha b hb c hc => p.2 a (h.mem_iff.mpr ha) b (h.mem_iff.mpr hb) c (h.mem_iff.mpr hc)⟩
/-- by places: i < j < k -/
def PlainI (l : List P2) : Prop := l.Nodup ∧ ∀ (k j i : Nat) (p q r : P2), i < j → j < k → l[k]? = some p → l[j]? = some q → l[i]? = some r → cross p q r ≠ 0
theorem nodup_ne {l : List P2} (h : l.Nodup) {i j : Nat} {p q : P2} (hij : i ≠ j) (hi : l[i]? = some p) (hj : l[j]? = some q) : p ≠ q := fun e => by
  subst e
  exact hij ((List.getElem?_inj (List.getElem?_eq_some_iff.mp hi).1 h).mp (hi.trans hj.symm))
theorem plainM_I {l : List P2} : PlainM l ↔ PlainI l := by
  constructor
  · rintro ⟨hn, h⟩
    exact ⟨hn, fun k j i p q r hij hjk hk hj hi => h p (List.mem_of_getElem? hk) q (List.mem_of_getElem? hj) r (List.mem_of_getElem? hi) (nodup_ne hn (by omega) hk hj) (nodup_ne hn (by omega) hk hi) (nodup_ne hn (by omega) hj hi)⟩
  · rintro ⟨hn, h⟩
    refine ⟨hn, fun p hp q hq r hr hpq hpr hqr => ?_⟩
    obtain ⟨a, ha⟩ := List.getElem?_of_mem hp
    obtain ⟨b, hb⟩ := List.getElem?_of_mem hq
    obtain ⟨c, hc⟩ := List.getElem?_of_mem hr
    have hab : a ≠ b := fun e => by subst e; rw [ha] at hb; cases hb; exact hpq rfl
    have hac : a ≠ c := fun e => by subst e; rw [ha] at hc; cases hc; exact hpr rfl
    have hbc : b ≠ c := fun e => by subst e; rw [hb] at hc; cases hc; exact hqr rfl
    have f : ∀ x y w : P2, cross x y w ≠ 0 → (cross p q r = cross x y w ∨ cross p q r = -cross x y w) → cross p q r ≠ 0 := fun x y w h e z => by
      rcases e with e | e <;> omega
    rcases Nat.lt_or_gt_of_ne hab with h1 | h1 <;> rcases Nat.lt_or_gt_of_ne hac with h2 | h2 <;> rcases Nat.lt_or_gt_of_ne hbc with h3 | h3
    · exact f _ _ _ (h c b a r q p h1 h3 hc hb ha) (.inr (by unfold cross; grind))
    · exact f _ _ _ (h b c a q r p h2 h3 hb hc ha) (.inl (by unfold cross; grind))
    · omega
    · exact f _ _ _ (h b a c q p r h2 h1 hb ha hc) (.inr (by unfold cross; grind))
    · exact f _ _ _ (h c a b r p q h1 h2 hc ha hb) (.inl (by unfold cross; grind))
    · omega
    · exact f _ _ _ (h a c b p r q h3 h2 ha hc hb) (.inr (by unfold cross; grind))
    · exact f _ _ _ (h a b c p q r h3 h1 ha hb hc) (.inl rfl)
theorem plainI_P {l : List P2} : PlainI l ↔ PlainP l := by
  have tk : ∀ (k j : Nat) (p : P2), (l.take k)[j]? = some p ↔ j < k ∧ l[j]? = some p := fun k j p => by
    rw [List.getElem?_take]
    by_cases h : j < k
    · simp [h]
    · simp [h]
  constructor
  · rintro ⟨hn, h⟩ k p hk j one hj
    obtain ⟨hjk, hj⟩ := (tk k j one).mp hj
    refine ⟨nodup_ne hn (by omega) hj hk, fun q hq => ?_⟩
    obtain ⟨i, hi⟩ := List.getElem?_of_mem hq
    obtain ⟨hij, hi⟩ := (tk (min j k) i q).mp (by rwa [List.take_take] at hi)
    have := h k j i p one q (by omega) hjk hk hj hi
    rw [← cross_cyc]
    exact this
  · intro h
    refine ⟨?_, fun k j i p q r hij hjk hk hj hi => ?_⟩
    · refine List.pairwise_iff_getElem.mpr fun i j hi0 hj hij e => ?_
      have hi : l[i]? = some l[i] := List.getElem?_eq_getElem hi0
      have hj' : l[j]? = some l[j] := List.getElem?_eq_getElem hj
      exact (h j l[j] hj' i l[i] ((tk j i _).mpr ⟨hij, hi⟩)).1 e
    · have := (h k p hk j q ((tk k j q).mpr ⟨hjk, hj⟩)).2 r (List.mem_of_getElem? (i := i) (by
        rw [List.take_take, Nat.min_eq_left (by omega)]
        rw [List.getElem?_take, if_pos hij, hi]))
      rw [cross_cyc]
      exact this
theorem plain_swap {a b : List P2} : PlainP (a ++ b) ↔ PlainP (b ++ a) := by
  rw [← plainI_P, ← plainI_P, ← plainM_I, ← plainM_I]
  exact ⟨PlainM.perm List.perm_append_comm, PlainM.perm List.perm_append_comm⟩
/-! ## a free point on the parabola -/
theorem count_two (N : Nat) (p : Nat → Bool) (h : ∀ a b c, a < b → b < c → ¬ (p a = true ∧ p b = true ∧ p c = true)) : (List.range N).countP p ≤ 2 := by
  rw [List.countP_eq_length_filter]
  have hs : ((List.range N).filter p).Pairwise (· < ·) := List.Pairwise.sublist List.filter_sublist List.pairwise_lt_range
  have hm : ∀ x ∈ (List.range N).filter p, p x = true := fun x hx => (List.mem_filter.mp hx).2
  match hl : (List.range N).filter p, hs, hm with
  | [], _, _ => simp
  | [_], _, _ => simp
  | [_, _], _, _ => simp
  | a :: b :: c :: _, hs, hm =>
    exfalso
    obtain ⟨h1, h2⟩ := List.pairwise_cons.mp hs
    obtain ⟨h3, _⟩ := List.pairwise_cons.mp h2
    exact h a b c (h1 b (by simp)) (h3 c (by simp)) ⟨hm a (by simp), hm b (by simp), hm c (by simp)⟩
theorem count_any (N : Nat) : ∀ cs : List (Nat → Bool), (∀ c ∈ cs, (List.range N).countP c ≤ 2) → (List.range N).countP (fun t => cs.any fun c => c t) ≤ 2 * cs.length
  | [], _ => by simp
  | c :: cs, h => by
    have h1 := h c List.mem_cons_self
    have h2 := count_any N cs fun d hd => h d (List.mem_cons_of_mem _ hd)
    have h3 : ∀ l : List Nat, l.countP (fun t => (c :: cs).any fun c => c t) ≤ l.countP c + l.countP (fun t => cs.any fun c => c t) := fun l => by
      induction l with
      | nil => simp
      | cons x l ih =>
        rw [List.countP_cons, List.countP_cons, List.countP_cons]
        simp only [List.any_cons]
        simp only [List.any_cons] at ih
        by_cases z1 : c x = true <;> by_cases z2 : (cs.any fun c => c x) = true <;> simp only [z1, z2, Bool.true_or, Bool.or_true, Bool.false_eq_true, if_true, if_false, Bool.or_self] <;> omega
    have := h3 (List.range N)
    rw [List.length_cons]
    omega
theorem some_free (N : Nat) (cs : List (Nat → Bool)) (h : ∀ c ∈ cs, (List.range N).countP c ≤ 2) (hN : 2 * cs.length < N) : ∃ t, t < N ∧ ∀ c ∈ cs, c t = false := by
  have h1 := count_any N cs h
  refine Classical.byContradiction fun z => ?_
  have h2 : (List.range N).countP (fun t => cs.any fun c => c t) = (List.range N).length := by
    rw [List.countP_eq_length]
    intro t ht
    refine Classical.byContradiction fun y => z ⟨t, List.mem_range.mp ht, fun c hc => ?_⟩
    cases e : c t with
    | false => rfl
    | true => exact absurd (List.any_eq_true.mpr ⟨c, hc, e⟩) y
  rw [h2, List.length_range] at h1
  omega
theorem flat_len {α β γ : Type} (f : α → β → γ) (m : List β) : ∀ l : List α, (l.flatMap fun a => m.map (f a)).length = l.length * m.length
  | [] => by simp
  | a :: l => by
    rw [List.flatMap_cons, List.length_append, flat_len f m l, List.length_map, List.length_cons, Nat.add_mul, Nat.one_mul, Nat.add_comm]
def par (t : Nat) : P2 := (t, t * t)
theorem par_free {l : List P2} (hn : l.Nodup) (hl : l.length ≤ 13) : ∃ t, t < 400 ∧ FreeP (par t) l := by
  let cs : List (Nat → Bool) := (l.map fun q t => decide (q = par t)) ++ l.flatMap fun one => l.map fun q t => decide (one ≠ q ∧ cross one q (par t) = 0)
  have hlen : cs.length = l.length + l.length * l.length := by
    show (_ ++ _ : List (Nat → Bool)).length = _
    rw [List.length_append, List.length_map, flat_len]
  have hle : l.length * l.length ≤ 169 := Nat.mul_le_mul hl hl
  obtain ⟨t, ht, hf⟩ := some_free 400 cs (fun c hc => count_two _ _ fun x y z hxy hyz ⟨h1, h2, h3⟩ => by
    rcases List.mem_append.mp hc with hc | hc
    · obtain ⟨q, _, rfl⟩ := List.mem_map.mp hc
      have a := of_decide_eq_true h1
      have b := of_decide_eq_true h2
      have := congrArg Prod.fst (a.symm.trans b)
      simp only [par] at this
      omega
    · obtain ⟨one, _, hc⟩ := List.mem_flatMap.mp hc
      obtain ⟨q, _, rfl⟩ := List.mem_map.mp hc
      obtain ⟨hne, a⟩ := of_decide_eq_true h1
      obtain ⟨_, b⟩ := of_decide_eq_true h2
      obtain ⟨_, c⟩ := of_decide_eq_true h3
      unfold cross par at a b c
      simp only at a b c
      apply hne
      have hx : (x : Int) < y := by omega
      have hy : (y : Int) < z := by omega
      generalize (x : Int) = x at *
      generalize (y : Int) = y at *
      generalize (z : Int) = z at *
      have e1 : (q.1 - one.1) * (y + x) - (q.2 - one.2) = 0 := by
        have : (y - x) * ((q.1 - one.1) * (y + x) - (q.2 - one.2)) = 0 := by grind
        rcases Int.mul_eq_zero.mp this with h | h
        · omega
        · exact h
      have e2 : (q.1 - one.1) * (z + x) - (q.2 - one.2) = 0 := by
        have : (z - x) * ((q.1 - one.1) * (z + x) - (q.2 - one.2)) = 0 := by grind
        rcases Int.mul_eq_zero.mp this with h | h
        · omega
        · exact h
      have e3 : q.1 - one.1 = 0 := by
        have : (z - y) * (q.1 - one.1) = 0 := by grind
        rcases Int.mul_eq_zero.mp this with h | h
        · omega
        · exact h
      rw [e3, Int.zero_mul] at e1
      exact Prod.ext (by omega) (by omega)) (by rw [hlen]; omega)
  refine ⟨t, ht, fun k one hk => ⟨fun e => ?_, fun q hq e => ?_⟩⟩
  · have := hf (fun t => decide (one = par t)) (List.mem_append_left _ (List.mem_map.mpr ⟨one, List.mem_of_getElem? hk, rfl⟩))
    exact (of_decide_eq_false this) e
  · have hqm := List.mem_of_mem_take hq
    have := hf (fun t => decide (one ≠ q ∧ cross one q (par t) = 0)) (List.mem_append_right _ (List.mem_flatMap.mpr ⟨one, List.mem_of_getElem? hk, List.mem_map.mpr ⟨q, hqm, rfl⟩⟩))
    refine (of_decide_eq_false this) ⟨fun z => ?_, e⟩
    obtain ⟨i, hi⟩ := List.getElem?_of_mem hq
    rw [List.getElem?_take] at hi
    split at hi
    · exact nodup_ne hn (by omega) hk hi z
    · cases hi
end My

namespace My
open PySem PySem.Spec PyProof.Rows L2 PD
theorem law_sum_eq {p q r : P2} (hp : Ok 200 p) (hq : Ok 200 q) (hr : Ok 200 r) (st : Sto) : d_law_sum [pt p, pt q, pt r] st = some (.int (cross p q r), st) := by
  have m : ∀ {a b c : Int}, Bd 200 a → Bd 200 b → Bd 200 c → okMul a (b - c) := fun ha hb hc => okMul_of ha (hb.sub hc) (by decide) (by decide)
  have e : p.1 * (q.2 - r.2) + q.1 * (r.2 - p.2) + r.1 * (p.2 - q.2) = cross p q r := by unfold cross; grind
  simp [d_law_sum, dDef, b_law_sum, gMul_eq (m hp.x hq.y hr.y), gMul_eq (m hq.x hr.y hp.y), gMul_eq (m hr.x hp.y hq.y), e, finP_same]
open Classical in
theorem law_is_free_eq {p : P2} {l : List P2} {d : Dt} {st : Sto} (hp : Ok 200 p) (hl : ∀ q ∈ l, Ok 200 q) (hn : l.length < 1000) (hd : look st d = some (l.map pt)) : d_law_is_free [pt p, d] st = some (.bl (decide (FreeP p l)), st) := by
  have hin := gIn_pt (p := p) hd
  have hL : gLen st [d] = some (.int l.length) := by rw [gLen_look hd, List.length_map]
  have hr : (l.length : Int) < 4611686018427387904 := by omega
  by_cases hm : p ∈ l
  · have hF : ¬ FreeP p l := fun z => by
      obtain ⟨k, hk⟩ := List.getElem?_of_mem hm
      exact (z k p hk).1 rfl
    rw [decide_eq_false hF]
    simp [d_law_is_free, dDef, b_law_is_free, hin, hm, finP_same]
  · have sl : ∀ i : Nat, gSlice st d none (some (i : Int)) = some (.lst ((l.take i).map pt)) := fun i => by
      rw [gSlice_look hd, cut_to, List.map_take]
    have body : ∀ (i : Nat) (d' : Dt) (ev : En), (rngD 0 l.length)[i]? = some d' → (∃ z2, ev = [some (pt p), some d, z2, none]) → ∃ one, l[i]? = some one ∧ gtName 2 st d' ev = some [some (pt p), some d, some (.int i), none] ∧
        law_is_free_for1 [some (pt p), some d, some (.int i), none] st = some (if ∀ q ∈ l.take i, cross one q p ≠ 0 then .nx [some (pt p), some d, some (.int i), none] st else .rt (.bl false) st) := fun i d' ev hi ⟨z2, e⟩ => by
      obtain ⟨rfl, hi4⟩ := rng_get hi
      have hlen : i < l.length := by omega
      have hone := hl _ (List.getElem_mem hlen)
      have gx : gIx st d (.int i) = some (pt l[i]) := by rw [gIx_look hd]; exact atI_nat (by rw [List.getElem?_map, List.getElem?_eq_getElem hlen]; rfl)
      have lc : dLcL (gtName 3) dYes law_is_free_el1 (fun _ => True) [some (pt p), some d, some (.int i), none] ((l.take i).map pt) [] st = some ((l.take i).map (fun q => .int (cross l[i] q p)), st) := by
        refine lc_map (g := gtName 3) (guard := fun _ => True) (f := pt) (h := fun q => Dt.int (cross l[i] q p)) trivial (l.take i) [] (by rw [List.length_take, List.length_nil]; omega) fun q hq => ⟨_, rfl, ?_⟩
        simp [law_is_free_el1, gx, law_sum_eq hone (hl q (List.mem_of_mem_take hq)) hp]
      have gi : gIn st (.int 0) (.lst ((l.take i).map fun q => .int (cross l[i] q p))) = some (.bl (decide (0 ∈ (l.take i).map fun q => cross l[i] q p))) := gIn_int (by rw [List.map_map]; rfl)
      refine ⟨l[i], List.getElem?_eq_getElem hlen, by subst e; simp, ?_⟩
      simp only [List.map_take] at lc sl
      by_cases h : ∀ q ∈ l.take i, cross l[i] q p ≠ 0
      · rw [if_pos h]
        have h0 : ¬ (0 : Int) ∈ (l.take i).map fun q => cross l[i] q p := fun z => by
          obtain ⟨q, hq, e⟩ := List.mem_map.mp z
          exact h q hq e
        rw [decide_eq_false h0] at gi
        simp only [List.map_take] at gi
        simp [law_is_free_for1, sl, lc, gi]
      · rw [if_neg h]
        have h0 : (0 : Int) ∈ (l.take i).map fun q => cross l[i] q p := by
          simp only [Classical.not_forall, Classical.not_not] at h
          obtain ⟨q, hq, e⟩ := h
          exact List.mem_map.mpr ⟨q, hq, e⟩
        rw [decide_eq_true h0] at gi
        simp only [List.map_take] at gi
        simp [law_is_free_for1, sl, lc, gi]
    rcases forL_check (g := gtName 2) (b := law_is_free_for1) (guard := fun _ => True) (items := rngD 0 l.length) (st := st) (fun ev => ∃ z2, ev = [some (pt p), some d, z2, none]) (fun i => ∃ one, l[i]? = some one ∧ ¬ ∀ q ∈ l.take i, cross one q p ≠ 0) trivial
      (fun i d' ev hi hJ hb => by
        obtain ⟨one, e1, e2, e3⟩ := body i d' ev hi hJ
        obtain ⟨one', e4, hb⟩ := hb
        rw [e1] at e4
        cases e4
        rw [if_neg hb] at e3
        exact ⟨_, e2, e3⟩) (fun i d' ev hi hJ hb => by
        obtain ⟨one, e1, e2, e3⟩ := body i d' ev hi hJ
        have : ∀ q ∈ l.take i, cross one q p ≠ 0 := Classical.byContradiction fun z => hb ⟨one, e1, z⟩
        rw [if_pos this] at e3
        exact ⟨_, _, e2, e3, _, rfl⟩) (ev := [some (pt p), some d, none, none]) ⟨none, rfl⟩ with ⟨⟨i, _, one, e1, hb⟩, e⟩ | ⟨h, ev2, ⟨z2, rfl⟩, e⟩
    · have hF : ¬ FreeP p l := fun z => hb (z i one e1).2
      rw [decide_eq_false hF]
      simp [d_law_is_free, dDef, b_law_is_free, hin, hm, hL, hr, e, finP_same]
    · have hF : FreeP p l := fun k one e1 => by
        refine ⟨fun z => hm (by rw [← z]; exact List.mem_of_getElem? e1), ?_⟩
        by_cases z : ∀ q ∈ l.take k, cross one q p ≠ 0
        · exact z
        · exact absurd ⟨one, e1, z⟩ (h k (by rw [rng_len]; have := (List.getElem?_eq_some_iff.mp e1).1; omega))
      rw [decide_eq_true hF]
      simp [d_law_is_free, dDef, b_law_is_free, hin, hm, hL, hr, e, finP_same]
end My

namespace My
open PySem PySem.Spec PyProof.Rows L2 PD
local macro_rules | `(tactic| walk_at "bdn") => `(tactic| first
  | assumption
  | exact Bd.lit _ 64 (by decide)
  | (refine Bd.mul (n := ?_) (k := ?_) ?_ ?_ <;> walk_at "bdn")
  | (refine Bd.add (n := ?_) (k := ?_) ?_ ?_ <;> walk_at "bdn")
  | (refine Bd.sub (n := ?_) (k := ?_) ?_ ?_ <;> walk_at "bdn")
  | (refine Bd.neg (n := ?_) ?_ <;> walk_at "bdn")
  | exact Bd.om (by omega)
  | exact Bd.om2 (by omega))
local macro_rules | `(tactic| walk_at "bd") => `(tactic| first
  | (refine okMul_of ?_ ?_ ?_ ?_; (walk_at "bdn"); (walk_at "bdn"); decide; decide)
  | (refine okDiv_of ?_ ?_ ?_; omega; (walk_at "bdn"); decide)
  | (refine Bd.mono ?_ ?_; (walk_at "bdn"); decide))
/-! ## the law's draws -/
def potO (a b : Int) : MO := .lst [.int a, .int b]
theorem low_potO {n : Nat} {a b : Int} : lowMO n (potO a b) = true := by simp [potO, lowMO]
/-- the pot at p -/
structure Pot (st : Sto) (p : Nat) : Prop where
  ex : ∃ a b : Int, st[p]? = some (potO a b) ∧ 0 ≤ b ∧ b < 2147483648
/-- what a draw leaves: the pot alone has changed -/
structure Drew (st : Sto) (p : Nat) (st' : Sto) : Prop where
  ex : ∃ a b : Int, st' = st.set p (potO a b) ∧ 0 ≤ b ∧ b < 2147483648
theorem Drew.pot {st st' : Sto} {p : Nat} (h : Pot st p) (d : Drew st p st') : Pot st' p := by
  obtain ⟨a, b, e, _⟩ := h.ex
  obtain ⟨a', b', rfl, hb⟩ := d.ex
  exact ⟨a', b', List.getElem?_set_self (List.getElem?_eq_some_iff.mp e).1, hb⟩
theorem Drew.trans {st st1 st2 : Sto} {p : Nat} (d : Drew st p st1) (d2 : Drew st1 p st2) : Drew st p st2 := by
  obtain ⟨a, b, rfl, _⟩ := d.ex
  obtain ⟨a', b', rfl, hb⟩ := d2.ex
  exact ⟨a', b', by rw [List.set_set], hb⟩
theorem Drew.len {st st' : Sto} {p : Nat} (d : Drew st p st') : st'.length = st.length := by
  obtain ⟨a, b, rfl, _⟩ := d.ex
  rw [List.length_set]
theorem Drew.get {st st' : Sto} {p k : Nat} (d : Drew st p st') (h : k ≠ p) : st'[k]? = st[k]? := by
  obtain ⟨a, b, rfl, _⟩ := d.ex
  exact List.getElem?_set_ne (Ne.symm h)
theorem Drew.look {st st' : Sto} {p : Nat} (d : Drew st p st') {x : Dt} {ds : List Dt} (hx : look st x = some ds) (hp : x ≠ .ptr p) : look st' x = some ds := by
  cases x with
  | lst es => exact hx
  | ptr k =>
    have hk : k ≠ p := fun e => hp (by rw [e])
    simp only [PD.look, d.get hk] at hx ⊢
    exact hx
  | _ => simp only [PD.look, reduceCtorEq] at hx
theorem Pot.lt {st : Sto} {p : Nat} (h : Pot st p) : p < st.length := by
  obtain ⟨a, b, e, _⟩ := h.ex
  exact (List.getElem?_eq_some_iff.mp e).1
theorem Pot.app {st g : Sto} {p : Nat} (h : Pot st p) : Pot (st ++ g) p := by
  have hl := h.lt
  obtain ⟨a, b, e, hb⟩ := h.ex
  exact ⟨a, b, by rw [List.getElem?_append_left hl]; exact e, hb⟩
theorem Drew.app {st g st' : Sto} {p : Nat} (h : p < st.length) (d : Drew (st ++ g) p st') : ∃ st1, Drew st p st1 ∧ st' = st1 ++ g := by
  obtain ⟨a, b, rfl, hb⟩ := d.ex
  exact ⟨_, ⟨a, b, rfl, hb⟩, set_front h⟩
theorem Drew.ok {st st' : Sto} {p : Nat} (d : Drew st p st') : okSto st st' := by
  obtain ⟨a, b, rfl, _⟩ := d.ex
  exact okSto_set low_potO
theorem Drew.fin {st st' : Sto} {p : Nat} {d : Dt} (h : Drew st p st') (hd : low st.length d = true) : finP st d st' = some (d, st') := by
  obtain ⟨a, b, rfl, _⟩ := h.ex
  exact finP_set hd low_potO
theorem Drew.fin_app {st st' g : Sto} {p : Nat} {d : Dt} (h : Drew st p st') (hd : low st.length d = true) : finP st d (st' ++ g) = some (d, st') := by
  obtain ⟨a, b, rfl, _⟩ := h.ex
  exact finP_set_app hd low_potO
theorem Drew.fin_own {st st' g : Sto} {p : Nat} {ds : List Dt} (h : Drew st p st') (hd : lowL st.length ds = true) : finP st (.ptr st.length) (st' ++ .lst ds :: g) = some (.lst ds, st') := by
  obtain ⟨a, b, rfl, _⟩ := h.ex
  exact finP_own_set hd low_potO
theorem Drew.refl {st : Sto} {p : Nat} (h : Pot st p) : Drew st p st := by
  obtain ⟨a, b, e, hb⟩ := h.ex
  exact ⟨a, b, by
    refine List.ext_getElem? fun k => ?_
    by_cases hk : p = k
    · subst hk
      rw [List.getElem?_set_self (List.getElem?_eq_some_iff.mp e).1, e]
    · rw [List.getElem?_set_ne hk], hb⟩
/-- a store that began as st: the pot may have been drawn from, L: what this def has made -/
structure Cur (st : Sto) (p : Nat) (L : List MO) (s : Sto) : Prop where
  ex : ∃ s1, Drew st p s1 ∧ s = s1 ++ L
section
variable {st s s' : Sto} {p : Nat} {L : List MO} {o o' : MO} {d : Dt}
theorem Cur.start (h : Pot st p) : Cur st p [] st := ⟨st, Drew.refl h, by simp⟩
theorem Cur.push (c : Cur st p L s) : Cur st p (L ++ [o]) (s ++ [o]) := by
  obtain ⟨s1, d, rfl⟩ := c.ex
  exact ⟨s1, d, by simp⟩
theorem Cur.len (c : Cur st p L s) : s.length = st.length + L.length := by
  obtain ⟨s1, d, rfl⟩ := c.ex
  rw [List.length_append, d.len]
theorem Cur.pot (h : Pot st p) (c : Cur st p L s) : Pot s p := by
  obtain ⟨s1, d, rfl⟩ := c.ex
  exact (d.pot h).app
theorem Cur.draw (h : Pot st p) (c : Cur st p L s) (d : Drew s p s') : Cur st p L s' := by
  obtain ⟨s1, d1, rfl⟩ := c.ex
  obtain ⟨s2, d2, rfl⟩ := d.app (d1.pot h).lt
  exact ⟨s2, d1.trans d2, rfl⟩
theorem Cur.get0 (c : Cur st p (o :: L) s) : s[st.length]? = some o := by
  obtain ⟨s1, d, rfl⟩ := c.ex
  rw [List.getElem?_append_right (by rw [d.len]; exact Nat.le_refl _), d.len, Nat.sub_self]
  rfl
theorem Cur.get1 {o1 : MO} (c : Cur st p (o1 :: o :: L) s) : s[st.length + 1]? = some o := by
  obtain ⟨s1, d, rfl⟩ := c.ex
  rw [List.getElem?_append_right (by rw [d.len]; omega), d.len, Nat.add_sub_cancel_left]
  rfl
theorem Cur.set0 (c : Cur st p (o :: L) s) : Cur st p (o' :: L) (s.set st.length o') := by
  obtain ⟨s1, d, rfl⟩ := c.ex
  refine ⟨s1, d, ?_⟩
  rw [← d.len]
  simp [List.set_append]
theorem Cur.set1 {o1 : MO} (c : Cur st p (o1 :: o :: L) s) : Cur st p (o1 :: o' :: L) (s.set (st.length + 1) o') := by
  obtain ⟨s1, d, rfl⟩ := c.ex
  refine ⟨s1, d, ?_⟩
  rw [← d.len]
  simp [List.set_append]
theorem Cur.fin (c : Cur st p L s) (hd : low st.length d = true) : ∃ st', finP st d s = some (d, st') ∧ Drew st p st' := by
  obtain ⟨s1, dr, rfl⟩ := c.ex
  exact ⟨s1, dr.fin_app hd, dr⟩
theorem Cur.finOwn {ds : List Dt} (c : Cur st p (.lst ds :: L) s) (hd : lowL st.length ds = true) : ∃ st', finP st (.ptr st.length) s = some (.lst ds, st') ∧ Drew st p st' := by
  obtain ⟨s1, dr, rfl⟩ := c.ex
  exact ⟨s1, dr.fin_own hd, dr⟩
theorem Cur.look0 {ds : List Dt} (c : Cur st p (.lst ds :: L) s) : look s (.ptr st.length) = some ds := look_ptr c.get0
theorem Cur.get2 {o1 o2 : MO} (c : Cur st p (o1 :: o2 :: o :: L) s) : s[st.length + 2]? = some o := by
  obtain ⟨s1, d, rfl⟩ := c.ex
  rw [List.getElem?_append_right (by rw [d.len]; omega), d.len, Nat.add_sub_cancel_left]
  rfl
theorem Cur.look1 {ds : List Dt} {o1 : MO} (c : Cur st p (o1 :: .lst ds :: L) s) : look s (.ptr (st.length + 1)) = some ds := look_ptr c.get1
theorem Cur.look2 {ds : List Dt} {o1 o2 : MO} (c : Cur st p (o1 :: o2 :: .lst ds :: L) s) : look s (.ptr (st.length + 2)) = some ds := look_ptr c.get2
theorem Cur.finTwo {ds es : List Dt} (c : Cur st p [.lst ds, .lst es, .lst [.ptr st.length, .ptr (st.length + 1)]] s) (hd : lowL st.length ds = true) (he : lowL st.length es = true) : ∃ st', finP st (.ptr (st.length + 2)) s = some (.lst [.lst ds, .lst es], st') ∧ Drew st p st' := by
  obtain ⟨s1, dr, rfl⟩ := c.ex
  refine ⟨s1, ?_, dr⟩
  have h0 := c.get0
  have h1 := c.get1
  have h2 := c.get2
  have r0 : ∀ f, rsv (s1 ++ [MO.lst ds, MO.lst es, MO.lst [Dt.ptr st.length, Dt.ptr (st.length + 1)]]) st.length (f + 1) (.ptr st.length) = some (.lst ds) := fun f => rsv_own (Nat.lt_irrefl _) h0 hd
  have r1 : ∀ f, rsv (s1 ++ [MO.lst ds, MO.lst es, MO.lst [Dt.ptr st.length, Dt.ptr (st.length + 1)]]) st.length (f + 1) (.ptr (st.length + 1)) = some (.lst es) := fun f => rsv_own (by omega) h1 he
  have ok : okSto st (s1 ++ [MO.lst ds, MO.lst es, MO.lst [Dt.ptr st.length, Dt.ptr (st.length + 1)]]) := by
    obtain ⟨a, b, rfl, _⟩ := dr.ex
    exact okSto_set_app low_potO
  have tk : (s1 ++ [MO.lst ds, MO.lst es, MO.lst [Dt.ptr st.length, Dt.ptr (st.length + 1)]]).take st.length = s1 := by
    rw [← dr.len, List.take_left]
  unfold finP
  rw [if_pos ok, tk]
  have r2 : rsv (s1 ++ [MO.lst ds, MO.lst es, MO.lst [Dt.ptr st.length, Dt.ptr (st.length + 1)]]) st.length 5 (.ptr (st.length + 2)) = some (.lst [.lst ds, .lst es]) := by
    rw [rsv]
    have hl : low st.length (.ptr (st.length + 2)) = false := by simp
    rw [if_neg (by rw [hl]; exact Bool.false_ne_true)]
    simp only [h2, mapO, r0 3, r1 3, Option.bind_some, Option.map_some]
  rw [r2]
  rfl
end
end My

namespace My
open PySem PySem.Spec PyProof.Rows L2 PD
local macro_rules | `(tactic| walk_at "bdn") => `(tactic| first
  | assumption
  | exact Bd.lit _ 64 (by decide)
  | (refine Bd.mul (n := ?_) (k := ?_) ?_ ?_ <;> walk_at "bdn")
  | (refine Bd.add (n := ?_) (k := ?_) ?_ ?_ <;> walk_at "bdn")
  | (refine Bd.sub (n := ?_) (k := ?_) ?_ ?_ <;> walk_at "bdn")
  | (refine Bd.neg (n := ?_) ?_ <;> walk_at "bdn")
  | exact Bd.om (by omega)
  | exact Bd.om2 (by omega))
local macro_rules | `(tactic| walk_at "bd") => `(tactic| first
  | (refine okMul_of ?_ ?_ ?_ ?_; (walk_at "bdn"); (walk_at "bdn"); decide; decide)
  | (refine okDiv_of ?_ ?_ ?_; omega; (walk_at "bdn"); decide)
  | (refine Bd.mono ?_ ?_; (walk_at "bdn"); decide))
/-- one draw -/
theorem take_spec {st : Sto} {p : Nat} (h : Pot st p) {n : Int} (hn : 0 < n) (hb : Bd 200 n) : ∃ r st', d_law_take [.ptr p, .int n] st = some (.int r, st') ∧ Drew st p st' ∧ 0 ≤ r ∧ r < n := by
  have hpl := h.lt
  obtain ⟨a, b, e, h0, h1⟩ := h.ex
  have e' : st[p]? = some (.lst [.int a, .int b]) := e
  have hd : okDiv n := okDiv_of (by omega) hb (by decide)
  by_cases ha : 0 < a
  · refine ⟨a % n, st.set p (potO (a / n) b), ?_, ⟨_, _, rfl, h0, h1⟩, Int.emod_nonneg a (by omega), Int.emod_lt_of_pos a hn⟩
    have e2 : (st.set p (.lst [.int (a / n), .int b])) = st.set p (potO (a / n) b) := rfl
    simp [d_law_take, dDef, b_law_take, gIx_ptr e', ha, gMod_eq hn, gFdiv_eq hd, fdivZ_pos hn, e', e2, finP_set, low_potO]
  · have m1 : okMul b 39373 := okMul_of (Bd.om (by omega)) (Bd.lit _ 64 (by decide)) (by decide) (by decide)
    have hx0 := Int.emod_nonneg (b * 39373 + 2311) (b := 2147483629) (by decide)
    have hx1 := Int.emod_lt_of_pos (b * 39373 + 2311) (b := 2147483629) (by decide)
    generalize hX : (b * 39373 + 2311) % 2147483629 = x at hx0 hx1
    have m2 : okMul x x := okMul_of (Bd.om (by omega)) (Bd.om (by omega)) (by decide) (by decide)
    have hd17 : okDiv 17 := okDiv_of (by decide) (Bd.lit _ 64 (by decide)) (by decide)
    refine ⟨x * x % 2147483587 / 17 % n, st.set p (potO a x), ?_, ⟨_, _, rfl, hx0, by omega⟩, Int.emod_nonneg _ (by omega), Int.emod_lt_of_pos _ hn⟩
    have e2 : (st.set p (.lst [.int a, .int x])) = st.set p (potO a x) := rfl
    have e3 : (st.set p (potO a x))[p]? = some (.lst [.int a, .int x]) := List.getElem?_set_self hpl
    simp [d_law_take, dDef, b_law_take, gIx_ptr e', ha, gMul_eq m1, gMod_eq (show (0 : Int) < 2147483629 by decide), hX, e', e2, gIx_ptr e3, gMul_eq m2, gMod_eq (show (0 : Int) < 2147483587 by decide), gFdiv_eq hd17, fdivZ_pos (show (0 : Int) < 17 by decide), gMod_eq hn, finP_set, low_potO]
theorem wide_spec {st : Sto} {p : Nat} (h : Pot st p) : ∃ r st', d_law_wide [.ptr p] st = some (.int r, st') ∧ Drew st p st' ∧ In30 r := by
  obtain ⟨ev2, st2, e, f, k, rfl, h0, h1, hd⟩ := forL_all (g := gtName 2) (b := law_wide_for1) (guard := fun _ => True) (items := rngD 0 4)
    (fun i ev st' => ∃ (f : Int) (k : Option Dt), ev = [some (.ptr p), some (.int f), k] ∧ 0 ≤ f ∧ f < 10 ^ (8 * i) ∧ Drew st p st') (ev := [some (.ptr p), some (.int 0), none]) (st := st) ⟨0, none, rfl, by decide, by decide, Drew.refl h⟩ (fun _ _ _ _ => trivial) (by
      rintro i d ev st' hi ⟨f, k, rfl, h0, h1, hd⟩
      obtain ⟨rfl, hi4⟩ := rng_get hi
      obtain ⟨r, st3, e1, e2, e3, e4⟩ := take_spec (hd.pot h) (n := 100000000) (by decide) (Bd.lit _ 200 (by decide))
      have hi' : i = 0 ∨ i = 1 ∨ i = 2 ∨ i = 3 := by omega
      have hb : f < 10 ^ 32 := by rcases hi' with rfl | rfl | rfl | rfl <;> omega
      have m1 : okMul f 100000000 := okMul_of (Bd.om2 (by omega)) (Bd.lit _ 64 (by decide)) (by decide) (by decide)
      refine ⟨_, [some (.ptr p), some (.int (f * 100000000 + r)), some (.int (i : Int))], st3, rfl, by simp [law_wide_for1, gPow_eq, gMul_eq m1, e1], f * 100000000 + r, _, rfl, by omega, ?_, hd.trans e2⟩
      rcases hi' with rfl | rfl | rfl | rfl <;> omega)
  have hl : (rngD 0 4).length = 4 := rfl
  rw [hl] at h1
  have m1 : okMul 2 1000000000000000000000000000000 := okMul_of (Bd.lit _ 64 (by decide)) (Bd.lit _ 128 (by decide)) (by decide) (by decide)
  refine ⟨f % (2 * 10 ^ 30 - 1) - 10 ^ 30 + 1, st2, ?_, hd, ?_⟩
  · simp [d_law_wide, dDef, b_law_wide, e, gPow_eq, gMul_eq m1, gMod_eq, hd.fin]
  · have := Int.emod_nonneg f (b := 2 * 10 ^ 30 - 1) (by decide)
    have := Int.emod_lt_of_pos f (b := 2 * 10 ^ 30 - 1) (by decide)
    unfold In30
    omega
/-- the pot made -/
theorem pot_spec (ns : List Int) (k : Nat) (hk : k < 1000) (st : Sto) : ∃ a b : Int, d_law_pot [.scr ns, .int k] st = some (.ptr st.length, st ++ [potO a b]) ∧ 0 ≤ b ∧ b < 2147483648 := by
  have hc : ∃ c : Int, if k < ns.length then atI ns k = some c else c = 0 := by
    by_cases h : k < ns.length
    · exact ⟨ns[k], by rw [if_pos h]; exact atI_nat (List.getElem?_eq_getElem h)⟩
    · exact ⟨0, by rw [if_neg h]⟩
  obtain ⟨c, hc⟩ := hc
  obtain ⟨ev2, st2, e, f, z, rfl, h0, h1, hs2⟩ := forL_all (g := gtName 4) (b := law_pot_for1) (guard := fun _ => True) (items := (ns.take 40).map .int)
    (fun i ev st' => ∃ (f : Int) (z : Option Dt), ev = [some (.scr ns), some (.int k), some (.int c), some (.int f), z] ∧ 0 ≤ f ∧ f < 2147483648 ∧ st' = st) (ev := [some (.scr ns), some (.int k), some (.int c), some (.int (1000003 + 7919 * (k : Int))), none]) (st := st) ⟨_, none, rfl, by omega, by omega, rfl⟩ (fun _ _ _ _ => trivial) (by
      rintro i d ev st' hi ⟨f, z, rfl, h0, h1, rfl⟩
      have hd : ∃ n : Int, d = .int n := by
        obtain ⟨n, _, rfl⟩ := List.mem_map.mp (List.mem_of_getElem? hi)
        exact ⟨n, rfl⟩
      obtain ⟨n, rfl⟩ := hd
      have m1 : okMul f 39373 := okMul_of (Bd.om (by omega)) (Bd.lit _ 64 (by decide)) (by decide) (by decide)
      refine ⟨_, [some (.scr ns), some (.int k), some (.int c), some (.int ((f * 39373 + n) % 2147483629)), some (.int n)], st', rfl, by simp [law_pot_for1, gMul_eq m1, gMod_eq (show (0 : Int) < 2147483629 by decide)], _, _, rfl, Int.emod_nonneg _ (by decide), ?_, rfl⟩
      have := Int.emod_lt_of_pos (f * 39373 + n) (b := 2147483629) (by decide)
      omega)
  obtain rfl := hs2.symm
  have m1 : okMul 7919 k := okMul_of (Bd.lit _ 64 (by decide)) (Bd.om (by omega)) (by decide) (by decide)
  refine ⟨maxZ 0 (c - 10 ^ 18), f, ?_, h0, h1⟩
  have e40 := cut_to ns 40
  have e40' : cutD ns none (some (40 : Int)) = ns.take 40 := e40
  simp only [List.map_take] at e
  have e3 : gPow st (.int 10) (.int 18) = some (.int (10 ^ 18)) := gPow_eq (by decide)
  have e4 : finM st (.ptr st.length) (st ++ [.lst [.int (maxZ 0 (c - 10 ^ 18)), .int f]]) = some (.ptr st.length, st ++ [.lst [.int (maxZ 0 (c - 10 ^ 18)), .int f]]) := finM_own (by simp)
  simp only [show ((10 : Int) ^ 18) = 1000000000000000000 from rfl] at e3 e4
  by_cases h : k < ns.length
  · rw [if_pos h] at hc
    simp [d_law_pot, dDef, b_law_pot, h, hc, gMul_eq m1, e40', e, e3, e4, potO]
  · rw [if_neg h] at hc
    subst hc
    simp only [show (0 : Int) - 1000000000000000000 = -1000000000000000000 from rfl] at e4
    simp [d_law_pot, dDef, b_law_pot, h, gMul_eq m1, e40', e, e3, e4, potO]
end My

namespace My
open PySem PySem.Spec PyProof.Rows L2 PD
noncomputable def halving_for1 : DS :=
  (dSeq (dAsg (dCall 2 d_through (dCons (dVar 5) (dCons (dVar 4) dNil))) (gtName 6))
    (dIf (dAnd (dB (dCall 2 d_halves (dCons (dVar 6) (dCons (dVar 0) dNil)))) (dB (dCall 2 d_halves (dCons (dVar 6) (dCons (dVar 1) dNil))))) (dRet (dAp gTupD (dCons (dVar 6) (dCons (dVar 5) (dCons (dVar 4) dNil))))) dNext))
noncomputable def halving_for2 : DS :=
  (dFor (diAny (dSlice (dVar 2) doNone (doSome (dVar 3)))) (gtName 5) halving_for1)
/-- halving(one, other); slots: 0 one 1 other 2 some 3 k 4 place 5 ahead 6 line -/
noncomputable def b_halving : DS :=
  (dSeq (dAsg (dCall 1 d_places (dCons (dBin gAdd (dAp (asLst gList1) (dCons (dVar 0) dNil)) (dAp (asLst gList1) (dCons (dVar 1) dNil))) dNil)) (gtName 2))
    (dSeq (dFor (diEnum (dVar 2)) (gtTup 2 (gsCons (gtName 3) (gsCons (gtName 4) gsNil))) halving_for2)
    (dRet (dC .non))))
noncomputable def d_halving : DF := dDef 2 7 finP b_halving
end My

namespace My
open PySem PySem.Spec PyProof.Rows L2 PD
/-! ## points sorted; places -/
def keyP (p : Int × Int) : List Int := [p.1, p.2]
theorem keyP_inj {p q : Int × Int} (h : keyP p = keyP q) : p = q := by
  obtain ⟨e1, e2⟩ := List.cons.inj h
  exact Prod.ext e1 (List.cons.inj e2).1
theorem tupD_key (p : Int × Int) : tupD (keyP p) = pt p := rfl
def ltP (p q : Int × Int) : Prop := p.1 < q.1 ∨ (p.1 = q.1 ∧ p.2 < q.2)
instance (p q : Int × Int) : Decidable (ltP p q) := inferInstanceAs (Decidable (_ ∨ _))
theorem ltT_key (p q : Int × Int) : ltT (keyP p) (keyP q) = decide (ltP p q) := by
  unfold keyP ltP
  simp only [ltT]
  by_cases h1 : p.1 < q.1
  · simp [h1]
  · by_cases h2 : q.1 < p.1
    · have h3 : ¬ p.1 = q.1 := by omega
      simp [h1, h2, h3]
    · have h3 : p.1 = q.1 := by omega
      simp [h1, h2, h3]
theorem ltP_tri {p q : Int × Int} (h1 : ¬ ltP p q) (h2 : ¬ ltP q p) : p = q := by
  unfold ltP at h1 h2
  exact Prod.ext (by omega) (by omega)
theorem ltP_trans {p q r : Int × Int} (h1 : ltP p q) (h2 : ltP q r) : ltP p r := by unfold ltP at *; omega
theorem ltP_irrefl (p : Int × Int) : ¬ ltP p p := by unfold ltP; omega
theorem ltP_asymm {p q : Int × Int} (h : ltP p q) : ¬ ltP q p := by unfold ltP at *; omega
def srtP (l : List (Int × Int)) : List (Int × Int) := l.mergeSort fun p q => !decide (ltP q p)
theorem srtP_perm (l : List (Int × Int)) : (srtP l).Perm l := List.mergeSort_perm _ _
theorem srtP_sorted (l : List (Int × Int)) : (srtP l).Pairwise fun p q => ¬ ltP q p := by
  refine (List.pairwise_mergeSort (le := fun p q => !decide (ltP q p)) (fun a b c h1 h2 => ?_) (fun a b => ?_) l).imp fun h => by simpa using h
  · simp only [Bool.not_eq_true', decide_eq_false_iff_not] at h1 h2 ⊢
    unfold ltP at *
    omega
  · simp only [Bool.or_eq_true, Bool.not_eq_true', decide_eq_false_iff_not]
    unfold ltP
    omega
theorem srtP_uniq {l k : List (Int × Int)} (hp : k.Perm l) (hs : k.Pairwise fun p q => ¬ ltP q p) : k = srtP l :=
  List.Perm.eq_of_pairwise (le := fun p q => ¬ ltP q p) (fun a b _ _ h1 h2 => ltP_tri h2 h1) hs (srtP_sorted l) (hp.trans (srtP_perm l).symm)
theorem sortT_keys (l : List (Int × Int)) : sortT (l.map keyP) = (srtP l).map keyP := by
  refine (sortT_uniq ((srtP_perm l).map keyP) ?_).symm
  refine List.pairwise_map.mpr ((srtP_sorted l).imp fun h => ?_)
  rw [ltT_key]
  exact decide_eq_false h
theorem keyD_pt (p : Int × Int) : keyD (pt p) = some (keyP p) := rfl
theorem lookT_pts {st : Sto} {d : Dt} {l : List (Int × Int)} (hd : look st d = some (l.map pt)) : lookT st d = some (l.map keyP) := by
  unfold lookT
  rw [hd, Option.bind_some, mapO_map keyD_pt]
theorem map_tupD (l : List (Int × Int)) : (l.map keyP).map tupD = l.map pt := by rw [List.map_map]; rfl
theorem gSortI_pts {st : Sto} {d : Dt} {l : List (Int × Int)} (hd : look st d = some (l.map pt)) : gSortI st [d] = if l = [] then some [] else none := by
  cases l with
  | nil =>
    simp only [gSortI, lookI, hd]
    rfl
  | cons p l =>
    simp only [gSortI, lookI, hd]
    rfl
theorem gSort_pts {st : Sto} {d : Dt} {l : List (Int × Int)} (hd : look st d = some (l.map pt)) : gSort st [d] = some ((srtP l).map pt) := by
  have e : gSortT st [d] = some ((srtP l).map pt) := by
    simp only [gSortT, lookT_pts hd, Option.map_some, sortT_keys, map_tupD]
  unfold gSort
  rw [gSortI_pts hd]
  by_cases h : l = []
  · rw [if_pos h]
    subst h
    have : srtP [] = [] := List.Perm.eq_nil (srtP_perm [])
    rw [this]
    rfl
  · rw [if_neg h, e]
def onceP (l : List (Int × Int)) : List (Int × Int) := l.foldr (fun k r => if k ∈ r then r else k :: r) []
theorem onceP_mem {x : Int × Int} : ∀ {ks : List (Int × Int)}, x ∈ onceP ks ↔ x ∈ ks
  | [] => Iff.rfl
  | k :: ks => by
    show x ∈ (if k ∈ onceP ks then onceP ks else k :: onceP ks) ↔ _
    split
    · rename_i h
      rw [onceP_mem, List.mem_cons]
      exact ⟨.inr, fun z => z.elim (fun e => by rw [e]; exact onceP_mem.mp h) id⟩
    · rw [List.mem_cons, List.mem_cons, onceP_mem]
theorem onceP_nodup : ∀ ks : List (Int × Int), (onceP ks).Nodup
  | [] => List.nodup_nil
  | k :: ks => by
    show (if k ∈ onceP ks then onceP ks else k :: onceP ks).Nodup
    split
    · exact onceP_nodup ks
    · rename_i h
      exact List.nodup_cons.mpr ⟨h, onceP_nodup ks⟩
theorem onceP_len (ks : List (Int × Int)) : (onceP ks).length ≤ ks.length ∧ ((onceP ks).length = ks.length ↔ ks.Nodup) := by
  induction ks with
  | nil => exact ⟨Nat.le_refl _, by simp [onceP]⟩
  | cons k ks ih =>
    show (if k ∈ onceP ks then onceP ks else k :: onceP ks).length ≤ _ ∧ ((if k ∈ onceP ks then onceP ks else k :: onceP ks).length = _ ↔ _)
    obtain ⟨h1, h2⟩ := ih
    rw [List.nodup_cons, ← h2]
    split
    · rename_i h
      have hm := onceP_mem.mp h
      rw [List.length_cons]
      exact ⟨by omega, ⟨fun z => by omega, fun z => absurd hm z.1⟩⟩
    · rename_i h
      have hm : k ∉ ks := fun z => h (onceP_mem.mpr z)
      rw [List.length_cons, List.length_cons]
      exact ⟨by omega, ⟨fun z => ⟨hm, by omega⟩, fun z => by omega⟩⟩
theorem nodup_keys {l : List (Int × Int)} (h : l.Nodup) : (l.map keyP).Nodup := List.pairwise_map.mpr (List.Pairwise.imp (fun h e => h (keyP_inj e)) h)
theorem onceT_keys (l : List (Int × Int)) : (onceT (l.map keyP)).Perm ((onceP l).map keyP) := by
  refine (onceT_perm (nodup_keys (onceP_nodup l)) fun x => ?_).symm
  simp only [List.mem_map, onceP_mem]
theorem sortT_perm_eq {a b : List (List Int)} (h : a.Perm b) : sortT a = sortT b := sortT_uniq ((sortT_perm a).trans h) (sortT_sorted a)
/-- the unlike points, sorted -/
def placesP (l : List (Int × Int)) : List (Int × Int) := srtP (onceP l)
theorem placesP_mem {l : List (Int × Int)} {x : Int × Int} : x ∈ placesP l ↔ x ∈ l := by rw [placesP, (srtP_perm _).mem_iff, onceP_mem]
theorem placesP_nodup (l : List (Int × Int)) : (placesP l).Nodup := (srtP_perm _).nodup_iff.mpr (onceP_nodup l)
theorem placesP_len (l : List (Int × Int)) : (placesP l).length ≤ l.length := by rw [placesP, (srtP_perm _).length_eq]; exact (onceP_len l).1
theorem placesP_sorted (l : List (Int × Int)) : (placesP l).Pairwise ltP := by
  have h1 := srtP_sorted (onceP l)
  have h2 := placesP_nodup l
  refine (List.Pairwise.and h1 h2).imp fun {p q} h => ?_
  refine Classical.byContradiction fun z => h.2 (ltP_tri z h.1)
theorem gSortSet_pts {st : Sto} {d : Dt} {l : List (Int × Int)} (hd : look st d = some (l.map pt)) (hl : l.length < 64) : gSortSet st [d] = some ((placesP l).map pt) := by
  simp only [gSortSet, lookT_pts hd, Option.bind_some, List.length_map, if_pos hl]
  rw [sortT_perm_eq (onceT_keys l), sortT_keys, map_tupD]
  rfl
theorem gLenSet_pts {st : Sto} {d : Dt} {l : List (Int × Int)} (hd : look st d = some (l.map pt)) (hl : l.length < 64) : gLenSet st [d] = some (.int (placesP l).length) := by
  simp only [gLenSet, lookT_pts hd, Option.bind_some, List.length_map, if_pos hl]
  rw [(onceT_keys l).length_eq, List.length_map, placesP, (srtP_perm _).length_eq]
theorem placesP_full {l : List (Int × Int)} : (placesP l).length = l.length ↔ l.Nodup := by
  rw [placesP, (srtP_perm _).length_eq]
  exact (onceP_len l).2
/-- a comprehension whose items all are True, whatever it does to the store -/
theorem lc_true {g : DG} {e : DE} {ev : En} : ∀ (xs acc : List Dt) (st : Sto), acc.length + xs.length < 1000000 →
    (∀ d ∈ xs, ∀ st, ∃ ev1 st', g st d ev = some ev1 ∧ e ev1 st = some (.bl true, st')) → ∃ st', dLcL g dYes e (fun _ => True) ev xs acc st = some (acc ++ xs.map (fun _ => .bl true), st')
  | [], acc, st, _, _ => ⟨st, by simp⟩
  | d :: xs, acc, st, hl, h => by
    obtain ⟨ev1, st1, h1, h2⟩ := h d List.mem_cons_self st
    obtain ⟨st2, h3⟩ := lc_true xs (acc ++ [.bl true]) st1 (by simp at hl ⊢; omega) fun d hd => h d (List.mem_cons_of_mem _ hd)
    refine ⟨st2, ?_⟩
    rw [dLcL_cons, h1]
    simp only [Option.bind_some, dYes_eq, if_true, h2]
    rw [if_pos (by simp at hl; omega), h3]
    simp
theorem gAll_true {α : Type} {st : Sto} (l : List α) : gAll st [.lst (l.map fun _ => .bl true)] = some (.bl true) := by
  have : (l.map fun _ => Dt.bl true) = (l.map fun _ => true).map .bl := by rw [List.map_map]; rfl
  rw [this, gAll_eq, lookB_bls]
  simp
theorem gIn_tri {st : Sto} {d : Dt} {l : List (Int × Int × Int)} {p : Int × Int × Int} (hd : look st d = some (l.map tri)) : gIn st (tri p) d = some (.bl (decide (p ∈ l))) := by
  have e : py st 9 (tri p) = some (PyData.tuple [.int p.1, .int p.2.1, .int p.2.2]) := py_tri
  have e2 := py_look (f := 8) hd (mapO_map (g := tri) (h := fun p => PyData.tuple [.int p.1, .int p.2.1, .int p.2.2]) (fun p => py_tri) l)
  simp only [gIn, e, e2, Option.bind_some]
  rw [any_mem (g := fun p : Int × Int × Int => PyData.tuple [.int p.1, .int p.2.1, .int p.2.2]) (fun a b => eqv_tri a b) p l]
  exact congrArg (fun b => some (Dt.bl b)) (decide_eq_decide.mpr Iff.rfl)
theorem gNotIn_tri {st : Sto} {d : Dt} {l : List (Int × Int × Int)} {p : Int × Int × Int} (hd : look st d = some (l.map tri)) : gNotIn st (tri p) d = some (.bl (!decide (p ∈ l))) := by
  have e : py st 9 (tri p) = some (PyData.tuple [.int p.1, .int p.2.1, .int p.2.2]) := py_tri
  have e2 := py_look (f := 8) hd (mapO_map (g := tri) (h := fun p => PyData.tuple [.int p.1, .int p.2.1, .int p.2.2]) (fun p => py_tri) l)
  simp only [gNotIn, e, e2, Option.bind_some]
  rw [any_mem (g := fun p : Int × Int × Int => PyData.tuple [.int p.1, .int p.2.1, .int p.2.2]) (fun a b => eqv_tri a b) p l]
  exact congrArg (fun b => some (Dt.bl !b)) (decide_eq_decide.mpr Iff.rfl)
end My

namespace My
open PySem PySem.Spec PyProof.Rows L2 PD
/-! ## the order of lines -/
abbrev Ln := Int × Int × Int
def crs (l m : Ln) : Int := l.1 * m.2.1 - l.2.1 * m.1
/-- a normal in the one form: right half, no common divisor -/
structure Nrm (l : Ln) : Prop where
  half : 0 < l.1 ∨ (l.1 = 0 ∧ 0 < l.2.1)
  prim : Int.gcd l.1 l.2.1 = 1
def first (l m : Ln) : Prop := if l.1 = m.1 ∧ l.2.1 = m.2.1 then l.2.2 < m.2.2 else 0 < crs l m
instance (l m : Ln) : Decidable (first l m) := by unfold first; infer_instance
theorem crs_trans {u v w : Ln} (hu : Nrm u) (hv : Nrm v) (hw : Nrm w) (h1 : 0 < crs u v) (h2 : 0 < crs v w) : 0 < crs u w := by
  have e1 : v.1 * crs u w = w.1 * crs u v + u.1 * crs v w := by unfold crs; grind
  have hu1 : 0 ≤ u.1 := by rcases hu.half with h | h <;> omega
  have hw1 : 0 ≤ w.1 := by rcases hw.half with h | h <;> omega
  rcases hv.half with hv | ⟨hv1, hv2⟩
  · by_cases hz : u.1 = 0
    · exfalso
      have hu2 : 0 < u.2.1 := by
        rcases hu.half with h | h
        · omega
        · exact h.2
      unfold crs at h1
      rw [hz] at h1
      have := Int.mul_pos hu2 hv
      omega
    · have hup : 0 < u.1 := by omega
      have a1 : 0 ≤ w.1 * crs u v := Int.mul_nonneg hw1 (by omega)
      have a2 : 0 < u.1 * crs v w := Int.mul_pos hup h2
      refine Classical.byContradiction fun z => ?_
      have : v.1 * crs u w ≤ 0 := Int.mul_nonpos_of_nonneg_of_nonpos (by omega) (by omega)
      omega
  · exfalso
    unfold crs at h2
    rw [hv1] at h2
    have : 0 ≤ v.2.1 * w.1 := Int.mul_nonneg (by omega) hw1
    omega
theorem dvd_of_prim {a b c : Int} (h : a ∣ b * c) (hg : Int.gcd a b = 1) : a ∣ c := by
  have h1 : a.natAbs ∣ b.natAbs * c.natAbs := by
    rw [← Int.natAbs_mul]
    exact Int.natAbs_dvd_natAbs.mpr h
  have h2 : Nat.Coprime a.natAbs b.natAbs := hg
  exact Int.natAbs_dvd_natAbs.mp (h2.dvd_of_dvd_mul_left h1)
theorem crs_zero {u v : Ln} (hu : Nrm u) (hv : Nrm v) (h : crs u v = 0) : u.1 = v.1 ∧ u.2.1 = v.2.1 := by
  have e : u.1 * v.2.1 = u.2.1 * v.1 := by unfold crs at h; omega
  have d1 : u.1 ∣ v.1 := by
    have : u.1 ∣ u.2.1 * v.1 := ⟨v.2.1, by rw [← e]⟩
    exact dvd_of_prim this hu.prim
  have d2 : v.1 ∣ u.1 := by
    have : v.1 ∣ v.2.1 * u.1 := ⟨u.2.1, by rw [Int.mul_comm v.2.1, e, Int.mul_comm]⟩
    exact dvd_of_prim this hv.prim
  have hu1 : 0 ≤ u.1 := by rcases hu.half with h | h <;> omega
  have hv1 : 0 ≤ v.1 := by rcases hv.half with h | h <;> omega
  have e1 : u.1 = v.1 := Int.dvd_antisymm hu1 hv1 d1 d2
  refine ⟨e1, ?_⟩
  by_cases hz : u.1 = 0
  · have a1 := hu.prim
    have a2 := hv.prim
    rw [hz, Int.gcd_zero_left] at a1
    rw [← e1, hz, Int.gcd_zero_left] at a2
    have b1 : 0 < u.2.1 := by rcases hu.half with h | h; omega; exact h.2
    have b2 : 0 < v.2.1 := by rcases hv.half with h | h; omega; exact h.2
    omega
  · rw [← e1, Int.mul_comm u.2.1] at e
    exact (Int.eq_of_mul_eq_mul_left hz e).symm
theorem first_irrefl (l : Ln) : ¬ first l l := by
  unfold first
  rw [if_pos ⟨rfl, rfl⟩]
  omega
theorem first_trans {u v w : Ln} (hu : Nrm u) (hv : Nrm v) (hw : Nrm w) (h1 : first u v) (h2 : first v w) : first u w := by
  unfold first at *
  by_cases a : u.1 = v.1 ∧ u.2.1 = v.2.1
  · rw [if_pos a] at h1
    by_cases b : v.1 = w.1 ∧ v.2.1 = w.2.1
    · rw [if_pos b] at h2
      rw [if_pos ⟨a.1.trans b.1, a.2.trans b.2⟩]
      omega
    · rw [if_neg b] at h2
      rw [if_neg (by rw [a.1, a.2]; exact b)]
      unfold crs at *
      rw [a.1, a.2]
      exact h2
  · rw [if_neg a] at h1
    by_cases b : v.1 = w.1 ∧ v.2.1 = w.2.1
    · rw [if_pos b] at h2
      rw [if_neg (by rw [← b.1, ← b.2]; exact a)]
      unfold crs at *
      rw [← b.1, ← b.2]
      exact h1
    · rw [if_neg b] at h2
      have h3 := crs_trans hu hv hw h1 h2
      rw [if_neg]
      · exact h3
      · intro z
        unfold crs at h3
        rw [z.1, z.2, Int.mul_comm] at h3
        omega
theorem first_total {u v : Ln} (hu : Nrm u) (hv : Nrm v) (h1 : ¬ first u v) (h2 : ¬ first v u) : u = v := by
  unfold first at h1 h2
  by_cases a : u.1 = v.1 ∧ u.2.1 = v.2.1
  · rw [if_pos a] at h1
    rw [if_pos ⟨a.1.symm, a.2.symm⟩] at h2
    exact Prod.ext a.1 (Prod.ext a.2 (by omega))
  · exfalso
    rw [if_neg a] at h1
    rw [if_neg fun z => a ⟨z.1.symm, z.2.symm⟩] at h2
    apply a
    apply crs_zero hu hv
    have : crs v u = -crs u v := by unfold crs; grind
    omega
theorem first_asymm {u v : Ln} (h : first u v) : ¬ first v u := by
  unfold first at *
  by_cases a : u.1 = v.1 ∧ u.2.1 = v.2.1
  · rw [if_pos a] at h
    rw [if_pos ⟨a.1.symm, a.2.symm⟩]
    omega
  · rw [if_neg a] at h
    rw [if_neg fun z => a ⟨z.1.symm, z.2.symm⟩]
    have : crs v u = -crs u v := by unfold crs; grind
    omega
/-! the line through two points is in the one form -/
theorem ediv_gcd_prim {a b : Int} (h : Int.gcd a b ≠ 0) : Int.gcd (a / (Int.gcd a b : Nat)) (b / (Int.gcd a b : Nat)) = 1 := by
  have d1 : ((Int.gcd a b : Nat) : Int) ∣ a := Int.gcd_dvd_left ..
  have d2 : ((Int.gcd a b : Nat) : Int) ∣ b := Int.gcd_dvd_right ..
  obtain ⟨x, hx⟩ := d1
  obtain ⟨y, hy⟩ := d2
  have hg : ((Int.gcd a b : Nat) : Int) ≠ 0 := by omega
  have e1 : a / (Int.gcd a b : Nat) = x := Int.ediv_eq_of_eq_mul_right hg hx
  have e2 : b / (Int.gcd a b : Nat) = y := Int.ediv_eq_of_eq_mul_right hg hy
  rw [e1, e2]
  have e3 : Int.gcd a b = (Int.gcd a b) * Int.gcd x y := by
    have := Int.gcd_mul_left (Int.gcd a b : Nat) x y
    rw [← hx, ← hy, Int.natAbs_natCast] at this
    exact this
  exact Nat.eq_of_mul_eq_mul_left (Nat.pos_of_ne_zero h) (by rw [Nat.mul_one]; exact e3.symm)
theorem thru_nrm {p q : Int × Int} (h : p ≠ q) : Nrm (thru p q) := by
  have hg := thru_pos h
  have hgi : (0 : Int) < (Int.gcd (q.2 - p.2) (p.1 - q.1) : Nat) := by omega
  have hp := ediv_gcd_prim hg
  have dA : ((Int.gcd (q.2 - p.2) (p.1 - q.1) : Nat) : Int) ∣ (q.2 - p.2) := Int.gcd_dvd_left ..
  have dB : ((Int.gcd (q.2 - p.2) (p.1 - q.1) : Nat) : Int) ∣ (p.1 - q.1) := Int.gcd_dvd_right ..
  have hne : ¬ (q.2 - p.2 = 0 ∧ p.1 - q.1 = 0) := fun z => h (Prod.ext (by omega) (by omega))
  simp only [thru]
  generalize q.2 - p.2 = a at *
  generalize p.1 - q.1 = b at *
  generalize ((Int.gcd a b : Nat) : Int) = g at *
  obtain ⟨x, rfl⟩ := dA
  obtain ⟨y, rfl⟩ := dB
  have ex : g * x / g = x := Int.mul_ediv_cancel_left x (by omega)
  have ey : g * y / g = y := Int.mul_ediv_cancel_left y (by omega)
  rw [ex, ey] at hp
  have px : ∀ z : Int, fdivZ (g * z) g = z := fun z => by rw [fdivZ_pos hgi]; exact Int.mul_ediv_cancel_left z (by omega)
  have nx : ∀ z : Int, fdivZ (g * z) (-g) = -z := fun z => by
    unfold fdivZ
    rw [if_neg (by omega), Int.neg_neg, ← Int.mul_neg]
    exact Int.mul_ediv_cancel_left _ (by omega)
  have pos : ∀ z : Int, 0 < g * z ↔ 0 < z := fun z => ⟨fun k => by
    refine Classical.byContradiction fun n => ?_
    have : g * z ≤ 0 := Int.mul_nonpos_of_nonneg_of_nonpos (by omega) (by omega)
    omega, fun k => Int.mul_pos hgi k⟩
  have zer : ∀ z : Int, g * z = 0 ↔ z = 0 := fun z => ⟨fun k => (Int.mul_eq_zero.mp k).resolve_left (by omega), fun k => by rw [k, Int.mul_zero]⟩
  have neg : ∀ z : Int, g * z < 0 ↔ z < 0 := fun z => by
    have := pos z
    have := zer z
    omega
  rw [zer, zer] at hne
  split
  · rename_i hs
    rw [neg, zer, neg] at hs
    refine ⟨?_, ?_⟩
    · simp only [nx]
      omega
    · simp only [nx, Int.gcd_neg, Int.neg_gcd]
      exact hp
  · rename_i hs
    rw [neg, zer, neg] at hs
    refine ⟨?_, ?_⟩
    · simp only [px]
      omega
    · simp only [px]
      exact hp
end My

namespace My
abbrev Pt := Int × Int
def dt (u p : Pt) : Int := u.1 * p.1 + u.2 * p.2
def cr (u v : Pt) : Int := u.1 * v.2 - u.2 * v.1
def sb (p q : Pt) : Pt := (p.1 - q.1, p.2 - q.2)
theorem dt_sb (u p q : Pt) : dt u (sb p q) = dt u p - dt u q := by unfold dt sb; grind
theorem dt_add (u v p : Pt) : dt (u.1 + v.1, u.2 + v.2) p = dt u p + dt v p := by unfold dt; grind
theorem dt_neg (u p : Pt) : dt (-u.1, -u.2) p = -dt u p := by unfold dt; grind
theorem sb_eq {p q : Pt} : p = q ↔ sb p q = (0, 0) := by
  obtain ⟨a, b⟩ := p; obtain ⟨c, d⟩ := q
  simp only [sb, Prod.mk.injEq]; omega
/-! ## halving values -/
def lo (A : List Pt) (u : Pt) (c : Int) : Nat := A.countP fun x => decide (dt u x < c)
def hi (A : List Pt) (u : Pt) (c : Int) : Nat := A.countP fun x => decide (c < dt u x)
def Hv (A : List Pt) (u : Pt) (c : Int) : Prop := 2 * lo A u c ≤ A.length ∧ 2 * hi A u c ≤ A.length
theorem cnt_le {α : Type} {p q : α → Bool} {A : List α} (h : ∀ x ∈ A, p x = true → q x = true) : A.countP p ≤ A.countP q := List.countP_mono_left h
theorem lo_not (A : List Pt) (u : Pt) (c : Int) : lo A u c + A.countP (fun x => decide (c ≤ dt u x)) = A.length := by
  rw [lo, List.length_eq_countP_add_countP (fun x => decide (dt u x < c))]
  congr 1
  apply List.countP_congr
  intro x _
  simp [Int.not_lt]
theorem hi_not (A : List Pt) (u : Pt) (c : Int) : hi A u c + A.countP (fun x => decide (dt u x ≤ c)) = A.length := by
  rw [hi, List.length_eq_countP_add_countP (fun x => decide (c < dt u x))]
  congr 1
  apply List.countP_congr
  intro x _
  simp [Int.not_lt]
theorem Hv_uniq {A : List Pt} {u : Pt} {c d : Int} (ho : A.length % 2 = 1) (h1 : Hv A u c) (h2 : Hv A u d) : c = d := by
  have key : ∀ c d : Int, Hv A u c → Hv A u d → ¬ c < d := fun c d h1 h2 hcd => by
    have a := lo_not A u d
    have b : A.countP (fun x => decide (d ≤ dt u x)) ≤ hi A u c := cnt_le fun x _ hx => by simp at hx ⊢; omega
    have := h1.2
    have := h2.1
    omega
  have := key c d h1 h2
  have := key d c h2 h1
  omega
/-- of an odd number of points one has the middle value -/
theorem Hv_mem {A : List Pt} {u : Pt} {c : Int} (ho : A.length % 2 = 1) (h : Hv A u c) : ∃ p ∈ A, dt u p = c := by
  refine Classical.byContradiction fun z => ?_
  have hz : ∀ x ∈ A, dt u x ≠ c := fun x hx e => z ⟨x, hx, e⟩
  have a := lo_not A u c
  have b : A.countP (fun x => decide (c ≤ dt u x)) ≤ hi A u c := cnt_le fun x hx h => by have := hz x hx; simp at h ⊢; omega
  have := h.1
  have := h.2
  omega
/-- there is a middle -/
theorem Hv_ex {A : List Pt} (u : Pt) (hA : A ≠ []) : ∃ p ∈ A, Hv A u (dt u p) := by
  -- the greatest value of which at most half lie below
  have h0 : ∃ p ∈ A, 2 * lo A u (dt u p) ≤ A.length := by
    -- the least one
    have : ∀ A : List Pt, A ≠ [] → ∃ p ∈ A, ∀ x ∈ A, dt u p ≤ dt u x := by
      intro A
      induction A with
      | nil => intro h; exact absurd rfl h
      | cons a A ih =>
        intro _
        by_cases hA : A = []
        · exact ⟨a, List.mem_cons_self, fun x hx => by rw [hA] at hx; rw [List.mem_singleton.mp hx]; exact Int.le_refl _⟩
        · obtain ⟨p, hp, hm⟩ := ih hA
          by_cases hap : dt u a ≤ dt u p
          · exact ⟨a, List.mem_cons_self, fun x hx => by
              rcases List.mem_cons.mp hx with e | hx
              · rw [e]; exact Int.le_refl _
              · have := hm x hx; omega⟩
          · exact ⟨p, List.mem_cons_of_mem _ hp, fun x hx => by
              rcases List.mem_cons.mp hx with e | hx
              · rw [e]; omega
              · exact hm x hx⟩
    obtain ⟨p, hp, hm⟩ := this A hA
    refine ⟨p, hp, ?_⟩
    have : lo A u (dt u p) = 0 := List.countP_eq_zero.mpr fun x hx => by have := hm x hx; simp; omega
    omega
  have hmax : ∀ B : List Pt, (∃ p ∈ B, 2 * lo A u (dt u p) ≤ A.length) → ∃ p ∈ B, 2 * lo A u (dt u p) ≤ A.length ∧ ∀ x ∈ B, 2 * lo A u (dt u x) ≤ A.length → dt u x ≤ dt u p := by
    intro B
    induction B with
    | nil => rintro ⟨p, hp, _⟩; cases hp
    | cons b B ih =>
      rintro ⟨p, hp, h1⟩
      by_cases hB : ∃ p ∈ B, 2 * lo A u (dt u p) ≤ A.length
      · obtain ⟨q, hq, h2, h3⟩ := ih hB
        by_cases hb : 2 * lo A u (dt u b) ≤ A.length ∧ dt u q ≤ dt u b
        · exact ⟨b, List.mem_cons_self, hb.1, fun x hx hx2 => by
            rcases List.mem_cons.mp hx with e | hx
            · rw [e]; exact Int.le_refl _
            · have := h3 x hx hx2; omega⟩
        · exact ⟨q, List.mem_cons_of_mem _ hq, h2, fun x hx hx2 => by
            rcases List.mem_cons.mp hx with e | hx
            · rw [e] at hx2 ⊢
              have : ¬ dt u q ≤ dt u b := fun z => hb ⟨hx2, z⟩
              omega
            · exact h3 x hx hx2⟩
      · rcases List.mem_cons.mp hp with e | hp
        · subst e
          exact ⟨p, List.mem_cons_self, h1, fun x hx hx2 => by
            rcases List.mem_cons.mp hx with e | hx
            · rw [e]; exact Int.le_refl _
            · exact absurd ⟨x, hx, hx2⟩ hB⟩
        · exact absurd ⟨p, hp, h1⟩ hB
  obtain ⟨p, hp, h1, h2⟩ := hmax A h0
  refine ⟨p, hp, h1, ?_⟩
  -- else the least value above it would do
  refine Classical.byContradiction fun hc => ?_
  have hpos : 0 < hi A u (dt u p) := by omega
  obtain ⟨q, hq, hqv⟩ := List.countP_pos_iff.mp hpos
  simp only [decide_eq_true_eq] at hqv
  have hmin : ∀ B : List Pt, (∃ q ∈ B, dt u p < dt u q) → ∃ q ∈ B, dt u p < dt u q ∧ ∀ x ∈ B, dt u p < dt u x → dt u q ≤ dt u x := by
    intro B
    induction B with
    | nil => rintro ⟨q, hq, _⟩; cases hq
    | cons b B ih =>
      rintro ⟨q, hq, h1⟩
      by_cases hB : ∃ q ∈ B, dt u p < dt u q
      · obtain ⟨r, hr, h2, h3⟩ := ih hB
        by_cases hb : dt u p < dt u b ∧ dt u b ≤ dt u r
        · exact ⟨b, List.mem_cons_self, hb.1, fun x hx hx2 => by
            rcases List.mem_cons.mp hx with e | hx
            · rw [e]; exact Int.le_refl _
            · have := h3 x hx hx2; omega⟩
        · exact ⟨r, List.mem_cons_of_mem _ hr, h2, fun x hx hx2 => by
            rcases List.mem_cons.mp hx with e | hx
            · rw [e] at hx2 ⊢
              have : ¬ dt u b ≤ dt u r := fun z => hb ⟨hx2, z⟩
              omega
            · exact h3 x hx hx2⟩
      · rcases List.mem_cons.mp hq with e | hq
        · subst e
          exact ⟨q, List.mem_cons_self, h1, fun x hx hx2 => by
            rcases List.mem_cons.mp hx with e | hx
            · rw [e]; exact Int.le_refl _
            · exact absurd ⟨x, hx, hx2⟩ hB⟩
        · exact absurd ⟨q, hq, h1⟩ hB
  obtain ⟨r, hr, r1, r2⟩ := hmin A ⟨q, hq, hqv⟩
  have e1 : lo A u (dt u r) ≤ A.countP (fun x => decide (dt u x ≤ dt u p)) := cnt_le fun x hx hx2 => by
    simp only [decide_eq_true_eq] at hx2 ⊢
    refine Classical.byContradiction fun z => ?_
    have := r2 x hx (by omega)
    omega
  have e2 := hi_not A u (dt u p)
  have := h2 r hr (by omega)
  omega
/-! ## no two points change their order between u and v -/
def NoInv (S : List Pt) (u v : Pt) : Prop := ∀ x ∈ S, ∀ y ∈ S, ¬ (dt u y < dt u x ∧ dt v x < dt v y)
theorem Hv_u {S A : List Pt} {u v p : Pt} (hS : ∀ x ∈ A, x ∈ S) (hp : p ∈ S) (hn : NoInv S u v) (h : Hv A (u.1 + v.1, u.2 + v.2) (dt (u.1 + v.1, u.2 + v.2) p)) : Hv A u (dt u p) := by
  refine ⟨Nat.le_trans (Nat.mul_le_mul_left 2 (cnt_le fun x hx h => ?_)) h.1, Nat.le_trans (Nat.mul_le_mul_left 2 (cnt_le fun x hx h => ?_)) h.2⟩
  · simp only [decide_eq_true_eq, dt_add] at h ⊢
    have := hn p hp x (hS x hx)
    omega
  · simp only [decide_eq_true_eq, dt_add] at h ⊢
    have := hn x (hS x hx) p hp
    omega
theorem Hv_v {S A : List Pt} {u v p : Pt} (hS : ∀ x ∈ A, x ∈ S) (hp : p ∈ S) (hn : NoInv S u v) (h : Hv A (u.1 + v.1, u.2 + v.2) (dt (u.1 + v.1, u.2 + v.2) p)) : Hv A v (dt v p) := by
  refine ⟨Nat.le_trans (Nat.mul_le_mul_left 2 (cnt_le fun x hx h => ?_)) h.1, Nat.le_trans (Nat.mul_le_mul_left 2 (cnt_le fun x hx h => ?_)) h.2⟩
  · simp only [decide_eq_true_eq, dt_add] at h ⊢
    have := hn x (hS x hx) p hp
    omega
  · simp only [decide_eq_true_eq, dt_add] at h ⊢
    have := hn p hp x (hS x hx)
    omega
/-- between two such directions the gap does not change its sign but by a nought at one of them -/
theorem gap_step {A B : List Pt} {u v : Pt} {a b a' b' : Int} (oA : A.length % 2 = 1) (oB : B.length % 2 = 1) (hn : NoInv (A ++ B) u v)
    (h1 : Hv A u a) (h2 : Hv B u b) (h3 : Hv A v a') (h4 : Hv B v b') : ¬ (b < a ∧ a' < b') ∧ ¬ (a < b ∧ b' < a') := by
  have nA : A ≠ [] := fun e => by rw [e] at oA; cases oA
  have nB : B ≠ [] := fun e => by rw [e] at oB; cases oB
  obtain ⟨p, hp, p1⟩ := Hv_ex (u.1 + v.1, u.2 + v.2) nA
  obtain ⟨q, hq, q1⟩ := Hv_ex (u.1 + v.1, u.2 + v.2) nB
  have sA : ∀ x ∈ A, x ∈ A ++ B := fun x hx => List.mem_append_left _ hx
  have sB : ∀ x ∈ B, x ∈ A ++ B := fun x hx => List.mem_append_right _ hx
  have e1 := Hv_uniq oA h1 (Hv_u sA (sA p hp) hn p1)
  have e2 := Hv_uniq oB h2 (Hv_u sB (sB q hq) hn q1)
  have e3 := Hv_uniq oA h3 (Hv_v sA (sA p hp) hn p1)
  have e4 := Hv_uniq oB h4 (Hv_v sB (sB q hq) hn q1)
  have n1 := hn p (sA p hp) q (sB q hq)
  have n2 := hn q (sB q hq) p (sA p hp)
  omega
/-! ## turned about a place till another one is met -/
theorem cr_trans {u a b c : Pt} (ha : 0 < dt u a) (hb : 0 < dt u b) (hc : 0 < dt u c) (h1 : 0 ≤ cr a b) (h2 : 0 ≤ cr b c) : 0 ≤ cr a c := by
  have e : dt u b * cr a c = dt u a * cr b c + dt u c * cr a b := by unfold dt cr; grind
  refine Classical.byContradiction fun z => ?_
  have h3 : dt u b * cr a c < 0 := Int.mul_neg_of_pos_of_neg hb (by omega)
  have h4 : 0 ≤ dt u a * cr b c := Int.mul_nonneg (by omega) h2
  have h5 : 0 ≤ dt u c * cr a b := Int.mul_nonneg (by omega) h1
  omega
theorem cr_anti (a b : Pt) : cr b a = -cr a b := by unfold cr; grind
/-- of vectors on one side one has all others to its left -/
theorem first_ex (u : Pt) : ∀ E : List Pt, E ≠ [] → (∀ e ∈ E, 0 < dt u e) → ∃ q ∈ E, ∀ e ∈ E, 0 ≤ cr q e
  | [], h, _ => absurd rfl h
  | a :: E, _, hE => by
    by_cases h0 : E = []
    · exact ⟨a, List.mem_cons_self, fun e he => by
        rw [h0] at he
        rw [List.mem_singleton.mp he]
        unfold cr; rw [Int.mul_comm]; omega⟩
    · obtain ⟨q, hq, h1⟩ := first_ex u E h0 fun e he => hE e (List.mem_cons_of_mem _ he)
      by_cases h2 : 0 ≤ cr q a
      · exact ⟨q, List.mem_cons_of_mem _ hq, fun e he => by
          rcases List.mem_cons.mp he with z | he
          · rw [z]; exact h2
          · exact h1 e he⟩
      · refine ⟨a, List.mem_cons_self, fun e he => ?_⟩
        rcases List.mem_cons.mp he with z | he
        · rw [z]; unfold cr; rw [Int.mul_comm]; omega
        · exact cr_trans (hE a List.mem_cons_self) (hE q (List.mem_cons_of_mem _ hq)) (hE e (List.mem_cons_of_mem _ he)) (by rw [cr_anti]; omega) (h1 e he)
/-- the line's normal by a way d -/
def nrmOf (d : Pt) : Pt := (-d.2, d.1)
theorem dt_nrmOf (d e : Pt) : dt (nrmOf d) e = cr d e := by unfold dt nrmOf cr; grind
theorem turn_to {S A B : List Pt} {u P : Pt} (hP : P ∈ S) (h2 : ∃ q ∈ S, q ≠ P) (hA : ∀ x ∈ A, x ∈ S) (hB : ∀ x ∈ B, x ∈ S) (h1 : Hv A u (dt u P)) (h3 : Hv B u (dt u P)) :
    (∃ Q ∈ S, Q ≠ P ∧ Hv A (nrmOf (sb Q P)) (dt (nrmOf (sb Q P)) P) ∧ Hv B (nrmOf (sb Q P)) (dt (nrmOf (sb Q P)) P)) ∨
    ∃ Q ∈ S, Q ≠ P ∧ dt u Q = dt u P := by
  by_cases hz : ∃ Q ∈ S, Q ≠ P ∧ dt u Q = dt u P
  · obtain ⟨Q, h⟩ := hz
    exact .inr ⟨Q, h⟩
  have hne : ∀ x ∈ S, x ≠ P → dt u (sb x P) ≠ 0 := fun x hx hxp e => hz ⟨x, hx, hxp, by rw [dt_sb] at e; omega⟩
  let fl : Pt → Pt := fun x => if 0 < dt u (sb x P) then sb x P else (-(sb x P).1, -(sb x P).2)
  have flp : ∀ x ∈ S, x ≠ P → 0 < dt u (fl x) := fun x hx hxp => by
    simp only [fl]
    split
    · assumption
    · rename_i h
      have := hne x hx hxp
      have e : dt u (-(sb x P).1, -(sb x P).2) = -dt u (sb x P) := by unfold dt; grind
      rw [e]; omega
  obtain ⟨q0, hq0, hq0p⟩ := h2
  obtain ⟨e, he, hmin⟩ := first_ex u ((S.filter fun x => decide (x ≠ P)).map fl) (fun z => by
      have : q0 ∈ S.filter fun x => decide (x ≠ P) := List.mem_filter.mpr ⟨hq0, by simpa using hq0p⟩
      rw [List.map_eq_nil_iff] at z
      rw [z] at this; cases this) (fun e he => by
      obtain ⟨x, hx, rfl⟩ := List.mem_map.mp he
      obtain ⟨hx1, hx2⟩ := List.mem_filter.mp hx
      exact flp x hx1 (by simpa using hx2))
  obtain ⟨Q, hQ, rfl⟩ := List.mem_map.mp he
  obtain ⟨hQ1, hQ2⟩ := List.mem_filter.mp hQ
  have hQP : Q ≠ P := by simpa using hQ2
  have hm : ∀ x ∈ S, x ≠ P → 0 ≤ cr (fl Q) (fl x) := fun x hx hxp => hmin _ (List.mem_map.mpr ⟨x, List.mem_filter.mpr ⟨hx, by simpa using hxp⟩, rfl⟩)
  -- above goes above, or on
  have key : ∀ x ∈ S, (dt u P < dt u x → 0 ≤ cr (fl Q) (sb x P)) ∧ (dt u x < dt u P → cr (fl Q) (sb x P) ≤ 0) ∧ (dt u x = dt u P → cr (fl Q) (sb x P) = 0) := fun x hx => by
    have e := dt_sb u x P
    by_cases hxp : x = P
    · subst hxp
      have : cr (fl Q) (sb x x) = 0 := by unfold cr sb; grind
      omega
    · have h0 := hne x hx hxp
      have h1 := hm x hx hxp
      by_cases h : 0 < dt u (sb x P)
      · simp only [fl, h, if_true] at h1 ⊢
        refine ⟨fun _ => h1, fun z => ?_, fun z => ?_⟩ <;> omega
      · have e2 : fl x = (-(sb x P).1, -(sb x P).2) := if_neg h
        rw [e2] at h1
        have e3 : cr (fl Q) (-(sb x P).1, -(sb x P).2) = -cr (fl Q) (sb x P) := by unfold cr; grind
        rw [e3] at h1
        refine ⟨fun z => ?_, fun z => ?_, fun z => ?_⟩ <;> omega
  have hv : ∀ A : List Pt, (∀ x ∈ A, x ∈ S) → Hv A u (dt u P) → Hv A (nrmOf (sb Q P)) (dt (nrmOf (sb Q P)) P) := fun A hA h => by
    have sd : ∀ x, dt (nrmOf (sb Q P)) x - dt (nrmOf (sb Q P)) P = cr (sb Q P) (sb x P) := fun x => by rw [← dt_sb, dt_nrmOf]
    by_cases hq : 0 < dt u (sb Q P)
    · have hfl : fl Q = sb Q P := if_pos hq
      rw [hfl] at key
      refine ⟨Nat.le_trans (Nat.mul_le_mul_left 2 (cnt_le fun x hx hh => ?_)) h.1, Nat.le_trans (Nat.mul_le_mul_left 2 (cnt_le fun x hx hh => ?_)) h.2⟩
      · simp only [decide_eq_true_eq] at hh ⊢
        have := key x (hA x hx)
        have := sd x
        omega
      · simp only [decide_eq_true_eq] at hh ⊢
        have := key x (hA x hx)
        have := sd x
        omega
    · have hfl : fl Q = (-(sb Q P).1, -(sb Q P).2) := if_neg hq
      rw [hfl] at key
      have e3 : ∀ y, cr (-(sb Q P).1, -(sb Q P).2) y = -cr (sb Q P) y := fun y => by unfold cr; grind
      refine ⟨Nat.le_trans (Nat.mul_le_mul_left 2 (cnt_le fun x hx hh => ?_)) h.2, Nat.le_trans (Nat.mul_le_mul_left 2 (cnt_le fun x hx hh => ?_)) h.1⟩
      · simp only [decide_eq_true_eq] at hh ⊢
        have := key x (hA x hx)
        rw [e3] at this
        have := sd x
        omega
      · simp only [decide_eq_true_eq] at hh ⊢
        have := key x (hA x hx)
        rw [e3] at this
        have := sd x
        omega
  exact .inl ⟨Q, hQ1, hQP, hv A hA h1, hv B hB h3⟩
end My

namespace My
/-! ## through a half-turn there is a nought -/
theorem gap_keep {A B : List Pt} (oA : A.length % 2 = 1) (oB : B.length % 2 = 1) {T : Nat → Pt} {n : Nat} (hn : ∀ i, i < n → NoInv (A ++ B) (T i) (T (i + 1)))
    (hz : ∀ i, i ≤ n → ¬ ∃ c, Hv A (T i) c ∧ Hv B (T i) c) : ∀ i, i ≤ n → ∀ a b a' b', Hv A (T 0) a → Hv B (T 0) b → Hv A (T i) a' → Hv B (T i) b' → (b < a ↔ b' < a') := by
  have nA : A ≠ [] := fun e => by rw [e] at oA; cases oA
  have nB : B ≠ [] := fun e => by rw [e] at oB; cases oB
  intro i
  induction i with
  | zero =>
    intro _ a b a' b' h1 h2 h3 h4
    rw [Hv_uniq oA h1 h3, Hv_uniq oB h2 h4]
  | succ i ih =>
    intro hi a b a' b' h1 h2 h3 h4
    obtain ⟨p, _, hp⟩ := Hv_ex (T i) nA
    obtain ⟨q, _, hq⟩ := Hv_ex (T i) nB
    rw [ih (by omega) a b _ _ h1 h2 hp hq]
    have st := gap_step oA oB (hn i (by omega)) hp hq h3 h4
    have z1 : dt (T i) p ≠ dt (T i) q := fun e => hz i (by omega) ⟨_, hp, by rw [e]; exact hq⟩
    have z2 : a' ≠ b' := fun e => hz (i + 1) hi ⟨_, h3, by rw [e]; exact h4⟩
    omega
theorem Hv_neg {A : List Pt} {u : Pt} {c : Int} (h : Hv A u c) : Hv A (-u.1, -u.2) (-c) := by
  refine ⟨Nat.le_trans (Nat.mul_le_mul_left 2 (cnt_le fun x hx hh => ?_)) h.2, Nat.le_trans (Nat.mul_le_mul_left 2 (cnt_le fun x hx hh => ?_)) h.1⟩
  · simp only [decide_eq_true_eq, dt_neg] at hh ⊢; omega
  · simp only [decide_eq_true_eq, dt_neg] at hh ⊢; omega
theorem zero_ex {A B : List Pt} (oA : A.length % 2 = 1) (oB : B.length % 2 = 1) {T : Nat → Pt} {n : Nat} (hn : ∀ i, i < n → NoInv (A ++ B) (T i) (T (i + 1))) (hT : T n = (-(T 0).1, -(T 0).2)) :
    ∃ i, i ≤ n ∧ ∃ c, Hv A (T i) c ∧ Hv B (T i) c := by
  refine Classical.byContradiction fun z => ?_
  have hz : ∀ i, i ≤ n → ¬ ∃ c, Hv A (T i) c ∧ Hv B (T i) c := fun i hi h => z ⟨i, hi, h⟩
  have nA : A ≠ [] := fun e => by rw [e] at oA; cases oA
  have nB : B ≠ [] := fun e => by rw [e] at oB; cases oB
  obtain ⟨p, _, hp⟩ := Hv_ex (T 0) nA
  obtain ⟨q, _, hq⟩ := Hv_ex (T 0) nB
  have hp' := Hv_neg hp
  have hq' := Hv_neg hq
  rw [← hT] at hp' hq'
  have k := gap_keep oA oB hn hz n (Nat.le_refl _) _ _ _ _ hp hq hp' hq'
  have z1 : dt (T 0) p ≠ dt (T 0) q := fun e => hz 0 (Nat.zero_le _) ⟨_, hp, by rw [e]; exact hq⟩
  omega
/-! ## normals in order -/
def Half (u : Pt) : Prop := 0 < u.1 ∨ (u.1 = 0 ∧ 0 < u.2)
theorem cr_self (u : Pt) : cr u u = 0 := by unfold cr; rw [Int.mul_comm]; omega
theorem cr_dt (u v n d : Pt) : cr v n * dt u d + cr n u * dt v d + cr u v * dt n d = 0 := by unfold cr dt; grind
theorem half_trans {u v w : Pt} (hu : Half u) (hv : Half v) (hw : Half w) (h1 : 0 < cr u v) (h2 : 0 < cr v w) : 0 < cr u w := by
  have e1 : v.1 * cr u w = w.1 * cr u v + u.1 * cr v w := by unfold cr; grind
  have hu1 : 0 ≤ u.1 := by rcases hu with h | h <;> omega
  have hw1 : 0 ≤ w.1 := by rcases hw with h | h <;> omega
  rcases hv with hv | ⟨hv1, hv2⟩
  · by_cases hz : u.1 = 0
    · exfalso
      have hu2 : 0 < u.2 := by
        rcases hu with h | h
        · omega
        · exact h.2
      unfold cr at h1
      rw [hz] at h1
      have := Int.mul_pos hu2 hv
      omega
    · have hup : 0 < u.1 := by omega
      have a1 : 0 ≤ w.1 * cr u v := Int.mul_nonneg hw1 (by omega)
      have a2 : 0 < u.1 * cr v w := Int.mul_pos hup h2
      refine Classical.byContradiction fun z => ?_
      have : v.1 * cr u w ≤ 0 := Int.mul_nonpos_of_nonneg_of_nonpos (by omega) (by omega)
      omega
  · exfalso
    unfold cr at h2
    rw [hv1] at h2
    have : 0 ≤ v.2 * w.1 := Int.mul_nonneg (by omega) hw1
    omega
theorem cr_zero_half {u v : Pt} (hu : Half u) (hv : Half v) (h : cr u v = 0) (d : Pt) : dt u d = 0 ↔ dt v d = 0 := by
  have k : ∀ {u v : Pt}, Half u → Half v → cr u v = 0 → dt u d = 0 → dt v d = 0 := by
    intro u v hu hv h h0
    unfold cr at h
    unfold dt at h0 ⊢
    -- u.1 * (v . d) = v.1 * (u . d), u.2 * (v . d) = v.2 * (u . d)
    have e1 : u.1 * (v.1 * d.1 + v.2 * d.2) = v.1 * (u.1 * d.1 + u.2 * d.2) := by
      have : u.1 * v.2 = u.2 * v.1 := by omega
      grind
    have e2 : u.2 * (v.1 * d.1 + v.2 * d.2) = v.2 * (u.1 * d.1 + u.2 * d.2) := by
      have : u.1 * v.2 = u.2 * v.1 := by omega
      grind
    rw [h0, Int.mul_zero] at e1 e2
    rcases hu with hu | ⟨_, hu⟩
    · rcases Int.mul_eq_zero.mp e1 with z | z
      · omega
      · exact z
    · rcases Int.mul_eq_zero.mp e2 with z | z
      · omega
      · exact z
  exact ⟨k hu hv h, k hv hu (by rw [cr_anti, h]; rfl)⟩
/-- all slopes of points, in order -/
structure Slp (S : List Pt) (N : List Pt) : Prop where
  srt : N.Pairwise fun u v => 0 < cr u v
  half : ∀ u ∈ N, Half u
  all : ∀ x ∈ S, ∀ y ∈ S, x ≠ y → ∃ n ∈ N, dt n x = dt n y
theorem Slp.lt {S N : List Pt} (h : Slp S N) {i j : Nat} {u v : Pt} (hi : N[i]? = some u) (hj : N[j]? = some v) (hij : i < j) : 0 < cr u v := by
  obtain ⟨h1, rfl⟩ := List.getElem?_eq_some_iff.mp hi
  obtain ⟨h2, rfl⟩ := List.getElem?_eq_some_iff.mp hj
  exact List.pairwise_iff_getElem.mp h.srt i j h1 h2 hij
theorem Slp.next {S N : List Pt} (h : Slp S N) {i : Nat} {u v : Pt} (hi : N[i]? = some u) (hj : N[i + 1]? = some v) : NoInv S u v := by
  rintro x hx y hy ⟨h1, h2⟩
  have hxy : x ≠ y := fun e => by subst e; omega
  obtain ⟨n, hn, e⟩ := h.all x hx y hy hxy
  have d1 : 0 < dt u (sb x y) := by rw [dt_sb]; omega
  have d2 : dt v (sb x y) < 0 := by rw [dt_sb]; omega
  have d3 : dt n (sb x y) = 0 := by rw [dt_sb]; omega
  have id := cr_dt u v n (sb x y)
  rw [d3, Int.mul_zero, Int.add_zero] at id
  obtain ⟨k, hk⟩ := List.getElem?_of_mem hn
  have huv := h.lt hi hj (by omega)
  by_cases hki : k ≤ i
  · -- n is u, or ahead of it
    have c1 : 0 ≤ cr n u := by
      by_cases e : k = i
      · subst e; rw [hi] at hk; cases hk; rw [cr_self]; omega
      · have := h.lt hk hi (by omega); omega
    have c2 : 0 < cr n v := h.lt hk hj (by omega)
    have c3 : cr v n < 0 := by rw [cr_anti]; omega
    have := Int.mul_neg_of_neg_of_pos c3 d1
    have : cr n u * dt v (sb x y) ≤ 0 := Int.mul_nonpos_of_nonneg_of_nonpos c1 (by omega)
    omega
  · have c1 : 0 ≤ cr v n := by
      by_cases e : k = i + 1
      · subst e; rw [hj] at hk; cases hk; rw [cr_self]; omega
      · have := h.lt hj hk (by omega); omega
    have c2 : 0 < cr u n := h.lt hi hk (by omega)
    have c3 : cr n u < 0 := by rw [cr_anti]; omega
    have := Int.mul_pos_of_neg_of_neg c3 d2
    have : 0 ≤ cr v n * dt u (sb x y) := Int.mul_nonneg c1 (by omega)
    omega
theorem Slp.last {S N : List Pt} (h : Slp S N) {u v : Pt} (hi : N[0]? = some v) (hj : N[N.length - 1]? = some u) : NoInv S u (-v.1, -v.2) := by
  rintro x hx y hy ⟨h1, h2⟩
  have hxy : x ≠ y := fun e => by subst e; omega
  obtain ⟨n, hn, e⟩ := h.all x hx y hy hxy
  rw [dt_neg, dt_neg] at h2
  have d1 : 0 < dt u (sb x y) := by rw [dt_sb]; omega
  have d2 : 0 < dt v (sb x y) := by rw [dt_sb]; omega
  have d3 : dt n (sb x y) = 0 := by rw [dt_sb]; omega
  have id := cr_dt u v n (sb x y)
  rw [d3, Int.mul_zero, Int.add_zero] at id
  obtain ⟨k, hk⟩ := List.getElem?_of_mem hn
  have hkl := (List.getElem?_eq_some_iff.mp hk).1
  have c1 : 0 ≤ cr v n := by
    by_cases e : k = 0
    · subst e; rw [hi] at hk; cases hk; rw [cr_self]; omega
    · have := h.lt hi hk (by omega); omega
  have c2 : 0 ≤ cr n u := by
    by_cases e : k = N.length - 1
    · subst e; rw [hj] at hk; cases hk; rw [cr_self]; omega
    · have := h.lt hk hj (by omega); omega
  have m1 := Int.mul_nonneg c1 (show 0 ≤ dt u (sb x y) by omega)
  have m2 := Int.mul_nonneg c2 (show 0 ≤ dt v (sb x y) by omega)
  have z1 : cr v n * dt u (sb x y) = 0 := by omega
  have z2 : cr v n = 0 := (Int.mul_eq_zero.mp z1).resolve_right (by omega)
  have hvn := (cr_zero_half (h.half v (List.mem_of_getElem? hi)) (h.half n hn) z2 (sb x y)).mpr d3
  omega
/-- the arrows that are gone through -/
def arr (N : List Pt) (i : Nat) : Pt := if i < N.length then N.getD i (1, 0) else (-(N.getD 0 (1, 0)).1, -(N.getD 0 (1, 0)).2)
theorem arr_get {N : List Pt} {i : Nat} (h : i < N.length) : N[i]? = some (arr N i) := by
  unfold arr
  rw [if_pos h, List.getD_eq_getElem?_getD, List.getElem?_eq_getElem h]
  rfl
theorem Slp.arrs {S N : List Pt} (h : Slp S N) (h0 : N ≠ []) : ∀ i, i < N.length → NoInv S (arr N i) (arr N (i + 1)) := fun i hi => by
  by_cases hl : i + 1 < N.length
  · exact h.next (arr_get hi) (arr_get hl)
  · have e : arr N (i + 1) = (-(arr N 0).1, -(arr N 0).2) := by
      have hp : 0 < N.length := List.length_pos_iff.mpr h0
      unfold arr
      rw [if_neg hl, if_pos hp]
    have e2 : i = N.length - 1 := by omega
    subst e2
    rw [e]
    exact h.last (arr_get (List.length_pos_iff.mpr h0)) (arr_get hi)
theorem arr_end {N : List Pt} (h0 : N ≠ []) : arr N N.length = (-(arr N 0).1, -(arr N 0).2) := by
  have hp : 0 < N.length := List.length_pos_iff.mpr h0
  unfold arr
  rw [if_neg (by omega), if_pos hp]
/-- one line halves both, and passes through a place of each -/
theorem both_ex {S A B : List Pt} {N : List Pt} (hS : ∀ x, x ∈ A ++ B → x ∈ S) (h : Slp S N) (h0 : N ≠ []) (oA : A.length % 2 = 1) (oB : B.length % 2 = 1) :
    ∃ i, i ≤ N.length ∧ ∃ c, Hv A (arr N i) c ∧ Hv B (arr N i) c :=
  zero_ex oA oB (T := arr N) (n := N.length) (fun i hi x hx y hy => h.arrs h0 i hi x (hS x hx) y (hS y hy)) (arr_end h0)
/-- the odd part -/
theorem Hv_odd {A : List Pt} {u : Pt} {c : Int} (h : Hv (A.take (A.length - 1 + A.length % 2)) u c) : Hv A u c := by
  by_cases ho : A.length % 2 = 1
  · rw [ho] at h
    by_cases h1 : 1 ≤ A.length
    · rw [Nat.sub_add_cancel h1, List.take_length] at h
      exact h
    · omega
  · have he : A.length % 2 = 0 := by omega
    rw [he, Nat.add_zero] at h
    by_cases h1 : A.length = 0
    · rw [List.eq_nil_of_length_eq_zero h1]
      exact ⟨by simp [lo], by simp [hi]⟩
    · have hl : (A.take (A.length - 1)).length = A.length - 1 := by rw [List.length_take]; omega
      have sp : A = A.take (A.length - 1) ++ A.drop (A.length - 1) := (List.take_append_drop _ _).symm
      have hd : (A.drop (A.length - 1)).length = 1 := by rw [List.length_drop]; omega
      obtain ⟨g1, g2⟩ := h
      rw [hl] at g1 g2
      refine ⟨?_, ?_⟩
      · have : lo A u c ≤ lo (A.take (A.length - 1)) u c + 1 := by
          unfold lo
          conv => lhs; rw [sp]
          rw [List.countP_append]
          have := List.countP_le_length (p := fun x => decide (dt u x < c)) (l := A.drop (A.length - 1))
          omega
        omega
      · have : My.hi A u c ≤ My.hi (A.take (A.length - 1)) u c + 1 := by
          unfold My.hi
          conv => lhs; rw [sp]
          rw [List.countP_append]
          have := List.countP_le_length (p := fun x => decide (c < dt u x)) (l := A.drop (A.length - 1))
          omega
        omega
theorem odd_len {A : List Pt} (h : A ≠ []) : (A.take (A.length - 1 + A.length % 2)).length % 2 = 1 := by
  have := List.length_pos_iff.mpr h
  rw [List.length_take]
  omega
theorem self_pos {a : Int} (h : a ≠ 0) : 0 < a * a := by
  rcases Int.lt_or_lt_of_ne h with h | h
  · exact Int.mul_pos_of_neg_of_neg h h
  · exact Int.mul_pos h h
theorem self_nn (a : Int) : 0 ≤ a * a := by
  by_cases h : a = 0
  · rw [h]; decide
  · exact Int.le_of_lt (self_pos h)
theorem sq_pos {u : Pt} (h : u ≠ (0, 0)) : 0 < dt u u := by
  unfold dt
  by_cases h1 : u.1 = 0
  · have h2 : u.2 ≠ 0 := fun e => h (Prod.ext h1 e)
    have := self_pos h2
    rw [h1]; omega
  · have a := self_pos h1
    have b := self_nn u.2
    omega
/-- of alike directions the halving is one -/
theorem Hv_par {A : List Pt} {u m P : Pt} (hu : u ≠ (0, 0)) (hm : m ≠ (0, 0)) (hc : cr u m = 0) (h : Hv A u (dt u P)) : Hv A m (dt m P) := by
  have id : ∀ e : Pt, dt u u * dt m e = dt m u * dt u e := fun e => by
    have : dt u u * dt m e - dt m u * dt u e = cr u m * cr u e := by unfold dt cr; grind
    rw [hc, Int.zero_mul] at this
    omega
  have pu := sq_pos hu
  have pm := sq_pos hm
  have nz : dt m u ≠ 0 := fun e => by
    have := id m
    rw [e, Int.zero_mul] at this
    have := Int.mul_pos pu pm
    omega
  have sgn : ∀ x : Pt, (0 < dt m u → (dt m x < dt m P → dt u x < dt u P) ∧ (dt m P < dt m x → dt u P < dt u x)) ∧ (dt m u < 0 → (dt m x < dt m P → dt u P < dt u x) ∧ (dt m P < dt m x → dt u x < dt u P)) := fun x => by
    have e := id (sb x P)
    have e1 := dt_sb m x P
    have e2 := dt_sb u x P
    refine ⟨fun hp => ⟨fun hh => ?_, fun hh => ?_⟩, fun hp => ⟨fun hh => ?_, fun hh => ?_⟩⟩
    · refine Classical.byContradiction fun z => ?_
      have a := Int.mul_neg_of_pos_of_neg pu (show dt m (sb x P) < 0 by omega)
      have b := Int.mul_nonneg (show 0 ≤ dt m u by omega) (show 0 ≤ dt u (sb x P) by omega)
      omega
    · refine Classical.byContradiction fun z => ?_
      have a := Int.mul_pos pu (show 0 < dt m (sb x P) by omega)
      have b := Int.mul_nonpos_of_nonneg_of_nonpos (show 0 ≤ dt m u by omega) (show dt u (sb x P) ≤ 0 by omega)
      omega
    · refine Classical.byContradiction fun z => ?_
      have a := Int.mul_neg_of_pos_of_neg pu (show dt m (sb x P) < 0 by omega)
      have b := Int.mul_nonneg_of_nonpos_of_nonpos (show dt m u ≤ 0 by omega) (show dt u (sb x P) ≤ 0 by omega)
      omega
    · refine Classical.byContradiction fun z => ?_
      have a := Int.mul_pos pu (show 0 < dt m (sb x P) by omega)
      have b := Int.mul_nonpos_of_nonpos_of_nonneg (show dt m u ≤ 0 by omega) (show 0 ≤ dt u (sb x P) by omega)
      omega
  by_cases hp : 0 < dt m u
  · refine ⟨Nat.le_trans (Nat.mul_le_mul_left 2 (cnt_le fun x hx hh => ?_)) h.1, Nat.le_trans (Nat.mul_le_mul_left 2 (cnt_le fun x hx hh => ?_)) h.2⟩
    · simp only [decide_eq_true_eq] at hh ⊢; exact ((sgn x).1 hp).1 hh
    · simp only [decide_eq_true_eq] at hh ⊢; exact ((sgn x).1 hp).2 hh
  · have hp2 : dt m u < 0 := by omega
    refine ⟨Nat.le_trans (Nat.mul_le_mul_left 2 (cnt_le fun x hx hh => ?_)) h.2, Nat.le_trans (Nat.mul_le_mul_left 2 (cnt_le fun x hx hh => ?_)) h.1⟩
    · simp only [decide_eq_true_eq] at hh ⊢; exact ((sgn x).2 hp2).1 hh
    · simp only [decide_eq_true_eq] at hh ⊢; exact ((sgn x).2 hp2).2 hh
/-- a halving line through two places -/
theorem halving_ex {S A B N : List Pt} (hA : ∀ x ∈ A, x ∈ S) (hB : ∀ x ∈ B, x ∈ S) (h : Slp S N) (nA : A ≠ []) (nB : B ≠ []) {s t : Pt} (hs : s ∈ S) (ht : t ∈ S) (hst : s ≠ t) :
    ∃ P ∈ S, ∃ Q ∈ S, P ≠ Q ∧ Hv A (nrmOf (sb Q P)) (dt (nrmOf (sb Q P)) P) ∧ Hv B (nrmOf (sb Q P)) (dt (nrmOf (sb Q P)) P) := by
  have h0 : N ≠ [] := fun e => by
    obtain ⟨n, hn, _⟩ := h.all s hs t ht hst
    rw [e] at hn; cases hn
  obtain ⟨i, hi, c, h1, h2⟩ := both_ex (S := S) (A := A.take (A.length - 1 + A.length % 2)) (B := B.take (B.length - 1 + B.length % 2)) (fun x hx => by
    rcases List.mem_append.mp hx with hx | hx
    · exact hA x (List.mem_of_mem_take hx)
    · exact hB x (List.mem_of_mem_take hx)) h h0 (odd_len nA) (odd_len nB)
  obtain ⟨P, hP, rfl⟩ := Hv_mem (odd_len nA) h1
  have hPS := hA P (List.mem_of_mem_take hP)
  have g1 := Hv_odd h1
  have g2 := Hv_odd h2
  have hu : ∃ z, dt (arr N i) z ≠ 0 := by
    have hh : ∀ u : Pt, Half u → ∃ z, dt u z ≠ 0 := fun u hu => by
      rcases hu with hu | ⟨_, hu⟩
      · exact ⟨(1, 0), by unfold dt; simp; omega⟩
      · exact ⟨(0, 1), by unfold dt; simp; omega⟩
    by_cases hil : i < N.length
    · exact hh _ (h.half _ (List.mem_of_getElem? (arr_get hil)))
    · have e : i = N.length := by omega
      subst e
      obtain ⟨z, hz⟩ := hh _ (h.half _ (List.mem_of_getElem? (arr_get (List.length_pos_iff.mpr h0))))
      refine ⟨z, ?_⟩
      rw [arr_end h0, dt_neg]
      omega
  have ex : ∃ q ∈ S, q ≠ P := by
    by_cases e : s = P
    · exact ⟨t, ht, fun e2 => hst (e.trans e2.symm)⟩
    · exact ⟨s, hs, e⟩
  rcases turn_to hPS ex hA hB g1 g2 with ⟨Q, hQ, hQP, k1, k2⟩ | ⟨Q, hQ, hQP, k⟩
  · exact ⟨P, hPS, Q, hQ, fun e => hQP e.symm, k1, k2⟩
  · -- the line itself passes through two
    obtain ⟨z, hz⟩ := hu
    have hd : dt (arr N i) (sb Q P) = 0 := by rw [dt_sb]; omega
    have hne : sb Q P ≠ (0, 0) := fun e => hQP (sb_eq.mpr e)
    have hm : nrmOf (sb Q P) ≠ (0, 0) := fun e => hne (by unfold nrmOf at e; have := Prod.mk.inj e; exact Prod.ext (by omega) (by omega))
    have hun : arr N i ≠ (0, 0) := fun e => hz (by rw [e]; unfold dt; simp)
    have hc : cr (arr N i) (nrmOf (sb Q P)) = 0 := by
      have : cr (arr N i) (nrmOf (sb Q P)) = dt (arr N i) (sb Q P) := by unfold cr nrmOf dt; grind
      rw [this, hd]
    exact ⟨P, hPS, Q, hQ, fun e => hQP e.symm, Hv_par hun hm hc g1, Hv_par hun hm hc g2⟩
end My

namespace My
theorem half_tri {u v : Pt} (hu : Half u) (hv : Half v) (n : ¬ 0 < cr u v) (h : cr u v ≠ 0) : 0 < cr v u := by rw [cr_anti]; omega
/-- directions sorted, each once -/
theorem sort_dirs : ∀ M : List Pt, (∀ m ∈ M, Half m) → ∃ N : List Pt, N.Pairwise (fun u v => 0 < cr u v) ∧ (∀ n ∈ N, n ∈ M) ∧ ∀ m ∈ M, ∃ n ∈ N, cr n m = 0
  | [], _ => ⟨[], List.Pairwise.nil, (fun _ h => h), (fun _ h => nomatch h)⟩
  | m :: M, hM => by
    have hm := hM m List.mem_cons_self
    obtain ⟨N, h1, h2, h3⟩ := sort_dirs M fun x hx => hM x (List.mem_cons_of_mem _ hx)
    have hh : ∀ n ∈ N, Half n := fun n hn => hM n (List.mem_cons_of_mem _ (h2 n hn))
    by_cases hp : ∃ n ∈ N, cr n m = 0
    · exact ⟨N, h1, fun n hn => List.mem_cons_of_mem _ (h2 n hn), fun x hx => by
        rcases List.mem_cons.mp hx with e | hx
        · rw [e]; exact hp
        · exact h3 x hx⟩
    · have np : ∀ n ∈ N, cr n m ≠ 0 := fun n hn e => hp ⟨n, hn, e⟩
      refine ⟨N.filter (fun n => decide (0 < cr n m)) ++ m :: N.filter (fun n => decide (0 < cr m n)), ?_, ?_, ?_⟩
      · rw [List.pairwise_append]
        refine ⟨List.Pairwise.sublist List.filter_sublist h1, List.pairwise_cons.mpr ⟨fun x hx => by simpa using (List.mem_filter.mp hx).2, List.Pairwise.sublist List.filter_sublist h1⟩, fun a ha b hb => ?_⟩
        obtain ⟨a1, a2⟩ := List.mem_filter.mp ha
        simp only [decide_eq_true_eq] at a2
        rcases List.mem_cons.mp hb with e | hb
        · rw [e]; exact a2
        · obtain ⟨b1, b2⟩ := List.mem_filter.mp hb
          simp only [decide_eq_true_eq] at b2
          exact half_trans (hh a a1) hm (hh b b1) a2 b2
      · intro n hn
        rcases List.mem_append.mp hn with hn | hn
        · exact List.mem_cons_of_mem _ (h2 n (List.mem_filter.mp hn).1)
        · rcases List.mem_cons.mp hn with e | hn
          · rw [e]; exact List.mem_cons_self
          · exact List.mem_cons_of_mem _ (h2 n (List.mem_filter.mp hn).1)
      · intro x hx
        rcases List.mem_cons.mp hx with e | hx
        · exact ⟨m, List.mem_append_right _ List.mem_cons_self, by rw [e, cr_self]⟩
        · obtain ⟨n, hn, e⟩ := h3 x hx
          refine ⟨n, ?_, e⟩
          by_cases hc : 0 < cr n m
          · exact List.mem_append_left _ (List.mem_filter.mpr ⟨hn, by simpa using hc⟩)
          · refine List.mem_append_right _ (List.mem_cons_of_mem _ (List.mem_filter.mpr ⟨hn, ?_⟩))
            have := half_tri (hh n hn) hm hc (np n hn)
            simpa using this
/-- the half-plane's normal of a way -/
def hnrm (d : Pt) : Pt := if 0 < (nrmOf d).1 ∨ ((nrmOf d).1 = 0 ∧ 0 < (nrmOf d).2) then nrmOf d else (-(nrmOf d).1, -(nrmOf d).2)
theorem hnrm_half {d : Pt} (h : d ≠ (0, 0)) : Half (hnrm d) := by
  unfold hnrm Half
  split
  · assumption
  · rename_i z
    have : ¬ ((nrmOf d).1 = 0 ∧ (nrmOf d).2 = 0) := fun e => h (by unfold nrmOf at e; exact Prod.ext e.2 (by have := e.1; simp at this; exact this))
    simp only
    omega
theorem hnrm_dt (d : Pt) : dt (hnrm d) d = 0 := by
  unfold hnrm
  split
  · unfold nrmOf dt; simp only; rw [Int.neg_mul, Int.mul_comm]; omega
  · unfold nrmOf dt; simp only; rw [Int.neg_neg, Int.neg_mul, Int.mul_comm]; omega
theorem slp_ex (S : List Pt) : ∃ N : List Pt, Slp S N ∧ ∀ n ∈ N, ∃ x ∈ S, ∃ y ∈ S, x ≠ y ∧ n = hnrm (sb x y) := by
  obtain ⟨N, h1, h2, h3⟩ := sort_dirs (S.flatMap fun x => (S.filter fun y => decide (x ≠ y)).map fun y => hnrm (sb x y)) (fun m hm => by
    obtain ⟨x, hx, hm⟩ := List.mem_flatMap.mp hm
    obtain ⟨y, hy, rfl⟩ := List.mem_map.mp hm
    have hxy := (List.mem_filter.mp hy).2
    simp only [decide_eq_true_eq] at hxy
    exact hnrm_half fun e => hxy (sb_eq.mpr e))
  have h4 : ∀ n ∈ N, ∃ x ∈ S, ∃ y ∈ S, x ≠ y ∧ n = hnrm (sb x y) := fun n hn => by
    obtain ⟨x, hx, hm⟩ := List.mem_flatMap.mp (h2 n hn)
    obtain ⟨y, hy, e⟩ := List.mem_map.mp hm
    have hxy := (List.mem_filter.mp hy)
    simp only [decide_eq_true_eq] at hxy
    exact ⟨x, hx, y, hxy.1, hxy.2, e.symm⟩
  have hh : ∀ n ∈ N, Half n := fun n hn => by
    obtain ⟨x, _, y, _, hxy, rfl⟩ := h4 n hn
    exact hnrm_half fun e => hxy (sb_eq.mpr e)
  refine ⟨N, ⟨h1, hh, fun x hx y hy hxy => ?_⟩, h4⟩
  have hd : sb x y ≠ (0, 0) := fun e => hxy (sb_eq.mpr e)
  obtain ⟨n, hn, e⟩ := h3 (hnrm (sb x y)) (List.mem_flatMap.mpr ⟨x, hx, List.mem_map.mpr ⟨y, List.mem_filter.mpr ⟨hy, by simpa using hxy⟩, rfl⟩⟩)
  refine ⟨n, hn, ?_⟩
  have := (cr_zero_half (hh n hn) (hnrm_half hd) e (sb x y)).mpr (hnrm_dt _)
  rw [dt_sb] at this
  omega
/-- for every two heaps there is a line through two places that halves both -/
theorem halving_pair {S A B : List Pt} (hA : ∀ x ∈ A, x ∈ S) (hB : ∀ x ∈ B, x ∈ S) {s t : Pt} (hs : s ∈ S) (ht : t ∈ S) (hst : s ≠ t) :
    ∃ P ∈ S, ∃ Q ∈ S, P ≠ Q ∧ Hv A (nrmOf (sb Q P)) (dt (nrmOf (sb Q P)) P) ∧ Hv B (nrmOf (sb Q P)) (dt (nrmOf (sb Q P)) P) := by
  obtain ⟨N, hN, _⟩ := slp_ex S
  have e0 : ∀ u c, Hv [] u c := fun u c => ⟨by simp [lo], by simp [hi]⟩
  by_cases nA : A = []
  · by_cases nB : B = []
    · subst nA nB
      exact ⟨s, hs, t, ht, hst, e0 _ _, e0 _ _⟩
    · obtain ⟨P, hP, Q, hQ, h1, h2, h3⟩ := halving_ex hB hB hN nB nB hs ht hst
      subst nA
      exact ⟨P, hP, Q, hQ, h1, e0 _ _, h3⟩
  · by_cases nB : B = []
    · obtain ⟨P, hP, Q, hQ, h1, h2, h3⟩ := halving_ex hA hA hN nA nA hs ht hst
      subst nB
      exact ⟨P, hP, Q, hQ, h1, h2, e0 _ _⟩
    · exact halving_ex hA hB hN nA nB hs ht hst
end My

namespace My
open PySem PySem.Spec PyProof.Rows L2 PD
/-! ## lines through points, halving, and the plain mathematics -/
theorem thru_dir {p q : Pt} (h : p ≠ q) : (thru p q).1 * (q.1 - p.1) + (thru p q).2.1 * (q.2 - p.2) = 0 := by
  have hg := thru_pos h
  have hgi : (0 : Int) < (Int.gcd (q.2 - p.2) (p.1 - q.1) : Nat) := by omega
  have dA : ((Int.gcd (q.2 - p.2) (p.1 - q.1) : Nat) : Int) ∣ (q.2 - p.2) := Int.gcd_dvd_left ..
  have dB : ((Int.gcd (q.2 - p.2) (p.1 - q.1) : Nat) : Int) ∣ (p.1 - q.1) := Int.gcd_dvd_right ..
  have e1 : q.1 - p.1 = -(p.1 - q.1) := by omega
  rw [e1]
  simp only [thru]
  generalize q.2 - p.2 = a at *
  generalize p.1 - q.1 = b at *
  generalize ((Int.gcd a b : Nat) : Int) = g at *
  obtain ⟨x, rfl⟩ := dA
  obtain ⟨y, rfl⟩ := dB
  have px : ∀ z : Int, fdivZ (g * z) g = z := fun z => by rw [fdivZ_pos hgi]; exact Int.mul_ediv_cancel_left z (by omega)
  have nx : ∀ z : Int, fdivZ (g * z) (-g) = -z := fun z => by
    unfold fdivZ
    rw [if_neg (by omega), Int.neg_neg, ← Int.mul_neg]
    exact Int.mul_ediv_cancel_left _ (by omega)
  split
  · simp only [nx]; grind
  · simp only [px]; grind
theorem thru_on1 (p q : Pt) : (thru p q).1 * p.1 + (thru p q).2.1 * p.2 = (thru p q).2.2 := rfl
theorem thru_on2 {p q : Pt} (h : p ≠ q) : (thru p q).1 * q.1 + (thru p q).2.1 * q.2 = (thru p q).2.2 := by
  have a := thru_dir h
  have b := thru_on1 p q
  rw [Int.mul_sub, Int.mul_sub] at a
  omega
theorem thru_uniq {l : Ln} {p q : Pt} (h : p ≠ q) (n : Nrm l) (hp : l.1 * p.1 + l.2.1 * p.2 = l.2.2) (hq : l.1 * q.1 + l.2.1 * q.2 = l.2.2) : l = thru p q := by
  have t1 := thru_on1 p q
  have t2 := thru_dir h
  have nt := thru_nrm h
  generalize thru p q = t at *
  have hd : l.1 * (q.1 - p.1) + l.2.1 * (q.2 - p.2) = 0 := by rw [Int.mul_sub, Int.mul_sub]; omega
  have c1 : crs l t * (q.1 - p.1) = 0 := by
    have : crs l t * (q.1 - p.1) = t.2.1 * (l.1 * (q.1 - p.1) + l.2.1 * (q.2 - p.2)) - l.2.1 * (t.1 * (q.1 - p.1) + t.2.1 * (q.2 - p.2)) := by unfold crs; grind
    rw [this, hd, t2]; omega
  have c2 : crs l t * (q.2 - p.2) = 0 := by
    have : crs l t * (q.2 - p.2) = l.1 * (t.1 * (q.1 - p.1) + t.2.1 * (q.2 - p.2)) - t.1 * (l.1 * (q.1 - p.1) + l.2.1 * (q.2 - p.2)) := by unfold crs; grind
    rw [this, hd, t2]; omega
  have c : crs l t = 0 := by
    rcases Int.mul_eq_zero.mp c1 with z | z
    · exact z
    · rcases Int.mul_eq_zero.mp c2 with z2 | z2
      · exact z2
      · exact absurd (Prod.ext (by omega) (by omega)) h
  obtain ⟨e1, e2⟩ := crs_zero n nt c
  refine Prod.ext e1 (Prod.ext e2 ?_)
  rw [← hp, ← t1, e1, e2]
theorem thru_comm {p q : Pt} (h : p ≠ q) : thru p q = thru q p := thru_uniq (Ne.symm h) (thru_nrm h) (thru_on2 h) (thru_on1 p q)
def nm2 (l : Ln) : Pt := (l.1, l.2.1)
theorem side_dt (l : Ln) (p : Pt) : sideOf l p = sgn (dt (nm2 l) p - l.2.2) := rfl
theorem sgn_cases (n : Int) : (n < 0 ∧ sgn n = -1) ∨ (n = 0 ∧ sgn n = 0) ∨ (0 < n ∧ sgn n = 1) := by
  unfold sgn
  by_cases h1 : n > 0
  · rw [if_pos h1]; omega
  · by_cases h2 : n < 0
    · rw [if_neg h1, if_pos h2]; omega
    · rw [if_neg h1, if_neg h2]; omega
theorem count_side (l : Ln) (h : List Pt) (k : Int) : (h.map (sideOf l)).count k = h.countP fun p => decide (sideOf l p = k) := by
  rw [List.count, List.countP_map]
  apply List.countP_congr
  intro x _
  simp
theorem below_lo (l : Ln) (h : List Pt) : (h.map (sideOf l)).count (-1) = lo h (nm2 l) l.2.2 := by
  rw [count_side]
  apply List.countP_congr
  intro x _
  rw [decide_eq_true_eq, decide_eq_true_eq, side_dt]
  rcases sgn_cases (dt (nm2 l) x - l.2.2) with ⟨a, b⟩ | ⟨a, b⟩ | ⟨a, b⟩ <;> rw [b] <;> constructor <;> intro c <;> first | omega | (exact absurd c (by decide))
theorem above_hi (l : Ln) (h : List Pt) : (h.map (sideOf l)).count 1 = hi h (nm2 l) l.2.2 := by
  rw [count_side]
  apply List.countP_congr
  intro x _
  rw [decide_eq_true_eq, decide_eq_true_eq, side_dt]
  rcases sgn_cases (dt (nm2 l) x - l.2.2) with ⟨a, b⟩ | ⟨a, b⟩ | ⟨a, b⟩ <;> rw [b] <;> constructor <;> intro c <;> first | omega | (exact absurd c (by decide))
theorem halvesB_Hv {l : Ln} {h : List Pt} : halvesB l h = true ↔ Hv h (nm2 l) l.2.2 := by
  unfold halvesB Hv
  rw [below_lo, above_hi, decide_eq_true_eq]
  unfold maxZ
  split <;> omega
theorem thru_Hv {p q : Pt} (h : p ≠ q) {A : List Pt} (hv : Hv A (nrmOf (sb q p)) (dt (nrmOf (sb q p)) p)) : halvesB (thru p q) A = true := by
  rw [halvesB_Hv]
  have hd : sb q p ≠ (0, 0) := fun e => h (sb_eq.mpr e).symm
  have hm : nrmOf (sb q p) ≠ (0, 0) := fun e => hd (by unfold nrmOf at e; have := Prod.mk.inj e; exact Prod.ext (by omega) (by omega))
  have hn : nm2 (thru p q) ≠ (0, 0) := fun e => by
    have a := (thru_nrm h).half
    have b := Prod.mk.inj e
    omega
  have hc : cr (nrmOf (sb q p)) (nm2 (thru p q)) = 0 := by
    have a := thru_dir h
    have : cr (nrmOf (sb q p)) (nm2 (thru p q)) = -((thru p q).1 * (q.1 - p.1) + (thru p q).2.1 * (q.2 - p.2)) := by unfold cr nrmOf sb nm2; grind
    rw [this, a]; rfl
  exact Hv_par hm hn hc hv
/-- where there are two places there is a line through two of them that halves both heaps -/
theorem halving_thru {A B : List Pt} {s t : Pt} (hs : s ∈ A ++ B) (ht : t ∈ A ++ B) (hst : s ≠ t) : ∃ p ∈ A ++ B, ∃ q ∈ A ++ B, p ≠ q ∧ halvesB (thru p q) A = true ∧ halvesB (thru p q) B = true := by
  obtain ⟨P, hP, Q, hQ, h1, h2, h3⟩ := halving_pair (S := A ++ B) (A := A) (B := B) (fun x hx => List.mem_append_left _ hx) (fun x hx => List.mem_append_right _ hx) hs ht hst
  exact ⟨P, hP, Q, hQ, h1, thru_Hv h1 h2, thru_Hv h1 h3⟩
end My

namespace My
open PySem PySem.Spec PyProof.Rows L2 PD
theorem gAdd_look {st : Sto} {d e : Dt} {xs ys : List Dt} (h : look st d = some xs) (h2 : look st e = some ys) (hl : xs.length + ys.length ≤ 1000000) : gAdd st d e = some (.lst (xs ++ ys)) := by
  have key : ∀ d e : Dt, ((∃ xs, d = .lst xs) ∨ ∃ k, d = .ptr k) → ((∃ xs, e = .lst xs) ∨ ∃ k, e = .ptr k) → gAdd st d e = (match look st d, look st e with
      | some xs, some ys => if xs.length + ys.length ≤ 1000000 then some (Dt.lst (xs ++ ys)) else none
      | _, _ => none) := fun d e hd he => by
    rcases hd with ⟨_, rfl⟩ | ⟨k, rfl⟩ <;> rcases he with ⟨_, rfl⟩ | ⟨j, rfl⟩ <;> rfl
  rw [key d e (look_lst h) (look_lst h2), h, h2]
  exact if_pos hl
theorem ahead_eq {l m : Ln} (hl : OkL 1000 l) (hm : OkL 1000 m) (st : Sto) : d_is_ahead [tri l, tri m] st = some (.bl (decide (0 < crs l m)), st) := by
  have m1 : okMul l.1 m.2.1 := okMul_of hl.a hm.b (by decide) (by decide)
  have m2 : okMul l.2.1 m.1 := okMul_of hl.b hm.a (by decide) (by decide)
  simp [d_is_ahead, dDef, b_is_ahead, gMul_eq m1, gMul_eq m2, crs, finP_same]
theorem slice2 (l : Ln) (st : Sto) : gSlice st (tri l) none (some 2) = some (pt (l.1, l.2.1)) := by
  show some (Dt.tup (PD.cutD [.int l.1, .int l.2.1, .int l.2.2] none (some ((2 : Nat) : Int)))) = _
  rw [cut_to]
  rfl
theorem goes_first_eq {l m : Ln} (hl : OkL 1000 l) (hm : OkL 1000 m) (st : Sto) : d_goes_first [tri l, tri m] st = some (.bl (decide (first l m)), st) := by
  have s1 := slice2 l st
  have s2 := slice2 m st
  have a := ahead_eq hl hm st
  by_cases h : l.1 = m.1 ∧ l.2.1 = m.2.1
  · have e : (l.1, l.2.1) = (m.1, m.2.1) := Prod.ext h.1 h.2
    have f : first l m ↔ l.2.2 < m.2.2 := by unfold first; rw [if_pos h]
    simp [d_goes_first, dDef, b_goes_first, s1, s2, e, f, finP_same]
  · have e : ¬ (l.1, l.2.1) = (m.1, m.2.1) := fun z => h (Prod.mk.inj z)
    have f : first l m ↔ 0 < crs l m := by unfold first; rw [if_neg h]
    simp [-Prod.mk.injEq, d_goes_first, dDef, b_goes_first, s1, s2, e, a, f, finP_same]
structure GoodL (A : List Ln) : Prop where
  srt : A.Pairwise first
  nrm : ∀ l ∈ A, Nrm l ∧ OkL 1000 l
/-- what the merging has come to -/
structure Mg (A B : List Ln) (i k : Nat) (F : List Ln) : Prop where
  kA : k ≤ A.length
  len : F.length ≤ k + i
  srt : F.Pairwise first
  fA : ∀ x ∈ F, ∀ y ∈ A.drop k, first x y
  fB : ∀ x ∈ F, ∀ y ∈ B.drop i, first x y
  mem : ∀ x, (x ∈ F ∨ x ∈ A.drop k) ↔ (x ∈ A ∨ x ∈ B.take i)
theorem Mg.start (A B : List Ln) : Mg A B 0 0 [] := ⟨Nat.zero_le _, Nat.le_refl _, List.Pairwise.nil, (fun _ h => nomatch h), (fun _ h => nomatch h), fun x => by simp⟩
theorem Mg.sub {A B F : List Ln} {i k : Nat} (g : Mg A B i k F) {x : Ln} (h : x ∈ F) : x ∈ A ∨ x ∈ B := ((g.mem x).mp (.inl h)).imp id List.mem_of_mem_take
theorem drop_cons {α : Type} {l : List α} {k : Nat} {a : α} (h : l[k]? = some a) : l.drop k = a :: l.drop (k + 1) := by
  obtain ⟨h1, h2⟩ := List.getElem?_eq_some_iff.mp h
  rw [List.drop_eq_getElem_cons h1, h2]
theorem srt_drop {A : List Ln} (h : A.Pairwise first) {k : Nat} {a : Ln} (ha : A[k]? = some a) : ∀ y ∈ A.drop (k + 1), first a y := by
  have := List.Pairwise.sublist (List.drop_sublist k A) h
  rw [drop_cons ha] at this
  exact (List.pairwise_cons.mp this).1
theorem pw_push {F : List Ln} {x : Ln} (h : F.Pairwise first) (hx : ∀ y ∈ F, first y x) : (F ++ [x]).Pairwise first :=
  List.pairwise_append.mpr ⟨h, List.pairwise_singleton _ _, fun a ha b hb => by rw [List.mem_singleton.mp hb]; exact hx a ha⟩
/-- one of A goes over -/
theorem Mg.pull {A B F : List Ln} {i k : Nat} (gA : GoodL A) (gB : GoodL B) (g : Mg A B i k F) {a b : Ln} (ha : A[k]? = some a) (hb : B[i]? = some b) (hf : first a b) : Mg A B i (k + 1) (F ++ [a]) := by
  have hd := drop_cons ha
  have na := (gA.nrm a (List.mem_of_getElem? ha)).1
  refine ⟨(List.getElem?_eq_some_iff.mp ha).1, by rw [List.length_append]; have := g.len; simp; omega, pw_push g.srt fun y hy => g.fA y hy a (by rw [hd]; exact List.mem_cons_self), fun x hx y hy => ?_, fun x hx y hy => ?_, fun x => ?_⟩
  · rcases List.mem_append.mp hx with hx | hx
    · exact g.fA x hx y (by rw [hd]; exact List.mem_cons_of_mem _ hy)
    · rw [List.mem_singleton.mp hx]
      exact srt_drop gA.srt ha y hy
  · rcases List.mem_append.mp hx with hx | hx
    · exact g.fB x hx y hy
    · rw [List.mem_singleton.mp hx]
      rw [drop_cons hb] at hy
      rcases List.mem_cons.mp hy with e | hy
      · rw [e]; exact hf
      · exact first_trans na (gB.nrm b (List.mem_of_getElem? hb)).1 (gB.nrm y (List.mem_of_mem_drop hy)).1 hf (srt_drop gB.srt hb y hy)
  · rw [← g.mem x, hd, List.mem_append, List.mem_singleton, List.mem_cons]
    constructor
    · rintro ((h | h) | h)
      · exact .inl h
      · exact .inr (.inl h)
      · exact .inr (.inr h)
    · rintro (h | h | h)
      · exact .inl (.inl h)
      · exact .inl (.inr h)
      · exact .inr h
/-- the line of B goes over -/
theorem Mg.put {A B F : List Ln} {i k : Nat} (gA : GoodL A) (gB : GoodL B) (g : Mg A B i k F) {b : Ln} (hb : B[i]? = some b) (hs : ∀ a, A[k]? = some a → ¬ first a b ∧ a ≠ b) : Mg A B (i + 1) k (F ++ [b]) := by
  have hd := drop_cons hb
  have nb := (gB.nrm b (List.mem_of_getElem? hb)).1
  have bA : ∀ y ∈ A.drop k, first b y := fun y hy => by
    cases ha : A[k]? with
    | none =>
      rw [List.drop_eq_nil_of_le (List.getElem?_eq_none_iff.mp ha)] at hy
      cases hy
    | some a =>
      have na := (gA.nrm a (List.mem_of_getElem? ha)).1
      have hba : first b a := Classical.byContradiction fun z => (hs a ha).2 (first_total na nb (hs a ha).1 z)
      rw [drop_cons ha] at hy
      rcases List.mem_cons.mp hy with e | hy
      · rw [e]; exact hba
      · exact first_trans nb na (gA.nrm y (List.mem_of_mem_drop hy)).1 hba (srt_drop gA.srt ha y hy)
  have ht : B.take (i + 1) = B.take i ++ [b] := by rw [List.take_add_one, hb]; rfl
  refine ⟨g.kA, by rw [List.length_append]; have := g.len; simp; omega, pw_push g.srt fun y hy => g.fB y hy b (by rw [hd]; exact List.mem_cons_self), fun x hx y hy => ?_, fun x hx y hy => ?_, fun x => ?_⟩
  · rcases List.mem_append.mp hx with hx | hx
    · exact g.fA x hx y hy
    · rw [List.mem_singleton.mp hx]; exact bA y hy
  · rcases List.mem_append.mp hx with hx | hx
    · exact g.fB x hx y (by rw [hd]; exact List.mem_cons_of_mem _ hy)
    · rw [List.mem_singleton.mp hx]; exact srt_drop gB.srt hb y hy
  · have := g.mem x
    rw [ht]
    simp only [List.mem_append, List.mem_singleton]
    grind
/-- it is there already -/
theorem Mg.skip {A B F : List Ln} {i k : Nat} (g : Mg A B i k F) {b : Ln} (hb : B[i]? = some b) (ha : A[k]? = some b) : Mg A B (i + 1) k F := by
  have ht : B.take (i + 1) = B.take i ++ [b] := by rw [List.take_add_one, hb]; rfl
  have hd := drop_cons hb
  refine ⟨g.kA, by have := g.len; omega, g.srt, g.fA, fun x hx y hy => g.fB x hx y (by rw [hd]; exact List.mem_cons_of_mem _ hy), fun x => ?_⟩
  have := g.mem x
  have hm := List.mem_of_getElem? ha
  rw [ht]
  simp only [List.mem_append, List.mem_singleton]
  constructor
  · intro h
    rcases this.mp h with h | h
    · exact .inl h
    · exact .inr (.inl h)
  · rintro (h | h | h)
    · exact this.mpr (.inl h)
    · exact this.mpr (.inr h)
    · rw [h]; exact (g.mem b).mpr (.inl hm)
theorem Mg.done {A B F : List Ln} {k : Nat} (gA : GoodL A) (gB : GoodL B) (g : Mg A B B.length k F) : GoodL (F ++ A.drop k) ∧ ∀ x, x ∈ F ++ A.drop k ↔ x ∈ A ∨ x ∈ B := by
  have hm : ∀ x, x ∈ F ++ A.drop k ↔ x ∈ A ∨ x ∈ B := fun x => by
    rw [List.mem_append, g.mem x, List.take_length]
  refine ⟨⟨List.pairwise_append.mpr ⟨g.srt, List.Pairwise.sublist (List.drop_sublist k A) gA.srt, g.fA⟩, fun l hl => ?_⟩, hm⟩
  rcases (hm l).mp hl with h | h
  · exact gA.nrm l h
  · exact gB.nrm l h
end My

namespace My
open PySem PySem.Spec PyProof.Rows L2 PD
theorem gEq_nat {st : Sto} {a b : Nat} : gEq st (.int a) (.int b) = some (.bl (decide (a = b))) := by
  rw [gEq_int]
  exact congrArg (fun z => some (Dt.bl z)) (decide_eq_decide.mpr (by omega))
theorem tri_push {F : List Ln} {x : Ln} : (F ++ [x]).map tri = F.map tri ++ [tri x] := by rw [List.map_append]; rfl
theorem lowL_tri3 {n : Nat} {h : List Ln} : lowL n (h.map tri) = true := lowL_all fun d hd => by
  obtain ⟨p, _, rfl⟩ := List.mem_map.mp hd
  exact low_tri
theorem merged_eq {A B : List Ln} (gA : GoodL A) (gB : GoodL B) (nA : A.length < 100000) (nB : B.length < 100000) (st : Sto) :
    ∃ R : List Ln, d_merged [.lst (A.map tri), .lst (B.map tri)] st = some (.lst (R.map tri), st) ∧ GoodL R ∧ ∀ x, x ∈ R ↔ x ∈ A ∨ x ∈ B := by
  have gx : ∀ (s : Sto) (k : Nat) (a : Ln), A[k]? = some a → gIx s (.lst (A.map tri)) (.int k) = some (tri a) := fun s k a h => by
    rw [gIx_lst]
    exact atI_nat (by rw [List.getElem?_map, h]; rfl)
  have gl : ∀ s : Sto, gLen s [.lst (A.map tri)] = some (.int A.length) := fun s => by rw [gLen_look rfl, List.length_map]
  obtain ⟨ev2, st2, e, F, k, z4, rfl, rfl, hM⟩ := forL_all (g := gtName 4) (b := merged_for1) (guard := fun _ => True) (items := B.map tri)
    (fun i ev s => ∃ (F : List Ln) (k : Nat) (z4 : Option Dt), ev = [some (.lst (A.map tri)), some (.lst (B.map tri)), some (.ptr st.length), some (.int k), z4] ∧ s = st ++ [.lst (F.map tri)] ∧ Mg A B i k F)
    (ev := [some (.lst (A.map tri)), some (.lst (B.map tri)), some (.ptr st.length), some (.int 0), none]) (st := st ++ [.lst []]) ⟨[], 0, none, rfl, rfl, Mg.start A B⟩ (fun _ _ _ _ => trivial) (by
      rintro i d ev s hi ⟨F, k, z4, rfl, rfl, hM⟩
      rw [List.getElem?_map] at hi
      obtain ⟨b, hb, rfl⟩ := Option.map_eq_some_iff.mp hi
      have hbi := (List.getElem?_eq_some_iff.mp hb).1
      have okb := (gB.nrm b (List.mem_of_getElem? hb)).2
      obtain ⟨ev3, s3, e3, F', k', rfl, rfl, hM', hstop⟩ := while_inv (c := merged_wc1) (b := merged_wb1)
        (I := fun ev s => ∃ (F : List Ln) (k : Nat), ev = [some (.lst (A.map tri)), some (.lst (B.map tri)), some (.ptr st.length), some (.int k), some (tri b)] ∧ s = st ++ [.lst (F.map tri)] ∧ Mg A B i k F)
        (μ := fun ev _ => match ev with
          | [_, _, _, some (.int k), _] => (A.length - k).toNat
          | _ => 0)
        (Q := fun ev s => ∃ (F : List Ln) (k : Nat), ev = [some (.lst (A.map tri)), some (.lst (B.map tri)), some (.ptr st.length), some (.int k), some (tri b)] ∧ s = st ++ [.lst (F.map tri)] ∧ Mg A B i k F ∧ ∀ a, A[k]? = some a → ¬ first a b) (by
          rintro ev s ⟨F, k, rfl, rfl, hM⟩
          by_cases hk : k < A.length
          · have ha : A[k]? = some A[k] := List.getElem?_eq_getElem hk
            have oka := (gA.nrm _ (List.getElem_mem hk)).2
            have gf := goes_first_eq oka okb (st ++ [.lst (F.map tri)])
            by_cases hf : first A[k] b
            · rw [decide_eq_true hf] at gf
              have ap : gAppend (st ++ [.lst (F.map tri)]) (F.map tri) [tri A[k]] = some (.non, F.map tri ++ [tri A[k]]) := gAppend_eq (by rw [List.length_map]; have := hM.len; omega)
              refine .inl ⟨_, [some (.lst (A.map tri)), some (.lst (B.map tri)), some (.ptr st.length), some (.int (k + 1 : Nat)), some (tri b)], st ++ [.lst ((F ++ [A[k]]).map tri)], by simp [-gIx_lst, -gLen_lst, merged_wc1, gl, hk, gx _ k _ ha, gf]; rfl, by simp [-gIx_lst, merged_wb1, gx _ k _ ha, ap, tri_push], ⟨_, _, rfl, rfl, Mg.pull gA gB hM ha hb hf⟩, ?_⟩
              show ((A.length : Int) - ((k + 1 : Nat) : Int)).toNat < ((A.length : Int) - (k : Int)).toNat
              omega
            · rw [decide_eq_false hf] at gf
              refine .inr ⟨_, by simp [-gIx_lst, -gLen_lst, merged_wc1, gl, hk, gx _ k _ ha, gf], F, k, rfl, rfl, hM, fun a h => ?_⟩
              rw [ha] at h
              cases h
              exact hf
          · refine .inr ⟨_, by simp [-gIx_lst, -gLen_lst, merged_wc1, gl, hk], F, k, rfl, rfl, hM, fun a h => absurd (List.getElem?_eq_some_iff.mp h).1 hk⟩) FU [some (.lst (A.map tri)), some (.lst (B.map tri)), some (.ptr st.length), some (.int k), some (tri b)] (st ++ [.lst (F.map tri)]) ⟨F, k, rfl, rfl, hM⟩ (by
          show ((A.length : Int) - (k : Int)).toNat < FU
          have := FU_big (i := 100000) (Bd.lit _ 64 (by decide)) (by decide)
          have e4 : (100000 : Int).natAbs = 100000 := rfl
          omega)
      have ap : gAppend (st ++ [.lst (F'.map tri)]) (F'.map tri) [tri b] = some (.non, F'.map tri ++ [tri b]) := gAppend_eq (by rw [List.length_map]; have := hM'.len; have := hM'.kA; omega)
      by_cases hk : k' = A.length
      · have hs : ∀ a, A[k']? = some a → ¬ first a b ∧ a ≠ b := fun a h => by
          have := (List.getElem?_eq_some_iff.mp h).1
          omega
        exact ⟨_, [some (.lst (A.map tri)), some (.lst (B.map tri)), some (.ptr st.length), some (.int k'), some (tri b)], st ++ [.lst ((F' ++ [b]).map tri)], rfl, by simp [-gIx_lst, -gLen_lst, -gEq_int, merged_for1, dWhile_eq, e3, gl, gEq_nat, hk, ap, tri_push], _, _, _, rfl, rfl, Mg.put gA gB hM' hb hs⟩
      · have hk2 : k' < A.length := by have := hM'.kA; omega
        have ha : A[k']? = some A[k'] := List.getElem?_eq_getElem hk2
        have gn := gNe_tri (st := st ++ [.lst (F'.map tri)]) (p := A[k']) (q := b)
        by_cases hab : A[k'] = b
        · rw [decide_eq_true hab] at gn
          refine ⟨_, [some (.lst (A.map tri)), some (.lst (B.map tri)), some (.ptr st.length), some (.int k'), some (tri b)], st ++ [.lst (F'.map tri)], rfl, by simp [-gIx_lst, -gLen_lst, -gEq_int, merged_for1, dWhile_eq, e3, gl, gEq_nat, hk, gx _ k' _ ha, gn], _, _, _, rfl, rfl, Mg.skip hM' hb (by rw [ha, hab])⟩
        · rw [decide_eq_false hab] at gn
          have hs : ∀ a, A[k']? = some a → ¬ first a b ∧ a ≠ b := fun a h => by
            refine ⟨hstop a h, ?_⟩
            rw [ha] at h
            cases h
            exact hab
          exact ⟨_, [some (.lst (A.map tri)), some (.lst (B.map tri)), some (.ptr st.length), some (.int k'), some (tri b)], st ++ [.lst ((F' ++ [b]).map tri)], rfl, by simp [-gIx_lst, -gLen_lst, -gEq_int, merged_for1, dWhile_eq, e3, gl, gEq_nat, hk, gx _ k' _ ha, gn, ap, tri_push], _, _, _, rfl, rfl, Mg.put gA gB hM' hb hs⟩)
  rw [List.length_map] at hM
  obtain ⟨g1, g2⟩ := hM.done gA gB
  refine ⟨F ++ A.drop k, ?_, g1, g2⟩
  have sl : gSlice (st ++ [.lst (F.map tri)]) (.lst (A.map tri)) (some (k : Int)) none = some (.lst ((A.drop k).map tri)) := by
    rw [gSlice_look rfl, cut_from, List.map_drop]
  have ad : gAdd (st ++ [.lst (F.map tri)]) (.ptr st.length) (.lst ((A.drop k).map tri)) = some (.lst (F.map tri ++ (A.drop k).map tri)) := gAdd_look (look_ptr get_last) rfl (by rw [List.length_map, List.length_map, List.length_drop]; have := hM.len; have := hM.kA; omega)
  have lw : low st.length (.lst (F.map tri ++ (A.drop k).map tri)) = true := by
    rw [low_lst, ← List.map_append]
    exact lowL_tri3
  rw [List.map_append]
  simp only [List.map_drop] at sl ad lw ⊢
  simp [d_merged, dDef, b_merged, -gSlice_lst, e, sl, ad, finP_app lw]
end My

namespace My
open PySem PySem.Spec PyProof.Rows L2 PD
theorem choose_fn {α β : Type} [Inhabited β] {P : α → β → Prop} {xs : List α} (h : ∀ x ∈ xs, ∃ y, P x y) : ∃ F : α → β, ∀ x ∈ xs, P x (F x) := by
  classical
  exact ⟨fun x => if h : ∃ y, P x y then Classical.choose h else default, fun x hx => by
    simp only [dif_pos (h x hx)]
    exact Classical.choose_spec (h x hx)⟩
theorem nodup_of_first {A : List Ln} (h : A.Pairwise first) : A.Nodup := List.Pairwise.imp (S := fun a b => a ≠ b) (fun {a b} h (e : a = b) => first_irrefl a (by rw [← e] at h; exact h)) h
theorem nodup_len : ∀ {A B : List Ln}, A.Nodup → (∀ x ∈ A, x ∈ B) → A.length ≤ B.length
  | [], B, _, _ => Nat.zero_le _
  | a :: A, B, hn, hs => by
    obtain ⟨h1, h2⟩ := List.nodup_cons.mp hn
    have ha := hs a List.mem_cons_self
    have := nodup_len (A := A) (B := B.erase a) h2 fun x hx => (List.mem_erase_of_ne (fun e => h1 (by rw [← e]; exact hx))).mpr (hs x (List.mem_cons_of_mem _ hx))
    rw [List.length_erase_of_mem ha] at this
    have hp : 0 < B.length := List.length_pos_of_mem ha
    rw [List.length_cons]
    omega
def rowD (r : List Ln) : Dt := .lst (r.map tri)
structure Rows (ls : List Ln) (rows : List (List Ln)) : Prop where
  good : ∀ r ∈ rows, GoodL r
  mem : ∀ x, (∃ r ∈ rows, x ∈ r) ↔ x ∈ ls
theorem Rows.len {ls : List Ln} {rows : List (List Ln)} (h : Rows ls rows) {r : List Ln} (hr : r ∈ rows) : r.length ≤ ls.length :=
  nodup_len (nodup_of_first (h.good r hr).srt) fun x hx => (h.mem x).mp ⟨r, hr, hx⟩
theorem lines_in_order_eq {ls : List Ln} {d : Dt} {st : Sto} (hd : look st d = some (ls.map tri)) (hok : ∀ l ∈ ls, Nrm l ∧ OkL 1000 l) (hn : ls.length < 10000) :
    ∃ R : List Ln, d_lines_in_order [d] st = some (.lst (R.map tri), st) ∧ GoodL R ∧ ∀ x, x ∈ R ↔ x ∈ ls := by
  have l1 : dLcL (gtName 3) dYes lines_in_order_el1 (fun s => look s d = some (ls.map tri)) [some d, none, none, none, none] (ls.map tri) [] st = some ((ls.map fun l => [l]).map rowD, st) := by
    have := lc_map (g := gtName 3) (e := lines_in_order_el1) (guard := fun s => look s d = some (ls.map tri)) (ev := [some d, none, none, none, none]) (f := tri) (h := fun l => rowD [l]) (st := st) hd ls [] (by simp; omega) (fun l hl => ⟨_, rfl, by simp [lines_in_order_el1, rowD, gLstD]⟩)
    rw [this, List.map_map]
    rfl
  obtain ⟨ev2, st2, e, rows, z2, rfl, rfl, hR, hone⟩ := while_inv (c := lines_in_order_wc1) (b := lines_in_order_wb1)
    (I := fun ev s => ∃ (rows : List (List Ln)) (z2 : Option Dt), ev = [some d, some (.lst (rows.map rowD)), z2, none, none] ∧ s = st ∧ Rows ls rows ∧ rows.length ≤ ls.length)
    (μ := fun ev _ => match ev with
      | [_, some (.lst ds), _, _, _] => ds.length
      | _ => 0)
    (Q := fun ev s => ∃ (rows : List (List Ln)) (z2 : Option Dt), ev = [some d, some (.lst (rows.map rowD)), z2, none, none] ∧ s = st ∧ Rows ls rows ∧ rows.length ≤ 1) (by
      rintro ev s ⟨rows, z2, rfl, rfl, hR, hlen⟩
      by_cases hm : 1 < rows.length
      · refine .inl ?_
        have get : ∀ j, j < rows.length → ∃ r, rows[j]? = some r ∧ r ∈ rows := fun j hj => ⟨rows[j], List.getElem?_eq_getElem hj, List.getElem_mem hj⟩
        obtain ⟨F, hF⟩ := choose_fn (P := fun (i : Nat) (R : List Ln) => ∃ a b, rows[2 * i]? = some a ∧ rows[2 * i + 1]? = some b ∧ d_merged [.lst (a.map tri), .lst (b.map tri)] s = some (.lst (R.map tri), s) ∧ GoodL R ∧ ∀ x, x ∈ R ↔ x ∈ a ∨ x ∈ b) (xs := List.range (rows.length / 2)) (fun i hi => by
          have hi := List.mem_range.mp hi
          obtain ⟨a, a1, a2⟩ := get (2 * i) (by omega)
          obtain ⟨b, b1, b2⟩ := get (2 * i + 1) (by omega)
          have la := hR.len a2
          have lb := hR.len b2
          obtain ⟨R, h1, h2, h3⟩ := merged_eq (hR.good a a2) (hR.good b b2) (by omega) (by omega) s
          exact ⟨R, a, b, a1, b1, h1, h2, h3⟩)
        have gx : ∀ (j : Nat) (r : List Ln), rows[j]? = some r → gIx s (.lst (rows.map rowD)) (.int j) = some (rowD r) := fun j r h => by
          rw [gIx_lst]
          exact atI_nat (by rw [List.getElem?_map, h]; rfl)
        have rs : (Builtin.Range.rangeSize 0 ((rows.length : Int) - 1) 2).toNat = rows.length / 2 := by
          unfold Builtin.Range.rangeSize
          rw [if_pos (by decide), if_pos (by omega)]
          omega
        have lc : ∀ z2, dLcL (gtName 4) dYes lines_in_order_el2 (fun _ => True) [some d, some (.lst (rows.map rowD)), z2, none, none] (rngC 0 2 (rows.length / 2)) [] s = some (((List.range (rows.length / 2)).map F).map rowD, s) := fun z2 => by
          have := lc_map (g := gtName 4) (e := lines_in_order_el2) (guard := fun _ => True) (ev := [some d, some (.lst (rows.map rowD)), z2, none, none]) (f := fun i : Nat => Dt.int (0 + (i : Nat) * 2)) (h := fun i => rowD (F i)) (st := s) trivial (List.range (rows.length / 2)) [] (by rw [List.length_range, List.length_nil]; omega) (fun i hi => by
            obtain ⟨a, b, a1, b1, h1, _⟩ := hF i hi
            have x1 := gx (2 * i) a a1
            have x2 := gx (2 * i + 1) b b1
            have c1 : ((0 : Int) + (i : Nat) * 2) = ((2 * i : Nat) : Int) := by omega
            have c2 : (((2 * i : Nat) : Int) + 1) = ((2 * i + 1 : Nat) : Int) := by omega
            refine ⟨[some d, some (.lst (rows.map rowD)), z2, none, some (.int ((2 * i : Nat) : Int))], by rw [c1]; rfl, ?_⟩
            unfold rowD at x1 x2 ⊢
            have x2' : gIx s (.lst (rows.map fun r => .lst (r.map tri))) (.int (((2 * i : Nat) : Int) + 1)) = some (.lst (b.map tri)) := by rw [c2]; exact x2
            simp [-gIx_lst, -Int.natCast_mul, lines_in_order_el2, x1, x2', h1])
          rw [List.map_map]
          exact this
        have sm : Builtin.Range.small 0 ((rows.length : Int) - 1) 2 = true := by
          have hr : Builtin.Range.rangeSize 0 ((rows.length : Int) - 1) 2 = (rows.length / 2 : Nat) := by
            unfold Builtin.Range.rangeSize
            rw [if_pos (by decide), if_pos (by omega)]
            omega
          unfold Builtin.Range.small
          rw [hr]
          simp only [Builtin.Range.rangeFitsLong, Bool.and_eq_true, Bool.or_eq_true, decide_eq_true_eq, beq_iff_eq, show (2 : Int) > 0 by decide, if_true]
          omega
        have cnd : ¬ (2 : Int) = 0 := by decide
        have gl : gLen s [.lst (rows.map rowD)] = some (.int rows.length) := by rw [gLen_look rfl, List.length_map]
        have gl2 : gLen s [.lst (((List.range (rows.length / 2)).map F).map rowD)] = some (.int (rows.length / 2 : Nat)) := by rw [gLen_look rfl, List.length_map, List.length_map, List.length_range]
        have mm : okMul 2 (rows.length / 2 : Nat) := okMul_of (Bd.lit _ 64 (by decide)) (Bd.om (by omega)) (by decide) (by decide)
        have c2 : ((2 : Int) * ((rows.length / 2 : Nat) : Int)) = ((2 * (rows.length / 2) : Nat) : Int) := by omega
        have sl : gSlice s (.lst (rows.map rowD)) (some ((2 * (rows.length / 2) : Nat) : Int)) none = some (.lst ((rows.drop (2 * (rows.length / 2))).map rowD)) := by
          rw [gSlice_look rfl, cut_from, List.map_drop]
        have ad : gAdd s (.lst (((List.range (rows.length / 2)).map F).map rowD)) (.lst ((rows.drop (2 * (rows.length / 2))).map rowD)) = some (.lst ((((List.range (rows.length / 2)).map F) ++ rows.drop (2 * (rows.length / 2))).map rowD)) := by
          rw [gAdd_look rfl rfl (by simp only [List.length_map, List.length_range, List.length_drop]; omega), List.map_append]
        refine ⟨s, [some d, some (.lst ((((List.range (rows.length / 2)).map F) ++ rows.drop (2 * (rows.length / 2))).map rowD)), some (.lst (((List.range (rows.length / 2)).map F).map rowD)), none, none], s, ?_, ?_, ⟨_, _, rfl, rfl, ⟨fun r hr => ?_, fun x => ?_⟩, ?_⟩, ?_⟩
        · simp [-gLen_lst, lines_in_order_wc1, gl, hm]; omega
        · simp only [List.map_append] at ad
          clear hF
          generalize rows.length / 2 = hm2 at *
          simp [-List.map_map, -List.map_drop, -gLen_lst, -gSlice_lst, -Int.natCast_mul, lines_in_order_wb1, gl, gl2, sm, rs, lc, gMul_eq mm, c2, sl, ad]
        · rcases List.mem_append.mp hr with hr | hr
          · obtain ⟨i, hi, rfl⟩ := List.mem_map.mp hr
            obtain ⟨a, b, _, _, _, h4, _⟩ := hF i hi
            exact h4
          · exact hR.good r (List.mem_of_mem_drop hr)
        · rw [← hR.mem x]
          constructor
          · rintro ⟨r, hr, hx⟩
            rcases List.mem_append.mp hr with hr | hr
            · obtain ⟨i, hi, rfl⟩ := List.mem_map.mp hr
              obtain ⟨a, b, a1, b1, _, _, h5⟩ := hF i hi
              rcases (h5 x).mp hx with h | h
              · exact ⟨a, List.mem_of_getElem? a1, h⟩
              · exact ⟨b, List.mem_of_getElem? b1, h⟩
            · exact ⟨r, List.mem_of_mem_drop hr, hx⟩
          · rintro ⟨r, hr, hx⟩
            obtain ⟨j, hj⟩ := List.getElem?_of_mem hr
            have hjl := (List.getElem?_eq_some_iff.mp hj).1
            by_cases hj2 : j < 2 * (rows.length / 2)
            · have hi : j / 2 ∈ List.range (rows.length / 2) := List.mem_range.mpr (by omega)
              obtain ⟨a, b, a1, b1, _, _, h5⟩ := hF _ hi
              refine ⟨F (j / 2), List.mem_append_left _ (List.mem_map.mpr ⟨_, hi, rfl⟩), (h5 x).mpr ?_⟩
              have hj3 : j = 2 * (j / 2) ∨ j = 2 * (j / 2) + 1 := by omega
              rcases hj3 with h | h
              · rw [← h, hj] at a1
                cases a1
                exact .inl hx
              · rw [← h, hj] at b1
                cases b1
                exact .inr hx
            · refine ⟨r, List.mem_append_right _ (List.mem_of_getElem? (i := j - 2 * (rows.length / 2)) ?_), hx⟩
              rw [List.getElem?_drop, ← hj]
              congr 1
              omega
        · simp only [List.length_append, List.length_map, List.length_range, List.length_drop]
          omega
        · show (List.map rowD _).length < (rows.map rowD).length
          simp only [List.length_append, List.length_map, List.length_range, List.length_drop]
          omega
      · refine .inr ⟨s, ?_, rows, z2, rfl, rfl, hR, by omega⟩
        simp [lines_in_order_wc1]
        omega) FU [some d, some (.lst ((ls.map fun l => [l]).map rowD)), none, none, none] st ⟨_, _, rfl, rfl, ⟨fun r hr => by
      obtain ⟨l, hl, rfl⟩ := List.mem_map.mp hr
      exact ⟨List.pairwise_singleton _ _, fun x hx => by rw [List.mem_singleton.mp hx]; exact hok l hl⟩, fun x => ⟨fun ⟨r, hr, hx⟩ => by
      obtain ⟨l, hl, rfl⟩ := List.mem_map.mp hr
      rw [List.mem_singleton.mp hx]
      exact hl, fun hx => ⟨[x], List.mem_map.mpr ⟨x, hx, rfl⟩, List.mem_singleton_self x⟩⟩⟩, by simp⟩ (by
    show ((ls.map fun l => [l]).map rowD).length < FU
    have := FU_big (i := 100000) (Bd.lit _ 64 (by decide)) (by decide)
    have e4 : (100000 : Int).natAbs = 100000 := rfl
    rw [List.length_map, List.length_map]
    omega)
  have ad : gAdd st2 (.lst (rows.map rowD)) (.lst [.lst []]) = some (.lst (rows.map rowD ++ [.lst []])) := gAdd_look rfl rfl (by rw [List.length_map]; simp; omega)
  rcases rows with _ | ⟨r, rows⟩
  · have hls : ls = [] := by
      cases ls with
      | nil => rfl
      | cons l ls =>
        obtain ⟨r, hr, _⟩ := (hR.mem l).mpr List.mem_cons_self
        cases hr
    subst hls
    refine ⟨[], ?_, ⟨List.Pairwise.nil, fun _ h => nomatch h⟩, fun x => Iff.rfl⟩
    simp only [List.map_nil, List.nil_append] at e ad l1
    simp [-List.map_map, d_lines_in_order, dDef, b_lines_in_order, srcOf_look hd, l1, dWhile_eq, e, ad, finP_same]
  · have h0 : rows = [] := by
      simp only [List.length_cons] at hone
      exact List.eq_nil_of_length_eq_zero (by omega)
    subst h0
    refine ⟨r, ?_, hR.good r List.mem_cons_self, fun x => ?_⟩
    · simp only [List.map_cons, List.map_nil, List.cons_append, List.nil_append, rowD] at e ad l1
      have lw : low st2.length (.lst (r.map tri)) = true := by
        rw [low_lst]
        exact lowL_tri3
      simp [-List.map_map, d_lines_in_order, dDef, b_lines_in_order, srcOf_look hd, l1, dWhile_eq, rowD, e, ad, finP_same lw]
    · rw [← hR.mem x]
      exact ⟨fun h => ⟨r, List.mem_cons_self, h⟩, fun ⟨r', h1, h2⟩ => by
        rw [List.mem_singleton.mp h1] at h2
        exact h2⟩
end My

namespace My
open PySem PySem.Spec PyProof.Rows L2 PD
abbrev P2' := Int × Int
theorem places_eq {h : List P2'} {d : Dt} {st : Sto} (hd : look st d = some (h.map pt)) (hl : h.length < 64) : d_places [d] st = some (.lst ((placesP h).map pt), st) := by
  have lw : low st.length (.lst ((placesP h).map pt)) = true := by rw [low_lst]; exact lowL_pts
  simp [d_places, dDef, b_places, gSortSet_pts hd hl, finP_same lw]
/-- a comprehension with a condition, the store as it was -/
theorem lc_filter {g : DG} {t : DT} {e : DE} {guard : Sto → Prop} {ev : En} {α : Type} {f : α → Dt} {h : α → Dt} {p : α → Bool} {st : Sto} (hg : guard st) : ∀ (xs : List α) (acc : List Dt), acc.length + xs.length < 1000000 →
    (∀ x ∈ xs, ∃ ev1, g st (f x) ev = some ev1 ∧ t ev1 st = some (p x, st) ∧ (p x = true → e ev1 st = some (h x, st))) → dLcL g t e guard ev (xs.map f) acc st = some (acc ++ (xs.filter p).map h, st)
  | [], acc, _, _ => by
    rw [List.map_nil, dLcL, if_pos hg]
    simp
  | x :: xs, acc, hl, hx => by
    obtain ⟨ev1, h1, h2, h3⟩ := hx x List.mem_cons_self
    have hl' : acc.length + (xs.length + 1) < 1000000 := by simpa using hl
    rw [List.map_cons, dLcL, if_pos hg, h1]
    simp only [Option.bind_some, h2]
    by_cases hp : p x = true
    · rw [if_pos hp, h3 hp]
      simp only [Option.bind_some]
      rw [if_pos (by omega), lc_filter hg xs (acc ++ [h x]) (by simp; omega) fun y hy => hx y (List.mem_cons_of_mem _ hy), List.filter_cons_of_pos hp]
      simp
    · rw [if_neg hp, lc_filter hg xs acc (by omega) fun y hy => hx y (List.mem_cons_of_mem _ hy), List.filter_cons_of_neg (by simpa using hp)]
/-- lines through two unlike ones of points -/
def Thru2 (h : List P2') (x : Ln) : Prop := ∃ p ∈ h, ∃ q ∈ h, p ≠ q ∧ x = thru p q
theorem lines_of_eq {h : List P2'} {d : Dt} {st : Sto} (hd : look st d = some (h.map pt)) (hh : ∀ p ∈ h, Ok 200 p) (hl : h.length < 64) :
    ∃ R : List Ln, d_lines_of [d] st = some (.lst (R.map tri), st) ∧ GoodL R ∧ ∀ x, x ∈ R ↔ ∃ (a b : Nat) (p q : P2'), b < a ∧ (placesP h)[a]? = some p ∧ (placesP h)[b]? = some q ∧ x = thru p q := by
  have hpl := places_eq hd hl
  have hso : ∀ p ∈ placesP h, Ok 200 p := fun p hp => hh p (placesP_mem.mp hp)
  have hsn := placesP_nodup h
  have hsl : (placesP h).length < 64 := by have := placesP_len h; omega
  generalize placesP h = some' at *
  have en : ∀ (i : Nat) (x : Dt), (enumD 0 (some'.map pt))[i]? = some x → ∃ p, some'[i]? = some p ∧ x = .tup [.int i, pt p] := fun i x hx => by
    have e : ∀ (k : Nat) (l : List P2') (i : Nat), (enumD k (l.map pt))[i]? = (l[i]?).map fun p => Dt.tup [.int ((k + i : Nat) : Int), pt p] := by
      intro k l
      induction l generalizing k with
      | nil => intro i; simp [enumD]
      | cons a l ih =>
        intro i
        cases i with
        | zero => simp [enumD]
        | succ i =>
          simp only [List.map_cons, enumD, List.getElem?_cons_succ, ih]
          have : k + 1 + i = k + (i + 1) := by omega
          rw [this]
    rw [e 0 some' i] at hx
    obtain ⟨p, h1, h2⟩ := Option.map_eq_some_iff.mp hx
    exact ⟨p, h1, by rw [← h2]; simp⟩
  obtain ⟨ev2, st2, e, F, z3, z4, rfl, rfl, hF, hlen⟩ := forL_all (g := gtTup 2 (gsCons (gtName 3) (gsCons (gtName 4) gsNil))) (b := lines_of_for1) (guard := fun _ => True) (items := enumD 0 (some'.map pt))
    (fun i ev s => ∃ (F : List Ln) (z3 z4 : Option Dt), ev = [some d, some (.lst (some'.map pt)), some (.ptr st.length), z3, z4, none] ∧ s = st ++ [.lst (F.map tri)] ∧
      (∀ x, x ∈ F ↔ ∃ (a b : Nat) (p q : P2'), a < i ∧ b < a ∧ some'[a]? = some p ∧ some'[b]? = some q ∧ x = thru p q) ∧ F.length ≤ i * 64)
    (ev := [some d, some (.lst (some'.map pt)), some (.ptr st.length), none, none, none]) (st := st ++ [.lst []]) ⟨[], none, none, rfl, rfl, fun x => by simp, by simp⟩ (fun _ _ _ _ => trivial) (by
      rintro i x ev s hi ⟨F, z3, z4, rfl, rfl, hF, hlen⟩
      obtain ⟨p, hp, rfl⟩ := en i x hi
      have hil := (List.getElem?_eq_some_iff.mp hp).1
      have hpo := hso p (List.mem_of_getElem? hp)
      have hq : ∀ q ∈ some'.take i, p ≠ q ∧ Ok 200 q := fun q hq => by
        refine ⟨fun e => ?_, hso q (List.mem_of_mem_take hq)⟩
        subst e
        obtain ⟨j, hj⟩ := List.getElem?_of_mem hq
        have hj1 := (List.getElem?_eq_some_iff.mp hj).1
        rw [List.length_take] at hj1
        rw [List.getElem?_take_of_lt (by omega)] at hj
        have := nodupIx hsn hj hp
        omega
      have lc : ∀ z, dLcL (gtName 5) dYes lines_of_el1 (fun _ => True) [some d, some (.lst (some'.map pt)), some (.ptr st.length), some (.int i), some (pt p), z] ((some'.take i).map pt) [] (st ++ [.lst (F.map tri)]) = some ((some'.take i).map (fun q => tri (thru p q)), st ++ [.lst (F.map tri)]) := fun z => by
        refine lc_map (g := gtName 5) (e := lines_of_el1) (guard := fun _ => True) (f := pt) (h := fun q => tri (thru p q)) trivial (some'.take i) [] (by rw [List.length_take]; simp; omega) fun q hq' => ⟨_, rfl, ?_⟩
        obtain ⟨h1, h2⟩ := hq q hq'
        simp [lines_of_el1, through_eq hpo h2 h1]
      have sl : gSlice (st ++ [.lst (F.map tri)]) (.lst (some'.map pt)) none (some (i : Int)) = some (.lst ((some'.take i).map pt)) := by
        rw [gSlice_look rfl, cut_to, List.map_take]
      have ex : gExtend (st ++ [.lst (F.map tri)]) (F.map tri) [.lst ((some'.take i).map fun q => tri (thru p q))] = some (.non, (F ++ (some'.take i).map (thru p)).map tri) := by
        rw [gExtend_eq rfl (by simp only [List.length_map, List.length_take]; have : i * 64 ≤ 64 * 64 := Nat.mul_le_mul (by omega) (Nat.le_refl _); omega), List.map_append, List.map_map]
        rfl
      refine ⟨_, [some d, some (.lst (some'.map pt)), some (.ptr st.length), some (.int i), some (pt p), none], st ++ [.lst ((F ++ (some'.take i).map (thru p)).map tri)], rfl, ?_, _, _, _, rfl, rfl, fun x => ?_, ?_⟩
      · simp only [List.map_take] at lc sl ex
        simp [-gSlice_lst, -List.map_append, lines_of_for1, sl, lc, ex, srcOf_lst]
      · rw [List.mem_append, hF, List.mem_map]
        constructor
        · rintro (⟨a, b, p', q', h1, h2, h3, h4, h5⟩ | ⟨q, h1, h2⟩)
          · exact ⟨a, b, p', q', by omega, h2, h3, h4, h5⟩
          · obtain ⟨j, hj⟩ := List.getElem?_of_mem h1
            have hj1 := (List.getElem?_eq_some_iff.mp hj).1
            rw [List.length_take] at hj1
            rw [List.getElem?_take_of_lt (by omega)] at hj
            exact ⟨i, j, p, q, by omega, by omega, hp, hj, h2.symm⟩
        · rintro ⟨a, b, p', q', h1, h2, h3, h4, h5⟩
          by_cases ha : a < i
          · exact .inl ⟨a, b, p', q', ha, h2, h3, h4, h5⟩
          · have hai : a = i := by omega
            subst hai
            rw [hp] at h3
            cases h3
            exact .inr ⟨q', List.mem_of_getElem? (i := b) (by rw [List.getElem?_take_of_lt h2]; exact h4), h5.symm⟩
      · rw [List.length_append, List.length_map, List.length_take]
        have : (i + 1) * 64 = i * 64 + 64 := by omega
        omega)
  have hel : (enumD 0 (some'.map pt)).length = some'.length := by
    have : ∀ (l : List Dt) (k : Nat), (enumD k l).length = l.length := by
      intro l
      induction l with
      | nil => intro k; rfl
      | cons a l ih => intro k; simp [enumD, ih]
    rw [this, List.length_map]
  rw [hel] at hF hlen
  have hF' : ∀ x, x ∈ F ↔ ∃ (a b : Nat) (p q : P2'), b < a ∧ some'[a]? = some p ∧ some'[b]? = some q ∧ x = thru p q := fun x => by
    rw [hF]
    exact ⟨fun ⟨a, b, p, q, _, h⟩ => ⟨a, b, p, q, h⟩, fun ⟨a, b, p, q, h1, h2, h3⟩ => ⟨a, b, p, q, (List.getElem?_eq_some_iff.mp h2).1, h1, h2, h3⟩⟩
  have hgood : ∀ l ∈ F, Nrm l ∧ OkL 1000 l := fun l hl => by
    obtain ⟨a, b, p, q, h1, h2, h3, rfl⟩ := (hF' l).mp hl
    have hpq : p ≠ q := fun e => by
      subst e
      have := nodupIx hsn h2 h3
      omega
    obtain ⟨b1, b2, b3⟩ := thru_bd (hso p (List.mem_of_getElem? h2)) (hso q (List.mem_of_getElem? h3)) hpq
    exact ⟨thru_nrm hpq, b1.mono (by decide), b2.mono (by decide), b3.mono (by decide)⟩
  have hFl : F.length < 10000 := by
    have : some'.length * 64 ≤ 64 * 64 := Nat.mul_le_mul (by omega) (Nat.le_refl _)
    omega
  obtain ⟨R, h1, h2, h3⟩ := lines_in_order_eq (ls := F) (d := .ptr st.length) (st := st ++ [.lst (F.map tri)]) (look_ptr get_last) hgood hFl
  refine ⟨R, ?_, h2, fun x => by rw [h3, hF']⟩
  have lw : low st.length (.lst (R.map tri)) = true := by rw [low_lst]; exact lowL_tri3
  simp [d_lines_of, dDef, b_lines_of, hpl, e, h1, finP_app lw]
theorem srt_uniq : ∀ {A B : List Ln}, GoodL A → GoodL B → (∀ x, x ∈ A ↔ x ∈ B) → A = B
  | [], [], _, _, _ => rfl
  | [], b :: B, _, _, h => absurd ((h b).mpr List.mem_cons_self) (fun z => nomatch z)
  | a :: A, [], _, _, h => absurd ((h a).mp List.mem_cons_self) (fun z => nomatch z)
  | a :: A, b :: B, gA, gB, h => by
    have sA := List.pairwise_cons.mp gA.srt
    have sB := List.pairwise_cons.mp gB.srt
    have hab : a = b := by
      rcases List.mem_cons.mp ((h a).mp List.mem_cons_self) with e | h1
      · exact e
      · rcases List.mem_cons.mp ((h b).mpr List.mem_cons_self) with e | h2
        · exact e.symm
        · exact absurd (sA.1 b h2) (first_asymm (sB.1 a h1))
    subst hab
    rw [srt_uniq (A := A) (B := B) ⟨sA.2, fun l hl => gA.nrm l (List.mem_cons_of_mem _ hl)⟩ ⟨sB.2, fun l hl => gB.nrm l (List.mem_cons_of_mem _ hl)⟩ fun x => ⟨fun hx => ?_, fun hx => ?_⟩]
    · rcases List.mem_cons.mp ((h x).mp (List.mem_cons_of_mem _ hx)) with e | h1
      · subst e; exact absurd (sA.1 x hx) (first_irrefl x)
      · exact h1
    · rcases List.mem_cons.mp ((h x).mpr (List.mem_cons_of_mem _ hx)) with e | h1
      · subst e; exact absurd (sB.1 x hx) (first_irrefl x)
      · exact h1
end My

namespace My
open PySem PySem.Spec PyProof.Rows L2 PD
theorem gList1_look {st : Sto} {d : Dt} {ds : List Dt} (h : look st d = some ds) : gList1 st [d] = some ds := by
  cases d <;> simp only [look, reduceCtorEq] at h
  · cases h; rfl
  · simp only [gList1, gItems, look, h]
theorem enum_pts {i : Nat} {x : Dt} {S : List Pt} (hx : (enumD 0 (S.map pt))[i]? = some x) : ∃ p, S[i]? = some p ∧ x = .tup [.int i, pt p] := by
  have hil : i < S.length := by
    have := (List.getElem?_eq_some_iff.mp hx).1
    rwa [enumD_length, List.length_map] at this
  have e1 : (S.map pt)[i]? = some (pt S[i]) := by rw [List.getElem?_map, List.getElem?_eq_getElem hil]; rfl
  have e2 := enumD_get 0 (S.map pt) i _ e1
  rw [hx, Nat.zero_add] at e2
  exact ⟨S[i], List.getElem?_eq_getElem hil, by cases e2; rfl⟩
def Both (A B : List Pt) (l : Ln) : Prop := halvesB l A = true ∧ halvesB l B = true
theorem thru_okl {p q : Pt} (hp : Ok 200 p) (hq : Ok 200 q) (h : p ≠ q) : OkL 1000 (thru p q) := by
  obtain ⟨b1, b2, b3⟩ := thru_bd hp hq h
  exact ⟨b1.mono (by decide), b2.mono (by decide), b3.mono (by decide)⟩
theorem halving_eq {A B : List Pt} {d e : Dt} {st : Sto} (hd : look st d = some (A.map pt)) (he : look st e = some (B.map pt)) (hA : ∀ p ∈ A, Ok 200 p) (hB : ∀ p ∈ B, Ok 200 p) (hl : A.length + B.length < 64) :
    ∃ r, d_halving [d, e] st = some (r, st) ∧ ((r = .non ∧ ∀ p ∈ A ++ B, ∀ q ∈ A ++ B, p ≠ q → ¬ Both A B (thru p q)) ∨ ∃ p ∈ A ++ B, ∃ q ∈ A ++ B, p ≠ q ∧ r = .tup [tri (thru p q), pt p, pt q] ∧ Both A B (thru p q)) := by
  have g1 := gList1_look hd
  have g2 := gList1_look he
  have ad : gAdd st (.lst (A.map pt)) (.lst (B.map pt)) = some (.lst ((A ++ B).map pt)) := by
    rw [gAdd_look rfl rfl (by simp only [List.length_map]; omega), List.map_append]
  have hpl : d_places [.lst ((A ++ B).map pt)] st = some (.lst ((placesP (A ++ B)).map pt), st) := places_eq rfl (by rw [List.length_append]; omega)
  have hso : ∀ p ∈ placesP (A ++ B), Ok 200 p := fun p hp => by
    rcases List.mem_append.mp (placesP_mem.mp hp) with h | h
    · exact hA p h
    · exact hB p h
  have hsn := placesP_nodup (A ++ B)
  have hsl : (placesP (A ++ B)).length < 64 := by have := placesP_len (A ++ B); rw [List.length_append] at this; omega
  have hsm : ∀ p, p ∈ placesP (A ++ B) ↔ p ∈ A ++ B := fun p => placesP_mem
  generalize placesP (A ++ B) = S at *
  obtain ⟨o, eo, ho⟩ := forL_inv (g := gtTup 2 (gsCons (gtName 3) (gsCons (gtName 4) gsNil))) (b := halving_for2) (guard := fun _ => True) (items := enumD 0 (S.map pt))
    (fun i ev s => (∃ z3 z4 z5 z6, ev = [some d, some e, some (.lst (S.map pt)), z3, z4, z5, z6]) ∧ s = st ∧ ∀ (a b : Nat) (p q : Pt), b < a → a < i → S[a]? = some p → S[b]? = some q → ¬ Both A B (thru q p))
    (fun _ _ => False) (fun r s => s = st ∧ ∃ p ∈ S, ∃ q ∈ S, p ≠ q ∧ r = .tup [tri (thru p q), pt p, pt q] ∧ Both A B (thru p q)) (fun _ _ _ _ => trivial) (by
      rintro i x ev s hi ⟨⟨z3, z4, z5, z6, rfl⟩, rfl, hno⟩
      obtain ⟨p, hp, rfl⟩ := enum_pts hi
      have hil := (List.getElem?_eq_some_iff.mp hp).1
      have hpo := hso p (List.mem_of_getElem? hp)
      have hq : ∀ q ∈ S.take i, q ≠ p ∧ Ok 200 q := fun q hq => by
        refine ⟨fun e => ?_, hso q (List.mem_of_mem_take hq)⟩
        subst e
        obtain ⟨j, hj⟩ := List.getElem?_of_mem hq
        have hj1 := (List.getElem?_eq_some_iff.mp hj).1
        rw [List.length_take] at hj1
        rw [List.getElem?_take_of_lt (by omega)] at hj
        have := nodupIx hsn hj hp
        omega
      obtain ⟨o, eo, ho⟩ := forL_inv (g := gtName 5) (b := halving_for1) (guard := fun _ => True) (items := (S.take i).map pt)
        (fun j ev s' => (∃ z5 z6, ev = [some d, some e, some (.lst (S.map pt)), some (.int i), some (pt p), z5, z6]) ∧ s' = s ∧ ∀ q ∈ (S.take i).take j, ¬ Both A B (thru q p))
        (fun _ _ => False) (fun r s' => s' = s ∧ ∃ q ∈ S, q ≠ p ∧ r = .tup [tri (thru q p), pt q, pt p] ∧ Both A B (thru q p)) (fun _ _ _ _ => trivial) (by
          rintro j x ev s' hj ⟨⟨z5, z6, rfl⟩, rfl, hno'⟩
          rw [List.getElem?_map] at hj
          obtain ⟨q, hqj, rfl⟩ := Option.map_eq_some_iff.mp hj
          obtain ⟨hqp, hqo⟩ := hq q (List.mem_of_getElem? hqj)
          have ht := through_eq hqo hpo hqp s'
          have okl := thru_okl hqo hpo hqp
          have h1 := halves_eq okl hA (by omega) hd
          have h2 := halves_eq okl hB (by omega) he
          have tk : (S.take i).take (j + 1) = (S.take i).take j ++ [q] := by rw [List.take_add_one, hqj]; rfl
          by_cases hb : Both A B (thru q p)
          · obtain ⟨b1, b2⟩ := hb
            rw [b1] at h1
            rw [b2] at h2
            exact ⟨_, .rt (.tup [tri (thru q p), pt q, pt p]) s', rfl, by simp [halving_for1, ht, h1, h2], rfl, q, List.mem_of_mem_take (List.mem_of_getElem? hqj), hqp, rfl, b1, b2⟩
          · refine ⟨_, .nx [some d, some e, some (.lst (S.map pt)), some (.int i), some (pt p), some (pt q), some (tri (thru q p))] s', rfl, ?_, ⟨_, _, rfl⟩, rfl, fun q' hq' => ?_⟩
            · by_cases b1 : halvesB (thru q p) A = true
              · have b2 : halvesB (thru q p) B = false := by
                  cases hh : halvesB (thru q p) B with
                  | false => rfl
                  | true => exact absurd ⟨b1, hh⟩ hb
                rw [b1] at h1
                rw [b2] at h2
                simp [halving_for1, ht, h1, h2]
              · have b1' : halvesB (thru q p) A = false := by simpa using b1
                rw [b1'] at h1
                simp [halving_for1, ht, h1]
            · rw [tk] at hq'
              rcases List.mem_append.mp hq' with h | h
              · exact hno' q' h
              · rw [List.mem_singleton.mp h]; exact hb) ((S.take i).map pt).length 0 [some d, some e, some (.lst (S.map pt)), some (.int i), some (pt p), z5, z6] s (by omega) ⟨⟨_, _, rfl⟩, rfl, fun q hq => by simp at hq⟩
      rw [List.drop_zero] at eo
      have sl : gSlice s (.lst (S.map pt)) none (some (i : Int)) = some (.lst ((S.take i).map pt)) := by rw [gSlice_look rfl, cut_to, List.map_take]
      refine ⟨_, o, rfl, ?_, ?_⟩
      · simp only [List.map_take] at sl eo
        simp [-gSlice_lst, halving_for2, sl, eo]
      · cases o with
        | nx ev2 s2 =>
          rcases ho with ⟨⟨z5, z6, rfl⟩, rfl, hn⟩ | h
          · refine ⟨⟨_, _, _, _, rfl⟩, rfl, fun a b p' q' h1 h2 h3 h4 => ?_⟩
            by_cases ha : a < i
            · exact hno a b p' q' h1 ha h3 h4
            · have hai : a = i := by omega
              subst hai
              rw [hp] at h3
              cases h3
              rw [List.length_map, List.take_length] at hn
              exact hn q' (List.mem_of_getElem? (i := b) (by rw [List.getElem?_take_of_lt h1]; exact h4))
          · exact h.elim
        | rt r s2 =>
          obtain ⟨rfl, q, hq1, hq2, hq3, hq4⟩ := ho
          exact ⟨rfl, q, hq1, p, List.mem_of_getElem? hp, hq2, hq3, hq4⟩
        | bk _ _ => exact ho.elim
        | ct _ _ => exact ho.elim) (enumD 0 (S.map pt)).length 0 [some d, some e, some (.lst (S.map pt)), none, none, none, none] st (by omega) ⟨⟨_, _, _, _, rfl⟩, rfl, fun a b p q _ h => absurd h (Nat.not_lt_zero a)⟩
  rw [List.drop_zero] at eo
  cases o with
  | nx ev2 s2 =>
    rcases ho with ⟨⟨z3, z4, z5, z6, rfl⟩, rfl, hn⟩ | h
    · rw [enumD_length, List.length_map] at hn
      refine ⟨.non, by simp [-List.map_append, d_halving, dDef, b_halving, g1, g2, ad, hpl, eo, finP_same], .inl ⟨rfl, fun p hp q hq hpq => ?_⟩⟩
      obtain ⟨a, ha⟩ := List.getElem?_of_mem ((hsm p).mpr hp)
      obtain ⟨b, hb⟩ := List.getElem?_of_mem ((hsm q).mpr hq)
      have hal := (List.getElem?_eq_some_iff.mp ha).1
      have hbl := (List.getElem?_eq_some_iff.mp hb).1
      by_cases hab : b < a
      · rw [thru_comm hpq]
        exact hn a b p q hab hal ha hb
      · have hne : a ≠ b := fun e => hpq (by subst e; rw [ha] at hb; cases hb; rfl)
        exact hn b a q p (by omega) hbl hb ha
    · exact h.elim
  | rt r s2 =>
    obtain ⟨rfl, p, hp, q, hq, hpq, hr, hb⟩ := ho
    have lw : low s2.length r = true := by rw [hr]; simp
    exact ⟨r, by simp [-List.map_append, d_halving, dDef, b_halving, g1, g2, ad, hpl, eo, finP_same lw], .inr ⟨p, (hsm p).mp hp, q, (hsm q).mp hq, hpq, hr, hb⟩⟩
  | bk _ _ => exact ho.elim
  | ct _ _ => exact ho.elim
theorem two_len {S : List Pt} {p q : Pt} (hp : p ∈ S) (hq : q ∈ S) (h : p ≠ q) : 2 ≤ S.length := by
  match S with
  | [] => cases hp
  | [a] => exact absurd ((List.mem_singleton.mp hp).trans (List.mem_singleton.mp hq).symm) h
  | a :: b :: r => simp
theorem len_two {S : List Pt} (hn : S.Nodup) (h : 2 ≤ S.length) : ∃ p ∈ S, ∃ q ∈ S, p ≠ q := by
  match S, h with
  | a :: b :: r, _ => exact ⟨a, List.mem_cons_self, b, List.mem_cons_of_mem _ List.mem_cons_self, fun e => (List.nodup_cons.mp hn).1 (by rw [e]; exact List.mem_cons_self)⟩
/-- what a halving is -/
def HalvOk (A B : List Pt) (r : Dt) : Prop := ((placesP (A ++ B)).length < 2 ∧ r = .non) ∨ (2 ≤ (placesP (A ++ B)).length ∧ ∃ p ∈ A ++ B, ∃ q ∈ A ++ B, p ≠ q ∧ r = .tup [tri (thru p q), pt p, pt q] ∧ Both A B (thru p q))
theorem halving_ok {A B : List Pt} {d e : Dt} {st : Sto} (hd : look st d = some (A.map pt)) (he : look st e = some (B.map pt)) (hA : ∀ p ∈ A, Ok 200 p) (hB : ∀ p ∈ B, Ok 200 p) (hl : A.length + B.length < 64) :
    ∃ r, d_halving [d, e] st = some (r, st) ∧ HalvOk A B r := by
  obtain ⟨r, h1, h2⟩ := halving_eq hd he hA hB hl
  refine ⟨r, h1, ?_⟩
  rcases h2 with ⟨rfl, h2⟩ | ⟨p, hp, q, hq, hpq, hr, hb⟩
  · refine .inl ⟨?_, rfl⟩
    refine Classical.byContradiction fun z => ?_
    obtain ⟨p, hp, q, hq, hpq⟩ := len_two (placesP_nodup (A ++ B)) (by omega)
    obtain ⟨p', hp', q', hq', hpq', k1, k2⟩ := halving_thru (placesP_mem.mp hp) (placesP_mem.mp hq) hpq
    exact h2 p' hp' q' hq' hpq' ⟨k1, k2⟩
  · exact .inr ⟨two_len (placesP_mem.mpr hp) (placesP_mem.mpr hq) hpq, p, hp, q, hq, hpq, hr, hb⟩
end My

namespace My
open PySem PySem.Spec PyProof.Rows L2 PD
theorem number_spec {st : Sto} {p : Nat} (h : Pot st p) : ∃ r st', d_law_number [.ptr p] st = some (.int r, st') ∧ Drew st p st' ∧ In30 r := by
  obtain ⟨r, st1, e1, d1, _, _⟩ := take_spec h (n := 12) (by decide) (Bd.lit _ 200 (by decide))
  by_cases hr : r = 11
  · obtain ⟨x, st2, e2, d2, hx⟩ := wide_spec (d1.pot h)
    exact ⟨x, st2, by simp [d_law_number, dDef, b_law_number, e1, hr, e2, (d1.trans d2).fin], d1.trans d2, hx⟩
  · obtain ⟨x, st2, e2, d2, hx0, hx1⟩ := take_spec (d1.pot h) (n := 41) (by decide) (Bd.lit _ 200 (by decide))
    exact ⟨x - 20, st2, by simp [d_law_number, dDef, b_law_number, e1, hr, e2, (d1.trans d2).fin], d1.trans d2, by unfold In30; omega⟩
open Classical in
theorem law_free_spec {st : Sto} {p : Nat} (h : Pot st p) {d : Dt} {l : List P2} (hd : look st d = some (l.map pt)) (hdp : d ≠ .ptr p) (hn : l.length ≤ 13) (hl : ∀ q ∈ l, In30P q) (hno : l.Nodup) :
    ∃ (q : P2) (st' : Sto), d_law_free [.ptr p, d] st = some (pt q, st') ∧ Drew st p st' ∧ In30P q ∧ FreeP q l := by
  have hok : ∀ q ∈ l, Ok 200 q := fun q hq => (hl q hq).ok
  obtain ⟨o, e, ho⟩ := forL_inv (g := gtName 2) (b := law_free_for1) (guard := fun _ => True) (items := rngD 0 6) (fun i ev s => (∃ z2 z3, ev = [some (.ptr p), some d, z2, z3, none]) ∧ Drew st p s) (fun _ _ => False) (fun z s => ∃ q : P2, z = pt q ∧ Drew st p s ∧ In30P q ∧ FreeP q l)
    (fun _ _ _ _ => trivial) (fun i d' ev s hi hI => by
      obtain ⟨⟨z2, z3, rfl⟩, dr⟩ := hI
      obtain ⟨rfl, _⟩ := rng_get hi
      obtain ⟨a, s1, e1, d1, a0⟩ := number_spec (dr.pot h)
      have dr1 := dr.trans d1
      obtain ⟨b, s2, e2, d2, b0⟩ := number_spec (dr1.pot h)
      have dr2 := dr1.trans d2
      have sq : In30P (a, b) := ⟨a0, b0⟩
      have f := law_is_free_eq (p := (a, b)) sq.ok hok (by omega) (dr2.look hd hdp)
      have ep : pt (a, b) = .tup [.int a, .int b] := rfl
      rw [ep] at f
      by_cases hF : FreeP (a, b) l
      · rw [decide_eq_true hF] at f
        exact ⟨[some (.ptr p), some d, some (.int i), z3, none], .rt (pt (a, b)) s2, by simp, by simp [law_free_for1, e1, e2, f, ep], (a, b), rfl, dr2, sq, hF⟩
      · rw [decide_eq_false hF] at f
        exact ⟨[some (.ptr p), some d, some (.int i), z3, none], .nx [some (.ptr p), some d, some (.int i), some (.tup [.int a, .int b]), none] s2, by simp, by simp [law_free_for1, e1, e2, f], ⟨_, _, rfl⟩, dr2⟩) 6 0 [some (.ptr p), some d, none, none, none] st (by rw [rng_len]; rfl) ⟨⟨_, _, rfl⟩, Drew.refl h⟩
  rw [List.drop_zero] at e
  cases o with
  | rt z s =>
    obtain ⟨q, rfl, dr, sq, hF⟩ := ho
    exact ⟨q, s, by simp [d_law_free, dDef, b_law_free, e, dr.fin low_pt], dr, sq, hF⟩
  | nx ev2 s =>
    obtain ⟨⟨z2, z3, rfl⟩, dr⟩ := ho.resolve_right id
    obtain ⟨T, hT, hTF⟩ := par_free hno hn
    have hds := dr.look hd hdp
    have smp : ∀ t : Nat, t < 400 → In30P (par t) := fun t ht => by
      unfold par
      have : t * t ≤ 400 * 400 := Nat.mul_le_mul (by omega) (by omega)
      have e : ((t : Int) * t) = ((t * t : Nat) : Int) := by rw [Int.natCast_mul]
      constructor <;> unfold In30 <;> simp only [e] <;> omega
    obtain ⟨ev3, s3, e3, ⟨t, ht, rfl, hF⟩, rfl⟩ := while_inv (c := law_free_wc1) (b := law_free_wb1) (I := fun ev s' => (∃ t : Nat, t ≤ T ∧ ev = [some (.ptr p), some d, z2, z3, some (.int t)]) ∧ s' = s)
      (μ := fun ev _ => match ev with
        | [_, _, _, _, some (.int y)] => (T - y).toNat
        | _ => 0) (Q := fun ev s' => (∃ t : Nat, t < 400 ∧ ev = [some (.ptr p), some d, z2, z3, some (.int t)] ∧ FreeP (par t) l) ∧ s' = s) (by
        rintro ev s' ⟨⟨t, ht, rfl⟩, rfl⟩
        have f := law_is_free_eq (p := par t) (smp t (by omega)).ok hok (by omega) hds
        have ep : pt (par t) = .tup [.int t, .int (t * t)] := rfl
        have mm : okMul t t := okMul_of (Bd.om (by omega)) (Bd.om (by omega)) (by decide) (by decide)
        rw [ep] at f
        by_cases hF : FreeP (par t) l
        · rw [decide_eq_true hF] at f
          exact .inr ⟨s', by simp [law_free_wc1, gMul_eq mm, f], ⟨t, by omega, rfl, hF⟩, rfl⟩
        · rw [decide_eq_false hF] at f
          have hne : t ≠ T := fun z => hF (by rw [z]; exact hTF)
          refine .inl ⟨s', [some (.ptr p), some d, z2, z3, some (.int (t + 1 : Nat))], s', by simp [law_free_wc1, gMul_eq mm, f], by simp [law_free_wb1], ⟨⟨t + 1, by omega, rfl⟩, rfl⟩, ?_⟩
          show ((T : Int) - ((t + 1 : Nat) : Int)).toNat < ((T : Int) - (t : Int)).toNat
          omega) FU [some (.ptr p), some d, z2, z3, some (.int 0)] s ⟨⟨0, Nat.zero_le _, rfl⟩, rfl⟩ (by
        show ((T : Int) - 0).toNat < FU
        have := FU_big (i := 400) (Bd.lit _ 64 (by decide)) (by decide)
        have e4 : (400 : Int).natAbs = 400 := rfl
        omega)
    have mm : okMul t t := okMul_of (Bd.om (by omega)) (Bd.om (by omega)) (by decide) (by decide)
    have ff : finP st (.tup [.int t, .int (t * t)]) s3 = some (.tup [.int t, .int (t * t)], s3) := dr.fin (low_pt (p := par t))
    refine ⟨par t, s3, ?_, dr, smp t ht, hF⟩
    show _ = some (Dt.tup [.int t, .int (t * t)], s3)
    simp [d_law_free, dDef, b_law_free, e, dWhile_eq, e3, gMul_eq mm, ff]
  | bk _ _ => exact ho.elim
  | ct _ _ => exact ho.elim
theorem PlainP.push {l : List P2} {q : P2} (h : PlainP l) (hq : FreeP q l) : PlainP (l ++ [q]) := fun k p hk => by
  by_cases hl : k < l.length
  · rw [List.getElem?_append_left hl] at hk
    rw [List.take_append_of_le_length (Nat.le_of_lt hl)]
    exact h k p hk
  · rw [List.getElem?_append_right (by omega)] at hk
    have k0 : k - l.length = 0 := by
      have := (List.getElem?_eq_some_iff.mp hk).1
      simp at this
      omega
    rw [k0] at hk
    cases hk
    have : k = l.length := by omega
    rw [this, List.take_left]
    exact hq
theorem PlainP.nodup {l : List P2} (h : PlainP l) : l.Nodup := (plainM_I.mpr (plainI_P.mpr h)).1
section
variable {st : Sto} {p : Nat}
def hpsO (st : Sto) (A B : List Pt) : List MO := [.lst (A.map pt), .lst (B.map pt), .lst [.ptr st.length, .ptr (st.length + 1)]]
theorem side_loop (h : Pot st p) (i : Nat) (hi : i < 2) : ∀ (n : Nat) (A B : List Pt) (s : Sto) (xs : List Dt) (z4 : Option Dt), xs.length = n → PlainP (A ++ B) → (∀ q ∈ A ++ B, In30P q) → (i = 0 → B = []) → (A ++ B).length + n ≤ 14 → Cur st p (hpsO st A B) s →
    ∃ (C : List Pt) (s' : Sto) (z4' : Option Dt), dForL (gtName 4) law_odd_heaps_for1 (fun _ => True) xs [some (.ptr p), some (.int 4), some (.ptr (st.length + 2)), some (.ptr (st.length + i)), z4] s = some (.nx [some (.ptr p), some (.int 4), some (.ptr (st.length + 2)), some (.ptr (st.length + i)), z4'] s') ∧ C.length = n ∧
      PlainP (A ++ B ++ C) ∧ (∀ q ∈ A ++ B ++ C, In30P q) ∧ Cur st p (if i = 0 then hpsO st (A ++ C) B else hpsO st A (B ++ C)) s'
  | 0, A, B, s, xs, z4, hx, hP, hin, hB, hl, c => by
    have : xs = [] := List.length_eq_zero_iff.mp hx
    subst this
    refine ⟨[], s, z4, by rw [dForL_nil]; try rfl, rfl, by rw [List.append_nil]; exact hP, by rw [List.append_nil]; exact hin, ?_⟩
    rw [List.append_nil, List.append_nil]
    split <;> exact c
  | n + 1, A, B, s, xs, z4, hx, hP, hin, hB, hl, c => by
    cases xs with
    | nil => cases hx
    | cons x xs =>
      have hx' : xs.length = n := by simpa using hx
      have l0 := c.look0
      have l1 := c.look1
      have l2 := c.look2
      have ad : gAdd s (.ptr st.length) (.ptr (st.length + 1)) = some (.lst ((A ++ B).map pt)) := by
        rw [gAdd_look l0 l1 (by simp only [List.length_map]; rw [List.length_append] at hl; omega), List.map_append]
      have x0 : gIx s (.ptr (st.length + 2)) (.int 0) = some (.ptr st.length) := by rw [gIx_look l2]; rfl
      have x1 : gIx s (.ptr (st.length + 2)) (.int 1) = some (.ptr (st.length + 1)) := by rw [gIx_look l2]; rfl
      obtain ⟨q, s1, e1, d1, hq, hF⟩ := law_free_spec (c.pot h) (d := .lst ((A ++ B).map pt)) (l := A ++ B) rfl (fun z => by cases z) (by omega) hin hP.nodup
      have c1 := c.draw h d1
      have hP' := hP.push hF
      have hin' := In30P.append hin hq
      have ha : ∀ (s' : Sto) (D : List Pt), D.length ≤ 14 → gAppend s' (D.map pt) [pt q] = some (.non, D.map pt ++ [pt q]) := fun s' D hD => gAppend_eq (by rw [List.length_map]; omega)
      have lenA : A.length ≤ 14 := by rw [List.length_append] at hl; omega
      have lenB : B.length ≤ 14 := by rw [List.length_append] at hl; omega
      have hi2 : i = 0 ∨ i = 1 := by omega
      rcases hi2 with rfl | rfl
      · have hB0 := hB rfl
        subst hB0
        have g0 := c.get0
        have g1 := c1.get0
        have aa := ha s1 A lenA
        have c2 := c1.set0 (o' := .lst (A.map pt ++ [pt q]))
        have c2' : Cur st p (hpsO st (A ++ [q]) []) (s1.set st.length (.lst (A.map pt ++ [pt q]))) := by
          unfold hpsO
          rw [map_push]
          exact c2
        rw [List.append_nil] at hP' hin'
        obtain ⟨C, s', z4', e2, hC, hP2, hin2, c3⟩ := side_loop h 0 (by decide) n (A ++ [q]) [] (s1.set st.length (.lst (A.map pt ++ [pt q]))) xs (some x) hx' (by rw [List.append_nil]; exact hP') (by rw [List.append_nil]; exact hin') (fun _ => rfl) (by simp at hl ⊢; omega) c2'
        refine ⟨q :: C, s', z4', ?_, by simp [hC], by simpa using hP2, by simpa using hin2, by simpa using c3⟩
        rw [dForL_cons]
        generalize (A ++ []).map pt = AB at *
        generalize A.map pt = A' at *
        simp only [gtName_eq, Option.bind_some, List.set]
        have body : law_odd_heaps_for1 [some (.ptr p), some (.int 4), some (.ptr (st.length + 2)), some (.ptr (st.length + 0)), some x] s = some (.nx [some (.ptr p), some (.int 4), some (.ptr (st.length + 2)), some (.ptr (st.length + 0)), some x] (s1.set st.length (.lst (A' ++ [pt q])))) := by
          simp [law_odd_heaps_for1, x0, x1, ad, e1, g0, g1, aa]
        rw [body]
        simpa using e2
      · have g0 := c.get1
        have g1 := c1.get1
        have aa := ha s1 B lenB
        have c2 := c1.set1 (o' := .lst (B.map pt ++ [pt q]))
        have c2' : Cur st p (hpsO st A (B ++ [q])) (s1.set (st.length + 1) (.lst (B.map pt ++ [pt q]))) := by
          unfold hpsO
          rw [map_push]
          exact c2
        obtain ⟨C, s', z4', e2, hC, hP2, hin2, c3⟩ := side_loop h 1 (by decide) n A (B ++ [q]) (s1.set (st.length + 1) (.lst (B.map pt ++ [pt q]))) xs (some x) hx' (by rw [← List.append_assoc]; exact hP') (by rw [← List.append_assoc]; exact hin') (fun z => absurd z (by decide)) (by simp at hl ⊢; omega) c2'
        refine ⟨q :: C, s', z4', ?_, by simp [hC], by simpa using hP2, by simpa using hin2, by simpa using c3⟩
        rw [dForL_cons]
        generalize (A ++ B).map pt = AB at *
        generalize B.map pt = B' at *
        simp only [gtName_eq, Option.bind_some, List.set]
        have body : law_odd_heaps_for1 [some (.ptr p), some (.int 4), some (.ptr (st.length + 2)), some (.ptr (st.length + 1)), some x] s = some (.nx [some (.ptr p), some (.int 4), some (.ptr (st.length + 2)), some (.ptr (st.length + 1)), some x] (s1.set (st.length + 1) (.lst (B' ++ [pt q])))) := by
          simp [law_odd_heaps_for1, x0, x1, ad, e1, g0, g1, aa]
        rw [body]
        exact e2
theorem odd_heaps_spec (h : Pot st p) : ∃ (A B : List Pt) (st' : Sto), d_law_odd_heaps [.ptr p, .int 4] st = some (.lst [.lst (A.map pt), .lst (B.map pt)], st') ∧ Drew st p st' ∧ A.length % 2 = 1 ∧ B.length % 2 = 1 ∧ A.length ≤ 7 ∧ B.length ≤ 7 ∧ PlainP (A ++ B) ∧ ∀ q ∈ A ++ B, In30P q := by
  have c0 : Cur st p (hpsO st [] []) (((st ++ [.lst []]) ++ [.lst []]) ++ [.lst [.ptr st.length, .ptr (st.length + 1)]]) := (((Cur.start h).push).push).push
  obtain ⟨r, s1, e1, d1, r0, r1⟩ := take_spec (c0.pot h) (n := 4) (by decide) (Bd.lit _ 200 (by decide))
  have c1 := c0.draw h d1
  have P0 : PlainP (([] : List Pt) ++ []) := fun k p hk => by cases hk
  obtain ⟨A, s2, z2, e2, lA, PA, iA, c2⟩ := side_loop h 0 (by decide) (1 + 2 * r).toNat [] [] s1 (rngD 0 (1 + 2 * r)) none (by rw [rng_len]; omega) P0 (fun q hq => by cases hq) (fun _ => rfl) (by simp; omega) c1
  simp only [if_true, List.nil_append, List.append_nil] at PA iA c2
  have l2 : look s2 (.ptr (st.length + 2)) = some [.ptr st.length, .ptr (st.length + 1)] := c2.look2
  obtain ⟨r', s3, e3, d3, r0', r1'⟩ := take_spec (c2.pot h) (n := 4) (by decide) (Bd.lit _ 200 (by decide))
  have c3 := c2.draw h d3
  obtain ⟨B, s4, z4, e4, lB, PB, iB, c4⟩ := side_loop h 1 (by decide) (1 + 2 * r').toNat A [] s3 (rngD 0 (1 + 2 * r')) z2 (by rw [rng_len]; omega) (by rw [List.append_nil]; exact PA) (by rw [List.append_nil]; exact iA) (fun z => absurd z (by decide)) (by simp; omega) c3
  rw [List.append_nil] at PB iB
  rw [if_neg (by decide), List.nil_append] at c4
  have l4 : look s4 (.ptr (st.length + 2)) = some [.ptr st.length, .ptr (st.length + 1)] := c4.look2
  have l1 : look s1 (.ptr (st.length + 2)) = some [.ptr st.length, .ptr (st.length + 1)] := c1.look2
  have lI : look (((st ++ [MO.lst []]) ++ [MO.lst []]) ++ [MO.lst [.ptr st.length, .ptr (st.length + 1)]]) (.ptr (st.length + 2)) = some [.ptr st.length, .ptr (st.length + 1)] := c0.look2
  obtain ⟨st', f1, f2⟩ := Cur.finTwo c4 lowL_pts lowL_pts
  have mm : ∀ i : Int, 0 ≤ i → i < 4 → okMul 2 i := fun i h1 h2 => okMul_of (Bd.lit _ 64 (by decide)) (Bd.om (by omega)) (by decide) (by decide)
  have hr : -4611686018427387904 ≤ 1 + 2 * r ∧ 1 + 2 * r < 4611686018427387904 := by omega
  have hr' : -4611686018427387904 ≤ 1 + 2 * r' ∧ 1 + 2 * r' < 4611686018427387904 := by omega
  refine ⟨A, B, st', ?_, f2, by omega, by omega, by omega, by omega, PB, iB⟩
  have b1 : law_odd_heaps_for2 [some (.ptr p), some (.int 4), some (.ptr (st.length + 2)), some (.ptr st.length), none] (((st ++ [.lst []]) ++ [.lst []]) ++ [.lst [.ptr st.length, .ptr (st.length + 1)]]) = some (.nx [some (.ptr p), some (.int 4), some (.ptr (st.length + 2)), some (.ptr st.length), z2] s2) := by
    simp only [Nat.add_zero] at e2
    generalize (((st ++ [MO.lst []]) ++ [MO.lst []]) ++ [MO.lst [.ptr st.length, .ptr (st.length + 1)]]) = s0 at *
    simp [law_odd_heaps_for2, e1, gMul_eq (mm r r0 r1), hr, e2]
  have b2 : law_odd_heaps_for2 [some (.ptr p), some (.int 4), some (.ptr (st.length + 2)), some (.ptr (st.length + 1)), z2] s2 = some (.nx [some (.ptr p), some (.int 4), some (.ptr (st.length + 2)), some (.ptr (st.length + 1)), z4] s4) := by
    simp [law_odd_heaps_for2, e3, gMul_eq (mm r' r0' r1'), hr', e4]
  have lp : dForL (gtName 3) law_odd_heaps_for2 (fun s => look s (.ptr (st.length + 2)) = some [.ptr st.length, .ptr (st.length + 1)]) [.ptr st.length, .ptr (st.length + 1)] [some (.ptr p), some (.int 4), some (.ptr (st.length + 2)), none, none] (((st ++ [.lst []]) ++ [.lst []]) ++ [.lst [.ptr st.length, .ptr (st.length + 1)]]) = some (.nx [some (.ptr p), some (.int 4), some (.ptr (st.length + 2)), some (.ptr (st.length + 1)), z4] s4) := by
    rw [dForL, if_pos lI]
    simp only [gtName_eq, Option.bind_some, List.set, b1]
    rw [dForL, if_pos l2]
    simp only [gtName_eq, Option.bind_some, List.set, b2]
    rw [dForL, if_pos l4]
  have sr := srcOf_look lI
  have len1 : (st ++ [MO.lst []]).length = st.length + 1 := by simp
  have len2 : ((st ++ [MO.lst []]) ++ [MO.lst []]).length = st.length + 2 := by simp
  generalize hS : (((st ++ [MO.lst []]) ++ [MO.lst []]) ++ [MO.lst [.ptr st.length, .ptr (st.length + 1)]]) = s0 at *
  simp only [List.append_assoc, List.cons_append, List.nil_append] at hS
  simp [d_law_odd_heaps, dDef, b_law_odd_heaps, gLstD, hS, sr, srcL, lp, f1]
end
end My

namespace My
/-! ## how many lines halve both of two plain heaps of odd many points: between two arrows -/
theorem NoInv.symm {S : List Pt} {u v : Pt} (h : NoInv S u v) : NoInv S v u := fun x hx y hy z => h y hy x hx ⟨z.2, z.1⟩
def ad (u v : Pt) : Pt := (u.1 + v.1, u.2 + v.2)
theorem NoInv.left {S : List Pt} {u v : Pt} (h : NoInv S u v) : NoInv S u (ad u v) := fun x hx y hy z => h x hx y hy ⟨z.1, by
  have := z.2
  unfold ad at this
  rw [dt_add, dt_add] at this
  omega⟩
theorem NoInv.right {S : List Pt} {u v : Pt} (h : NoInv S u v) : NoInv S (ad u v) v := fun x hx y hy z => h x hx y hy ⟨by
  have := z.1
  unfold ad at this
  rw [dt_add, dt_add] at this
  omega, z.2⟩
theorem cr_nrm (u d : Pt) : cr u (nrmOf d) = dt u d := by unfold cr nrmOf dt; grind
theorem nrm_cr (v d : Pt) : cr (nrmOf d) v = -dt v d := by unfold cr nrmOf dt; grind
theorem cr_ad (u v w : Pt) : cr u (ad v w) = cr u v + cr u w := by unfold cr ad; grind
theorem ad_cr (u v w : Pt) : cr (ad v w) u = cr v u + cr w u := by unfold cr ad; grind
/-- the four of Pluecker -/
theorem plk (u a b v : Pt) : cr u a * cr b v - cr u b * cr a v + cr u v * cr a b = 0 := by unfold cr; grind
theorem pos_of {a b : Int} (h : 0 < a * b) (hb : 0 < b) : 0 < a := Int.not_le.mp fun z => by
  have := Int.mul_le_mul_of_nonneg_right z (Int.le_of_lt hb)
  rw [Int.zero_mul] at this
  omega
theorem cone_in {u q e v : Pt} (h0 : 0 ≤ cr u v) (h1 : 0 < cr u q) (h2 : 0 ≤ cr q e) (h3 : 0 < cr e v) (h4 : 0 < cr q v) : 0 < cr u e := by
  have p := plk u q e v
  have a := Int.mul_pos h1 h3
  have b := Int.mul_nonneg h0 h2
  have c : 0 < cr u e * cr q v := by omega
  exact pos_of c h4
theorem cone_out {u e s v : Pt} (h0 : 0 ≤ cr u v) (h1 : 0 < cr u e) (h2 : 0 ≤ cr e s) (h3 : 0 < cr s v) (h4 : 0 < cr u s) : 0 < cr e v := by
  have p := plk u e s v
  have a := Int.mul_pos h1 h3
  have b := Int.mul_nonneg h0 h2
  have c : 0 < cr e v * cr u s := by rw [Int.mul_comm]; omega
  exact pos_of c h4
/-- the first slope behind u, of those before v -/
theorem next_slope {S : List Pt} {u v : Pt} (h0 : 0 ≤ cr u v) (hn : ¬ NoInv S u v) : ∃ x ∈ S, ∃ y ∈ S, 0 < cr u (nrmOf (sb x y)) ∧ 0 < cr (nrmOf (sb x y)) v ∧ NoInv S u (nrmOf (sb x y)) := by
  classical
  let E : List Pt := ((S.flatMap fun x => S.map fun y => nrmOf (sb x y)).filter fun e => decide (0 < cr u e ∧ 0 < cr e v))
  have hE : ∀ e, e ∈ E ↔ (∃ x ∈ S, ∃ y ∈ S, e = nrmOf (sb x y)) ∧ 0 < cr u e ∧ 0 < cr e v := fun e => by
    simp only [E, List.mem_filter, List.mem_flatMap, List.mem_map, decide_eq_true_eq]
    constructor
    · rintro ⟨⟨x, hx, y, hy, rfl⟩, h⟩
      exact ⟨⟨x, hx, y, hy, rfl⟩, h⟩
    · rintro ⟨⟨x, hx, y, hy, rfl⟩, h⟩
      exact ⟨⟨x, hx, y, hy, rfl⟩, h⟩
  have inE : ∀ x ∈ S, ∀ y ∈ S, dt u y < dt u x → dt v x < dt v y → nrmOf (sb x y) ∈ E := fun x hx y hy h1 h2 => (hE _).mpr ⟨⟨x, hx, y, hy, rfl⟩, by rw [cr_nrm, dt_sb]; omega, by rw [nrm_cr, dt_sb]; omega⟩
  have ne : E ≠ [] := fun e => hn fun x hx y hy z => by
    have := inE x hx y hy z.1 z.2
    rw [e] at this
    cases this
  obtain ⟨s, hs, hf⟩ := first_ex (-u.2, u.1) E ne fun e he => by
    have := ((hE e).mp he).2.1
    have q : dt (-u.2, u.1) e = cr u e := by unfold dt cr; grind
    omega
  obtain ⟨⟨x, hx, y, hy, rfl⟩, h1, h2⟩ := (hE s).mp hs
  refine ⟨x, hx, y, hy, h1, h2, fun a ha b hb z => ?_⟩
  have e1 : 0 < cr u (nrmOf (sb a b)) := by rw [cr_nrm, dt_sb]; omega
  have e2 : 0 < cr (nrmOf (sb a b)) (nrmOf (sb x y)) := by rw [nrm_cr, dt_sb]; omega
  have e3 := cone_out h0 e1 (Int.le_of_lt e2) h2 h1
  have := hf _ ((hE _).mpr ⟨⟨a, ha, b, hb, rfl⟩, e1, e3⟩)
  rw [cr_anti] at this
  omega
/-! ### middle values -/
noncomputable def md (A : List Pt) (u : Pt) : Int := by
  classical
  exact if h : A ≠ [] then dt u (Classical.choose (Hv_ex u h)) else 0
theorem md_hv {A : List Pt} (u : Pt) (oA : A.length % 2 = 1) : Hv A u (md A u) := by
  have h : A ≠ [] := fun e => by rw [e] at oA; cases oA
  unfold md
  rw [dif_pos h]
  exact (Classical.choose_spec (Hv_ex u h)).2
theorem md_eq {A : List Pt} {u : Pt} {c : Int} (oA : A.length % 2 = 1) (h : Hv A u c) : md A u = c := Hv_uniq oA (md_hv u oA) h
noncomputable def gp (A B : List Pt) (u : Pt) : Int := md A u - md B u
structure Pln (A B : List Pt) : Prop where
  nd : (A ++ B).Nodup
  oA : A.length % 2 = 1
  oB : B.length % 2 = 1
  ln : ∀ s : Pt, s ≠ (0, 0) → ∀ x ∈ A ++ B, ∀ y ∈ A ++ B, ∀ z ∈ A ++ B, x ≠ y → dt s x = dt s y → dt s z = dt s x → z = x ∨ z = y
section
variable {A B : List Pt}
theorem Pln.dis (h : Pln A B) {x y : Pt} (hx : x ∈ A) (hy : y ∈ B) : x ≠ y := fun e => by
  have := (List.nodup_append.mp h.nd).2.2
  exact this x hx y hy e
theorem Pln.step (h : Pln A B) {u v : Pt} (hn : NoInv (A ++ B) u v) : ¬ (0 < gp A B u ∧ gp A B v < 0) ∧ ¬ (gp A B u < 0 ∧ 0 < gp A B v) := by
  have := gap_step h.oA h.oB hn (md_hv u h.oA) (md_hv u h.oB) (md_hv v h.oA) (md_hv v h.oB)
  unfold gp
  omega
/-- a zero is a slope -/
theorem Pln.zero (h : Pln A B) {s : Pt} (hz : gp A B s = 0) : ∃ x ∈ A, ∃ y ∈ B, dt s x = md A s ∧ dt s y = md A s := by
  obtain ⟨x, hx, ex⟩ := Hv_mem h.oA (md_hv s h.oA)
  obtain ⟨y, hy, ey⟩ := Hv_mem h.oB (md_hv s h.oB)
  unfold gp at hz
  exact ⟨x, hx, y, hy, ex, by omega⟩
/-- between two neighbours there is no slope -/
theorem flat_none {S : List Pt} {s t x y : Pt} (hn : NoInv S s t) (hc : 0 < cr s t) (hx : x ∈ S) (hy : y ∈ S) (he : dt (ad s t) x = dt (ad s t) y) : x = y := by
  have h1 := hn x hx y hy
  have h2 := hn y hy x hx
  unfold ad at he
  rw [dt_add, dt_add] at he
  have e1 : dt s x = dt s y := by omega
  have e2 : dt t x = dt t y := by omega
  have d1 : dt s (sb x y) = 0 := by rw [dt_sb]; omega
  have d2 : dt t (sb x y) = 0 := by rw [dt_sb]; omega
  rw [sb_eq]
  generalize sb x y = d at *
  have a1 : cr s t * d.1 = 0 := by
    have : cr s t * d.1 = t.2 * dt s d - s.2 * dt t d := by unfold cr dt; grind
    rw [this, d1, d2]; omega
  have a2 : cr s t * d.2 = 0 := by
    have : cr s t * d.2 = s.1 * dt t d - t.1 * dt s d := by unfold cr dt; grind
    rw [this, d1, d2]; omega
  rcases Int.mul_eq_zero.mp a1 with z | z
  · omega
  · rcases Int.mul_eq_zero.mp a2 with z2 | z2
    · omega
    · exact Prod.ext z z2
theorem Pln.off (h : Pln A B) {s t : Pt} (hn : NoInv (A ++ B) s t) (hc : 0 < cr s t) : gp A B (ad s t) ≠ 0 := fun z => by
  obtain ⟨x, hx, y, hy, e1, e2⟩ := h.zero z
  exact h.dis hx hy (flat_none hn hc (List.mem_append_left _ hx) (List.mem_append_right _ hy) (e1.trans e2.symm))
/-- beside a zero the same two points are the middles -/
theorem Pln.near (h : Pln A B) {s p x y : Pt} (hn : NoInv (A ++ B) p s) (hs : s ≠ (0, 0)) (hz : gp A B s = 0) (hx : x ∈ A) (hy : y ∈ B) (ex : dt s x = md A s) (ey : dt s y = md A s) : md A p = dt p x ∧ md B p = dt p y := by
  have hvA := md_hv s h.oA
  have hvB := md_hv s h.oB
  have eB : md B s = md A s := by unfold gp at hz; omega
  rw [eB] at hvB
  have xS := List.mem_append_left B hx
  have yS := List.mem_append_right A hy
  have xy := h.dis hx hy
  have on := fun z (hz : z ∈ A ++ B) (e : dt s z = md A s) => h.ln s hs x xS y yS z hz xy (ex.trans ey.symm) (e.trans ex.symm)
  have kA : ∀ z ∈ A, dt s z = md A s → z = x := fun z hz e => (on z (List.mem_append_left _ hz) e).elim id fun q => absurd q (fun q => h.dis hz hy q)
  have kB : ∀ z ∈ B, dt s z = md A s → z = y := fun z hz e => (on z (List.mem_append_right _ hz) e).elim (fun q => absurd q.symm (fun q => h.dis hx hz q)) id
  constructor
  · refine md_eq h.oA ⟨?_, ?_⟩
    · have : lo A p (dt p x) ≤ lo A s (md A s) := cnt_le fun z hz q => by
        rw [decide_eq_true_eq] at q ⊢
        have n := hn x xS z (List.mem_append_left _ hz)
        by_cases e : dt s z = md A s
        · rw [kA z hz e] at q; omega
        · omega
      have := hvA.1
      omega
    · have : hi A p (dt p x) ≤ hi A s (md A s) := cnt_le fun z hz q => by
        rw [decide_eq_true_eq] at q ⊢
        have n := hn z (List.mem_append_left _ hz) x xS
        by_cases e : dt s z = md A s
        · rw [kA z hz e] at q; omega
        · omega
      have := hvA.2
      omega
  · refine md_eq h.oB ⟨?_, ?_⟩
    · have : lo B p (dt p y) ≤ lo B s (md A s) := cnt_le fun z hz q => by
        rw [decide_eq_true_eq] at q ⊢
        have n := hn y yS z (List.mem_append_right _ hz)
        by_cases e : dt s z = md A s
        · rw [kB z hz e] at q; omega
        · omega
      have := hvB.1
      omega
    · have : hi B p (dt p y) ≤ hi B s (md A s) := cnt_le fun z hz q => by
        rw [decide_eq_true_eq] at q ⊢
        have n := hn z (List.mem_append_right _ hz) y yS
        by_cases e : dt s z = md A s
        · rw [kB z hz e] at q; omega
        · omega
      have := hvB.2
      omega
end
/-! ### the count -/
theorem countP_one {α : Type} {l : List α} {p : α → Bool} (hn : l.Nodup) {z : α} (hz : z ∈ l) (pz : p z = true) (hu : ∀ y ∈ l, p y = true → y = z) : l.countP p = 1 := by
  classical
  have e : l.countP p = l.countP (fun y => decide (y = z)) := List.countP_congr fun y hy => by
    rw [decide_eq_true_eq]
    exact ⟨hu y hy, fun e => e ▸ pz⟩
  rw [e]
  induction l with
  | nil => cases hz
  | cons a l ih =>
    rw [List.countP_cons]
    have hn' := List.nodup_cons.mp hn
    by_cases ha : a = z
    · subst ha
      have : l.countP (fun y => decide (y = a)) = 0 := List.countP_eq_zero.mpr fun y hy => by
        rw [decide_eq_true_eq]
        exact fun e => hn'.1 (e ▸ hy)
      rw [this]
      simp
    · have hz' : z ∈ l := (List.mem_cons.mp hz).resolve_left (fun e => ha e.symm)
      have := ih hn'.2 hz' (fun y hy => hu y (List.mem_cons_of_mem _ hy)) (List.countP_congr fun y hy => by
        rw [decide_eq_true_eq]
        exact ⟨hu y (List.mem_cons_of_mem _ hy), fun e => e ▸ pz⟩)
      rw [this]
      simp [ha]
theorem countP_split {α : Type} {l : List α} {p q r : α → Bool} (h : ∀ x ∈ l, p x = true ↔ (q x = true ∨ r x = true)) (hd : ∀ x ∈ l, ¬ (q x = true ∧ r x = true)) : l.countP p = l.countP q + l.countP r := by
  induction l with
  | nil => rfl
  | cons a l ih =>
    have h1 := h a List.mem_cons_self
    have h2 := hd a List.mem_cons_self
    rw [List.countP_cons, List.countP_cons, List.countP_cons, ih (fun x hx => h x (List.mem_cons_of_mem _ hx)) (fun x hx => hd x (List.mem_cons_of_mem _ hx))]
    cases hp : p a <;> cases hq : q a <;> cases hr : r a <;> simp [hp, hq, hr] at h1 h2 ⊢ <;> omega
/-- the way d lies between u and v: it goes up by the one and down by the other -/
def opp (u v d : Pt) : Bool := decide ((0 < dt u d ∧ dt v d < 0) ∨ (dt u d < 0 ∧ 0 < dt v d))
/-- the pairs that lie on a line that halves both -/
structure Zrs (A B : List Pt) (Z : List (Pt × Pt)) : Prop where
  nd : Z.Nodup
  mem : ∀ z, z ∈ Z ↔ z.1 ∈ A ∧ z.2 ∈ B ∧ ∃ s : Pt, s ≠ (0, 0) ∧ dt s z.1 = dt s z.2 ∧ Hv A s (dt s z.1) ∧ Hv B s (dt s z.1)
def inv (S : List Pt) (u v : Pt) : Nat := (S.flatMap fun x => S.map fun y => (x, y)).countP fun z => decide (dt u z.2 < dt u z.1 ∧ dt v z.1 < dt v z.2)
theorem pairs_mem {S : List Pt} {x y : Pt} : (x, y) ∈ (S.flatMap fun x => S.map fun y => (x, y)) ↔ x ∈ S ∧ y ∈ S := by
  simp [List.mem_flatMap]
theorem countP_lt {α : Type} {l : List α} {p q : α → Bool} (h : ∀ x ∈ l, p x = true → q x = true) {z : α} (hz : z ∈ l) (pz : p z = false) (qz : q z = true) : l.countP p < l.countP q := by
  induction l with
  | nil => cases hz
  | cons a l ih =>
    have le : l.countP p ≤ l.countP q := cnt_le fun x hx => h x (List.mem_cons_of_mem _ hx)
    rw [List.countP_cons, List.countP_cons]
    rcases List.mem_cons.mp hz with e | hz
    · subst e
      rw [pz, qz]
      simp
      omega
    · have := ih (fun x hx => h x (List.mem_cons_of_mem _ hx)) hz
      have ha := h a List.mem_cons_self
      cases hp : p a <;> cases hq : q a <;> simp [hp, hq] at ha ⊢ <;> omega
section
variable {A B : List Pt} {Z : List (Pt × Pt)}
theorem sb_ne {x y : Pt} (h : x ≠ y) : sb x y ≠ (0, 0) := fun e => h (sb_eq.mpr e)
theorem nrm_ne {d : Pt} (h : d ≠ (0, 0)) : nrmOf d ≠ (0, 0) := fun e => h (by
  unfold nrmOf at e
  have h1 : -d.2 = 0 := congrArg Prod.fst e
  have h2 : d.1 = 0 := congrArg Prod.snd e
  exact Prod.ext h2 (by show d.2 = 0; omega))
theorem perp_par {s n d : Pt} (hd : d ≠ (0, 0)) (h1 : dt s d = 0) (h2 : dt n d = 0) : cr s n = 0 := by
  have a1 : cr s n * d.1 = 0 := by
    have : cr s n * d.1 = n.2 * dt s d - s.2 * dt n d := by unfold cr dt; grind
    rw [this, h1, h2]; omega
  have a2 : cr s n * d.2 = 0 := by
    have : cr s n * d.2 = s.1 * dt n d - n.1 * dt s d := by unfold cr dt; grind
    rw [this, h1, h2]; omega
  rcases Int.mul_eq_zero.mp a1 with z | z
  · exact z
  · rcases Int.mul_eq_zero.mp a2 with z2 | z2
    · exact z2
    · exact absurd (Prod.ext z z2) hd
/-- the lines of one slope: one if the arrow's gap is zero, none if not -/
theorem at_slope (h : Pln A B) (hZ : Zrs A B Z) {s : Pt} (hs : s ≠ (0, 0)) : Z.countP (fun z => decide (dt s (sb z.1 z.2) = 0)) = if gp A B s = 0 then 1 else 0 := by
  have key : ∀ z ∈ Z, dt s (sb z.1 z.2) = 0 → dt s z.1 = md A s ∧ dt s z.2 = md A s ∧ gp A B s = 0 := fun z hz e => by
    obtain ⟨h1, h2, t, ht, e1, vA, vB⟩ := (hZ.mem z).mp hz
    have td : dt t (sb z.1 z.2) = 0 := by rw [dt_sb]; omega
    have c := perp_par (sb_ne (h.dis h1 h2)) td e
    rw [dt_sb] at e
    have wA := Hv_par ht hs c vA
    have e12 : dt s z.1 = dt s z.2 := by omega
    have wB : Hv B s (dt s z.2) := Hv_par ht hs c (by rw [← e1]; exact vB)
    have mA := md_eq h.oA wA
    have mB := md_eq h.oB wB
    unfold gp
    omega
  by_cases hz : gp A B s = 0
  · rw [if_pos hz]
    obtain ⟨x, hx, y, hy, ex, ey⟩ := h.zero hz
    have xS := List.mem_append_left B hx
    have yS := List.mem_append_right A hy
    have xy := h.dis hx hy
    have inZ : (x, y) ∈ Z := (hZ.mem _).mpr ⟨hx, hy, s, hs, ex.trans ey.symm, by rw [ex]; exact md_hv s h.oA, by
      have := md_hv (A := B) s h.oB
      unfold gp at hz
      rw [ex, show md A s = md B s by omega]
      exact this⟩
    refine countP_one hZ.nd inZ (by rw [decide_eq_true_eq, dt_sb]; show dt s x - dt s y = 0; omega) fun z hzZ pz => ?_
    rw [decide_eq_true_eq] at pz
    obtain ⟨k1, k2, _⟩ := key z hzZ pz
    obtain ⟨m1, m2, _⟩ := (hZ.mem z).mp hzZ
    have o1 := h.ln s hs x xS y yS z.1 (List.mem_append_left _ m1) xy (ex.trans ey.symm) (k1.trans ex.symm)
    have o2 := h.ln s hs x xS y yS z.2 (List.mem_append_right _ m2) xy (ex.trans ey.symm) (k2.trans ex.symm)
    refine Prod.ext ?_ ?_
    · exact o1.elim id fun q => absurd q (h.dis m1 hy)
    · exact o2.elim (fun q => absurd q.symm (h.dis hx m2)) id
  · rw [if_neg hz]
    refine List.countP_eq_zero.mpr fun z hzZ pz => ?_
    rw [decide_eq_true_eq] at pz
    exact hz (key z hzZ pz).2.2
theorem par_between (h : Pln A B) (hZ : Zrs A B Z) : ∀ (n : Nat) (u v : Pt), inv (A ++ B) u v ≤ n → 0 ≤ cr u v → gp A B u ≠ 0 → gp A B v ≠ 0 →
    (Z.countP (fun z => opp u v (sb z.1 z.2)) % 2 = 1 ↔ ((0 < gp A B u ∧ gp A B v < 0) ∨ (gp A B u < 0 ∧ 0 < gp A B v)))
  | n, u, v, hn, h0, gu, gv => by
    classical
    by_cases hi : NoInv (A ++ B) u v
    · have e : Z.countP (fun z => opp u v (sb z.1 z.2)) = 0 := List.countP_eq_zero.mpr fun z hz p => by
        obtain ⟨m1, m2, _⟩ := (hZ.mem z).mp hz
        have a := hi z.1 (List.mem_append_left _ m1) z.2 (List.mem_append_right _ m2)
        have b := hi z.2 (List.mem_append_right _ m2) z.1 (List.mem_append_left _ m1)
        unfold opp at p
        rw [decide_eq_true_eq, dt_sb, dt_sb] at p
        omega
      have st := h.step hi
      rw [e]
      omega
    · obtain ⟨x, hx, y, hy, h1, h2, nus⟩ := next_slope h0 hi
      have xy : x ≠ y := fun e => by
        subst e
        rw [cr_nrm, dt_sb] at h1
        omega
      have hs := nrm_ne (sb_ne xy)
      have sd : dt (nrmOf (sb x y)) (sb x y) = 0 := by unfold dt nrmOf; grind
      have inv1 : dt u y < dt u x ∧ dt v x < dt v y := by
        rw [cr_nrm, dt_sb] at h1
        rw [nrm_cr, dt_sb] at h2
        omega
      generalize nrmOf (sb x y) = s at *
      -- the next one behind s
      have nx : ∃ t, 0 < cr s t ∧ NoInv (A ++ B) s t ∧ 0 ≤ cr u t ∧ 0 ≤ cr t v ∧ (t = v ∨ 0 < cr t v) := by
        by_cases hi2 : NoInv (A ++ B) s v
        · exact ⟨v, h2, hi2, h0, by rw [cr_self]; omega, .inl rfl⟩
        · obtain ⟨x', _, y', _, k1, k2, k3⟩ := next_slope (Int.le_of_lt h2) hi2
          exact ⟨_, k1, k3, Int.le_of_lt (cone_in h0 h1 (Int.le_of_lt k1) k2 h2), Int.le_of_lt k2, .inr k2⟩
      obtain ⟨t, c1, nst, c2, c3, c4⟩ := nx
      have hq := h.off nst c1
      have hp := h.off nus h1
      -- q between s and the next, p between u and s
      have uq : 0 < cr u (ad s t) := by rw [cr_ad]; omega
      have sq : 0 < cr s (ad s t) := by rw [cr_ad, cr_self]; omega
      have qv : 0 < cr (ad s t) v := by rw [ad_cr]; omega
      have nsq := nst.left
      have nup := nus.left
      have nps := nus.right
      have stu := h.step nup
      have noq : ∀ a ∈ A ++ B, ∀ b ∈ A ++ B, a ≠ b → dt (ad s t) (sb a b) ≠ 0 := fun a ha b hb hab e => hab (flat_none nst c1 ha hb (by rw [dt_sb] at e; omega))
      have less : inv (A ++ B) (ad s t) v < inv (A ++ B) u v := by
        refine countP_lt (fun z hz pz => ?_) (z := (x, y)) (pairs_mem.mpr ⟨hx, hy⟩) ?_ ?_
        · rw [decide_eq_true_eq] at pz ⊢
          have e1 : 0 < cr (ad s t) (nrmOf (sb z.1 z.2)) := by rw [cr_nrm, dt_sb]; omega
          have e2 : 0 < cr (nrmOf (sb z.1 z.2)) v := by rw [nrm_cr, dt_sb]; omega
          have e3 := cone_in h0 uq (Int.le_of_lt e1) e2 qv
          rw [cr_nrm, dt_sb] at e3
          omega
        · rw [decide_eq_false_iff_not]
          intro z
          have z : dt (ad s t) y < dt (ad s t) x ∧ dt v x < dt v y := z
          have z1 : 0 < dt (ad s t) (sb x y) := by rw [dt_sb]; omega
          have z2 : dt v (sb x y) < 0 := by rw [dt_sb]; omega
          have zt : 0 < dt t (sb x y) := by
            have : dt (ad s t) (sb x y) = dt s (sb x y) + dt t (sb x y) := by unfold ad; exact dt_add ..
            omega
          have zu : 0 < dt u (sb x y) := by rw [dt_sb]; omega
          have id : cr s t * dt u (sb x y) + cr u s * dt t (sb x y) = cr u t * dt s (sb x y) := by
            have := cr_dt s t u (sb x y)
            have e1 := cr_anti u t
            have e2 : cr t u = -cr u t := cr_anti u t
            rw [e2] at this
            have e3 : -cr u t * dt s (sb x y) = -(cr u t * dt s (sb x y)) := Int.neg_mul ..
            omega
          rw [sd, Int.mul_zero] at id
          have a1 := Int.mul_pos c1 zu
          have a2 := Int.mul_pos h1 zt
          omega
        · rw [decide_eq_true_eq]
          exact inv1
      have ih := par_between h hZ (n - 1) (ad s t) v (by omega) (Int.le_of_lt qv) hq gv
      have split : Z.countP (fun z => opp u v (sb z.1 z.2)) = Z.countP (fun z => decide (dt s (sb z.1 z.2) = 0)) + Z.countP (fun z => opp (ad s t) v (sb z.1 z.2)) := by
        refine countP_split (fun z hz => ?_) (fun z hz => ?_)
        · obtain ⟨m1, m2, _⟩ := (hZ.mem z).mp hz
          have aS := List.mem_append_left B m1
          have bS := List.mem_append_right A m2
          have n1 := nus z.1 aS z.2 bS
          have n2 := nus z.2 bS z.1 aS
          have n3 := nsq z.1 aS z.2 bS
          have n4 := nsq z.2 bS z.1 aS
          have q0 := noq z.1 aS z.2 bS (h.dis m1 m2)
          have d0 := sb_ne (h.dis m1 m2)
          have i1 := cr_dt u v s (sb z.1 z.2)
          have i2 := cr_dt u v (ad s t) (sb z.1 z.2)
          have r1 : cr v s = -cr s v := cr_anti s v
          have r2 : cr s u = -cr u s := cr_anti u s
          have r3 : cr v (ad s t) = -cr (ad s t) v := cr_anti (ad s t) v
          have r4 : cr (ad s t) u = -cr u (ad s t) := cr_anti u (ad s t)
          rw [r1, r2, Int.neg_mul, Int.neg_mul] at i1
          rw [r3, r4, Int.neg_mul, Int.neg_mul] at i2
          have su := dt_sb u z.1 z.2
          have sv := dt_sb v z.1 z.2
          have ss := dt_sb s z.1 z.2
          have sqq := dt_sb (ad s t) z.1 z.2
          unfold opp
          rw [decide_eq_true_eq, decide_eq_true_eq, decide_eq_true_eq]
          generalize sb z.1 z.2 = d at *
          constructor
          · omega
          · rintro (e | ⟨e1, e2⟩ | ⟨e1, e2⟩)
            · rw [e, Int.mul_zero] at i1
              have nz : dt u d ≠ 0 := fun e2 => by
                have := perp_par d0 e2 e
                omega
              rcases Int.lt_or_gt_of_ne nz with k | k
              · right
                refine ⟨k, ?_⟩
                have a := Int.mul_neg_of_pos_of_neg h2 k
                have b : 0 < dt v d * cr u s := by rw [Int.mul_comm]; omega
                exact pos_of b h1
              · left
                refine ⟨k, ?_⟩
                have a := Int.mul_pos h2 k
                have b : 0 < (-dt v d) * cr u s := by rw [Int.neg_mul, Int.mul_comm]; omega
                have := pos_of b h1
                omega
            · left
              refine ⟨?_, e2⟩
              have a := Int.mul_neg_of_pos_of_neg uq e2
              have b := Int.mul_nonneg h0 (Int.le_of_lt e1)
              have c : 0 < dt u d * cr (ad s t) v := by rw [Int.mul_comm]; omega
              exact pos_of c qv
            · right
              refine ⟨?_, e2⟩
              have a := Int.mul_pos uq e2
              have b := Int.mul_nonneg h0 (show 0 ≤ -dt (ad s t) d by omega)
              rw [Int.mul_neg] at b
              have c : 0 < (-dt u d) * cr (ad s t) v := by rw [Int.neg_mul, Int.mul_comm]; omega
              have := pos_of c qv
              omega
        · rintro ⟨e, o⟩
          unfold opp at o
          rw [decide_eq_true_eq] at e o
          have i := cr_dt s v (ad s t) (sb z.1 z.2)
          have r3 : cr v (ad s t) = -cr (ad s t) v := cr_anti (ad s t) v
          have r4 : cr (ad s t) s = -cr s (ad s t) := cr_anti s (ad s t)
          rw [e, Int.mul_zero, r4, Int.neg_mul] at i
          rcases o with ⟨e1, e2⟩ | ⟨e1, e2⟩
          · have a := Int.mul_neg_of_pos_of_neg sq e2
            have b := Int.mul_pos h2 e1
            omega
          · have a := Int.mul_pos sq e2
            have b := Int.mul_neg_of_pos_of_neg h2 e1
            omega
      rw [split, at_slope h hZ hs]
      by_cases hz : gp A B s = 0
      · rw [if_pos hz]
        obtain ⟨x0, hx0, y0, hy0, ex, ey⟩ := h.zero hz
        obtain ⟨a1, a2⟩ := h.near nps hs hz hx0 hy0 ex ey
        obtain ⟨b1, b2⟩ := h.near nsq.symm hs hz hx0 hy0 ex ey
        have gp1 : gp A B (ad u s) = dt (ad u s) (sb x0 y0) := by unfold gp; rw [dt_sb]; omega
        have gp2 : gp A B (ad s t) = dt (ad s t) (sb x0 y0) := by unfold gp; rw [dt_sb]; omega
        have gs : dt s (sb x0 y0) = 0 := by rw [dt_sb]; omega
        have i := cr_dt (ad u s) (ad s t) s (sb x0 y0)
        have r1 : cr (ad s t) s = -cr s (ad s t) := cr_anti s (ad s t)
        have r2 : cr s (ad u s) = -cr (ad u s) s := cr_anti (ad u s) s
        have ps : 0 < cr (ad u s) s := by rw [ad_cr, cr_self]; omega
        rw [gs, Int.mul_zero, r1, r2, ← gp1, ← gp2, Int.neg_mul, Int.neg_mul] at i
        rcases Int.lt_or_gt_of_ne hp with k | k
        · have a := Int.mul_neg_of_pos_of_neg sq k
          have b : 0 < gp A B (ad s t) * cr (ad u s) s := by rw [Int.mul_comm]; omega
          have := pos_of b ps
          omega
        · have a := Int.mul_pos sq k
          have b : 0 < (-gp A B (ad s t)) * cr (ad u s) s := by rw [Int.neg_mul, Int.mul_comm]; omega
          have := pos_of b ps
          omega
      · rw [if_neg hz]
        have s1 := h.step nps
        have s2 := h.step nsq
        omega
  termination_by n u v => inv (A ++ B) u v
end
end My

namespace My
open PySem PySem.Spec PyProof.Rows L2 PD
theorem lines_mem {h : List Pt} {x : Ln} : (∃ (a b : Nat) (p q : Pt), b < a ∧ (placesP h)[a]? = some p ∧ (placesP h)[b]? = some q ∧ x = thru p q) ↔ ∃ p ∈ h, ∃ q ∈ h, p ≠ q ∧ x = thru p q := by
  constructor
  · rintro ⟨a, b, p, q, h1, h2, h3, rfl⟩
    refine ⟨p, placesP_mem.mp (List.mem_of_getElem? h2), q, placesP_mem.mp (List.mem_of_getElem? h3), fun e => ?_, rfl⟩
    subst e
    have := nodupIx (placesP_nodup h) h2 h3
    omega
  · rintro ⟨p, hp, q, hq, hpq, rfl⟩
    obtain ⟨a, ha⟩ := List.getElem?_of_mem (placesP_mem.mpr hp)
    obtain ⟨b, hb⟩ := List.getElem?_of_mem (placesP_mem.mpr hq)
    by_cases hab : b < a
    · exact ⟨a, b, p, q, hab, ha, hb, rfl⟩
    · have hne : a ≠ b := fun e => hpq (by subst e; rw [ha] at hb; cases hb; rfl)
      exact ⟨b, a, q, p, by omega, hb, ha, thru_comm hpq⟩
/-- all lines of two heaps -/
structure AllOk (A B : List Pt) (R : List Ln) : Prop where
  good : GoodL R
  mem : ∀ x, x ∈ R ↔ (∃ p ∈ A ++ B, ∃ q ∈ A ++ B, p ≠ q ∧ x = thru p q) ∧ Both A B x
theorem AllOk.uniq {A B : List Pt} {R R' : List Ln} (h : AllOk A B R) (h' : AllOk A B R') : R = R' := srt_uniq h.good h'.good fun x => by rw [h.mem, h'.mem]
theorem all_lines_eq {A B : List Pt} {d e : Dt} {st : Sto} (hd : look st d = some (A.map pt)) (he : look st e = some (B.map pt)) (hA : ∀ p ∈ A, Ok 200 p) (hB : ∀ p ∈ B, Ok 200 p) (hl : A.length + B.length < 64) :
    ∃ R, d_all_lines [d, e] st = some (.ptr st.length, st ++ [.lst (R.map tri)]) ∧ AllOk A B R := by
  have g1 := gList1_look hd
  have g2 := gList1_look he
  have ad : gAdd st (.lst (A.map pt)) (.lst (B.map pt)) = some (.lst ((A ++ B).map pt)) := by
    rw [gAdd_look rfl rfl (by simp only [List.length_map]; omega), List.map_append]
  have hS : ∀ p ∈ A ++ B, Ok 200 p := fun p hp => by
    rcases List.mem_append.mp hp with h | h
    · exact hA p h
    · exact hB p h
  obtain ⟨R0, e0, k1, k2⟩ := lines_of_eq (h := A ++ B) (d := .lst ((A ++ B).map pt)) (st := st) rfl hS (by rw [List.length_append]; omega)
  have hlen : R0.length < 10000 := by
    have key : ∀ (S : List Pt), S.length < 64 → ∀ R : List Ln, R.Nodup → (∀ x ∈ R, ∃ p ∈ S, ∃ q ∈ S, x = thru p q) → R.length < 10000 := fun S hS R hn hx => by
      have := nodup_len (A := R) (B := S.flatMap fun p => S.map fun q => thru p q) hn fun x h => by
        obtain ⟨p, hp, q, hq, rfl⟩ := hx x h
        exact List.mem_flatMap.mpr ⟨p, hp, List.mem_map.mpr ⟨q, hq, rfl⟩⟩
      have e : (S.flatMap fun p => S.map fun q => thru p q).length = S.length * S.length := by
        have : ∀ (T U : List Pt), (T.flatMap fun p => U.map fun q => thru p q).length = T.length * U.length := by
          intro T U
          induction T with
          | nil => simp
          | cons a T ih => rw [List.flatMap_cons, List.length_append, List.length_map, ih, List.length_cons, Nat.succ_mul]; omega
        exact this S S
      rw [e] at this
      have : S.length * S.length ≤ 64 * 64 := Nat.mul_le_mul (by omega) (by omega)
      omega
    exact key (A ++ B) (by rw [List.length_append]; omega) R0 (nodup_of_first k1.srt) fun x hx => by
      obtain ⟨p, hp, q, hq, _, h⟩ := lines_mem.mp ((k2 x).mp hx)
      exact ⟨p, hp, q, hq, h⟩
  have lc : ∀ z, dLcL (gtName 2) all_lines_if1 all_lines_el1 (fun _ => True) [some d, some e, z] (R0.map tri) [] st = some ((R0.filter fun l => halvesB l A && halvesB l B).map tri, st) := fun z => by
    refine lc_filter (g := gtName 2) (guard := fun _ => True) (f := tri) (h := tri) (p := fun l => halvesB l A && halvesB l B) trivial R0 [] (by simp; omega) fun l hl => ⟨[some d, some e, some (tri l)], rfl, ?_, fun _ => by simp [all_lines_el1]⟩
    have okl := (k1.nrm l hl).2
    have h1 := halves_eq okl hA (by omega) hd
    have h2 := halves_eq okl hB (by omega) he
    cases c1 : halvesB l A <;> rw [c1] at h1 <;> cases c2 : halvesB l B <;> rw [c2] at h2 <;> simp [all_lines_if1, h1, h2]
  have fm : finM st (.ptr st.length) (st ++ [.lst ((R0.filter fun l => halvesB l A && halvesB l B).map tri)]) = some (.ptr st.length, st ++ [.lst ((R0.filter fun l => halvesB l A && halvesB l B).map tri)]) := finM_own lowL_tri3
  refine ⟨R0.filter fun l => halvesB l A && halvesB l B, ?_, ⟨⟨List.Pairwise.sublist List.filter_sublist k1.srt, fun l hl => k1.nrm l (List.mem_filter.mp hl).1⟩, fun x => ?_⟩⟩
  · simp [-List.map_append, d_all_lines, dDef, b_all_lines, g1, g2, ad, e0, lc, fm]
  · rw [List.mem_filter, k2, lines_mem, Bool.and_eq_true]
    rfl
end My

namespace My
open PySem PySem.Spec PyProof.Rows L2 PD
/-! ## all lines of two plain heaps of odd many points -/
theorem dt_comm (u p : Pt) : dt u p = dt p u := by unfold dt; grind
theorem pln_of {A B : List Pt} (hP : PlainM (A ++ B)) (oA : A.length % 2 = 1) (oB : B.length % 2 = 1) : Pln A B :=
  ⟨hP.1, oA, oB, fun s hs x hx y hy z hz hxy e1 e2 => Classical.byContradiction fun h => by
    have zx : z ≠ x := fun q => h (.inl q)
    have zy : z ≠ y := fun q => h (.inr q)
    refine hP.2 x hx y hy z hz hxy (Ne.symm zx) (Ne.symm zy) ?_
    have d1 : dt (sb y x) s = 0 := by rw [dt_comm, dt_sb]; omega
    have d2 : dt (sb z x) s = 0 := by rw [dt_comm, dt_sb]; omega
    exact perp_par hs d1 d2⟩
theorem nm2_ne {l : Ln} (h : Nrm l) : nm2 l ≠ (0, 0) := fun e => by
  have h1 : l.1 = 0 := congrArg Prod.fst e
  have h2 : l.2.1 = 0 := congrArg Prod.snd e
  have := h.half
  omega
open Classical in
noncomputable def zrs (A B : List Pt) : List (Pt × Pt) := (A.flatMap fun x => B.map fun y => (x, y)).filter fun z => decide (∃ s : Pt, s ≠ (0, 0) ∧ dt s z.1 = dt s z.2 ∧ Hv A s (dt s z.1) ∧ Hv B s (dt s z.1))
theorem prod_nodup {A B : List Pt} (hA : A.Nodup) (hB : B.Nodup) : (A.flatMap fun x => B.map fun y => (x, y)).Nodup := by
  induction A with
  | nil => exact List.nodup_nil
  | cons a A ih =>
    rw [List.flatMap_cons, List.nodup_append]
    have h := List.nodup_cons.mp hA
    refine ⟨List.pairwise_map.mpr (List.Pairwise.imp (fun n e => n (congrArg Prod.snd e)) hB), ih h.2, fun x hx y hy e => ?_⟩
    obtain ⟨b, _, rfl⟩ := List.mem_map.mp hx
    obtain ⟨a', ha', q⟩ := List.mem_flatMap.mp hy
    obtain ⟨b', _, rfl⟩ := List.mem_map.mp q
    exact h.1 (by rw [show a = a' from congrArg Prod.fst e]; exact ha')
theorem zrs_ok {A B : List Pt} (h : Pln A B) : Zrs A B (zrs A B) := by
  classical
  have n := List.nodup_append.mp h.nd
  refine ⟨(prod_nodup n.1 n.2.1).filter _, fun z => ?_⟩
  unfold zrs
  rw [List.mem_filter, decide_eq_true_eq]
  constructor
  · rintro ⟨h1, h2⟩
    obtain ⟨a, ha, q⟩ := List.mem_flatMap.mp h1
    obtain ⟨b, hb, rfl⟩ := List.mem_map.mp q
    exact ⟨ha, hb, h2⟩
  · rintro ⟨h1, h2, h3⟩
    exact ⟨List.mem_flatMap.mpr ⟨z.1, h1, List.mem_map.mpr ⟨z.2, h2, rfl⟩⟩, h3⟩
theorem zrs_len {A B : List Pt} : (zrs A B).length ≤ A.length * B.length := by
  unfold zrs
  refine Nat.le_trans (List.length_filter_le _ _) ?_
  rw [flat_len (fun x y => (x, y)) B A]
  exact Nat.le_refl _
theorem thru_perp {x y : Pt} (h : x ≠ y) : dt (nm2 (thru x y)) (sb x y) = 0 := by
  have a := thru_on1 x y
  have b := thru_on2 h
  rw [dt_sb]
  show (thru x y).1 * x.1 + (thru x y).2.1 * x.2 - ((thru x y).1 * y.1 + (thru x y).2.1 * y.2) = 0
  omega
theorem all_perm {A B : List Pt} {R : List Ln} (h : Pln A B) (hR : AllOk A B R) : R.Perm ((zrs A B).map fun z => thru z.1 z.2) := by
  have hZ := zrs_ok h
  have nR : R.Nodup := by
    refine List.Pairwise.imp (S := fun a b => a ≠ b) ?_ hR.good.srt
    rintro a b q rfl
    exact first_irrefl a q
  have key : ∀ z ∈ zrs A B, Both A B (thru z.1 z.2) ∧ z.1 ≠ z.2 := fun z hz => by
    obtain ⟨m1, m2, s, hs, e, vA, vB⟩ := (hZ.mem z).mp hz
    have ne := h.dis m1 m2
    have nr := thru_nrm ne
    have c := perp_par (sb_ne ne) (s := s) (by rw [dt_sb]; omega) (thru_perp ne)
    have o1 : dt (nm2 (thru z.1 z.2)) z.1 = (thru z.1 z.2).2.2 := thru_on1 z.1 z.2
    have o2 : dt (nm2 (thru z.1 z.2)) z.2 = (thru z.1 z.2).2.2 := thru_on2 ne
    refine ⟨⟨halvesB_Hv.mpr ?_, halvesB_Hv.mpr ?_⟩, ne⟩
    · rw [← o1]
      exact Hv_par hs (nm2_ne nr) c vA
    · rw [← o2]
      exact Hv_par hs (nm2_ne nr) c (by rw [← e]; exact vB)
  have nM : ((zrs A B).map fun z => thru z.1 z.2).Nodup := by
    refine List.pairwise_map.mpr (List.Pairwise.imp_of_mem (fun {z z'} hz hz' ne e => ne ?_) hZ.nd)
    obtain ⟨m1, m2, _⟩ := (hZ.mem z).mp hz
    obtain ⟨k1, k2, _⟩ := (hZ.mem z').mp hz'
    have d := (key z hz).2
    have d' := (key z' hz').2
    have o1 : dt (nm2 (thru z.1 z.2)) z.1 = (thru z.1 z.2).2.2 := thru_on1 z.1 z.2
    have o2 : dt (nm2 (thru z.1 z.2)) z.2 = (thru z.1 z.2).2.2 := thru_on2 d
    have o3 : dt (nm2 (thru z'.1 z'.2)) z'.1 = (thru z'.1 z'.2).2.2 := thru_on1 z'.1 z'.2
    have o4 : dt (nm2 (thru z'.1 z'.2)) z'.2 = (thru z'.1 z'.2).2.2 := thru_on2 d'
    have e : thru z.1 z.2 = thru z'.1 z'.2 := e
    have nn := nm2_ne (thru_nrm d)
    rw [← e] at o3 o4
    have p1 := h.ln _ nn z.1 (List.mem_append_left _ m1) z.2 (List.mem_append_right _ m2) z'.1 (List.mem_append_left _ k1) d (o1.trans o2.symm) (o3.trans o1.symm)
    have p2 := h.ln _ nn z.1 (List.mem_append_left _ m1) z.2 (List.mem_append_right _ m2) z'.2 (List.mem_append_right _ k2) d (o1.trans o2.symm) (o4.trans o1.symm)
    refine Prod.ext ?_ ?_
    · exact (p1.elim id fun q => absurd q (h.dis k1 m2)).symm
    · exact (p2.elim (fun q => absurd q.symm (h.dis m1 k2)) id).symm
  refine (List.perm_ext_iff_of_nodup nR nM).mpr fun l => ?_
  rw [hR.mem, List.mem_map]
  constructor
  · rintro ⟨⟨p, hp, q, hq, hpq, rfl⟩, hb1, hb2⟩
    have nr := thru_nrm hpq
    have v1 := halvesB_Hv.mp hb1
    have v2 := halvesB_Hv.mp hb2
    obtain ⟨x, hx, ex⟩ := Hv_mem h.oA v1
    obtain ⟨y, hy, ey⟩ := Hv_mem h.oB v2
    have ne := h.dis hx hy
    have t : thru p q = thru x y := thru_uniq ne nr ex ey
    refine ⟨(x, y), (hZ.mem _).mpr ⟨hx, hy, nm2 (thru p q), nm2_ne nr, ex.trans ey.symm, ?_, ?_⟩, t.symm⟩
    · show Hv A _ (dt _ x)
      rw [ex]; exact v1
    · show Hv B _ (dt _ x)
      rw [ex]; exact v2
  · rintro ⟨z, hz, rfl⟩
    obtain ⟨m1, m2, _⟩ := (hZ.mem z).mp hz
    obtain ⟨k1, k2⟩ := key z hz
    exact ⟨⟨z.1, List.mem_append_left _ m1, z.2, List.mem_append_right _ m2, k2, rfl⟩, k1⟩
theorem md_neg {A : List Pt} (oA : A.length % 2 = 1) (u : Pt) : md A (-u.1, -u.2) = -md A u := md_eq oA (Hv_neg (md_hv u oA))
theorem gp_neg {A B : List Pt} (h : Pln A B) (u : Pt) : gp A B (-u.1, -u.2) = -gp A B u := by
  unfold gp
  rw [md_neg h.oA, md_neg h.oB]
  omega
theorem ex_arrow {A B : List Pt} (h : Pln A B) : ∃ u : Pt, u ≠ (0, 0) ∧ gp A B u ≠ 0 := by
  have c : 0 < cr (1, 0) (0, 1) := by decide
  have nz : ∀ {s t : Pt}, 0 < cr s t → ad s t ≠ (0, 0) := fun {s t} k e => by
    have : cr s (ad s t) = cr s t := by rw [cr_ad, cr_self]; omega
    rw [e] at this
    have e0 : cr s (0, 0) = 0 := by unfold cr; simp
    omega
  by_cases hi : NoInv (A ++ B) (1, 0) (0, 1)
  · exact ⟨_, nz c, h.off hi c⟩
  · obtain ⟨x, _, y, _, h1, _, h3⟩ := next_slope (Int.le_of_lt c) hi
    exact ⟨_, nz h1, h.off h3 h1⟩
theorem opp_neg (u d : Pt) : opp u (-u.1, -u.2) d = decide (dt u d ≠ 0) := by
  unfold opp
  rw [dt_neg]
  exact decide_eq_decide.mpr (by omega)
theorem odd_count {A B : List Pt} (h : Pln A B) {u : Pt} (hu : u ≠ (0, 0)) (hg : gp A B u ≠ 0) : (zrs A B).length % 2 = 1 := by
  have hZ := zrs_ok h
  have hn := gp_neg h u
  have c0 : cr u (-u.1, -u.2) = 0 := by unfold cr; rw [Int.mul_neg, Int.mul_neg, Int.mul_comm]; omega
  have k := par_between h hZ _ u (-u.1, -u.2) (Nat.le_refl _) (by omega) hg (by omega)
  have a := at_slope h hZ hu
  rw [if_neg hg] at a
  have e : (zrs A B).countP (fun z => opp u (-u.1, -u.2) (sb z.1 z.2)) = (zrs A B).length := List.countP_eq_length.mpr fun z hz => by
    rw [opp_neg, decide_eq_true_eq]
    intro q
    exact List.countP_eq_zero.mp a z hz (decide_eq_true q)
  rw [e] at k
  exact k.mpr (by omega)
theorem all_odd {A B : List Pt} {R : List Ln} (h : Pln A B) (hR : AllOk A B R) : R.length % 2 = 1 ∧ R.length ≤ A.length * B.length := by
  have p := (all_perm h hR).length_eq
  rw [List.length_map] at p
  obtain ⟨u, hu, hg⟩ := ex_arrow h
  exact ⟨by rw [p]; exact odd_count h hu hg, by rw [p]; exact zrs_len⟩
end My

namespace My
open PySem PySem.Spec PyProof.Rows L2 PD
/-- value(normal, point); slots: 0 normal 1 point -/
noncomputable def b_value : DS :=
  (dRet (dBin gAdd (dBin gMul (dBin gIx (dVar 0) (dC (.int 0))) (dBin gIx (dVar 1) (dC (.int 0)))) (dBin gMul (dBin gIx (dVar 0) (dC (.int 1))) (dBin gIx (dVar 1) (dC (.int 1))))))
noncomputable def d_value : DF := dDef 2 2 finP b_value
noncomputable def middle_el1 : DE :=
  (dCall 2 d_value (dCons (dVar 1) (dCons (dVar 3) dNil)))
/-- middle(heap, normal); slots: 0 heap 1 normal 2 values 3 point -/
noncomputable def b_middle : DS :=
  (dSeq (dIf (dB (dBin gEq (dAp gLen (dCons (dVar 0) dNil)) (dC (.int 0)))) dNever dNext)
    (dSeq (dAsg (dAp (asLst gSort) (dCons (dLc (diAny (dVar 0)) (gtName 3) dYes middle_el1 [3]) dNil)) (gtName 2))
    (dRet (dAp gTupD (dCons (dBin gIx (dVar 2) (dBin gFdiv (dBin gSub (dAp gLen (dCons (dVar 2) dNil)) (dC (.int 1))) (dC (.int 2)))) (dCons (dBin gIx (dVar 2) (dBin gFdiv (dAp gLen (dCons (dVar 2) dNil)) (dC (.int 2)))) dNil))))))
noncomputable def d_middle : DF := dDef 2 4 finP b_middle
/-- middle, where it may raise -/
noncomputable def bx_middle : DSX :=
  (dSeqX (dIfX (dB (dBin gEq (dAp gLen (dCons (dVar 0) dNil)) (dC (.int 0)))) (dRaise "Empty") (xS dNext))
    (dSeqX (xS (dAsg (dAp (asLst gSort) (dCons (dLc (diAny (dVar 0)) (gtName 3) dYes middle_el1 [3]) dNil)) (gtName 2)))
    (xS (dRet (dAp gTupD (dCons (dBin gIx (dVar 2) (dBin gFdiv (dBin gSub (dAp gLen (dCons (dVar 2) dNil)) (dC (.int 1))) (dC (.int 2)))) (dCons (dBin gIx (dVar 2) (dBin gFdiv (dAp gLen (dCons (dVar 2) dNil)) (dC (.int 2)))) dNil)))))))
noncomputable def dx_middle : DFX := dDefX 2 4 finP bx_middle
end My

namespace My
/-! ## the middles of a sorted list -/
theorem countP_le_of {p : Int → Bool} {s : List Int} {j : Nat} (h : ∀ (i : Nat) (x : Int), s[i]? = some x → j ≤ i → p x = false) : s.countP p ≤ j := by
  have e : s.countP p = (s.take j).countP p + (s.drop j).countP p := by rw [← List.countP_append, List.take_append_drop]
  have z : (s.drop j).countP p = 0 := List.countP_eq_zero.mpr fun x hx => by
    obtain ⟨i, hi⟩ := List.getElem?_of_mem hx
    rw [List.getElem?_drop] at hi
    simp [h (j + i) x hi (by omega)]
  have := List.countP_le_length (p := p) (l := s.take j)
  rw [List.length_take] at this
  omega
theorem le_countP_of {p : Int → Bool} {s : List Int} {j : Nat} (hj : j ≤ s.length) (h : ∀ (i : Nat) (x : Int), s[i]? = some x → i < j → p x = true) : j ≤ s.countP p := by
  have e : s.countP p = (s.take j).countP p + (s.drop j).countP p := by rw [← List.countP_append, List.take_append_drop]
  have z : (s.take j).countP p = (s.take j).length := List.countP_eq_length.mpr fun x hx => by
    obtain ⟨i, hi⟩ := List.getElem?_of_mem hx
    have hl := (List.getElem?_eq_some_iff.mp hi).1
    rw [List.length_take] at hl
    rw [List.getElem?_take_of_lt (by omega)] at hi
    exact h i x hi (by omega)
  rw [List.length_take] at z
  omega
theorem le_countP_of2 {p : Int → Bool} {s : List Int} {j : Nat} (hj : j ≤ s.length) (h : ∀ (i : Nat) (x : Int), s[i]? = some x → j ≤ i → p x = true) : s.length - j ≤ s.countP p := by
  have e : s.countP p = (s.take j).countP p + (s.drop j).countP p := by rw [← List.countP_append, List.take_append_drop]
  have z : (s.drop j).countP p = (s.drop j).length := List.countP_eq_length.mpr fun x hx => by
    obtain ⟨i, hi⟩ := List.getElem?_of_mem hx
    rw [List.getElem?_drop] at hi
    exact h (j + i) x hi (by omega)
  rw [List.length_drop] at z
  omega
theorem countP_le_of2 {p : Int → Bool} {s : List Int} {j : Nat} (hj : j ≤ s.length) (h : ∀ (i : Nat) (x : Int), s[i]? = some x → i < j → p x = false) : s.countP p ≤ s.length - j := by
  have e : s.countP p = (s.take j).countP p + (s.drop j).countP p := by rw [← List.countP_append, List.take_append_drop]
  have z : (s.take j).countP p = 0 := List.countP_eq_zero.mpr fun x hx => by
    obtain ⟨i, hi⟩ := List.getElem?_of_mem hx
    have hl := (List.getElem?_eq_some_iff.mp hi).1
    rw [List.length_take] at hl
    rw [List.getElem?_take_of_lt (by omega)] at hi
    simp [h i x hi (by omega)]
  have := List.countP_le_length (p := p) (l := s.drop j)
  rw [List.length_drop] at this
  omega
theorem srt_get {s : List Int} (h : s.Pairwise (· ≤ ·)) {i j : Nat} {x y : Int} (hx : s[i]? = some x) (hy : s[j]? = some y) (hij : i ≤ j) : x ≤ y := by
  obtain ⟨h1, rfl⟩ := List.getElem?_eq_some_iff.mp hx
  obtain ⟨h2, rfl⟩ := List.getElem?_eq_some_iff.mp hy
  rcases Nat.lt_or_eq_of_le hij with h3 | h3
  · exact List.pairwise_iff_getElem.mp h i j h1 h2 h3
  · subst h3; exact Int.le_refl _
/-- s: the values of A by u, sorted -/
structure Vals' (A : List Pt) (u : Pt) (s : List Int) : Prop where
  perm : s.Perm (A.map (dt u))
  srt : s.Pairwise (· ≤ ·)
theorem Vals'.len {A : List Pt} {u : Pt} {s : List Int} (h : Vals' A u s) : s.length = A.length := by rw [h.perm.length_eq, List.length_map]
theorem Vals'.lo {A : List Pt} {u : Pt} {s : List Int} (h : Vals' A u s) (c : Int) : My.lo A u c = s.countP fun x => decide (x < c) := by
  rw [h.perm.countP_eq, List.countP_map]
  rfl
theorem Vals'.hi {A : List Pt} {u : Pt} {s : List Int} (h : Vals' A u s) (c : Int) : My.hi A u c = s.countP fun x => decide (c < x) := by
  rw [h.perm.countP_eq, List.countP_map]
  rfl
theorem mid_in {A : List Pt} {u : Pt} {s : List Int} (h : Vals' A u s) {a b c : Int} (ha : s[(s.length - 1) / 2]? = some a) (hb : s[s.length / 2]? = some b) (h1 : a ≤ c) (h2 : c ≤ b) : Hv A u c := by
  have hl := (List.getElem?_eq_some_iff.mp ha).1
  refine ⟨?_, ?_⟩
  · rw [h.lo, ← h.len]
    have : s.countP (fun x => decide (x < c)) ≤ s.length / 2 := countP_le_of fun i x hx hi => by
      have := srt_get h.srt hb hx hi
      simp; omega
    omega
  · rw [h.hi, ← h.len]
    have : s.countP (fun x => decide (c < x)) ≤ s.length - ((s.length - 1) / 2 + 1) := countP_le_of2 (by omega) fun i x hx hi => by
      have := srt_get h.srt hx ha (by omega)
      simp; omega
    omega
theorem mid_out {A : List Pt} {u : Pt} {s : List Int} (h : Vals' A u s) {a b c : Int} (ha : s[(s.length - 1) / 2]? = some a) (hb : s[s.length / 2]? = some b) (h1 : c < a ∨ b < c) : ¬ Hv A u c := by
  have hl := (List.getElem?_eq_some_iff.mp ha).1
  rintro ⟨k1, k2⟩
  rw [h.lo, ← h.len] at k1
  rw [h.hi, ← h.len] at k2
  rcases h1 with h1 | h1
  · have : s.length - (s.length - 1) / 2 ≤ s.countP (fun x => decide (c < x)) := le_countP_of2 (by omega) fun i x hx hi => by
      have := srt_get h.srt ha hx hi
      simp; omega
    omega
  · have : s.length / 2 + 1 ≤ s.countP (fun x => decide (x < c)) := le_countP_of (by have := (List.getElem?_eq_some_iff.mp hb).1; omega) fun i x hx hi => by
      have := srt_get h.srt hx hb (by omega)
      simp; omega
    omega
/-- each twice -/
def dbl : List Int → List Int
  | [] => []
  | x :: s => x :: x :: dbl s
theorem dbl_len : ∀ s : List Int, (dbl s).length = 2 * s.length
  | [] => rfl
  | x :: s => by simp only [dbl, List.length_cons, dbl_len s]; omega
theorem dbl_get : ∀ (s : List Int) (i : Nat), (dbl s)[i]? = s[i / 2]?
  | [], i => by simp [dbl]
  | x :: s, 0 => by simp [dbl]
  | x :: s, 1 => by simp [dbl]
  | x :: s, i + 2 => by
    have e : (i + 2) / 2 = i / 2 + 1 := by omega
    simp only [dbl, List.getElem?_cons_succ, e, dbl_get s i]
theorem dbl_perm : ∀ s : List Int, (dbl s).Perm (s ++ s)
  | [] => .refl _
  | x :: s => by
    have h1 : (x :: x :: dbl s).Perm (x :: x :: (s ++ s)) := ((dbl_perm s).cons x).cons x
    have h2 : (x :: x :: (s ++ s)).Perm (x :: (s ++ x :: s)) := List.Perm.cons x (List.perm_middle.symm)
    exact h1.trans h2
theorem dbl_mem {s : List Int} {x : Int} (h : x ∈ dbl s) : x ∈ s := by
  have := (dbl_perm s).mem_iff.mp h
  simpa using this
theorem dbl_srt : ∀ {s : List Int}, s.Pairwise (· ≤ ·) → (dbl s).Pairwise (· ≤ ·)
  | [], _ => List.Pairwise.nil
  | x :: s, h => by
    obtain ⟨h1, h2⟩ := List.pairwise_cons.mp h
    refine List.pairwise_cons.mpr ⟨fun y hy => ?_, List.pairwise_cons.mpr ⟨fun y hy => h1 y (dbl_mem hy), dbl_srt h2⟩⟩
    rcases List.mem_cons.mp hy with e | hy
    · rw [e]; exact Int.le_refl _
    · exact h1 y (dbl_mem hy)
end My

namespace My
open PySem PySem.Spec PyProof.Rows L2 PD
theorem value_eq {u p : Pt} (hu : Ok 1000 u) (hp : Ok 200 p) (st : Sto) : d_value [pt u, pt p] st = some (.int (dt u p), st) := by
  have m1 : okMul u.1 p.1 := okMul_of hu.x hp.x (by decide) (by decide)
  have m2 : okMul u.2 p.2 := okMul_of hu.y hp.y (by decide) (by decide)
  simp [d_value, dDef, b_value, gMul_eq m1, gMul_eq m2, dt, finP_same]
theorem gSort_ints {st : Sto} {d : Dt} {ns : List Int} (h : look st d = some (ns.map .int)) : gSort st [d] = some ((sortI ns).map .int) := by
  have e := lookI_look h
  simp only [gSort, gSortI, e, Option.map_some]
def srtV (A : List Pt) (u : Pt) : List Int := sortI (A.map (dt u))
theorem srtV_ok (A : List Pt) (u : Pt) : Vals' A u (srtV A u) := ⟨sortI_perm _, sortI_sorted _⟩
theorem Vals'.uniq {A : List Pt} {u : Pt} {s t : List Int} (h : Vals' A u s) (h' : Vals' A u t) : s = t := sorted_uniq h.srt h'.srt (h.perm.trans h'.perm.symm)
theorem srtV_perm {A B : List Pt} (h : A.Perm B) (u : Pt) : srtV A u = srtV B u := Vals'.uniq (srtV_ok A u) ⟨(srtV_ok B u).perm.trans (h.symm.map _), (srtV_ok B u).srt⟩
theorem srtV_two (A : List Pt) (u : Pt) : srtV (A ++ A.reverse) u = dbl (srtV A u) := by
  refine Vals'.uniq (srtV_ok _ u) ⟨(dbl_perm _).trans ?_, dbl_srt (srtV_ok A u).srt⟩
  rw [List.map_append, List.map_reverse]
  exact ((srtV_ok A u).perm.append (srtV_ok A u).perm).trans ((List.Perm.refl _).append (List.reverse_perm _).symm)
/-- the middle of a heap -/
structure Mid (A : List Pt) (u : Pt) (a b : Int) : Prop where
  lo : (srtV A u)[((srtV A u).length - 1) / 2]? = some a
  hi : (srtV A u)[(srtV A u).length / 2]? = some b
theorem mid_ex {A : List Pt} (u : Pt) (h : A ≠ []) : ∃ a b, Mid A u a b := by
  have hl : 0 < (srtV A u).length := by rw [(srtV_ok A u).len]; exact List.length_pos_iff.mpr h
  exact ⟨_, _, List.getElem?_eq_getElem (by omega), List.getElem?_eq_getElem (by omega)⟩
theorem Mid.uniq {A : List Pt} {u : Pt} {a b c d : Int} (h : Mid A u a b) (h' : Mid A u c d) : a = c ∧ b = d := by
  obtain ⟨h1, h2⟩ := h
  obtain ⟨h3, h4⟩ := h'
  rw [h1] at h3
  rw [h2] at h4
  exact ⟨Option.some.inj h3, Option.some.inj h4⟩
theorem Mid.le {A : List Pt} {u : Pt} {a b : Int} (h : Mid A u a b) : a ≤ b := srt_get (srtV_ok A u).srt h.lo h.hi (by omega)
theorem Mid.inside {A : List Pt} {u : Pt} {a b c : Int} (h : Mid A u a b) (h1 : a ≤ c) (h2 : c ≤ b) : Hv A u c := mid_in (srtV_ok A u) h.lo h.hi h1 h2
theorem Mid.outside {A : List Pt} {u : Pt} {a b c : Int} (h : Mid A u a b) (h1 : c < a ∨ b < c) : ¬ Hv A u c := mid_out (srtV_ok A u) h.lo h.hi h1
theorem Mid.perm {A B : List Pt} {u : Pt} {a b : Int} (h : Mid A u a b) (p : A.Perm B) : Mid B u a b := ⟨by rw [← srtV_perm p]; exact h.lo, by rw [← srtV_perm p]; exact h.hi⟩
theorem Mid.two {A : List Pt} {u : Pt} {a b : Int} (h : Mid A u a b) : Mid (A ++ A.reverse) u a b := by
  have hl := (List.getElem?_eq_some_iff.mp h.hi).1
  refine ⟨?_, ?_⟩
  · rw [srtV_two, dbl_len, dbl_get, show (2 * (srtV A u).length - 1) / 2 / 2 = ((srtV A u).length - 1) / 2 by omega]
    exact h.lo
  · rw [srtV_two, dbl_len, dbl_get, show 2 * (srtV A u).length / 2 / 2 = (srtV A u).length / 2 by omega]
    exact h.hi
theorem fdiv2 (n : Nat) : fdivZ (n : Int) 2 = ((n / 2 : Nat) : Int) := by
  rw [fdivZ_pos (by decide)]
  omega
theorem middle_eq {A : List Pt} {u : Pt} {d : Dt} {st : Sto} (hd : look st d = some (A.map pt)) (hu : Ok 1000 u) (hA : ∀ p ∈ A, Ok 200 p) (h0 : A ≠ []) (hl : A.length < 1000) : ∃ a b, d_middle [d, pt u] st = some (.tup [.int a, .int b], st) ∧ Mid A u a b := by
  obtain ⟨a, b, hm⟩ := mid_ex u h0
  have hlen := (srtV_ok A u).len
  have hp : 0 < A.length := List.length_pos_iff.mpr h0
  have gl : gLen st [d] = some (.int A.length) := by rw [gLen_look hd, List.length_map]
  have ne : ¬ ((A.length : Int) = 0) := by omega
  have lc : dLcL (gtName 3) dYes middle_el1 (fun s => look s d = some (A.map pt)) [some d, some (pt u), none, none] (A.map pt) [] st = some ((A.map (dt u)).map .int, st) := by
    have := lc_map (g := gtName 3) (e := middle_el1) (guard := fun s => look s d = some (A.map pt)) (ev := [some d, some (pt u), none, none]) (f := pt) (h := fun p => Dt.int (dt u p)) (st := st) hd A [] (by simp; omega) (fun p hp => ⟨_, rfl, by simp [middle_el1, value_eq hu (hA p hp)]⟩)
    rw [this, List.map_map]
    rfl
  have so : gSort st [.lst ((A.map (dt u)).map .int)] = some ((srtV A u).map .int) := gSort_ints rfl
  have gl2 : gLen st [.lst ((srtV A u).map .int)] = some (.int A.length) := by rw [gLen_lst, List.length_map, hlen]
  have o2 : okDiv 2 := okDiv_of (by decide) (Bd.lit _ 64 (by decide)) (by decide)
  have i1 : fdivZ ((A.length : Int) - 1) 2 = (((A.length - 1) / 2 : Nat) : Int) := by rw [fdivZ_pos (by decide)]; omega
  have i2 : fdivZ (A.length : Int) 2 = ((A.length / 2 : Nat) : Int) := fdiv2 _
  have x1 : gIx st (.lst ((srtV A u).map .int)) (.int ((A.length - 1) / 2 : Nat)) = some (.int a) := by
    rw [gIx_lst]
    exact atI_nat (by rw [List.getElem?_map, ← hlen, hm.lo]; rfl)
  have x2 : gIx st (.lst ((srtV A u).map .int)) (.int (A.length / 2 : Nat)) = some (.int b) := by
    rw [gIx_lst]
    exact atI_nat (by rw [List.getElem?_map, ← hlen, hm.hi]; rfl)
  refine ⟨a, b, ?_, hm⟩
  generalize hj1 : (A.length - 1) / 2 = j1 at *
  generalize hj2 : A.length / 2 = j2 at *
  simp [-List.map_map, -gIx_lst, -gLen_lst, d_middle, dDef, b_middle, gl, ne, h0, srcOf_look hd, lc, so, gl2, gFdiv_eq o2, i1, i2, x1, x2, finP_same]
/-- of no points -/
theorem middle_empty {u : Pt} {d : Dt} {st : Sto} (hd : look st d = some []) : dx_middle [d, pt u] st = some (.inr ("Empty", st)) := by
  have gl : gLen st [d] = some (.int 0) := by rw [gLen_look hd]; rfl
  simp [dx_middle, dDefX, bx_middle, gl, finP_same]
end My

namespace My
open PySem PySem.Spec PyProof.Rows L2 PD
/-- the middle of odd many sorted values -/
theorem srt_md {A : List Pt} (u : Pt) (h : A.length % 2 = 1) : (srtV A u)[A.length / 2]? = some (md A u) := by
  have ne : A ≠ [] := by intro e; rw [e] at h; simp at h
  obtain ⟨a, b, hm⟩ := mid_ex u ne
  have hl := (srtV_ok A u).len
  have h1 := hm.lo
  have h2 := hm.hi
  rw [hl] at h1 h2
  rw [show (A.length - 1) / 2 = A.length / 2 by omega] at h1
  have hab : a = b := by rw [h1] at h2; exact Option.some.inj h2
  subst hab
  rw [h2, md_eq h (hm.inside (Int.le_refl a) (Int.le_refl a))]
theorem cr_dd (u n d : Pt) : cr u n * dt d d = dt u d * cr d n - dt n d * cr d u := by unfold cr dt; grind
/-- a line lies between two arrows, by its normals -/
def lies (l : Ln) (u v : Pt) : Bool := decide (0 < cr u (nm2 l) ∧ 0 < cr (nm2 l) v) || decide (0 < cr u (-(nm2 l).1, -(nm2 l).2) ∧ 0 < cr (-(nm2 l).1, -(nm2 l).2) v)
theorem lies_opp {l : Ln} {u v d : Pt} (hd : d ≠ (0, 0)) (hn : nm2 l ≠ (0, 0)) (hp : dt (nm2 l) d = 0) : lies l u v = opp u v d := by
  have dd := sq_pos hd
  unfold lies opp
  generalize nm2 l = n at *
  have c1 : cr u (-n.1, -n.2) = -cr u n := by unfold cr; grind
  have c2 : cr (-n.1, -n.2) v = -cr n v := by unfold cr; grind
  have c3 : cr n v = -cr v n := cr_anti v n
  have i1 := cr_dd u n d
  have i2 := cr_dd v n d
  rw [hp, Int.zero_mul, Int.sub_zero] at i1 i2
  have k0 : cr d n ≠ 0 := fun e => by
    rw [e, Int.mul_zero] at i1 i2
    have j := cr_dd (1, 0) n d
    have j2 := cr_dd (0, 1) n d
    rw [hp, Int.zero_mul, Int.sub_zero, e, Int.mul_zero] at j j2
    have q1 : cr (1, 0) n = 0 := (Int.mul_eq_zero.mp j).resolve_right (by omega)
    have q2 : cr (0, 1) n = 0 := (Int.mul_eq_zero.mp j2).resolve_right (by omega)
    apply hn
    unfold cr at q1 q2
    exact Prod.ext (by show n.1 = 0; omega) (by show n.2 = 0; omega)
  rw [c1, c2, c3, ← Bool.decide_or]
  refine decide_eq_decide.mpr ?_
  have pos : ∀ {x y : Int}, x * dt d d = y → (0 < x ↔ 0 < y) ∧ (x < 0 ↔ y < 0) := fun {x y} e => by
    rcases Int.lt_trichotomy x 0 with z | z | z
    · have := Int.mul_neg_of_neg_of_pos z dd
      omega
    · subst z
      rw [Int.zero_mul] at e
      omega
    · have := Int.mul_pos z dd
      omega
  have p1 := pos i1
  have p2 := pos i2
  have sg : ∀ x : Int, (0 < cr d n → (0 < x * cr d n ↔ 0 < x) ∧ (x * cr d n < 0 ↔ x < 0)) ∧ (cr d n < 0 → (0 < x * cr d n ↔ x < 0) ∧ (x * cr d n < 0 ↔ 0 < x)) := fun x => by
    rcases Int.lt_trichotomy x 0 with z | z | z
    · refine ⟨fun k => ?_, fun k => ?_⟩
      · have := Int.mul_neg_of_neg_of_pos z k; omega
      · have := Int.mul_pos_of_neg_of_neg z k; omega
    · subst z
      rw [Int.zero_mul]
      omega
    · refine ⟨fun k => ?_, fun k => ?_⟩
      · have := Int.mul_pos z k; omega
      · have := Int.mul_neg_of_pos_of_neg z k; omega
  have s1 := sg (dt u d)
  have s2 := sg (dt v d)
  rcases Int.lt_or_gt_of_ne k0 with k | k
  · have a1 := s1.2 k
    have a2 := s2.2 k
    omega
  · have a1 := s1.1 k
    have a2 := s2.1 k
    omega
theorem count_lies {A B : List Pt} {R : List Ln} (h : Pln A B) (hR : AllOk A B R) (u v : Pt) : R.countP (fun l => lies l u v) = (zrs A B).countP (fun z => opp u v (sb z.1 z.2)) := by
  rw [(all_perm h hR).countP_eq, List.countP_map]
  refine List.countP_congr fun z hz => ?_
  obtain ⟨m1, m2, _⟩ := ((zrs_ok h).mem z).mp hz
  have ne := h.dis m1 m2
  show lies (thru z.1 z.2) u v = true ↔ _
  rw [lies_opp (sb_ne ne) (nm2_ne (thru_nrm ne)) (thru_perp ne)]
theorem odd_lies {A B : List Pt} {R : List Ln} (h : Pln A B) (hR : AllOk A B R) {u v : Pt} (h0 : 0 ≤ cr u v) (hs : (0 < gp A B u ∧ gp A B v < 0) ∨ (gp A B u < 0 ∧ 0 < gp A B v)) : R.countP (fun l => lies l u v) % 2 = 1 := by
  rw [count_lies h hR]
  exact (par_between h (zrs_ok h) _ u v (Nat.le_refl _) h0 (by omega) (by omega)).mpr hs
theorem all_lies {A B : List Pt} {R : List Ln} (h : Pln A B) (hR : AllOk A B R) {u : Pt} (hu : u ≠ (0, 0)) (hg : gp A B u ≠ 0) : ∀ l ∈ R, lies l u (-u.1, -u.2) = true := fun l hl => by
  obtain ⟨z, hz, rfl⟩ := List.mem_map.mp ((all_perm h hR).mem_iff.mp hl)
  obtain ⟨m1, m2, _⟩ := ((zrs_ok h).mem z).mp hz
  have ne := h.dis m1 m2
  rw [lies_opp (sb_ne ne) (nm2_ne (thru_nrm ne)) (thru_perp ne), opp_neg, decide_eq_true_eq]
  intro q
  have a := at_slope h (zrs_ok h) hu
  rw [if_neg hg] at a
  exact List.countP_eq_zero.mp a z hz (decide_eq_true q)
/-- of a hundred arrows side by side one is no zero -/
theorem first_off {A B : List Pt} (h : Pln A B) (hl : A.length * B.length ≤ 49) (a b : Int) (hb : 0 < b) : ∃ t : Nat, t < 100 ∧ gp A B (a + t, b) ≠ 0 := by
  have hZ := zrs_ok h
  have hz := zrs_len (A := A) (B := B)
  obtain ⟨t, ht, hf⟩ := some_free 100 ((zrs A B).map fun z t => decide (dt (a + (t : Nat), b) (sb z.1 z.2) = 0)) (fun c hc => by
    obtain ⟨z, hz, rfl⟩ := List.mem_map.mp hc
    obtain ⟨m1, m2, _⟩ := (hZ.mem z).mp hz
    have ne := sb_ne (h.dis m1 m2)
    refine count_two 100 _ fun i j k hij hjk ⟨e1, e2, _⟩ => ne ?_
    rw [decide_eq_true_eq] at e1 e2
    generalize sb z.1 z.2 = d at *
    unfold dt at e1 e2
    have e3 : ((j : Int) - i) * d.1 = 0 := by
      have : ((j : Int) - i) * d.1 = ((a + (j : Int)) * d.1 + b * d.2) - ((a + (i : Int)) * d.1 + b * d.2) := by grind
      rw [this]
      have e1' : (a + (i : Int)) * d.1 + b * d.2 = 0 := e1
      have e2' : (a + (j : Int)) * d.1 + b * d.2 = 0 := e2
      omega
    have d1 : d.1 = 0 := (Int.mul_eq_zero.mp e3).resolve_left (by omega)
    have e1' : (a + (i : Int)) * d.1 + b * d.2 = 0 := e1
    rw [d1, Int.mul_zero, Int.zero_add] at e1'
    exact Prod.ext d1 ((Int.mul_eq_zero.mp e1').resolve_left (by omega))) (by rw [List.length_map]; omega)
  refine ⟨t, ht, fun g => ?_⟩
  have a1 := at_slope h hZ (s := (a + (t : Int), b)) (fun e => by
    have : b = 0 := congrArg Prod.snd e
    omega)
  rw [if_pos g] at a1
  have : (zrs A B).countP (fun z => decide (dt (a + (t : Int), b) (sb z.1 z.2) = 0)) = 0 := List.countP_eq_zero.mpr fun z hz q => by
    have r : decide (dt (a + (t : Int), b) (sb z.1 z.2) = 0) = false := hf _ (List.mem_map.mpr ⟨z, hz, rfl⟩)
    rw [r] at q
    cases q
  omega
end My

namespace My
open PySem PySem.Spec PyProof.Rows L2 PD
def hps (A B : List Pt) : Dt := .lst [.lst (A.map pt), .lst (B.map pt)]
theorem law_gap_eq {A B : List Pt} {u : Pt} (hu : Ok 1000 u) (hA : ∀ p ∈ A, Ok 200 p) (hB : ∀ p ∈ B, Ok 200 p) (nA : A.length < 1000) (nB : B.length < 1000) (oA : A.length % 2 = 1) (oB : B.length % 2 = 1) (st : Sto) : d_law_gap [hps A B, pt u] st = some (.int (gp A B u), st) := by
  have o2 : okDiv 2 := okDiv_of (by decide) (Bd.lit _ 64 (by decide)) (by decide)
  -- one heap
  have one : ∀ (H : List Pt) (ds : List Dt) (z4 : Option Dt), (∀ p ∈ H, Ok 200 p) → H.length < 1000 → H.length % 2 = 1 → ds.length < 1000 →
      law_gap_for1 [some (hps A B), some (pt u), some (.ptr st.length), some (.lst (H.map pt)), z4, none, none] (st ++ [.lst ds]) = some (.nx [some (hps A B), some (pt u), some (.ptr st.length), some (.lst (H.map pt)), some (.lst ((srtV H u).map .int)), none, none] (st ++ [.lst (ds ++ [.int (md H u)])])) := fun H ds z4 hH nH oH hds => by
    have m1 : ∀ q ∈ H, okMul u.1 q.1 := fun q hq => okMul_of hu.x (hH q hq).x (by decide) (by decide)
    have m2 : ∀ q ∈ H, okMul u.2 q.2 := fun q hq => okMul_of hu.y (hH q hq).y (by decide) (by decide)
    have l0 : dLcL (gtTup 2 (gsCons (gtName 5) (gsCons (gtName 6) gsNil))) dYes law_gap_el1 (fun _ => True) [some (hps A B), some (pt u), some (.ptr st.length), some (.lst (H.map pt)), z4, none, none] (H.map pt) [] (st ++ [.lst ds]) = some ((H.map (dt u)).map .int, st ++ [.lst ds]) := by
      have := lc_map (g := gtTup 2 (gsCons (gtName 5) (gsCons (gtName 6) gsNil))) (e := law_gap_el1) (guard := fun _ => True) (ev := [some (hps A B), some (pt u), some (.ptr st.length), some (.lst (H.map pt)), z4, none, none]) (f := pt) (h := fun p => Dt.int (dt u p)) (st := st ++ [.lst ds]) trivial H [] (by simp; omega) (fun p hp => ⟨[some (hps A B), some (pt u), some (.ptr st.length), some (.lst (H.map pt)), z4, some (.int p.1), some (.int p.2)], by simp [pt], by simp [law_gap_el1, gMul_eq (m1 p hp), gMul_eq (m2 p hp), dt]⟩)
      rw [this, List.map_map]
      rfl
    have so : gSort (st ++ [.lst ds]) [.lst ((H.map (dt u)).map .int)] = some ((srtV H u).map .int) := gSort_ints rfl
    have hlen := (srtV_ok H u).len
    have gl : gLen (st ++ [.lst ds]) [.lst ((srtV H u).map .int)] = some (.int H.length) := by rw [gLen_lst, List.length_map, hlen]
    have i2 : fdivZ (H.length : Int) 2 = ((H.length / 2 : Nat) : Int) := fdiv2 _
    have x2 : gIx (st ++ [.lst ds]) (.lst ((srtV H u).map .int)) (.int (H.length / 2 : Nat)) = some (.int (md H u)) := by
      rw [gIx_lst]
      exact atI_nat (by rw [List.getElem?_map, srt_md u oH]; rfl)
    have gt : (st ++ [MO.lst ds])[st.length]? = some (.lst ds) := get_last
    have ap : gAppend (st ++ [.lst ds]) ds [.int (md H u)] = some (.non, ds ++ [.int (md H u)]) := gAppend_eq (by omega)
    have se : (st ++ [MO.lst ds]).set st.length (MO.lst (ds ++ [.int (md H u)])) = st ++ [MO.lst (ds ++ [.int (md H u)])] := by
      rw [List.set_append_right _ _ (Nat.le_refl _), Nat.sub_self]; rfl
    generalize hj2 : H.length / 2 = j2 at *
    generalize hV : (H.map (dt u)).map Dt.int = V at *
    generalize hW : (srtV H u).map Dt.int = W at *
    generalize hps A B = D at *
    simp [law_gap_for1, l0, so, gl, gFdiv_eq o2, i2, x2, gt, ap, se, -gLen_lst, -gIx_lst]
  have f1 := one A [] none hA nA oA (by decide)
  have f2 := one B [.int (md A u)] (some (.lst ((srtV A u).map .int))) hB nB oB (by simp)
  rw [List.nil_append] at f1
  have src : ∀ s, srcOf s (hps A B) = some ⟨[.lst (A.map pt), .lst (B.map pt)], fun _ => True⟩ := fun s => by
    unfold hps
    rw [srcOf_look (show look s (.lst [.lst (A.map pt), .lst (B.map pt)]) = some [.lst (A.map pt), .lst (B.map pt)] from rfl)]
    simp [srcL]
  have lk : look (st ++ [MO.lst [.int (md A u), .int (md B u)]]) (.ptr st.length) = some [.int (md A u), .int (md B u)] := look_ptr get_last
  have x0 : gIx (st ++ [MO.lst [.int (md A u), .int (md B u)]]) (.ptr st.length) (.int 0) = some (.int (md A u)) := by rw [gIx_look lk]; rfl
  have x1 : gIx (st ++ [MO.lst [.int (md A u), .int (md B u)]]) (.ptr st.length) (.int 1) = some (.int (md B u)) := by rw [gIx_look lk]; rfl
  have ff : finP st (.int (md A u - md B u)) (st ++ [MO.lst [.int (md A u), .int (md B u)]]) = some (.int (md A u - md B u), st) := by
    have ok : okSto st (st ++ [MO.lst [.int (md A u), .int (md B u)]]) := ⟨by rw [List.length_append]; omega, fun k hk => by rw [List.getElem?_append_left hk]; exact .inl rfl⟩
    simp [finP, ok, rsv_low]
  generalize hps A B = D at *
  have lp : dForL (gtName 3) law_gap_for1 (fun _ => True) [.lst (A.map pt), .lst (B.map pt)] [some D, some (pt u), some (.ptr st.length), none, none, none, none] (st ++ [.lst []]) = some (.nx [some D, some (pt u), some (.ptr st.length), some (.lst (B.map pt)), some (.lst ((srtV B u).map .int)), none, none] (st ++ [MO.lst [.int (md A u), .int (md B u)]])) := by
    rw [dForL_cons]
    simp only [gtName_eq, Option.bind_some, List.set, f1]
    rw [dForL_cons]
    simp only [gtName_eq, Option.bind_some, List.set, f2, dForL_nil]
    try rfl
  generalize A.map pt = a at *
  generalize B.map pt = b at *
  unfold gp
  simp [d_law_gap, dDef, b_law_gap, gLstD, src, lp, x0, x1, ff]
theorem across_eq {u v : Pt} (hu : Ok 1000 u) (hv : Ok 1000 v) (st : Sto) : d_law_across [pt u, pt v] st = some (.int (cr u v), st) := by
  have m1 : okMul u.1 v.2 := okMul_of hu.x hv.y (by decide) (by decide)
  have m2 : okMul u.2 v.1 := okMul_of hu.y hv.x (by decide) (by decide)
  simp [d_law_across, dDef, b_law_across, gMul_eq m1, gMul_eq m2, cr, finP_same]
theorem lies_eq {l : Ln} {u v : Pt} (hl : OkL 1000 l) (hu : Ok 1000 u) (hv : Ok 1000 v) (st : Sto) : d_law_lies [tri l, pt u, pt v] st = some (.bl (lies l u v), st) := by
  have on : Ok 1000 (nm2 l) := ⟨hl.a, hl.b⟩
  have om : Ok 1000 (-(nm2 l).1, -(nm2 l).2) := ⟨hl.a.neg, hl.b.neg⟩
  have a1 := across_eq hu on st
  have a2 := across_eq on hv st
  have a3 := across_eq hu om st
  have a4 := across_eq om hv st
  have p1 : pt (nm2 l) = .tup [.int l.1, .int l.2.1] := rfl
  have p2 : pt (-(nm2 l).1, -(nm2 l).2) = .tup [.int (-l.1), .int (-l.2.1)] := rfl
  have body : ∀ (w : Pt) (c1 c2 : Int), d_law_across [pt u, pt w] st = some (.int c1, st) → d_law_across [pt w, pt v] st = some (.int c2, st) → law_lies_for1 [some (tri l), some (pt u), some (pt v), some (pt w)] st = some (if 0 < c1 ∧ 0 < c2 then .rt (.bl true) st else .nx [some (tri l), some (pt u), some (pt v), some (pt w)] st) := fun w c1 c2 h1 h2 => by
    by_cases k1 : 0 < c1
    · by_cases k2 : 0 < c2
      · simp [law_lies_for1, h1, h2, k1, k2]
      · simp [law_lies_for1, h1, h2, k1, k2]
    · simp [law_lies_for1, h1, k1]
  have b1 := body _ _ _ a1 a2
  have b2 := body _ _ _ a3 a4
  unfold lies
  generalize cr u (nm2 l) = c1 at *
  generalize cr (nm2 l) v = c2 at *
  generalize cr u (-(nm2 l).1, -(nm2 l).2) = c3 at *
  generalize cr (-(nm2 l).1, -(nm2 l).2) v = c4 at *
  rw [p1] at b1
  rw [p2] at b2
  by_cases h1 : 0 < c1 ∧ 0 < c2
  · rw [if_pos h1] at b1
    have lp : dForL (gtName 3) law_lies_for1 (fun _ => True) [.tup [.int l.1, .int l.2.1], .tup [.int (-l.1), .int (-l.2.1)]] [some (tri l), some (pt u), some (pt v), none] st = some (.rt (.bl true) st) := by
      rw [dForL_cons]
      simp only [gtName_eq, Option.bind_some, List.set, b1]
    simp [d_law_lies, dDef, b_law_lies, lp, h1, finP_same]
  · rw [if_neg h1] at b1
    by_cases h2 : 0 < c3 ∧ 0 < c4
    · rw [if_pos h2] at b2
      have lp : dForL (gtName 3) law_lies_for1 (fun _ => True) [.tup [.int l.1, .int l.2.1], .tup [.int (-l.1), .int (-l.2.1)]] [some (tri l), some (pt u), some (pt v), none] st = some (.rt (.bl true) st) := by
        rw [dForL_cons]
        simp only [gtName_eq, Option.bind_some, List.set, b1]
        rw [dForL_cons]
        simp only [gtName_eq, Option.bind_some, List.set, b2]
      simp [d_law_lies, dDef, b_law_lies, lp, h2, finP_same]
    · rw [if_neg h2] at b2
      have lp : dForL (gtName 3) law_lies_for1 (fun _ => True) [.tup [.int l.1, .int l.2.1], .tup [.int (-l.1), .int (-l.2.1)]] [some (tri l), some (pt u), some (pt v), none] st = some (.nx [some (tri l), some (pt u), some (pt v), some (.tup [.int (-l.1), .int (-l.2.1)])] st) := by
        rw [dForL_cons]
        simp only [gtName_eq, Option.bind_some, List.set, b1]
        rw [dForL_cons]
        simp only [gtName_eq, Option.bind_some, List.set, b2, dForL_nil]
        try rfl
      have e1 : decide (0 < c1 ∧ 0 < c2) = false := decide_eq_false h1
      have e2 : decide (0 < c3 ∧ 0 < c4) = false := decide_eq_false h2
      rw [e1, e2]
      simp [d_law_lies, dDef, b_law_lies, lp, finP_same]
theorem odd_between_eq {R : List Ln} {d : Dt} {u v : Pt} {st : Sto} (hd : look st d = some (R.map tri)) (hR : ∀ l ∈ R, OkL 1000 l) (hl : R.length < 1000) (hu : Ok 1000 u) (hv : Ok 1000 v) (ho : R.countP (fun l => lies l u v) % 2 = 1) :
    d_law_odd_between [d, pt u, pt v] st = some (.bl true, st) := by
  have lc : dLcL (gtName 3) law_odd_between_if1 law_odd_between_el1 (fun s => look s d = some (R.map tri)) [some d, some (pt u), some (pt v), none] (R.map tri) [] st = some ((R.filter fun l => lies l u v).map tri, st) :=
    My.lc_filter (g := gtName 3) (guard := fun s => look s d = some (R.map tri)) (f := tri) (h := tri) (p := fun l => lies l u v) hd R [] (by rw [List.length_nil]; omega) fun l hl => ⟨_, rfl, by simp [law_odd_between_if1, lies_eq (hR l hl) hu hv], fun _ => by simp [law_odd_between_el1]⟩
  have gl : gLen st [.lst ((R.filter fun l => lies l u v).map tri)] = some (.int (R.countP (fun l => lies l u v) : Nat)) := by
    rw [gLen_lst, List.length_map, ← List.countP_eq_length_filter]
  have gm := gMod_eq (st := st) (i := (R.countP (fun l => lies l u v) : Nat)) (show (0 : Int) < 2 by decide)
  have ho' : ((R.countP (fun l => lies l u v) : Nat) : Int) % 2 = 1 := by omega
  have sr := srcOf_look hd
  generalize hF : (R.filter fun l => lies l u v).map tri = F at *
  generalize R.countP (fun l => lies l u v) = n at *
  simp [d_law_odd_between, dDef, b_law_odd_between, sr, srcL, lc, gl, gm, ho', finP_same, -gLen_lst]
end My

namespace My
open PySem PySem.Spec PyProof.Rows L2 PD
theorem law_first_spec {st : Sto} {p : Nat} (h : Pot st p) {A B : List Pt} (hP : Pln A B) (hA : ∀ p ∈ A, Ok 200 p) (hB : ∀ p ∈ B, Ok 200 p) (nA : A.length ≤ 7) (nB : B.length ≤ 7) :
    ∃ (u : Pt) (s' : Sto), d_law_first [.ptr p, hps A B] st = some (pt u, s') ∧ Drew st p s' ∧ u ≠ (0, 0) ∧ u.1.natAbs ≤ 200 ∧ u.2.natAbs ≤ 200 ∧ gp A B u ≠ 0 := by
  obtain ⟨a, s1, e1, d1, a0, a1⟩ := take_spec h (n := 19) (by decide) (Bd.lit _ 200 (by decide))
  obtain ⟨b, s2, e2, d2, b0, b1⟩ := take_spec (d1.pot h) (n := 9) (by decide) (Bd.lit _ 200 (by decide))
  have d12 := d1.trans d2
  obtain ⟨t0, ht0, hg0⟩ := first_off hP (Nat.le_trans (Nat.mul_le_mul nA nB) (by decide)) (a - 9) (1 + b) (by omega)
  have gap : ∀ t : Nat, t ≤ 100 → ∀ s, d_law_gap [hps A B, .tup [.int (a - 9 + t), .int (1 + b)]] s = some (.int (gp A B (a - 9 + t, 1 + b)), s) := fun t ht s => by
    have ou : Ok 1000 (a - 9 + (t : Int), 1 + b) := ⟨(Bd.om (i := a - 9 + (t : Int)) (by omega)).mono (by decide), (Bd.om (i := 1 + b) (by omega)).mono (by decide)⟩
    exact law_gap_eq ou hA hB (by omega) (by omega) hP.oA hP.oB s
  generalize hps A B = D at *
  obtain ⟨ev3, s3, e3, ⟨t, ht, rfl, hF⟩, rfl⟩ := while_inv (c := law_first_wc1) (b := law_first_wb1) (I := fun ev s' => (∃ t : Nat, t ≤ t0 ∧ ev = [some (.ptr p), some D, some (.tup [.int (a - 9 + t), .int (1 + b)])]) ∧ s' = s2)
    (μ := fun ev _ => match ev with
      | [_, _, some (.tup [.int y, _])] => (a - 9 + t0 - y).toNat
      | _ => 0) (Q := fun ev s' => (∃ t : Nat, t ≤ t0 ∧ ev = [some (.ptr p), some D, some (.tup [.int (a - 9 + t), .int (1 + b)])] ∧ gp A B (a - 9 + t, 1 + b) ≠ 0) ∧ s' = s2) (by
      rintro ev s' ⟨⟨t, ht, rfl⟩, rfl⟩
      have g := gap t (by omega) s'
      by_cases hF : gp A B (a - 9 + t, 1 + b) = 0
      · rw [hF] at g
        have hne : t ≠ t0 := fun z => hg0 (by rw [← z]; exact hF)
        refine .inl ⟨s', [some (.ptr p), some D, some (.tup [.int (a - 9 + (t + 1 : Nat)), .int (1 + b)])], s', by simp [law_first_wc1, g], ?_, ⟨⟨t + 1, by omega, rfl⟩, rfl⟩, ?_⟩
        · have : a - 9 + ((t + 1 : Nat) : Int) = a - 9 + (t : Int) + 1 := by omega
          rw [this]
          simp [law_first_wb1]
        · show ((a - 9 + (t0 : Int)) - (a - 9 + ((t + 1 : Nat) : Int))).toNat < ((a - 9 + (t0 : Int)) - (a - 9 + (t : Int))).toNat
          omega
      · exact .inr ⟨s', by simp [law_first_wc1, g, hF], ⟨t, ht, rfl, hF⟩, rfl⟩) FU [some (.ptr p), some D, some (.tup [.int (a - 9 + (0 : Nat)), .int (1 + b)])] s2 ⟨⟨0, Nat.zero_le _, rfl⟩, rfl⟩ (by
      show ((a - 9 + (t0 : Int)) - (a - 9 + ((0 : Nat) : Int))).toNat < FU
      have := FU_big (i := 400) (Bd.lit _ 64 (by decide)) (by decide)
      have e4 : (400 : Int).natAbs = 400 := rfl
      omega)
  have z0 : a - 9 + ((0 : Nat) : Int) = a - 9 := by omega
  rw [z0] at e3
  have ff := d12.fin (d := .tup [.int (a - 9 + t), .int (1 + b)]) (by simp)
  refine ⟨(a - 9 + t, 1 + b), s3, ?_, d12, fun e => ?_, by simp only; omega, by simp only; omega, hF⟩
  · show _ = some (Dt.tup [.int (a - 9 + t), .int (1 + b)], s3)
    simp [d_law_first, dDef, b_law_first, e1, e2, dWhile_eq, e3, ff]
  · have : 1 + b = 0 := congrArg Prod.snd e
    omega
def mx (u : Pt) (M : Nat) : Prop := u.1.natAbs ≤ M ∧ u.2.natAbs ≤ M
theorem comb_mx {u v : Pt} {M : Nat} (hu : mx u M) (hv : mx v M) {p q : Int} (hp : 1 ≤ p ∧ p ≤ 5) (hq : 1 ≤ q ∧ q ≤ 5) : mx (p * u.1 + q * v.1, p * u.2 + q * v.2) (10 * M) := by
  obtain ⟨a1, a2⟩ := hu
  obtain ⟨b1, b2⟩ := hv
  have hp' : p = 1 ∨ p = 2 ∨ p = 3 ∨ p = 4 ∨ p = 5 := by omega
  have hq' : q = 1 ∨ q = 2 ∨ q = 3 ∨ q = 4 ∨ q = 5 := by omega
  constructor <;> simp only <;> rcases hp' with rfl | rfl | rfl | rfl | rfl <;> rcases hq' with rfl | rfl | rfl | rfl | rfl <;> omega
theorem mx_ok {u : Pt} {M : Nat} (h : mx u M) (hM : M ≤ 1000000000000) : Ok 200 u := ⟨(Bd.om (i := u.1) (by have := h.1; omega)).mono (by decide), (Bd.om (i := u.2) (by have := h.2; omega)).mono (by decide)⟩
theorem law_next_spec {st : Sto} {p : Nat} (h : Pot st p) {u v : Pt} {M : Nat} (hM : M ≤ 100000000000) (hu : mx u M) (hv : mx v M) (u0 : u ≠ (0, 0)) (hc : 0 < cr u v ∨ v = (-u.1, -u.2)) :
    ∃ (w : Pt) (s' : Sto), d_law_next [.ptr p, pt u, pt v] st = some (pt w, s') ∧ Drew st p s' ∧ mx w (10 * M) ∧ 0 < cr u w ∧ 0 < cr w v := by
  have ou := mx_ok hu (by omega)
  have ov := mx_ok hv (by omega)
  have ac := across_eq (u := u) (v := v) ⟨ou.x.mono (by decide), ou.y.mono (by decide)⟩ ⟨ov.x.mono (by decide), ov.y.mono (by decide)⟩ st
  have okm : ∀ {i x : Int}, 1 ≤ i ∧ i ≤ 5 → Bd 200 x → okMul i x := fun {i x} hi hx => okMul_of (Bd.om (i := i) (by omega)) hx (by decide) (by decide)
  by_cases c0 : cr u v = 0
  · have hv' : v = (-u.1, -u.2) := hc.resolve_left (by omega)
    rw [c0] at ac
    obtain ⟨t, s1, e1, d1, t0, t1⟩ := take_spec h (n := 2) (by decide) (Bd.lit _ 200 (by decide))
    obtain ⟨a, s2, e2, d2, a0, a1⟩ := take_spec (d1.pot h) (n := 5) (by decide) (Bd.lit _ 200 (by decide))
    have d12 := d1.trans d2
    obtain ⟨b, s3, e3, d3, b0, b1⟩ := take_spec (d12.pot h) (n := 5) (by decide) (Bd.lit _ 200 (by decide))
    have d13 := d12.trans d3
    have hp : 1 ≤ 1 + a ∧ 1 + a ≤ 5 := by omega
    have hq : 1 ≤ 1 + b ∧ 1 + b ≤ 5 := by omega
    have hperp : mx (-u.2, u.1) M := ⟨by have := hu.2; simp only; omega, hu.1⟩
    have sq := sq_pos u0
    have ht : t = 0 ∨ t = 1 := by omega
    have key : ∀ (u' : Pt), cr u u' = 0 → mx u' M → let w : Pt := ((1 + a) * u'.1 + (1 + b) * -u.2, (1 + a) * u'.2 + (1 + b) * u.1); mx w (10 * M) ∧ 0 < cr u w ∧ 0 < cr w v := fun u' hu' hm => by
      have e : cr u ((1 + a) * u'.1 + (1 + b) * -u.2, (1 + a) * u'.2 + (1 + b) * u.1) = (1 + a) * cr u u' + (1 + b) * dt u u := by unfold cr dt; grind
      rw [hu', Int.mul_zero, Int.zero_add] at e
      have pos := Int.mul_pos (show 0 < 1 + b by omega) sq
      refine ⟨comb_mx hm hperp hp hq, by rw [e]; exact pos, ?_⟩
      have e2 : cr ((1 + a) * u'.1 + (1 + b) * -u.2, (1 + a) * u'.2 + (1 + b) * u.1) v = cr u ((1 + a) * u'.1 + (1 + b) * -u.2, (1 + a) * u'.2 + (1 + b) * u.1) := by rw [hv']; unfold cr; grind
      rw [e2, e]
      exact pos
    have pu : pt u = .tup [.int u.1, .int u.2] := rfl
    rcases ht with rfl | rfl
    · have k := key u (cr_self u) hu
      have ff := d13.fin (d := .tup [.int ((1 + a) * u.1 + (1 + b) * -u.2), .int ((1 + a) * u.2 + (1 + b) * u.1)]) (by simp)
      refine ⟨_, s3, ?_, d13, k⟩
      show _ = some (Dt.tup [.int ((1 + a) * u.1 + (1 + b) * -u.2), .int ((1 + a) * u.2 + (1 + b) * u.1)], s3)
      simp [d_law_next, dDef, b_law_next, ac, e1, e2, e3, gMul_eq (okm hp ou.x), gMul_eq (okm hp ou.y), gMul_eq (okm hq ou.y.neg), gMul_eq (okm hq ou.x), ff, -Int.mul_neg]
    · have k := key (-u.1, -u.2) (by unfold cr; grind) ⟨by have := hu.1; simp only; omega, by have := hu.2; simp only; omega⟩
      have ff := d13.fin (d := .tup [.int ((1 + a) * -u.1 + (1 + b) * -u.2), .int ((1 + a) * -u.2 + (1 + b) * u.1)]) (by simp)
      refine ⟨_, s3, ?_, d13, k⟩
      show _ = some (Dt.tup [.int ((1 + a) * -u.1 + (1 + b) * -u.2), .int ((1 + a) * -u.2 + (1 + b) * u.1)], s3)
      simp [d_law_next, dDef, b_law_next, ac, e1, e2, e3, gMul_eq (okm hp ou.x.neg), gMul_eq (okm hp ou.y.neg), gMul_eq (okm hq ou.y.neg), gMul_eq (okm hq ou.x), ff, -Int.mul_neg]
  · have cp : 0 < cr u v := hc.elim id fun e => absurd (by rw [e]; unfold cr; grind) c0
    obtain ⟨a, s2, e2, d2, a0, a1⟩ := take_spec h (n := 5) (by decide) (Bd.lit _ 200 (by decide))
    obtain ⟨b, s3, e3, d3, b0, b1⟩ := take_spec (d2.pot h) (n := 5) (by decide) (Bd.lit _ 200 (by decide))
    have d13 := d2.trans d3
    have hp : 1 ≤ 1 + a ∧ 1 + a ≤ 5 := by omega
    have hq : 1 ≤ 1 + b ∧ 1 + b ≤ 5 := by omega
    have ff := d13.fin (d := .tup [.int ((1 + a) * u.1 + (1 + b) * v.1), .int ((1 + a) * u.2 + (1 + b) * v.2)]) (by simp)
    refine ⟨((1 + a) * u.1 + (1 + b) * v.1, (1 + a) * u.2 + (1 + b) * v.2), s3, ?_, d13, comb_mx hu hv hp hq, ?_, ?_⟩
    · show _ = some (Dt.tup [.int ((1 + a) * u.1 + (1 + b) * v.1), .int ((1 + a) * u.2 + (1 + b) * v.2)], s3)
      simp [d_law_next, dDef, b_law_next, ac, c0, e2, e3, gMul_eq (okm hp ou.x), gMul_eq (okm hp ou.y), gMul_eq (okm hq ov.y), gMul_eq (okm hq ov.x), ff]
    · have e : cr u ((1 + a) * u.1 + (1 + b) * v.1, (1 + a) * u.2 + (1 + b) * v.2) = (1 + b) * cr u v := by unfold cr; grind
      rw [e]
      exact Int.mul_pos (by omega) cp
    · have e : cr ((1 + a) * u.1 + (1 + b) * v.1, (1 + a) * u.2 + (1 + b) * v.2) v = (1 + a) * cr u v := by unfold cr; grind
      rw [e]
      exact Int.mul_pos (by omega) cp
end My

namespace My
open PySem PySem.Spec PyProof.Rows L2 PD
theorem md_bd {A : List Pt} {u : Pt} (oA : A.length % 2 = 1) (hu : Ok 200 u) (hA : ∀ p ∈ A, Ok 200 p) : Bd 401 (md A u) := by
  obtain ⟨x, hx, e⟩ := Hv_mem oA (md_hv u oA)
  rw [← e]
  exact ((hu.x.mul (hA x hx).x).add (hu.y.mul (hA x hx).y)).mono (by decide)
theorem gp_bd {A B : List Pt} {u : Pt} (h : Pln A B) (hu : Ok 200 u) (hA : ∀ p ∈ A, Ok 200 p) (hB : ∀ p ∈ B, Ok 200 p) : Bd 402 (gp A B u) := ((md_bd h.oA hu hA).sub (md_bd h.oB hu hB)).mono (by decide)
theorem mx_mono {u : Pt} {M N : Nat} (h : mx u M) (hMN : M ≤ N) : mx u N := ⟨Nat.le_trans h.1 hMN, Nat.le_trans h.2 hMN⟩
structure Stt (A B : List Pt) (i : Nat) (u v : Pt) : Prop where
  u0 : u ≠ (0, 0)
  mu : mx u (200 * 10 ^ i)
  mv : mx v (200 * 10 ^ i)
  cone : 0 < cr u v ∨ v = (-u.1, -u.2)
  sg : (0 < gp A B u ∧ gp A B v < 0) ∨ (gp A B u < 0 ∧ 0 < gp A B v)
theorem round_eq {A B : List Pt} {R : List Ln} {st : Sto} {p q i : Nat} {z7 z8 z9 z10 sc kk : Option Dt} {u v : Pt} (h : Pot st p) (hq : q ≠ p) (lk : look st (.ptr q) = some (R.map tri)) (hP : Pln A B) (hR : AllOk A B R) (hRl : R.length < 1000) (hA : ∀ p ∈ A, Ok 200 p) (hB : ∀ p ∈ B, Ok 200 p) (nA : A.length ≤ 7) (nB : B.length ≤ 7) (hi : i < 7) (S : Stt A B i u v) :
    ∃ (u' v' : Pt) (st' : Sto) (z8' z9' : Option Dt), law_for1 [sc, kk, some (.ptr p), some (hps A B), some (.ptr q), some (pt u), some (pt v), z7, z8, z9, z10] st = some (.nx [sc, kk, some (.ptr p), some (hps A B), some (.ptr q), some (pt u'), some (pt v'), z7, z8', z9', z10] st') ∧ Drew st p st' ∧ Stt A B (i + 1) u' v' := by
  have hM : 200 * 10 ^ i ≤ 2000000000 := by
    have : 10 ^ i ≤ 10 ^ 7 := Nat.pow_le_pow_right (by decide) (by omega)
    omega
  have hM10 : 200 * 10 ^ (i + 1) = 10 * (200 * 10 ^ i) := by rw [Nat.pow_succ]; omega
  have ou := mx_ok S.mu (by omega)
  have ov := mx_ok S.mv (by omega)
  have w1000 : ∀ {x : Pt}, Ok 200 x → Ok 1000 x := fun h => ⟨h.x.mono (by decide), h.y.mono (by decide)⟩
  have c0 : 0 ≤ cr u v := by
    rcases S.cone with c | c
    · omega
    · rw [c]; unfold cr; rw [Int.mul_neg, Int.mul_neg, Int.mul_comm]; omega
  have ob := odd_between_eq (u := u) (v := v) lk (fun l hl => (hR.good.nrm l hl).2) hRl (w1000 ou) (w1000 ov) (odd_lies hP hR c0 S.sg)
  obtain ⟨w, s1, e1, d1, mw, cw1, cw2⟩ := law_next_spec h (by omega) S.mu S.mv S.u0 S.cone
  have ow := mx_ok mw (by omega)
  have g1 := law_gap_eq (w1000 ow) hA hB (by omega) (by omega) hP.oA hP.oB s1
  have g2 := law_gap_eq (w1000 ou) hA hB (by omega) (by omega) hP.oA hP.oB s1
  have mm : okMul (gp A B w) (gp A B u) := okMul_of (gp_bd hP ow hA hB) (gp_bd hP ou hA hB) (by decide) (by decide)
  have w0 : w ≠ (0, 0) := fun e => by
    rw [e] at cw1
    unfold cr at cw1
    simp at cw1
  have sg := S.sg
  have neg : gp A B w * gp A B u < 0 ↔ ((0 < gp A B w ∧ gp A B u < 0) ∨ (gp A B w < 0 ∧ 0 < gp A B u)) := by
    generalize gp A B w = x
    generalize gp A B u = y
    constructor
    · intro z
      rcases Int.lt_trichotomy x 0 with a | a | a
      · rcases Int.lt_trichotomy y 0 with b | b | b
        · have := Int.mul_pos_of_neg_of_neg a b; omega
        · subst b; simp at z
        · exact .inr ⟨a, b⟩
      · subst a; simp at z
      · rcases Int.lt_trichotomy y 0 with b | b | b
        · exact .inl ⟨a, b⟩
        · subst b; simp at z
        · have := Int.mul_pos a b; omega
    · rintro (⟨a, b⟩ | ⟨a, b⟩)
      · exact Int.mul_neg_of_pos_of_neg a b
      · exact Int.mul_neg_of_neg_of_pos a b
  have mu' := mx_mono S.mu (show 200 * 10 ^ i ≤ 200 * 10 ^ (i + 1) by omega)
  have mv' := mx_mono S.mv (show 200 * 10 ^ i ≤ 200 * 10 ^ (i + 1) by omega)
  rw [← hM10] at mw
  have cone := S.cone
  have u0 := S.u0
  generalize hps A B = D at *
  by_cases h1 : gp A B w * gp A B u < 0
  · refine ⟨u, w, s1, some (pt w), some (.int (gp A B w)), ?_, d1, ⟨u0, mu', mw, .inl cw1, ?_⟩⟩
    · generalize gp A B w = x at *
      generalize gp A B u = y at *
      simp [law_for1, ob, e1, g1, g2, gMul_eq mm, h1]
    · have := neg.mp h1
      omega
  · have h2 := fun z => h1 (neg.mpr z)
    by_cases h3 : gp A B w = 0
    · refine ⟨u, v, s1, some (pt w), some (.int (gp A B w)), ?_, d1, ⟨u0, mu', mv', cone, sg⟩⟩
      generalize gp A B w = x at *
      generalize gp A B u = y at *
      subst h3
      simp [law_for1, ob, e1, g1, g2, gMul_eq mm]
    · refine ⟨w, v, s1, some (pt w), some (.int (gp A B w)), ?_, d1, ⟨w0, mw, mv', .inl cw2, by omega⟩⟩
      generalize gp A B w = x at *
      generalize gp A B u = y at *
      simp [law_for1, ob, e1, g1, g2, gMul_eq mm, h1, h3]
theorem law_true (ns : List Int) (hns : ns.length ≤ 63) : ∃ st', d_law [.scr ns] [] = some (.bl true, st') := by
  have hm : maxZ 1 (minZ ns.length 3) ≤ 3 := by
    unfold maxZ minZ
    split <;> split <;> omega
  have hm2 : -4611686018427387904 ≤ maxZ 1 (minZ ns.length 3) ∧ maxZ 1 (minZ ns.length 3) < 4611686018427387904 := by
    unfold maxZ minZ
    split <;> split <;> omega
  generalize hn : maxZ 1 (minZ ns.length 3) = n at hm hm2
  obtain ⟨ev2, st2, e, z1, z2, z3, z4, z5, z6, z7, z8, z9, z10, rfl⟩ := forL_all (g := gtName 1) (b := law_for2) (guard := fun _ => True) (items := rngD 0 n)
    (fun i ev s => ∃ z1 z2 z3 z4 z5 z6 z7 z8 z9 z10, ev = [some (.scr ns), z1, z2, z3, z4, z5, z6, z7, z8, z9, z10]) (ev := [some (.scr ns), none, none, none, none, none, none, none, none, none, none]) (st := []) ⟨_, _, _, _, _, _, _, _, _, _, rfl⟩ (fun _ _ _ _ => trivial) (by
      rintro i d ev s hi ⟨z1, z2, z3, z4, z5, z6, z7, z8, z9, z10, rfl⟩
      obtain ⟨rfl, hi4⟩ := rng_get hi
      rw [Int.zero_add]
      obtain ⟨a, b, e1, hb0, hb1⟩ := pot_spec ns i (by omega) s
      have hp0 : Pot (s ++ [potO a b]) s.length := ⟨a, b, get_last, hb0, hb1⟩
      obtain ⟨A, B, s2, e2, d2, oA, oB, lA, lB, hP, hin⟩ := odd_heaps_spec hp0
      have okA : ∀ q ∈ A, Ok 200 q := fun q hq => (hin q (List.mem_append_left _ hq)).ok
      have okB : ∀ q ∈ B, Ok 200 q := fun q hq => (hin q (List.mem_append_right _ hq)).ok
      obtain ⟨R, eR, hR⟩ := all_lines_eq (A := A) (B := B) (d := .lst (A.map pt)) (e := .lst (B.map pt)) (st := s2) rfl rfl okA okB (by omega)
      have hPl := pln_of (plainM_I.mpr (plainI_P.mpr hP)) oA oB
      obtain ⟨_, hle⟩ := all_odd hPl hR
      have hle2 : R.length ≤ 49 := Nat.le_trans hle (Nat.le_trans (Nat.mul_le_mul lA lB) (by decide))
      have gt : (s2 ++ [MO.lst (R.map tri)])[s2.length]? = some (.lst (R.map tri)) := get_last
      have hp2 := d2.pot hp0
      have hp3 : Pot (s2 ++ [MO.lst (R.map tri)]) s.length := hp2.app
      have hqp : s2.length ≠ s.length := by have := hp2.lt; omega
      generalize hs3 : s2 ++ [MO.lst (R.map tri)] = s3 at *
      generalize s2.length = q at *
      generalize s.length = p at *
      have lk3 : look s3 (.ptr q) = some (R.map tri) := look_ptr gt
      obtain ⟨u, s4, e4, d4, u0, m1, m2, gu⟩ := law_first_spec hp3 hPl okA okB lA lB
      have nq : Dt.ptr q ≠ .ptr p := fun z => hqp (by cases z; rfl)
      have lk := d4.look lk3 nq
      have hp4 := d4.pot hp3
      have i0 : ∀ s, gIx s (hps A B) (.int 0) = some (.lst (A.map pt)) := fun s => by simp [hps]
      have i1 : ∀ s, gIx s (hps A B) (.int 1) = some (.lst (B.map pt)) := fun s => by simp [hps]
      have fold : Dt.lst [.lst (A.map pt), .lst (B.map pt)] = hps A B := rfl
      rw [fold] at e2
      have ou := mx_ok (M := 200) ⟨m1, m2⟩ (by decide)
      have al := gAll_true (st := s4) R
      have pn : pt (-u.1, -u.2) = .tup [.int (-u.1), .int (-u.2)] := rfl
      have sr := srcOf_look lk
      have lc1 : dLcL (gtName 10) dYes law_el1 (fun s => look s (.ptr q) = some (R.map tri)) [some (.scr ns), some (.int (i : Int)), some (.ptr p), some (hps A B), some (.ptr q), some (pt u), some (pt (-u.1, -u.2)), z7, z8, z9, none] (R.map tri) [] s4 = some (R.map (fun _ => .bl true), s4) := by
        have := lc_map (g := gtName 10) (e := law_el1) (guard := fun s => look s (.ptr q) = some (R.map tri)) (ev := [some (.scr ns), some (.int (i : Int)), some (.ptr p), some (hps A B), some (.ptr q), some (pt u), some (pt (-u.1, -u.2)), z7, z8, z9, none]) (f := tri) (h := fun _ => Dt.bl true) (st := s4) lk R [] (by rw [List.length_nil]; omega) (fun l hl => ⟨_, rfl, by
          have := lies_eq (l := l) (u := u) (v := (-u.1, -u.2)) (hR.good.nrm l hl).2 ⟨ou.x.mono (by decide), ou.y.mono (by decide)⟩ ⟨ou.x.neg.mono (by decide), ou.y.neg.mono (by decide)⟩ s4
          rw [all_lies hPl hR u0 gu l hl] at this
          simp [law_el1, this]⟩)
        simpa using this
      have st0 : Stt A B 0 u (-u.1, -u.2) := ⟨u0, ⟨m1, m2⟩, ⟨by simp only; omega, by simp only; omega⟩, .inr rfl, by rw [gp_neg hPl]; omega⟩
      obtain ⟨ev3, s5, e5, u', v', z7', z8', z9', rfl, _, _⟩ := forL_all (g := gtName 7) (b := law_for1) (guard := fun _ => True) (items := rngD 0 7)
        (fun j ev s => ∃ u v z7 z8 z9, ev = [some (.scr ns), some (.int (i : Int)), some (.ptr p), some (hps A B), some (.ptr q), some (pt u), some (pt v), z7, z8, z9, z10] ∧ Drew s4 p s ∧ Stt A B j u v)
        (ev := [some (.scr ns), some (.int (i : Int)), some (.ptr p), some (hps A B), some (.ptr q), some (pt u), some (pt (-u.1, -u.2)), z7, z8, z9, z10]) (st := s4) ⟨_, _, _, _, _, rfl, Drew.refl hp4, st0⟩ (fun _ _ _ _ => trivial) (by
          rintro j d ev s' hj ⟨u, v, z7, z8, z9, rfl, dr, S⟩
          obtain ⟨rfl, hj7⟩ := rng_get hj
          obtain ⟨u2, v2, s6, z8', z9', f1, f2, f3⟩ := round_eq (sc := some (.scr ns)) (kk := some (.int (i : Int))) (z7 := some (.int (0 + (j : Int)))) (z8 := z8) (z9 := z9) (z10 := z10) (dr.pot hp4) hqp (dr.look lk nq) hPl hR (by omega) okA okB lA lB (by omega) S
          exact ⟨_, _, s6, rfl, f1, _, _, _, _, _, rfl, dr.trans f2, f3⟩)
      refine ⟨_, [some (.scr ns), some (.int (i : Int)), some (.ptr p), some (hps A B), some (.ptr q), some (pt u'), some (pt v'), z7', z8', z9', z10], s5, rfl, ?_, _, _, _, _, _, _, _, _, _, _, rfl⟩
      rw [pn] at lc1 e5
      generalize hps A B = D at *
      generalize A.map pt = A' at *
      generalize B.map pt = B' at *
      simp [law_for2, e1, e2, i0, i1, eR, e4, sr, srcL, lc1, al, e5, -gAll_eq])
  have ok : okSto [] st2 := ⟨Nat.zero_le _, fun k hk => absurd hk (Nat.not_lt_zero k)⟩
  exact ⟨[], by simp [d_law, dDef, b_law, hn, hm2, e, finP, ok, rsv_low]⟩
end My

set_option maxHeartbeats 1000000
namespace My
open PySem PySem.Spec PyProof.Rows L2 PD
def topS (i : Nat) : Stmt := PySem.Challenge.pw_halveline_k54_whole_odd_between_ends.main.body.getD i (.Pass ⟨0, 0, 0, 0⟩)
abbrev s_places : Stmt := topS 4
theorem sc_places : FnScope ["heap"] ["heap"] (defScope s_places) := ⟨rfl, rfl, rfl, by decide +kernel, rfl, by decide +kernel, by decide +kernel⟩
abbrev s_sign_of : Stmt := topS 5
theorem sc_sign_of : FnScope ["number"] ["number"] (defScope s_sign_of) := ⟨rfl, rfl, rfl, by decide +kernel, rfl, by decide +kernel, by decide +kernel⟩
abbrev s_common : Stmt := topS 7
theorem sc_common : FnScope ["one", "other"] ["one", "other"] (defScope s_common) := ⟨rfl, rfl, rfl, by decide +kernel, rfl, by decide +kernel, by decide +kernel⟩
abbrev s_through : Stmt := topS 8
theorem sc_through : FnScope ["one", "other", "a", "b", "by"] ["one", "other"] (defScope s_through) := ⟨rfl, rfl, rfl, by decide +kernel, rfl, by decide +kernel, by decide +kernel⟩
abbrev s_side : Stmt := topS 9
theorem sc_side : FnScope ["line", "point", "a", "b", "c"] ["line", "point"] (defScope s_side) := ⟨rfl, rfl, rfl, by decide +kernel, rfl, by decide +kernel, by decide +kernel⟩
abbrev s_counts : Stmt := topS 10
theorem sc_counts : FnScope ["line", "heap", "sides", "point"] ["line", "heap"] (defScope s_counts) := ⟨rfl, rfl, rfl, by decide +kernel, rfl, by decide +kernel, by decide +kernel⟩
abbrev s_halves : Stmt := topS 11
theorem sc_halves : FnScope ["line", "heap", "below", "on", "above"] ["line", "heap"] (defScope s_halves) := ⟨rfl, rfl, rfl, by decide +kernel, rfl, by decide +kernel, by decide +kernel⟩
abbrev s_is_ahead : Stmt := topS 13
theorem sc_is_ahead : FnScope ["one", "other"] ["one", "other"] (defScope s_is_ahead) := ⟨rfl, rfl, rfl, by decide +kernel, rfl, by decide +kernel, by decide +kernel⟩
abbrev s_goes_first : Stmt := topS 14
theorem sc_goes_first : FnScope ["one", "other"] ["one", "other"] (defScope s_goes_first) := ⟨rfl, rfl, rfl, by decide +kernel, rfl, by decide +kernel, by decide +kernel⟩
abbrev s_merged : Stmt := topS 15
theorem sc_merged : FnScope ["one", "other", "found", "k", "line"] ["one", "other"] (defScope s_merged) := ⟨rfl, rfl, rfl, by decide +kernel, rfl, by decide +kernel, by decide +kernel⟩
abbrev s_lines_in_order : Stmt := topS 16
theorem sc_lines_in_order : FnScope ["lines", "rows", "some", "line", "k"] ["lines"] (defScope s_lines_in_order) := ⟨rfl, rfl, rfl, by decide +kernel, rfl, by decide +kernel, by decide +kernel⟩
abbrev s_lines_of : Stmt := topS 18
theorem sc_lines_of : FnScope ["heap", "some", "found", "k", "place", "other"] ["heap"] (defScope s_lines_of) := ⟨rfl, rfl, rfl, by decide +kernel, rfl, by decide +kernel, by decide +kernel⟩
abbrev s_all_lines : Stmt := topS 20
theorem sc_all_lines : FnScope ["one", "other", "line"] ["one", "other"] (defScope s_all_lines) := ⟨rfl, rfl, rfl, by decide +kernel, rfl, by decide +kernel, by decide +kernel⟩
abbrev s_law_pot : Stmt := topS 22
theorem sc_law_pot : FnScope ["script", "k", "cell", "mixed", "one"] ["script", "k"] (defScope s_law_pot) := ⟨rfl, rfl, rfl, by decide +kernel, rfl, by decide +kernel, by decide +kernel⟩
abbrev s_law_take : Stmt := topS 23
theorem sc_law_take : FnScope ["pot", "many", "digit"] ["pot", "many"] (defScope s_law_take) := ⟨rfl, rfl, rfl, by decide +kernel, rfl, by decide +kernel, by decide +kernel⟩
abbrev s_law_wide : Stmt := topS 24
theorem sc_law_wide : FnScope ["pot", "found", "k"] ["pot"] (defScope s_law_wide) := ⟨rfl, rfl, rfl, by decide +kernel, rfl, by decide +kernel, by decide +kernel⟩
abbrev s_law_number : Stmt := topS 25
theorem sc_law_number : FnScope ["pot"] ["pot"] (defScope s_law_number) := ⟨rfl, rfl, rfl, by decide +kernel, rfl, by decide +kernel, by decide +kernel⟩
abbrev s_law_sum : Stmt := topS 26
theorem sc_law_sum : FnScope ["one", "two", "three", "found"] ["one", "two", "three"] (defScope s_law_sum) := ⟨rfl, rfl, rfl, by decide +kernel, rfl, by decide +kernel, by decide +kernel⟩
abbrev s_law_is_free : Stmt := topS 27
theorem sc_law_is_free : FnScope ["point", "some", "k", "other"] ["point", "some"] (defScope s_law_is_free) := ⟨rfl, rfl, rfl, by decide +kernel, rfl, by decide +kernel, by decide +kernel⟩
abbrev s_law_free : Stmt := topS 28
theorem sc_law_free : FnScope ["pot", "some", "again", "point", "far"] ["pot", "some"] (defScope s_law_free) := ⟨rfl, rfl, rfl, by decide +kernel, rfl, by decide +kernel, by decide +kernel⟩
abbrev s_law_odd_heaps : Stmt := topS 29
theorem sc_law_odd_heaps : FnScope ["pot", "most", "heaps", "heap", "k"] ["pot", "most"] (defScope s_law_odd_heaps) := ⟨rfl, rfl, rfl, by decide +kernel, rfl, by decide +kernel, by decide +kernel⟩
abbrev s_law_gap : Stmt := topS 30
theorem sc_law_gap : FnScope ["heaps", "arrow", "found", "heap", "told", "x", "y"] ["heaps", "arrow"] (defScope s_law_gap) := ⟨rfl, rfl, rfl, by decide +kernel, rfl, by decide +kernel, by decide +kernel⟩
abbrev s_law_across : Stmt := topS 31
theorem sc_law_across : FnScope ["one", "other"] ["one", "other"] (defScope s_law_across) := ⟨rfl, rfl, rfl, by decide +kernel, rfl, by decide +kernel, by decide +kernel⟩
abbrev s_law_first : Stmt := topS 32
theorem sc_law_first : FnScope ["pot", "heaps", "arrow"] ["pot", "heaps"] (defScope s_law_first) := ⟨rfl, rfl, rfl, by decide +kernel, rfl, by decide +kernel, by decide +kernel⟩
abbrev s_law_next : Stmt := topS 33
theorem sc_law_next : FnScope ["pot", "one", "other", "p", "q"] ["pot", "one", "other"] (defScope s_law_next) := ⟨rfl, rfl, rfl, by decide +kernel, rfl, by decide +kernel, by decide +kernel⟩
abbrev s_law_lies : Stmt := topS 34
theorem sc_law_lies : FnScope ["line", "one", "other", "normal"] ["line", "one", "other"] (defScope s_law_lies) := ⟨rfl, rfl, rfl, by decide +kernel, rfl, by decide +kernel, by decide +kernel⟩
abbrev s_law_odd_between : Stmt := topS 35
theorem sc_law_odd_between : FnScope ["lines", "one", "other", "line"] ["lines", "one", "other"] (defScope s_law_odd_between) := ⟨rfl, rfl, rfl, by decide +kernel, rfl, by decide +kernel, by decide +kernel⟩
abbrev s_law : Stmt := topS 36
theorem sc_law : FnScope ["script", "k", "pot", "heaps", "lines", "one", "other", "again", "arrow", "apart", "line"] ["script"] (defScope s_law) := ⟨rfl, rfl, rfl, by decide +kernel, rfl, by decide +kernel, by decide +kernel⟩
/-! ## the text: what the top has written -/
structure Txt (K : PySem.W.Frag) (mg : Str → Option Value) where
  a_places : Addr
  fd_places : FuncData
  g_places : mg "places" = some (.ref a_places)
  F_places : Fun K "places" "places" s_places a_places fd_places
  b_places : Binds K fd_places ["heap"] []
  a_sign_of : Addr
  fd_sign_of : FuncData
  g_sign_of : mg "sign_of" = some (.ref a_sign_of)
  F_sign_of : Fun K "sign_of" "sign_of" s_sign_of a_sign_of fd_sign_of
  b_sign_of : Binds K fd_sign_of ["number"] []
  a_common : Addr
  fd_common : FuncData
  g_common : mg "common" = some (.ref a_common)
  F_common : Fun K "common" "common" s_common a_common fd_common
  b_common : Binds K fd_common ["one", "other"] []
  a_through : Addr
  fd_through : FuncData
  g_through : mg "through" = some (.ref a_through)
  F_through : Fun K "through" "through" s_through a_through fd_through
  b_through : Binds K fd_through ["one", "other"] []
  a_side : Addr
  fd_side : FuncData
  g_side : mg "side" = some (.ref a_side)
  F_side : Fun K "side" "side" s_side a_side fd_side
  b_side : Binds K fd_side ["line", "point"] []
  a_counts : Addr
  fd_counts : FuncData
  g_counts : mg "counts" = some (.ref a_counts)
  F_counts : Fun K "counts" "counts" s_counts a_counts fd_counts
  b_counts : Binds K fd_counts ["line", "heap"] []
  a_halves : Addr
  fd_halves : FuncData
  g_halves : mg "halves" = some (.ref a_halves)
  F_halves : Fun K "halves" "halves" s_halves a_halves fd_halves
  b_halves : Binds K fd_halves ["line", "heap"] []
  a_is_ahead : Addr
  fd_is_ahead : FuncData
  g_is_ahead : mg "is_ahead" = some (.ref a_is_ahead)
  F_is_ahead : Fun K "is_ahead" "is_ahead" s_is_ahead a_is_ahead fd_is_ahead
  b_is_ahead : Binds K fd_is_ahead ["one", "other"] []
  a_goes_first : Addr
  fd_goes_first : FuncData
  g_goes_first : mg "goes_first" = some (.ref a_goes_first)
  F_goes_first : Fun K "goes_first" "goes_first" s_goes_first a_goes_first fd_goes_first
  b_goes_first : Binds K fd_goes_first ["one", "other"] []
  a_merged : Addr
  fd_merged : FuncData
  g_merged : mg "merged" = some (.ref a_merged)
  F_merged : Fun K "merged" "merged" s_merged a_merged fd_merged
  b_merged : Binds K fd_merged ["one", "other"] []
  a_lines_in_order : Addr
  fd_lines_in_order : FuncData
  g_lines_in_order : mg "lines_in_order" = some (.ref a_lines_in_order)
  F_lines_in_order : Fun K "lines_in_order" "lines_in_order" s_lines_in_order a_lines_in_order fd_lines_in_order
  b_lines_in_order : Binds K fd_lines_in_order ["lines"] []
  a_lines_of : Addr
  fd_lines_of : FuncData
  g_lines_of : mg "lines_of" = some (.ref a_lines_of)
  F_lines_of : Fun K "lines_of" "lines_of" s_lines_of a_lines_of fd_lines_of
  b_lines_of : Binds K fd_lines_of ["heap"] []
  a_all_lines : Addr
  fd_all_lines : FuncData
  g_all_lines : mg "all_lines" = some (.ref a_all_lines)
  F_all_lines : Fun K "all_lines" "all_lines" s_all_lines a_all_lines fd_all_lines
  b_all_lines : Binds K fd_all_lines ["one", "other"] []
  a_law_pot : Addr
  fd_law_pot : FuncData
  g_law_pot : mg "_law_pot" = some (.ref a_law_pot)
  F_law_pot : Fun K "_law_pot" "_law_pot" s_law_pot a_law_pot fd_law_pot
  b_law_pot : Binds K fd_law_pot ["script", "k"] []
  a_law_take : Addr
  fd_law_take : FuncData
  g_law_take : mg "_law_take" = some (.ref a_law_take)
  F_law_take : Fun K "_law_take" "_law_take" s_law_take a_law_take fd_law_take
  b_law_take : Binds K fd_law_take ["pot", "many"] []
  a_law_wide : Addr
  fd_law_wide : FuncData
  g_law_wide : mg "_law_wide" = some (.ref a_law_wide)
  F_law_wide : Fun K "_law_wide" "_law_wide" s_law_wide a_law_wide fd_law_wide
  b_law_wide : Binds K fd_law_wide ["pot"] []
  a_law_number : Addr
  fd_law_number : FuncData
  g_law_number : mg "_law_number" = some (.ref a_law_number)
  F_law_number : Fun K "_law_number" "_law_number" s_law_number a_law_number fd_law_number
  b_law_number : Binds K fd_law_number ["pot"] []
  a_law_sum : Addr
  fd_law_sum : FuncData
  g_law_sum : mg "_law_sum" = some (.ref a_law_sum)
  F_law_sum : Fun K "_law_sum" "_law_sum" s_law_sum a_law_sum fd_law_sum
  b_law_sum : Binds K fd_law_sum ["one", "two", "three"] []
  a_law_is_free : Addr
  fd_law_is_free : FuncData
  g_law_is_free : mg "_law_is_free" = some (.ref a_law_is_free)
  F_law_is_free : Fun K "_law_is_free" "_law_is_free" s_law_is_free a_law_is_free fd_law_is_free
  b_law_is_free : Binds K fd_law_is_free ["point", "some"] []
  a_law_free : Addr
  fd_law_free : FuncData
  g_law_free : mg "_law_free" = some (.ref a_law_free)
  F_law_free : Fun K "_law_free" "_law_free" s_law_free a_law_free fd_law_free
  b_law_free : Binds K fd_law_free ["pot", "some"] []
  a_law_odd_heaps : Addr
  fd_law_odd_heaps : FuncData
  g_law_odd_heaps : mg "_law_odd_heaps" = some (.ref a_law_odd_heaps)
  F_law_odd_heaps : Fun K "_law_odd_heaps" "_law_odd_heaps" s_law_odd_heaps a_law_odd_heaps fd_law_odd_heaps
  b_law_odd_heaps : Binds K fd_law_odd_heaps ["pot", "most"] []
  a_law_gap : Addr
  fd_law_gap : FuncData
  g_law_gap : mg "_law_gap" = some (.ref a_law_gap)
  F_law_gap : Fun K "_law_gap" "_law_gap" s_law_gap a_law_gap fd_law_gap
  b_law_gap : Binds K fd_law_gap ["heaps", "arrow"] []
  a_law_across : Addr
  fd_law_across : FuncData
  g_law_across : mg "_law_across" = some (.ref a_law_across)
  F_law_across : Fun K "_law_across" "_law_across" s_law_across a_law_across fd_law_across
  b_law_across : Binds K fd_law_across ["one", "other"] []
  a_law_first : Addr
  fd_law_first : FuncData
  g_law_first : mg "_law_first" = some (.ref a_law_first)
  F_law_first : Fun K "_law_first" "_law_first" s_law_first a_law_first fd_law_first
  b_law_first : Binds K fd_law_first ["pot", "heaps"] []
  a_law_next : Addr
  fd_law_next : FuncData
  g_law_next : mg "_law_next" = some (.ref a_law_next)
  F_law_next : Fun K "_law_next" "_law_next" s_law_next a_law_next fd_law_next
  b_law_next : Binds K fd_law_next ["pot", "one", "other"] []
  a_law_lies : Addr
  fd_law_lies : FuncData
  g_law_lies : mg "_law_lies" = some (.ref a_law_lies)
  F_law_lies : Fun K "_law_lies" "_law_lies" s_law_lies a_law_lies fd_law_lies
  b_law_lies : Binds K fd_law_lies ["line", "one", "other"] []
  a_law_odd_between : Addr
  fd_law_odd_between : FuncData
  g_law_odd_between : mg "_law_odd_between" = some (.ref a_law_odd_between)
  F_law_odd_between : Fun K "_law_odd_between" "_law_odd_between" s_law_odd_between a_law_odd_between fd_law_odd_between
  b_law_odd_between : Binds K fd_law_odd_between ["lines", "one", "other"] []
  a_law : Addr
  fd_law : FuncData
  g_law : mg "law" = some (.ref a_law)
  F_law : Fun K "law" "law" s_law a_law fd_law
  b_law : Binds K fd_law ["script"] []
  m_abs : mg "abs" = none
  m_all : mg "all" = none
  m_enumerate : mg "enumerate" = none
  m_int : mg "int" = none
  m_len : mg "len" = none
  m_list : mg "list" = none
  m_max : mg "max" = none
  m_min : mg "min" = none
  m_range : mg "range" = none
  m_set : mg "set" = none
  m_sorted : mg "sorted" = none
section
variable {P : Program} {w : World} {K : PySem.W.Frag} {mg : Str → Option Value} {base : Heap}
theorem ok_places (T : Txt K mg) : FnOk P w K mg base CX0 2 T.a_places T.fd_places ["heap"] (spD K 1 d_places) :=
  fn_den (k := 1) T.F_places sc_places finP_ok rfl rfl (fun cdv A outer s H E hr =>
    (pdss_one (pds_ret (pd_sortSet (hu64 hr) (by rfl) T.m_sorted bt_sorted (by rfl) T.m_set bt_set (pda_cons (pd_var 0) pda_nil)))))
theorem ok_sign_of (T : Txt K mg) : FnOk P w K mg base CX0 2 T.a_sign_of T.fd_sign_of ["number"] (spD K 1 d_sign_of) :=
  fn_den (k := 1) T.F_sign_of sc_sign_of finP_ok rfl rfl (fun cdv A outer s H E hr =>
    (pdss_one (pds_ret (pd_op op_sub rs_sub (pd_callT call_int1 rc_int1 (by rfl) T.m_int bt_int (pda_cons (pd_cmp op_gt rs_gt (pd_var 0) pd_int (nomark _)) pda_nil)) (pd_callT call_int1 rc_int1 (by rfl) T.m_int bt_int (pda_cons (pd_cmp op_lt rs_lt (pd_var 0) pd_int (nomark _)) pda_nil))))))
theorem ok_common (T : Txt K mg) : FnOk P w K mg base CX0 2 T.a_common T.fd_common ["one", "other"] (spD K 2 d_common) :=
  fn_den (k := 1) T.F_common sc_common finP_ok rfl rfl (fun cdv A outer s H E hr =>
    (pdss_cons (pds_set (i := 0) sc_common.nd rfl (by first | exact Or.inl rfl | exact Or.inr rfl) (pd_callB call_abs rc_abs (by rfl) T.m_abs bt_abs (pda_cons (pd_var 0) pda_nil)))
    (pdss_cons (pds_set (i := 1) sc_common.nd rfl (by first | exact Or.inl rfl | exact Or.inr rfl) (pd_callB call_abs rc_abs (by rfl) T.m_abs bt_abs (pda_cons (pd_var 1) pda_nil)))
    (pdss_cons (pds_while FU PassesOwn.never (pdt_cmp op_gt rs_gt (pd_var 1) pd_int (nomark _)) (pdss_one (pds_par (i := 0) (j := 1) rfl sc_common.nd rfl rfl (by decide) rfl rfl (pda_cons (pd_var 1) (pda_cons (pd_op op_mod rs_mod (pd_var 0) (pd_var 1)) pda_nil)) rfl)))
    (pdss_one (pds_ret (pd_var 0)))))))
theorem ok_through (T : Txt K mg) : FnOk P w K mg base CX0 3 T.a_through T.fd_through ["one", "other"] (spD K 2 d_through) :=
  fn_den (k := 2) T.F_through sc_through finP_ok rfl rfl (fun cdv A outer s H E hr =>
    (pdss_cons (pds_if (pdt_cmp (op_eqD (hu64 hr)) rs_eq (pd_var 0) (pd_var 1) (nomark _)) (pdss_one pds_never) pdss_nil)
    (pdss_cons (pds_set (i := 2) sc_through.nd rfl (by first | exact Or.inl rfl | exact Or.inr rfl) (pd_op op_sub rs_sub (pd_ix ix_seq rs_ix (pd_var 1) pd_int (fun _ _ => rfl)) (pd_ix ix_seq rs_ix (pd_var 0) pd_int (fun _ _ => rfl))))
    (pdss_cons (pds_set (i := 3) sc_through.nd rfl (by first | exact Or.inl rfl | exact Or.inr rfl) (pd_op op_sub rs_sub (pd_ix ix_seq rs_ix (pd_var 0) pd_int (fun _ _ => rfl)) (pd_ix ix_seq rs_ix (pd_var 1) pd_int (fun _ _ => rfl))))
    (pdss_cons (pds_set (i := 4) sc_through.nd rfl (by first | exact Or.inl rfl | exact Or.inr rfl) (pd_call (ok_common T) (hr.mono (by decide)) (by rfl) T.g_common T.F_common.kp T.b_common (pda_cons (pd_var 2) (pda_cons (pd_var 3) pda_nil))))
    (pdss_cons (pds_if (pdt_w (pdw_or (pdt_cmp op_lt rs_lt (pd_var 2) pd_int (nomark _)) (pdw_or1 (pdt_w (pdw_and (pdt_cmp (op_eqD (hu64 hr)) rs_eq (pd_var 2) pd_int (nomark _)) (pdw_and1 (pdt_cmp op_lt rs_lt (pd_var 3) pd_int (nomark _)))))))) (pdss_one (pds_set (i := 4) sc_through.nd rfl (by first | exact Or.inl rfl | exact Or.inr rfl) (pd_neg (pd_var 4)))) pdss_nil)
    (pdss_cons (pds_aug (i := 2) sc_through.nd rfl (by first | exact Or.inl rfl | exact Or.inr rfl) (pd_var 4) iop_fdivZ rs_fdiv)
    (pdss_cons (pds_aug (i := 3) sc_through.nd rfl (by first | exact Or.inl rfl | exact Or.inr rfl) (pd_var 4) iop_fdivZ rs_fdiv)
    (pdss_one (pds_ret (pd_tup (pda_cons (pd_var 2) (pda_cons (pd_var 3) (pda_cons (pd_op op_addA rs_add (pd_op op_mulX rs_mul (pd_var 2) (pd_ix ix_seq rs_ix (pd_var 0) pd_int (fun _ _ => rfl))) (pd_op op_mulX rs_mul (pd_var 3) (pd_ix ix_seq rs_ix (pd_var 0) pd_int (fun _ _ => rfl)))) pda_nil))))))))))))))
theorem ok_side (T : Txt K mg) : FnOk P w K mg base CX0 3 T.a_side T.fd_side ["line", "point"] (spD K 2 d_side) :=
  fn_den (k := 2) T.F_side sc_side finP_ok rfl rfl (fun cdv A outer s H E hr =>
    (pdss_cons (pds_asg (pd_var 0) (pdg_tup rfl (pdgs_cons (pdg_name (i := 2) sc_side.nd rfl (by first | exact Or.inl rfl | exact Or.inr rfl)) (pdgs_cons (pdg_name (i := 3) sc_side.nd rfl (by first | exact Or.inl rfl | exact Or.inr rfl)) (pdgs_cons (pdg_name (i := 4) sc_side.nd rfl (by first | exact Or.inl rfl | exact Or.inr rfl)) pdgs_nil)))))
    (pdss_one (pds_ret (pd_call (ok_sign_of T) (hr.mono (by decide)) (by rfl) T.g_sign_of T.F_sign_of.kp T.b_sign_of (pda_cons (pd_op op_sub rs_sub (pd_op op_addA rs_add (pd_op op_mulX rs_mul (pd_var 2) (pd_ix ix_seq rs_ix (pd_var 1) pd_int (fun _ _ => rfl))) (pd_op op_mulX rs_mul (pd_var 3) (pd_ix ix_seq rs_ix (pd_var 1) pd_int (fun _ _ => rfl)))) (pd_var 4)) pda_nil))))))
theorem ok_counts (T : Txt K mg) : FnOk P w K mg base CX0 4 T.a_counts T.fd_counts ["line", "heap"] (spD K 2 d_counts) :=
  fn_den (k := 3) T.F_counts sc_counts finP_ok rfl rfl (fun cdv A outer s H E hr =>
    (pdss_cons (pds_setLc (own := [("point", 3)]) (i := 2) rfl sc_counts.nd rfl rfl (sw_true rfl rfl rfl (by decide +kernel)) (pdi_any (pd_var 1)) (blkOk_by (by kernel_rfl)) (fun _ _ _ _ _ => (pdg_name (i := 3) sc_counts.nd rfl (by first | exact Or.inl rfl | exact Or.inr rfl))) (fun _ _ _ _ _ => pdts_nil) (fun _ _ _ _ _ => (pd_call (ok_side T) (hr.mono (by decide)) (by rfl) T.g_side T.F_side.kp T.b_side (pda_cons (pd_var 0) (pda_cons (pd_var 3) pda_nil)))) (by decide))
    (pdss_one (pds_ret (pd_tup (pda_cons (pd_bm PySem.F.plainAttrs_list PySem.F.slot_list_count PySem.F.type_list_count mt_lcount rm_countI (pd_var 2) (pda_cons (pd_neg pd_int) pda_nil)) (pda_cons (pd_bm PySem.F.plainAttrs_list PySem.F.slot_list_count PySem.F.type_list_count mt_lcount rm_countI (pd_var 2) (pda_cons pd_int pda_nil)) (pda_cons (pd_bm PySem.F.plainAttrs_list PySem.F.slot_list_count PySem.F.type_list_count mt_lcount rm_countI (pd_var 2) (pda_cons pd_int pda_nil)) pda_nil))))))))
theorem ok_halves (T : Txt K mg) : FnOk P w K mg base CX0 5 T.a_halves T.fd_halves ["line", "heap"] (spD K 2 d_halves) :=
  fn_den (k := 4) T.F_halves sc_halves finP_ok rfl rfl (fun cdv A outer s H E hr =>
    (pdss_cons (pds_asg (pd_call (ok_counts T) (hr.mono (by decide)) (by rfl) T.g_counts T.F_counts.kp T.b_counts (pda_cons (pd_var 0) (pda_cons (pd_var 1) pda_nil))) (pdg_tup rfl (pdgs_cons (pdg_name (i := 2) sc_halves.nd rfl (by first | exact Or.inl rfl | exact Or.inr rfl)) (pdgs_cons (pdg_name (i := 3) sc_halves.nd rfl (by first | exact Or.inl rfl | exact Or.inr rfl)) (pdgs_cons (pdg_name (i := 4) sc_halves.nd rfl (by first | exact Or.inl rfl | exact Or.inr rfl)) pdgs_nil)))))
    (pdss_one (pds_ret (pd_cmp op_le rs_le (pd_op op_mulX rs_mul pd_int (pd_callB (call_max2 rfl) rc_max2 (by rfl) T.m_max bt_max (pda_cons (pd_var 2) (pda_cons (pd_var 4) pda_nil)))) (pd_callB call_len rc_len (by rfl) T.m_len bt_len (pda_cons (pd_var 1) pda_nil)) (nomark _))))))
theorem ok_is_ahead (T : Txt K mg) : FnOk P w K mg base CX0 2 T.a_is_ahead T.fd_is_ahead ["one", "other"] (spD K 2 d_is_ahead) :=
  fn_den (k := 1) T.F_is_ahead sc_is_ahead finP_ok rfl rfl (fun cdv A outer s H E hr =>
    (pdss_one (pds_ret (pd_cmp op_gt rs_gt (pd_op op_sub rs_sub (pd_op op_mulX rs_mul (pd_ix ix_seq rs_ix (pd_var 0) pd_int (fun _ _ => rfl)) (pd_ix ix_seq rs_ix (pd_var 1) pd_int (fun _ _ => rfl))) (pd_op op_mulX rs_mul (pd_ix ix_seq rs_ix (pd_var 0) pd_int (fun _ _ => rfl)) (pd_ix ix_seq rs_ix (pd_var 1) pd_int (fun _ _ => rfl)))) pd_int (nomark _)))))
theorem ok_goes_first (T : Txt K mg) : FnOk P w K mg base CX0 3 T.a_goes_first T.fd_goes_first ["one", "other"] (spD K 2 d_goes_first) :=
  fn_den (k := 2) T.F_goes_first sc_goes_first finP_ok rfl rfl (fun cdv A outer s H E hr =>
    (pdss_cons (pds_if (pdt_cmp (op_neD (hu64 hr)) rs_ne (pd_slice (pd_var 0) pdo_none (pdo_some pd_int)) (pd_slice (pd_var 1) pdo_none (pdo_some pd_int)) (nomark _)) (pdss_one (pds_ret (pd_call (ok_is_ahead T) (hr.mono (by decide)) (by rfl) T.g_is_ahead T.F_is_ahead.kp T.b_is_ahead (pda_cons (pd_var 0) (pda_cons (pd_var 1) pda_nil))))) pdss_nil)
    (pdss_one (pds_ret (pd_cmp op_lt rs_lt (pd_ix ix_seq rs_ix (pd_var 0) pd_int (fun _ _ => rfl)) (pd_ix ix_seq rs_ix (pd_var 1) pd_int (fun _ _ => rfl)) (nomark _))))))
theorem ok_merged (T : Txt K mg) : FnOk P w K mg base CX0 4 T.a_merged T.fd_merged ["one", "other"] (spD K 2 d_merged) :=
  fn_den (k := 3) T.F_merged sc_merged finP_ok rfl rfl (fun cdv A outer s H E hr =>
    (pdss_cons (pds_set (i := 2) sc_merged.nd rfl (by first | exact Or.inl rfl | exact Or.inr rfl) (pd_lstM pda_nil))
    (pdss_cons (pds_set (i := 3) sc_merged.nd rfl (by first | exact Or.inl rfl | exact Or.inr rfl) pd_int)
    (pdss_cons (pds_for PassesOwn.never rfl (pdi_any (pd_var 1)) (pdg_name (i := 4) sc_merged.nd rfl (by first | exact Or.inl rfl | exact Or.inr rfl)) (pdss_cons (pds_while FU PassesOwn.never (pdt_w (pdw_and (pdt_cmp op_lt rs_lt (pd_var 3) (pd_callB call_len rc_len (by rfl) T.m_len bt_len (pda_cons (pd_var 0) pda_nil)) (nomark _)) (pdw_and1 (pdt_val (pd_call (ok_goes_first T) (hr.mono (by decide)) (by rfl) T.g_goes_first T.F_goes_first.kp T.b_goes_first (pda_cons (pd_ix ix_seq rs_ix (pd_var 0) (pd_var 3) (fun _ _ => rfl)) (pda_cons (pd_var 4) pda_nil))))))) (pdss_cons (pds_drop (pd_mut PySem.F.slot_list_append PySem.F.type_list_append mt_append rm_append (pd_var 2) (pda_cons (pd_ix ix_seq rs_ix (pd_var 0) (pd_var 3) (fun _ _ => rfl)) pda_nil)))
    (pdss_one (pds_set (i := 3) sc_merged.nd rfl (by first | exact Or.inl rfl | exact Or.inr rfl) (pd_op op_addA rs_add (pd_var 3) pd_int)))))
    (pdss_one (pds_if (pdt_w (pdw_or (pdt_cmp (op_eqD (hu64 hr)) rs_eq (pd_var 3) (pd_callB call_len rc_len (by rfl) T.m_len bt_len (pda_cons (pd_var 0) pda_nil)) (nomark _)) (pdw_or1 (pdt_cmp (op_neD (hu64 hr)) rs_ne (pd_ix ix_seq rs_ix (pd_var 0) (pd_var 3) (fun _ _ => rfl)) (pd_var 4) (nomark _))))) (pdss_one (pds_drop (pd_mut PySem.F.slot_list_append PySem.F.type_list_append mt_append rm_append (pd_var 2) (pda_cons (pd_var 4) pda_nil)))) pdss_nil))))
    (pdss_one (pds_ret (pd_op op_addA rs_add (pd_var 2) (pd_slice (pd_var 0) (pdo_some (pd_var 3)) pdo_none))))))))
theorem ok_lines_in_order (T : Txt K mg) : FnOk P w K mg base CX0 5 T.a_lines_in_order T.fd_lines_in_order ["lines"] (spD K 1 d_lines_in_order) :=
  fn_den (k := 4) T.F_lines_in_order sc_lines_in_order finP_ok rfl rfl (fun cdv A outer s H E hr =>
    (pdss_cons (pds_set (i := 1) sc_lines_in_order.nd rfl (by first | exact Or.inl rfl | exact Or.inr rfl) (pd_lc (own := [("line", 3)]) rfl sc_lines_in_order.nd (pdi_any (pd_var 0)) (blkOk_by (by kernel_rfl)) (fun _ _ _ _ _ => (pdg_name (i := 3) sc_lines_in_order.nd rfl (by first | exact Or.inl rfl | exact Or.inr rfl))) (fun _ _ _ _ _ => pdts_nil) (fun _ _ _ _ _ => (pd_lst (pda_cons (pd_var 3) pda_nil))) (by decide)))
    (pdss_cons (pds_while FU PassesOwn.never (pdt_cmp op_gt rs_gt (pd_callB call_len rc_len (by rfl) T.m_len bt_len (pda_cons (pd_var 1) pda_nil)) pd_int (nomark _)) (pdss_cons (pds_setLc (own := [("k", 4)]) (i := 2) rfl sc_lines_in_order.nd rfl rfl (sw_true rfl rfl rfl (by decide +kernel)) (pdi_rng3 (by rfl) T.m_range (pda_cons pd_int (pda_cons (pd_op op_sub rs_sub (pd_callB call_len rc_len (by rfl) T.m_len bt_len (pda_cons (pd_var 1) pda_nil)) pd_int) (pda_cons pd_int pda_nil)))) (blkOk_by (by kernel_rfl)) (fun _ _ _ _ _ => (pdg_name (i := 4) sc_lines_in_order.nd rfl (by first | exact Or.inl rfl | exact Or.inr rfl))) (fun _ _ _ _ _ => pdts_nil) (fun _ _ _ _ _ => (pd_call (ok_merged T) (hr.mono (by decide)) (by rfl) T.g_merged T.F_merged.kp T.b_merged (pda_cons (pd_ix ix_seq rs_ix (pd_var 1) (pd_var 4) (fun _ _ => rfl)) (pda_cons (pd_ix ix_seq rs_ix (pd_var 1) (pd_op op_addA rs_add (pd_var 4) pd_int) (fun _ _ => rfl)) pda_nil)))) (by decide))
    (pdss_one (pds_set (i := 1) sc_lines_in_order.nd rfl (by first | exact Or.inl rfl | exact Or.inr rfl) (pd_op op_addA rs_add (pd_var 2) (pd_slice (pd_var 1) (pdo_some (pd_op op_mulX rs_mul pd_int (pd_callB call_len rc_len (by rfl) T.m_len bt_len (pda_cons (pd_var 2) pda_nil)))) pdo_none))))))
    (pdss_one (pds_ret (pd_ix ix_seq rs_ix (pd_op op_addA rs_add (pd_var 1) (pd_lst (pda_cons (pd_lst pda_nil) pda_nil))) pd_int (fun _ _ => rfl)))))))
theorem ok_lines_of (T : Txt K mg) : FnOk P w K mg base CX0 6 T.a_lines_of T.fd_lines_of ["heap"] (spD K 1 d_lines_of) :=
  fn_den (k := 5) T.F_lines_of sc_lines_of finP_ok rfl rfl (fun cdv A outer s H E hr =>
    (pdss_cons (pds_set (i := 1) sc_lines_of.nd rfl (by first | exact Or.inl rfl | exact Or.inr rfl) (pd_call (ok_places T) (hr.mono (by decide)) (by rfl) T.g_places T.F_places.kp T.b_places (pda_cons (pd_var 0) pda_nil)))
    (pdss_cons (pds_set (i := 2) sc_lines_of.nd rfl (by first | exact Or.inl rfl | exact Or.inr rfl) (pd_lstM pda_nil))
    (pdss_cons (pds_for PassesOwn.never rfl (pdi_enum (by rfl) T.m_enumerate (pd_var 1)) (pdg_tup rfl (pdgs_cons (pdg_name (i := 3) sc_lines_of.nd rfl (by first | exact Or.inl rfl | exact Or.inr rfl)) (pdgs_cons (pdg_name (i := 4) sc_lines_of.nd rfl (by first | exact Or.inl rfl | exact Or.inr rfl)) pdgs_nil))) (pdss_one (pds_drop (pd_mut PySem.F.slot_list_extend PySem.F.type_list_extend mt_extend rm_extend (pd_var 2) (pda_cons (pd_lc (own := [("other", 5)]) rfl sc_lines_of.nd (pdi_any (pd_slice (pd_var 1) pdo_none (pdo_some (pd_var 3)))) (blkOk_by (by kernel_rfl)) (fun _ _ _ _ _ => (pdg_name (i := 5) sc_lines_of.nd rfl (by first | exact Or.inl rfl | exact Or.inr rfl))) (fun _ _ _ _ _ => pdts_nil) (fun _ _ _ _ _ => (pd_call (ok_through T) (hr.mono (by decide)) (by rfl) T.g_through T.F_through.kp T.b_through (pda_cons (pd_var 4) (pda_cons (pd_var 5) pda_nil)))) (by decide)) pda_nil)))))
    (pdss_one (pds_ret (pd_call (ok_lines_in_order T) (hr.mono (by decide)) (by rfl) T.g_lines_in_order T.F_lines_in_order.kp T.b_lines_in_order (pda_cons (pd_var 2) pda_nil))))))))
theorem ok_all_lines (T : Txt K mg) : FnOk P w K mg base CX0 7 T.a_all_lines T.fd_all_lines ["one", "other"] (spD K 2 d_all_lines) :=
  fn_den (k := 6) T.F_all_lines sc_all_lines finM_ok rfl rfl (fun cdv A outer s H E hr =>
    (pdss_one (pds_ret (pd_lcM (own := [("line", 2)]) rfl sc_all_lines.nd (pdi_any (pd_call (ok_lines_of T) (hr.mono (by decide)) (by rfl) T.g_lines_of T.F_lines_of.kp T.b_lines_of (pda_cons (pd_op op_addA rs_add (pd_callT call_list_of rn_list.rcs (by rfl) T.m_list bt_list (pda_cons (pd_var 0) pda_nil)) (pd_callT call_list_of rn_list.rcs (by rfl) T.m_list bt_list (pda_cons (pd_var 1) pda_nil))) pda_nil))) (blkOk_by (by kernel_rfl)) (fun _ _ _ _ _ => (pdg_name (i := 2) sc_all_lines.nd rfl (by first | exact Or.inl rfl | exact Or.inr rfl))) (fun _ _ _ _ _ => (pdts_one (pdt_w (pdw_and (pdt_val (pd_call (ok_halves T) (hr.mono (by decide)) (by rfl) T.g_halves T.F_halves.kp T.b_halves (pda_cons (pd_var 2) (pda_cons (pd_var 0) pda_nil)))) (pdw_and1 (pdt_val (pd_call (ok_halves T) (hr.mono (by decide)) (by rfl) T.g_halves T.F_halves.kp T.b_halves (pda_cons (pd_var 2) (pda_cons (pd_var 1) pda_nil))))))))) (fun _ _ _ _ _ => (pd_var 2)) (by decide)))))
theorem ok_law_pot (T : Txt K mg) : FnOk P w K mg base CX0 2 T.a_law_pot T.fd_law_pot ["script", "k"] (spD K 2 d_law_pot) :=
  fn_den (k := 1) T.F_law_pot sc_law_pot finM_ok rfl rfl (fun cdv A outer s H E hr =>
    (pdss_cons (pds_set (i := 2) sc_law_pot.nd rfl (by first | exact Or.inl rfl | exact Or.inr rfl) (pd_ifE (pdt_cmp op_lt rs_lt (pd_var 1) (pd_callB call_len rc_len (by rfl) T.m_len bt_len (pda_cons (pd_var 0) pda_nil)) (nomark _)) (pd_ix ix_seq rs_ix (pd_var 0) (pd_var 1) (fun _ _ => rfl)) pd_int))
    (pdss_cons (pds_set (i := 3) sc_law_pot.nd rfl (by first | exact Or.inl rfl | exact Or.inr rfl) (pd_op op_addA rs_add pd_int (pd_op op_mulX rs_mul pd_int (pd_var 1))))
    (pdss_cons (pds_for PassesOwn.never rfl (pdi_any (pd_slice (pd_var 0) pdo_none (pdo_some pd_int))) (pdg_name (i := 4) sc_law_pot.nd rfl (by first | exact Or.inl rfl | exact Or.inr rfl)) (pdss_one (pds_set (i := 3) sc_law_pot.nd rfl (by first | exact Or.inl rfl | exact Or.inr rfl) (pd_op op_mod rs_mod (pd_op op_addA rs_add (pd_op op_mulX rs_mul (pd_var 3) pd_int) (pd_var 4)) pd_int))))
    (pdss_one (pds_ret (pd_lstM (pda_cons (pd_callB (call_max2 rfl) rc_max2 (by rfl) T.m_max bt_max (pda_cons pd_int (pda_cons (pd_op op_sub rs_sub (pd_var 2) (pd_op op_pow rs_pow pd_int pd_int)) pda_nil))) (pda_cons (pd_var 3) pda_nil)))))))))
theorem ok_law_take (T : Txt K mg) : FnOk P w K mg base CX0 2 T.a_law_take T.fd_law_take ["pot", "many"] (spD K 2 d_law_take) :=
  fn_den (k := 1) T.F_law_take sc_law_take finP_ok rfl rfl (fun cdv A outer s H E hr =>
    (pdss_cons (pds_if (pdt_cmp op_gt rs_gt (pd_ix ix_seq rs_ix (pd_var 0) pd_int (fun _ _ => rfl)) pd_int (nomark _)) (pdss_cons (pds_set (i := 2) sc_law_take.nd rfl (by first | exact Or.inl rfl | exact Or.inr rfl) (pd_op op_mod rs_mod (pd_ix ix_seq rs_ix (pd_var 0) pd_int (fun _ _ => rfl)) (pd_var 1)))
    (pdss_cons (pds_asgX (pd_op op_fdivZ rs_fdiv (pd_ix ix_seq rs_ix (pd_var 0) pd_int (fun _ _ => rfl)) (pd_var 1)) (pdx_sub (pd_var 0) pd_int))
    (pdss_one (pds_ret (pd_var 2))))) pdss_nil)
    (pdss_cons (pds_asgX (pd_op op_mod rs_mod (pd_op op_addA rs_add (pd_op op_mulX rs_mul (pd_ix ix_seq rs_ix (pd_var 0) pd_int (fun _ _ => rfl)) pd_int) pd_int) pd_int) (pdx_sub (pd_var 0) pd_int))
    (pdss_one (pds_ret (pd_op op_mod rs_mod (pd_op op_fdivZ rs_fdiv (pd_op op_mod rs_mod (pd_op op_mulX rs_mul (pd_ix ix_seq rs_ix (pd_var 0) pd_int (fun _ _ => rfl)) (pd_ix ix_seq rs_ix (pd_var 0) pd_int (fun _ _ => rfl))) pd_int) pd_int) (pd_var 1)))))))
theorem ok_law_wide (T : Txt K mg) : FnOk P w K mg base CX0 3 T.a_law_wide T.fd_law_wide ["pot"] (spD K 1 d_law_wide) :=
  fn_den (k := 2) T.F_law_wide sc_law_wide finP_ok rfl rfl (fun cdv A outer s H E hr =>
    (pdss_cons (pds_set (i := 1) sc_law_wide.nd rfl (by first | exact Or.inl rfl | exact Or.inr rfl) pd_int)
    (pdss_cons (pds_for PassesOwn.never rfl (pdi_rng1 (by rfl) T.m_range pd_int) (pdg_name (i := 2) sc_law_wide.nd rfl (by first | exact Or.inl rfl | exact Or.inr rfl)) (pdss_one (pds_set (i := 1) sc_law_wide.nd rfl (by first | exact Or.inl rfl | exact Or.inr rfl) (pd_op op_addA rs_add (pd_op op_mulX rs_mul (pd_var 1) (pd_op op_pow rs_pow pd_int pd_int)) (pd_call (ok_law_take T) (hr.mono (by decide)) (by rfl) T.g_law_take T.F_law_take.kp T.b_law_take (pda_cons (pd_var 0) (pda_cons (pd_op op_pow rs_pow pd_int pd_int) pda_nil)))))))
    (pdss_one (pds_ret (pd_op op_addA rs_add (pd_op op_sub rs_sub (pd_op op_mod rs_mod (pd_var 1) (pd_op op_sub rs_sub (pd_op op_mulX rs_mul pd_int (pd_op op_pow rs_pow pd_int pd_int)) pd_int)) (pd_op op_pow rs_pow pd_int pd_int)) pd_int))))))
theorem ok_law_number (T : Txt K mg) : FnOk P w K mg base CX0 4 T.a_law_number T.fd_law_number ["pot"] (spD K 1 d_law_number) :=
  fn_den (k := 3) T.F_law_number sc_law_number finP_ok rfl rfl (fun cdv A outer s H E hr =>
    (pdss_cons (pds_if (pdt_cmp (op_eqD (hu64 hr)) rs_eq (pd_call (ok_law_take T) (hr.mono (by decide)) (by rfl) T.g_law_take T.F_law_take.kp T.b_law_take (pda_cons (pd_var 0) (pda_cons pd_int pda_nil))) pd_int (nomark _)) (pdss_one (pds_ret (pd_call (ok_law_wide T) (hr.mono (by decide)) (by rfl) T.g_law_wide T.F_law_wide.kp T.b_law_wide (pda_cons (pd_var 0) pda_nil)))) pdss_nil)
    (pdss_one (pds_ret (pd_op op_sub rs_sub (pd_call (ok_law_take T) (hr.mono (by decide)) (by rfl) T.g_law_take T.F_law_take.kp T.b_law_take (pda_cons (pd_var 0) (pda_cons pd_int pda_nil))) pd_int)))))
theorem ok_law_sum (T : Txt K mg) : FnOk P w K mg base CX0 2 T.a_law_sum T.fd_law_sum ["one", "two", "three"] (spD K 3 d_law_sum) :=
  fn_den (k := 1) T.F_law_sum sc_law_sum finP_ok rfl rfl (fun cdv A outer s H E hr =>
    (pdss_cons (pds_set (i := 3) sc_law_sum.nd rfl (by first | exact Or.inl rfl | exact Or.inr rfl) (pd_op op_mulX rs_mul (pd_ix ix_seq rs_ix (pd_var 0) pd_int (fun _ _ => rfl)) (pd_op op_sub rs_sub (pd_ix ix_seq rs_ix (pd_var 1) pd_int (fun _ _ => rfl)) (pd_ix ix_seq rs_ix (pd_var 2) pd_int (fun _ _ => rfl)))))
    (pdss_cons (pds_set (i := 3) sc_law_sum.nd rfl (by first | exact Or.inl rfl | exact Or.inr rfl) (pd_op op_addA rs_add (pd_var 3) (pd_op op_mulX rs_mul (pd_ix ix_seq rs_ix (pd_var 1) pd_int (fun _ _ => rfl)) (pd_op op_sub rs_sub (pd_ix ix_seq rs_ix (pd_var 2) pd_int (fun _ _ => rfl)) (pd_ix ix_seq rs_ix (pd_var 0) pd_int (fun _ _ => rfl))))))
    (pdss_one (pds_ret (pd_op op_addA rs_add (pd_var 3) (pd_op op_mulX rs_mul (pd_ix ix_seq rs_ix (pd_var 2) pd_int (fun _ _ => rfl)) (pd_op op_sub rs_sub (pd_ix ix_seq rs_ix (pd_var 0) pd_int (fun _ _ => rfl)) (pd_ix ix_seq rs_ix (pd_var 1) pd_int (fun _ _ => rfl))))))))))
theorem ok_law_is_free (T : Txt K mg) : FnOk P w K mg base CX0 3 T.a_law_is_free T.fd_law_is_free ["point", "some"] (spD K 2 d_law_is_free) :=
  fn_den (k := 2) T.F_law_is_free sc_law_is_free finP_ok rfl rfl (fun cdv A outer s H E hr =>
    (pdss_cons (pds_if (pdt_cmp (op_inD (hu65 hr)) rs_in (pd_var 0) (pd_var 1) (by rfl)) (pdss_one (pds_ret pd_bl)) pdss_nil)
    (pdss_cons (pds_for PassesOwn.never rfl (pdi_rng1 (by rfl) T.m_range (pd_callB call_len rc_len (by rfl) T.m_len bt_len (pda_cons (pd_var 1) pda_nil))) (pdg_name (i := 2) sc_law_is_free.nd rfl (by first | exact Or.inl rfl | exact Or.inr rfl)) (pdss_one (pds_if (pdt_cmp (op_inD (hu65 hr)) rs_in pd_int (pd_lc (own := [("other", 3)]) rfl sc_law_is_free.nd (pdi_any (pd_slice (pd_var 1) pdo_none (pdo_some (pd_var 2)))) (blkOk_by (by kernel_rfl)) (fun _ _ _ _ _ => (pdg_name (i := 3) sc_law_is_free.nd rfl (by first | exact Or.inl rfl | exact Or.inr rfl))) (fun _ _ _ _ _ => pdts_nil) (fun _ _ _ _ _ => (pd_call (ok_law_sum T) (hr.mono (by decide)) (by rfl) T.g_law_sum T.F_law_sum.kp T.b_law_sum (pda_cons (pd_ix ix_seq rs_ix (pd_var 1) (pd_var 2) (fun _ _ => rfl)) (pda_cons (pd_var 3) (pda_cons (pd_var 0) pda_nil))))) (by decide)) (by rfl)) (pdss_one (pds_ret pd_bl)) pdss_nil)))
    (pdss_one (pds_ret pd_bl)))))
theorem ok_law_free (T : Txt K mg) : FnOk P w K mg base CX0 5 T.a_law_free T.fd_law_free ["pot", "some"] (spD K 2 d_law_free) :=
  fn_den (k := 4) T.F_law_free sc_law_free finP_ok rfl rfl (fun cdv A outer s H E hr =>
    (pdss_cons (pds_for PassesOwn.never rfl (pdi_rng1 (by rfl) T.m_range pd_int) (pdg_name (i := 2) sc_law_free.nd rfl (by first | exact Or.inl rfl | exact Or.inr rfl)) (pdss_cons (pds_set (i := 3) sc_law_free.nd rfl (by first | exact Or.inl rfl | exact Or.inr rfl) (pd_tup (pda_cons (pd_call (ok_law_number T) (hr.mono (by decide)) (by rfl) T.g_law_number T.F_law_number.kp T.b_law_number (pda_cons (pd_var 0) pda_nil)) (pda_cons (pd_call (ok_law_number T) (hr.mono (by decide)) (by rfl) T.g_law_number T.F_law_number.kp T.b_law_number (pda_cons (pd_var 0) pda_nil)) pda_nil))))
    (pdss_one (pds_if (pdt_val (pd_call (ok_law_is_free T) (hr.mono (by decide)) (by rfl) T.g_law_is_free T.F_law_is_free.kp T.b_law_is_free (pda_cons (pd_var 3) (pda_cons (pd_var 1) pda_nil)))) (pdss_one (pds_ret (pd_var 3))) pdss_nil))))
    (pdss_cons (pds_set (i := 4) sc_law_free.nd rfl (by first | exact Or.inl rfl | exact Or.inr rfl) pd_int)
    (pdss_cons (pds_while FU PassesOwn.never (pdt_not (pdt_val (pd_call (ok_law_is_free T) (hr.mono (by decide)) (by rfl) T.g_law_is_free T.F_law_is_free.kp T.b_law_is_free (pda_cons (pd_tup (pda_cons (pd_var 4) (pda_cons (pd_op op_mulX rs_mul (pd_var 4) (pd_var 4)) pda_nil))) (pda_cons (pd_var 1) pda_nil))))) (pdss_one (pds_set (i := 4) sc_law_free.nd rfl (by first | exact Or.inl rfl | exact Or.inr rfl) (pd_op op_addA rs_add (pd_var 4) pd_int))))
    (pdss_one (pds_ret (pd_tup (pda_cons (pd_var 4) (pda_cons (pd_op op_mulX rs_mul (pd_var 4) (pd_var 4)) pda_nil)))))))))
theorem ok_law_odd_heaps (T : Txt K mg) : FnOk P w K mg base CX0 6 T.a_law_odd_heaps T.fd_law_odd_heaps ["pot", "most"] (spD K 2 d_law_odd_heaps) :=
  fn_den (k := 5) T.F_law_odd_heaps sc_law_odd_heaps finP_ok rfl rfl (fun cdv A outer s H E hr =>
    (pdss_cons (pds_set (i := 2) sc_law_odd_heaps.nd rfl (by first | exact Or.inl rfl | exact Or.inr rfl) (pd_lstM (pda_cons (pd_lstM pda_nil) (pda_cons (pd_lstM pda_nil) pda_nil))))
    (pdss_cons (pds_for PassesOwn.never rfl (pdi_any (pd_var 2)) (pdg_name (i := 3) sc_law_odd_heaps.nd rfl (by first | exact Or.inl rfl | exact Or.inr rfl)) (pdss_one (pds_for PassesOwn.never rfl (pdi_rng1 (by rfl) T.m_range (pd_op op_addA rs_add pd_int (pd_op op_mulX rs_mul pd_int (pd_call (ok_law_take T) (hr.mono (by decide)) (by rfl) T.g_law_take T.F_law_take.kp T.b_law_take (pda_cons (pd_var 0) (pda_cons (pd_var 1) pda_nil)))))) (pdg_name (i := 4) sc_law_odd_heaps.nd rfl (by first | exact Or.inl rfl | exact Or.inr rfl)) (pdss_one (pds_drop (pd_mut PySem.F.slot_list_append PySem.F.type_list_append mt_append rm_append (pd_var 3) (pda_cons (pd_call (ok_law_free T) (hr.mono (by decide)) (by rfl) T.g_law_free T.F_law_free.kp T.b_law_free (pda_cons (pd_var 0) (pda_cons (pd_op op_addA rs_add (pd_ix ix_seq rs_ix (pd_var 2) pd_int (fun _ _ => rfl)) (pd_ix ix_seq rs_ix (pd_var 2) pd_int (fun _ _ => rfl))) pda_nil))) pda_nil)))))))
    (pdss_one (pds_ret (pd_var 2))))))
theorem ok_law_gap (T : Txt K mg) : FnOk P w K mg base CX0 2 T.a_law_gap T.fd_law_gap ["heaps", "arrow"] (spD K 2 d_law_gap) :=
  fn_den (k := 1) T.F_law_gap sc_law_gap finP_ok rfl rfl (fun cdv A outer s H E hr =>
    (pdss_cons (pds_set (i := 2) sc_law_gap.nd rfl (by first | exact Or.inl rfl | exact Or.inr rfl) (pd_lstM pda_nil))
    (pdss_cons (pds_for PassesOwn.never rfl (pdi_any (pd_var 0)) (pdg_name (i := 3) sc_law_gap.nd rfl (by first | exact Or.inl rfl | exact Or.inr rfl)) (pdss_cons (pds_set (i := 4) sc_law_gap.nd rfl (by first | exact Or.inl rfl | exact Or.inr rfl) (pd_callB cr_sort rn_sort.rcs (by rfl) T.m_sorted bt_sorted (pda_cons (pd_lc (own := [("x", 5), ("y", 6)]) rfl sc_law_gap.nd (pdi_any (pd_var 3)) (blkOk_by (by kernel_rfl)) (fun _ _ _ _ _ => (pdg_tup rfl (pdgs_cons (pdg_name (i := 5) sc_law_gap.nd rfl (by first | exact Or.inl rfl | exact Or.inr rfl)) (pdgs_cons (pdg_name (i := 6) sc_law_gap.nd rfl (by first | exact Or.inl rfl | exact Or.inr rfl)) pdgs_nil)))) (fun _ _ _ _ _ => pdts_nil) (fun _ _ _ _ _ => (pd_op op_addA rs_add (pd_op op_mulX rs_mul (pd_ix ix_seq rs_ix (pd_var 1) pd_int (fun _ _ => rfl)) (pd_var 5)) (pd_op op_mulX rs_mul (pd_ix ix_seq rs_ix (pd_var 1) pd_int (fun _ _ => rfl)) (pd_var 6)))) (by decide)) pda_nil)))
    (pdss_one (pds_drop (pd_mut PySem.F.slot_list_append PySem.F.type_list_append mt_append rm_append (pd_var 2) (pda_cons (pd_ix ix_seq rs_ix (pd_var 4) (pd_op op_fdivZ rs_fdiv (pd_callB call_len rc_len (by rfl) T.m_len bt_len (pda_cons (pd_var 4) pda_nil)) pd_int) (fun _ _ => rfl)) pda_nil))))))
    (pdss_one (pds_ret (pd_op op_sub rs_sub (pd_ix ix_seq rs_ix (pd_var 2) pd_int (fun _ _ => rfl)) (pd_ix ix_seq rs_ix (pd_var 2) pd_int (fun _ _ => rfl))))))))
theorem ok_law_across (T : Txt K mg) : FnOk P w K mg base CX0 2 T.a_law_across T.fd_law_across ["one", "other"] (spD K 2 d_law_across) :=
  fn_den (k := 1) T.F_law_across sc_law_across finP_ok rfl rfl (fun cdv A outer s H E hr =>
    (pdss_one (pds_ret (pd_op op_sub rs_sub (pd_op op_mulX rs_mul (pd_ix ix_seq rs_ix (pd_var 0) pd_int (fun _ _ => rfl)) (pd_ix ix_seq rs_ix (pd_var 1) pd_int (fun _ _ => rfl))) (pd_op op_mulX rs_mul (pd_ix ix_seq rs_ix (pd_var 0) pd_int (fun _ _ => rfl)) (pd_ix ix_seq rs_ix (pd_var 1) pd_int (fun _ _ => rfl)))))))
theorem ok_law_first (T : Txt K mg) : FnOk P w K mg base CX0 3 T.a_law_first T.fd_law_first ["pot", "heaps"] (spD K 2 d_law_first) :=
  fn_den (k := 2) T.F_law_first sc_law_first finP_ok rfl rfl (fun cdv A outer s H E hr =>
    (pdss_cons (pds_set (i := 2) sc_law_first.nd rfl (by first | exact Or.inl rfl | exact Or.inr rfl) (pd_tup (pda_cons (pd_op op_sub rs_sub (pd_call (ok_law_take T) (hr.mono (by decide)) (by rfl) T.g_law_take T.F_law_take.kp T.b_law_take (pda_cons (pd_var 0) (pda_cons pd_int pda_nil))) pd_int) (pda_cons (pd_op op_addA rs_add pd_int (pd_call (ok_law_take T) (hr.mono (by decide)) (by rfl) T.g_law_take T.F_law_take.kp T.b_law_take (pda_cons (pd_var 0) (pda_cons pd_int pda_nil)))) pda_nil))))
    (pdss_cons (pds_while FU PassesOwn.never (pdt_cmp (op_eqD (hu64 hr)) rs_eq (pd_call (ok_law_gap T) (hr.mono (by decide)) (by rfl) T.g_law_gap T.F_law_gap.kp T.b_law_gap (pda_cons (pd_var 1) (pda_cons (pd_var 2) pda_nil))) pd_int (nomark _)) (pdss_one (pds_set (i := 2) sc_law_first.nd rfl (by first | exact Or.inl rfl | exact Or.inr rfl) (pd_tup (pda_cons (pd_op op_addA rs_add (pd_ix ix_seq rs_ix (pd_var 2) pd_int (fun _ _ => rfl)) pd_int) (pda_cons (pd_ix ix_seq rs_ix (pd_var 2) pd_int (fun _ _ => rfl)) pda_nil))))))
    (pdss_one (pds_ret (pd_var 2))))))
theorem ok_law_next (T : Txt K mg) : FnOk P w K mg base CX0 3 T.a_law_next T.fd_law_next ["pot", "one", "other"] (spD K 3 d_law_next) :=
  fn_den (k := 2) T.F_law_next sc_law_next finP_ok rfl rfl (fun cdv A outer s H E hr =>
    (pdss_cons (pds_if (pdt_cmp (op_eqD (hu64 hr)) rs_eq (pd_call (ok_law_across T) (hr.mono (by decide)) (by rfl) T.g_law_across T.F_law_across.kp T.b_law_across (pda_cons (pd_var 1) (pda_cons (pd_var 2) pda_nil))) pd_int (nomark _)) (pdss_cons (pds_set (i := 2) sc_law_next.nd rfl (by first | exact Or.inl rfl | exact Or.inr rfl) (pd_tup (pda_cons (pd_neg (pd_ix ix_seq rs_ix (pd_var 1) pd_int (fun _ _ => rfl))) (pda_cons (pd_ix ix_seq rs_ix (pd_var 1) pd_int (fun _ _ => rfl)) pda_nil))))
    (pdss_one (pds_set (i := 1) sc_law_next.nd rfl (by first | exact Or.inl rfl | exact Or.inr rfl) (pd_ix ix_seq rs_ix (pd_lst (pda_cons (pd_var 1) (pda_cons (pd_tup (pda_cons (pd_neg (pd_ix ix_seq rs_ix (pd_var 1) pd_int (fun _ _ => rfl))) (pda_cons (pd_neg (pd_ix ix_seq rs_ix (pd_var 1) pd_int (fun _ _ => rfl))) pda_nil))) pda_nil))) (pd_call (ok_law_take T) (hr.mono (by decide)) (by rfl) T.g_law_take T.F_law_take.kp T.b_law_take (pda_cons (pd_var 0) (pda_cons pd_int pda_nil))) (fun _ _ => rfl))))) pdss_nil)
    (pdss_cons (pds_par (i := 3) (j := 4) rfl sc_law_next.nd rfl rfl (by decide) rfl rfl (pda_cons (pd_op op_addA rs_add pd_int (pd_call (ok_law_take T) (hr.mono (by decide)) (by rfl) T.g_law_take T.F_law_take.kp T.b_law_take (pda_cons (pd_var 0) (pda_cons pd_int pda_nil)))) (pda_cons (pd_op op_addA rs_add pd_int (pd_call (ok_law_take T) (hr.mono (by decide)) (by rfl) T.g_law_take T.F_law_take.kp T.b_law_take (pda_cons (pd_var 0) (pda_cons pd_int pda_nil)))) pda_nil)) rfl)
    (pdss_one (pds_ret (pd_tup (pda_cons (pd_op op_addA rs_add (pd_op op_mulX rs_mul (pd_var 3) (pd_ix ix_seq rs_ix (pd_var 1) pd_int (fun _ _ => rfl))) (pd_op op_mulX rs_mul (pd_var 4) (pd_ix ix_seq rs_ix (pd_var 2) pd_int (fun _ _ => rfl)))) (pda_cons (pd_op op_addA rs_add (pd_op op_mulX rs_mul (pd_var 3) (pd_ix ix_seq rs_ix (pd_var 1) pd_int (fun _ _ => rfl))) (pd_op op_mulX rs_mul (pd_var 4) (pd_ix ix_seq rs_ix (pd_var 2) pd_int (fun _ _ => rfl)))) pda_nil))))))))
theorem ok_law_lies (T : Txt K mg) : FnOk P w K mg base CX0 3 T.a_law_lies T.fd_law_lies ["line", "one", "other"] (spD K 3 d_law_lies) :=
  fn_den (k := 2) T.F_law_lies sc_law_lies finP_ok rfl rfl (fun cdv A outer s H E hr =>
    (pdss_cons (pds_for PassesOwn.never rfl (pdi_any (pd_lst (pda_cons (pd_tup (pda_cons (pd_ix ix_seq rs_ix (pd_var 0) pd_int (fun _ _ => rfl)) (pda_cons (pd_ix ix_seq rs_ix (pd_var 0) pd_int (fun _ _ => rfl)) pda_nil))) (pda_cons (pd_tup (pda_cons (pd_neg (pd_ix ix_seq rs_ix (pd_var 0) pd_int (fun _ _ => rfl))) (pda_cons (pd_neg (pd_ix ix_seq rs_ix (pd_var 0) pd_int (fun _ _ => rfl))) pda_nil))) pda_nil)))) (pdg_name (i := 3) sc_law_lies.nd rfl (by first | exact Or.inl rfl | exact Or.inr rfl)) (pdss_one (pds_if (pdt_w (pdw_and (pdt_cmp op_gt rs_gt (pd_call (ok_law_across T) (hr.mono (by decide)) (by rfl) T.g_law_across T.F_law_across.kp T.b_law_across (pda_cons (pd_var 1) (pda_cons (pd_var 3) pda_nil))) pd_int (nomark _)) (pdw_and1 (pdt_cmp op_gt rs_gt (pd_call (ok_law_across T) (hr.mono (by decide)) (by rfl) T.g_law_across T.F_law_across.kp T.b_law_across (pda_cons (pd_var 3) (pda_cons (pd_var 2) pda_nil))) pd_int (nomark _))))) (pdss_one (pds_ret pd_bl)) pdss_nil)))
    (pdss_one (pds_ret pd_bl))))
theorem ok_law_odd_between (T : Txt K mg) : FnOk P w K mg base CX0 4 T.a_law_odd_between T.fd_law_odd_between ["lines", "one", "other"] (spD K 3 d_law_odd_between) :=
  fn_den (k := 3) T.F_law_odd_between sc_law_odd_between finP_ok rfl rfl (fun cdv A outer s H E hr =>
    (pdss_one (pds_ret (pd_cmp (op_eqD (hu64 hr)) rs_eq (pd_op op_mod rs_mod (pd_callB call_len rc_len (by rfl) T.m_len bt_len (pda_cons (pd_lc (own := [("line", 3)]) rfl sc_law_odd_between.nd (pdi_any (pd_var 0)) (blkOk_by (by kernel_rfl)) (fun _ _ _ _ _ => (pdg_name (i := 3) sc_law_odd_between.nd rfl (by first | exact Or.inl rfl | exact Or.inr rfl))) (fun _ _ _ _ _ => (pdts_one (pdt_val (pd_call (ok_law_lies T) (hr.mono (by decide)) (by rfl) T.g_law_lies T.F_law_lies.kp T.b_law_lies (pda_cons (pd_var 3) (pda_cons (pd_var 1) (pda_cons (pd_var 2) pda_nil))))))) (fun _ _ _ _ _ => (pd_var 3)) (by decide)) pda_nil)) pd_int) pd_int (nomark _)))))
theorem ok_law (T : Txt K mg) : FnOk P w K mg base CX0 8 T.a_law T.fd_law ["script"] (spD K 1 d_law) :=
  fn_den (k := 7) T.F_law sc_law finP_ok rfl rfl (fun cdv A outer s H E hr =>
    (pdss_cons (pds_for PassesOwn.never rfl (pdi_rng1 (by rfl) T.m_range (pd_callB (call_max2 rfl) rc_max2 (by rfl) T.m_max bt_max (pda_cons pd_int (pda_cons (pd_callB (call_min2 rfl) rc_min2 (by rfl) T.m_min bt_min (pda_cons (pd_callB call_len rc_len (by rfl) T.m_len bt_len (pda_cons (pd_var 0) pda_nil)) (pda_cons pd_int pda_nil))) pda_nil)))) (pdg_name (i := 1) sc_law.nd rfl (by first | exact Or.inl rfl | exact Or.inr rfl)) (pdss_cons (pds_set (i := 2) sc_law.nd rfl (by first | exact Or.inl rfl | exact Or.inr rfl) (pd_call (ok_law_pot T) (hr.mono (by decide)) (by rfl) T.g_law_pot T.F_law_pot.kp T.b_law_pot (pda_cons (pd_var 0) (pda_cons (pd_var 1) pda_nil))))
    (pdss_cons (pds_set (i := 3) sc_law.nd rfl (by first | exact Or.inl rfl | exact Or.inr rfl) (pd_call (ok_law_odd_heaps T) (hr.mono (by decide)) (by rfl) T.g_law_odd_heaps T.F_law_odd_heaps.kp T.b_law_odd_heaps (pda_cons (pd_var 2) (pda_cons pd_int pda_nil))))
    (pdss_cons (pds_set (i := 4) sc_law.nd rfl (by first | exact Or.inl rfl | exact Or.inr rfl) (pd_call (ok_all_lines T) (hr.mono (by decide)) (by rfl) T.g_all_lines T.F_all_lines.kp T.b_all_lines (pda_cons (pd_ix ix_seq rs_ix (pd_var 3) pd_int (fun _ _ => rfl)) (pda_cons (pd_ix ix_seq rs_ix (pd_var 3) pd_int (fun _ _ => rfl)) pda_nil))))
    (pdss_cons (pds_set (i := 5) sc_law.nd rfl (by first | exact Or.inl rfl | exact Or.inr rfl) (pd_call (ok_law_first T) (hr.mono (by decide)) (by rfl) T.g_law_first T.F_law_first.kp T.b_law_first (pda_cons (pd_var 2) (pda_cons (pd_var 3) pda_nil))))
    (pdss_cons (pds_set (i := 6) sc_law.nd rfl (by first | exact Or.inl rfl | exact Or.inr rfl) (pd_tup (pda_cons (pd_neg (pd_ix ix_seq rs_ix (pd_var 5) pd_int (fun _ _ => rfl))) (pda_cons (pd_neg (pd_ix ix_seq rs_ix (pd_var 5) pd_int (fun _ _ => rfl))) pda_nil))))
    (pdss_cons (pds_if (pdt_not (pdt_val (pd_callB (cr_all rfl) rc_all (by rfl) T.m_all bt_all (pda_cons (pd_lc (own := [("line", 10)]) rfl sc_law.nd (pdi_any (pd_var 4)) (blkOk_by (by kernel_rfl)) (fun _ _ _ _ _ => (pdg_name (i := 10) sc_law.nd rfl (by first | exact Or.inl rfl | exact Or.inr rfl))) (fun _ _ _ _ _ => pdts_nil) (fun _ _ _ _ _ => (pd_call (ok_law_lies T) (hr.mono (by decide)) (by rfl) T.g_law_lies T.F_law_lies.kp T.b_law_lies (pda_cons (pd_var 10) (pda_cons (pd_var 5) (pda_cons (pd_var 6) pda_nil))))) (by decide)) pda_nil)))) (pdss_one (pds_ret pd_bl)) pdss_nil)
    (pdss_one (pds_for PassesOwn.never rfl (pdi_rng1 (by rfl) T.m_range pd_int) (pdg_name (i := 7) sc_law.nd rfl (by first | exact Or.inl rfl | exact Or.inr rfl)) (pdss_cons (pds_if (pdt_not (pdt_val (pd_call (ok_law_odd_between T) (hr.mono (by decide)) (by rfl) T.g_law_odd_between T.F_law_odd_between.kp T.b_law_odd_between (pda_cons (pd_var 4) (pda_cons (pd_var 5) (pda_cons (pd_var 6) pda_nil)))))) (pdss_one (pds_ret pd_bl)) pdss_nil)
    (pdss_cons (pds_set (i := 8) sc_law.nd rfl (by first | exact Or.inl rfl | exact Or.inr rfl) (pd_call (ok_law_next T) (hr.mono (by decide)) (by rfl) T.g_law_next T.F_law_next.kp T.b_law_next (pda_cons (pd_var 2) (pda_cons (pd_var 5) (pda_cons (pd_var 6) pda_nil)))))
    (pdss_cons (pds_set (i := 9) sc_law.nd rfl (by first | exact Or.inl rfl | exact Or.inr rfl) (pd_call (ok_law_gap T) (hr.mono (by decide)) (by rfl) T.g_law_gap T.F_law_gap.kp T.b_law_gap (pda_cons (pd_var 3) (pda_cons (pd_var 8) pda_nil))))
    (pdss_one (pds_if (pdt_cmp op_lt rs_lt (pd_op op_mulX rs_mul (pd_var 9) (pd_call (ok_law_gap T) (hr.mono (by decide)) (by rfl) T.g_law_gap T.F_law_gap.kp T.b_law_gap (pda_cons (pd_var 3) (pda_cons (pd_var 5) pda_nil)))) pd_int (nomark _)) (pdss_one (pds_set (i := 6) sc_law.nd rfl (by first | exact Or.inl rfl | exact Or.inr rfl) (pd_var 8))) (pdss_one (pds_if (pdt_cmp (op_neD (hu64 hr)) rs_ne (pd_var 9) pd_int (nomark _)) (pdss_one (pds_set (i := 5) sc_law.nd rfl (by first | exact Or.inl rfl | exact Or.inr rfl) (pd_var 8))) pdss_nil))))))))))))))))
    (pdss_one (pds_ret pd_bl))))
end
set_option maxHeartbeats 4000000 in
theorem all_mk {P : Program} {w : World} {K : PySem.W.Frag} {h : Heap} {mg : Str → Option Value} {fa : Addr} (X : K.In h) (G : h.Ns mainGlobals mg) (hfa : mg "law" = some (.ref fa))
    {f0 : Addr} {od0 an0 : Option Addr} {sl0 : Array (Option Value)} {oc0 kV0 dc0 pm0 cd0 ct0 : Value}
    (a0 : PySem.W.nsIn K mainGlobals "places" = some (some (.ref f0))) (l0 : K.lookup f0 = some ⟨oc0, od0, .func (PySem.W.fnOf "places" "places" (defArgs s_places) (defBody s_places) (defScope s_places) .none kV0 dc0 pm0 an0 cd0 ct0), sl0⟩) (c0 : PySem.W.codeIn K cd0 "places" = true) (k0 : PySem.W.keepIn K (.ref f0) = true)
    {f1 : Addr} {od1 an1 : Option Addr} {sl1 : Array (Option Value)} {oc1 kV1 dc1 pm1 cd1 ct1 : Value}
    (a1 : PySem.W.nsIn K mainGlobals "sign_of" = some (some (.ref f1))) (l1 : K.lookup f1 = some ⟨oc1, od1, .func (PySem.W.fnOf "sign_of" "sign_of" (defArgs s_sign_of) (defBody s_sign_of) (defScope s_sign_of) .none kV1 dc1 pm1 an1 cd1 ct1), sl1⟩) (c1 : PySem.W.codeIn K cd1 "sign_of" = true) (k1 : PySem.W.keepIn K (.ref f1) = true)
    {f2 : Addr} {od2 an2 : Option Addr} {sl2 : Array (Option Value)} {oc2 kV2 dc2 pm2 cd2 ct2 : Value}
    (a2 : PySem.W.nsIn K mainGlobals "common" = some (some (.ref f2))) (l2 : K.lookup f2 = some ⟨oc2, od2, .func (PySem.W.fnOf "common" "common" (defArgs s_common) (defBody s_common) (defScope s_common) .none kV2 dc2 pm2 an2 cd2 ct2), sl2⟩) (c2 : PySem.W.codeIn K cd2 "common" = true) (k2 : PySem.W.keepIn K (.ref f2) = true)
    {f3 : Addr} {od3 an3 : Option Addr} {sl3 : Array (Option Value)} {oc3 kV3 dc3 pm3 cd3 ct3 : Value}
    (a3 : PySem.W.nsIn K mainGlobals "through" = some (some (.ref f3))) (l3 : K.lookup f3 = some ⟨oc3, od3, .func (PySem.W.fnOf "through" "through" (defArgs s_through) (defBody s_through) (defScope s_through) .none kV3 dc3 pm3 an3 cd3 ct3), sl3⟩) (c3 : PySem.W.codeIn K cd3 "through" = true) (k3 : PySem.W.keepIn K (.ref f3) = true)
    {f4 : Addr} {od4 an4 : Option Addr} {sl4 : Array (Option Value)} {oc4 kV4 dc4 pm4 cd4 ct4 : Value}
    (a4 : PySem.W.nsIn K mainGlobals "side" = some (some (.ref f4))) (l4 : K.lookup f4 = some ⟨oc4, od4, .func (PySem.W.fnOf "side" "side" (defArgs s_side) (defBody s_side) (defScope s_side) .none kV4 dc4 pm4 an4 cd4 ct4), sl4⟩) (c4 : PySem.W.codeIn K cd4 "side" = true) (k4 : PySem.W.keepIn K (.ref f4) = true)
    {f5 : Addr} {od5 an5 : Option Addr} {sl5 : Array (Option Value)} {oc5 kV5 dc5 pm5 cd5 ct5 : Value}
    (a5 : PySem.W.nsIn K mainGlobals "counts" = some (some (.ref f5))) (l5 : K.lookup f5 = some ⟨oc5, od5, .func (PySem.W.fnOf "counts" "counts" (defArgs s_counts) (defBody s_counts) (defScope s_counts) .none kV5 dc5 pm5 an5 cd5 ct5), sl5⟩) (c5 : PySem.W.codeIn K cd5 "counts" = true) (k5 : PySem.W.keepIn K (.ref f5) = true)
    {f6 : Addr} {od6 an6 : Option Addr} {sl6 : Array (Option Value)} {oc6 kV6 dc6 pm6 cd6 ct6 : Value}
    (a6 : PySem.W.nsIn K mainGlobals "halves" = some (some (.ref f6))) (l6 : K.lookup f6 = some ⟨oc6, od6, .func (PySem.W.fnOf "halves" "halves" (defArgs s_halves) (defBody s_halves) (defScope s_halves) .none kV6 dc6 pm6 an6 cd6 ct6), sl6⟩) (c6 : PySem.W.codeIn K cd6 "halves" = true) (k6 : PySem.W.keepIn K (.ref f6) = true)
    {f7 : Addr} {od7 an7 : Option Addr} {sl7 : Array (Option Value)} {oc7 kV7 dc7 pm7 cd7 ct7 : Value}
    (a7 : PySem.W.nsIn K mainGlobals "is_ahead" = some (some (.ref f7))) (l7 : K.lookup f7 = some ⟨oc7, od7, .func (PySem.W.fnOf "is_ahead" "is_ahead" (defArgs s_is_ahead) (defBody s_is_ahead) (defScope s_is_ahead) .none kV7 dc7 pm7 an7 cd7 ct7), sl7⟩) (c7 : PySem.W.codeIn K cd7 "is_ahead" = true) (k7 : PySem.W.keepIn K (.ref f7) = true)
    {f8 : Addr} {od8 an8 : Option Addr} {sl8 : Array (Option Value)} {oc8 kV8 dc8 pm8 cd8 ct8 : Value}
    (a8 : PySem.W.nsIn K mainGlobals "goes_first" = some (some (.ref f8))) (l8 : K.lookup f8 = some ⟨oc8, od8, .func (PySem.W.fnOf "goes_first" "goes_first" (defArgs s_goes_first) (defBody s_goes_first) (defScope s_goes_first) .none kV8 dc8 pm8 an8 cd8 ct8), sl8⟩) (c8 : PySem.W.codeIn K cd8 "goes_first" = true) (k8 : PySem.W.keepIn K (.ref f8) = true)
    {f9 : Addr} {od9 an9 : Option Addr} {sl9 : Array (Option Value)} {oc9 kV9 dc9 pm9 cd9 ct9 : Value}
    (a9 : PySem.W.nsIn K mainGlobals "merged" = some (some (.ref f9))) (l9 : K.lookup f9 = some ⟨oc9, od9, .func (PySem.W.fnOf "merged" "merged" (defArgs s_merged) (defBody s_merged) (defScope s_merged) .none kV9 dc9 pm9 an9 cd9 ct9), sl9⟩) (c9 : PySem.W.codeIn K cd9 "merged" = true) (k9 : PySem.W.keepIn K (.ref f9) = true)
    {f10 : Addr} {od10 an10 : Option Addr} {sl10 : Array (Option Value)} {oc10 kV10 dc10 pm10 cd10 ct10 : Value}
    (a10 : PySem.W.nsIn K mainGlobals "lines_in_order" = some (some (.ref f10))) (l10 : K.lookup f10 = some ⟨oc10, od10, .func (PySem.W.fnOf "lines_in_order" "lines_in_order" (defArgs s_lines_in_order) (defBody s_lines_in_order) (defScope s_lines_in_order) .none kV10 dc10 pm10 an10 cd10 ct10), sl10⟩) (c10 : PySem.W.codeIn K cd10 "lines_in_order" = true) (k10 : PySem.W.keepIn K (.ref f10) = true)
    {f11 : Addr} {od11 an11 : Option Addr} {sl11 : Array (Option Value)} {oc11 kV11 dc11 pm11 cd11 ct11 : Value}
    (a11 : PySem.W.nsIn K mainGlobals "lines_of" = some (some (.ref f11))) (l11 : K.lookup f11 = some ⟨oc11, od11, .func (PySem.W.fnOf "lines_of" "lines_of" (defArgs s_lines_of) (defBody s_lines_of) (defScope s_lines_of) .none kV11 dc11 pm11 an11 cd11 ct11), sl11⟩) (c11 : PySem.W.codeIn K cd11 "lines_of" = true) (k11 : PySem.W.keepIn K (.ref f11) = true)
    {f12 : Addr} {od12 an12 : Option Addr} {sl12 : Array (Option Value)} {oc12 kV12 dc12 pm12 cd12 ct12 : Value}
    (a12 : PySem.W.nsIn K mainGlobals "all_lines" = some (some (.ref f12))) (l12 : K.lookup f12 = some ⟨oc12, od12, .func (PySem.W.fnOf "all_lines" "all_lines" (defArgs s_all_lines) (defBody s_all_lines) (defScope s_all_lines) .none kV12 dc12 pm12 an12 cd12 ct12), sl12⟩) (c12 : PySem.W.codeIn K cd12 "all_lines" = true) (k12 : PySem.W.keepIn K (.ref f12) = true)
    {f13 : Addr} {od13 an13 : Option Addr} {sl13 : Array (Option Value)} {oc13 kV13 dc13 pm13 cd13 ct13 : Value}
    (a13 : PySem.W.nsIn K mainGlobals "_law_pot" = some (some (.ref f13))) (l13 : K.lookup f13 = some ⟨oc13, od13, .func (PySem.W.fnOf "_law_pot" "_law_pot" (defArgs s_law_pot) (defBody s_law_pot) (defScope s_law_pot) .none kV13 dc13 pm13 an13 cd13 ct13), sl13⟩) (c13 : PySem.W.codeIn K cd13 "_law_pot" = true) (k13 : PySem.W.keepIn K (.ref f13) = true)
    {f14 : Addr} {od14 an14 : Option Addr} {sl14 : Array (Option Value)} {oc14 kV14 dc14 pm14 cd14 ct14 : Value}
    (a14 : PySem.W.nsIn K mainGlobals "_law_take" = some (some (.ref f14))) (l14 : K.lookup f14 = some ⟨oc14, od14, .func (PySem.W.fnOf "_law_take" "_law_take" (defArgs s_law_take) (defBody s_law_take) (defScope s_law_take) .none kV14 dc14 pm14 an14 cd14 ct14), sl14⟩) (c14 : PySem.W.codeIn K cd14 "_law_take" = true) (k14 : PySem.W.keepIn K (.ref f14) = true)
    {f15 : Addr} {od15 an15 : Option Addr} {sl15 : Array (Option Value)} {oc15 kV15 dc15 pm15 cd15 ct15 : Value}
    (a15 : PySem.W.nsIn K mainGlobals "_law_wide" = some (some (.ref f15))) (l15 : K.lookup f15 = some ⟨oc15, od15, .func (PySem.W.fnOf "_law_wide" "_law_wide" (defArgs s_law_wide) (defBody s_law_wide) (defScope s_law_wide) .none kV15 dc15 pm15 an15 cd15 ct15), sl15⟩) (c15 : PySem.W.codeIn K cd15 "_law_wide" = true) (k15 : PySem.W.keepIn K (.ref f15) = true)
    {f16 : Addr} {od16 an16 : Option Addr} {sl16 : Array (Option Value)} {oc16 kV16 dc16 pm16 cd16 ct16 : Value}
    (a16 : PySem.W.nsIn K mainGlobals "_law_number" = some (some (.ref f16))) (l16 : K.lookup f16 = some ⟨oc16, od16, .func (PySem.W.fnOf "_law_number" "_law_number" (defArgs s_law_number) (defBody s_law_number) (defScope s_law_number) .none kV16 dc16 pm16 an16 cd16 ct16), sl16⟩) (c16 : PySem.W.codeIn K cd16 "_law_number" = true) (k16 : PySem.W.keepIn K (.ref f16) = true)
    {f17 : Addr} {od17 an17 : Option Addr} {sl17 : Array (Option Value)} {oc17 kV17 dc17 pm17 cd17 ct17 : Value}
    (a17 : PySem.W.nsIn K mainGlobals "_law_sum" = some (some (.ref f17))) (l17 : K.lookup f17 = some ⟨oc17, od17, .func (PySem.W.fnOf "_law_sum" "_law_sum" (defArgs s_law_sum) (defBody s_law_sum) (defScope s_law_sum) .none kV17 dc17 pm17 an17 cd17 ct17), sl17⟩) (c17 : PySem.W.codeIn K cd17 "_law_sum" = true) (k17 : PySem.W.keepIn K (.ref f17) = true)
    {f18 : Addr} {od18 an18 : Option Addr} {sl18 : Array (Option Value)} {oc18 kV18 dc18 pm18 cd18 ct18 : Value}
    (a18 : PySem.W.nsIn K mainGlobals "_law_is_free" = some (some (.ref f18))) (l18 : K.lookup f18 = some ⟨oc18, od18, .func (PySem.W.fnOf "_law_is_free" "_law_is_free" (defArgs s_law_is_free) (defBody s_law_is_free) (defScope s_law_is_free) .none kV18 dc18 pm18 an18 cd18 ct18), sl18⟩) (c18 : PySem.W.codeIn K cd18 "_law_is_free" = true) (k18 : PySem.W.keepIn K (.ref f18) = true)
    {f19 : Addr} {od19 an19 : Option Addr} {sl19 : Array (Option Value)} {oc19 kV19 dc19 pm19 cd19 ct19 : Value}
    (a19 : PySem.W.nsIn K mainGlobals "_law_free" = some (some (.ref f19))) (l19 : K.lookup f19 = some ⟨oc19, od19, .func (PySem.W.fnOf "_law_free" "_law_free" (defArgs s_law_free) (defBody s_law_free) (defScope s_law_free) .none kV19 dc19 pm19 an19 cd19 ct19), sl19⟩) (c19 : PySem.W.codeIn K cd19 "_law_free" = true) (k19 : PySem.W.keepIn K (.ref f19) = true)
    {f20 : Addr} {od20 an20 : Option Addr} {sl20 : Array (Option Value)} {oc20 kV20 dc20 pm20 cd20 ct20 : Value}
    (a20 : PySem.W.nsIn K mainGlobals "_law_odd_heaps" = some (some (.ref f20))) (l20 : K.lookup f20 = some ⟨oc20, od20, .func (PySem.W.fnOf "_law_odd_heaps" "_law_odd_heaps" (defArgs s_law_odd_heaps) (defBody s_law_odd_heaps) (defScope s_law_odd_heaps) .none kV20 dc20 pm20 an20 cd20 ct20), sl20⟩) (c20 : PySem.W.codeIn K cd20 "_law_odd_heaps" = true) (k20 : PySem.W.keepIn K (.ref f20) = true)
    {f21 : Addr} {od21 an21 : Option Addr} {sl21 : Array (Option Value)} {oc21 kV21 dc21 pm21 cd21 ct21 : Value}
    (a21 : PySem.W.nsIn K mainGlobals "_law_gap" = some (some (.ref f21))) (l21 : K.lookup f21 = some ⟨oc21, od21, .func (PySem.W.fnOf "_law_gap" "_law_gap" (defArgs s_law_gap) (defBody s_law_gap) (defScope s_law_gap) .none kV21 dc21 pm21 an21 cd21 ct21), sl21⟩) (c21 : PySem.W.codeIn K cd21 "_law_gap" = true) (k21 : PySem.W.keepIn K (.ref f21) = true)
    {f22 : Addr} {od22 an22 : Option Addr} {sl22 : Array (Option Value)} {oc22 kV22 dc22 pm22 cd22 ct22 : Value}
    (a22 : PySem.W.nsIn K mainGlobals "_law_across" = some (some (.ref f22))) (l22 : K.lookup f22 = some ⟨oc22, od22, .func (PySem.W.fnOf "_law_across" "_law_across" (defArgs s_law_across) (defBody s_law_across) (defScope s_law_across) .none kV22 dc22 pm22 an22 cd22 ct22), sl22⟩) (c22 : PySem.W.codeIn K cd22 "_law_across" = true) (k22 : PySem.W.keepIn K (.ref f22) = true)
    {f23 : Addr} {od23 an23 : Option Addr} {sl23 : Array (Option Value)} {oc23 kV23 dc23 pm23 cd23 ct23 : Value}
    (a23 : PySem.W.nsIn K mainGlobals "_law_first" = some (some (.ref f23))) (l23 : K.lookup f23 = some ⟨oc23, od23, .func (PySem.W.fnOf "_law_first" "_law_first" (defArgs s_law_first) (defBody s_law_first) (defScope s_law_first) .none kV23 dc23 pm23 an23 cd23 ct23), sl23⟩) (c23 : PySem.W.codeIn K cd23 "_law_first" = true) (k23 : PySem.W.keepIn K (.ref f23) = true)
    {f24 : Addr} {od24 an24 : Option Addr} {sl24 : Array (Option Value)} {oc24 kV24 dc24 pm24 cd24 ct24 : Value}
    (a24 : PySem.W.nsIn K mainGlobals "_law_next" = some (some (.ref f24))) (l24 : K.lookup f24 = some ⟨oc24, od24, .func (PySem.W.fnOf "_law_next" "_law_next" (defArgs s_law_next) (defBody s_law_next) (defScope s_law_next) .none kV24 dc24 pm24 an24 cd24 ct24), sl24⟩) (c24 : PySem.W.codeIn K cd24 "_law_next" = true) (k24 : PySem.W.keepIn K (.ref f24) = true)
    {f25 : Addr} {od25 an25 : Option Addr} {sl25 : Array (Option Value)} {oc25 kV25 dc25 pm25 cd25 ct25 : Value}
    (a25 : PySem.W.nsIn K mainGlobals "_law_lies" = some (some (.ref f25))) (l25 : K.lookup f25 = some ⟨oc25, od25, .func (PySem.W.fnOf "_law_lies" "_law_lies" (defArgs s_law_lies) (defBody s_law_lies) (defScope s_law_lies) .none kV25 dc25 pm25 an25 cd25 ct25), sl25⟩) (c25 : PySem.W.codeIn K cd25 "_law_lies" = true) (k25 : PySem.W.keepIn K (.ref f25) = true)
    {f26 : Addr} {od26 an26 : Option Addr} {sl26 : Array (Option Value)} {oc26 kV26 dc26 pm26 cd26 ct26 : Value}
    (a26 : PySem.W.nsIn K mainGlobals "_law_odd_between" = some (some (.ref f26))) (l26 : K.lookup f26 = some ⟨oc26, od26, .func (PySem.W.fnOf "_law_odd_between" "_law_odd_between" (defArgs s_law_odd_between) (defBody s_law_odd_between) (defScope s_law_odd_between) .none kV26 dc26 pm26 an26 cd26 ct26), sl26⟩) (c26 : PySem.W.codeIn K cd26 "_law_odd_between" = true) (k26 : PySem.W.keepIn K (.ref f26) = true)
    {f27 : Addr} {od27 an27 : Option Addr} {sl27 : Array (Option Value)} {oc27 kV27 dc27 pm27 cd27 ct27 : Value}
    (a27 : PySem.W.nsIn K mainGlobals "law" = some (some (.ref f27))) (l27 : K.lookup f27 = some ⟨oc27, od27, .func (PySem.W.fnOf "law" "law" (defArgs s_law) (defBody s_law) (defScope s_law) .none kV27 dc27 pm27 an27 cd27 ct27), sl27⟩) (c27 : PySem.W.codeIn K cd27 "law" = true) (k27 : PySem.W.keepIn K (.ref f27) = true)
    (z_abs : PySem.W.nsIn K mainGlobals "abs" = some none)
    (z_all : PySem.W.nsIn K mainGlobals "all" = some none)
    (z_enumerate : PySem.W.nsIn K mainGlobals "enumerate" = some none)
    (z_int : PySem.W.nsIn K mainGlobals "int" = some none)
    (z_len : PySem.W.nsIn K mainGlobals "len" = some none)
    (z_list : PySem.W.nsIn K mainGlobals "list" = some none)
    (z_max : PySem.W.nsIn K mainGlobals "max" = some none)
    (z_min : PySem.W.nsIn K mainGlobals "min" = some none)
    (z_range : PySem.W.nsIn K mainGlobals "range" = some none)
    (z_set : PySem.W.nsIn K mainGlobals "set" = some none)
    (z_sorted : PySem.W.nsIn K mainGlobals "sorted" = some none)
    : ∃ fd : FuncData, (∀ (s : Shared) (v : Value), BindsTo s fd ⟨[v], []⟩ [("script", v)]) ∧ ∀ base : Heap, K.In base → base.Ns mainGlobals mg → FnOk P w K mg base CX0 8 fa fd ["script"] (spD K 1 d_law) := by
  have e := hfa.symm.trans (PySem.W.mg_of X G a27)
  cases e
  have F0 := fun_mk (st := s_places) l0 c0 k0
  have b0 := F0.binds (ps := ["heap"]) fun _ _ _ _ _ _ us hl => match us, hl with | [_], _ => rfl
  have F1 := fun_mk (st := s_sign_of) l1 c1 k1
  have b1 := F1.binds (ps := ["number"]) fun _ _ _ _ _ _ us hl => match us, hl with | [_], _ => rfl
  have F2 := fun_mk (st := s_common) l2 c2 k2
  have b2 := F2.binds (ps := ["one", "other"]) fun _ _ _ _ _ _ us hl => match us, hl with | [_, _], _ => rfl
  have F3 := fun_mk (st := s_through) l3 c3 k3
  have b3 := F3.binds (ps := ["one", "other"]) fun _ _ _ _ _ _ us hl => match us, hl with | [_, _], _ => rfl
  have F4 := fun_mk (st := s_side) l4 c4 k4
  have b4 := F4.binds (ps := ["line", "point"]) fun _ _ _ _ _ _ us hl => match us, hl with | [_, _], _ => rfl
  have F5 := fun_mk (st := s_counts) l5 c5 k5
  have b5 := F5.binds (ps := ["line", "heap"]) fun _ _ _ _ _ _ us hl => match us, hl with | [_, _], _ => rfl
  have F6 := fun_mk (st := s_halves) l6 c6 k6
  have b6 := F6.binds (ps := ["line", "heap"]) fun _ _ _ _ _ _ us hl => match us, hl with | [_, _], _ => rfl
  have F7 := fun_mk (st := s_is_ahead) l7 c7 k7
  have b7 := F7.binds (ps := ["one", "other"]) fun _ _ _ _ _ _ us hl => match us, hl with | [_, _], _ => rfl
  have F8 := fun_mk (st := s_goes_first) l8 c8 k8
  have b8 := F8.binds (ps := ["one", "other"]) fun _ _ _ _ _ _ us hl => match us, hl with | [_, _], _ => rfl
  have F9 := fun_mk (st := s_merged) l9 c9 k9
  have b9 := F9.binds (ps := ["one", "other"]) fun _ _ _ _ _ _ us hl => match us, hl with | [_, _], _ => rfl
  have F10 := fun_mk (st := s_lines_in_order) l10 c10 k10
  have b10 := F10.binds (ps := ["lines"]) fun _ _ _ _ _ _ us hl => match us, hl with | [_], _ => rfl
  have F11 := fun_mk (st := s_lines_of) l11 c11 k11
  have b11 := F11.binds (ps := ["heap"]) fun _ _ _ _ _ _ us hl => match us, hl with | [_], _ => rfl
  have F12 := fun_mk (st := s_all_lines) l12 c12 k12
  have b12 := F12.binds (ps := ["one", "other"]) fun _ _ _ _ _ _ us hl => match us, hl with | [_, _], _ => rfl
  have F13 := fun_mk (st := s_law_pot) l13 c13 k13
  have b13 := F13.binds (ps := ["script", "k"]) fun _ _ _ _ _ _ us hl => match us, hl with | [_, _], _ => rfl
  have F14 := fun_mk (st := s_law_take) l14 c14 k14
  have b14 := F14.binds (ps := ["pot", "many"]) fun _ _ _ _ _ _ us hl => match us, hl with | [_, _], _ => rfl
  have F15 := fun_mk (st := s_law_wide) l15 c15 k15
  have b15 := F15.binds (ps := ["pot"]) fun _ _ _ _ _ _ us hl => match us, hl with | [_], _ => rfl
  have F16 := fun_mk (st := s_law_number) l16 c16 k16
  have b16 := F16.binds (ps := ["pot"]) fun _ _ _ _ _ _ us hl => match us, hl with | [_], _ => rfl
  have F17 := fun_mk (st := s_law_sum) l17 c17 k17
  have b17 := F17.binds (ps := ["one", "two", "three"]) fun _ _ _ _ _ _ us hl => match us, hl with | [_, _, _], _ => rfl
  have F18 := fun_mk (st := s_law_is_free) l18 c18 k18
  have b18 := F18.binds (ps := ["point", "some"]) fun _ _ _ _ _ _ us hl => match us, hl with | [_, _], _ => rfl
  have F19 := fun_mk (st := s_law_free) l19 c19 k19
  have b19 := F19.binds (ps := ["pot", "some"]) fun _ _ _ _ _ _ us hl => match us, hl with | [_, _], _ => rfl
  have F20 := fun_mk (st := s_law_odd_heaps) l20 c20 k20
  have b20 := F20.binds (ps := ["pot", "most"]) fun _ _ _ _ _ _ us hl => match us, hl with | [_, _], _ => rfl
  have F21 := fun_mk (st := s_law_gap) l21 c21 k21
  have b21 := F21.binds (ps := ["heaps", "arrow"]) fun _ _ _ _ _ _ us hl => match us, hl with | [_, _], _ => rfl
  have F22 := fun_mk (st := s_law_across) l22 c22 k22
  have b22 := F22.binds (ps := ["one", "other"]) fun _ _ _ _ _ _ us hl => match us, hl with | [_, _], _ => rfl
  have F23 := fun_mk (st := s_law_first) l23 c23 k23
  have b23 := F23.binds (ps := ["pot", "heaps"]) fun _ _ _ _ _ _ us hl => match us, hl with | [_, _], _ => rfl
  have F24 := fun_mk (st := s_law_next) l24 c24 k24
  have b24 := F24.binds (ps := ["pot", "one", "other"]) fun _ _ _ _ _ _ us hl => match us, hl with | [_, _, _], _ => rfl
  have F25 := fun_mk (st := s_law_lies) l25 c25 k25
  have b25 := F25.binds (ps := ["line", "one", "other"]) fun _ _ _ _ _ _ us hl => match us, hl with | [_, _, _], _ => rfl
  have F26 := fun_mk (st := s_law_odd_between) l26 c26 k26
  have b26 := F26.binds (ps := ["lines", "one", "other"]) fun _ _ _ _ _ _ us hl => match us, hl with | [_, _, _], _ => rfl
  have F27 := fun_mk (st := s_law) l27 c27 k27
  have b27 := F27.binds (ps := ["script"]) fun _ _ _ _ _ _ us hl => match us, hl with | [_], _ => rfl
  let T : Txt K mg := { a_places := _, fd_places := _, g_places := PySem.W.mg_of X G a0, F_places := F0, b_places := b0, a_sign_of := _, fd_sign_of := _, g_sign_of := PySem.W.mg_of X G a1, F_sign_of := F1, b_sign_of := b1, a_common := _, fd_common := _, g_common := PySem.W.mg_of X G a2, F_common := F2, b_common := b2, a_through := _, fd_through := _, g_through := PySem.W.mg_of X G a3, F_through := F3, b_through := b3, a_side := _, fd_side := _, g_side := PySem.W.mg_of X G a4, F_side := F4, b_side := b4, a_counts := _, fd_counts := _, g_counts := PySem.W.mg_of X G a5, F_counts := F5, b_counts := b5, a_halves := _, fd_halves := _, g_halves := PySem.W.mg_of X G a6, F_halves := F6, b_halves := b6, a_is_ahead := _, fd_is_ahead := _, g_is_ahead := PySem.W.mg_of X G a7, F_is_ahead := F7, b_is_ahead := b7, a_goes_first := _, fd_goes_first := _, g_goes_first := PySem.W.mg_of X G a8, F_goes_first := F8, b_goes_first := b8, a_merged := _, fd_merged := _, g_merged := PySem.W.mg_of X G a9, F_merged := F9, b_merged := b9, a_lines_in_order := _, fd_lines_in_order := _, g_lines_in_order := PySem.W.mg_of X G a10, F_lines_in_order := F10, b_lines_in_order := b10, a_lines_of := _, fd_lines_of := _, g_lines_of := PySem.W.mg_of X G a11, F_lines_of := F11, b_lines_of := b11, a_all_lines := _, fd_all_lines := _, g_all_lines := PySem.W.mg_of X G a12, F_all_lines := F12, b_all_lines := b12, a_law_pot := _, fd_law_pot := _, g_law_pot := PySem.W.mg_of X G a13, F_law_pot := F13, b_law_pot := b13, a_law_take := _, fd_law_take := _, g_law_take := PySem.W.mg_of X G a14, F_law_take := F14, b_law_take := b14, a_law_wide := _, fd_law_wide := _, g_law_wide := PySem.W.mg_of X G a15, F_law_wide := F15, b_law_wide := b15, a_law_number := _, fd_law_number := _, g_law_number := PySem.W.mg_of X G a16, F_law_number := F16, b_law_number := b16, a_law_sum := _, fd_law_sum := _, g_law_sum := PySem.W.mg_of X G a17, F_law_sum := F17, b_law_sum := b17, a_law_is_free := _, fd_law_is_free := _, g_law_is_free := PySem.W.mg_of X G a18, F_law_is_free := F18, b_law_is_free := b18, a_law_free := _, fd_law_free := _, g_law_free := PySem.W.mg_of X G a19, F_law_free := F19, b_law_free := b19, a_law_odd_heaps := _, fd_law_odd_heaps := _, g_law_odd_heaps := PySem.W.mg_of X G a20, F_law_odd_heaps := F20, b_law_odd_heaps := b20, a_law_gap := _, fd_law_gap := _, g_law_gap := PySem.W.mg_of X G a21, F_law_gap := F21, b_law_gap := b21, a_law_across := _, fd_law_across := _, g_law_across := PySem.W.mg_of X G a22, F_law_across := F22, b_law_across := b22, a_law_first := _, fd_law_first := _, g_law_first := PySem.W.mg_of X G a23, F_law_first := F23, b_law_first := b23, a_law_next := _, fd_law_next := _, g_law_next := PySem.W.mg_of X G a24, F_law_next := F24, b_law_next := b24, a_law_lies := _, fd_law_lies := _, g_law_lies := PySem.W.mg_of X G a25, F_law_lies := F25, b_law_lies := b25, a_law_odd_between := _, fd_law_odd_between := _, g_law_odd_between := PySem.W.mg_of X G a26, F_law_odd_between := F26, b_law_odd_between := b26, a_law := _, fd_law := _, g_law := PySem.W.mg_of X G a27, F_law := F27, b_law := b27, m_abs := PySem.W.mg_none_of X G z_abs, m_all := PySem.W.mg_none_of X G z_all, m_enumerate := PySem.W.mg_none_of X G z_enumerate, m_int := PySem.W.mg_none_of X G z_int, m_len := PySem.W.mg_none_of X G z_len, m_list := PySem.W.mg_none_of X G z_list, m_max := PySem.W.mg_none_of X G z_max, m_min := PySem.W.mg_none_of X G z_min, m_range := PySem.W.mg_none_of X G z_range, m_set := PySem.W.mg_none_of X G z_set, m_sorted := PySem.W.mg_none_of X G z_sorted }
  exact ⟨T.fd_law, fun s v => .of_eq rfl, fun base _ _ => ok_law T⟩
end My

open PySem PySem.W PyProof.Rows
set_option maxRecDepth 100000 in
set_option maxHeartbeats 0 in
theorem PySem.Challenge.cw_halveline_k54_whole_odd_between_ends_holds : PySem.Challenge.rw_halveline_k54_whole_odd_between_ends.Holds := by
  w_on; o_law; k_head; (case hw => w_witness2)
  k_fill
  refine L2.walk_of (l := PySem.Challenge.rw_halveline_k54_whole_odd_between_ends) (n := 63) (k := 8) (x := "script") (CX := fun _ => L2.CX0) (sp := fun w => PD.spD _ 1 My.d_law) rfl (by decide) rfl ⟨rfl, by decide, by decide⟩ (fun w h Y => PySem.W.kIn_of Y) ?F (fun _ H a ns hl _ hS => PD.law_sp My.law_true H a ns hl hS) (fun _ _ _ _ _ h => h)
  case F =>
    intro w mg fa h KX G hmg
    refine' My.all_mk KX G hmg ?a0 ?l0 ?c0 ?k0 ?a1 ?l1 ?c1 ?k1 ?a2 ?l2 ?c2 ?k2 ?a3 ?l3 ?c3 ?k3 ?a4 ?l4 ?c4 ?k4 ?a5 ?l5 ?c5 ?k5 ?a6 ?l6 ?c6 ?k6 ?a7 ?l7 ?c7 ?k7 ?a8 ?l8 ?c8 ?k8 ?a9 ?l9 ?c9 ?k9 ?a10 ?l10 ?c10 ?k10 ?a11 ?l11 ?c11 ?k11 ?a12 ?l12 ?c12 ?k12 ?a13 ?l13 ?c13 ?k13 ?a14 ?l14 ?c14 ?k14 ?a15 ?l15 ?c15 ?k15 ?a16 ?l16 ?c16 ?k16 ?a17 ?l17 ?c17 ?k17 ?a18 ?l18 ?c18 ?k18 ?a19 ?l19 ?c19 ?k19 ?a20 ?l20 ?c20 ?k20 ?a21 ?l21 ?c21 ?k21 ?a22 ?l22 ?c22 ?k22 ?a23 ?l23 ?c23 ?k23 ?a24 ?l24 ?c24 ?k24 ?a25 ?l25 ?c25 ?k25 ?a26 ?l26 ?c26 ?k26 ?a27 ?l27 ?c27 ?k27 ?z_abs ?z_all ?z_enumerate ?z_int ?z_len ?z_list ?z_max ?z_min ?z_range ?z_set ?z_sorted
    (case a0 => k_is); (case l0 => k_is); (case c0 => k_is); (case k0 => k_is); (case a1 => k_is); (case l1 => k_is); (case c1 => k_is); (case k1 => k_is); (case a2 => k_is); (case l2 => k_is); (case c2 => k_is); (case k2 => k_is); (case a3 => k_is); (case l3 => k_is); (case c3 => k_is); (case k3 => k_is); (case a4 => k_is); (case l4 => k_is); (case c4 => k_is); (case k4 => k_is); (case a5 => k_is); (case l5 => k_is); (case c5 => k_is); (case k5 => k_is); (case a6 => k_is); (case l6 => k_is); (case c6 => k_is); (case k6 => k_is); (case a7 => k_is); (case l7 => k_is); (case c7 => k_is); (case k7 => k_is); (case a8 => k_is); (case l8 => k_is); (case c8 => k_is); (case k8 => k_is); (case a9 => k_is); (case l9 => k_is); (case c9 => k_is); (case k9 => k_is); (case a10 => k_is); (case l10 => k_is); (case c10 => k_is); (case k10 => k_is); (case a11 => k_is); (case l11 => k_is); (case c11 => k_is); (case k11 => k_is); (case a12 => k_is); (case l12 => k_is); (case c12 => k_is); (case k12 => k_is); (case a13 => k_is); (case l13 => k_is); (case c13 => k_is); (case k13 => k_is); (case a14 => k_is); (case l14 => k_is); (case c14 => k_is); (case k14 => k_is); (case a15 => k_is); (case l15 => k_is); (case c15 => k_is); (case k15 => k_is); (case a16 => k_is); (case l16 => k_is); (case c16 => k_is); (case k16 => k_is); (case a17 => k_is); (case l17 => k_is); (case c17 => k_is); (case k17 => k_is); (case a18 => k_is); (case l18 => k_is); (case c18 => k_is); (case k18 => k_is); (case a19 => k_is); (case l19 => k_is); (case c19 => k_is); (case k19 => k_is); (case a20 => k_is); (case l20 => k_is); (case c20 => k_is); (case k20 => k_is); (case a21 => k_is); (case l21 => k_is); (case c21 => k_is); (case k21 => k_is); (case a22 => k_is); (case l22 => k_is); (case c22 => k_is); (case k22 => k_is); (case a23 => k_is); (case l23 => k_is); (case c23 => k_is); (case k23 => k_is); (case a24 => k_is); (case l24 => k_is); (case c24 => k_is); (case k24 => k_is); (case a25 => k_is); (case l25 => k_is); (case c25 => k_is); (case k25 => k_is); (case a26 => k_is); (case l26 => k_is); (case c26 => k_is); (case k26 => k_is); (case a27 => k_is); (case l27 => k_is); (case c27 => k_is); (case k27 => k_is); (case z_abs => k_is); (case z_all => k_is); (case z_enumerate => k_is); (case z_int => k_is); (case z_len => k_is); (case z_list => k_is); (case z_max => k_is); (case z_min => k_is); (case z_range => k_is); (case z_set => k_is); (case z_sorted => k_is)

