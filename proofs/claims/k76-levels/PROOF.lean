import PyProof.Rows.All
import Wide.All
import OpenK.AllK
import Wide.FinOn
import HandS.ForMost
import HandS.TupAny
import HandS.TupLe
import HandS.Deep
import HandS.Wide
import HandS.WideBits
import PyProof.StrOps2
import HandS.Conv
import HandS.IsInst
import HandS.TryOnly
import HandS.Defaults
import HandS.RevTup
import HandS.Rev
import HandS.Codes
import HandS.Text
import HandS.Iter
import PyProof.ReprRoads
import HandS.EndBits
import HandS.HeadEnd
import HandS.Head0
import HandS.Head1
import HandS.Head2
import HandS.HeadHook1
import HandS.HeadHook2
import PySem.Challenge.RW_saidhere_k76_whole_levels_of_long_rows
set_option Elab.async false
set_option linter.all false
set_option maxRecDepth 100000
/-! ML1: values as trees, a heap of numbered mutable objects, the relation to the hand layer's heap; expressions and statements as functions. -/
namespace ML
open PySem PySem.Spec PyProof.Rows L2

/-- a value as a tree; loc n is the n-th mutable object -/
inductive PV where
  | non | bl (b : Bool) | int (i : Int) | str (s : Str) | ty (n : String) | ad (a : Addr)
  | scr (ns : List Int)
  | tup (ts : List PV) | lst (ts : List PV)
  | obj (C : Addr) (ns : List Str) (ts : List PV)
  | dk (ks : List Key) (ts : List PV)
  | dt (ks : List (List Key)) (ts : List PV)
  | loc (n : Nat)

abbrev Pm := List (Option Addr)

mutual
def Rep (K : PySem.W.Frag) (G : Hp) (p : Pm) : PV → V → Prop
  | .non, v => v = .non
  | .bl b, v => v = .bl b
  | .int i, v => v = .int i
  | .str s, v => v = .str s
  | .ty n, v => v = .ty n
  | .ad a, v => v = .ref a
  | .scr ns, v => ∃ a, v = .ref a ∧ SqL K G a (ns.map V.int)
  | .tup ts, v => ∃ a vs, v = .ref a ∧ G a = some (.tup vs) ∧ Reps K G p ts vs
  | .lst ts, v => ∃ a vs, v = .ref a ∧ G a = some (.lst vs) ∧ Reps K G p ts vs
  | .obj C ns ts, v => ∃ a dx gs, v = .ref a ∧ G a = some (.ins C dx gs) ∧ gs.map (·.1) = ns ∧ Reps K G p ts (gs.map (·.2))
  | .dk ks ts, v => ∃ a kvs, v = .ref a ∧ G a = some (.dK kvs) ∧ kvs.map (·.1) = ks ∧ Reps K G p ts (kvs.map (·.2))
  | .dt ks ts, v => ∃ a kvs, v = .ref a ∧ G a = some (.dT kvs) ∧ kvs.map (·.1) = ks ∧ Reps K G p ts (kvs.map (·.2))
  | .loc n, v => ∃ a, v = .ref a ∧ p[n]? = some (some a)
def Reps (K : PySem.W.Frag) (G : Hp) (p : Pm) : List PV → List V → Prop
  | [], vs => vs = []
  | t :: ts, vs => ∃ v ws, vs = v :: ws ∧ Rep K G p t v ∧ Reps K G p ts ws
end

/-- what stands at the address a, its parts in G -/
def RepO (K : PySem.W.Frag) (H G : Hp) (p : Pm) : PV → Addr → Prop
  | .lst ts, a => ∃ vs, H a = some (.lst vs) ∧ Reps K G p ts vs
  | .obj C ns ts, a => ∃ dx gs, H a = some (.ins C dx gs) ∧ gs.map (·.1) = ns ∧ Reps K G p ts (gs.map (·.2))
  | .dk ks ts, a => ∃ kvs, H a = some (.dK kvs) ∧ kvs.map (·.1) = ks ∧ Reps K G p ts (kvs.map (·.2))
  | .dt ks ts, a => ∃ kvs, H a = some (.dT kvs) ∧ kvs.map (·.1) = ks ∧ Reps K G p ts (kvs.map (·.2))
  | _, _ => False

/-- the map grows: what had an address has it still -/
def Le (p q : Pm) : Prop := ∀ (n : Nat) (a : Addr), p[n]? = some (some a) → q[n]? = some (some a)
theorem Le.refl (p : Pm) : Le p p := fun _ _ h => h
theorem Le.trans {p q r : Pm} (h : Le p q) (h' : Le q r) : Le p r := fun n a e => h' n a (h n a e)
theorem Le.app (p r : Pm) : Le p (p ++ r) := fun n a e => by
  have hn : n < p.length := (List.getElem?_eq_some_iff.mp e).1
  rw [List.getElem?_append_left hn]; exact e

theorem sqT_mono {K : PySem.W.Frag} {G G' : Hp} {a : Addr} {vs : List V} (s : Same G G') (h : SqT K G a vs) : SqT K G' a vs := by
  rcases h with h | h
  · rcases h with h | ⟨o, h⟩
    · exact .inl (.inl (s _ _ h))
    · exact .inl (.inr ⟨o, s _ _ h⟩)
  · exact .inr h

mutual
theorem Rep.mono {K : PySem.W.Frag} {G G' : Hp} {p q : Pm} (s : Same G G') (l : Le p q) : ∀ (t : PV) {v : V}, Rep K G p t v → Rep K G' q t v
  | .non, _, h => by simpa only [Rep] using h
  | .bl _, _, h => by simpa only [Rep] using h
  | .int _, _, h => by simpa only [Rep] using h
  | .str _, _, h => by simpa only [Rep] using h
  | .ty _, _, h => by simpa only [Rep] using h
  | .ad _, _, h => by simpa only [Rep] using h
  | .scr _, _, h => by simp only [Rep] at h ⊢; obtain ⟨a, e, h⟩ := h; exact ⟨a, e, s.seq h⟩
  | .tup ts, _, h => by simp only [Rep] at h ⊢; obtain ⟨a, vs, e, h, r⟩ := h; exact ⟨a, vs, e, s _ _ h, Reps.mono s l ts r⟩
  | .lst ts, _, h => by simp only [Rep] at h ⊢; obtain ⟨a, vs, e, h, r⟩ := h; exact ⟨a, vs, e, s _ _ h, Reps.mono s l ts r⟩
  | .obj C ns ts, _, h => by simp only [Rep] at h ⊢; obtain ⟨a, dx, gs, e, h, e2, r⟩ := h; exact ⟨a, dx, gs, e, s _ _ h, e2, Reps.mono s l ts r⟩
  | .dk ks ts, _, h => by simp only [Rep] at h ⊢; obtain ⟨a, kvs, e, h, e2, r⟩ := h; exact ⟨a, kvs, e, s _ _ h, e2, Reps.mono s l ts r⟩
  | .dt ks ts, _, h => by simp only [Rep] at h ⊢; obtain ⟨a, kvs, e, h, e2, r⟩ := h; exact ⟨a, kvs, e, s _ _ h, e2, Reps.mono s l ts r⟩
  | .loc n, _, h => by simp only [Rep] at h ⊢; obtain ⟨a, e, h⟩ := h; exact ⟨a, e, l _ _ h⟩
theorem Reps.mono {K : PySem.W.Frag} {G G' : Hp} {p q : Pm} (s : Same G G') (l : Le p q) : ∀ (ts : List PV) {vs : List V}, Reps K G p ts vs → Reps K G' q ts vs
  | [], _, h => by simpa only [Reps] using h
  | t :: ts, _, h => by simp only [Reps] at h ⊢; obtain ⟨v, ws, e, r, rs⟩ := h; exact ⟨v, ws, e, Rep.mono s l t r, Reps.mono s l ts rs⟩
end
theorem RepO.mono {K : PySem.W.Frag} {H H' G G' : Hp} {p q : Pm} (s : Same G G') (l : Le p q) {t : PV} {a : Addr} (e : ∀ o, H a = some o → H' a = some o) (h : RepO K H G p t a) : RepO K H' G' q t a := by
  cases t <;> simp only [RepO] at h ⊢
  case lst => obtain ⟨vs, h, r⟩ := h; exact ⟨vs, e _ h, Reps.mono s l _ r⟩
  case obj => obtain ⟨dx, gs, h, e2, r⟩ := h; exact ⟨dx, gs, e _ h, e2, Reps.mono s l _ r⟩
  case dk => obtain ⟨kvs, h, e2, r⟩ := h; exact ⟨kvs, e _ h, e2, Reps.mono s l _ r⟩
  case dt => obtain ⟨kvs, h, e2, r⟩ := h; exact ⟨kvs, e _ h, e2, Reps.mono s l _ r⟩

theorem Reps.len {K : PySem.W.Frag} {G : Hp} {p : Pm} : ∀ {ts : List PV} {vs : List V}, Reps K G p ts vs → vs.length = ts.length
  | [], _, h => by simp only [Reps] at h; subst h; rfl
  | t :: ts, _, h => by simp only [Reps] at h; obtain ⟨v, ws, rfl, _, r⟩ := h; simp [Reps.len r]
theorem Reps.get {K : PySem.W.Frag} {G : Hp} {p : Pm} : ∀ {ts : List PV} {vs : List V}, Reps K G p ts vs → ∀ {i : Nat} {t : PV}, ts[i]? = some t → ∃ v, vs[i]? = some v ∧ Rep K G p t v
  | [], _, _, _, _, e => by simp at e
  | t :: ts, _, h, 0, _, e => by
    simp only [Reps] at h; obtain ⟨v, ws, rfl, r, _⟩ := h
    simp at e; subst e; exact ⟨v, by simp, r⟩
  | t :: ts, _, h, i + 1, _, e => by
    simp only [Reps] at h; obtain ⟨v, ws, rfl, _, r⟩ := h
    obtain ⟨v', e', r'⟩ := Reps.get (i := i) r (by simpa using e)
    exact ⟨v', by simpa using e', r'⟩
theorem Reps.get' {K : PySem.W.Frag} {G : Hp} {p : Pm} {ts : List PV} {vs : List V} (h : Reps K G p ts vs) {i : Nat} {v : V} (e : vs[i]? = some v) : ∃ t, ts[i]? = some t ∧ Rep K G p t v := by
  have hi : i < vs.length := (List.getElem?_eq_some_iff.mp e).1
  have hi' : i < ts.length := by rw [← h.len]; exact hi
  obtain ⟨v', e', r⟩ := h.get (i := i) (List.getElem?_eq_getElem hi')
  rw [e] at e'; cases e'
  exact ⟨_, List.getElem?_eq_getElem hi', r⟩
theorem Reps.nil {K : PySem.W.Frag} {G : Hp} {p : Pm} : Reps K G p [] [] := by simp only [Reps]
theorem Reps.cons {K : PySem.W.Frag} {G : Hp} {p : Pm} {t : PV} {ts : List PV} {v : V} {vs : List V} (r : Rep K G p t v) (rs : Reps K G p ts vs) : Reps K G p (t :: ts) (v :: vs) := by
  simp only [Reps]; exact ⟨v, vs, rfl, r, rs⟩
theorem Reps.app {K : PySem.W.Frag} {G : Hp} {p : Pm} : ∀ {ts us : List PV} {vs ws : List V}, Reps K G p ts vs → Reps K G p us ws → Reps K G p (ts ++ us) (vs ++ ws)
  | [], _, _, _, h, h' => by simp only [Reps] at h; subst h; exact h'
  | t :: ts, _, _, _, h, h' => by
    simp only [Reps] at h; obtain ⟨v, ws, rfl, r, rs⟩ := h
    exact Reps.cons r (Reps.app rs h')
theorem Reps.set {K : PySem.W.Frag} {G : Hp} {p : Pm} : ∀ {ts : List PV} {vs : List V} (i : Nat) {t : PV} {v : V}, Reps K G p ts vs → Rep K G p t v → Reps K G p (ts.set i t) (vs.set i v)
  | [], _, _, _, _, h, _ => by simp only [Reps] at h; subst h; exact Reps.nil
  | t :: ts, _, 0, _, _, h, r => by
    simp only [Reps] at h; obtain ⟨v, ws, rfl, _, rs⟩ := h
    exact Reps.cons r rs
  | t :: ts, _, i + 1, _, _, h, r => by
    simp only [Reps] at h; obtain ⟨v, ws, rfl, r0, rs⟩ := h
    exact Reps.cons r0 (Reps.set i rs r)
theorem Reps.take {K : PySem.W.Frag} {G : Hp} {p : Pm} : ∀ (n : Nat) {ts : List PV} {vs : List V}, Reps K G p ts vs → Reps K G p (ts.take n) (vs.take n)
  | 0, _, _, _ => by simpa using Reps.nil
  | n + 1, [], _, h => by simp only [Reps] at h; subst h; exact Reps.nil
  | n + 1, t :: ts, _, h => by simp only [Reps] at h; obtain ⟨v, ws, rfl, r, rs⟩ := h; exact Reps.cons r (Reps.take n rs)
theorem Reps.drop {K : PySem.W.Frag} {G : Hp} {p : Pm} : ∀ (n : Nat) {ts : List PV} {vs : List V}, Reps K G p ts vs → Reps K G p (ts.drop n) (vs.drop n)
  | 0, _, _, h => by simpa using h
  | n + 1, [], _, h => by simp only [Reps] at h; subst h; exact Reps.nil
  | n + 1, t :: ts, _, h => by simp only [Reps] at h; obtain ⟨v, ws, rfl, r, rs⟩ := h; exact Reps.drop n rs
theorem Reps.rev {K : PySem.W.Frag} {G : Hp} {p : Pm} : ∀ {ts : List PV} {vs : List V}, Reps K G p ts vs → Reps K G p ts.reverse vs.reverse
  | [], _, h => by simp only [Reps] at h; subst h; exact Reps.nil
  | t :: ts, _, h => by
    simp only [Reps] at h; obtain ⟨v, ws, rfl, r, rs⟩ := h
    rw [List.reverse_cons, List.reverse_cons]; exact (Reps.rev rs).app (Reps.cons r Reps.nil)

/-! ### the parts of the heap -/
def fp (p : Pm) : List Addr := p.filterMap id
theorem mem_fp {p : Pm} {a : Addr} : a ∈ fp p ↔ ∃ n : Nat, p[n]? = some (some a) := by
  unfold fp
  rw [List.mem_filterMap]
  constructor
  · rintro ⟨o, h, e⟩
    obtain ⟨n, hn⟩ := List.getElem?_of_mem h
    exact ⟨n, by rw [hn]; exact congrArg some e⟩
  · rintro ⟨n, e⟩
    exact ⟨some a, List.mem_of_getElem? e, rfl⟩
def Gz (H : Hp) (S : List Addr) : Hp := fun a => if a ∈ S then none else H a
theorem Gz.some {H : Hp} {S : List Addr} {a : Addr} {o : HO} (h : Gz H S a = some o) : H a = some o ∧ a ∉ S := by
  unfold Gz at h; split at h
  · cases h
  · exact ⟨h, by assumption⟩
theorem Gz.of {H : Hp} {S : List Addr} {a : Addr} {o : HO} (h : H a = .some o) (n : a ∉ S) : Gz H S a = .some o := by
  unfold Gz; rw [if_neg n]; exact h
theorem Gz.le (H : Hp) (S : List Addr) : Same (Gz H S) H := fun _ _ h => (Gz.some h).1

/-- the relation of the abstract heap H to the mutable objects mh, their addresses p; Ex: addresses left alone -/
structure Rl (K : PySem.W.Frag) (Ex : List Addr) (p : Pm) (mh : List PV) (H : Hp) : Prop where
  len : p.length = mh.length
  inj : ∀ (n m : Nat) (a : Addr), p[n]? = some (some a) → p[m]? = some (some a) → n = m
  ex : ∀ a ∈ fp p, a ∉ Ex
  exd : ∀ a ∈ Ex, ∃ o, H a = some o
  obj : ∀ (n : Nat) (a : Addr), p[n]? = some (some a) → ∃ o, mh[n]? = some o ∧ RepO K H (Gz H (Ex ++ fp p)) p o a
abbrev Gr (Ex : List Addr) (p : Pm) (H : Hp) : Hp := Gz H (Ex ++ fp p)
theorem Rl.live {K : PySem.W.Frag} {Ex : List Addr} {p : Pm} {mh : List PV} {H : Hp} (R : Rl K Ex p mh H) {a : Addr} (h : a ∈ fp p) : ∃ o, H a = some o := by
  obtain ⟨n, e⟩ := mem_fp.mp h
  obtain ⟨o, _, r⟩ := R.obj n a e
  cases o <;> simp only [RepO] at r
  case lst => obtain ⟨vs, h, _⟩ := r; exact ⟨_, h⟩
  case obj => obtain ⟨dx, gs, h, _⟩ := r; exact ⟨_, h⟩
  case dk => obtain ⟨kvs, h, _⟩ := r; exact ⟨_, h⟩
  case dt => obtain ⟨kvs, h, _⟩ := r; exact ⟨_, h⟩

/-- from (p, H) to (q, H'): what stood outside the mutable objects stands -/
structure Nx (K : PySem.W.Frag) (Ex : List Addr) (p : Pm) (H : Hp) (q : Pm) (mh : List PV) (H' : Hp) : Prop where
  pre : ∃ r, q = p ++ r
  rl : Rl K Ex q mh H'
  keep : ∀ b o, b ∉ fp p → H b = some o → H' b = some o
  new : ∀ a ∈ fp q, a ∈ fp p ∨ H a = none
theorem Nx.le {K : PySem.W.Frag} {Ex : List Addr} {p q : Pm} {H H' : Hp} {mh : List PV} (N : Nx K Ex p H q mh H') : Le p q := by
  obtain ⟨r, e⟩ := N.pre
  rw [e]; exact Le.app _ _
theorem pre_refl (p : Pm) : ∃ r : Pm, p = p ++ r := ⟨[], (List.append_nil p).symm⟩
theorem Nx.same {K : PySem.W.Frag} {Ex : List Addr} {p q : Pm} {H H' : Hp} {mh : List PV} (N : Nx K Ex p H q mh H') : Same (Gr Ex p H) (Gr Ex q H') := fun b o e => by
  obtain ⟨h, n⟩ := Gz.some e
  rw [List.mem_append, not_or] at n
  refine Gz.of (N.keep b o n.2 h) ?_
  rw [List.mem_append, not_or]
  refine ⟨n.1, fun z => ?_⟩
  rcases N.new b z with z | z
  · exact n.2 z
  · rw [h] at z; cases z
theorem Nx.refl {K : PySem.W.Frag} {Ex : List Addr} {p : Pm} {H : Hp} {mh : List PV} (R : Rl K Ex p mh H) : Nx K Ex p H p mh H := ⟨pre_refl p, R, fun _ _ _ h => h, fun _ h => .inl h⟩
theorem Nx.trans {K : PySem.W.Frag} {Ex : List Addr} {p q r : Pm} {H H1 H2 : Hp} {m1 m2 : List PV} (N : Nx K Ex p H q m1 H1) (M : Nx K Ex q H1 r m2 H2) : Nx K Ex p H r m2 H2 := by
  refine ⟨by
    obtain ⟨r1, e1⟩ := N.pre
    obtain ⟨r2, e2⟩ := M.pre
    exact ⟨r1 ++ r2, by rw [e2, e1, List.append_assoc]⟩, M.rl, fun b o hb h => ?_, fun a ha => ?_⟩
  · refine M.keep b o (fun z => ?_) (N.keep b o hb h)
    rcases N.new b z with z | z
    · exact hb z
    · rw [h] at z; cases z
  · rcases M.new a ha with z | z
    · exact N.new a z
    · by_cases hp : a ∈ fp p
      · exact .inl hp
      · cases e : H a with
        | none => exact .inr rfl
        | some o =>
          rw [N.keep a o hp e] at z; cases z
theorem Nx.rep {K : PySem.W.Frag} {Ex : List Addr} {p q : Pm} {H H' : Hp} {mh : List PV} (N : Nx K Ex p H q mh H') {t : PV} {v : V} (r : Rep K (Gr Ex p H) p t v) : Rep K (Gr Ex q H') q t v := Rep.mono N.same N.le t r
theorem Nx.reps {K : PySem.W.Frag} {Ex : List Addr} {p q : Pm} {H H' : Hp} {mh : List PV} (N : Nx K Ex p H q mh H') {t : List PV} {v : List V} (r : Reps K (Gr Ex p H) p t v) : Reps K (Gr Ex q H') q t v := Reps.mono N.same N.le t r

/-- a new object laid in the still part -/
theorem Nx.laid {K : PySem.W.Frag} {Ex : List Addr} {p : Pm} {H : Hp} {mh : List PV} {a : Addr} {o : HO} (R : Rl K Ex p mh H) (n : H a = none) : Nx K Ex p H p mh (upd H a o) := by
  have k : ∀ b u, H b = some u → (upd H a o) b = some u := fun b u e => by rw [upd_ne (ne_of_none e n)]; exact e
  have s : Same (Gr Ex p H) (Gr Ex p (upd H a o)) := fun b u e => by
    obtain ⟨h, z⟩ := Gz.some e
    exact Gz.of (k b u h) z
  refine ⟨pre_refl p, ⟨R.len, R.inj, R.ex, fun b hb => ?_, fun m b e => ?_⟩, fun b u _ e => k b u e, fun b h => .inl h⟩
  · obtain ⟨u, e⟩ := R.exd b hb; exact ⟨u, k b u e⟩
  · obtain ⟨t, e1, r⟩ := R.obj m b e
    exact ⟨t, e1, RepO.mono s (Le.refl p) (fun u e => k b u e) r⟩
theorem Rl.freshG {K : PySem.W.Frag} {Ex : List Addr} {p : Pm} {H : Hp} {mh : List PV} {a : Addr} {o : HO} (R : Rl K Ex p mh H) (n : H a = none) : Gr Ex p (upd H a o) a = some o := by
  refine Gz.of upd_same ?_
  rw [List.mem_append, not_or]
  refine ⟨fun z => ?_, fun z => ?_⟩
  · obtain ⟨u, e⟩ := R.exd a z; rw [n] at e; cases e
  · obtain ⟨u, e⟩ := R.live z; rw [n] at e; cases e

theorem fp_app (p q : Pm) : fp (p ++ q) = fp p ++ fp q := by unfold fp; rw [List.filterMap_append]
/-- a new object laid as a mutable one -/
theorem Nx.alloc {K : PySem.W.Frag} {Ex : List Addr} {p : Pm} {H : Hp} {mh : List PV} {a : Addr} {o : HO} {t : PV} (R : Rl K Ex p mh H) (n : H a = none)
    (r : ∀ G, Same (Gr Ex p H) G → RepO K (upd H a o) G (p ++ [some a]) t a) : Nx K Ex p H (p ++ [some a]) (mh ++ [t]) (upd H a o) := by
  have k : ∀ b u, H b = some u → (upd H a o) b = some u := fun b u e => by rw [upd_ne (ne_of_none e n)]; exact e
  have naE : a ∉ Ex := fun z => by obtain ⟨u, e⟩ := R.exd a z; rw [n] at e; cases e
  have naP : a ∉ fp p := fun z => by obtain ⟨u, e⟩ := R.live z; rw [n] at e; cases e
  have hf : fp (p ++ [some a]) = fp p ++ [a] := by rw [fp_app]; rfl
  have s : Same (Gr Ex p H) (Gr Ex (p ++ [some a]) (upd H a o)) := fun b u e => by
    obtain ⟨h, z⟩ := Gz.some e
    refine Gz.of (k b u h) ?_
    rw [hf, ← List.append_assoc, List.mem_append, not_or]
    exact ⟨z, by simpa using ne_of_none h n⟩
  have l : Le p (p ++ [some a]) := Le.app _ _
  have old : ∀ (m : Nat) (b : Addr), (p ++ [some a])[m]? = some (some b) → (p[m]? = some (some b)) ∨ (m = p.length ∧ b = a) := fun m b e => by
    rcases Nat.lt_or_ge m p.length with h | h
    · rw [List.getElem?_append_left h] at e; exact .inl e
    · rw [List.getElem?_append_right h] at e
      have hm : m - p.length < 1 := by
        have := (List.getElem?_eq_some_iff.mp e).1
        simpa using this
      have hm0 : m - p.length = 0 := by omega
      rw [hm0] at e; simp at e
      exact .inr ⟨by omega, e.symm⟩
  refine ⟨⟨_, rfl⟩, ⟨by simp [R.len], fun m m' b e e' => ?_, fun b hb => ?_, fun b hb => ?_, fun m b e => ?_⟩, fun b u _ e => k b u e, fun b hb => ?_⟩
  · rcases old m b e with h | ⟨h1, h2⟩ <;> rcases old m' b e' with h' | ⟨h1', h2'⟩
    · exact R.inj m m' b h h'
    · exact absurd (h2' ▸ mem_fp.mpr ⟨m, h⟩) naP
    · exact absurd (h2 ▸ mem_fp.mpr ⟨m', h'⟩) naP
    · omega
  · rw [hf, List.mem_append] at hb
    rcases hb with hb | hb
    · exact R.ex b hb
    · have : b = a := by simpa using hb
      subst this; exact naE
  · obtain ⟨u, e⟩ := R.exd b hb; exact ⟨u, k b u e⟩
  · rcases old m b e with h | ⟨h1, h2⟩
    · obtain ⟨u, e1, r1⟩ := R.obj m b h
      refine ⟨u, ?_, RepO.mono s l (fun u e => k b u e) r1⟩
      rw [List.getElem?_append_left (by have := (List.getElem?_eq_some_iff.mp e1).1; exact this)]; exact e1
    · subst h2
      refine ⟨t, ?_, r _ s⟩
      rw [h1, R.len, List.getElem?_append_right (Nat.le_refl _)]; simp
  · rw [hf, List.mem_append] at hb
    rcases hb with hb | hb
    · exact .inl hb
    · have : b = a := by simpa using hb
      subst this; exact .inr n
/-- a mutable object written -/
theorem Nx.write {K : PySem.W.Frag} {Ex : List Addr} {p : Pm} {H : Hp} {mh : List PV} {a : Addr} {o : HO} {n : Nat} {t : PV} (R : Rl K Ex p mh H) (e : p[n]? = some (some a)) (r : RepO K (upd H a o) (Gr Ex p H) p t a) :
    Nx K Ex p H p (mh.set n t) (upd H a o) := by
  have ha : a ∈ fp p := mem_fp.mpr ⟨n, e⟩
  have eG : Gr Ex p (upd H a o) = Gr Ex p H := by
    funext b; show Gz _ _ _ = Gz _ _ _
    unfold Gz
    by_cases hb : b ∈ Ex ++ fp p
    · rw [if_pos hb, if_pos hb]
    · rw [if_neg hb, if_neg hb]
      have : b ≠ a := fun z => hb (List.mem_append.mpr (.inr (z ▸ ha)))
      exact upd_ne this
  refine ⟨pre_refl p, ⟨by rw [List.length_set]; exact R.len, R.inj, R.ex, fun b hb => ?_, fun m b hm => ?_⟩, fun b u hb h => ?_, fun b h => .inl h⟩
  · obtain ⟨u, h⟩ := R.exd b hb
    have : b ≠ a := fun z => R.ex a ha (z ▸ hb)
    exact ⟨u, by rw [upd_ne this]; exact h⟩
  · show ∃ o', _ ∧ RepO K (upd H a o) (Gr Ex p (upd H a o)) p o' b
    rw [eG]
    by_cases hmn : m = n
    · subst hmn
      rw [e] at hm; cases hm
      refine ⟨t, ?_, r⟩
      have : m < mh.length := by rw [← R.len]; exact (List.getElem?_eq_some_iff.mp e).1
      rw [List.getElem?_set_self this]
    · obtain ⟨u, e1, r1⟩ := R.obj m b hm
      refine ⟨u, by rw [List.getElem?_set_ne (Ne.symm hmn)]; exact e1, RepO.mono (Same.refl _) (Le.refl p) (fun u h => ?_) r1⟩
      have : b ≠ a := fun z => hmn (R.inj m n a (z ▸ hm) e)
      rw [upd_ne this]; exact h
  · have : b ≠ a := fun z => hb (z ▸ ha)
    rw [upd_ne this]; exact h

/-! ### results -/
structure Xc where
  cls : Addr
  ns : List Str
  ts : List PV
inductive Rs (α : Type) where
  | ok (a : α) (m : List PV) | exc (x : Xc) (m : List PV) | no
def Rs.bind {α β : Type} (r : Rs α) (f : α → List PV → Rs β) : Rs β := match r with
  | .ok a m => f a m
  | .exc x m => .exc x m
  | .no => .no
@[simp] theorem Rs.bind_ok {α β : Type} (a : α) (m : List PV) (f : α → List PV → Rs β) : (Rs.ok a m).bind f = f a m := rfl
@[simp] theorem Rs.bind_no {α β : Type} (f : α → List PV → Rs β) : (Rs.no : Rs α).bind f = .no := rfl
@[simp] theorem Rs.bind_exc {α β : Type} (x : Xc) (m : List PV) (f : α → List PV → Rs β) : (Rs.exc x m : Rs α).bind f = .exc x m := rfl
/-- what is wanted: the end Q, no exception -/
def Rs.wants {α : Type} (r : Rs α) (Q : α → List PV → Prop) : Prop := match r with
  | .ok a m => Q a m
  | _ => False
theorem Rs.wants_ok {α : Type} (a : α) (m : List PV) (Q : α → List PV → Prop) : (Rs.ok a m).wants Q = Q a m := rfl
theorem Rs.wants_bind {α β : Type} {r : Rs α} {f : α → List PV → Rs β} {Q : β → List PV → Prop} : (r.bind f).wants Q ↔ r.wants fun a m => (f a m).wants Q := by
  cases r <;> rfl
theorem Rs.wants_mono {α : Type} {r : Rs α} {Q Q' : α → List PV → Prop} (h : r.wants Q) (i : ∀ a m, Q a m → Q' a m) : r.wants Q' := by
  cases r with
  | ok a m => exact i a m h
  | exc x m => exact h
  | no => exact h

abbrev M (α : Type) := List PV → Rs α
abbrev LS := List (Option PV)

/-- the slots -/
def RSt (K : PySem.W.Frag) (G : Hp) (p : Pm) (σ : L2.St) (τ : LS) : Prop := σ.length = τ.length ∧ ∀ (i : Nat) (t : PV), τ[i]? = some (some t) → ∃ v, σ[i]? = some (some v) ∧ Rep K G p t v
theorem RSt.mono {K : PySem.W.Frag} {G G' : Hp} {p q : Pm} {σ : L2.St} {τ : LS} (s : Same G G') (l : Le p q) (h : RSt K G p σ τ) : RSt K G' q σ τ := ⟨h.1, fun i t e => by
  obtain ⟨v, e1, r⟩ := h.2 i t e
  exact ⟨v, e1, Rep.mono s l t r⟩⟩
theorem RSt.set {K : PySem.W.Frag} {G : Hp} {p : Pm} {σ : L2.St} {τ : LS} (h : RSt K G p σ τ) {i : Nat} {t : PV} {v : V} (r : Rep K G p t v) : RSt K G p (σ.set i (some v)) (τ.set i (some t)) := ⟨by rw [List.length_set, List.length_set]; exact h.1, fun j u e => by
  by_cases hj : i = j
  · subst hj
    by_cases hi : i < τ.length
    · rw [List.getElem?_set_self hi] at e; cases e
      exact ⟨v, by rw [List.getElem?_set_self (by rw [h.1]; exact hi)], r⟩
    · rw [List.getElem?_eq_none (by rw [List.length_set]; omega)] at e; cases e
  · rw [List.getElem?_set_ne hj] at e
    obtain ⟨w, e1, r1⟩ := h.2 j u e
    exact ⟨w, by rw [List.getElem?_set_ne hj]; exact e1, r1⟩⟩

/-! ### judgements by functions -/
def tOf (K : PySem.W.Frag) (f : LS → M PV) : TE := fun σ H Q => ∃ Ex p mh τ, Rl K Ex p mh H ∧ RSt K (Gr Ex p H) p σ τ ∧
  (f τ mh).wants fun t mh' => ∀ q H' v, Nx K Ex p H q mh' H' → Rep K (Gr Ex q H') q t v → Q v H'
def tOfA (K : PySem.W.Frag) (f : LS → M (List PV)) : TA := fun σ H Q => ∃ Ex p mh τ, Rl K Ex p mh H ∧ RSt K (Gr Ex p H) p σ τ ∧
  (f τ mh).wants fun t mh' => ∀ q H' v, Nx K Ex p H q mh' H' → Reps K (Gr Ex q H') q t v → Q v H'
def tOfT (K : PySem.W.Frag) (f : LS → M Bool) : TT := fun σ H Q => ∃ Ex p mh τ, Rl K Ex p mh H ∧ RSt K (Gr Ex p H) p σ τ ∧
  (f τ mh).wants fun b mh' => ∀ q H', Nx K Ex p H q mh' H' → Q b H'
inductive Out where
  | nx | ret (t : PV) | bk | ct
def tOfS (K : PySem.W.Frag) (g : LS → M (Out × LS)) : TS := fun D σ H => ∃ Ex p mh τ, Rl K Ex p mh H ∧ RSt K (Gr Ex p H) p σ τ ∧
  (g τ mh).wants fun o mh' => ∀ q H' σ', Nx K Ex p H q mh' H' → RSt K (Gr Ex q H') q σ' o.2 → match o.1 with
    | .nx => D.nx σ' H'
    | .ret t => ∀ v, Rep K (Gr Ex q H') q t v → D.rt v H'
    | .bk => D.bk σ' H'
    | .ct => D.ct σ' H'
abbrev DE (X : Cx) (e : Expr) (f : LS → M PV) : Prop := PE X e (tOf X.K f)
abbrev DA (X : Cx) (es : List Expr) (f : LS → M (List PV)) : Prop := PA X es (tOfA X.K f)
abbrev DT (X : Cx) (e : Expr) (f : LS → M Bool) : Prop := PT X e (tOfT X.K f)
abbrev DS (X : Cx) (st : Stmt) (g : LS → M (Out × LS)) : Prop := PS X st (tOfS X.K g)
abbrev DSs (X : Cx) (st : List Stmt) (g : LS → M (Out × LS)) : Prop := PSs X st (tOfS X.K g)
theorem PE.to {X : Cx} {e : Expr} {t t' : TE} (h : PE X e t) (i : ∀ σ H Q, t' σ H Q → t σ H Q) : PE X e t' := ⟨fun pins s σ H Q I q => h.run pins s σ H Q I (i σ H Q q)⟩
theorem PT.to {X : Cx} {e : Expr} {t t' : TT} (h : PT X e t) (i : ∀ σ H Q, t' σ H Q → t σ H Q) : PT X e t' := ⟨fun pins s σ H Q I q => h.run pins s σ H Q I (i σ H Q q)⟩
theorem PA.to {X : Cx} {e : List Expr} {t t' : TA} (h : PA X e t) (i : ∀ σ H Q, t' σ H Q → t σ H Q) : PA X e t' := ⟨fun pos pins s σ H Q I q => h.run pos pins s σ H Q I (i σ H Q q)⟩
theorem PS.to {X : Cx} {e : Stmt} {t t' : TS} (h : PS X e t) (i : ∀ D σ H, t' D σ H → t D σ H) : PS X e t' := ⟨fun pins s σ H D I q => h.run pins s σ H D I (i D σ H q)⟩
theorem PSs.to {X : Cx} {e : List Stmt} {t t' : TS} (h : PSs X e t) (i : ∀ D σ H, t' D σ H → t D σ H) : PSs X e t' := ⟨fun pins s σ H D I q => h.run pins s σ H D I (i D σ H q)⟩

end ML

set_option Elab.async false
set_option linter.all false
set_option maxRecDepth 100000
/-! ML2: rules of expressions. -/
namespace ML
open PySem PySem.Spec L2

/-! ### operators by values -/
def rOf (K : PySem.W.Frag) (o : PV → PV → M PV) : R2 := fun v w H Q => ∃ Ex p mh x y, Rl K Ex p mh H ∧ Rep K (Gr Ex p H) p x v ∧ Rep K (Gr Ex p H) p y w ∧
  (o x y mh).wants fun t mh' => ∀ q H' u, Nx K Ex p H q mh' H' → Rep K (Gr Ex q H') q t u → Q u H'
abbrev OpV (X : Cx) (f : Value → Value → Sem Value) (o : PV → PV → M PV) : Prop := OpR X f (rOf X.K o)
def mBin (o : PV → PV → M PV) (f g : LS → M PV) : LS → M PV := fun τ mh => (f τ mh).bind fun x m1 => (g τ m1).bind fun y m2 => o x y m2
theorem mBin_in {K : PySem.W.Frag} {o : PV → PV → M PV} {f g : LS → M PV} {σ : L2.St} {H : Hp} {Q : VK} (h : tOf K (mBin o f g) σ H Q) : tOp (rOf K o) (tOf K f) (tOf K g) σ H Q := by
  obtain ⟨Ex, p, mh, τ, R, S, h⟩ := h
  refine ⟨Ex, p, mh, τ, R, S, Rs.wants_mono (Rs.wants_bind.mp h) fun x m1 h1 q1 H1 v N1 r1 => ?_⟩
  refine ⟨Ex, q1, m1, τ, N1.rl, S.mono N1.same N1.le, Rs.wants_mono (Rs.wants_bind.mp h1) fun y m2 h2 q2 H2 w N2 r2 => ?_⟩
  exact ⟨Ex, q2, m2, x, y, N2.rl, N2.rep r1, r2, Rs.wants_mono h2 fun t m3 h3 q3 H3 u N3 r3 => h3 q3 H3 u ((N1.trans N2).trans N3) r3⟩
section
variable {X : Cx} {a b c : Expr} {pos : Pos} {f g k : LS → M PV} {o o' : PV → PV → M PV}
theorem de_bin {op : Operator} (ho : OpV X (binaryOp op) o) (ha : DE X a f) (hb : DE X b g) : DE X (.BinOp a op b pos) (mBin o f g) := PE.to (pe_op ho ha hb) fun _ _ _ => mBin_in
theorem de_cmp {op : CmpOp} (ho : OpV X (compareOp op) o) (hm : behindInMarks op b = false) (ha : DE X a f) (hb : DE X b g) : DE X (.Compare a [op] [b] pos) (mBin o f g) := PE.to (pe_cmpR ho ha hb hm) fun _ _ _ => mBin_in
/-- a truth value as a test -/
def asB : PV → M Bool
  | .bl b, mh => .ok b mh
  | _, _ => .no
def mTest (f : LS → M PV) : LS → M Bool := fun τ mh => (f τ mh).bind asB
theorem asB_in {K : PySem.W.Frag} {Ex : List Addr} {p : Pm} {H : Hp} {q : Pm} {H' : Hp} {mh' : List PV} {x : PV} {v : V} {Q : Bool → Hp → Prop} (N : Nx K Ex p H q mh' H') (r : Rep K (Gr Ex q H') q x v)
    (h : (asB x mh').wants fun b m => ∀ q H'', Nx K Ex p H q m H'' → Q b H'') : ∃ k, v = .bl k ∧ Q k H' := by
  cases x <;> simp only [asB, Rs.wants] at h
  case bl b => simp only [Rep] at r; exact ⟨b, r, h q H' N⟩
theorem mTest_in {K : PySem.W.Frag} {σ : L2.St} {H : Hp} {Q : Bool → Hp → Prop} (h : tOfT K (mTest f) σ H Q) : tOf K f σ H fun x H' => ∃ k, x = .bl k ∧ Q k H' := by
  obtain ⟨Ex, p, mh, τ, R, S, h⟩ := h
  exact ⟨Ex, p, mh, τ, R, S, Rs.wants_mono (Rs.wants_bind.mp h) fun x m1 h1 q1 H1 v N1 r1 => asB_in N1 r1 h1⟩
theorem dt_cmp {op : CmpOp} (ho : OpV X (compareOp op) o) (hm : behindInMarks op b = false) (ha : DE X a f) (hb : DE X b g) : DT X (.Compare a [op] [b] pos) (mTest (mBin o f g)) := by
  refine PT.to (pt_cmpR ho ha hb hm) fun σ H Q h => ?_
  obtain ⟨Ex, p, mh, τ, R, S, h⟩ := h
  refine mBin_in ⟨Ex, p, mh, τ, R, S, Rs.wants_mono (Rs.wants_bind.mp h) fun x m1 h1 q1 H1 v N1 r1 => asB_in N1 r1 h1⟩
/-- a test by its value: names, calls, fields, items -/
theorem dt_val (h : DE X a f) (he : ∀ whole, isTrue a X.env whole = (do let v ← whole; standAt a.pos; holding [v] (truthy v)) := by intro _; rfl) : DT X a (mTest f) :=
  PT.to (pt_val h he) fun _ _ _ h => mTest_in h
/-- a < b < c -/
def mChain (o o' : PV → PV → M PV) (f g k : LS → M PV) : LS → M PV := fun τ mh => (f τ mh).bind fun x m1 => (g τ m1).bind fun y m2 => (o x y m2).bind fun z m3 => (asB z m3).bind fun b m4 =>
  if b = true then (k τ m4).bind fun w m5 => o' y w m5 else .ok (.bl false) m4
end

/-! ### names, constants -/
section
variable {X : Cx} {pos : Pos}
def gv (i : Nat) : LS → M PV := fun τ mh => match τ[i]? with
  | some (some t) => .ok t mh
  | _ => .no
theorem de_var (i : Nat) {x : Str} (hN : X.N[i]? = some x := by rfl) (hv : Vis X.env.scope x := by first | exact Or.inl rfl | exact Or.inr (Or.inl rfl) | exact Or.inr (Or.inr rfl)) (hd : (x == ("__debug__" : Str)) = false := by decide)
    (hcd : (x == ("__classdict__" : Str)) = false := by decide) : DE X (.Name x pos) (gv i) := by
  refine PE.to (pe_var (i := i) hN hv hd hcd) fun σ H Q h => ?_
  obtain ⟨Ex, p, mh, τ, R, S, h⟩ := h
  unfold gv at h
  split at h
  · next t e =>
    obtain ⟨v, e1, r⟩ := S.2 i t e
    exact ⟨v, e1, h p H v (Nx.refl R) r⟩
  · exact h.elim
def kv (t : PV) : LS → M PV := fun _ mh => .ok t mh
theorem de_c {e : Expr} {t : PV} {v : V} (h : PE X e (tC v)) (r : ∀ G p, Rep X.K G p t v) : DE X e (kv t) :=
  PE.to h fun σ H Q ⟨Ex, p, mh, τ, R, S, h⟩ => h p H v (Nx.refl R) (r _ _)
theorem de_int {i : Int} {j} : DE X (.Constant (.int i) j pos) (kv (.int i)) := de_c pe_int fun _ _ => by simp only [Rep]
theorem de_bl {b : Bool} {j} : DE X (.Constant (.bool b) j pos) (kv (.bl b)) := de_c pe_bl fun _ _ => by simp only [Rep]
theorem de_non {j} : DE X (.Constant .none j pos) (kv .non) := de_c pe_non fun _ _ => by simp only [Rep]
theorem de_str {x : Str} {j} : DE X (.Constant (.str x) j pos) (kv (.str x)) := de_c pe_str fun _ _ => by simp only [Rep]
/-- a module's constant -/
theorem de_gint {x : Str} {i : Int} (hg : Gl X x) (hm : ∃ t, X.mg x = some (.int i t)) (hd : (x == ("__debug__" : Str)) = false := by decide) : DE X (.Name x pos) (kv (.int i)) := by
  obtain ⟨t, hm⟩ := hm
  exact de_c (pe_glob (v := .int i) hg hm ⟨t, rfl⟩ hd) fun _ _ => by simp only [Rep]
theorem de_gstr {x : Str} {s : Str} (hg : Gl X x) (hm : ∃ t, X.mg x = some (.str s t)) (hd : (x == ("__debug__" : Str)) = false := by decide) : DE X (.Name x pos) (kv (.str s)) := by
  obtain ⟨t, hm⟩ := hm
  exact de_c (pe_glob (v := .str s) hg hm ⟨t, rfl⟩ hd) fun _ _ => by simp only [Rep]
theorem de_gref {x : Str} {a : Addr} (hg : Gl X x) (hm : X.mg x = some (.ref a)) (hd : (x == ("__debug__" : Str)) = false := by decide) : DE X (.Name x pos) (kv (.ad a)) :=
  de_c (pe_glob (v := .ref a) hg hm rfl hd) fun _ _ => by simp only [Rep]
theorem de_bty {x : Str} {n : String} (hg : Gl X x) (hm : X.mg x = none) (hv : bootBuiltins x = some (.type n)) (hn : x ≠ "__name__" := by decide) (hd : (x == ("__debug__" : Str)) = false := by decide) : DE X (.Name x pos) (kv (.ty n)) :=
  de_c (pe_bltn (v := .ty n) hg hm hv rfl hn hd) fun _ _ => by simp only [Rep]
end

/-! ### and, or, not, if -/
section
variable {X : Cx} {pos : Pos} {a b c : Expr} {rest : List Expr} {f g : LS → M PV} {t u : LS → M Bool}
def mAnd (t u : LS → M Bool) : LS → M Bool := fun τ mh => (t τ mh).bind fun b m => if b = true then u τ m else .ok false m
def mOr (t u : LS → M Bool) : LS → M Bool := fun τ mh => (t τ mh).bind fun b m => if b = true then .ok true m else u τ m
def mNot (t : LS → M Bool) : LS → M Bool := fun τ mh => (t τ mh).bind fun b m => .ok (!b) m
structure DW (X : Cx) (e : Expr) (f : LS → M Bool) : Prop where
  pw : PW X e (tOfT X.K f)
theorem PW.to {e : Expr} {t t' : TT} (h : PW X e t) (i : ∀ σ H Q, t' σ H Q → t σ H Q) : PW X e t' := ⟨fun wh pins s σ H Q I q => h.run wh pins s σ H Q I (i σ H Q q)⟩
theorem DW.dt {e : Expr} (h : DW X e t) : DT X e t := h.pw.pt
theorem dw_and1 (ha : DT X a t) : DW X (.BoolOp .And [a] pos) t := ⟨pw_and1 ha⟩
theorem dw_or1 (ha : DT X a t) : DW X (.BoolOp .Or [a] pos) t := ⟨pw_or1 ha⟩
theorem bindT_in {K : PySem.W.Frag} {σ : L2.St} {H : Hp} {Q : Bool → Hp → Prop} {k : Bool → LS → M Bool} (h : tOfT K (fun τ mh => (t τ mh).bind fun b m => k b τ m) σ H Q) :
    tOfT K t σ H fun b H1 => tOfT K (k b) σ H1 Q := by
  obtain ⟨Ex, p, mh, τ, R, S, h⟩ := h
  refine ⟨Ex, p, mh, τ, R, S, Rs.wants_mono (Rs.wants_bind.mp h) fun x m1 h1 q1 H1 N1 => ?_⟩
  exact ⟨Ex, q1, m1, τ, N1.rl, S.mono N1.same N1.le, Rs.wants_mono h1 fun y m2 h2 q2 H2 N2 => h2 q2 H2 (N1.trans N2)⟩
theorem tOfT_ret {K : PySem.W.Frag} {σ : L2.St} {H : Hp} {Q : Bool → Hp → Prop} {b : Bool} (h : tOfT K (fun _ m => .ok b m) σ H Q) : Q b H := by
  obtain ⟨Ex, p, mh, τ, R, S, h⟩ := h
  exact h p H (Nx.refl R)
theorem tOf_ret {K : PySem.W.Frag} {σ : L2.St} {H : Hp} {Q : VK} {x : PV} {v : V} (h : tOf K (fun _ m => .ok x m) σ H Q) (r : ∀ G p, Rep K G p x v) : Q v H := by
  obtain ⟨Ex, p, mh, τ, R, S, h⟩ := h
  exact h p H v (Nx.refl R) (r _ _)
theorem dw_and (ha : DT X a t) (hb : DW X (.BoolOp .And (b :: rest) pos) u) : DW X (.BoolOp .And (a :: b :: rest) pos) (mAnd t u) := by
  refine ⟨PW.to (pw_and ha hb.pw) fun σ H Q h => ?_⟩
  have h := bindT_in (k := fun b τ m => if b = true then u τ m else .ok false m) h
  obtain ⟨Ex, p, mh, τ, R, S, h⟩ := h
  refine ⟨Ex, p, mh, τ, R, S, Rs.wants_mono h fun x m1 h1 q1 H1 N1 => ?_⟩
  have h1 := h1 q1 H1 N1
  cases x with
  | true => simp only [if_true] at h1; refine iteT ?_; exact h1
  | false => simp only [Bool.false_eq_true, if_false] at h1; refine iteF ?_; exact tOfT_ret h1
theorem dw_or (ha : DT X a t) (hb : DW X (.BoolOp .Or (b :: rest) pos) u) : DW X (.BoolOp .Or (a :: b :: rest) pos) (mOr t u) := by
  refine ⟨PW.to (pw_or ha hb.pw) fun σ H Q h => ?_⟩
  have h := bindT_in (k := fun b τ m => if b = true then .ok true m else u τ m) h
  obtain ⟨Ex, p, mh, τ, R, S, h⟩ := h
  refine ⟨Ex, p, mh, τ, R, S, Rs.wants_mono h fun x m1 h1 q1 H1 N1 => ?_⟩
  have h1 := h1 q1 H1 N1
  cases x with
  | false => simp only [Bool.false_eq_true, if_false] at h1; refine iteF ?_; exact h1
  | true => simp only [if_true] at h1; refine iteT ?_; exact tOfT_ret h1
theorem dt_not (ha : DT X a t) : DT X (.UnaryOp .Not a pos) (mNot t) := by
  refine PT.to (pt_not ha) fun σ H Q h => ?_
  have h := bindT_in (k := fun b _ m => .ok (!b) m) h
  obtain ⟨Ex, p, mh, τ, R, S, h⟩ := h
  exact ⟨Ex, p, mh, τ, R, S, Rs.wants_mono h fun x m1 h1 q1 H1 N1 => tOfT_ret (h1 q1 H1 N1)⟩
/-- values: truth values alone on the left -/
def mAndV (f g : LS → M PV) : LS → M PV := fun τ mh => (f τ mh).bind fun x m => (asB x m).bind fun b m => if b = true then g τ m else .ok (.bl false) m
def mOrV (f g : LS → M PV) : LS → M PV := fun τ mh => (f τ mh).bind fun x m => (asB x m).bind fun b m => if b = true then .ok (.bl true) m else g τ m
def mNotV (f : LS → M PV) : LS → M PV := fun τ mh => (f τ mh).bind fun x m => (asB x m).bind fun b m => .ok (.bl (!b)) m
theorem bindV_in {K : PySem.W.Frag} {σ : L2.St} {H : Hp} {Q : VK} {k : PV → LS → M PV} (h : tOf K (fun τ mh => (f τ mh).bind fun x m => k x τ m) σ H Q) :
    tOf K f σ H fun v H1 => ∃ Ex p mh τ x, Rl K Ex p mh H1 ∧ RSt K (Gr Ex p H1) p σ τ ∧ Rep K (Gr Ex p H1) p x v ∧ (k x τ mh).wants fun t mh' => ∀ q H' v, Nx K Ex p H1 q mh' H' → Rep K (Gr Ex q H') q t v → Q v H' := by
  obtain ⟨Ex, p, mh, τ, R, S, h⟩ := h
  refine ⟨Ex, p, mh, τ, R, S, Rs.wants_mono (Rs.wants_bind.mp h) fun x m1 h1 q1 H1 v N1 r1 => ?_⟩
  exact ⟨Ex, q1, m1, τ, x, N1.rl, S.mono N1.same N1.le, r1, Rs.wants_mono h1 fun y m2 h2 q2 H2 w N2 => h2 q2 H2 w (N1.trans N2)⟩
theorem bindB_in {K : PySem.W.Frag} {σ : L2.St} {H : Hp} {Q : VK} {k : Bool → LS → M PV} (h : tOf K (fun τ mh => (f τ mh).bind fun x m => (asB x m).bind fun b m => k b τ m) σ H Q) :
    tOf K f σ H fun v H1 => ∃ b, v = .bl b ∧ tOf K (k b) σ H1 Q := by
  have h := bindV_in (k := fun x τ m => (asB x m).bind fun b m => k b τ m) h
  obtain ⟨Ex, p, mh, τ, R, S, h⟩ := h
  refine ⟨Ex, p, mh, τ, R, S, Rs.wants_mono h fun x m1 h1 q1 H1 v N1 r1 => ?_⟩
  obtain ⟨Ex', p', mh', τ', x', R', S', r', h'⟩ := h1 q1 H1 v N1 r1
  cases x' <;> simp only [asB, Rs.bind, Rs.wants] at h'
  case bl b => simp only [Rep] at r'; exact ⟨b, r', Ex', p', mh', τ', R', S', h'⟩
theorem de_one {op : BoolOp} (ha : DE X a f) : DE X (.BoolOp op [a] pos) f := pe_one ha
theorem de_and (ha : DE X a f) (hb : DE X (.BoolOp .And (b :: rest) pos) g) : DE X (.BoolOp .And (a :: b :: rest) pos) (mAndV f g) := by
  refine PE.to (pe_and ha hb) fun σ H Q h => ?_
  have h := bindB_in (k := fun b τ m => if b = true then g τ m else .ok (.bl false) m) h
  obtain ⟨Ex, p, mh, τ, R, S, h⟩ := h
  refine ⟨Ex, p, mh, τ, R, S, Rs.wants_mono h fun x m1 h1 q1 H1 v N1 r1 => ?_⟩
  obtain ⟨b, e, h1⟩ := h1 q1 H1 v N1 r1
  refine ⟨b, e, ?_⟩
  cases b with
  | true => simp only [if_true] at h1; refine iteT ?_; exact h1
  | false => simp only [Bool.false_eq_true, if_false] at h1; refine iteF ?_; exact tOf_ret h1 fun _ _ => by simp only [Rep]
theorem de_or (ha : DE X a f) (hb : DE X (.BoolOp .Or (b :: rest) pos) g) : DE X (.BoolOp .Or (a :: b :: rest) pos) (mOrV f g) := by
  refine PE.to (pe_or ha hb) fun σ H Q h => ?_
  have h := bindB_in (k := fun b τ m => if b = true then .ok (.bl true) m else g τ m) h
  obtain ⟨Ex, p, mh, τ, R, S, h⟩ := h
  refine ⟨Ex, p, mh, τ, R, S, Rs.wants_mono h fun x m1 h1 q1 H1 v N1 r1 => ?_⟩
  obtain ⟨b, e, h1⟩ := h1 q1 H1 v N1 r1
  refine ⟨b, e, ?_⟩
  cases b with
  | false => simp only [Bool.false_eq_true, if_false] at h1; refine iteF ?_; exact h1
  | true => simp only [if_true] at h1; refine iteT ?_; exact tOf_ret h1 fun _ _ => by simp only [Rep]
theorem de_not (ha : DE X a f) : DE X (.UnaryOp .Not a pos) (mNotV f) := by
  refine PE.to (pe_not ha) fun σ H Q h => ?_
  have h := bindB_in (k := fun b _ m => .ok (.bl (!b)) m) h
  obtain ⟨Ex, p, mh, τ, R, S, h⟩ := h
  refine ⟨Ex, p, mh, τ, R, S, Rs.wants_mono h fun x m1 h1 q1 H1 v N1 r1 => ?_⟩
  obtain ⟨b, e, h1⟩ := h1 q1 H1 v N1 r1
  exact ⟨b, e, tOf_ret h1 fun _ _ => by simp only [Rep]⟩
def mIf {α : Type} (t : LS → M Bool) (f g : LS → M α) : LS → M α := fun τ mh => (t τ mh).bind fun b m => if b = true then f τ m else g τ m
theorem de_if (hc : DT X c t) (ha : DE X a f) (hb : DE X b g) : DE X (.IfExp c a b pos) (mIf t f g) := by
  refine PE.to (pe_ifExp hc ha hb) fun σ H Q h => ?_
  obtain ⟨Ex, p, mh, τ, R, S, h⟩ := h
  refine ⟨Ex, p, mh, τ, R, S, Rs.wants_mono (Rs.wants_bind.mp h) fun x m1 h1 q1 H1 N1 => ?_⟩
  have S1 := S.mono N1.same N1.le
  cases x with
  | true =>
    rw [if_pos rfl] at h1; refine iteT ?_
    exact ⟨Ex, q1, m1, τ, N1.rl, S1, Rs.wants_mono h1 fun y m2 h2 q2 H2 w N2 => h2 q2 H2 w (N1.trans N2)⟩
  | false =>
    rw [if_neg Bool.false_ne_true] at h1; refine iteF ?_
    exact ⟨Ex, q1, m1, τ, N1.rl, S1, Rs.wants_mono h1 fun y m2 h2 q2 H2 w N2 => h2 q2 H2 w (N1.trans N2)⟩
end

/-! ### argument lists, displays -/
section
variable {X : Cx} {pos : Pos} {e : Expr} {es : List Expr} {f : LS → M PV} {fs : LS → M (List PV)}
def mNil : LS → M (List PV) := fun _ mh => .ok [] mh
def mCons (f : LS → M PV) (fs : LS → M (List PV)) : LS → M (List PV) := fun τ mh => (f τ mh).bind fun x m => (fs τ m).bind fun xs m => .ok (x :: xs) m
theorem da_nil : DA X [] mNil := PA.to pa_nil fun σ H Q ⟨Ex, p, mh, τ, R, S, h⟩ => h p H [] (Nx.refl R) Reps.nil
theorem da_cons (ha : DE X e f) (hr : DA X es fs) (hs : starEach (e :: es) X.env = (false, eval e X.env) :: starEach es X.env := by rfl) : DA X (e :: es) (mCons f fs) := by
  refine PA.to (pa_cons ha hr hs) fun σ H Q h => ?_
  obtain ⟨Ex, p, mh, τ, R, S, h⟩ := h
  refine ⟨Ex, p, mh, τ, R, S, Rs.wants_mono (Rs.wants_bind.mp h) fun x m1 h1 q1 H1 v N1 r1 => ?_⟩
  refine ⟨Ex, q1, m1, τ, N1.rl, S.mono N1.same N1.le, Rs.wants_mono (Rs.wants_bind.mp h1) fun y m2 h2 q2 H2 vs N2 r2 => ?_⟩
  exact h2 q2 H2 _ (N1.trans N2) (Reps.cons (N2.rep r1) r2)
/-- a new object in the still part -/
theorem laidTup {K : PySem.W.Frag} {Ex : List Addr} {p q : Pm} {mh : List PV} {H H1 : Hp} {ts : List PV} {vs : List V} (N : Nx K Ex p H q mh H1) (r : Reps K (Gr Ex q H1) q ts vs) {a : Addr} (n : H1 a = none) :
    Nx K Ex p H q mh (upd H1 a (.tup vs)) ∧ Rep K (Gr Ex q (upd H1 a (.tup vs))) q (.tup ts) (.ref a) := by
  have L := Nx.laid (o := .tup vs) N.rl n
  refine ⟨N.trans L, ?_⟩
  simp only [Rep]
  exact ⟨a, vs, rfl, N.rl.freshG n, L.reps r⟩
theorem laidLst {K : PySem.W.Frag} {Ex : List Addr} {p q : Pm} {mh : List PV} {H H1 : Hp} {ts : List PV} {vs : List V} (N : Nx K Ex p H q mh H1) (r : Reps K (Gr Ex q H1) q ts vs) {a : Addr} (n : H1 a = none) :
    Nx K Ex p H q mh (upd H1 a (.lst vs)) ∧ Rep K (Gr Ex q (upd H1 a (.lst vs))) q (.lst ts) (.ref a) := by
  have L := Nx.laid (o := .lst vs) N.rl n
  refine ⟨N.trans L, ?_⟩
  simp only [Rep]
  exact ⟨a, vs, rfl, N.rl.freshG n, L.reps r⟩
theorem locLst {K : PySem.W.Frag} {Ex : List Addr} {p q : Pm} {mh : List PV} {H H1 : Hp} {ts : List PV} {vs : List V} (N : Nx K Ex p H q mh H1) (r : Reps K (Gr Ex q H1) q ts vs) {a : Addr} (n : H1 a = none) :
    Nx K Ex p H (q ++ [some a]) (mh ++ [.lst ts]) (upd H1 a (.lst vs)) ∧ ∀ G, Rep K G (q ++ [some a]) (.loc mh.length) (.ref a) := by
  have L := Nx.alloc (t := .lst ts) (o := .lst vs) N.rl n fun G s => by
    simp only [RepO]; exact ⟨vs, upd_same, Reps.mono s (Le.app _ _) ts r⟩
  refine ⟨N.trans L, fun G => ?_⟩
  simp only [Rep]
  exact ⟨a, rfl, by rw [← N.rl.len, List.getElem?_append_right (Nat.le_refl _)]; simp⟩
def mTup (fs : LS → M (List PV)) : LS → M PV := fun τ mh => (fs τ mh).bind fun xs m => if xs.length ≤ sizeLine then .ok (.tup xs) m else .no
def mLst (fs : LS → M (List PV)) : LS → M PV := fun τ mh => (fs τ mh).bind fun xs m => if xs.length ≤ sizeLine then .ok (.lst xs) m else .no
/-- a list that will change -/
def mLoc (fs : LS → M (List PV)) : LS → M PV := fun τ mh => (fs τ mh).bind fun xs m => if xs.length ≤ sizeLine then .ok (.loc m.length) (m ++ [.lst xs]) else .no
theorem de_tup {x1} (h : DA X es fs) : DE X (.Tuple es x1 pos) (mTup fs) := by
  refine PE.to (pe_tup h) fun σ H Q h => ?_
  obtain ⟨Ex, p, mh, τ, R, S, h⟩ := h
  refine ⟨Ex, p, mh, τ, R, S, Rs.wants_mono (Rs.wants_bind.mp h) fun xs m1 h1 q1 H1 vs N1 r1 => ?_⟩
  split at h1
  · next hz =>
    refine ⟨by rw [r1.len]; exact hz, fun a n => ?_⟩
    obtain ⟨N2, r2⟩ := laidTup N1 r1 n
    exact h1 q1 _ _ N2 r2
  · exact h1.elim
theorem de_lst (h : DA X es fs) : DE X (.List es pos) (mLst fs) := by
  refine PE.to (pe_lst h) fun σ H Q h => ?_
  obtain ⟨Ex, p, mh, τ, R, S, h⟩ := h
  refine ⟨Ex, p, mh, τ, R, S, Rs.wants_mono (Rs.wants_bind.mp h) fun xs m1 h1 q1 H1 vs N1 r1 => ?_⟩
  split at h1
  · next hz =>
    refine ⟨by rw [r1.len]; exact hz, fun a n => ?_⟩
    obtain ⟨N2, r2⟩ := laidLst N1 r1 n
    exact h1 q1 _ _ N2 r2
  · exact h1.elim
theorem de_loc (h : DA X es fs) : DE X (.List es pos) (mLoc fs) := by
  refine PE.to (pe_lst h) fun σ H Q h => ?_
  obtain ⟨Ex, p, mh, τ, R, S, h⟩ := h
  refine ⟨Ex, p, mh, τ, R, S, Rs.wants_mono (Rs.wants_bind.mp h) fun xs m1 h1 q1 H1 vs N1 r1 => ?_⟩
  split at h1
  · next hz =>
    refine ⟨by rw [r1.len]; exact hz, fun a n => ?_⟩
    obtain ⟨N2, r2⟩ := locLst N1 r1 n
    exact h1 _ _ _ N2 (r2 _)
  · exact h1.elim
end
end ML

set_option Elab.async false
set_option linter.all false
set_option maxRecDepth 100000
/-! ML3: operators by values. -/
namespace ML
open PySem PySem.Spec L2

/-! ### views -/
def seqL (mh : List PV) : PV → Option (List PV)
  | .lst ts => some ts
  | .loc n => match mh[n]? with
    | some (.lst ts) => some ts
    | _ => none
  | _ => none
def seqR (mh : List PV) : PV → Option (List PV)
  | .scr ns => some (ns.map .int)
  | x => seqL mh x
def seqT : PV → Option (List PV)
  | .tup ts => some ts
  | _ => none
section
variable {K : PySem.W.Frag} {Ex : List Addr} {p : Pm} {mh : List PV} {H : Hp} {x : PV} {v : V} {ts : List PV}
theorem seqL_ok (R : Rl K Ex p mh H) (r : Rep K (Gr Ex p H) p x v) (e : seqL mh x = some ts) : ∃ a vs, v = .ref a ∧ H a = some (.lst vs) ∧ Reps K (Gr Ex p H) p ts vs := by
  cases x <;> simp only [seqL] at e <;> try cases e
  case lst.refl =>
    simp only [Rep] at r; obtain ⟨a, vs, rfl, h, r⟩ := r
    exact ⟨a, vs, rfl, (Gz.some h).1, r⟩
  case loc n =>
    simp only [Rep] at r; obtain ⟨a, rfl, h⟩ := r
    obtain ⟨o, e1, r1⟩ := R.obj n a h
    rw [e1] at e
    cases o <;> simp only at e <;> try cases e
    simp only [RepO] at r1; obtain ⟨vs, h1, r1⟩ := r1
    exact ⟨a, vs, rfl, h1, r1⟩
theorem reps_ints {G : Hp} : ∀ ns : List Int, Reps K G p (ns.map PV.int) (ns.map V.int)
  | [] => Reps.nil
  | n :: ns => Reps.cons (by simp only [Rep]) (reps_ints ns)
theorem seqR_ok (R : Rl K Ex p mh H) (r : Rep K (Gr Ex p H) p x v) (e : seqR mh x = some ts) : ∃ a vs, v = .ref a ∧ SqL K H a vs ∧ Reps K (Gr Ex p H) p ts vs := by
  unfold seqR at e
  split at e
  · next ns =>
    cases e
    simp only [Rep] at r; obtain ⟨a, rfl, h⟩ := r
    exact ⟨a, _, rfl, (Gz.le H _).seq h, reps_ints ns⟩
  · obtain ⟨a, vs, e1, h, r⟩ := seqL_ok R r e
    exact ⟨a, vs, e1, SqL.of h, r⟩
theorem seqT_ok (R : Rl K Ex p mh H) (r : Rep K (Gr Ex p H) p x v) (e : seqT x = some ts) : ∃ a vs, v = .ref a ∧ SqT K H a vs ∧ Reps K (Gr Ex p H) p ts vs := by
  cases x <;> simp only [seqT] at e <;> try cases e
  simp only [Rep] at r; obtain ⟨a, vs, rfl, h, r⟩ := r
  exact ⟨a, vs, rfl, SqT.of (Gz.some h).1, r⟩
end

/-! ### data as a whole -/
mutual
def toD (s : Nat → Option PyData) : PV → Option PyData
  | .non => some .none
  | .bl b => some (.bool b)
  | .int i => some (.int i)
  | .str x => some (.str x)
  | .tup ts => match toDs s ts with
    | some ds => some (.tuple ds)
    | none => none
  | .lst ts => match toDs s ts with
    | some ds => some (.list ds)
    | none => none
  | .scr ns => some (.list (ns.map .int))
  | .loc n => s n
  | _ => none
def toDs (s : Nat → Option PyData) : List PV → Option (List PyData)
  | [] => some []
  | t :: ts => match toD s t, toDs s ts with
    | some d, some ds => some (d :: ds)
    | _, _ => none
end
/-- the mutable objects as data, so many deep -/
def locD (mh : List PV) : Nat → Nat → Option PyData
  | 0, _ => none
  | k + 1, n => match mh[n]? with
    | some (.lst ts) => match toDs (locD mh k) ts with
      | some ds => some (.list ds)
      | none => none
    | _ => none
abbrev dat (mh : List PV) (x : PV) : Option PyData := toD (locD mh 8) x
section
variable {K : PySem.W.Frag} {Ex : List Addr} {p : Pm} {mh : List PV} {H : Hp}
theorem dp_ints {a : Addr} : ∀ ns : List Int, DpAll K H (ns.map V.int) (ns.map PyData.int)
  | [] => .nil
  | n :: ns => .cons (.int n) (dp_ints (a := a) ns)
mutual
theorem toD_ok (R : Rl K Ex p mh H) {s : Nat → Option PyData} (hs : ∀ n d a, s n = some d → p[n]? = some (some a) → Dp K H (.ref a) d) : ∀ (t : PV) {v : V} {d : PyData}, Rep K (Gr Ex p H) p t v → toD s t = some d → Dp K H v d
  | .non, _, _, r, e => by simp only [Rep] at r; simp only [toD] at e; cases e; subst r; exact .non
  | .bl b, _, _, r, e => by simp only [Rep] at r; simp only [toD] at e; cases e; subst r; exact .bl b
  | .int b, _, _, r, e => by simp only [Rep] at r; simp only [toD] at e; cases e; subst r; exact .int b
  | .str b, _, _, r, e => by simp only [Rep] at r; simp only [toD] at e; cases e; subst r; exact .str b
  | .tup ts, _, _, r, e => by
    simp only [Rep] at r; obtain ⟨a, vs, rfl, h, r⟩ := r
    simp only [toD] at e
    cases q : toDs s ts with
    | none => rw [q] at e; cases e
    | some ds => rw [q] at e; cases e; exact .tup (SqT.of (Gz.some h).1) (toDs_ok R hs ts r q)
  | .lst ts, _, _, r, e => by
    simp only [Rep] at r; obtain ⟨a, vs, rfl, h, r⟩ := r
    simp only [toD] at e
    cases q : toDs s ts with
    | none => rw [q] at e; cases e
    | some ds => rw [q] at e; cases e; exact .lst (SqL.of (Gz.some h).1) (toDs_ok R hs ts r q)
  | .scr ns, _, _, r, e => by
    simp only [Rep] at r; obtain ⟨a, rfl, h⟩ := r
    simp only [toD] at e; cases e
    exact .lst ((Gz.le H _).seq h) (dp_ints (a := a) ns)
  | .loc n, _, _, r, e => by
    simp only [Rep] at r; obtain ⟨a, rfl, h⟩ := r
    simp only [toD] at e
    exact hs n _ a e h
  | .ty _, _, _, _, e => by simp only [toD] at e; cases e
  | .ad _, _, _, _, e => by simp only [toD] at e; cases e
  | .obj _ _ _, _, _, _, e => by simp only [toD] at e; cases e
  | .dk _ _, _, _, _, e => by simp only [toD] at e; cases e
  | .dt _ _, _, _, _, e => by simp only [toD] at e; cases e
theorem toDs_ok (R : Rl K Ex p mh H) {s : Nat → Option PyData} (hs : ∀ n d a, s n = some d → p[n]? = some (some a) → Dp K H (.ref a) d) : ∀ (ts : List PV) {vs : List V} {ds : List PyData}, Reps K (Gr Ex p H) p ts vs → toDs s ts = some ds → DpAll K H vs ds
  | [], _, _, r, e => by simp only [Reps] at r; simp only [toDs] at e; cases e; subst r; exact .nil
  | t :: ts, _, _, r, e => by
    simp only [Reps] at r; obtain ⟨v, ws, rfl, r, rs⟩ := r
    simp only [toDs] at e
    cases q : toD s t with
    | none => rw [q] at e; cases e
    | some d =>
      cases q2 : toDs s ts with
      | none => rw [q, q2] at e; cases e
      | some ds => rw [q, q2] at e; cases e; exact .cons (toD_ok R hs t r q) (toDs_ok R hs ts rs q2)
end
theorem locD_ok (R : Rl K Ex p mh H) : ∀ (k n : Nat) (d : PyData) (a : Addr), locD mh k n = some d → p[n]? = some (some a) → Dp K H (.ref a) d
  | 0, _, _, _, e, _ => by simp only [locD] at e; cases e
  | k + 1, n, d, a, e, h => by
    obtain ⟨o, e1, r1⟩ := R.obj n a h
    simp only [locD] at e
    rw [e1] at e
    cases o <;> simp only at e <;> try cases e
    case lst ts =>
      simp only [RepO] at r1; obtain ⟨vs, h1, r1⟩ := r1
      cases q : toDs (locD mh k) ts with
      | none => rw [q] at e; cases e
      | some ds => rw [q] at e; cases e; exact .lst (SqL.of h1) (toDs_ok R (locD_ok R k) ts r1 q)
theorem dat_ok (R : Rl K Ex p mh H) {x : PV} {v : V} {d : PyData} (r : Rep K (Gr Ex p H) p x v) (e : dat mh x = some d) : Dp K H v d := toD_ok R (fun n d a => locD_ok R 8 n d a) x r e
end

/-! ### + - * // % .. -/
section
variable {X : Cx}
def cat2 (a b : Option (List PV)) : M PV := fun mh => match a, b with
  | some a, some b => if a.length + b.length ≤ sizeLine then .ok (.lst (a ++ b)) mh else .no
  | _, _ => .no
def vAdd (x y : PV) : M PV := fun mh => match x, y with
  | .int i, .int j => .ok (.int (i + j)) mh
  | .str s, .str t => if s.length + t.length ≤ sizeLine then .ok (.str (s ++ t)) mh else .no
  | .tup a, .tup b => if a.length + b.length ≤ sizeLine then .ok (.tup (a ++ b)) mh else .no
  | x, y => cat2 (seqL mh x) (seqL mh y) mh
theorem opv_add : OpV X (binaryOp .Add) vAdd := by
  intro pins s σ H v w vv ww Q I rv rw ⟨Ex, p, mh, x, y, R, rx, ry, h⟩
  unfold vAdd at h
  split at h
  · simp only [Rep] at rx ry; subst rx ry
    exact op_add pins s σ H _ _ vv ww Q I rv rw ⟨_, _, rfl, rfl, h p H _ (Nx.refl R) (by simp only [Rep])⟩
  · simp only [Rep] at rx ry; subst rx ry
    split at h
    · next hz => exact op_add_str pins s σ H _ _ vv ww Q I rv rw ⟨_, _, rfl, rfl, hz, h p H _ (Nx.refl R) (by simp only [Rep])⟩
    · exact h.elim
  · split at h
    · next hz =>
      have rx0 := rx
      have ry0 := ry
      simp only [Rep] at rx ry
      obtain ⟨a, vs, rfl, hv, rv'⟩ := rx
      obtain ⟨b, ws, rfl, hw, rw'⟩ := ry
      refine op_catA pins s σ H _ _ vv ww Q I rv rw ⟨a, b, vs, ws, rfl, rfl, SqT.of (Gz.some hv).1, SqT.of (Gz.some hw).1, by rw [rv'.len, rw'.len]; exact hz, fun e => ?_, fun _ e => ?_, fun _ _ q n => ?_⟩
      · subst e
        have hl := List.length_eq_zero_iff.mp rv'.len.symm
        subst hl
        exact h p H _ (Nx.refl R) ry0
      · subst e
        have hl := List.length_eq_zero_iff.mp rw'.len.symm
        subst hl
        rw [List.append_nil] at h
        exact h p H _ (Nx.refl R) rx0
      · obtain ⟨N, r⟩ := laidTup (Nx.refl R) (rv'.app rw') n
        exact h p _ _ N r
    · exact h.elim
  · unfold cat2 at h
    split at h
    · next a b e1 e2 =>
      split at h
      · next hz =>
        obtain ⟨a, vs, rfl, hv, rv'⟩ := seqL_ok R rx e1
        obtain ⟨b, ws, rfl, hw, rw'⟩ := seqL_ok R ry e2
        refine op_cat pins s σ H _ _ vv ww Q I rv rw ⟨a, b, vs, ws, rfl, rfl, hv, hw, by rw [rv'.len, rw'.len]; exact hz, fun q n => ?_⟩
        obtain ⟨N, r⟩ := laidLst (Nx.refl R) (rv'.app rw') n
        exact h p _ _ N r
      · exact h.elim
    · exact h.elim
/-- two ints -/
def vInt (C : Int → Int → Bool) (g : Int → Int → PV) (x y : PV) : M PV := fun mh => match x, y with
  | .int i, .int j => if C i j = true then .ok (g i j) mh else .no
  | _, _ => .no
theorem opv_int {f : Value → Value → Sem Value} {C : Int → Int → Prop} {Cb : Int → Int → Bool} {g : Int → Int → V} {gp : Int → Int → PV} (h0 : OpR X f (rI C g)) (hC : ∀ i j, Cb i j = true → C i j) (hg : ∀ K G p i j, Rep K G p (gp i j) (g i j)) : OpV X f (vInt Cb gp) := by
  intro pins s σ H v w vv ww Q I rv rw ⟨Ex, p, mh, x, y, R, rx, ry, h⟩
  unfold vInt at h
  split at h
  · next i j =>
    simp only [Rep] at rx ry; subst rx ry
    split at h
    · next hc => exact h0 pins s σ H _ _ vv ww Q I rv rw ⟨_, _, rfl, rfl, hC i j hc, h p H _ (Nx.refl R) (hg _ _ _ i j)⟩
    · exact h.elim
  · exact h.elim
theorem rI_of0 {f : Value → Value → Sem Value} {g : Int → Int → V} (h0 : OpR X f (rI0 g)) : OpR X f (rI (fun _ _ => True) g) := by
  intro pins s σ H v w vv ww Q I rv rw ⟨i, j, e1, e2, _, q⟩
  exact h0 pins s σ H v w vv ww Q I rv rw ⟨i, j, e1, e2, q⟩
abbrev vSub := vInt (fun _ _ => true) fun i j => .int (i - j)
theorem opv_sub : OpV X (binaryOp .Sub) vSub := opv_int (rI_of0 op_sub) (fun _ _ _ => trivial) fun _ _ _ _ _ => by simp only [Rep]
abbrev vMod := vInt (fun _ j => decide (0 < j)) fun i j => .int (i % j)
theorem opv_mod : OpV X (binaryOp .Mod) vMod := opv_int op_mod (fun _ _ h => of_decide_eq_true h) fun _ _ _ _ _ => by simp only [Rep]
abbrev vDiv := vInt (fun _ j => decide (0 < j ∧ j < 1073741824)) fun i j => .int (i / j)
theorem opv_div : OpV X (binaryOp .FloorDiv) vDiv := opv_int op_fdiv (fun i j h => show CDiv i j from of_decide_eq_true (p := 0 < j ∧ j < 1073741824) h) fun _ _ _ _ _ => by simp only [Rep]
abbrev vShr := vInt (fun _ j => decide (0 ≤ j)) fun i j => .int (i / 2 ^ j.toNat)
theorem opv_shr : OpV X (binaryOp .RShift) vShr := opv_int op_shr (fun _ _ h => of_decide_eq_true h) fun _ _ _ _ _ => by simp only [Rep]
abbrev vShl := vInt (fun i j => decide (0 ≤ j ∧ (Builtin.Int.intBits i : Int) + j ≤ 2 ^ 27)) fun i j => .int (i * 2 ^ j.toNat)
theorem opv_shl : OpV X (binaryOp .LShift) vShl := opv_int op_shlW (fun i j h => show CShl i j from of_decide_eq_true (p := 0 ≤ j ∧ (Builtin.Int.intBits i : Int) + j ≤ 2 ^ 27) h) fun _ _ _ _ _ => by simp only [Rep]
abbrev vPow := vInt (fun i j => decide (0 ≤ j ∧ j ≤ 1000000 ∧ i.natAbs < 2 ^ 64)) fun i j => .int (i ^ j.toNat)
theorem opv_pow : OpV X (binaryOp .Pow) vPow := opv_int op_pow (fun i j h => show CPow i j from of_decide_eq_true (p := 0 ≤ j ∧ j ≤ 1000000 ∧ i.natAbs < 2 ^ 64) h) fun _ _ _ _ _ => by simp only [Rep]
def repS (s : Str) (n : Nat) : Str := ⟨(List.replicate n s.cps.toList).flatten.toArray⟩
def vMul (x y : PV) : M PV := fun mh => match x, y with
  | .int i, .int j => if (Builtin.Int.intBits i : Int) + (Builtin.Int.intBits j : Int) ≤ 134217728 then .ok (.int (i * j)) mh else .no
  | .lst a, .int k => if -(2 ^ 63) ≤ k ∧ k < 2 ^ 63 ∧ a.length * k.toNat ≤ sizeLine then .ok (.lst (List.replicate k.toNat a).flatten) mh else .no
  | .str s, .int k => if 0 ≤ k ∧ k ≤ 4096 ∧ s.length ≤ 4096 then .ok (.str (repS s k.toNat)) mh else .no
  | _, _ => .no
theorem foldl_cat : ∀ (l : List (Array Nat)) (acc : Array Nat), (l.foldl (· ++ ·) acc).toList = acc.toList ++ (l.map Array.toList).flatten
  | [], acc => by simp
  | a :: l, acc => by rw [List.foldl_cons, foldl_cat l]; simp
theorem op_mulStr {X : Cx} : OpR X (binaryOp .Mult) fun x y H Q => ∃ s k, x = .str s ∧ y = .int k ∧ 0 ≤ k ∧ k ≤ 4096 ∧ s.length ≤ 4096 ∧ Q (.str (repS s k.toNat)) H := by
  intro pins st σ H v w vv ww Q I r1 r2 ⟨s, k, e1, e2, h0, h1, h2, q⟩
  subst e1 e2
  obtain ⟨t, rfl⟩ := r1
  obtain ⟨u, rfl⟩ := r2
  have hle : s.length * k.toNat ≤ 4096 * 4096 := Nat.mul_le_mul h2 (by omega)
  have hfl : ∀ n, (⟨(List.replicate n s.cps).foldl (· ++ ·) #[]⟩ : Str) = repS s n := fun n => by
    unfold repS
    congr 1
    apply Array.ext'
    rw [foldl_cat]
    simp
  refine PySem.P.mul_str ?_ (fun a b => ?_) (fun a b => ?_) ?_
  · rw [decide_eq_false (by omega), decide_eq_false (by omega)]; rfl
  · have hk : 1 ≤ k := by omega
    have : (4096 : Int) ≤ (2 ^ 63 - 1) / k := Int.le_ediv_of_mul_le (by omega) (by omega)
    omega
  · have : ¬ (s.length * k.toNat > sizeLine) := by rw [sizeLine_eq]; omega
    exact decide_eq_false this
  · split
    · next hk =>
      have e : k.toNat = 0 := by omega
      refine ⟨by decide, .str Str.empty, H, I.tok _, ⟨_, rfl⟩, ?_⟩
      have e2 : repS s k.toNat = Str.empty := by rw [e]; rfl
      rw [← e2]; exact q
    · next hk =>
      split
      · next hz =>
        refine ⟨.str s, H, I, ⟨_, rfl⟩, ?_⟩
        have e2 : repS s k.toNat = s := by
          rw [Bool.or_eq_true, beq_iff_eq, beq_iff_eq] at hz
          unfold repS
          obtain ⟨⟨l⟩⟩ := s
          rcases hz with hz | hz
          · subst hz; simp
          · have hl : l = [] := List.length_eq_zero_iff.mp hz
            subst hl
            congr 2
            simp
        rw [← e2]; exact q
      · rw [hfl]
        refine ⟨?_, .str _, H, I.tok _, ⟨_, rfl⟩, q⟩
        have : (repS s k.toNat).length = k.toNat * s.length := by
          show (List.flatten _).toArray.size = _
          rw [List.size_toArray, List.length_flatten, List.map_replicate, List.sum_replicate_nat]
          rfl
        rw [this, Nat.mul_comm, sizeLine_eq]; omega
theorem reps_rep {K : PySem.W.Frag} {G : Hp} {p : Pm} {ts : List PV} {vs : List V} (r : Reps K G p ts vs) : ∀ n : Nat, Reps K G p (List.replicate n ts).flatten (List.replicate n vs).flatten
  | 0 => Reps.nil
  | n + 1 => by rw [List.replicate_succ, List.replicate_succ, List.flatten_cons, List.flatten_cons]; exact r.app (reps_rep r n)
theorem opv_mul : OpV X (binaryOp .Mult) vMul := by
  intro pins s σ H v w vv ww Q I rv rw ⟨Ex, p, mh, x, y, R, rx, ry, h⟩
  unfold vMul at h
  split at h
  · next i j =>
    simp only [Rep] at rx ry; subst rx ry
    split at h
    · next hc => exact op_mulX pins s σ H _ _ vv ww Q I rv rw ⟨_, _, rfl, rfl, hc, h p H _ (Nx.refl R) (by simp only [Rep])⟩
    · exact h.elim
  · next a k =>
    simp only [Rep] at rx ry; subst ry
    obtain ⟨b, vs, rfl, hv, rv'⟩ := rx
    split at h
    · next hc =>
      refine op_rep pins s σ H _ _ vv ww Q I rv rw ⟨b, k, vs, rfl, rfl, (Gz.some hv).1, hc.1, hc.2.1, by rw [rv'.len]; exact hc.2.2, fun q n => ?_⟩
      obtain ⟨N, r⟩ := laidLst (Nx.refl R) (reps_rep rv' k.toNat) n
      exact h p _ _ N r
    · exact h.elim
  · simp only [Rep] at rx ry; subst rx ry
    split at h
    · next hc => exact op_mulStr pins s σ H _ _ vv ww Q I rv rw ⟨_, _, rfl, rfl, hc.1, hc.2.1, hc.2.2, h p H _ (Nx.refl R) (by simp only [Rep])⟩
    · exact h.elim
  · exact h.elim

/-! ### comparisons -/
def vEq (x y : PV) : M PV := fun mh => match x, y with
  | .str s, .str t => .ok (.bl (s == t)) mh
  | x, y => match dat mh x, dat mh y with
    | some d, some e => if SeqAt.shaped d = true ∧ SeqAt.shaped e = true then .ok (.bl (PyData.eqv d e)) mh else .no
    | _, _ => .no
def vNe (x y : PV) : M PV := fun mh => match x, y with
  | .str s, .str t => .ok (.bl (!(s == t))) mh
  | x, y => match dat mh x, dat mh y with
    | some d, some e => if SeqAt.shaped d = true ∧ SeqAt.shaped e = true then .ok (.bl (!PyData.eqv d e)) mh else .no
    | _, _ => .no
theorem str_beq (a b : Str) : (a.cps.toList == b.cps.toList) = (a == b) := by
  rw [Bool.eq_iff_iff, beq_iff_eq, beq_iff_eq]
  constructor
  · intro h
    obtain ⟨⟨a⟩⟩ := a
    obtain ⟨⟨b⟩⟩ := b
    exact congrArg (fun l => (⟨⟨l⟩⟩ : Str)) h
  · intro h; rw [h]
theorem opv_eq (hu : X.A.units + 64 < cLine) : OpV X (compareOp .Eq) vEq := by
  intro pins s σ H v w vv ww Q I rv rw ⟨Ex, p, mh, x, y, R, rx, ry, h⟩
  unfold vEq at h
  split at h
  · simp only [Rep] at rx ry; subst rx ry
    obtain ⟨t, rfl⟩ := rv
    obtain ⟨u, rfl⟩ := rw
    refine PySem.P.eq_str ⟨.bl _, H, I, rfl, ?_⟩
    rw [str_beq]
    exact h p H _ (Nx.refl R) (by simp only [Rep])
  · split at h
    · next d e e1 e2 =>
      split at h
      · next hs => exact op_eqD hu pins s σ H _ _ vv ww Q I rv rw ⟨d, e, dat_ok R rx e1, dat_ok R ry e2, hs.1, hs.2, h p H _ (Nx.refl R) (by simp only [Rep])⟩
      · exact h.elim
    · exact h.elim
theorem opv_ne (hu : X.A.units + 64 < cLine) : OpV X (compareOp .NotEq) vNe := by
  intro pins s σ H v w vv ww Q I rv rw ⟨Ex, p, mh, x, y, R, rx, ry, h⟩
  unfold vNe at h
  split at h
  · simp only [Rep] at rx ry; subst rx ry
    obtain ⟨t, rfl⟩ := rv
    obtain ⟨u, rfl⟩ := rw
    refine PySem.P.ne_str ⟨.bl _, H, I, rfl, ?_⟩
    show Q (.bl (!(_ == _))) H
    rw [str_beq]
    exact h p H _ (Nx.refl R) (by simp only [Rep])
  · split at h
    · next d e e1 e2 =>
      split at h
      · next hs => exact op_neD hu pins s σ H _ _ vv ww Q I rv rw ⟨d, e, dat_ok R rx e1, dat_ok R ry e2, hs.1, hs.2, h p H _ (Nx.refl R) (by simp only [Rep])⟩
      · exact h.elim
    · exact h.elim
/-- order: two ints, two texts -/
def vOrd (g : Int → Int → Bool) (k : List Nat → List Nat → Bool) (x y : PV) : M PV := fun mh => match x, y with
  | .int i, .int j => .ok (.bl (g i j)) mh
  | .str s, .str t => .ok (.bl (k s.cps.toList t.cps.toList)) mh
  | _, _ => .no
theorem opv_ord {f : Value → Value → Sem Value} {g : Int → Int → Bool} {k : List Nat → List Nat → Bool} (h1 : OpR X f (rI0 fun i j => .bl (g i j))) (h2 : OpR X f (fun x y H Q => ∃ i j, x = .str i ∧ y = .str j ∧ Q (.bl (k i.cps.toList j.cps.toList)) H)) :
    OpV X f (vOrd g k) := by
  intro pins s σ H v w vv ww Q I rv rw ⟨Ex, p, mh, x, y, R, rx, ry, h⟩
  unfold vOrd at h
  split at h
  · simp only [Rep] at rx ry; subst rx ry
    exact h1 pins s σ H _ _ vv ww Q I rv rw ⟨_, _, rfl, rfl, h p H _ (Nx.refl R) (by simp only [Rep])⟩
  · simp only [Rep] at rx ry; subst rx ry
    exact h2 pins s σ H _ _ vv ww Q I rv rw ⟨_, _, rfl, rfl, h p H _ (Nx.refl R) (by simp only [Rep])⟩
  · exact h.elim
abbrev vLt := vOrd (fun i j => decide (i < j)) fun s t => decide (s < t)
abbrev vLe := vOrd (fun i j => decide (i ≤ j)) fun s t => !decide (t < s)
abbrev vGt := vOrd (fun i j => decide (j < i)) fun s t => decide (t < s)
abbrev vGe := vOrd (fun i j => decide (j ≤ i)) fun s t => !decide (s < t)
theorem opv_lt : OpV X (compareOp .Lt) vLt := opv_ord op_lt op_lt_str
theorem opv_le : OpV X (compareOp .LtE) vLe := opv_ord op_le op_le_str
theorem opv_gt : OpV X (compareOp .Gt) vGt := opv_ord op_gt op_gt_str
theorem opv_ge : OpV X (compareOp .GtE) vGe := opv_ord op_ge op_ge_str
def isNon : PV → Bool
  | .non => true
  | _ => false
theorem isNon_ok {K : PySem.W.Frag} {G : Hp} {p : Pm} {x : PV} {v : V} (r : Rep K G p x v) : decide (v = .non) = isNon x := by
  cases x <;> simp only [Rep] at r <;> simp only [isNon]
  case non => subst r; rfl
  case bl => subst r; rfl
  case int => subst r; rfl
  case str => subst r; rfl
  case ty => subst r; rfl
  case ad => subst r; rfl
  case scr => obtain ⟨a, rfl, _⟩ := r; rfl
  case tup => obtain ⟨a, _, rfl, _⟩ := r; rfl
  case lst => obtain ⟨a, _, rfl, _⟩ := r; rfl
  case obj => obtain ⟨a, _, _, rfl, _⟩ := r; rfl
  case dk => obtain ⟨a, _, rfl, _⟩ := r; rfl
  case dt => obtain ⟨a, _, rfl, _⟩ := r; rfl
  case loc => obtain ⟨a, rfl, _⟩ := r; rfl
/-- is, is not: None on the right, or two truth values -/
def vIs (n : Bool) (x y : PV) : M PV := fun mh => match x, y with
  | x, .non => .ok (.bl (xor n (isNon x))) mh
  | .bl a, .bl b => .ok (.bl (xor n (decide (a = b)))) mh
  | _, _ => .no
theorem opv_is : OpV X (compareOp .Is) (vIs false) := by
  intro pins s σ H v w vv ww Q I rv rw ⟨Ex, p, mh, x, y, R, rx, ry, h⟩
  unfold vIs at h
  split at h
  · have e := isNon_ok rx
    simp only [Rep] at ry; subst ry
    refine op_isN pins s σ H _ _ vv ww Q I rv rw ⟨rfl, ?_⟩
    rw [e]
    exact h p H _ (Nx.refl R) (by simp only [Rep, Bool.false_xor])
  · simp only [Rep] at rx ry; subst rx ry
    exact op_is_bl pins s σ H _ _ vv ww Q I rv rw ⟨_, _, rfl, rfl, h p H _ (Nx.refl R) (by simp only [Rep, Bool.false_xor])⟩
  · exact h.elim
theorem opv_isnot : OpV X (compareOp .IsNot) (vIs true) := by
  intro pins s σ H v w vv ww Q I rv rw ⟨Ex, p, mh, x, y, R, rx, ry, h⟩
  unfold vIs at h
  split at h
  · have e := isNon_ok rx
    simp only [Rep] at ry; subst ry
    refine op_notN pins s σ H _ _ vv ww Q I rv rw ⟨rfl, ?_⟩
    rw [e]
    exact h p H _ (Nx.refl R) (by simp only [Rep, Bool.true_xor])
  · simp only [Rep] at rx ry; subst rx ry
    exact op_isnot_bl pins s σ H _ _ vv ww Q I rv rw ⟨_, _, rfl, rfl, h p H _ (Nx.refl R) (by simp only [Rep, Bool.true_xor])⟩
  · exact h.elim
/-- x in y: a sign in a text, data in a list -/
def vIn (n : Bool) (x y : PV) : M PV := fun mh => match x, y with
  | .str ⟨⟨[c]⟩⟩, .str z => .ok (.bl (xor n (decide (c ∈ z.cps.toList)))) mh
  | x, y => match dat mh x, dat mh y with
    | some d, some (.list ds) => if SeqAt.shaped d = true ∧ SeqAt.shaped (.list ds) = true then .ok (.bl (xor n (ds.any fun z => PyData.eqv z d))) mh else .no
    | _, _ => .no
theorem opv_in (hu : X.A.units + 65 < cLine) : OpV X (compareOp .In) (vIn false) := by
  intro pins s σ H v w vv ww Q I rv rw ⟨Ex, p, mh, x, y, R, rx, ry, h⟩
  unfold vIn at h
  split at h
  · simp only [Rep] at rx ry; subst rx ry
    exact op_in_sign pins s σ H _ _ vv ww Q I rv rw ⟨_, _, rfl, rfl, h p H _ (Nx.refl R) (by simp only [Rep, Bool.false_xor])⟩
  · split at h
    · next d ds e1 e2 =>
      split at h
      · next hs => exact op_inD hu pins s σ H _ _ vv ww Q I rv rw ⟨d, ds, dat_ok R rx e1, dat_ok R ry e2, hs.1, hs.2, h p H _ (Nx.refl R) (by simp only [Rep, Bool.false_xor])⟩
      · exact h.elim
    · exact h.elim
theorem opv_notin (hu : X.A.units + 65 < cLine) : OpV X (compareOp .NotIn) (vIn true) := by
  intro pins s σ H v w vv ww Q I rv rw ⟨Ex, p, mh, x, y, R, rx, ry, h⟩
  unfold vIn at h
  split at h
  · simp only [Rep] at rx ry; subst rx ry
    exact op_notIn_sign pins s σ H _ _ vv ww Q I rv rw ⟨_, _, rfl, rfl, h p H _ (Nx.refl R) (by simp only [Rep, Bool.true_xor])⟩
  · split at h
    · next d ds e1 e2 =>
      split at h
      · next hs => exact op_notInD hu pins s σ H _ _ vv ww Q I rv rw ⟨d, ds, dat_ok R rx e1, dat_ok R ry e2, hs.1, hs.2, h p H _ (Nx.refl R) (by simp only [Rep, Bool.true_xor])⟩
      · exact h.elim
    · exact h.elim
end
end ML

set_option Elab.async false
set_option linter.all false
set_option maxRecDepth 100000
/-! ML4: subscripts, slices, calls of built-ins. -/
namespace ML
open PySem PySem.Spec L2

/-! ### x[i] -/
theorem reps_atI {K : PySem.W.Frag} {G : Hp} {p : Pm} {ts : List PV} {vs : List V} (r : Reps K G p ts vs) {i : Int} {t : PV} (e : atI ts i = some t) : ∃ v, atI vs i = some v ∧ Rep K G p t v := by
  unfold atI at e ⊢
  rw [r.len]
  cases q : ixN ts.length i with
  | none => rw [q] at e; cases e
  | some j =>
    rw [q] at e
    exact r.get e
def vIx (x y : PV) : M PV := fun mh => match y with
  | .int i => (match x with
    | .str z => if z.length ≤ sizeLine then (match atI z.cps.toList i with
      | some c => .ok (.str ⟨#[c]⟩) mh
      | none => .no) else .no
    | .tup ts => (match atI ts i with
      | some t => .ok t mh
      | none => .no)
    | x => (match seqR mh x with
      | some ts => (match atI ts i with
        | some t => .ok t mh
        | none => .no)
      | none => .no))
  | _ => .no
section
variable {X : Cx} {a b c : Expr} {pos : Pos} {f g k : LS → M PV}
theorem ixv_seq : IxR X (rOf X.K vIx) := by
  intro value slice pins s σ H v w vv ww Q I rv rw ⟨Ex, p, mh, x, y, R, rx, ry, h⟩ hs
  unfold vIx at h
  split at h
  · next i =>
    simp only [Rep] at ry; subst ry
    split at h
    · simp only [Rep] at rx; subst rx
      split at h
      · next hz =>
        split at h
        · next c e => exact ix_str value slice pins s σ H _ _ vv ww Q I rv rw ⟨_, _, c, rfl, rfl, hz, e, h p H _ (Nx.refl R) (by simp only [Rep])⟩ hs
        · exact h.elim
      · exact h.elim
    · next ts =>
      simp only [Rep] at rx; obtain ⟨a, vs, rfl, hv, rv'⟩ := rx
      split at h
      · next t e =>
        obtain ⟨v, e1, r1⟩ := reps_atI rv' e
        exact ix_tup value slice pins s σ H _ _ vv ww Q I rv rw ⟨a, vs, _, v, rfl, rfl, SqT.of (Gz.some hv).1, e1, h p H _ (Nx.refl R) r1⟩ hs
      · exact h.elim
    · split at h
      · next ts e0 =>
        split at h
        · next t e =>
          obtain ⟨a, vs, rfl, hv, rv'⟩ := seqR_ok R rx e0
          obtain ⟨v, e1, r1⟩ := reps_atI rv' e
          exact ix_list value slice pins s σ H _ _ vv ww Q I rv rw ⟨a, vs, _, v, rfl, rfl, hv, e1, h p H _ (Nx.refl R) r1⟩ hs
        · exact h.elim
      · exact h.elim
  · exact h.elim
theorem de_ix (ha : DE X a f) (hb : DE X b g) (hs : PlainIx b := by exact fun _ _ => rfl) : DE X (.Subscript a b pos) (mBin vIx f g) := PE.to (pe_ix ixv_seq ha hb hs) fun _ _ _ => mBin_in

/-! ### x[lo:hi] -/
def tOfO (K : PySem.W.Frag) (f : LS → M (Option Int)) : TO := fun σ H Q => ∃ Ex p mh τ, Rl K Ex p mh H ∧ RSt K (Gr Ex p H) p σ τ ∧
  (f τ mh).wants fun b mh' => ∀ q H', Nx K Ex p H q mh' H' → Q b H'
abbrev DO (X : Cx) (e : Option Expr) (f : LS → M (Option Int)) : Prop := PO X e (tOfO X.K f)
theorem PO.to {e : Option Expr} {t t' : TO} (h : PO X e t) (i : ∀ σ H Q, t' σ H Q → t σ H Q) : PO X e t' := ⟨fun pins s σ H Q I q => h.run pins s σ H Q I (i σ H Q q)⟩
def oNone : LS → M (Option Int) := fun _ mh => .ok none mh
def oSome (f : LS → M PV) : LS → M (Option Int) := fun τ mh => (f τ mh).bind fun x m => match x with
  | .int i => .ok (some i) m
  | _ => .no
theorem do_none : DO X none oNone := PO.to po_none fun σ H Q ⟨Ex, p, mh, τ, R, S, h⟩ => h p H (Nx.refl R)
theorem do_some (h : DE X a f) : DO X (some a) (oSome f) := by
  refine PO.to (po_some h) fun σ H Q h => ?_
  obtain ⟨Ex, p, mh, τ, R, S, h⟩ := h
  refine ⟨Ex, p, mh, τ, R, S, Rs.wants_mono (Rs.wants_bind.mp h) fun x m1 h1 q1 H1 v N1 r1 => ?_⟩
  split at h1
  · simp only [Rep] at r1; exact ⟨_, r1, h1 q1 H1 N1⟩
  · exact h1.elim
def cutP (ts : List PV) (lo hi : Option Int) : List PV := (ts.drop (HT.sIx ts.length 0 lo)).take (HT.sIx ts.length ts.length hi - HT.sIx ts.length 0 lo)
theorem reps_cut {K : PySem.W.Frag} {G : Hp} {p : Pm} {ts : List PV} {vs : List V} (r : Reps K G p ts vs) (lo hi : Option Int) : Reps K G p (cutP ts lo hi) (cutV vs lo hi) := by
  unfold cutP cutV
  rw [r.len]
  exact (r.drop _).take _
def vSl (x : PV) (lo hi : Option Int) : M PV := fun mh => match x with
  | .str z => if z.length ≤ sizeLine then .ok (.str (cutS z lo hi)) mh else .no
  | .tup ts => .ok (.tup (cutP ts lo hi)) mh
  | x => (match seqR mh x with
    | some ts => .ok (.lst (cutP ts lo hi)) mh
    | none => .no)
def rOfSl (K : PySem.W.Frag) : V → Option Int → Option Int → Hp → VK → Prop := fun v lo hi H Q => ∃ Ex p mh x, Rl K Ex p mh H ∧ Rep K (Gr Ex p H) p x v ∧
  (vSl x lo hi mh).wants fun t mh' => ∀ q H' u, Nx K Ex p H q mh' H' → Rep K (Gr Ex q H') q t u → Q u H'
theorem cut_all {ts : List PV} {lo hi : Option Int} (h : HT.sIx ts.length 0 lo = 0 ∧ HT.sIx ts.length ts.length hi = ts.length) : cutP ts lo hi = ts := by
  unfold cutP
  rw [h.1, h.2, List.drop_zero, Nat.sub_zero, List.take_length]
theorem sl_v : SlR X (rOfSl X.K) := by
  intro pins s σ H v vv vl vu lo hi sl Q I rv hs pl pu ⟨Ex, p, mh, x, R, rx, h⟩
  unfold vSl at h
  split at h
  · simp only [Rep] at rx; subst rx
    split at h
    · next hz => exact sl_str pins s σ H _ vv vl vu lo hi sl Q I rv hs pl pu ⟨_, rfl, hz, h p H _ (Nx.refl R) (by simp only [Rep])⟩
    · exact h.elim
  · next ts =>
    have rx0 := rx
    simp only [Rep] at rx; obtain ⟨a, vs, rfl, hv, rv'⟩ := rx
    refine sl_tupA pins s σ H _ vv vl vu lo hi sl Q I rv hs pl pu ⟨a, vs, rfl, SqT.of (Gz.some hv).1, fun e => ?_, fun _ q n => ?_⟩
    · rw [rv'.len] at e
      have h := h p H _ (Nx.refl R) (by rw [cut_all e]; exact rx0)
      exact h
    · obtain ⟨N, r⟩ := laidTup (Nx.refl R) (reps_cut rv' lo hi) n
      exact h p _ _ N r
  · split at h
    · next ts e0 =>
      obtain ⟨a, vs, rfl, hv, rv'⟩ := seqR_ok R rx e0
      refine sl_list pins s σ H _ vv vl vu lo hi sl Q I rv hs pl pu ⟨a, vs, rfl, hv, fun q n => ?_⟩
      obtain ⟨N, r⟩ := laidLst (Nx.refl R) (reps_cut rv' lo hi) n
      exact h p _ _ N r
    · exact h.elim
def mSl (f : LS → M PV) (l u : LS → M (Option Int)) : LS → M PV := fun τ mh => (f τ mh).bind fun x m1 => (l τ m1).bind fun lo m2 => (u τ m2).bind fun hi m3 => vSl x lo hi m3
theorem de_sl {lo hi : Option Expr} {l u : LS → M (Option Int)} {p2} (ha : DE X a f) (hl : DO X lo l) (hu : DO X hi u) : DE X (.Subscript a (.Slice lo hi none p2) pos) (mSl f l u) := by
  refine PE.to (pe_slice sl_v ha hl hu) fun σ H Q h => ?_
  obtain ⟨Ex, p, mh, τ, R, S, h⟩ := h
  refine ⟨Ex, p, mh, τ, R, S, Rs.wants_mono (Rs.wants_bind.mp h) fun x m1 h1 q1 H1 v N1 r1 => ?_⟩
  refine ⟨Ex, q1, m1, τ, N1.rl, S.mono N1.same N1.le, Rs.wants_mono (Rs.wants_bind.mp h1) fun y m2 h2 q2 H2 N2 => ?_⟩
  have N12 := N1.trans N2
  refine ⟨Ex, q2, m2, τ, N2.rl, S.mono N12.same N12.le, Rs.wants_mono (Rs.wants_bind.mp h2) fun z m3 h3 q3 H3 N3 => ?_⟩
  exact ⟨Ex, q3, m3, x, N3.rl, (N2.trans N3).rep r1, Rs.wants_mono h3 fun t m4 h4 q4 H4 w N4 r4 => h4 q4 H4 w (N12.trans (N3.trans N4)) r4⟩

/-! ### calls of built-ins by values -/
def rOfC (K : PySem.W.Frag) (o : List PV → M PV) : List V → Hp → VK → Prop := fun vs H Q => ∃ Ex p mh xs, Rl K Ex p mh H ∧ Reps K (Gr Ex p H) p xs vs ∧
  (o xs mh).wants fun t mh' => ∀ q H' u, Nx K Ex p H q mh' H' → Rep K (Gr Ex q H') q t u → Q u H'
abbrev CallV (X : Cx) (f : Value) (o : List PV → M PV) : Prop := CallR X f (rOfC X.K o)
def mCall (o : List PV → M PV) (fs : LS → M (List PV)) : LS → M PV := fun τ mh => (fs τ mh).bind fun xs m => o xs m
theorem mCall_in {K : PySem.W.Frag} {o : List PV → M PV} {fs : LS → M (List PV)} {σ : L2.St} {H : Hp} {Q : VK} (h : tOf K (mCall o fs) σ H Q) : tOfA K fs σ H fun vs H1 => rOfC K o vs H1 Q := by
  obtain ⟨Ex, p, mh, τ, R, S, h⟩ := h
  refine ⟨Ex, p, mh, τ, R, S, Rs.wants_mono (Rs.wants_bind.mp h) fun xs m1 h1 q1 H1 vs N1 r1 => ?_⟩
  exact ⟨Ex, q1, m1, xs, N1.rl, r1, Rs.wants_mono h1 fun t m2 h2 q2 H2 w N2 r2 => h2 q2 H2 w (N1.trans N2) r2⟩
variable {id : String} {x : Str} {e : Expr} {es : List Expr} {fs : LS → M (List PV)} {o : List PV → M PV} {p : Pos} {T : String}
theorem de_callB (hc : CallV X (.builtin id) o) (hg : Gl X x) (hm : X.mg x = none) (hv : bootBuiltins x = some (.builtin id)) (ha : DA X (e :: es) fs) (hn : x ≠ "__name__" := by decide) (hdb : (x == ("__debug__" : Str)) = false := by decide)
    (he : starEach (e :: es) X.env = (false, eval e X.env) :: starEach es X.env := by rfl) (hpl : (backTo pos (starEach es X.env)).any (·.1) = false := by rfl) : DE X (.Call (.Name x p) (e :: es) [] pos) (mCall o fs) :=
  PE.to (pe_callB hc hg hm hv ha hn hdb he hpl) fun _ _ _ => mCall_in
theorem de_callTy (hc : CallV X (.type T) o) (hg : Gl X x) (hm : X.mg x = none) (hv : bootBuiltins x = some (.type T)) (ha : DA X (e :: es) fs) (hn : x ≠ "__name__" := by decide) (hdb : (x == ("__debug__" : Str)) = false := by decide)
    (he : starEach (e :: es) X.env = (false, eval e X.env) :: starEach es X.env := by rfl) (hpl : (backTo pos (starEach es X.env)).any (·.1) = false := by rfl) : DE X (.Call (.Name x p) (e :: es) [] pos) (mCall o fs) :=
  PE.to (pe_callTy hc hg hm hv ha hn hdb he hpl) fun _ _ _ => mCall_in
end

section
variable {X : Cx}
theorem reps1 {K : PySem.W.Frag} {G : Hp} {p : Pm} {x : PV} {vs : List V} (r : Reps K G p [x] vs) : ∃ v, vs = [v] ∧ Rep K G p x v := by
  simp only [Reps] at r; obtain ⟨v, ws, rfl, r, rfl⟩ := r; exact ⟨v, rfl, r⟩
theorem reps2 {K : PySem.W.Frag} {G : Hp} {p : Pm} {x y : PV} {vs : List V} (r : Reps K G p [x, y] vs) : ∃ v w, vs = [v, w] ∧ Rep K G p x v ∧ Rep K G p y w := by
  simp only [Reps] at r; obtain ⟨v, ws, rfl, r, w, us, rfl, r', rfl⟩ := r; exact ⟨v, w, rfl, r, r'⟩
/-- len -/
def vLen (xs : List PV) : M PV := fun mh => match xs with
  | [.str z] => if z.length ≤ sizeLine then .ok (.int z.length) mh else .no
  | [.tup ts] => .ok (.int ts.length) mh
  | [x] => (match seqR mh x with
    | some ts => .ok (.int ts.length) mh
    | none => .no)
  | _ => .no
theorem callv_len : CallV X (.builtin "len") vLen := by
  intro pins s σ H vs us Q I rv ⟨Ex, p, mh, xs, R, rx, h⟩
  unfold vLen at h
  split at h
  · obtain ⟨v, rfl, r⟩ := reps1 rx
    simp only [Rep] at r; subst r
    split at h
    · next hz => exact call_len pins s σ H _ us Q I rv ⟨_, _, rfl, ⟨hz, rfl⟩, h p H _ (Nx.refl R) (by simp only [Rep])⟩
    · exact h.elim
  · obtain ⟨v, rfl, r⟩ := reps1 rx
    simp only [Rep] at r; obtain ⟨a, ws, rfl, hv, r⟩ := r
    exact call_len pins s σ H _ us Q I rv ⟨_, _, rfl, .inr ⟨ws, SqT.of (Gz.some hv).1, r.len.symm⟩, h p H _ (Nx.refl R) (by simp only [Rep])⟩
  · obtain ⟨v, rfl, r⟩ := reps1 rx
    split at h
    · next ts e0 =>
      obtain ⟨a, ws, rfl, hv, r⟩ := seqR_ok R r e0
      exact call_len pins s σ H _ us Q I rv ⟨_, _, rfl, .inl ⟨ws, hv, r.len.symm⟩, h p H _ (Nx.refl R) (by simp only [Rep])⟩
    · exact h.elim
  · exact h.elim
/-- abs, min, max of ints; int -/
def vAbs (xs : List PV) : M PV := fun mh => match xs with
  | [.int i] => .ok (.int (if i < 0 then -i else i)) mh
  | _ => .no
theorem callv_abs : CallV X (.builtin "abs") vAbs := by
  intro pins s σ H vs us Q I rv ⟨Ex, p, mh, xs, R, rx, h⟩
  unfold vAbs at h
  split at h
  · obtain ⟨v, rfl, r⟩ := reps1 rx
    simp only [Rep] at r; subst r
    exact call_abs pins s σ H _ us Q I rv ⟨_, rfl, h p H _ (Nx.refl R) (by simp only [Rep])⟩
  · exact h.elim
def vMin2 (xs : List PV) : M PV := fun mh => match xs with
  | [.int i, .int j] => .ok (.int (if j < i then j else i)) mh
  | _ => .no
theorem callv_min2 (hc : X.calm = true) : CallV X (.builtin "min") vMin2 := by
  intro pins s σ H vs us Q I rv ⟨Ex, p, mh, xs, R, rx, h⟩
  unfold vMin2 at h
  split at h
  · obtain ⟨v, w, rfl, r, r'⟩ := reps2 rx
    simp only [Rep] at r r'; subst r r'
    exact call_min2 hc pins s σ H _ us Q I rv ⟨_, _, rfl, h p H _ (Nx.refl R) (by simp only [Rep])⟩
  · exact h.elim
def vMax2 (xs : List PV) : M PV := fun mh => match xs with
  | [.int i, .int j] => .ok (.int (if j > i then j else i)) mh
  | _ => .no
theorem callv_max2 (hc : X.calm = true) : CallV X (.builtin "max") vMax2 := by
  intro pins s σ H vs us Q I rv ⟨Ex, p, mh, xs, R, rx, h⟩
  unfold vMax2 at h
  split at h
  · obtain ⟨v, w, rfl, r, r'⟩ := reps2 rx
    simp only [Rep] at r r'; subst r r'
    exact call_max2 hc pins s σ H _ us Q I rv ⟨_, _, rfl, h p H _ (Nx.refl R) (by simp only [Rep])⟩
  · exact h.elim
def vToInt (xs : List PV) : M PV := fun mh => match xs with
  | [.int i] => .ok (.int i) mh
  | [.bl b] => .ok (.int (if b then 1 else 0)) mh
  | _ => .no
theorem callv_int : CallV X (.type "int") vToInt := by
  intro pins s σ H vs us Q I rv ⟨Ex, p, mh, xs, R, rx, h⟩
  unfold vToInt at h
  split at h
  · obtain ⟨v, rfl, r⟩ := reps1 rx
    simp only [Rep] at r; subst r
    exact call_int1 pins s σ H _ us Q I rv (.inl ⟨_, rfl, h p H _ (Nx.refl R) (by simp only [Rep])⟩)
  · obtain ⟨v, rfl, r⟩ := reps1 rx
    simp only [Rep] at r; subst r
    exact call_int1 pins s σ H _ us Q I rv (.inr ⟨_, rfl, h p H _ (Nx.refl R) (by simp only [Rep])⟩)
  · exact h.elim
/-- a list or tuple of truth values -/
def bools : List PV → Option (List Bool)
  | [] => some []
  | .bl b :: ts => (bools ts).map (b :: ·)
  | _ => none
theorem bools_ok {K : PySem.W.Frag} {G : Hp} {p : Pm} : ∀ {ts : List PV} {vs : List V} {bs : List Bool}, Reps K G p ts vs → bools ts = some bs → vs = bs.map V.bl
  | [], _, _, r, e => by simp only [bools] at e; cases e; simp only [Reps] at r; exact r
  | t :: ts, _, _, r, e => by
    simp only [Reps] at r; obtain ⟨v, ws, rfl, r, rs⟩ := r
    cases t <;> simp only [bools] at e <;> try cases e
    case bl b =>
      cases q : bools ts with
      | none => rw [q] at e; cases e
      | some bs => rw [q] at e; cases e; simp only [Rep] at r; subst r; rw [bools_ok rs q]; rfl
def vAll (xs : List PV) : M PV := fun mh => match xs with
  | [x] => (match seqR mh x with
    | some ts => (match bools ts with
      | some bs => .ok (.bl (bs.all id)) mh
      | none => .no)
    | none => .no)
  | _ => .no
theorem callv_all (hc : X.calm = true) : CallV X (.builtin "all") vAll := by
  intro pins s σ H vs us Q I rv ⟨Ex, p, mh, xs, R, rx, h⟩
  unfold vAll at h
  split at h
  · obtain ⟨v, rfl, r⟩ := reps1 rx
    split at h
    · next ts e0 =>
      split at h
      · next bs e1 =>
        obtain ⟨a, ws, rfl, hv, r⟩ := seqR_ok R r e0
        obtain rfl := bools_ok r e1
        exact cr_all hc pins s σ H _ us Q I rv ⟨a, bs, rfl, hv, h p H _ (Nx.refl R) (by simp only [Rep])⟩
      · exact h.elim
    · exact h.elim
  · exact h.elim
def vAny (xs : List PV) : M PV := fun mh => match xs with
  | [x] => (match seqR mh x with
    | some ts => (match bools ts with
      | some bs => .ok (.bl (bs.any id)) mh
      | none => .no)
    | none => .no)
  | _ => .no
theorem callv_any (hc : X.calm = true) : CallV X (.builtin "any") vAny := by
  intro pins s σ H vs us Q I rv ⟨Ex, p, mh, xs, R, rx, h⟩
  unfold vAny at h
  split at h
  · obtain ⟨v, rfl, r⟩ := reps1 rx
    split at h
    · next ts e0 =>
      split at h
      · next bs e1 =>
        obtain ⟨a, ws, rfl, hv, r⟩ := seqR_ok R r e0
        obtain rfl := bools_ok r e1
        exact cr_any hc pins s σ H _ us Q I rv ⟨a, bs, rfl, hv, h p H _ (Nx.refl R) (by simp only [Rep])⟩
      · exact h.elim
    · exact h.elim
  · exact h.elim
/-- tuple(list), tuple(tuple) -/
def vTuple (xs : List PV) : M PV := fun mh => match xs with
  | [.tup ts] => .ok (.tup ts) mh
  | [x] => (match seqR mh x with
    | some ts => .ok (.tup ts) mh
    | none => .no)
  | _ => .no
theorem callv_tuple : CallV X (.type "tuple") vTuple := by
  intro pins s σ H vs us Q I rv ⟨Ex, p, mh, xs, R, rx, h⟩
  unfold vTuple at h
  split at h
  · obtain ⟨v, rfl, r⟩ := reps1 rx
    have r0 := r
    simp only [Rep] at r; obtain ⟨a, ws, rfl, hv, r⟩ := r
    exact call_tuple_of pins s σ H _ us Q I rv ⟨a, ws, rfl, .inr ⟨SqT.of (Gz.some hv).1, h p H _ (Nx.refl R) r0⟩⟩
  · obtain ⟨v, rfl, r⟩ := reps1 rx
    split at h
    · next ts e0 =>
      obtain ⟨a, ws, rfl, hv, r⟩ := seqR_ok R r e0
      refine call_tuple_of pins s σ H _ us Q I rv ⟨a, ws, rfl, .inl ⟨hv, fun q n => ?_⟩⟩
      obtain ⟨N, r⟩ := laidTup (Nx.refl R) r n
      exact h p _ _ N r
    · exact h.elim
  · exact h.elim
/-- list(list), list(tuple): still or to be changed -/
def vList0 (xs : List PV) (mh : List PV) : Option (List PV) := match xs with
  | [.tup ts] => some ts
  | [x] => seqR mh x
  | _ => none
def vList (xs : List PV) : M PV := fun mh => match vList0 xs mh with
  | some ts => .ok (.lst ts) mh
  | none => .no
def vListL (xs : List PV) : M PV := fun mh => match vList0 xs mh with
  | some ts => .ok (.loc mh.length) (mh ++ [.lst ts])
  | none => .no
theorem vList0_ok {K : PySem.W.Frag} {Ex : List Addr} {p : Pm} {mh : List PV} {H : Hp} {xs ts : List PV} {vs : List V} (R : Rl K Ex p mh H) (r : Reps K (Gr Ex p H) p xs vs) (e : vList0 xs mh = some ts) :
    ∃ a ys, vs = [.ref a] ∧ (SqL K H a ys ∨ SqT K H a ys) ∧ Reps K (Gr Ex p H) p ts ys := by
  unfold vList0 at e
  split at e
  · cases e
    obtain ⟨v, rfl, r1⟩ := reps1 r
    simp only [Rep] at r1; obtain ⟨a, ws, rfl, hv, r2⟩ := r1
    exact ⟨a, ws, rfl, .inr (SqT.of (Gz.some hv).1), r2⟩
  · obtain ⟨v, rfl, r1⟩ := reps1 r
    obtain ⟨a, ws, rfl, hv, r2⟩ := seqR_ok R r1 e
    exact ⟨a, ws, rfl, .inl hv, r2⟩
  · cases e
theorem callv_list : CallV X (.type "list") vList := by
  intro pins s σ H vs us Q I rv ⟨Ex, p, mh, xs, R, rx, h⟩
  unfold vList at h
  split at h
  · next ts e0 =>
    obtain ⟨a, ws, rfl, hv, r⟩ := vList0_ok R rx e0
    refine call_list_of pins s σ H _ us Q I rv ⟨a, ws, rfl, hv, fun q n => ?_⟩
    obtain ⟨N, r⟩ := laidLst (Nx.refl R) r n
    exact h p _ _ N r
  · exact h.elim
theorem callv_listL : CallV X (.type "list") vListL := by
  intro pins s σ H vs us Q I rv ⟨Ex, p, mh, xs, R, rx, h⟩
  unfold vListL at h
  split at h
  · next ts e0 =>
    obtain ⟨a, ws, rfl, hv, r⟩ := vList0_ok R rx e0
    refine call_list_of pins s σ H _ us Q I rv ⟨a, ws, rfl, hv, fun q n => ?_⟩
    obtain ⟨N, r⟩ := locLst (Nx.refl R) r n
    exact h _ _ _ N (r _)
  · exact h.elim
end

/-! ### methods of built-ins by values -/
def tyB (T : String) (mh : List PV) : PV → Bool
  | .str _ => T == "str"
  | x => T == "list" && (seqR mh x).isSome
theorem tyB_ok {K : PySem.W.Frag} {Ex : List Addr} {p : Pm} {mh : List PV} {H : Hp} {x : PV} {v : V} {T : String} (R : Rl K Ex p mh H) (r : Rep K (Gr Ex p H) p x v) (h : tyB T mh x = true) : tyV K T v H := by
  unfold tyB at h
  split at h
  · simp only [Rep] at r; subst r
    exact eq_of_beq h
  · simp only [Bool.and_eq_true] at h
    obtain ⟨ts, e⟩ := Option.isSome_iff_exists.mp h.2
    obtain ⟨a, vs, rfl, hv, _⟩ := seqR_ok R r e
    exact .inl ⟨eq_of_beq h.1, vs, hv⟩
def rOfM (K : PySem.W.Frag) (o : PV → List PV → M PV) : V → List V → Hp → VK → Prop := fun v vs H Q => ∃ Ex p mh x xs, Rl K Ex p mh H ∧ Rep K (Gr Ex p H) p x v ∧ Reps K (Gr Ex p H) p xs vs ∧
  (o x xs mh).wants fun t mh' => ∀ q H' u, Nx K Ex p H q mh' H' → Rep K (Gr Ex q H') q t u → Q u H'
abbrev MtV (X : Cx) (id : String) (o : PV → List PV → M PV) : Prop := MtR X id (rOfM X.K o)
def mMeth (T : String) (o : PV → List PV → M PV) (f : LS → M PV) (fs : LS → M (List PV)) : LS → M PV := fun τ mh => (f τ mh).bind fun x m1 => if tyB T m1 x = true then (fs τ m1).bind fun xs m2 => o x xs m2 else .no
section
variable {X : Cx} {o e : Expr} {es : List Expr} {name : Str} {apos cpos : Pos} {T id : String} {m : PV → List PV → M PV} {f : LS → M PV} {fs : LS → M (List PV)}
theorem de_bm (pa : PlainAttrs T) (slot : Slot T name id) (hty : typeOf (.builtin id) = pure (.type "method_descriptor")) (hm : MtV X id m) (ho : DE X o f) (ha : DA X (e :: es) fs)
    (hbase : attributeBase o name X.env (eval o X.env) = eval o X.env := by rfl)
    (hfew : ((backTo cpos (starEach (e :: es) X.env)).all (fun x => !x.1) && (backToKw cpos (keywordEach [] X.env)).all (fun x => x.1.isSome)
      && decide ((e :: es).length + ([] : List Keyword).length + (if ([] : List Keyword).isEmpty then 0 else 1) < 30)) = true := by rfl)
    (hline : (apos.endLine == cpos.line) = true := by rfl) (hs : starEach (e :: es) X.env = (false, eval e X.env) :: starEach es X.env := by rfl) (hplain : (backTo cpos (starEach es X.env)).any (·.1) = false := by rfl) :
    DE X (.Call (.Attribute o name apos) (e :: es) [] cpos) (mMeth T m f fs) := by
  refine PE.to (pe_bm pa slot hty hm ho ha hbase hfew hline hs hplain) fun σ H Q h => ?_
  obtain ⟨Ex, p, mh, τ, R, S, h⟩ := h
  refine ⟨Ex, p, mh, τ, R, S, Rs.wants_mono (Rs.wants_bind.mp h) fun x m1 h1 q1 H1 v N1 r1 => ?_⟩
  split at h1
  · next ht =>
    refine ⟨tyB_ok N1.rl r1 ht, Ex, q1, m1, τ, N1.rl, S.mono N1.same N1.le, Rs.wants_mono (Rs.wants_bind.mp h1) fun y m2 h2 q2 H2 w N2 r2 => ?_⟩
    exact ⟨Ex, q2, m2, x, y, N2.rl, N2.rep r1, r2, Rs.wants_mono h2 fun t m3 h3 q3 H3 u N3 r3 => h3 q3 H3 u ((N1.trans N2).trans N3) r3⟩
  · exact h1.elim
theorem de_bm0 (pa : PlainAttrs T) (slot : Slot T name id) (hty : typeOf (.builtin id) = pure (.type "method_descriptor")) (hm : MtV X id m) (ho : DE X o f)
    (hbase : attributeBase o name X.env (eval o X.env) = eval o X.env := by rfl) (hline : (apos.endLine == cpos.line) = true := by rfl) : DE X (.Call (.Attribute o name apos) [] [] cpos) (mMeth T m f mNil) := by
  refine PE.to (pe_bm0 pa slot hty hm ho hbase hline) fun σ H Q h => ?_
  obtain ⟨Ex, p, mh, τ, R, S, h⟩ := h
  refine ⟨Ex, p, mh, τ, R, S, Rs.wants_mono (Rs.wants_bind.mp h) fun x m1 h1 q1 H1 v N1 r1 => ?_⟩
  split at h1
  · next ht => exact ⟨tyB_ok N1.rl r1 ht, Ex, q1, m1, x, [], N1.rl, r1, Reps.nil, Rs.wants_mono h1 fun t m3 h3 q3 H3 u N3 r3 => h3 q3 H3 u (N1.trans N3) r3⟩
  · exact h1.elim
end
section
variable {X : Cx}
def locL (mh : List PV) : PV → Option (Nat × List PV)
  | .loc n => match mh[n]? with
    | some (.lst ts) => some (n, ts)
    | _ => none
  | _ => none
theorem locL_ok {K : PySem.W.Frag} {Ex : List Addr} {p : Pm} {mh : List PV} {H : Hp} {x : PV} {v : V} {n : Nat} {ts : List PV} (R : Rl K Ex p mh H) (r : Rep K (Gr Ex p H) p x v) (e : locL mh x = some (n, ts)) :
    ∃ a vs, v = .ref a ∧ p[n]? = some (some a) ∧ H a = some (.lst vs) ∧ Reps K (Gr Ex p H) p ts vs := by
  unfold locL at e
  split at e
  · next m =>
    split at e
    · next us e1 =>
      cases e
      simp only [Rep] at r; obtain ⟨a, rfl, h⟩ := r
      obtain ⟨o, e2, r1⟩ := R.obj _ a h
      rw [e1] at e2; cases e2
      simp only [RepO] at r1; obtain ⟨vs, h1, r1⟩ := r1
      exact ⟨a, vs, rfl, h, h1, r1⟩
    · cases e
  · cases e
theorem wrL {K : PySem.W.Frag} {Ex : List Addr} {p : Pm} {mh : List PV} {H : Hp} {n : Nat} {a : Addr} {us : List PV} {ws : List V} (R : Rl K Ex p mh H) (e : p[n]? = some (some a)) (r : Reps K (Gr Ex p H) p us ws) :
    Nx K Ex p H p (mh.set n (.lst us)) (upd H a (.lst ws)) := Nx.write (t := .lst us) R e (by simp only [RepO]; exact ⟨ws, upd_same, r⟩)
def vAppend (x : PV) (xs : List PV) : M PV := fun mh => match locL mh x, xs with
  | some (n, ts), [y] => if ts.length < sizeLine then .ok .non (mh.set n (.lst (ts ++ [y]))) else .no
  | _, _ => .no
theorem mtv_append : MtV X "list.append" vAppend := by
  intro pins s σ H v vs vv us Q I rv rvs ⟨Ex, p, mh, x, xs, R, rx, rxs, h⟩
  unfold vAppend at h
  split at h
  · next n ts y e0 =>
    split at h
    · next hz =>
      obtain ⟨a, ws, rfl, e, hv, r⟩ := locL_ok R rx e0
      obtain ⟨w, rfl, rw⟩ := reps1 rxs
      refine mt_append pins s σ H _ _ vv us Q I rv rvs ⟨a, ws, w, rfl, rfl, hv, by rw [r.len]; exact hz, ?_⟩
      exact h p _ _ (wrL R e (r.app (Reps.cons rw Reps.nil))) (by simp only [Rep])
    · exact h.elim
  · exact h.elim
/-- xs.extend(ys), ys a list -/
def vExtend (x : PV) (xs : List PV) : M PV := fun mh => match locL mh x, xs with
  | some (n, ts), [y] => (match seqL mh y with
    | some us => if ts.length + us.length ≤ sizeLine then .ok .non (mh.set n (.lst (ts ++ us))) else .no
    | none => .no)
  | _, _ => .no
theorem mtv_extend : MtV X "list.extend" vExtend := by
  intro pins s σ H v vs vv us Q I rv rvs ⟨Ex, p, mh, x, xs, R, rx, rxs, h⟩
  unfold vExtend at h
  split at h
  · next n ts y e0 =>
    split at h
    · next us' e1 =>
      split at h
      · next hz =>
        obtain ⟨a, ws, rfl, e, hv, r⟩ := locL_ok R rx e0
        obtain ⟨w, rfl, rw⟩ := reps1 rxs
        obtain ⟨b, zs, rfl, hb, rb⟩ := seqL_ok R rw e1
        refine mt_extend pins s σ H _ _ vv us Q I rv rvs ⟨a, b, ws, zs, rfl, rfl, hv, hb, by rw [r.len, rb.len]; exact hz, ?_⟩
        exact h p _ _ (wrL R e (r.app rb)) (by simp only [Rep])
      · exact h.elim
    · exact h.elim
  · exact h.elim
theorem reps_dropLast {K : PySem.W.Frag} {G : Hp} {p : Pm} {ts : List PV} {vs : List V} (r : Reps K G p ts vs) : Reps K G p ts.dropLast vs.dropLast := by
  rw [List.dropLast_eq_take, List.dropLast_eq_take, r.len]; exact r.take _
theorem reps_erase {K : PySem.W.Frag} {G : Hp} {p : Pm} : ∀ {ts : List PV} {vs : List V} (i : Nat), Reps K G p ts vs → Reps K G p (ts.eraseIdx i) (vs.eraseIdx i)
  | [], _, _, h => by simp only [Reps] at h; subst h; exact Reps.nil
  | t :: ts, _, 0, h => by simp only [Reps] at h; obtain ⟨v, ws, rfl, _, rs⟩ := h; exact rs
  | t :: ts, _, i + 1, h => by simp only [Reps] at h; obtain ⟨v, ws, rfl, r, rs⟩ := h; exact Reps.cons r (reps_erase i rs)
/-- xs.pop(), xs.pop(i) -/
def vPop (x : PV) (xs : List PV) : M PV := fun mh => match locL mh x, xs with
  | some (n, ts), [] => (match ts[ts.length - 1]? with
    | some y => .ok y (mh.set n (.lst ts.dropLast))
    | none => .no)
  | some (n, ts), [.int i] => if -(2 ^ 63) ≤ i ∧ i < 2 ^ 63 then (match seqIndex? i ts.length with
    | some k => (match ts[k]? with
      | some y => .ok y (mh.set n (.lst (ts.eraseIdx k)))
      | none => .no)
    | none => .no) else .no
  | _, _ => .no
theorem mtv_pop : MtV X "list.pop" vPop := by
  intro pins s σ H v vs vv us Q I rv rvs ⟨Ex, p, mh, x, xs, R, rx, rxs, h⟩
  unfold vPop at h
  split at h
  · next n ts e0 =>
    split at h
    · next y e1 =>
      obtain ⟨a, ws, rfl, e, hv, r⟩ := locL_ok R rx e0
      simp only [Reps] at rxs; subst rxs
      obtain ⟨w, e2, rw⟩ := r.get e1
      have N := wrL R e (reps_dropLast r)
      exact mt_pop pins s σ H _ _ vv us Q I rv rvs ⟨a, ws, w, rfl, rfl, hv, by rw [r.len]; exact e2, h p _ _ N (N.rep rw)⟩
    · exact h.elim
  · next n ts i e0 =>
    split at h
    · next hz =>
      split at h
      · next k e1 =>
        split at h
        · next y e2 =>
          obtain ⟨a, ws, rfl, e, hv, r⟩ := locL_ok R rx e0
          obtain ⟨u, rfl, ru⟩ := reps1 rxs
          simp only [Rep] at ru; subst ru
          obtain ⟨w, e3, rw⟩ := r.get e2
          have N := wrL R e (reps_erase k r)
          exact mt_popAt pins s σ H _ _ vv us Q I rv rvs ⟨a, ws, i, k, w, rfl, rfl, hv, hz.1, hz.2, by rw [r.len]; exact e1, e3, h p _ _ N (N.rep rw)⟩
        · exact h.elim
      · exact h.elim
    · exact h.elim
  · exact h.elim
end
end ML

set_option Elab.async false
set_option linter.all false
set_option maxRecDepth 100000
/-! ML5: statements, targets, loops, comprehensions. -/
namespace ML
open PySem PySem.Spec L2

/-! ### lengths of what stands -/
def Lens (K : PySem.W.Frag) (H : Hp) : Prop := (∀ a vs, SqL K H a vs → vs.length ≤ sizeLine) ∧ ∀ a vs, SqT K H a vs → vs.length ≤ sizeLine
theorem PE.lens {X : Cx} {e : Expr} {t : TE} (h : PE X e t) : PE X e (fun σ H Q => t σ H fun v H' => Lens X.K H' → Q v H') := by
  refine ⟨fun pins s σ H Q I q => thn (h.run pins s σ H _ I q) fun u s' ⟨v, H', I', r, q'⟩ => ⟨v, H', I', r, q' ⟨fun a vs hs => ?_, fun a vs hs => ?_⟩⟩⟩
  · obtain ⟨_, _, _, z⟩ := I'.list hs; exact z
  · obtain ⟨_, _, _, z⟩ := I'.tuple hs; exact z
theorem PA.lens {X : Cx} {e : List Expr} {t : TA} (h : PA X e t) : PA X e (fun σ H Q => t σ H fun v H' => Lens X.K H' → Q v H') := by
  refine ⟨fun pos pins s σ H Q I q => thn (h.run pos pins s σ H _ I q) fun u s' ⟨v, H', I', r, q'⟩ => ⟨v, H', I', r, q' ⟨fun a vs hs => ?_, fun a vs hs => ?_⟩⟩⟩
  · obtain ⟨_, _, _, z⟩ := I'.list hs; exact z
  · obtain ⟨_, _, _, z⟩ := I'.tuple hs; exact z

/-! ### statements -/
section
variable {X : Cx} {pos : Pos} {st : Stmt} {rest body els : List Stmt} {e c : Expr} {f g : LS → M PV} {t : LS → M Bool} {s u : LS → M (Out × LS)}
/-- behind a part: its end by the outcome -/
abbrev Fin (K : PySem.W.Frag) (Ex : List Addr) (q : Pm) (σ : L2.St) (H : Hp) (D : Ends) (o : Out × LS) : Prop := match o.1 with
  | .nx => D.nx σ H
  | .ret t => ∀ v, Rep K (Gr Ex q H) q t v → D.rt v H
  | .bk => D.bk σ H
  | .ct => D.ct σ H
def mSkip : LS → M (Out × LS) := fun τ mh => .ok (.nx, τ) mh
def mSeq (s u : LS → M (Out × LS)) : LS → M (Out × LS) := fun τ mh => (s τ mh).bind fun o m => match o.1 with
  | .nx => u o.2 m
  | _ => .ok o m
theorem dss_nil : DSs X [] mSkip := PSs.to pss_nil fun D σ H ⟨Ex, p, mh, τ, R, S, h⟩ => h p H σ (Nx.refl R) S
theorem dss_cons (h1 : DS X st s) (h2 : DSs X rest u) : DSs X (st :: rest) (mSeq s u) := by
  refine PSs.to (pss_cons h1 h2) fun D σ H h => ?_
  obtain ⟨Ex, p, mh, τ, R, S, h⟩ := h
  refine ⟨Ex, p, mh, τ, R, S, Rs.wants_mono (Rs.wants_bind.mp h) fun o m1 h1 q1 H1 σ1 N1 S1 => ?_⟩
  obtain ⟨oo, τ1⟩ := o
  cases oo with
  | nx => exact ⟨Ex, q1, m1, τ1, N1.rl, S1, Rs.wants_mono h1 fun o2 m2 h2 q2 H2 σ2 N2 S2 => h2 q2 H2 σ2 (N1.trans N2) S2⟩
  | ret t => exact h1 q1 H1 σ1 N1 S1
  | bk => exact h1 q1 H1 σ1 N1 S1
  | ct => exact h1 q1 H1 σ1 N1 S1
theorem dss_one (h1 : DS X st s) : DSs X [st] s := by
  refine PSs.to (pss_one h1) fun D σ H h => h
def mDrop (f : LS → M PV) : LS → M (Out × LS) := fun τ mh => (f τ mh).bind fun _ m => .ok (.nx, τ) m
theorem ds_expr (h : DE X e f) (hs : swapsWith e none pos.line X.env = pure false := by rfl) : DS X (.Expr e pos) (mDrop f) := by
  refine PS.to (ps_expr h hs) fun D σ H h => ?_
  obtain ⟨Ex, p, mh, τ, R, S, h⟩ := h
  refine ⟨Ex, p, mh, τ, R, S, Rs.wants_mono (Rs.wants_bind.mp h) fun x m1 h1 q1 H1 v N1 r1 => h1 q1 H1 σ N1 (S.mono N1.same N1.le)⟩
def mRet (f : LS → M PV) : LS → M (Out × LS) := fun τ mh => (f τ mh).bind fun x m => .ok (.ret x, τ) m
theorem ds_ret (h : DE X e f) : DS X (.Return (some e) pos) (mRet f) := by
  refine PS.to (ps_ret h) fun D σ H h => ?_
  obtain ⟨Ex, p, mh, τ, R, S, h⟩ := h
  exact ⟨Ex, p, mh, τ, R, S, Rs.wants_mono (Rs.wants_bind.mp h) fun x m1 h1 q1 H1 v N1 r1 => h1 q1 H1 σ N1 (S.mono N1.same N1.le) v r1⟩
def mRetN : LS → M (Out × LS) := fun τ mh => .ok (.ret .non, τ) mh
theorem ds_retN : DS X (.Return none pos) mRetN := PS.to ps_retN fun D σ H ⟨Ex, p, mh, τ, R, S, h⟩ => h p H σ (Nx.refl R) S .non (by simp only [Rep])
theorem ds_pass : DS X (.Pass pos) mSkip := PS.to ps_pass fun D σ H ⟨Ex, p, mh, τ, R, S, h⟩ => h p H σ (Nx.refl R) S
def mBreak : LS → M (Out × LS) := fun τ mh => .ok (.bk, τ) mh
theorem ds_break : DS X (.Break pos) mBreak := PS.to ps_break fun D σ H ⟨Ex, p, mh, τ, R, S, h⟩ => h p H σ (Nx.refl R) S
def mCont : LS → M (Out × LS) := fun τ mh => .ok (.ct, τ) mh
theorem ds_cont : DS X (.Continue pos) mCont := PS.to ps_continue fun D σ H ⟨Ex, p, mh, τ, R, S, h⟩ => h p H σ (Nx.refl R) S
theorem ds_if (hc : DT X c t) (ha : DSs X body s) (hb : DSs X els u) : DS X (.If c body els pos) (mIf t s u) := by
  refine PS.to (ps_if hc ha hb) fun D σ H h => ?_
  obtain ⟨Ex, p, mh, τ, R, S, h⟩ := h
  refine ⟨Ex, p, mh, τ, R, S, Rs.wants_mono (Rs.wants_bind.mp h) fun x m1 h1 q1 H1 N1 => ?_⟩
  have S1 := S.mono N1.same N1.le
  cases x with
  | true =>
    rw [if_pos rfl] at h1; refine iteT ?_
    exact ⟨Ex, q1, m1, τ, N1.rl, S1, Rs.wants_mono h1 fun y m2 h2 q2 H2 w N2 => h2 q2 H2 w (N1.trans N2)⟩
  | false =>
    rw [if_neg Bool.false_ne_true] at h1; refine iteF ?_
    exact ⟨Ex, q1, m1, τ, N1.rl, S1, Rs.wants_mono h1 fun y m2 h2 q2 H2 w N2 => h2 q2 H2 w (N1.trans N2)⟩
/-- what is never reached -/
def mNo {α : Type} : LS → M α := fun _ _ => .no
theorem ds_no : DS X st mNo := PS.to ps_never fun D σ H ⟨Ex, p, mh, τ, R, S, h⟩ => h.elim
theorem dss_no : DSs X rest mNo := PSs.to pss_never fun D σ H ⟨Ex, p, mh, τ, R, S, h⟩ => h.elim
theorem ds_doc {x j pos pos'} : DS X (.Expr (.Constant (.str x) j pos) pos') mSkip := PS.to ps_doc fun D σ H ⟨Ex, p, mh, τ, R, S, h⟩ => h p H σ (Nx.refl R) S
/-- name = value -/
def mSet (i : Nat) (f : LS → M PV) : LS → M (Out × LS) := fun τ mh => (f τ mh).bind fun x m => .ok (.nx, τ.set i (some x)) m
theorem ds_set {i : Nat} {x : Str} {pos' : Pos} (hN : X.N.Nodup) (hi : X.N[i]? = some x) (hx : Loc X.env.scope x) (he : DE X e f) (hs : swapsWith e (some (.Name x pos')) pos.line X.env = pure false := by rfl) (hf : X.fn x = true ∨ X.env.scope.names.lookup x = some .local := by first | exact .inl rfl | exact .inr rfl | assumption) :
    DS X (.Assign [.Name x pos'] e pos) (mSet i f) := by
  refine PS.to (ps_set (i := i) hN hi hx he hs hf) fun D σ H h => ?_
  obtain ⟨Ex, p, mh, τ, R, S, h⟩ := h
  exact ⟨Ex, p, mh, τ, R, S, Rs.wants_mono (Rs.wants_bind.mp h) fun x m1 h1 q1 H1 v N1 r1 => h1 q1 H1 _ N1 ((S.mono N1.same N1.le).set r1)⟩

/-! ### targets -/
/-- a target's reading: ws, the slots that it may write -/
def gOf (K : PySem.W.Frag) (ws : List Nat) (G : PV → LS → M LS) : TG := fun v σ H Q => ∃ Ex p mh τ x, Rl K Ex p mh H ∧ RSt K (Gr Ex p H) p σ τ ∧ Rep K (Gr Ex p H) p x v ∧
  (G x τ mh).wants fun τ' mh' => ∀ q H' σ', Nx K Ex p H q mh' H' → RSt K (Gr Ex q H') q σ' τ' → (σ'.length = σ.length ∧ ∀ i : Nat, i ∉ ws → σ'[i]? = σ[i]?) → Q σ' H'
def gsOf (K : PySem.W.Frag) (ws : List Nat) (G : List PV → LS → M LS) : TGs := fun vs σ H Q => ∃ Ex p mh τ xs, Rl K Ex p mh H ∧ RSt K (Gr Ex p H) p σ τ ∧ Reps K (Gr Ex p H) p xs vs ∧
  (G xs τ mh).wants fun τ' mh' => ∀ q H' σ', Nx K Ex p H q mh' H' → RSt K (Gr Ex q H') q σ' τ' → (σ'.length = σ.length ∧ ∀ i : Nat, i ∉ ws → σ'[i]? = σ[i]?) → Q σ' H'
abbrev DG (X : Cx) (tg : Expr) (ws : List Nat) (G : PV → LS → M LS) : Prop := PG X tg (gOf X.K ws G)
abbrev DGs (X : Cx) (tgs : List Expr) (ws : List Nat) (G : List PV → LS → M LS) : Prop := PGs X tgs (gsOf X.K ws G)
theorem PG.to {X : Cx} {e : Expr} {t t' : TG} (h : PG X e t) (i : ∀ v σ H Q, t' v σ H Q → t v σ H Q) : PG X e t' := ⟨fun pins s σ H v u Q I r q => h.run pins s σ H v u Q I r (i v σ H Q q)⟩
theorem PGs.to {X : Cx} {e : List Expr} {t t' : TGs} (h : PGs X e t) (i : ∀ v σ H Q, t' v σ H Q → t v σ H Q) : PGs X e t' := ⟨fun pins s σ H v u Q I r q => h.run pins s σ H v u Q I r (i v σ H Q q)⟩
def gSet (i : Nat) : PV → LS → M LS := fun x τ mh => .ok (τ.set i (some x)) mh
theorem dg_name {i : Nat} {x : Str} (hN : X.N.Nodup) (hi : X.N[i]? = some x) (hx : Loc X.env.scope x) (hf : X.fn x = true ∨ X.env.scope.names.lookup x = some .local := by first | exact .inl rfl | exact .inr rfl | assumption) : DG X (.Name x pos) [i] (gSet i) := by
  refine PG.to (pg_name (i := i) hN hi hx hf) fun v σ H Q h => ?_
  obtain ⟨Ex, p, mh, τ, x, R, S, r, h⟩ := h
  refine h p H _ (Nx.refl R) (S.set r) ⟨List.length_set, fun j hj => ?_⟩
  have : i ≠ j := fun z => hj (by rw [z]; exact List.mem_singleton.mpr rfl)
  rw [List.getElem?_set_ne this]
def gsNil : List PV → LS → M LS := fun xs τ mh => match xs with
  | [] => .ok τ mh
  | _ => .no
def gsCons (g : PV → LS → M LS) (gs : List PV → LS → M LS) : List PV → LS → M LS := fun xs τ mh => match xs with
  | x :: xs => (g x τ mh).bind fun τ m => gs xs τ m
  | [] => .no
theorem dgs_nil : DGs X [] [] gsNil := by
  refine PGs.to pgs_nil fun vs σ H Q h => ?_
  obtain ⟨Ex, p, mh, τ, xs, R, S, r, h⟩ := h
  cases xs with
  | nil => simp only [Reps] at r; subst r; exact ⟨rfl, h p H σ (Nx.refl R) S ⟨rfl, fun _ _ => rfl⟩⟩
  | cons x xs => exact h.elim
theorem dgs_cons {tg : Expr} {tgs : List Expr} {ws ws' : List Nat} {g : PV → LS → M LS} {gs : List PV → LS → M LS} (h1 : DG X tg ws g) (h2 : DGs X tgs ws' gs)
    (hs : (assignEach (tg :: tgs) X.env).map (·.2) = assign tg X.env :: (assignEach tgs X.env).map (·.2) := by rfl) : DGs X (tg :: tgs) (ws ++ ws') (gsCons g gs) := by
  refine PGs.to (pgs_cons h1 h2 hs) fun vs σ H Q h => ?_
  obtain ⟨Ex, p, mh, τ, xs, R, S, r, h⟩ := h
  cases xs with
  | nil => exact h.elim
  | cons x xs =>
    simp only [Reps] at r; obtain ⟨v, vr, rfl, r1, rs⟩ := r
    refine ⟨v, vr, rfl, Ex, p, mh, τ, x, R, S, r1, Rs.wants_mono (Rs.wants_bind.mp h) fun τ1 m1 h1 q1 H1 σ1 N1 S1 e1 => ?_⟩
    refine ⟨Ex, q1, m1, τ1, xs, N1.rl, S1, N1.reps rs, Rs.wants_mono h1 fun τ2 m2 h2 q2 H2 σ2 N2 S2 e2 => h2 q2 H2 σ2 (N1.trans N2) S2 ⟨e2.1.trans e1.1, fun i hi => ?_⟩⟩
    rw [List.mem_append, not_or] at hi
    rw [e2.2 i hi.2, e1.2 i hi.1]
/-- a, b, .. = a tuple or a list of that length -/
def gTupP (n : Nat) (gs : List PV → LS → M LS) : PV → LS → M LS := fun x τ mh => match x with
  | .tup ts => if ts.length = n then gs ts τ mh else .no
  | x => match seqR mh x with
    | some ts => if ts.length = n then gs ts τ mh else .no
    | none => .no
theorem dg_tup {es : List Expr} {k n : Nat} {ws : List Nat} {gs : List PV → LS → M LS} (hc : X.calm = true) (h : DGs X es ws gs) (hn : (assignEach es X.env).length = n := by rfl) (hst : (assignEach es X.env).findIdx? (·.1) = none := by rfl) :
    DG X (.Tuple es k pos) ws (gTupP n gs) := by
  refine ⟨fun pins s σ H v u Q I rv hq => ?_⟩
  obtain ⟨Ex, p, mh, τ, x, R, S, r, hq⟩ := hq
  unfold gTupP at hq
  split at hq
  · next ts =>
    simp only [Rep] at r; obtain ⟨a, vs, rfl, hv, r⟩ := r
    split at hq
    · next hl => exact (pg_tup hc h hn hst).run pins s σ H _ u Q I rv ⟨a, vs, rfl, SqT.of (Gz.some hv).1, by rw [r.len]; exact hl, Ex, p, mh, τ, ts, R, S, r, hq⟩
    · exact hq.elim
  · split at hq
    · next ts e =>
      obtain ⟨a, vs, rfl, hv, r⟩ := seqR_ok R r e
      split at hq
      · next hl => exact (pg_lst hc h hn hst).run pins s σ H _ u Q I rv ⟨a, vs, rfl, hv, by rw [r.len]; exact hl, Ex, p, mh, τ, ts, R, S, r, hq⟩
      · exact hq.elim
    · exact hq.elim
def mAsg (f : LS → M PV) (G : PV → LS → M LS) : LS → M (Out × LS) := fun τ mh => (f τ mh).bind fun x m => (G x τ m).bind fun τ m => .ok (.nx, τ) m
theorem ds_asg {tg : Expr} {ws : List Nat} {G : PV → LS → M LS} (he : DE X e f) (hg : DG X tg ws G) (hs : swapsWithSole [tg] e pos.line X.env = pure false := by rfl) (hw : swappedStores [tg] e X.env = pure none := by rfl)
    (h1 : (assignEach [tg] X.env).map (·.2) = [assign tg X.env] := by rfl) : DS X (.Assign [tg] e pos) (mAsg f G) := by
  refine PS.to (ps_asg he hg hs hw h1) fun D σ H h => ?_
  obtain ⟨Ex, p, mh, τ, R, S, h⟩ := h
  refine ⟨Ex, p, mh, τ, R, S, Rs.wants_mono (Rs.wants_bind.mp h) fun x m1 h1 q1 H1 v N1 r1 => ?_⟩
  exact ⟨Ex, q1, m1, τ, x, N1.rl, S.mono N1.same N1.le, r1, Rs.wants_mono (Rs.wants_bind.mp h1) fun τ2 m2 h2 q2 H2 σ2 N2 S2 _ => h2 q2 H2 σ2 (N1.trans N2) S2⟩
/-- xs[i] = e, xs a mutable list -/
def mSetIx (e f g : LS → M PV) : LS → M (Out × LS) := fun τ mh => (e τ mh).bind fun z m => (f τ m).bind fun x m => (g τ m).bind fun y m => match locL m x, y with
  | some (n, ts), .int i => (match ixN ts.length i with
    | some j => .ok (.nx, τ) (m.set n (.lst (ts.set j z)))
    | none => .no)
  | _, _ => .no
theorem ds_setix {a b : Expr} {pos' : Pos} {k : LS → M PV} (he : DE X e k) (ha : DE X a f) (hb : DE X b g) (hh : ∀ v, assign (.Subscript a b pos') X.env v = (do
      let ov ← holding [v] (eval a X.env)
      let iv ← holding [v, ov] (eval b X.env)
      standAt pos'
      holding [v, ov, iv] (setItem ov iv v)
      release [v, ov, iv] []) := by intro _; rfl) (hs : swapsWithSole [.Subscript a b pos'] e pos.line X.env = pure false := by rfl) (hw : swappedStores [.Subscript a b pos'] e X.env = pure none := by rfl)
    (h1 : (assignEach [.Subscript a b pos'] X.env).map (·.2) = [assign (.Subscript a b pos') X.env] := by rfl) : DS X (.Assign [.Subscript a b pos'] e pos) (mSetIx k f g) := by
  refine PS.to (ps_asg he (pg_sub ha hb set_list hh) hs hw h1) fun D σ H h => ?_
  obtain ⟨Ex, p, mh, τ, R, S, h⟩ := h
  refine ⟨Ex, p, mh, τ, R, S, Rs.wants_mono (Rs.wants_bind.mp h) fun z m1 h1 q1 H1 w N1 rz => ?_⟩
  refine ⟨Ex, q1, m1, τ, N1.rl, S.mono N1.same N1.le, Rs.wants_mono (Rs.wants_bind.mp h1) fun x m2 h2 q2 H2 v N2 rx => ?_⟩
  have N12 := N1.trans N2
  refine ⟨Ex, q2, m2, τ, N2.rl, S.mono N12.same N12.le, Rs.wants_mono (Rs.wants_bind.mp h2) fun y m3 h3 q3 H3 u N3 ry => ?_⟩
  have N123 := N12.trans N3
  split at h3
  · next n ts i e0 =>
    split at h3
    · next j ej =>
      obtain ⟨a, vs, rfl, ep, hv, rv⟩ := locL_ok N3.rl (N3.rep rx) e0
      simp only [Rep] at ry; subst ry
      have rz3 := N3.rep (N2.rep rz)
      have N4 := wrL N3.rl ep (rv.set j rz3)
      exact ⟨a, vs, i, j, rfl, rfl, hv, by rw [rv.len]; exact ej, h3 _ _ _ (N123.trans N4) ((S.mono N123.same N123.le).mono N4.same N4.le)⟩
    · exact h3.elim
  · exact h3.elim
/-- x += e -/
def mAug (i : Nat) (o : PV → PV → M PV) (f : LS → M PV) : LS → M (Out × LS) := fun τ mh => match τ[i]? with
  | some (some x) => (f τ mh).bind fun y m => (o x y m).bind fun z m => .ok (.nx, τ.set i (some z)) m
  | _ => .no
theorem ds_aug {i : Nat} {x : Str} {op : Operator} {pos' : Pos} {o : PV → PV → M PV} (ho : OpV X (inplaceOp op) o) (hN : X.N.Nodup) (hi : X.N[i]? = some x) (hx : Loc X.env.scope x) (he : DE X e f) (hf : X.fn x = true ∨ X.env.scope.names.lookup x = some .local := by first | exact .inl rfl | exact .inr rfl | assumption) :
    DS X (.AugAssign (.Name x pos') op e pos) (mAug i o f) := by
  refine PS.to (ps_aug (i := i) hN hi hx he (ti := rOf X.K o) ho hf) fun D σ H h => ?_
  obtain ⟨Ex, p, mh, τ, R, S, h⟩ := h
  unfold mAug at h
  split at h
  · next x e0 =>
    obtain ⟨v, e1, rx⟩ := S.2 i x e0
    refine ⟨v, e1, Ex, p, mh, τ, R, S, Rs.wants_mono (Rs.wants_bind.mp h) fun y m1 h1 q1 H1 w N1 ry => ?_⟩
    exact ⟨Ex, q1, m1, x, y, N1.rl, N1.rep rx, ry, Rs.wants_mono (Rs.wants_bind.mp h1) fun z m2 h2 q2 H2 u N2 rz => h2 q2 H2 _ (N1.trans N2) ((S.mono (N1.trans N2).same (N1.trans N2).le).set rz)⟩
  · exact h.elim
end

/-! ### what is walked -/
structure Src where
  n : Nat
  it : Nat → List PV → Option PV
  ok : List PV → Bool
def Src.lst (ts : List PV) : Src := ⟨ts.length, fun i _ => ts[i]?, fun _ => true⟩
def Src.loc (k n : Nat) : Src := ⟨n, fun i mh => match mh[k]? with
  | some (.lst ts) => ts[i]?
  | _ => none, fun mh => match mh[k]? with
  | some (.lst ts) => ts.length == n
  | _ => false⟩
def Src.fn (n : Nat) (f : Nat → PV) : Src := ⟨n, fun i _ => some (f i), fun _ => true⟩
def Src.enum (S : Src) : Src := ⟨S.n, fun i mh => (S.it i mh).map fun x => .tup [.int i, x], S.ok⟩
/-- a later state: what was still is still -/
structure Lt (K : PySem.W.Frag) (Ex : List Addr) (p : Pm) (H : Hp) (Ex' : List Addr) (q : Pm) (mh : List PV) (H' : Hp) : Prop where
  le : Le p q
  rl : Rl K Ex' q mh H'
  same : Same (Gr Ex p H) (Gr Ex' q H')
theorem Nx.lt {K : PySem.W.Frag} {Ex : List Addr} {p q : Pm} {H H' : Hp} {mh : List PV} (N : Nx K Ex p H q mh H') : Lt K Ex p H Ex q mh H' := ⟨N.le, N.rl, N.same⟩
/-- an iterator that gives what S tells -/
structure Gs (K : PySem.W.Frag) (J : It) (S : Src) (Ex : List Addr) (p : Pm) (H : Hp) : Prop where
  len : S.n ≤ sizeLine
  stop : ∀ Ex' q mh H', Lt K Ex p H Ex' q mh H' → S.ok mh = true → J.stop S.n H'
  go : ∀ Ex' q mh H', Lt K Ex p H Ex' q mh H' → S.ok mh = true → ∀ i, i < S.n → J.go i H'
  yld : ∀ Ex' q mh H', Lt K Ex p H Ex' q mh H' → S.ok mh = true → ∀ i, i < S.n → ∀ v H'', J.yld i H' v H'' → ∃ x, S.it i mh = some x ∧ Nx K Ex' q H' q mh H'' ∧ Rep K (Gr Ex' q H'') q x v
def iOf (K : PySem.W.Frag) (f : LS → M Src) : TI := fun σ H R => ∃ Ex p mh τ, Rl K Ex p mh H ∧ RSt K (Gr Ex p H) p σ τ ∧
  (f τ mh).wants fun S mh' => ∀ q H' J, Nx K Ex p H q mh' H' → Gs K J S Ex q H' → R J H'
abbrev DI (X : Cx) (tg e : Expr) (f : LS → M Src) : Prop := PI X tg e (iOf X.K f)
theorem PI.to {X : Cx} {tg e : Expr} {t t' : TI} (h : PI X tg e t) (i : ∀ σ H R, t' σ H R → t σ H R) : PI X tg e t' := ⟨fun pins s σ H R I q => h.run pins s σ H R I (i σ H R q)⟩

section
variable {X : Cx} {tg e : Expr} {pos : Pos} {f : LS → M PV} {fs : LS → M (List PV)} {K : PySem.W.Frag} {Ex : List Addr} {p : Pm} {mh : List PV} {H : Hp}
/-- a list: still, or changing without growing -/
def srcL (x : PV) : M Src := fun mh => match x with
  | .loc k => (match mh[k]? with
    | some (.lst ts) => .ok (Src.loc k ts.length) mh
    | _ => .no)
  | .lst ts => .ok (Src.lst ts) mh
  | .scr ns => .ok (Src.lst (ns.map .int)) mh
  | _ => .no
theorem sqL_inj {K : PySem.W.Frag} {H : Hp} {a : Addr} {xs ys : List V} (h : H a = some (.lst xs)) (h' : H a = some (.lst ys)) : xs = ys := by
  rw [h] at h'; cases h'; rfl
theorem gs_lst {ts : List PV} {vs : List V} {a : Addr} (hl : vs.length ≤ sizeLine) (hv : SqL K (Gr Ex p H) a vs) (r : Reps K (Gr Ex p H) p ts vs) : Gs K (Itl K a) (Src.lst ts) Ex p H where
  len := by show ts.length ≤ _; rw [← r.len]; exact hl
  stop := fun Ex' q mh H' N _ => ⟨vs, (Gz.le H' _).seq (N.same.seq hv), by show vs.length ≤ ts.length; rw [r.len]; exact Nat.le_refl _⟩
  go := fun Ex' q mh H' N _ i hi => by
    have hi' : i < vs.length := by rw [r.len]; exact hi
    exact ⟨vs, vs[i], (Gz.le H' _).seq (N.same.seq hv), by simp [hi']⟩
  yld := fun Ex' q mh H' N _ i hi v H'' y => by
    obtain ⟨e, y⟩ := y
    subst e
    obtain ⟨x, e1, r1⟩ := r.get' (y vs ((Gz.le _ _).seq (N.same.seq hv)))
    exact ⟨x, e1, Nx.refl N.rl, Rep.mono N.same N.le _ r1⟩
theorem gs_loc {ts : List PV} {k : Nat} {a : Addr} (hl : ts.length ≤ sizeLine) (e : p[k]? = some (some a)) : Gs K (Itl K a) (Src.loc k ts.length) Ex p H := by
  have key : ∀ Ex' q mh H', Lt K Ex p H Ex' q mh H' → (Src.loc k ts.length).ok mh = true → ∃ us vs, mh[k]? = some (.lst us) ∧ us.length = ts.length ∧ H' a = some (.lst vs) ∧ Reps K (Gr Ex' q H') q us vs := fun Ex' q mh H' N ok => by
    obtain ⟨o, e1, r1⟩ := N.rl.obj k a (N.le k a e)
    have ok : (match mh[k]? with
      | some (.lst us) => us.length == ts.length
      | _ => false) = true := ok
    rw [e1] at ok
    cases o <;> simp only at ok <;> try cases ok
    case lst us =>
      simp only [RepO] at r1; obtain ⟨vs, h1, r1⟩ := r1
      exact ⟨us, vs, e1, eq_of_beq ok, h1, r1⟩
  refine ⟨hl, fun Ex' q mh H' N ok => ?_, fun Ex' q mh H' N ok i hi => ?_, fun Ex' q mh H' N ok i hi v H'' y => ?_⟩
  · obtain ⟨us, vs, e1, l1, h1, r1⟩ := key Ex' q mh H' N ok
    exact ⟨vs, SqL.of h1, by show vs.length ≤ ts.length; rw [r1.len, l1]; exact Nat.le_refl _⟩
  · obtain ⟨us, vs, e1, l1, h1, r1⟩ := key Ex' q mh H' N ok
    have hi' : i < vs.length := by rw [r1.len, l1]; exact hi
    exact ⟨vs, vs[i], SqL.of h1, by simp [hi']⟩
  · obtain ⟨us, vs, e1, l1, h1, r1⟩ := key Ex' q mh H' N ok
    obtain ⟨e2, y⟩ := y
    subst e2
    obtain ⟨x, e3, r3⟩ := r1.get' (y vs (SqL.of h1))
    refine ⟨x, ?_, Nx.refl N.rl, r3⟩
    show (match mh[k]? with
      | some (.lst ts) => ts[i]?
      | _ => none) = some x
    rw [e1]; exact e3
theorem srcL_in {x : PV} {v : V} {S : Src} {mh' : List PV} (L : Lens K H) (R : Rl K Ex p mh H) (r : Rep K (Gr Ex p H) p x v) (h : srcL x mh = .ok S mh') : mh' = mh ∧ ∃ a, v = .ref a ∧ (∃ xs, SqL K H a xs) ∧ Gs K (Itl K a) S Ex p H := by
  unfold srcL at h
  split at h
  · next k =>
    simp only [Rep] at r; obtain ⟨a, rfl, e⟩ := r
    obtain ⟨o, e1, r1⟩ := R.obj k a e
    rw [e1] at h
    cases o <;> simp only at h <;> try cases h
    case lst.refl ts =>
      simp only [RepO] at r1; obtain ⟨vs, h1, r1⟩ := r1
      refine ⟨rfl, a, rfl, ⟨vs, SqL.of h1⟩, gs_loc ?_ e⟩
      rw [← r1.len]; exact L.1 a vs (SqL.of h1)
  · next us =>
    cases h
    simp only [Rep] at r; obtain ⟨a, vs, rfl, hv, r⟩ := r
    have hv' : SqL K (Gr Ex p H) a vs := SqL.of hv
    exact ⟨rfl, a, rfl, ⟨vs, SqL.of (Gz.some hv).1⟩, gs_lst (L.1 a vs (SqL.of (Gz.some hv).1)) hv' r⟩
  · next ns =>
    cases h
    simp only [Rep] at r; obtain ⟨a, rfl, hv⟩ := r
    exact ⟨rfl, a, rfl, ⟨_, (Gz.le H _).seq hv⟩, gs_lst (L.1 a _ ((Gz.le H _).seq hv)) hv (reps_ints ns)⟩
  · cases h
def mIt (f : LS → M PV) (o : PV → M Src) : LS → M Src := fun τ mh => (f τ mh).bind fun x m => o x m
theorem wants_ok {α : Type} {r : Rs α} {Q : α → List PV → Prop} (h : r.wants Q) : ∃ a m, r = .ok a m ∧ Q a m := by
  cases r with
  | ok a m => exact ⟨a, m, rfl, h⟩
  | exc x m => exact h.elim
  | no => exact h.elim
theorem di_list (h : DE X e f) : DI X tg e (mIt f srcL) := by
  refine PI.to (pi_list (PE.lens h)) fun σ H R h => ?_
  obtain ⟨Ex, p, mh, τ, RL, S, h⟩ := h
  refine ⟨Ex, p, mh, τ, RL, S, Rs.wants_mono (Rs.wants_bind.mp h) fun x m1 h1 q1 H1 v N1 r1 L => ?_⟩
  obtain ⟨S1, m2, e1, h2⟩ := wants_ok h1
  obtain ⟨em, a, rfl, ex, G⟩ := srcL_in L N1.rl r1 e1
  subst em
  exact ⟨a, rfl, ex, h2 q1 H1 _ N1 G⟩
def srcT (x : PV) : M Src := fun mh => match x with
  | .tup ts => .ok (Src.lst ts) mh
  | _ => .no
theorem gs_tup {ts : List PV} {vs : List V} {a : Addr} (hl : vs.length ≤ sizeLine) (hv : SqT K (Gr Ex p H) a vs) (r : Reps K (Gr Ex p H) p ts vs) : Gs K (Itt K a) (Src.lst ts) Ex p H where
  len := by show ts.length ≤ _; rw [← r.len]; exact hl
  stop := fun Ex' q mh H' N _ => ⟨vs, sqT_mono (Gz.le H' _) (sqT_mono N.same hv), by show vs.length ≤ ts.length; rw [r.len]; exact Nat.le_refl _⟩
  go := fun Ex' q mh H' N _ i hi => by
    have hi' : i < vs.length := by rw [r.len]; exact hi
    exact ⟨vs, vs[i], sqT_mono (Gz.le H' _) (sqT_mono N.same hv), by simp [hi']⟩
  yld := fun Ex' q mh H' N _ i hi v H'' y => by
    obtain ⟨e, y⟩ := y
    subst e
    obtain ⟨x, e1, r1⟩ := r.get' (y vs (sqT_mono (Gz.le _ _) (sqT_mono N.same hv)))
    exact ⟨x, e1, Nx.refl N.rl, Rep.mono N.same N.le _ r1⟩
theorem di_tup (h : DE X e f) : DI X tg e (mIt f srcT) := by
  refine PI.to (pi_tup (PE.lens h)) fun σ H R h => ?_
  obtain ⟨Ex, p, mh, τ, RL, S, h⟩ := h
  refine ⟨Ex, p, mh, τ, RL, S, Rs.wants_mono (Rs.wants_bind.mp h) fun x m1 h1 q1 H1 v N1 r1 L => ?_⟩
  unfold srcT at h1
  split at h1
  · next ts =>
    simp only [Rep] at r1; obtain ⟨a, vs, rfl, hv, r⟩ := r1
    have hv : SqT X.K (Gr _ q1 H1) a vs := SqT.of hv
    exact ⟨a, rfl, ⟨vs, sqT_mono (Gz.le _ _) hv⟩, h1 q1 H1 _ N1 (gs_tup (L.2 a vs (sqT_mono (Gz.le _ _) hv)) hv r)⟩
  · exact h1.elim
/-- a list or a tuple -/
def srcQ (x : PV) : M Src := fun mh => match x with
  | .tup ts => .ok (Src.lst ts) mh
  | x => srcL x mh
theorem di_seq (h : DE X e f) : DI X tg e (mIt f srcQ) := by
  refine ⟨fun pins s σ H R I hq => ?_⟩
  obtain ⟨Ex, p, mh, τ, RL, S, hq⟩ := hq
  cases hf : f τ mh with
  | no => unfold mIt at hq; rw [hf] at hq; exact hq.elim
  | exc x m => unfold mIt at hq; rw [hf] at hq; exact hq.elim
  | ok x m1 =>
    have e1 : mIt f srcQ τ mh = srcQ x m1 := by unfold mIt; rw [hf]; rfl
    rw [e1] at hq
    unfold srcQ at hq
    split at hq
    · next ts =>
      have e2 : mIt f srcT τ mh = .ok (Src.lst ts) m1 := by unfold mIt; rw [hf]; rfl
      exact (di_tup h).run pins s σ H R I ⟨Ex, p, mh, τ, RL, S, by rw [e2]; exact hq⟩
    · have e2 : mIt f srcL τ mh = srcL x m1 := by unfold mIt; rw [hf]; rfl
      exact (di_list h).run pins s σ H R I ⟨Ex, p, mh, τ, RL, S, by rw [e2]; exact hq⟩
/-- a text -/
def srcS (x : PV) : M Src := fun mh => match x with
  | .str z => if z.cps.size ≤ sizeLine then .ok (Src.lst (z.cps.toList.map fun c => .str ⟨#[c]⟩)) mh else .no
  | _ => .no
theorem gs_str {z : Str} (hl : z.cps.size ≤ sizeLine) (R : Rl K Ex p mh H) : Gs K (Its z) (Src.lst (z.cps.toList.map fun c => .str ⟨#[c]⟩)) Ex p H where
  len := by show (z.cps.toList.map _).length ≤ _; rw [List.length_map, Array.length_toList]; exact hl
  stop := fun Ex' q mh H' N _ => by show z.cps.size ≤ (z.cps.toList.map _).length; rw [List.length_map, Array.length_toList]; exact Nat.le_refl _
  go := fun Ex' q mh H' N _ i hi => by have hi : i < (z.cps.toList.map fun c => PV.str ⟨#[c]⟩).length := hi; rw [List.length_map, Array.length_toList] at hi; exact hi
  yld := fun Ex' q mh H' N _ i hi v H'' y => by
    obtain ⟨e, c, ec, rfl⟩ := y
    subst e
    refine ⟨.str ⟨#[c]⟩, ?_, Nx.refl N.rl, by simp only [Rep]⟩
    show (z.cps.toList.map fun c => PV.str ⟨#[c]⟩)[i]? = _
    rw [List.getElem?_map, Array.getElem?_toList, ec]; rfl
theorem di_str (h : DE X e f) : DI X tg e (mIt f srcS) := by
  refine PI.to (pi_str h) fun σ H R h => ?_
  obtain ⟨Ex, p, mh, τ, RL, S, h⟩ := h
  refine ⟨Ex, p, mh, τ, RL, S, Rs.wants_mono (Rs.wants_bind.mp h) fun x m1 h1 q1 H1 v N1 r1 => ?_⟩
  unfold srcS at h1
  split at h1
  · simp only [Rep] at r1; subst r1
    split at h1
    · next hz => exact ⟨_, rfl, h1 q1 H1 _ N1 (gs_str hz N1.rl)⟩
    · exact h1.elim
  · exact h1.elim
/-- range -/
def rngN (lo hi c : Int) : Nat := (Builtin.Range.rangeSize lo hi c).toNat
def srcR1 (xs : List PV) : M Src := fun mh => match xs with
  | [.int j] => if j ≤ 16777216 ∧ -(2 ^ 62) ≤ j then .ok (Src.fn j.toNat fun i => .int (0 + (i : Nat))) mh else .no
  | _ => .no
theorem gs_rng {lo : Int} {n : Nat} (hl : n ≤ sizeLine) : Gs K (Itr lo n) (Src.fn n fun i => .int (lo + (i : Nat))) Ex p H where
  len := hl
  stop := fun Ex' q mh H' N _ => Nat.le_refl n
  go := fun Ex' q mh H' N _ i hi => hi
  yld := fun Ex' q mh H' N _ i hi v H'' y => by
    obtain ⟨e, rfl⟩ := y
    subst e
    exact ⟨_, rfl, Nx.refl N.rl, by simp only [Rep]⟩
def mItA (fs : LS → M (List PV)) (o : List PV → M Src) : LS → M Src := fun τ mh => (fs τ mh).bind fun x m => o x m
theorem di_range1 {a : Expr} {p : Pos} (hg : Gl X "range") (hm : X.mg "range" = none) (ha : DA X [a] fs) (hs : starEach [a] X.env = [(false, eval a X.env)] := by rfl) : DI X tg (.Call (.Name "range" p) [a] [] pos) (mItA fs srcR1) := by
  refine PI.to (pi_range1 hg hm ha hs) fun σ H R h => ?_
  obtain ⟨Ex, p, mh, τ, RL, S, h⟩ := h
  refine ⟨Ex, p, mh, τ, RL, S, Rs.wants_mono (Rs.wants_bind.mp h) fun x m1 h1 q1 H1 v N1 r1 => ?_⟩
  unfold srcR1 at h1
  split at h1
  · obtain ⟨w, rfl, r⟩ := reps1 r1
    simp only [Rep] at r; subst r
    split at h1
    · next j hz => exact ⟨j, rfl, hz.2, by omega, h1 q1 H1 _ N1 (gs_rng (by rw [sizeLine_eq]; omega))⟩
    · exact h1.elim
  · exact h1.elim
def srcR2 (xs : List PV) : M Src := fun mh => match xs with
  | [.int i, .int j] => if -(2 ^ 62) ≤ i ∧ i < 2 ^ 62 ∧ -(2 ^ 62) ≤ j ∧ j < 2 ^ 62 ∧ j - i ≤ 16777216 then .ok (Src.fn (j - i).toNat fun k => .int (i + (k : Nat))) mh else .no
  | _ => .no
theorem di_range2 {a b : Expr} {p : Pos} (hg : Gl X "range") (hm : X.mg "range" = none) (ha : DA X [a, b] fs) (hs : starEach [a, b] X.env = [(false, eval a X.env), (false, eval b X.env)] := by rfl) (hs2 : starEach [b] X.env = [(false, eval b X.env)] := by rfl) :
    DI X tg (.Call (.Name "range" p) [a, b] [] pos) (mItA fs srcR2) := by
  refine PI.to (pi_range2 hg hm ha hs hs2) fun σ H R h => ?_
  obtain ⟨Ex, p, mh, τ, RL, S, h⟩ := h
  refine ⟨Ex, p, mh, τ, RL, S, Rs.wants_mono (Rs.wants_bind.mp h) fun x m1 h1 q1 H1 v N1 r1 => ?_⟩
  unfold srcR2 at h1
  split at h1
  · obtain ⟨w, w', rfl, r, r'⟩ := reps2 r1
    simp only [Rep] at r r'; subst r r'
    split at h1
    · next i j hz => exact ⟨i, j, rfl, ⟨hz.1, hz.2.1, hz.2.2.1, hz.2.2.2.1⟩, h1 q1 H1 _ N1 (gs_rng (by rw [sizeLine_eq]; omega))⟩
    · exact h1.elim
  · exact h1.elim
/-- enumerate(list) -/
theorem gs_enum {S : Src} {a : Addr} (G : Gs K (Itl K a) S Ex p H) : Gs K (Ite K a) S.enum Ex p H where
  len := G.len
  stop := fun Ex' q mh H' N ok => G.stop Ex' q mh H' N ok
  go := fun Ex' q mh H' N ok i hi => G.go Ex' q mh H' N ok i hi
  yld := fun Ex' q mh H' N ok i hi v H'' y => by
    obtain ⟨T, x, rfl, hn, rfl, hx⟩ := y
    obtain ⟨t, e, _, r⟩ := G.yld Ex' q mh H' N ok i hi x H' ⟨rfl, hx⟩
    obtain ⟨N2, r2⟩ := laidTup (ts := [.int i, t]) (vs := [.int i, x]) (Nx.refl N.rl) (Reps.cons (by simp only [Rep]) (Reps.cons r Reps.nil)) hn
    refine ⟨.tup [.int i, t], ?_, N2, r2⟩
    show (S.it i mh).map _ = _
    rw [e]; rfl
def srcE (xs : List PV) : M Src := fun mh => match xs with
  | [x] => (srcL x mh).bind fun S m => .ok S.enum m
  | _ => .no
theorem di_enum {a : Expr} {p tpos : Pos} {elts : List Expr} {kk : Nat} (hg : Gl X "enumerate") (hm : X.mg "enumerate" = none) (ha : DA X [a] fs) (hs : starEach [a] X.env = [(false, eval a X.env)] := by rfl) :
    DI X (.Tuple elts kk tpos) (.Call (.Name "enumerate" p) [a] [] pos) (mItA fs srcE) := by
  refine PI.to (pi_enum hg hm (PA.lens ha) hs) fun σ H R h => ?_
  obtain ⟨Ex, p, mh, τ, RL, S, h⟩ := h
  refine ⟨Ex, p, mh, τ, RL, S, Rs.wants_mono (Rs.wants_bind.mp h) fun x m1 h1 q1 H1 v N1 r1 L => ?_⟩
  unfold srcE at h1
  split at h1
  · obtain ⟨w, rfl, r⟩ := reps1 r1
    obtain ⟨S1, m2, e1, h2⟩ := wants_ok (Rs.wants_bind.mp h1)
    obtain ⟨em, a, rfl, ⟨xs, ex⟩, G⟩ := srcL_in L N1.rl r e1
    subst em
    exact ⟨a, xs, rfl, ex, h2 q1 H1 _ N1 (gs_enum G)⟩
  · exact h1.elim
end
end ML

set_option Elab.async false
set_option linter.all false
set_option maxRecDepth 100000
/-! ML6: for, while, comprehensions. -/
namespace ML
open PySem PySem.Spec L2

/-! ### for -/
def loopS (S : Src) (G : PV → LS → M LS) (b : LS → M (Out × LS)) : Nat → LS → M (Out × LS)
  | 0, τ, mh => if S.ok mh = true then .ok (.nx, τ) mh else .no
  | k + 1, τ, mh => if S.ok mh = true then (match S.it (S.n - (k + 1)) mh with
    | none => .no
    | some x => (G x τ mh).bind fun τ1 m1 => (b τ1 m1).bind fun o m2 => match o.1 with
      | .nx => loopS S G b k o.2 m2
      | .ct => loopS S G b k o.2 m2
      | .bk => .ok (.nx, o.2) m2
      | .ret t => .ok (.ret t, o.2) m2) else .no
def mFor (f : LS → M Src) (G : PV → LS → M LS) (b : LS → M (Out × LS)) : LS → M (Out × LS) := fun τ mh => (f τ mh).bind fun S m => loopS S G b S.n τ m
section
variable {X : Cx} {tg iter : Expr} {body : List Stmt} {pos : Pos} {f : LS → M Src} {G : PV → LS → M LS} {b : LS → M (Out × LS)} {ws : List Nat}
theorem ds_for (hp : PassesOwn (model X.prog X.w) X.A X.env X.xe) (hc : X.calm = true) (hi : DI X tg iter f) (hg : DG X tg ws G) (hb : DSs X body b)
    (hs : ∀ x, foldedSetIterable iter X.env x = pure x := by intro _; rfl) : DS X (.For tg iter body [] pos) (mFor f G b) := by
  refine PS.to (ps_for hp hc hi hg hb hs) fun D σ H h => ?_
  obtain ⟨Ex, p, mh, τ, RL, S, h⟩ := h
  refine ⟨Ex, p, mh, τ, RL, S, Rs.wants_mono (Rs.wants_bind.mp h) fun Sr m1 h1 q1 H1 J N1 GS => ?_⟩
  refine ⟨fun i m σ' H' => i + m = Sr.n ∧ ∃ q mh' τ', Nx X.K Ex q1 H1 q mh' H' ∧ RSt X.K (Gr Ex q H') q σ' τ' ∧ (loopS Sr G b m τ' mh').wants fun o m => ∀ q H'' σ'', Nx X.K Ex p H q m H'' → RSt X.K (Gr Ex q H'') q σ'' o.2 → Fin X.K Ex q σ'' H'' D o,
    ⟨Sr.n, by omega, q1, m1, τ, Nx.refl N1.rl, S.mono N1.same N1.le, h1⟩, ?_⟩
  rintro i m σ' H' ⟨him, q, mh', τ', N, S', hw⟩
  cases m with
  | zero =>
    have ei : i = Sr.n := by omega
    subst ei
    unfold loopS at hw
    split at hw
    · next ok => exact .inl ⟨GS.stop Ex q mh' H' N.lt ok, hw q H' σ' (N1.trans N) S'⟩
    · exact hw.elim
  | succ k =>
    unfold loopS at hw
    split at hw
    · next ok =>
      have ei : Sr.n - (k + 1) = i := by omega
      rw [ei] at hw
      split at hw
      · exact hw.elim
      · next x ex =>
        have hi : i < Sr.n := by omega
        refine .inr ⟨GS.go Ex q mh' H' N.lt ok i hi, fun σ2 H2 => i + 1 + k = Sr.n ∧ ∃ q mh' τ', Nx X.K Ex q1 H1 q mh' H2 ∧ RSt X.K (Gr Ex q H2) q σ2 τ' ∧ (loopS Sr G b k τ' mh').wants fun o m => ∀ q H'' σ'', Nx X.K Ex p H q m H'' → RSt X.K (Gr Ex q H'') q σ'' o.2 → Fin X.K Ex q σ'' H'' D o,
          fun σ2 H2 w => ⟨k, Nat.lt_succ_self k, w⟩, fun v H2 hy => ?_⟩
        obtain ⟨x', ex', N2, r2⟩ := GS.yld Ex q mh' H' N.lt ok i hi v H2 hy
        rw [ex] at ex'; cases ex'
        refine ⟨Ex, q, mh', τ', x, N2.rl, S'.mono N2.same N2.le, r2, Rs.wants_mono (Rs.wants_bind.mp hw) fun τ1 m2 h2 q3 H3 σ3 N3 S3 _ => ?_⟩
        refine ⟨Ex, q3, m2, τ1, N3.rl, S3, Rs.wants_mono (Rs.wants_bind.mp h2) fun o m3 h3 q4 H4 σ4 N4 S4 => ?_⟩
        have N5 := ((N.trans N2).trans N3).trans N4
        obtain ⟨oo, τ4⟩ := o
        cases oo with
        | nx => exact ⟨by omega, q4, m3, τ4, N5, S4, h3⟩
        | ct => exact ⟨by omega, q4, m3, τ4, N5, S4, h3⟩
        | bk => exact h3 q4 H4 σ4 (N1.trans N5) S4
        | ret t => exact h3 q4 H4 σ4 (N1.trans N5) S4
    · exact hw.elim
end

/-! ### while -/
def whileS (c : LS → M Bool) (b : LS → M (Out × LS)) : Nat → LS → M (Out × LS)
  | 0, _, _ => .no
  | k + 1, τ, mh => (c τ mh).bind fun t m => if t = true then (b τ m).bind fun o m2 => (match o.1 with
      | .nx => whileS c b k o.2 m2
      | .ct => whileS c b k o.2 m2
      | .bk => .ok (.nx, o.2) m2
      | .ret t => .ok (.ret t, o.2) m2) else .ok (.nx, τ) m
@[irreducible] def whileN : Nat := 2 ^ 40
theorem whileN_eq : whileN = 2 ^ 40 := by unfold whileN; rfl
def mWhile (c : LS → M Bool) (b : LS → M (Out × LS)) : LS → M (Out × LS) := fun τ mh => whileS c b whileN τ mh
theorem whileS_mono {c : LS → M Bool} {b : LS → M (Out × LS)} : ∀ (k j : Nat) (τ : LS) (mh : List PV) (o : Out × LS) (m : List PV), whileS c b k τ mh = .ok o m → whileS c b (k + j) τ mh = .ok o m
  | 0, _, _, _, _, _, h => by simp only [whileS] at h; cases h
  | k + 1, j, τ, mh, o, m, h => by
    rw [show k + 1 + j = (k + j) + 1 by omega]
    unfold whileS at h ⊢
    cases hc : c τ mh with
    | no => rw [hc] at h; cases h
    | exc x m => rw [hc] at h; cases h
    | ok t m1 =>
      rw [hc] at h
      simp only [Rs.bind_ok] at h ⊢
      by_cases ht : t = true
      · rw [if_pos ht] at h ⊢
        cases hb : b τ m1 with
        | no => rw [hb] at h; cases h
        | exc x m => rw [hb] at h; cases h
        | ok o2 m2 =>
          rw [hb] at h
          simp only [Rs.bind_ok] at h ⊢
          obtain ⟨oo, τ2⟩ := o2
          cases oo with
          | nx => exact whileS_mono k j τ2 m2 o m h
          | ct => exact whileS_mono k j τ2 m2 o m h
          | bk => exact h
          | ret t => exact h
      · rw [if_neg ht] at h ⊢; exact h
theorem mWhile_of {c : LS → M Bool} {b : LS → M (Out × LS)} {k : Nat} {τ : LS} {mh : List PV} {o : Out × LS} {m : List PV} (hk : k ≤ 2 ^ 40) (h : whileS c b k τ mh = .ok o m) : mWhile c b τ mh = .ok o m := by
  unfold mWhile
  rw [whileN_eq]
  have e := whileS_mono k (2 ^ 40 - k) τ mh o m h
  rwa [show k + (2 ^ 40 - k) = 2 ^ 40 by omega] at e
section
variable {X : Cx} {c : Expr} {body : List Stmt} {pos : Pos} {t : LS → M Bool} {b : LS → M (Out × LS)}
theorem ds_while (hp : PassesOwn (model X.prog X.w) X.A X.env X.xe) (hc : DT X c t) (hb : DSs X body b) : DS X (.While c body [] pos) (mWhile t b) := by
  refine PS.to (ps_while hp hc hb) fun D σ H h => ?_
  obtain ⟨Ex, p, mh, τ, RL, S, h⟩ := h
  refine ⟨fun m σ' H' => ∃ q mh' τ', Nx X.K Ex p H q mh' H' ∧ RSt X.K (Gr Ex q H') q σ' τ' ∧ (whileS t b m τ' mh').wants fun o m => ∀ q H'' σ'', Nx X.K Ex p H q m H'' → RSt X.K (Gr Ex q H'') q σ'' o.2 → Fin X.K Ex q σ'' H'' D o,
    ⟨whileN, p, mh, τ, Nx.refl RL, S, h⟩, ?_⟩
  rintro m σ' H' ⟨q, mh', τ', N, S', hw⟩
  cases m with
  | zero => unfold whileS at hw; exact hw.elim
  | succ k =>
    unfold whileS at hw
    refine ⟨Ex, q, mh', τ', N.rl, S', Rs.wants_mono (Rs.wants_bind.mp hw) fun tt m1 h1 q1 H1 N1 => ?_⟩
    cases tt with
    | false =>
      rw [if_neg Bool.false_ne_true] at h1
      refine iteF ?_
      exact h1 q1 H1 σ' (N.trans N1) (S'.mono N1.same N1.le)
    | true =>
      rw [if_pos rfl] at h1
      refine iteT ?_
      refine ⟨fun σ2 H2 => ∃ q mh' τ', Nx X.K Ex p H q mh' H2 ∧ RSt X.K (Gr Ex q H2) q σ2 τ' ∧ (whileS t b k τ' mh').wants fun o m => ∀ q H'' σ'', Nx X.K Ex p H q m H'' → RSt X.K (Gr Ex q H'') q σ'' o.2 → Fin X.K Ex q σ'' H'' D o,
        fun σ2 H2 w => ⟨k, Nat.lt_succ_self k, w⟩, ?_⟩
      refine ⟨Ex, q1, m1, τ', N1.rl, S'.mono N1.same N1.le, Rs.wants_mono (Rs.wants_bind.mp h1) fun o m3 h3 q4 H4 σ4 N4 S4 => ?_⟩
      have N5 := (N.trans N1).trans N4
      obtain ⟨oo, τ4⟩ := o
      cases oo with
      | nx => exact ⟨q4, m3, τ4, N5, S4, h3⟩
      | ct => exact ⟨q4, m3, τ4, N5, S4, h3⟩
      | bk => exact h3 q4 H4 σ4 N5 S4
      | ret t => exact h3 q4 H4 σ4 N5 S4
end

/-! ### comprehensions -/
def wipeL (τ : LS) : List Nat → LS
  | [] => τ
  | v :: vs => (wipeL τ vs).set v none
theorem wipeL_len (τ : LS) : ∀ vs : List Nat, (wipeL τ vs).length = τ.length
  | [] => rfl
  | v :: vs => by unfold wipeL; rw [List.length_set, wipeL_len τ vs]
theorem wipe_get (σ : L2.St) (i : Nat) : ∀ vs : List Nat, (wipe σ vs)[i]? = if i ∈ vs ∧ i < σ.length then some none else σ[i]?
  | [] => by simp [wipe]
  | v :: vs => by
    unfold wipe
    by_cases h : v = i
    · subst h
      by_cases hl : v < σ.length
      · rw [List.getElem?_set_self (by rw [wipe_length]; exact hl), if_pos ⟨List.mem_cons_self .., hl⟩]
      · rw [List.getElem?_eq_none (by rw [List.length_set, wipe_length]; omega), if_neg (fun z => hl z.2), List.getElem?_eq_none (by omega)]
    · rw [List.getElem?_set_ne h, wipe_get σ i vs]
      have e : (i ∈ v :: vs ∧ i < σ.length) ↔ (i ∈ vs ∧ i < σ.length) := by
        rw [List.mem_cons]
        constructor
        · rintro ⟨h1 | h1, h2⟩
          · exact absurd h1.symm h
          · exact ⟨h1, h2⟩
        · rintro ⟨h1, h2⟩; exact ⟨.inr h1, h2⟩
      by_cases hm : i ∈ vs ∧ i < σ.length
      · rw [if_pos hm, if_pos (e.mpr hm)]
      · rw [if_neg hm, if_neg (fun z => hm (e.mp z))]
theorem wipeL_get (σ : LS) (i : Nat) : ∀ vs : List Nat, (wipeL σ vs)[i]? = if i ∈ vs ∧ i < σ.length then some none else σ[i]?
  | [] => by simp [wipeL]
  | v :: vs => by
    unfold wipeL
    by_cases h : v = i
    · subst h
      by_cases hl : v < σ.length
      · rw [List.getElem?_set_self (by rw [wipeL_len]; exact hl), if_pos ⟨List.mem_cons_self .., hl⟩]
      · rw [List.getElem?_eq_none (by rw [List.length_set, wipeL_len]; omega), if_neg (fun z => hl z.2), List.getElem?_eq_none (by omega)]
    · rw [List.getElem?_set_ne h, wipeL_get σ i vs]
      have e : (i ∈ v :: vs ∧ i < σ.length) ↔ (i ∈ vs ∧ i < σ.length) := by
        rw [List.mem_cons]
        constructor
        · rintro ⟨h1 | h1, h2⟩
          · exact absurd h1.symm h
          · exact ⟨h1, h2⟩
        · rintro ⟨h1, h2⟩; exact ⟨.inr h1, h2⟩
      by_cases hm : i ∈ vs ∧ i < σ.length
      · rw [if_pos hm, if_pos (e.mpr hm)]
      · rw [if_neg hm, if_neg (fun z => hm (e.mp z))]
theorem RSt.wipe {K : PySem.W.Frag} {G : Hp} {p : Pm} {σ : L2.St} {τ : LS} (h : RSt K G p σ τ) (vs : List Nat) : RSt K G p (L2.wipe σ vs) (wipeL τ vs) := by
  refine ⟨by rw [wipe_length, wipeL_len]; exact h.1, fun i t e => ?_⟩
  rw [wipeL_get] at e
  split at e
  · cases e
  · next hn =>
    obtain ⟨v, e1, r⟩ := h.2 i t e
    refine ⟨v, ?_, r⟩
    rw [wipe_get, if_neg (fun z => hn ⟨z.1, by rw [← h.1]; exact z.2⟩)]
    exact e1
theorem wipe_back {σ σ2 : L2.St} {vs ws : List Nat} (hl : σ2.length = (L2.wipe σ vs).length) (hw : ∀ i ∈ ws, i ∈ vs) (h : ∀ i : Nat, i ∉ ws → σ2[i]? = (L2.wipe σ vs)[i]?) : L2.wipe σ2 vs = L2.wipe σ vs := by
  refine List.ext_getElem? fun i => ?_
  rw [wipe_length] at hl
  rw [wipe_get, wipe_get]
  by_cases hm : i ∈ vs ∧ i < σ.length
  · rw [if_pos ⟨hm.1, by omega⟩, if_pos hm]
  · rw [if_neg (fun z => hm ⟨z.1, by omega⟩), if_neg hm]
    by_cases hi : i ∈ vs
    · have : ¬ i < σ.length := fun z => hm ⟨hi, z⟩
      rw [List.getElem?_eq_none (by omega), List.getElem?_eq_none (by omega)]
    · rw [h i (fun z => hi (hw i z)), wipe_get, if_neg hm]
def compS (S : Src) (G : PV → LS → M LS) (t : LS → M Bool) (e : LS → M PV) (τ : LS) : Nat → List PV → M (List PV)
  | 0, acc, mh => if S.ok mh = true then .ok acc mh else .no
  | k + 1, acc, mh => if S.ok mh = true then (match S.it (S.n - (k + 1)) mh with
    | none => .no
    | some x => (G x τ mh).bind fun τ1 m1 => (t τ1 m1).bind fun b m2 => if b = true then (e τ1 m2).bind fun z m3 => compS S G t e τ k (acc ++ [z]) m3 else compS S G t e τ k acc m2) else .no
def mComp0 (f : LS → M Src) (G : PV → LS → M LS) (t : LS → M Bool) (e : LS → M PV) (vs : List Nat) : LS → M (List PV) := fun τ mh => (f τ mh).bind fun S m => compS S G t e (wipeL τ vs) S.n [] m
def mComp (f : LS → M Src) (G : PV → LS → M LS) (t : LS → M Bool) (e : LS → M PV) (vs : List Nat) : LS → M PV := fun τ mh => (mComp0 f G t e vs τ mh).bind fun xs m => .ok (.lst xs) m
/-- its list will change -/
def mCompL (f : LS → M Src) (G : PV → LS → M LS) (t : LS → M Bool) (e : LS → M PV) (vs : List Nat) : LS → M PV := fun τ mh => (mComp0 f G t e vs τ mh).bind fun xs m => .ok (.loc m.length) (m ++ [.lst xs])
abbrev DPs (X : Cx) (ifs : List Expr) (t : LS → M Bool) : Prop := PTs X ifs (tOfT X.K t)
def mYes : LS → M Bool := fun _ mh => .ok true mh
theorem dps_nil {X : Cx} : DPs X [] mYes := ⟨fun pins s σ H Q I ⟨Ex, p, mh, τ, RL, S, h⟩ => pts_nil.run pins s σ H Q I (h p H (Nx.refl RL))⟩
theorem dps_one {X : Cx} {c : Expr} {t : LS → M Bool} (h : DT X c t) : DPs X [c] t := pts_one h

/-- a list that grows aside: D, its items as they stand -/
theorem Rl.side {K : PySem.W.Frag} {Ex : List Addr} {p : Pm} {mh : List PV} {H : Hp} {D : Addr} {o : HO} (R : Rl K Ex p mh H) (n : H D = none) : Rl K (D :: Ex) p mh (upd H D o) := by
  have nE : D ∉ Ex := fun z => by obtain ⟨u, e⟩ := R.exd D z; rw [n] at e; cases e
  have nP : D ∉ fp p := fun z => by obtain ⟨u, e⟩ := R.live z; rw [n] at e; cases e
  have k : ∀ b u, H b = some u → (upd H D o) b = some u := fun b u e => by rw [upd_ne (ne_of_none e n)]; exact e
  have s : Same (Gr Ex p H) (Gr (D :: Ex) p (upd H D o)) := fun b u e => by
    obtain ⟨h, z⟩ := Gz.some e
    refine Gz.of (k b u h) ?_
    rw [List.cons_append, List.mem_cons, not_or]
    exact ⟨ne_of_none h n, z⟩
  refine ⟨R.len, R.inj, fun a ha => ?_, fun a ha => ?_, fun m a e => ?_⟩
  · rw [List.mem_cons, not_or]
    exact ⟨fun z => nP (z ▸ ha), R.ex a ha⟩
  · rcases List.mem_cons.mp ha with z | z
    · subst z; exact ⟨o, upd_same⟩
    · obtain ⟨u, e⟩ := R.exd a z; exact ⟨u, k a u e⟩
  · obtain ⟨t, e1, r⟩ := R.obj m a e
    exact ⟨t, e1, RepO.mono s (Le.refl p) (fun u e => k a u e) r⟩
theorem Rl.sideSame {K : PySem.W.Frag} {Ex : List Addr} {p : Pm} {mh : List PV} {H : Hp} {D : Addr} {o : HO} (R : Rl K Ex p mh H) (n : H D = none) : Same (Gr Ex p H) (Gr (D :: Ex) p (upd H D o)) := fun b u e => by
  obtain ⟨h, z⟩ := Gz.some e
  refine Gz.of (by rw [upd_ne (ne_of_none h n)]; exact h) ?_
  rw [List.cons_append, List.mem_cons, not_or]
  exact ⟨ne_of_none h n, z⟩
/-- the aside list written -/
theorem side_upd {Ex : List Addr} {p : Pm} {H : Hp} {D : Addr} {o : HO} : Gr (D :: Ex) p (upd H D o) = Gr (D :: Ex) p H := by
  funext b
  show Gz _ _ _ = Gz _ _ _
  unfold Gz
  by_cases hb : b ∈ D :: Ex ++ fp p
  · rw [if_pos hb, if_pos hb]
  · rw [if_neg hb, if_neg hb]
    have : b ≠ D := fun z => hb (by rw [z]; exact List.mem_cons_self ..)
    exact upd_ne this
theorem Nx.sideUpd {K : PySem.W.Frag} {Ex : List Addr} {p q : Pm} {mh : List PV} {H H' : Hp} {D : Addr} {o o' : HO} (N : Nx K (D :: Ex) p (upd H D o) q mh H') : Nx K (D :: Ex) p (upd H D o) q mh (upd H' D o') → True := fun _ => trivial
/-- the aside list becomes still -/
theorem Rl.unside {K : PySem.W.Frag} {Ex : List Addr} {p : Pm} {mh : List PV} {H : Hp} {D : Addr} (R : Rl K (D :: Ex) p mh H) : Rl K Ex p mh H ∧ Same (Gr (D :: Ex) p H) (Gr Ex p H) := by
  have s : Same (Gr (D :: Ex) p H) (Gr Ex p H) := fun b u e => by
    obtain ⟨h, z⟩ := Gz.some e
    rw [List.cons_append, List.mem_cons, not_or] at z
    exact Gz.of h z.2
  refine ⟨⟨R.len, R.inj, fun a ha z => R.ex a ha (List.mem_cons_of_mem _ z), fun a ha => R.exd a (List.mem_cons_of_mem _ ha), fun m a e => ?_⟩, s⟩
  obtain ⟨t, e1, r⟩ := R.obj m a e
  exact ⟨t, e1, RepO.mono s (Le.refl p) (fun u e => e) r⟩
/-- the walk with a list aside: what a turn keeps -/
structure Nd (K : PySem.W.Frag) (Ex : List Addr) (D : Addr) (p : Pm) (H : Hp) (q : Pm) (mh : List PV) (H' : Hp) (acc : List PV) : Prop where
  pre : ∃ r, q = p ++ r
  rl : Rl K (D :: Ex) q mh H'
  keep : ∀ b o, b ∉ fp p → H b = some o → H' b = some o
  new : ∀ a ∈ fp q, a ∈ fp p ∨ H a = none
  at_ : ∃ vs, H' D = some (.lst vs) ∧ Reps K (Gr (D :: Ex) q H') q acc vs
theorem Nd.start {K : PySem.W.Frag} {Ex : List Addr} {p : Pm} {mh : List PV} {H : Hp} {D : Addr} (R : Rl K Ex p mh H) (n : H D = none) : Nd K Ex D p H p mh (upd H D (.lst [])) [] :=
  ⟨pre_refl p, R.side n, fun b o _ e => by rw [upd_ne (ne_of_none e n)]; exact e, fun a h => .inl h, [], upd_same, Reps.nil⟩
theorem Nd.step {K : PySem.W.Frag} {Ex : List Addr} {D : Addr} {p q r : Pm} {mh mh' : List PV} {H H1 H2 : Hp} {acc : List PV} (n : H D = none) (N : Nd K Ex D p H q mh H1 acc) (M : Nx K (D :: Ex) q H1 r mh' H2) : Nd K Ex D p H r mh' H2 acc := by
  obtain ⟨r1, e1⟩ := N.pre
  obtain ⟨r2, e2⟩ := M.pre
  have nD : D ∉ fp q := fun z => N.rl.ex D z (List.mem_cons_self ..)
  refine ⟨⟨r1 ++ r2, by rw [e2, e1, List.append_assoc]⟩, M.rl, fun b o hb h => ?_, fun a ha => ?_, ?_⟩
  · refine M.keep b o (fun z => ?_) (N.keep b o hb h)
    rcases N.new b z with z | z
    · exact hb z
    · rw [h] at z; cases z
  · rcases M.new a ha with z | z
    · exact N.new a z
    · by_cases hp : a ∈ fp p
      · exact .inl hp
      · cases e : H a with
        | none => exact .inr rfl
        | some o => rw [N.keep a o hp e] at z; cases z
  · obtain ⟨vs, h, rr⟩ := N.at_
    exact ⟨vs, M.keep D _ nD h, M.reps rr⟩
theorem Nd.push {K : PySem.W.Frag} {Ex : List Addr} {D : Addr} {p q : Pm} {mh : List PV} {H H1 : Hp} {acc : List PV} (n : H D = none) (N : Nd K Ex D p H q mh H1 acc) {t : PV} {v : V} (r : Rep K (Gr (D :: Ex) q H1) q t v) {vs : List V} (hv : H1 D = some (.lst vs)) :
    Nd K Ex D p H q mh (upd H1 D (.lst (vs ++ [v]))) (acc ++ [t]) := by
  obtain ⟨ws, h, rr⟩ := N.at_
  rw [hv] at h; cases h
  have k : ∀ b u, b ≠ D → H1 b = some u → (upd H1 D (.lst (vs ++ [v]))) b = some u := fun b u hb e => by rw [upd_ne hb]; exact e
  refine ⟨N.pre, ⟨N.rl.len, N.rl.inj, N.rl.ex, fun a ha => ?_, fun m a e => ?_⟩, fun b o hb e => ?_, N.new, _, upd_same, ?_⟩
  · by_cases z : a = D
    · subst z; exact ⟨_, upd_same⟩
    · obtain ⟨u, e⟩ := N.rl.exd a ha; exact ⟨u, k a u z e⟩
  · obtain ⟨o, e1, r1⟩ := N.rl.obj m a e
    refine ⟨o, e1, RepO.mono (fun b u e => ?_) (Le.refl q) (fun u e2 => k a u (fun z => N.rl.ex D (z ▸ mem_fp.mpr ⟨m, e⟩) (List.mem_cons_self ..)) e2) r1⟩
    show Gr (D :: Ex) q _ b = _
    rw [side_upd]; exact e
  · have : b ≠ D := fun z => by rw [z, n] at e; cases e
    exact k b o this (N.keep b o hb e)
  · rw [side_upd]; exact rr.app (Reps.cons r Reps.nil)
theorem Nd.fin {K : PySem.W.Frag} {Ex : List Addr} {D : Addr} {p q : Pm} {mh : List PV} {H H1 : Hp} {acc : List PV} (N : Nd K Ex D p H q mh H1 acc) (R : Rl K Ex p mh0 H) (n : H D = none) : Nx K Ex p H q mh H1 ∧ Rep K (Gr Ex q H1) q (.lst acc) (.ref D) := by
  obtain ⟨R1, s⟩ := N.rl.unside
  refine ⟨⟨N.pre, R1, N.keep, N.new⟩, ?_⟩
  obtain ⟨vs, h, r⟩ := N.at_
  simp only [Rep]
  refine ⟨D, vs, rfl, Gz.of h ?_, Reps.mono s (Le.refl q) acc r⟩
  rw [List.mem_append, not_or]
  refine ⟨fun z => ?_, fun z => N.rl.ex D z (List.mem_cons_self ..)⟩
  obtain ⟨u, e⟩ := R.exd D z
  rw [n] at e; cases e

section
variable {X : Cx} {elt tg iter : Expr} {ifs : List Expr} {scope : Scope} {own : List (Str × Nat)} {pos : Pos} {f : LS → M Src} {G : PV → LS → M LS} {t : LS → M Bool} {e : LS → M PV} {ws : List Nat}
/-- what a comprehension's reading asks, from its function -/
theorem comp_in {σ : L2.St} {H : Hp} {vs : List Nat} {Q : VK} (hw : ∀ i ∈ ws, i ∈ vs) (h : ∃ Ex p mh τ, Rl X.K Ex p mh H ∧ RSt X.K (Gr Ex p H) p σ τ ∧
    (mComp0 f G t e vs τ mh).wants fun acc mh' => ∀ q H' D, H D = none → Nd X.K Ex D p H q mh' H' acc → Q (.ref D) H') :
    tLc (iOf X.K f) (gOf X.K ws G) (tOfT X.K t) (tOf X.K e) vs σ H Q := by
  obtain ⟨Ex, p, mh, τ, RL, S, h⟩ := h
  refine ⟨Ex, p, mh, τ, RL, S, Rs.wants_mono (Rs.wants_bind.mp h) fun Sr m1 h1 q1 H1 J N1 GS D hD => ?_⟩
  have hD0 : H D = none := by
    cases q : H D with
    | none => rfl
    | some o =>
      by_cases hp : D ∈ fp p
      · obtain ⟨n, e⟩ := mem_fp.mp hp
        obtain ⟨u, e2⟩ := N1.rl.live (mem_fp.mpr ⟨n, N1.le n D e⟩)
        rw [hD] at e2; cases e2
      · rw [N1.keep D o hp q] at hD; cases hD
  have S1 := (S.mono N1.same N1.le).wipe vs
  have sid := N1.rl.sideSame (o := .lst []) hD
  -- the whole of the walk from the start
  have whole : ∀ {q : Pm} {mh' : List PV} {H' : Hp} {acc : List PV}, Nd X.K Ex D q1 H1 q mh' H' acc → Nd X.K Ex D p H q mh' H' acc := fun {q mh' H' acc} N => by
    obtain ⟨r1, e1⟩ := N1.pre
    obtain ⟨r2, e2⟩ := N.pre
    refine ⟨⟨r1 ++ r2, by rw [e2, e1, List.append_assoc]⟩, N.rl, fun b o hb h => ?_, fun a ha => ?_, N.at_⟩
    · refine N.keep b o (fun z => ?_) (N1.keep b o hb h)
      rcases N1.new b z with z | z
      · exact hb z
      · rw [h] at z; cases z
    · rcases N.new a ha with z | z
      · exact N1.new a z
      · by_cases hp : a ∈ fp p
        · exact .inl hp
        · cases e : H a with
          | none => exact .inr rfl
          | some o => rw [N1.keep a o hp e] at z; cases z
  have lt : ∀ {q : Pm} {mh' : List PV} {H' : Hp} {acc : List PV}, Nd X.K Ex D q1 H1 q mh' H' acc → Lt X.K Ex q1 H1 (D :: Ex) q mh' H' := fun {q mh' H' acc} N => by
    obtain ⟨r2, e2⟩ := N.pre
    refine ⟨by rw [e2]; exact Le.app _ _, N.rl, fun b u e => ?_⟩
    obtain ⟨h, z⟩ := Gz.some e
    rw [List.mem_append, not_or] at z
    refine Gz.of (N.keep b u z.2 h) ?_
    rw [List.cons_append, List.mem_cons, not_or, List.mem_append, not_or]
    refine ⟨ne_of_none h hD, z.1, fun y => ?_⟩
    rcases N.new b y with y | y
    · exact z.2 y
    · rw [h] at y; cases y
  refine ⟨fun i m H' => i + m = Sr.n ∧ ∃ q mh' acc, Nd X.K Ex D q1 H1 q mh' H' acc ∧ acc.length ≤ i ∧ (compS Sr G t e (wipeL τ vs) m acc mh').wants fun acc m => ∀ q H' D, H D = none → Nd X.K Ex D p H q m H' acc → Q (.ref D) H',
    ⟨Sr.n, by omega, q1, m1, [], Nd.start N1.rl hD, Nat.zero_le _, h1⟩, ?_⟩
  rintro i m H' ⟨him, q, mh', acc, N, hacc, hw'⟩
  have L := lt N
  have Sq : RSt X.K (Gr (D :: Ex) q H') q (L2.wipe σ vs) (wipeL τ vs) := S1.mono L.same L.le
  cases m with
  | zero =>
    have ei : i = Sr.n := by omega
    subst ei
    unfold compS at hw'
    split at hw'
    · next ok => exact .inl ⟨GS.stop _ q mh' H' L ok, hw' q H' D hD0 (whole N)⟩
    · exact hw'.elim
  | succ k =>
    unfold compS at hw'
    split at hw'
    · next ok =>
      have ei : Sr.n - (k + 1) = i := by omega
      rw [ei] at hw'
      split at hw'
      · exact hw'.elim
      · next x ex =>
        have hi : i < Sr.n := by omega
        refine .inr ⟨GS.go _ q mh' H' L ok i hi, fun H2 => i + 1 + k = Sr.n ∧ ∃ q mh' acc, Nd X.K Ex D q1 H1 q mh' H2 acc ∧ acc.length ≤ i + 1 ∧ (compS Sr G t e (wipeL τ vs) k acc mh').wants fun acc m => ∀ q H' D, H D = none → Nd X.K Ex D p H q m H' acc → Q (.ref D) H',
          fun H2 w => ⟨k, Nat.lt_succ_self k, w⟩, fun v H2 hy => ?_⟩
        obtain ⟨x', ex', N2, r2⟩ := GS.yld _ q mh' H' L ok i hi v H2 hy
        rw [ex] at ex'; cases ex'
        refine ⟨D :: Ex, q, mh', wipeL τ vs, x, N2.rl, Sq.mono N2.same N2.le, r2, Rs.wants_mono (Rs.wants_bind.mp hw') fun τ1 m2 h2 q3 H3 σ3 N3 S3 e3 => ⟨?_, ?_⟩⟩
        · exact wipe_back e3.1 hw e3.2
        · have N4 := (N.step hD N2).step hD N3
          refine ⟨D :: Ex, q3, m2, τ1, N3.rl, S3, Rs.wants_mono (Rs.wants_bind.mp h2) fun b m3 h3 q4 H4 N5 => ?_⟩
          have N6 := N4.step hD N5
          cases b with
          | false =>
            rw [if_neg Bool.false_ne_true] at h3
            refine iteF ?_
            exact ⟨by omega, q4, m3, acc, N6, by omega, h3⟩
          | true =>
            rw [if_pos rfl] at h3
            refine iteT ?_
            refine ⟨D :: Ex, q4, m3, τ1, N5.rl, S3.mono N5.same N5.le, Rs.wants_mono (Rs.wants_bind.mp h3) fun z m4 h4 q5 H5 y N7 r7 => ?_⟩
            have N8 := N6.step hD N7
            obtain ⟨ws', hv, rr⟩ := N8.at_
            refine ⟨ws', hv, ?_, by omega, q5, m4, acc ++ [z], N8.push hD r7 hv, by rw [List.length_append]; show acc.length + 1 ≤ _; omega, h4⟩
            have := rr.len
            have := GS.len
            omega
    · exact hw'.elim

theorem Nd.loc {K : PySem.W.Frag} {Ex : List Addr} {D : Addr} {p q : Pm} {mh mh0 : List PV} {H H1 : Hp} {acc : List PV} (N : Nd K Ex D p H q mh H1 acc) (R : Rl K Ex p mh0 H) (n : H D = none) :
    Nx K Ex p H (q ++ [some D]) (mh ++ [.lst acc]) H1 ∧ ∀ G, Rep K G (q ++ [some D]) (.loc mh.length) (.ref D) := by
  obtain ⟨vs, h, r⟩ := N.at_
  obtain ⟨r1, e1⟩ := N.pre
  have nE : D ∉ Ex := fun z => by
    obtain ⟨u, e⟩ := R.exd D z
    rw [n] at e; cases e
  have nP : D ∉ fp q := fun z => N.rl.ex D z (List.mem_cons_self ..)
  have hf : fp (q ++ [some D]) = fp q ++ [D] := by rw [fp_app]; rfl
  have eG : Gr Ex (q ++ [some D]) H1 = Gr (D :: Ex) q H1 := by
    funext b
    show Gz _ _ _ = Gz _ _ _
    unfold Gz
    have e : b ∈ Ex ++ fp (q ++ [some D]) ↔ b ∈ D :: Ex ++ fp q := by
      rw [hf]; simp only [List.mem_append, List.mem_cons, List.cons_append, List.not_mem_nil, or_false]
      constructor
      · rintro (h | h | h)
        · exact .inr (.inl h)
        · exact .inr (.inr h)
        · exact .inl h
      · rintro (h | h | h)
        · exact .inr (.inr h)
        · exact .inl h
        · exact .inr (.inl h)
    by_cases hb : b ∈ Ex ++ fp (q ++ [some D])
    · rw [if_pos hb, if_pos (e.mp hb)]
    · rw [if_neg hb, if_neg (fun z => hb (e.mpr z))]
  have l : Le q (q ++ [some D]) := Le.app _ _
  have old : ∀ (m : Nat) (b : Addr), (q ++ [some D])[m]? = some (some b) → (q[m]? = some (some b)) ∨ (m = q.length ∧ b = D) := fun m b e => by
    rcases Nat.lt_or_ge m q.length with h | h
    · rw [List.getElem?_append_left h] at e; exact .inl e
    · rw [List.getElem?_append_right h] at e
      have hm : m - q.length < 1 := by
        have := (List.getElem?_eq_some_iff.mp e).1
        simpa using this
      have hm0 : m - q.length = 0 := by omega
      rw [hm0] at e; simp at e
      exact .inr ⟨by omega, e.symm⟩
  refine ⟨⟨⟨r1 ++ [some D], by rw [e1, List.append_assoc]⟩, ⟨by simp [N.rl.len], fun m m' b e e' => ?_, fun b hb => ?_, fun b hb => N.rl.exd b (List.mem_cons_of_mem _ hb), fun m b e => ?_⟩, N.keep, fun a ha => ?_⟩, fun G => ?_⟩
  · rcases old m b e with h | ⟨h1, h2⟩ <;> rcases old m' b e' with h' | ⟨h1', h2'⟩
    · exact N.rl.inj m m' b h h'
    · exact absurd (h2' ▸ mem_fp.mpr ⟨m, h⟩) nP
    · exact absurd (h2 ▸ mem_fp.mpr ⟨m', h'⟩) nP
    · omega
  · rw [hf, List.mem_append] at hb
    rcases hb with hb | hb
    · exact fun z => N.rl.ex b hb (List.mem_cons_of_mem _ z)
    · have : b = D := by simpa using hb
      subst this; exact nE
  · show ∃ o, _ ∧ RepO K H1 (Gr Ex (q ++ [some D]) H1) _ o b
    rw [eG]
    rcases old m b e with h | ⟨h1, h2⟩
    · obtain ⟨u, e1, r1⟩ := N.rl.obj m b h
      refine ⟨u, ?_, RepO.mono (Same.refl _) l (fun u e => e) r1⟩
      rw [List.getElem?_append_left (by have := (List.getElem?_eq_some_iff.mp e1).1; exact this)]; exact e1
    · subst h2
      refine ⟨.lst acc, ?_, ?_⟩
      · rw [h1, N.rl.len, List.getElem?_append_right (Nat.le_refl _)]; simp
      · simp only [RepO]; exact ⟨vs, h, Reps.mono (Same.refl _) l acc r⟩
  · rw [hf, List.mem_append] at ha
    rcases ha with ha | ha
    · exact N.new a ha
    · have : a = D := by simpa using ha
      subst this; exact .inr n
  · simp only [Rep]
    exact ⟨D, rfl, by rw [← N.rl.len, List.getElem?_append_right (Nat.le_refl _)]; simp⟩
theorem mComp_in {σ : L2.St} {H : Hp} {vs : List Nat} {Q : VK} (hw : ∀ i ∈ ws, i ∈ vs) (h : tOf X.K (mComp f G t e vs) σ H Q) : tLc (iOf X.K f) (gOf X.K ws G) (tOfT X.K t) (tOf X.K e) vs σ H Q := by
  obtain ⟨Ex, p, mh, τ, RL, S, h⟩ := h
  refine comp_in hw ⟨Ex, p, mh, τ, RL, S, Rs.wants_mono (Rs.wants_bind.mp h) fun acc m h1 q H' D hD N => ?_⟩
  obtain ⟨N1, r1⟩ := N.fin RL hD
  exact h1 q H' _ N1 r1
theorem mCompL_in {σ : L2.St} {H : Hp} {vs : List Nat} {Q : VK} (hw : ∀ i ∈ ws, i ∈ vs) (h : tOf X.K (mCompL f G t e vs) σ H Q) : tLc (iOf X.K f) (gOf X.K ws G) (tOfT X.K t) (tOf X.K e) vs σ H Q := by
  obtain ⟨Ex, p, mh, τ, RL, S, h⟩ := h
  refine comp_in hw ⟨Ex, p, mh, τ, RL, S, Rs.wants_mono (Rs.wants_bind.mp h) fun acc m h1 q H' D hD N => ?_⟩
  obtain ⟨N1, r1⟩ := N.loc RL hD
  exact h1 _ H' _ N1 (r1 _)
theorem de_comp (hc : X.calm = true) (hN : X.N.Nodup) (hi : DI X tg iter f) (ok : BlkOk X.N X.env.scope scope own) (hw : ∀ i ∈ ws, i ∈ own.map (·.2))
    (hg : ∀ (s : Shared) (H : Hp) (C : Addr) (cl : List (Str × Addr)) (fp : List Addr), DG (X.blk s H scope (compEnvC scope cl C X.env) fp) tg ws G) (ht : ∀ (s : Shared) (H : Hp) (C : Addr) (cl : List (Str × Addr)) (fp : List Addr), DPs (X.blk s H scope (compEnvC scope cl C X.env) fp) ifs t)
    (he : ∀ (s : Shared) (H : Hp) (C : Addr) (cl : List (Str × Addr)) (fp : List Addr), DE (X.blk s H scope (compEnvC scope cl C X.env) fp) elt e) (hs : ∀ x, foldedSetIterable iter X.env x = pure x := by intro _; rfl) :
    DE X (.ListComp elt [⟨tg, iter, ifs, 0⟩] scope pos) (mComp f G t e (own.map (·.2))) := PE.to (pe_lc hc hN hi ok hg ht he hs) fun _ _ _ => mComp_in hw
theorem de_compL (hc : X.calm = true) (hN : X.N.Nodup) (hi : DI X tg iter f) (ok : BlkOk X.N X.env.scope scope own) (hw : ∀ i ∈ ws, i ∈ own.map (·.2))
    (hg : ∀ (s : Shared) (H : Hp) (C : Addr) (cl : List (Str × Addr)) (fp : List Addr), DG (X.blk s H scope (compEnvC scope cl C X.env) fp) tg ws G) (ht : ∀ (s : Shared) (H : Hp) (C : Addr) (cl : List (Str × Addr)) (fp : List Addr), DPs (X.blk s H scope (compEnvC scope cl C X.env) fp) ifs t)
    (he : ∀ (s : Shared) (H : Hp) (C : Addr) (cl : List (Str × Addr)) (fp : List Addr), DE (X.blk s H scope (compEnvC scope cl C X.env) fp) elt e) (hs : ∀ x, foldedSetIterable iter X.env x = pure x := by intro _; rfl) :
    DE X (.ListComp elt [⟨tg, iter, ifs, 0⟩] scope pos) (mCompL f G t e (own.map (·.2))) := PE.to (pe_lc hc hN hi ok hg ht he hs) fun _ _ _ => mCompL_in hw
/-- name = [..] on one line -/
theorem set_in {σ : L2.St} {H : Hp} {D : Ends} {i : Nat} {g : LS → M PV} {te : TE} (hin : ∀ Q, tOf X.K g σ H Q → te σ H Q) (h : tOfS X.K (mSet i g) D σ H) : tAsg te (gName i) D σ H := by
  obtain ⟨Ex, p, mh, τ, R, S, h⟩ := h
  exact hin _ ⟨Ex, p, mh, τ, R, S, Rs.wants_mono (Rs.wants_bind.mp h) fun x m1 h1 q1 H1 v N1 r1 => h1 q1 H1 _ N1 ((S.mono N1.same N1.le).set r1)⟩
variable {y : Str} {py spos : Pos} {i : Nat}
theorem ds_setComp (hc : X.calm = true) (hN : X.N.Nodup) (hy : X.N[i]? = some y) (hyl : X.env.scope.names.lookup y = some .local)
    (hsw : swapsWith (.ListComp elt [⟨tg, iter, ifs, 0⟩] scope pos) (some (.Name y py)) spos.line X.env = pure true) (hi : DI X tg iter f) (ok : BlkOk X.N X.env.scope scope own) (hw : ∀ i ∈ ws, i ∈ own.map (·.2))
    (hg : ∀ (s : Shared) (H : Hp) (C : Addr) (cl : List (Str × Addr)) (fp : List Addr), DG (X.blk s H scope (compEnvC scope cl C X.env) fp) tg ws G) (ht : ∀ (s : Shared) (H : Hp) (C : Addr) (cl : List (Str × Addr)) (fp : List Addr), DPs (X.blk s H scope (compEnvC scope cl C X.env) fp) ifs t)
    (he : ∀ (s : Shared) (H : Hp) (C : Addr) (cl : List (Str × Addr)) (fp : List Addr), DE (X.blk s H scope (compEnvC scope cl C X.env) fp) elt e) (hs : ∀ x, foldedSetIterable iter X.env x = pure x := by intro _; rfl) :
    DS X (.Assign [.Name y py] (.ListComp elt [⟨tg, iter, ifs, 0⟩] scope pos) spos) (mSet i (mComp f G t e (own.map (·.2)))) :=
  PS.to (ps_setLc (i := i) hc hN hy hyl hsw hi ok hg ht he hs) fun _ _ _ => set_in fun _ => mComp_in hw
theorem ds_setCompL (hc : X.calm = true) (hN : X.N.Nodup) (hy : X.N[i]? = some y) (hyl : X.env.scope.names.lookup y = some .local)
    (hsw : swapsWith (.ListComp elt [⟨tg, iter, ifs, 0⟩] scope pos) (some (.Name y py)) spos.line X.env = pure true) (hi : DI X tg iter f) (ok : BlkOk X.N X.env.scope scope own) (hw : ∀ i ∈ ws, i ∈ own.map (·.2))
    (hg : ∀ (s : Shared) (H : Hp) (C : Addr) (cl : List (Str × Addr)) (fp : List Addr), DG (X.blk s H scope (compEnvC scope cl C X.env) fp) tg ws G) (ht : ∀ (s : Shared) (H : Hp) (C : Addr) (cl : List (Str × Addr)) (fp : List Addr), DPs (X.blk s H scope (compEnvC scope cl C X.env) fp) ifs t)
    (he : ∀ (s : Shared) (H : Hp) (C : Addr) (cl : List (Str × Addr)) (fp : List Addr), DE (X.blk s H scope (compEnvC scope cl C X.env) fp) elt e) (hs : ∀ x, foldedSetIterable iter X.env x = pure x := by intro _; rfl) :
    DS X (.Assign [.Name y py] (.ListComp elt [⟨tg, iter, ifs, 0⟩] scope pos) spos) (mSet i (mCompL f G t e (own.map (·.2)))) :=
  PS.to (ps_setLc (i := i) hc hN hy hyl hsw hi ok hg ht he hs) fun _ _ _ => set_in fun _ => mCompL_in hw
end
end ML

set_option Elab.async false
set_option linter.all false
set_option maxRecDepth 100000
/-! ML7: defs by functions, calls, instances. -/
namespace ML
open PySem PySem.Spec L2
open PyProof.Rows (envOfC)

/-! ### what leaves a def -/
mutual
def closedB (n : Nat) : PV → Bool
  | .loc k => decide (k < n)
  | .tup ts => closedBs n ts
  | .lst ts => closedBs n ts
  | .obj _ _ ts => closedBs n ts
  | .dk _ ts => closedBs n ts
  | .dt _ ts => closedBs n ts
  | _ => true
def closedBs (n : Nat) : List PV → Bool
  | [] => true
  | t :: ts => closedB n t && closedBs n ts
end
mutual
def sub (s : Nat → Option PV) : PV → Option PV
  | .loc k => s k
  | .tup ts => match subs s ts with
    | some us => some (.tup us)
    | none => none
  | .lst ts => match subs s ts with
    | some us => some (.lst us)
    | none => none
  | .obj C ns ts => match subs s ts with
    | some us => some (.obj C ns us)
    | none => none
  | .dk ks ts => match subs s ts with
    | some us => some (.dk ks us)
    | none => none
  | .dt ks ts => match subs s ts with
    | some us => some (.dt ks us)
    | none => none
  | .non => some .non
  | .bl b => some (.bl b)
  | .int i => some (.int i)
  | .str s => some (.str s)
  | .ty n => some (.ty n)
  | .ad a => some (.ad a)
  | .scr ns => some (.scr ns)
def subs (s : Nat → Option PV) : List PV → Option (List PV)
  | [] => some []
  | t :: ts => match sub s t, subs s ts with
    | some u, some us => some (u :: us)
    | _, _ => none
end
/-- the mutable object as a still one (its own parts by s) -/
def subO (s : Nat → Option PV) : Option PV → Option PV
  | some (.lst ts) => sub s (.lst ts)
  | some (.obj C ns ts) => sub s (.obj C ns ts)
  | some (.dk ks ts) => sub s (.dk ks ts)
  | some (.dt ks ts) => sub s (.dt ks ts)
  | _ => none
def frzN (m : List PV) (n0 : Nat) : Nat → Nat → Option PV
  | 0, _ => none
  | k + 1, n => if n < n0 then some (.loc n) else subO (frzN m n0 k) m[n]?
abbrev frz (m : List PV) (n0 : Nat) (t : PV) : Option PV := sub (frzN m n0 8) t
section
variable {K : PySem.W.Frag} {Ex : List Addr} {p p0 r : Pm} {m : List PV} {H G G2 : Hp}
mutual
theorem closed_rep (s : Same G G2) (e : p = p0 ++ r) : ∀ (t : PV) {v : V}, closedB p0.length t = true → Rep K G p t v → Rep K G2 p0 t v
  | .loc k, _, c, h => by
    simp only [closedB, decide_eq_true_eq] at c
    simp only [Rep] at h ⊢
    obtain ⟨a, e1, h⟩ := h
    rw [e, List.getElem?_append_left c] at h
    exact ⟨a, e1, h⟩
  | .tup ts, _, c, h => by simp only [closedB] at c; simp only [Rep] at h ⊢; obtain ⟨a, vs, e1, h, rr⟩ := h; exact ⟨a, vs, e1, s _ _ h, closed_reps s e ts c rr⟩
  | .lst ts, _, c, h => by simp only [closedB] at c; simp only [Rep] at h ⊢; obtain ⟨a, vs, e1, h, rr⟩ := h; exact ⟨a, vs, e1, s _ _ h, closed_reps s e ts c rr⟩
  | .obj _ _ ts, _, c, h => by simp only [closedB] at c; simp only [Rep] at h ⊢; obtain ⟨a, dx, gs, e1, h, e2, rr⟩ := h; exact ⟨a, dx, gs, e1, s _ _ h, e2, closed_reps s e ts c rr⟩
  | .dk _ ts, _, c, h => by simp only [closedB] at c; simp only [Rep] at h ⊢; obtain ⟨a, kvs, e1, h, e2, rr⟩ := h; exact ⟨a, kvs, e1, s _ _ h, e2, closed_reps s e ts c rr⟩
  | .dt _ ts, _, c, h => by simp only [closedB] at c; simp only [Rep] at h ⊢; obtain ⟨a, kvs, e1, h, e2, rr⟩ := h; exact ⟨a, kvs, e1, s _ _ h, e2, closed_reps s e ts c rr⟩
  | .non, _, _, h => by simpa only [Rep] using h
  | .bl _, _, _, h => by simpa only [Rep] using h
  | .int _, _, _, h => by simpa only [Rep] using h
  | .str _, _, _, h => by simpa only [Rep] using h
  | .ty _, _, _, h => by simpa only [Rep] using h
  | .ad _, _, _, h => by simpa only [Rep] using h
  | .scr _, _, _, h => by simp only [Rep] at h ⊢; obtain ⟨a, e, h⟩ := h; exact ⟨a, e, s.seq h⟩
theorem closed_reps (s : Same G G2) (e : p = p0 ++ r) : ∀ (ts : List PV) {vs : List V}, closedBs p0.length ts = true → Reps K G p ts vs → Reps K G2 p0 ts vs
  | [], _, _, h => by simpa only [Reps] using h
  | t :: ts, _, c, h => by
    simp only [closedBs, Bool.and_eq_true] at c
    simp only [Reps] at h ⊢
    obtain ⟨v, ws, e1, r1, rs⟩ := h
    exact ⟨v, ws, e1, closed_rep s e t c.1 r1, closed_reps s e ts c.2 rs⟩
end
theorem closed_repO {H' : Hp} (s : Same G G2) (e : p = p0 ++ r) {t : PV} {a : Addr} (c : closedB p0.length t = true) (h : RepO K H G p t a) : RepO K H G2 p0 t a := by
  cases t <;> simp only [RepO] at h ⊢ <;> simp only [closedB] at c
  case lst => obtain ⟨vs, h, rr⟩ := h; exact ⟨vs, h, closed_reps s e _ c rr⟩
  case obj => obtain ⟨dx, gs, h, e2, rr⟩ := h; exact ⟨dx, gs, h, e2, closed_reps s e _ c rr⟩
  case dk => obtain ⟨kvs, h, e2, rr⟩ := h; exact ⟨kvs, h, e2, closed_reps s e _ c rr⟩
  case dt => obtain ⟨kvs, h, e2, rr⟩ := h; exact ⟨kvs, h, e2, closed_reps s e _ c rr⟩
mutual
theorem rep_closed : ∀ (t : PV) {v : V}, Rep K G p t v → closedB p.length t = true
  | .loc k, _, h => by simp only [Rep] at h; obtain ⟨a, _, h⟩ := h; simp only [closedB, decide_eq_true_eq]; exact (List.getElem?_eq_some_iff.mp h).1
  | .tup ts, _, h => by simp only [Rep] at h; obtain ⟨a, vs, e1, h, rr⟩ := h; simp only [closedB]; exact reps_closed ts rr
  | .lst ts, _, h => by simp only [Rep] at h; obtain ⟨a, vs, e1, h, rr⟩ := h; simp only [closedB]; exact reps_closed ts rr
  | .obj _ _ ts, _, h => by simp only [Rep] at h; obtain ⟨a, dx, gs, e1, h, e2, rr⟩ := h; simp only [closedB]; exact reps_closed ts rr
  | .dk _ ts, _, h => by simp only [Rep] at h; obtain ⟨a, kvs, e1, h, e2, rr⟩ := h; simp only [closedB]; exact reps_closed ts rr
  | .dt _ ts, _, h => by simp only [Rep] at h; obtain ⟨a, kvs, e1, h, e2, rr⟩ := h; simp only [closedB]; exact reps_closed ts rr
  | .non, _, _ => by simp only [closedB]
  | .bl _, _, _ => by simp only [closedB]
  | .int _, _, _ => by simp only [closedB]
  | .str _, _, _ => by simp only [closedB]
  | .ty _, _, _ => by simp only [closedB]
  | .ad _, _, _ => by simp only [closedB]
  | .scr _, _, _ => by simp only [closedB]
theorem reps_closed : ∀ (ts : List PV) {vs : List V}, Reps K G p ts vs → closedBs p.length ts = true
  | [], _, _ => by simp only [closedBs]
  | t :: ts, _, h => by
    simp only [Reps] at h
    obtain ⟨v, ws, e1, r1, rs⟩ := h
    simp only [closedBs, rep_closed t r1, reps_closed ts rs, Bool.and_self]
end
theorem repO_closed {t : PV} {a : Addr} (h : RepO K H G p t a) : closedB p.length t = true := by
  cases t <;> simp only [RepO] at h <;> simp only [closedB]
  case lst => obtain ⟨vs, h, rr⟩ := h; exact reps_closed _ rr
  case obj => obtain ⟨dx, gs, h, e2, rr⟩ := h; exact reps_closed _ rr
  case dk => obtain ⟨kvs, h, e2, rr⟩ := h; exact reps_closed _ rr
  case dt => obtain ⟨kvs, h, e2, rr⟩ := h; exact reps_closed _ rr
mutual
theorem sub_rep (s : Same G G2) {q : Pm} {f : Nat → Option PV} (hf : ∀ (n : Nat) (t' : PV) (a : Addr), f n = some t' → p[n]? = some (some a) → Rep K G2 q t' (.ref a)) : ∀ (t : PV) {v : V} {t' : PV}, Rep K G p t v → sub f t = some t' → Rep K G2 q t' v
  | .loc k, _, t', h, e => by simp only [Rep] at h; obtain ⟨a, rfl, h⟩ := h; simp only [sub] at e; exact hf k t' a e h
  | .tup ts, _, _, h, e => by
    simp only [sub] at e
    cases q : subs f ts with
    | none => rw [q] at e; cases e
    | some us => rw [q] at e; cases e; simp only [Rep] at h ⊢; obtain ⟨a, vs, e1, h, rr⟩ := h; exact ⟨a, vs, e1, s _ _ h, subs_rep s hf ts rr q⟩
  | .lst ts, _, _, h, e => by
    simp only [sub] at e
    cases q : subs f ts with
    | none => rw [q] at e; cases e
    | some us => rw [q] at e; cases e; simp only [Rep] at h ⊢; obtain ⟨a, vs, e1, h, rr⟩ := h; exact ⟨a, vs, e1, s _ _ h, subs_rep s hf ts rr q⟩
  | .obj _ _ ts, _, _, h, e => by
    simp only [sub] at e
    cases q : subs f ts with
    | none => rw [q] at e; cases e
    | some us => rw [q] at e; cases e; simp only [Rep] at h ⊢; obtain ⟨a, dx, gs, e1, h, e2, rr⟩ := h; exact ⟨a, dx, gs, e1, s _ _ h, e2, subs_rep s hf ts rr q⟩
  | .dk _ ts, _, _, h, e => by
    simp only [sub] at e
    cases q : subs f ts with
    | none => rw [q] at e; cases e
    | some us => rw [q] at e; cases e; simp only [Rep] at h ⊢; obtain ⟨a, kvs, e1, h, e2, rr⟩ := h; exact ⟨a, kvs, e1, s _ _ h, e2, subs_rep s hf ts rr q⟩
  | .dt _ ts, _, _, h, e => by
    simp only [sub] at e
    cases q : subs f ts with
    | none => rw [q] at e; cases e
    | some us => rw [q] at e; cases e; simp only [Rep] at h ⊢; obtain ⟨a, kvs, e1, h, e2, rr⟩ := h; exact ⟨a, kvs, e1, s _ _ h, e2, subs_rep s hf ts rr q⟩
  | .non, _, _, h, e => by simp only [sub] at e; cases e; simpa only [Rep] using h
  | .bl _, _, _, h, e => by simp only [sub] at e; cases e; simpa only [Rep] using h
  | .int _, _, _, h, e => by simp only [sub] at e; cases e; simpa only [Rep] using h
  | .str _, _, _, h, e => by simp only [sub] at e; cases e; simpa only [Rep] using h
  | .ty _, _, _, h, e => by simp only [sub] at e; cases e; simpa only [Rep] using h
  | .ad _, _, _, h, e => by simp only [sub] at e; cases e; simpa only [Rep] using h
  | .scr _, _, _, h, e => by simp only [sub] at e; cases e; simp only [Rep] at h ⊢; obtain ⟨a, e, h⟩ := h; exact ⟨a, e, s.seq h⟩
theorem subs_rep (s : Same G G2) {q : Pm} {f : Nat → Option PV} (hf : ∀ (n : Nat) (t' : PV) (a : Addr), f n = some t' → p[n]? = some (some a) → Rep K G2 q t' (.ref a)) : ∀ (ts : List PV) {vs : List V} {ts' : List PV}, Reps K G p ts vs → subs f ts = some ts' → Reps K G2 q ts' vs
  | [], _, _, h, e => by simp only [subs] at e; cases e; simpa only [Reps] using h
  | t :: ts, _, _, h, e => by
    simp only [subs] at e
    cases q1 : sub f t with
    | none => rw [q1] at e; cases e
    | some u =>
      cases q2 : subs f ts with
      | none => rw [q1, q2] at e; cases e
      | some us =>
        rw [q1, q2] at e; cases e
        simp only [Reps] at h ⊢
        obtain ⟨v, ws, e1, r1, rs⟩ := h
        exact ⟨v, ws, e1, sub_rep s hf t r1 q1, subs_rep s hf ts rs q2⟩
end
/-- the object at the address a, as a still one -/
theorem subO_rep (s : Same G G2) {q : Pm} {f : Nat → Option PV} (hf : ∀ (n : Nat) (t' : PV) (a : Addr), f n = some t' → p[n]? = some (some a) → Rep K G2 q t' (.ref a)) {o t' : PV} {a : Addr} (h : RepO K H G p o a) (ha : ∀ u, H a = some u → G2 a = some u) (e : subO f (some o) = some t') : Rep K G2 q t' (.ref a) := by
  cases o <;> simp only [RepO] at h <;> simp only [subO, sub] at e
  case lst ts =>
    cases q : subs f ts with
    | none => rw [q] at e; cases e
    | some us => rw [q] at e; cases e; simp only [Rep]; obtain ⟨vs, h, rr⟩ := h; exact ⟨a, vs, rfl, ha _ h, subs_rep s hf ts rr q⟩
  case obj C ns ts =>
    cases q : subs f ts with
    | none => rw [q] at e; cases e
    | some us => rw [q] at e; cases e; simp only [Rep]; obtain ⟨dx, gs, h, e2, rr⟩ := h; exact ⟨a, dx, gs, rfl, ha _ h, e2, subs_rep s hf ts rr q⟩
  case dk ks ts =>
    cases q : subs f ts with
    | none => rw [q] at e; cases e
    | some us => rw [q] at e; cases e; simp only [Rep]; obtain ⟨kvs, h, e2, rr⟩ := h; exact ⟨a, kvs, rfl, ha _ h, e2, subs_rep s hf ts rr q⟩
  case dt ks ts =>
    cases q : subs f ts with
    | none => rw [q] at e; cases e
    | some us => rw [q] at e; cases e; simp only [Rep]; obtain ⟨kvs, h, e2, rr⟩ := h; exact ⟨a, kvs, rfl, ha _ h, e2, subs_rep s hf ts rr q⟩
/-- p is p0 and more: the later objects are still -/
theorem shrink_same (e : p = p0 ++ r) : Same (Gr Ex p H) (Gr Ex p0 H) := fun b u h => by
  obtain ⟨h1, z⟩ := Gz.some h
  refine Gz.of h1 ?_
  rw [e, fp_app, List.mem_append, List.mem_append, not_or, not_or] at z
  rw [List.mem_append, not_or]
  exact ⟨z.1, z.2.1⟩
theorem frzN_rep (R : Rl K Ex p m H) (e : p = p0 ++ r) : ∀ (k n : Nat) (t' : PV) (a : Addr), frzN m p0.length k n = some t' → p[n]? = some (some a) → Rep K (Gr Ex p0 H) p0 t' (.ref a)
  | 0, _, _, _, h, _ => by simp only [frzN] at h; cases h
  | k + 1, n, t', a, h, hp => by
    simp only [frzN] at h
    split at h
    · next hn =>
      cases h
      simp only [Rep]
      rw [e, List.getElem?_append_left hn] at hp
      exact ⟨a, rfl, hp⟩
    · next hn =>
      obtain ⟨o, e1, r1⟩ := R.obj n a hp
      rw [e1] at h
      refine subO_rep (shrink_same e) (frzN_rep R e k) r1 (fun u hu => ?_) h
      refine Gz.of hu ?_
      rw [List.mem_append, not_or]
      refine ⟨R.ex a (mem_fp.mpr ⟨n, hp⟩), fun z => ?_⟩
      obtain ⟨j, hj⟩ := mem_fp.mp z
      have hjl : j < p0.length := (List.getElem?_eq_some_iff.mp hj).1
      have : p[j]? = some (some a) := by rw [e, List.getElem?_append_left hjl]; exact hj
      have := R.inj j n a this hp
      omega
end
open Classical in
/-- the def's end: objects made in it are still from now on -/
noncomputable def fin (mh : List PV) (t : PV) (m : List PV) : Rs PV :=
  if m.length = mh.length then .ok t m
  else if ∀ i : Nat, i < mh.length → m[i]? = mh[i]? ∨ ∀ o, m[i]? = some o → closedB mh.length o = true then
    (match frz m mh.length t with
      | some t' => .ok t' (m.take mh.length)
      | none => .no)
  else .no
theorem fin_ok {K : PySem.W.Frag} {Ex : List Addr} {p q : Pm} {mh m : List PV} {H H' : Hp} {t : PV} {v : V} {Q : VK} (R : Rl K Ex p mh H) (N : Nx K Ex p H q m H') (r : Rep K (Gr Ex q H') q t v)
    (h : (fin mh t m).wants fun t mh' => ∀ q H' u, Nx K Ex p H q mh' H' → Rep K (Gr Ex q H') q t u → Q u H') : Q v H' := by
  unfold fin at h
  split at h
  · exact h q H' v N r
  · split at h
    · next hc =>
      split at h
      · next t' et =>
        obtain ⟨rr, e⟩ := N.pre
        have hl : mh.length = p.length := R.len.symm
        rw [hl] at et hc h
        have sh := shrink_same (Ex := Ex) (H := H') e
        refine h p H' v ⟨pre_refl p, ⟨?_, R.inj, R.ex, fun a ha => N.rl.exd a ha, fun n a hn => ?_⟩, N.keep, fun a h => .inl h⟩ ?_
        · rw [List.length_take, ← N.rl.len, e, List.length_append]; omega
        · have hnl : n < p.length := (List.getElem?_eq_some_iff.mp hn).1
          obtain ⟨o, e1, r1⟩ := N.rl.obj n a (N.le n a hn)
          refine ⟨o, by rw [List.getElem?_take_of_lt hnl]; exact e1, ?_⟩
          refine closed_repO (H' := H') sh e ?_ r1
          rcases hc n hnl with z | z
          · rw [e1] at z
            obtain ⟨o2, e2, r2⟩ := R.obj n a hn
            rw [e2] at z; cases z
            exact repO_closed r2
          · exact z o e1
        · exact sub_rep sh (frzN_rep N.rl e 8) t r et
      · exact h.elim
    · exact h.elim
/-- behind a def's body -/
noncomputable def exitF (mh : List PV) (r : Rs (Out × LS)) : Rs PV := r.bind fun o m => match o.1 with
  | .ret t => fin mh t m
  | .nx => fin mh .non m
  | _ => .no
/-- the objects made in it stay -/
def exitK (r : Rs (Out × LS)) : Rs PV := r.bind fun o m => match o.1 with
  | .ret t => .ok t m
  | .nx => .ok .non m
  | _ => .no
def startL (n : Nat) (ts : List PV) : LS := ts.map some ++ List.replicate (n - ts.length) none
noncomputable def runF (n : Nat) (g : LS → M (Out × LS)) (ts : List PV) : M PV := fun mh => exitF mh (g (startL n ts) mh)
def runK (n : Nat) (g : LS → M (Out × LS)) (ts : List PV) : M PV := fun mh => exitK (g (startL n ts) mh)
def spOf (K : PySem.W.Frag) (n : Nat) (F : List PV → M PV) : Sp := fun vs H Q _ => vs.length = n ∧ rOfC K F vs H Q
theorem start_st {K : PySem.W.Frag} {G : Hp} {p : Pm} {ts : List PV} {vs : List V} (r : Reps K G p ts vs) (N : List Str) : RSt K G p (L2.start N vs) (startL N.length ts) := by
  unfold L2.start startL
  refine ⟨by simp [r.len], fun i t e => ?_⟩
  by_cases hi : i < ts.length
  · rw [List.getElem?_append_left (by simpa using hi), List.getElem?_map] at e
    cases q : ts[i]? with
    | none => rw [q] at e; cases e
    | some u =>
      rw [q] at e; cases e
      obtain ⟨v, e1, r1⟩ := r.get q
      exact ⟨v, by rw [List.getElem?_append_left (by simpa [r.len] using hi), List.getElem?_map, e1]; rfl, r1⟩
  · rw [List.getElem?_append_right (by simpa using hi), List.getElem?_replicate] at e
    split at e <;> cases e
section
variable {P : Program} {w : World} {K : PySem.W.Frag} {mg : Str → Option Value} {base : Heap} {x qual : Str} {params : Arguments} {body : List Stmt} {scope : Scope} {dvs : List V} {kws : List (Str × V)} {f : Addr} {fd : FuncData}
/-- a def keeps the promise of its function -/
theorem fn_okF {N ps : List Str} {k n : Nat} {g : LS → M (Out × LS)} (F : FunD K x qual params body scope dvs kws f fd) (S : FnScope N ps scope) (hn : N.length = n)
    (hb : ∀ (cdv : Value) (A : Around) (outer : List Env) (s : Shared) (H : Hp) (E : XK), Room k (A.deeper (envOfC qual scope s.heap.objs.size f cdv)) → DSs (cxOf CX0 P w K mg base N qual scope f cdv A outer s H E).nox body g) :
    FnOk P w K mg base CX0 (k + 1) f fd ps (spOf K ps.length (runF n g)) := by
  subst hn
  refine F.ok S (fun vs H Q E h => h.1) fun cdv A outer s H vs Q E hr h => ⟨_, PSs.nox (hb cdv A outer s H E hr), ?_⟩
  obtain ⟨hl, Ex, p, mh, ts, R, r, h⟩ := h
  refine ⟨Ex, p, mh, startL N.length ts, R, start_st r N, Rs.wants_mono (Rs.wants_bind.mp h) fun o m h1 q H' σ' N1 S1 => ?_⟩
  obtain ⟨oo, τ1⟩ := o
  cases oo with
  | nx => exact fin_ok (v := .non) R N1 (by simp only [Rep]) h1
  | ret t => exact fun v r1 => fin_ok R N1 r1 h1
  | bk => exact h1.elim
  | ct => exact h1.elim
theorem fn_okK {N ps : List Str} {k n : Nat} {g : LS → M (Out × LS)} (F : FunD K x qual params body scope dvs kws f fd) (S : FnScope N ps scope) (hn : N.length = n)
    (hb : ∀ (cdv : Value) (A : Around) (outer : List Env) (s : Shared) (H : Hp) (E : XK), Room k (A.deeper (envOfC qual scope s.heap.objs.size f cdv)) → DSs (cxOf CX0 P w K mg base N qual scope f cdv A outer s H E).nox body g) :
    FnOk P w K mg base CX0 (k + 1) f fd ps (spOf K ps.length (runK n g)) := by
  subst hn
  refine F.ok S (fun vs H Q E h => h.1) fun cdv A outer s H vs Q E hr h => ⟨_, PSs.nox (hb cdv A outer s H E hr), ?_⟩
  obtain ⟨hl, Ex, p, mh, ts, R, r, h⟩ := h
  refine ⟨Ex, p, mh, startL N.length ts, R, start_st r N, Rs.wants_mono (Rs.wants_bind.mp h) fun o m h1 q H' σ' N1 S1 => ?_⟩
  obtain ⟨oo, τ1⟩ := o
  cases oo with
  | nx => exact h1 q H' _ N1 (by simp only [Rep])
  | ret t => exact fun v r1 => h1 q H' v N1 r1
  | bk => exact h1.elim
  | ct => exact h1.elim
end

/-! ### calls -/
section
variable {X : Cx} {k : Nat} {f C : Addr} {fd : FuncData} {ps : List Str} {F : List PV → M PV} {x m : Str} {p pos apos : Pos} {e o : Expr} {es : List Expr} {fs : LS → M (List PV)} {g h : LS → M PV}
theorem rOfC_len {K : PySem.W.Frag} {σ : L2.St} {H : Hp} {Q : VK} {n : Nat} (h : tOf K (mCall (fun xs mh => if xs.length = n then F xs mh else .no) fs) σ H Q) : tOfA K fs σ H fun vs H1 => vs.length = n ∧ rOfC K F vs H1 Q := by
  obtain ⟨Ex, p, mh, τ, R, S, h⟩ := h
  refine ⟨Ex, p, mh, τ, R, S, Rs.wants_mono (Rs.wants_bind.mp h) fun xs m1 h1 q1 H1 vs N1 r1 => ?_⟩
  dsimp only at h1
  split at h1
  · next hl => exact ⟨by rw [r1.len]; exact hl, Ex, q1, m1, xs, N1.rl, r1, Rs.wants_mono h1 fun t m2 h2 q2 H2 w N2 r2 => h2 q2 H2 w (N1.trans N2) r2⟩
  · exact h1.elim
/-- a call: n arguments -/
def mApp (n : Nat) (F : List PV → M PV) (fs : LS → M (List PV)) : LS → M PV := mCall (fun xs mh => if xs.length = n then F xs mh else .no) fs
theorem de_call {n : Nat} (G : FnOk X.prog X.w X.K X.mg X.base CX0 k f fd ps (spOf X.K n F)) (hr : Room k X.A) (hg : Gl X x) (hm : X.mg x = some (.ref f)) (hk : PySem.W.keepIn X.K (.ref f) = true) (hb : Binds X.K fd ps [])
    (ha : DA X (e :: es) fs) (hdb : (x == ("__debug__" : Str)) = false := by decide) (he : starEach (e :: es) X.env = (false, eval e X.env) :: starEach es X.env := by rfl) (hpl : (backTo pos (starEach es X.env)).any (·.1) = false := by rfl) :
    DE X (.Call (.Name x p) (e :: es) [] pos) (mApp n F fs) := by
  refine PE.to (pe_call G hr hg hm hk hb .nil (E := E0) pass0 ha hdb he hpl) fun σ H Q h => ?_
  obtain ⟨Ex, p, mh, τ, R, S, h⟩ := rOfC_len h
  refine ⟨Ex, p, mh, τ, R, S, Rs.wants_mono h fun xs m1 h1 q1 H1 vs N1 r1 => ?_⟩
  show spOf X.K n F (vs ++ []) H1 Q E0
  rw [List.append_nil]
  exact h1 q1 H1 vs N1 r1

/-! ### instances -/
def putT (f : Str) (t : PV) : List Str → List PV → List PV
  | n :: ns, x :: xs => if n = f then t :: xs else x :: putT f t ns xs
  | _, _ => [t]
def putN (f : Str) : List Str → List Str
  | n :: ns => if n = f then n :: ns else n :: putN f ns
  | [] => [f]
theorem put_names (f : Str) (v : V) : ∀ gs : List (Str × V), (putF f v gs).map (·.1) = putN f (gs.map (·.1))
  | [] => rfl
  | (n, x) :: gs => by
    show (if n = f then (n, v) :: gs else (n, x) :: putF f v gs).map _ = if n = f then n :: gs.map _ else n :: putN f (gs.map _)
    split
    · rfl
    · show n :: (putF f v gs).map _ = _
      rw [put_names f v gs]
theorem put_reps {K : PySem.W.Frag} {G : Hp} {p : Pm} {f : Str} {t : PV} {v : V} (r : Rep K G p t v) : ∀ {gs : List (Str × V)} {ts : List PV}, Reps K G p ts (gs.map (·.2)) → Reps K G p (putT f t (gs.map (·.1)) ts) ((putF f v gs).map (·.2))
  | [], ts, h => by
    cases ts with
    | nil => exact Reps.cons r Reps.nil
    | cons t ts => simp only [Reps] at h; obtain ⟨_, _, h, _⟩ := h; cases h
  | (n, x) :: gs, ts, h => by
    cases ts with
    | nil => simp only [Reps] at h; cases h
    | cons t0 ts =>
      simp only [Reps] at h; obtain ⟨v0, ws, e, r0, rs⟩ := h
      cases e
      show Reps K G p (if n = f then t :: ts else t0 :: putT f t (gs.map _) ts) ((if n = f then (n, v) :: gs else (n, x) :: putF f v gs).map _)
      split
      · exact Reps.cons r rs
      · exact Reps.cons r0 (put_reps r rs)
def fieldOf (f : Str) : List Str → List PV → Option PV
  | n :: ns, x :: xs => if f = n then some x else fieldOf f ns xs
  | _, _ => none
theorem field_ok {K : PySem.W.Frag} {G : Hp} {p : Pm} {f : Str} {t : PV} : ∀ {gs : List (Str × V)} {ts : List PV}, Reps K G p ts (gs.map (·.2)) → fieldOf f (gs.map (·.1)) ts = some t → ∃ v, gs.lookup f = some v ∧ Rep K G p t v
  | [], ts, h, e => by cases ts <;> cases e
  | (n, x) :: gs, ts, h, e => by
    cases ts with
    | nil => cases e
    | cons t0 ts =>
      simp only [Reps] at h; obtain ⟨v0, ws, e1, r0, rs⟩ := h
      cases e1
      have e : (if f = n then some t0 else fieldOf f (gs.map (·.1)) ts) = some t := e
      split at e
      · next hn =>
        cases e
        subst hn
        exact ⟨x, by simp [List.lookup], r0⟩
      · next hn =>
        obtain ⟨v, e2, r2⟩ := field_ok rs e
        have hb : (f == n) = false := beq_eq_false_iff_ne.mpr hn
        exact ⟨v, by simp only [List.lookup, hb]; exact e2, r2⟩
theorem field_none {f : Str} : ∀ {gs : List (Str × V)} {ns : List Str}, gs.map (·.1) = ns → f ∉ ns → gs.lookup f = none
  | [], _, _, _ => rfl
  | (n, x) :: gs, _, e, h => by
    subst e
    simp only [List.map_cons, List.mem_cons, not_or] at h
    have hb : (f == n) = false := beq_eq_false_iff_ne.mpr h.1
    simp only [List.lookup, hb]
    exact field_none rfl h.2
/-- an instance, still or not: its class, names, values -/
def objV (mh : List PV) : PV → Option (Addr × List Str × List PV)
  | .obj C ns ts => some (C, ns, ts)
  | .loc n => match mh[n]? with
    | some (.obj C ns ts) => some (C, ns, ts)
    | _ => none
  | _ => none
theorem objV_ok {K : PySem.W.Frag} {Ex : List Addr} {p : Pm} {mh : List PV} {H : Hp} {x : PV} {v : V} {C : Addr} {ns : List Str} {ts : List PV} (R : Rl K Ex p mh H) (r : Rep K (Gr Ex p H) p x v) (e : objV mh x = some (C, ns, ts)) :
    ∃ a dx gs, v = .ref a ∧ H a = some (.ins C dx gs) ∧ gs.map (·.1) = ns ∧ Reps K (Gr Ex p H) p ts (gs.map (·.2)) := by
  unfold objV at e
  split at e
  · cases e
    simp only [Rep] at r; obtain ⟨a, dx, gs, rfl, h, e2, r⟩ := r
    exact ⟨a, dx, gs, rfl, (Gz.some h).1, e2, r⟩
  · split at e
    · next e1 =>
      cases e
      simp only [Rep] at r; obtain ⟨a, rfl, h⟩ := r
      obtain ⟨o, e2, r1⟩ := R.obj _ a h
      rw [e1] at e2; cases e2
      simp only [RepO] at r1; obtain ⟨dx, gs, h1, e2, r1⟩ := r1
      exact ⟨a, dx, gs, rfl, h1, e2, r1⟩
    · cases e
  · cases e
/-- o.f -/
def mFld (C : Addr) (f : Str) (g : LS → M PV) : LS → M PV := fun τ mh => (g τ mh).bind fun x m => match objV m x with
  | some (C', ns, ts) => if C' = C then (match fieldOf f ns ts with
    | some t => .ok t m
    | none => .no) else .no
  | none => .no
theorem de_fld (c : Cls X.K C) (n : NoAttr X.K C m) (he : DE X o g) (hb : attributeBase o m X.env (eval o X.env) = eval o X.env := by rfl) : DE X (.Attribute o m pos) (mFld C m g) := by
  refine PE.to (pe_fld he hb) fun σ H Q h => ?_
  obtain ⟨Ex, p, mh, τ, R, S, h⟩ := h
  refine ⟨Ex, p, mh, τ, R, S, Rs.wants_mono (Rs.wants_bind.mp h) fun x m1 h1 q1 H1 v N1 r1 => ?_⟩
  split at h1
  · next C' ns ts e0 =>
    split at h1
    · next hC =>
      subst hC
      split at h1
      · next t et =>
        obtain ⟨a, dx, gs, rfl, ha, e2, r2⟩ := objV_ok N1.rl r1 e0
        subst e2
        obtain ⟨w, ew, rw⟩ := field_ok r2 et
        exact ⟨a, _, dx, gs, w, rfl, ha, c, n, ew, h1 q1 H1 w N1 rw⟩
      · exact h1.elim
    · exact h1.elim
  · exact h1.elim
/-- o.f = e, o a mutable instance -/
def mSetFld (C : Addr) (f : Str) (g e : LS → M PV) : LS → M (Out × LS) := fun τ mh => (e τ mh).bind fun z m1 => (g τ m1).bind fun x m2 => match x with
  | .loc n => (match m2[n]? with
    | some (.obj C' ns ts) => if C' = C ∧ ns.length < 1000 then .ok (.nx, τ) (m2.set n (.obj C (putN f ns) (putT f z ns ts))) else .no
    | _ => .no)
  | _ => .no
theorem ds_fld {ev : Expr} {pos' : Pos} (c : Cls X.K C) (n : NoAttr X.K C m) (ha : DE X o g) (hv : DE X ev h) (hs : swapsWith ev (some (.Attribute o m pos')) pos.line X.env = pure false := by rfl) : DS X (.Assign [.Attribute o m pos'] ev pos) (mSetFld C m g h) := by
  refine PS.to (ps_fld ha hv hs) fun D σ H h => ?_
  obtain ⟨Ex, p, mh, τ, R, S, h⟩ := h
  refine ⟨Ex, p, mh, τ, R, S, Rs.wants_mono (Rs.wants_bind.mp h) fun z m1 h1 q1 H1 w N1 rz => ?_⟩
  refine ⟨Ex, q1, m1, τ, N1.rl, S.mono N1.same N1.le, Rs.wants_mono (Rs.wants_bind.mp h1) fun x m2 h2 q2 H2 v N2 rx => ?_⟩
  have N12 := N1.trans N2
  split at h2
  · next k =>
    split at h2
    · next C' ns ts e0 =>
      split at h2
      · next hC =>
        obtain ⟨hC, hl⟩ := hC
        subst hC
        simp only [Rep] at rx; obtain ⟨a, rfl, hp⟩ := rx
        obtain ⟨oo, e2, r1⟩ := N2.rl.obj _ a hp
        rw [e0] at e2; cases e2
        simp only [RepO] at r1; obtain ⟨dx, gs, h1', e2, r1⟩ := r1
        subst e2
        have N3 := Nx.write (t := .obj C' (putN m (gs.map (·.1))) (putT m z (gs.map (·.1)) ts)) (o := .ins C' dx (putF m w gs)) N2.rl hp (by
          simp only [RepO]
          exact ⟨dx, _, upd_same, put_names m w gs, put_reps (N2.rep rz) r1⟩)
        refine ⟨a, C', dx, gs, rfl, h1', c, n, by simpa using hl, ?_⟩
        exact h2 q2 _ σ (N12.trans N3) ((S.mono N12.same N12.le).mono N3.same N3.le)
      · exact h2.elim
    · exact h2.elim
  · exact h2.elim
/-- o.m(..) -/
def mMth (C : Addr) (mn : Str) (n : Nat) (F : List PV → M PV) (g : LS → M PV) (fs : LS → M (List PV)) : LS → M PV := fun τ mh => (g τ mh).bind fun x m1 => match objV m1 x with
  | some (C', ns, _) => if C' = C ∧ mn ∉ ns then (fs τ m1).bind fun xs m2 => if xs.length + 1 = n then F (x :: xs) m2 else .no else .no
  | none => .no
theorem de_meth {n : Nat} {pl : Sem Bool} (c : Cls X.K C) (hm : Meth X.K C m f) (G : FnOk X.prog X.w X.K X.mg X.base CX0 k f fd ps (spOf X.K n F)) (hr : Room k X.A) (hb : Binds X.K fd ps []) (he : DE X o g) (ha : DA X (e :: es) fs)
    (hst : starEach (e :: es) X.env = (false, eval e X.env) :: starEach es X.env := by rfl) (hpl : (backTo pos (starEach es X.env)).any (·.1) = false := by rfl)
    (ht : eval (.Call (.Attribute o m apos) (e :: es) [] pos) X.env = (do
      let ov ← eval o X.env
      standAt apos.atName
      let (f, first) ← holding [ov] (getMethod ov m pl)
      callWith pos f first (backTo pos (starEach (e :: es) X.env)) (backToKw pos (keywordEach [] X.env))) := by rfl) :
    DE X (.Call (.Attribute o m apos) (e :: es) [] pos) (mMth C m n F g fs) := by
  refine PE.to (pe_meth (pl := pl) he c hm G hr hb .nil (E := E0) pass0 ha hst hpl ht) fun σ H Q h => ?_
  obtain ⟨Ex, p, mh, τ, R, S, h⟩ := h
  refine ⟨Ex, p, mh, τ, R, S, Rs.wants_mono (Rs.wants_bind.mp h) fun x m1 h1 q1 H1 v N1 r1 => ?_⟩
  split at h1
  · next C' ns ts e0 =>
    split at h1
    · next hC =>
      obtain ⟨hC, hn⟩ := hC
      subst hC
      obtain ⟨a, dx, gs, rfl, ha, e2, r2⟩ := objV_ok N1.rl r1 e0
      refine ⟨a, dx, gs, rfl, ha, field_none e2 hn, Ex, q1, m1, τ, N1.rl, S.mono N1.same N1.le, Rs.wants_mono (Rs.wants_bind.mp h1) fun xs m2 h2 q2 H2 vs N2 r3 => ?_⟩
      split at h2
      · next hl =>
        rw [List.append_nil]
        exact ⟨by rw [List.length_cons, r3.len]; exact hl, Ex, q2, m2, x :: xs, N2.rl, Reps.cons (N2.rep r1) r3, Rs.wants_mono h2 fun t m3 h3 q3 H3 u N3 r4 => h3 q3 H3 u ((N1.trans N2).trans N3) r4⟩
      · exact h2.elim
    · exact h1.elim
  · exact h1.elim
/-- C(..): a new instance and its __init__; still from then on -/
noncomputable def mNew (C : Addr) (n : Nat) (F : List PV → M PV) (fs : LS → M (List PV)) : LS → M PV := fun τ mh => (fs τ mh).bind fun xs m1 => if xs.length + 1 = n then (F (.loc m1.length :: xs) (m1 ++ [.obj C [] []])).bind fun r m2 => match r with
  | .non => fin m1 (.loc m1.length) m2
  | _ => .no else .no
/-- the same, to be changed -/
def mNewK (C : Addr) (n : Nat) (F : List PV → M PV) (fs : LS → M (List PV)) : LS → M PV := fun τ mh => (fs τ mh).bind fun xs m1 => if xs.length + 1 = n then (F (.loc m1.length :: xs) (m1 ++ [.obj C [] []])).bind fun r m2 => match r with
  | .non => .ok (.loc m1.length) m2
  | _ => .no else .no
theorem new_obj {K : PySem.W.Frag} {Ex : List Addr} {p : Pm} {mh : List PV} {H : Hp} {x dx : Addr} (R : Rl K Ex p mh H) (nx : H x = none) (nd : H dx = none) (ne : dx ≠ x) :
    Nx K Ex p H (p ++ [some x]) (mh ++ [.obj C [] []]) (upd (upd H dx (.own x)) x (.ins C dx [])) := by
  have N1 := Nx.laid (o := .own x) R nd
  have n2 : (upd H dx (.own x)) x = none := by rw [upd_ne (Ne.symm ne)]; exact nx
  exact N1.trans (Nx.alloc (t := .obj C [] []) (o := .ins C dx []) N1.rl n2 fun G s => by
    simp only [RepO]; exact ⟨dx, [], upd_same, rfl, Reps.nil⟩)
theorem de_new {n : Nat} (M : Mk X.K C f) (G : FnOk X.prog X.w X.K X.mg X.base CX0 k f fd ps (spOf X.K n F)) (hr : Room (k + 1) X.A) (hg : Gl X x) (hm : X.mg x = some (.ref C)) (hb : Binds X.K fd ps [])
    (ha : DA X (e :: es) fs) (hdb : (x == ("__debug__" : Str)) = false := by decide) (he : starEach (e :: es) X.env = (false, eval e X.env) :: starEach es X.env := by rfl) (hpl : (backTo pos (starEach es X.env)).any (·.1) = false := by rfl) :
    DE X (.Call (.Name x p) (e :: es) [] pos) (mNew C n F fs) := by
  refine PE.to (pe_make M G hr hg hm hb .nil (E := E0) pass0 ha hdb he hpl) fun σ H Q h => ?_
  obtain ⟨Ex, p, mh, τ, R, S, h⟩ := h
  refine ⟨Ex, p, mh, τ, R, S, Rs.wants_mono (Rs.wants_bind.mp h) fun xs m1 h1 q1 H1 vs N1 r1 z dz nz ndz nez => ?_⟩
  split at h1
  · next hl =>
    have N2 := new_obj (C := C) N1.rl nz ndz nez
    rw [List.append_nil]
    refine ⟨by rw [List.length_cons, r1.len]; exact hl, Ex, q1 ++ [some z], m1 ++ [.obj C [] []], .loc m1.length :: xs, N2.rl, Reps.cons ?_ (N2.reps r1), Rs.wants_mono (Rs.wants_bind.mp h1) fun t m2 h2 q2 H2 u N3 r3 => ?_⟩
    · simp only [Rep]; exact ⟨z, rfl, by rw [← N1.rl.len, List.getElem?_append_right (Nat.le_refl _)]; simp⟩
    · split at h2
      · simp only [Rep] at r3
        refine ⟨r3, fin_ok (Q := Q) N1.rl (N2.trans N3) ?_ (Rs.wants_mono h2 fun t m4 h4 q4 H4 w N4 r4 => h4 q4 H4 w (N1.trans N4) r4)⟩
        simp only [Rep]
        exact ⟨z, rfl, N3.le _ _ (by rw [← N1.rl.len, List.getElem?_append_right (Nat.le_refl _)]; simp)⟩
      · exact h2.elim
  · exact h1.elim
theorem de_newK {n : Nat} (M : Mk X.K C f) (G : FnOk X.prog X.w X.K X.mg X.base CX0 k f fd ps (spOf X.K n F)) (hr : Room (k + 1) X.A) (hg : Gl X x) (hm : X.mg x = some (.ref C)) (hb : Binds X.K fd ps [])
    (ha : DA X (e :: es) fs) (hdb : (x == ("__debug__" : Str)) = false := by decide) (he : starEach (e :: es) X.env = (false, eval e X.env) :: starEach es X.env := by rfl) (hpl : (backTo pos (starEach es X.env)).any (·.1) = false := by rfl) :
    DE X (.Call (.Name x p) (e :: es) [] pos) (mNewK C n F fs) := by
  refine PE.to (pe_make M G hr hg hm hb .nil (E := E0) pass0 ha hdb he hpl) fun σ H Q h => ?_
  obtain ⟨Ex, p, mh, τ, R, S, h⟩ := h
  refine ⟨Ex, p, mh, τ, R, S, Rs.wants_mono (Rs.wants_bind.mp h) fun xs m1 h1 q1 H1 vs N1 r1 z dz nz ndz nez => ?_⟩
  split at h1
  · next hl =>
    have N2 := new_obj (C := C) N1.rl nz ndz nez
    rw [List.append_nil]
    refine ⟨by rw [List.length_cons, r1.len]; exact hl, Ex, q1 ++ [some z], m1 ++ [.obj C [] []], .loc m1.length :: xs, N2.rl, Reps.cons ?_ (N2.reps r1), Rs.wants_mono (Rs.wants_bind.mp h1) fun t m2 h2 q2 H2 u N3 r3 => ?_⟩
    · simp only [Rep]; exact ⟨z, rfl, by rw [← N1.rl.len, List.getElem?_append_right (Nat.le_refl _)]; simp⟩
    · split at h2
      · simp only [Rep] at r3
        refine ⟨r3, h2 q2 H2 _ ((N1.trans N2).trans N3) ?_⟩
        simp only [Rep]
        exact ⟨z, rfl, N3.le _ _ (by rw [← N1.rl.len, List.getElem?_append_right (Nat.le_refl _)]; simp)⟩
      · exact h2.elim
  · exact h1.elim
end
end ML

set_option Elab.async false
set_option linter.all false
set_option maxRecDepth 100000
/-! ML8: chains, signs, isinstance, ranges as lists, dicts. -/
namespace ML
open PySem PySem.Spec L2

section
variable {X : Cx} {a b c : Expr} {pos : Pos} {f g k : LS → M PV} {o o' : PV → PV → M PV} {fs : LS → M (List PV)}
theorem chain_in {K : PySem.W.Frag} {σ : L2.St} {H : Hp} {Q : VK} (h : tOf K (mChain o o' f g k) σ H Q) : tChain (rOf K o) (rOf K o') (tOf K f) (tOf K g) (tOf K k) σ H Q := by
  obtain ⟨Ex, p, mh, τ, R, S, h⟩ := h
  refine ⟨Ex, p, mh, τ, R, S, Rs.wants_mono (Rs.wants_bind.mp h) fun x m1 h1 q1 H1 v N1 r1 => ?_⟩
  refine ⟨Ex, q1, m1, τ, N1.rl, S.mono N1.same N1.le, Rs.wants_mono (Rs.wants_bind.mp h1) fun y m2 h2 q2 H2 w N2 r2 => ?_⟩
  refine ⟨Ex, q2, m2, x, y, N2.rl, N2.rep r1, r2, Rs.wants_mono (Rs.wants_bind.mp h2) fun z m3 h3 q3 H3 u N3 r3 => ?_⟩
  have N13 := (N1.trans N2).trans N3
  cases z <;> simp only [asB, Rs.bind, Rs.wants] at h3
  case bl t =>
    simp only [Rep] at r3
    refine ⟨t, r3, ?_⟩
    cases t with
    | true =>
      simp only [if_true] at h3
      refine iteT ?_
      refine ⟨Ex, q3, m3, τ, N3.rl, S.mono N13.same N13.le, Rs.wants_mono (Rs.wants_bind.mp h3) fun y2 m4 h4 q4 H4 w2 N4 r4 => ?_⟩
      exact ⟨Ex, q4, m4, y, y2, N4.rl, (N3.trans N4).rep r2, r4, Rs.wants_mono h4 fun t m5 h5 q5 H5 u N5 r5 => h5 q5 H5 u ((N13.trans N4).trans N5) r5⟩
    | false =>
      simp only [Bool.false_eq_true, if_false] at h3
      refine iteF ?_
      exact h3 q3 H3 _ N13 (by simp only [Rep])
theorem de_chain {op op' : CmpOp} (ho : OpV X (compareOp op) o) (ho' : OpV X (compareOp op') o') (ha : DE X a f) (hb : DE X b g) (hc : DE X c k)
    (hm : lastMarks [op, op'] [b, c] = false := by with_unfolding_all rfl) : DE X (.Compare a [op, op'] [b, c] pos) (mChain o o' f g k) := PE.to (pe_chain ho ho' ha hb hc hm) fun _ _ _ => chain_in
theorem dt_chain {op op' : CmpOp} (ho : OpV X (compareOp op) o) (ho' : OpV X (compareOp op') o') (ha : DE X a f) (hb : DE X b g) (hc : DE X c k)
    (hm : lastMarks [op, op'] [b, c] = false := by with_unfolding_all rfl) : DT X (.Compare a [op, op'] [b, c] pos) (mTest (mChain o o' f g k)) := by
  refine PT.to (pt_chain ho ho' ha hb hc hm) fun σ H Q h => ?_
  obtain ⟨Ex, p, mh, τ, R, S, h⟩ := h
  exact chain_in ⟨Ex, p, mh, τ, R, S, Rs.wants_mono (Rs.wants_bind.mp h) fun x m1 h1 q1 H1 v N1 r1 => asB_in N1 r1 h1⟩
/-- - a -/
def mNeg (f : LS → M PV) : LS → M PV := fun τ mh => (f τ mh).bind fun x m => match x with
  | .int i => .ok (.int (-i)) m
  | _ => .no
theorem de_neg (ha : DE X a f) : DE X (.UnaryOp .USub a pos) (mNeg f) := by
  refine PE.to (pe_un un_neg ha) fun σ H Q h => ?_
  obtain ⟨Ex, p, mh, τ, R, S, h⟩ := h
  refine ⟨Ex, p, mh, τ, R, S, Rs.wants_mono (Rs.wants_bind.mp h) fun x m1 h1 q1 H1 v N1 r1 => ?_⟩
  split at h1
  · simp only [Rep] at r1; exact ⟨_, r1, h1 q1 H1 _ N1 (by simp only [Rep])⟩
  · exact h1.elim

/-! ### isinstance of built-in types -/
def tyNm (mh : List PV) : PV → Option String
  | .non => some "NoneType"
  | .bl _ => some "bool"
  | .int _ => some "int"
  | .str _ => some "str"
  | .lst _ => some "list"
  | .tup _ => some "tuple"
  | .dk _ _ => some "dict"
  | .dt _ _ => some "dict"
  | .loc n => match mh[n]? with
    | some (.lst _) => some "list"
    | some (.dk _ _) => some "dict"
    | some (.dt _ _) => some "dict"
    | _ => none
  | _ => none
theorem tyNm_ok {K : PySem.W.Frag} {Ex : List Addr} {p : Pm} {mh : List PV} {H : Hp} {x : PV} {v : V} {T : String} (R : Rl K Ex p mh H) (r : Rep K (Gr Ex p H) p x v) (e : tyNm mh x = some T) : TyX K H v (.type T) := by
  cases x <;> simp only [tyNm] at e <;> (try cases e) <;> simp only [Rep] at r
  case non => subst r; exact .base .non
  case bl => subst r; exact .base (.bl _)
  case int => subst r; exact .base (.int _)
  case str => subst r; exact .base (.str _)
  case lst => obtain ⟨a, vs, rfl, h, _⟩ := r; exact .base (.lst (Gz.some h).1)
  case dk => obtain ⟨a, vs, rfl, h, _⟩ := r; exact .base (.dK (Gz.some h).1)
  case dt => obtain ⟨a, vs, rfl, h, _⟩ := r; exact .base (.dT (Gz.some h).1)
  case tup =>
    obtain ⟨a, vs, rfl, h, _⟩ := r
    exact .base (.tup (Gz.some h).1)
  case loc n =>
    obtain ⟨a, rfl, h⟩ := r
    obtain ⟨o, e1, r1⟩ := R.obj n a h
    rw [e1] at e
    cases o <;> simp only at e <;> (try cases e) <;> simp only [RepO] at r1
    case lst => obtain ⟨vs, h, _⟩ := r1; exact .base (.lst h)
    case dk => obtain ⟨vs, h, _⟩ := r1; exact .base (.dK h)
    case dt => obtain ⟨vs, h, _⟩ := r1; exact .base (.dT h)
/-- the answers that the library gives for these names -/
def isiT : List (String × String × Bool) := (["NoneType", "bool", "int", "str", "list", "tuple", "dict"] : List String).flatMap fun a => (["int", "bool", "str", "list", "tuple", "dict"] : List String).map fun b => (a, b, a == b || (a == "bool" && b == "int"))
theorem isiT_ok : ∀ z ∈ isiT, kitB z.1 z.2.1 = some z.2.2 := by decide +kernel
def isi (a b : String) : Option Bool := ((isiT.find? fun z => z.1 == a && z.2.1 == b)).map (·.2.2)
theorem isi_ok {a b : String} {r : Bool} (h : isi a b = some r) : kitB a b = some r := by
  unfold isi at h
  cases q : isiT.find? (fun z => z.1 == a && z.2.1 == b) with
  | none => rw [q] at h; cases h
  | some z =>
    rw [q] at h; cases h
    have h1 := List.find?_some q
    have h2 := List.mem_of_find?_eq_some q
    simp only [Bool.and_eq_true, beq_iff_eq] at h1
    have := isiT_ok z h2
    rw [h1.1, h1.2] at this
    exact this
def isiL (a : String) : List String → Option Bool
  | [] => some false
  | b :: ts => match isi a b with
    | some true => some true
    | some false => isiL a ts
    | none => none
theorem isiL_ok {K : PySem.W.Frag} {a : String} : ∀ {ts : List String} {r : Bool}, isiL a ts = some r → PySem.W.kitAny K (.type a) (ts.map .type) = some r
  | [], _, e => by simp only [isiL] at e; cases e; rfl
  | b :: ts, _, e => by
    simp only [isiL] at e
    cases q : isi a b with
    | none => rw [q] at e; cases e
    | some z =>
      have k := kit_ty (K := K) (isi_ok q)
      rw [q] at e
      show PySem.W.kitAny K (.type a) (.type b :: ts.map .type) = _
      unfold PySem.W.kitAny; rw [k]
      cases z with
      | true => exact e
      | false => exact isiL_ok e
theorem cls_all : ∀ ns : List String, Paired ClsV (ns.map V.ty) (ns.map Value.type)
  | [] => .nil
  | n :: ns => .cons (.ty n) (cls_all ns)
theorem reps_ty {K : PySem.W.Frag} {G : Hp} {p : Pm} : ∀ {ns : List String} {vs : List V}, Reps K G p (ns.map PV.ty) vs → vs = ns.map V.ty
  | [], _, h => by simp only [List.map_nil, Reps] at h; exact h
  | n :: ns, _, h => by
    simp only [List.map_cons, Reps] at h; obtain ⟨v, ws, rfl, r, rs⟩ := h
    simp only [Rep] at r; subst r; rw [reps_ty rs]; rfl
def mIsi (ns : List String) (f : LS → M PV) : LS → M PV := fun τ mh => (f τ mh).bind fun x m => match tyNm m x with
  | some a => (match isiL a ns with
    | some r => .ok (.bl r) m
    | none => .no)
  | none => .no
theorem de_isi {n : String} {p : Pos} (hg : Gl X "isinstance") (hm : X.mg "isinstance" = none) (hv : bootBuiltins "isinstance" = some (.builtin "isinstance")) (ha : DE X a f) (hb : DE X b (kv (.ty n)))
    (he : starEach [a, b] X.env = (false, eval a X.env) :: starEach [b] X.env := by rfl) (he2 : starEach [b] X.env = (false, eval b X.env) :: starEach [] X.env := by rfl) (hpl : (backTo pos (starEach [b] X.env)).any (·.1) = false := by rfl) :
    DE X (.Call (.Name "isinstance" p) [a, b] [] pos) (mIsi [n] f) := by
  refine PE.to (pe_callB call_isi hg hm hv (pa_cons ha (pa_cons hb pa_nil he2) he) (by decide) (by decide) he hpl) fun σ H Q h => ?_
  obtain ⟨Ex, p, mh, τ, R, S, h⟩ := h
  refine ⟨Ex, p, mh, τ, R, S, Rs.wants_mono (Rs.wants_bind.mp h) fun x m1 h1 q1 H1 v N1 r1 => ?_⟩
  split at h1
  · next A eA =>
    split at h1
    · next r er =>
      refine ⟨Ex, q1, m1, τ, N1.rl, S.mono N1.same N1.le, fun q2 H2 w N2 r2 => ?_⟩
      simp only [Rep] at r2; subst r2
      have T := tyNm_ok N2.rl (N2.rep r1) eA
      refine ⟨v, .ty n, .type A, .type n, r, rfl, .ty n, T, ?_, h1 q2 H2 _ (N1.trans N2) (by simp only [Rep])⟩
      have := isiL_ok (K := X.K) er
      have this : PySem.W.kitAny X.K (.type A) [.type n] = some r := this
      unfold PySem.W.kitAny at this
      cases q : PySem.W.kitOne X.K (.type A) (.type n) with
      | none => rw [q] at this; cases this
      | some z => rw [q] at this; cases z <;> exact this
    · exact h1.elim
  · exact h1.elim
theorem de_isiT {ns : List String} {es : List Expr} {k : Nat} {p pos2 : Pos} (hg : Gl X "isinstance") (hm : X.mg "isinstance" = none) (hv : bootBuiltins "isinstance" = some (.builtin "isinstance")) (ha : DE X a f) (hb : DA X es fs) (hfs : ∀ τ mh, fs τ mh = .ok (ns.map .ty) mh) (hz : ns.length ≤ sizeLine)
    (he : starEach [a, .Tuple es k pos2] X.env = (false, eval a X.env) :: starEach [.Tuple es k pos2] X.env := by rfl) (he2 : starEach [.Tuple es k pos2] X.env = (false, eval (.Tuple es k pos2) X.env) :: starEach [] X.env := by rfl) (hpl : (backTo pos (starEach [.Tuple es k pos2] X.env)).any (·.1) = false := by rfl) :
    DE X (.Call (.Name "isinstance" p) [a, .Tuple es k pos2] [] pos) (mIsi ns f) := by
  refine PE.to (pe_callB call_isiT hg hm hv (pa_cons ha (pa_cons (pe_tup hb) pa_nil he2) he) (by decide) (by decide) he hpl) fun σ H Q h => ?_
  obtain ⟨Ex, p, mh, τ, R, S, h⟩ := h
  refine ⟨Ex, p, mh, τ, R, S, Rs.wants_mono (Rs.wants_bind.mp h) fun x m1 h1 q1 H1 v N1 r1 => ?_⟩
  split at h1
  · next A eA =>
    split at h1
    · next r er =>
      refine ⟨Ex, q1, m1, τ, N1.rl, S.mono N1.same N1.le, ?_⟩
      rw [hfs]
      intro q2 H2 vs N2 r2
      obtain rfl := reps_ty r2
      refine ⟨by rw [List.length_map]; exact hz, fun t ht => ?_⟩
      have L := Nx.laid (o := .tup (ns.map V.ty)) N2.rl ht
      have T := tyNm_ok L.rl (L.rep (N2.rep r1)) eA
      exact ⟨v, t, ns.map V.ty, .type A, ns.map Value.type, r, rfl, upd_same, cls_all ns, T, isiL_ok er, h1 q2 _ _ ((N1.trans N2).trans L) (by simp only [Rep])⟩
    · exact h1.elim
  · exact h1.elim

/-! ### list(range(..)), tuple(range(..)) -/
def rgP (i j : Int) : List PV := (List.range (j - i).toNat).map fun k => .int (i + (k : Nat))
theorem reps_of_get {K : PySem.W.Frag} {G : Hp} {p : Pm} {n : Nat} {fp : Nat → PV} {fv : Nat → V} (h : ∀ i, Rep K G p (fp i) (fv i)) : ∀ l : List Nat, Reps K G p (l.map fp) (l.map fv)
  | [] => Reps.nil
  | i :: l => Reps.cons (h i) (reps_of_get (n := n) h l)
theorem reps_rg {K : PySem.W.Frag} {G : Hp} {p : Pm} (i j : Int) : Reps K G p (rgP i j) (rgV i j) := by
  unfold rgP rgV
  exact reps_of_get (n := 0) (fun k => by simp only [Rep]) _
def rgOkB (i j : Int) : Bool := decide (-(2 ^ 62) ≤ i ∧ i < 2 ^ 62 ∧ -(2 ^ 62) ≤ j ∧ j < 2 ^ 62 ∧ j - i ≤ 16777216)
theorem rgOk_of {i j : Int} (h : rgOkB i j = true) : RgOk i j := by
  have h := of_decide_eq_true h
  exact ⟨h.1, h.2.1, h.2.2.1, h.2.2.2.1, by have := h.2.2.2.2; omega⟩
def mListRg2 (f g : LS → M PV) : LS → M PV := fun τ mh => (f τ mh).bind fun x m => (g τ m).bind fun y m => match x, y with
  | .int i, .int j => if rgOkB i j = true then .ok (.lst (rgP i j)) m else .no
  | _, _ => .no
theorem de_listRg2 {p p2 pos2 : Pos} (hc : X.calm = true) (hg : Gl X "list") (hm : X.mg "list" = none) (hg2 : Gl X "range") (hm2 : X.mg "range" = none) (ha : DE X a f) (hb : DE X b g)
    (na : starEach [a, b] X.env = (false, eval a X.env) :: starEach [b] X.env := by rfl) (nb : starEach [b] X.env = (false, eval b X.env) :: starEach [] X.env := by rfl) (hp : (backTo pos2 (starEach [b] X.env)).any (·.1) = false := by rfl)
    (nc : starEach [.Call (.Name "range" p2) [a, b] [] pos2] X.env = (false, eval (.Call (.Name "range" p2) [a, b] [] pos2) X.env) :: starEach [] X.env := by rfl) :
    DE X (.Call (.Name "list" p) [.Call (.Name "range" p2) [a, b] [] pos2] [] pos) (mListRg2 f g) := by
  refine PE.to (pe_listRg hc hg hm (prg_2 hg2 hm2 ha hb na nb hp) nc) fun σ H Q h => ?_
  obtain ⟨Ex, p, mh, τ, R, S, h⟩ := h
  refine ⟨Ex, p, mh, τ, R, S, Rs.wants_mono (Rs.wants_bind.mp h) fun x m1 h1 q1 H1 v N1 r1 => ?_⟩
  refine ⟨Ex, q1, m1, τ, N1.rl, S.mono N1.same N1.le, Rs.wants_mono (Rs.wants_bind.mp h1) fun y m2 h2 q2 H2 w N2 r2 => ?_⟩
  have r1' := N2.rep r1
  split at h2
  · next i j =>
    simp only [Rep] at r1' r2
    split at h2
    · next hz =>
      refine ⟨i, j, r1', r2, rgOk_of hz, fun t ht => ?_⟩
      obtain ⟨N3, r3⟩ := laidLst (N1.trans N2) (reps_rg i j) ht
      exact h2 q2 _ _ N3 r3
    · exact h2.elim
  · exact h2.elim
end

/-! ### dicts -/
section
variable {κ : Type} [DecidableEq κ]
def dGet (k : κ) : List κ → List PV → Option PV
  | n :: ns, x :: xs => if n = k then some x else dGet k ns xs
  | _, _ => none
def dPutT (k : κ) (t : PV) (ns : List κ) (ts : List PV) : List PV := if k ∈ ns then List.zipWith (fun n x => if n = k then t else x) ns ts else ts ++ [t]
def dPutN (k : κ) (ns : List κ) : List κ := if k ∈ ns then ns else ns ++ [k]
def LookOk (K : PySem.W.Frag) (G : Hp) (p : Pm) : Option PV → Option V → Prop
  | some t, o => ∃ v, o = some v ∧ Rep K G p t v
  | none, o => o = none
theorem dGet_ok {K : PySem.W.Frag} {G : Hp} {p : Pm} (k : κ) : ∀ {kvs : List (κ × V)} {ts : List PV}, Reps K G p ts (kvs.map (·.2)) → LookOk K G p (dGet k (kvs.map (·.1)) ts) (valV kvs k)
  | [], ts, _ => by cases ts <;> rfl
  | (n, x) :: kvs, ts, h => by
    cases ts with
    | nil => simp only [Reps] at h; cases h
    | cons t0 ts =>
      simp only [Reps] at h; obtain ⟨v0, ws, e1, r0, rs⟩ := h
      cases e1
      show LookOk K G p (if n = k then some t0 else dGet k (kvs.map (·.1)) ts) (valV ((n, x) :: kvs) k)
      by_cases hn : n = k
      · rw [if_pos hn, valV_pos hn]; exact ⟨x, rfl, r0⟩
      · rw [if_neg hn, valV_neg hn]; exact dGet_ok k rs
theorem putK_mem {kvs : List (κ × V)} {k : κ} : (kvs.any fun kv => decide (kv.1 = k)) = true ↔ k ∈ kvs.map (·.1) := by
  rw [List.any_eq_true, List.mem_map]
  constructor
  · rintro ⟨z, h1, h2⟩; exact ⟨z, h1, of_decide_eq_true h2⟩
  · rintro ⟨z, h1, h2⟩; exact ⟨z, h1, decide_eq_true h2⟩
theorem putK_names (k : κ) (v : V) (kvs : List (κ × V)) : (putK kvs k v).map (·.1) = dPutN k (kvs.map (·.1)) := by
  unfold putK dPutN
  by_cases h : k ∈ kvs.map (·.1)
  · rw [if_pos (putK_mem.mpr h), if_pos h, List.map_map]
    refine List.map_congr_left fun z _ => ?_
    show (if z.1 = k then (z.1, v) else z).1 = z.1
    split <;> rfl
  · rw [if_neg (fun z => h (putK_mem.mp z)), if_neg h, List.map_append]; rfl
theorem putK_reps {K : PySem.W.Frag} {G : Hp} {p : Pm} {k : κ} {t : PV} {v : V} (r : Rep K G p t v) {kvs : List (κ × V)} {ts : List PV} (h : Reps K G p ts (kvs.map (·.2))) : Reps K G p (dPutT k t (kvs.map (·.1)) ts) ((putK kvs k v).map (·.2)) := by
  unfold putK dPutT
  by_cases hm : k ∈ kvs.map (·.1)
  · rw [if_pos (putK_mem.mpr hm), if_pos hm]
    clear hm
    induction kvs generalizing ts with
    | nil => cases ts with
      | nil => exact Reps.nil
      | cons t0 ts => simp only [Reps] at h; obtain ⟨_, _, e, _⟩ := h; cases e
    | cons z kvs ih => cases ts with
      | nil => simp only [Reps] at h; cases h
      | cons t0 ts =>
        simp only [Reps] at h; obtain ⟨v0, ws, e1, r0, rs⟩ := h
        cases e1
        refine Reps.cons ?_ (ih rs)
        show Rep K G p (if z.1 = k then t else t0) (if z.1 = k then (z.1, v) else z).2
        split
        · exact r
        · exact r0
  · rw [if_neg (fun z => hm (putK_mem.mp z)), if_neg hm, List.map_append]
    exact h.app (Reps.cons r Reps.nil)
end
/-- a key: an int or a text; a tuple of such -/
def keyP : PV → Option Key
  | .int i => some (.inl i)
  | .str s => some (.inr s)
  | _ => none
def keysP : List PV → Option (List Key)
  | [] => some []
  | t :: ts => match keyP t, keysP ts with
    | some k, some ks => some (k :: ks)
    | _, _ => none
theorem keyP_ok {K : PySem.W.Frag} {G : Hp} {p : Pm} {t : PV} {v : V} {k : Key} (r : Rep K G p t v) (e : keyP t = some k) : v = kV k := by
  cases t <;> simp only [keyP] at e <;> try cases e
  case int.refl => simp only [Rep] at r; exact r
  case str.refl => simp only [Rep] at r; exact r
theorem keysP_ok {K : PySem.W.Frag} {G : Hp} {p : Pm} : ∀ {ts : List PV} {vs : List V} {ks : List Key}, Reps K G p ts vs → keysP ts = some ks → vs = ks.map kV
  | [], _, _, r, e => by simp only [keysP] at e; cases e; simp only [Reps] at r; exact r
  | t :: ts, _, _, r, e => by
    simp only [Reps] at r; obtain ⟨v, ws, rfl, r1, rs⟩ := r
    simp only [keysP] at e
    cases q : keyP t with
    | none => rw [q] at e; cases e
    | some k =>
      cases q2 : keysP ts with
      | none => rw [q, q2] at e; cases e
      | some ks => rw [q, q2] at e; cases e; rw [keyP_ok r1 q, keysP_ok rs q2]; rfl
/-- the dict that x is -/
def dictV (mh : List PV) : PV → Option PV
  | .dk ks ts => some (.dk ks ts)
  | .dt ks ts => some (.dt ks ts)
  | .loc n => match mh[n]? with
    | some (.dk ks ts) => some (.dk ks ts)
    | some (.dt ks ts) => some (.dt ks ts)
    | _ => none
  | _ => none
/-- what d has at the key y: not a fit, not there, there -/
def lookO (o y : PV) : Option (Option PV) := match o with
  | .dk ks ts => (match keyP y with
    | some k => some (dGet k ks ts)
    | none => none)
  | .dt ks ts => (match y with
    | .tup us => (match keysP us with
      | some k => some (dGet k ks ts)
      | none => none)
    | _ => none)
  | _ => none
def lookP (mh : List PV) (d y : PV) : Option (Option PV) := match dictV mh d with
  | some o => lookO o y
  | none => none
theorem dictV_ok {K : PySem.W.Frag} {Ex : List Addr} {p : Pm} {mh : List PV} {H : Hp} {x o : PV} {v : V} (R : Rl K Ex p mh H) (r : Rep K (Gr Ex p H) p x v) (e : dictV mh x = some o) : ∃ a, v = .ref a ∧ RepO K H (Gr Ex p H) p o a := by
  unfold dictV at e
  split at e
  · cases e; simp only [Rep] at r; obtain ⟨a, kvs, rfl, h, e2, r⟩ := r; exact ⟨a, rfl, by simp only [RepO]; exact ⟨kvs, (Gz.some h).1, e2, r⟩⟩
  · cases e; simp only [Rep] at r; obtain ⟨a, kvs, rfl, h, e2, r⟩ := r; exact ⟨a, rfl, by simp only [RepO]; exact ⟨kvs, (Gz.some h).1, e2, r⟩⟩
  · next n =>
    simp only [Rep] at r; obtain ⟨a, rfl, h⟩ := r
    obtain ⟨o2, e1, r1⟩ := R.obj n a h
    rw [e1] at e
    refine ⟨a, rfl, ?_⟩
    cases o2 <;> simp only at e <;> (try cases e) <;> exact r1
  · cases e
theorem lookP_ok {K : PySem.W.Frag} {Ex : List Addr} {p : Pm} {mh : List PV} {H : Hp} {d y : PV} {v w : V} {z : Option PV} (R : Rl K Ex p mh H) (rd : Rep K (Gr Ex p H) p d v) (ry : Rep K (Gr Ex p H) p y w) (e : lookP mh d y = some z) :
    ∃ a o, v = .ref a ∧ DGet H a w o ∧ LookOk K (Gr Ex p H) p z o := by
  unfold lookP at e
  split at e
  · next o ed =>
    obtain ⟨a, rfl, r⟩ := dictV_ok R rd ed
    unfold lookO at e
    split at e
    · next ks ts =>
      simp only [RepO] at r; obtain ⟨kvs, h, e2, r⟩ := r
      split at e
      · next k ek =>
        cases e
        subst e2
        have hw := keyP_ok ry ek
        subst hw
        refine ⟨a, _, rfl, DGet.k h, ?_⟩
        exact dGet_ok k r
      · cases e
    · next ks ts =>
      simp only [RepO] at r; obtain ⟨kvs, h, e2, r⟩ := r
      split at e
      · next us =>
        split at e
        · next k ek =>
          cases e
          subst e2
          simp only [Rep] at ry; obtain ⟨b, vs, rfl, hb, rv⟩ := ry
          have hw := keysP_ok rv ek
          subst hw
          refine ⟨a, _, rfl, DGet.t h (Gz.some hb).1, ?_⟩
          exact dGet_ok k r
        · cases e
      · cases e
    · cases e
  · cases e
section
variable {X : Cx} {a b e : Expr} {pos pos' : Pos} {f g h : LS → M PV}
/-- d[k] -/
def vDGet (d y : PV) : M PV := fun mh => match lookP mh d y with
  | some (some t) => .ok t mh
  | _ => .no
theorem de_dget (hu : X.A.units + 1 < cLine) (ha : DE X a f) (hb : DE X b g) (hs : NoSl b := by exact fun _ _ => rfl) : DE X (.Subscript a b pos) (mBin vDGet f g) := by
  refine PE.to (pe_dget hu ha hb hs) fun σ H Q h => ?_
  obtain ⟨Ex, p, mh, τ, R, S, h⟩ := h
  refine ⟨Ex, p, mh, τ, R, S, Rs.wants_mono (Rs.wants_bind.mp h) fun x m1 h1 q1 H1 v N1 r1 => ?_⟩
  refine ⟨Ex, q1, m1, τ, N1.rl, S.mono N1.same N1.le, Rs.wants_mono (Rs.wants_bind.mp h1) fun y m2 h2 q2 H2 w N2 r2 => ?_⟩
  unfold vDGet at h2
  split at h2
  · next t et =>
    obtain ⟨a, o, rfl, D, u, rfl, ru⟩ := lookP_ok N2.rl (N2.rep r1) r2 et
    exact ⟨a, u, rfl, D, h2 q2 H2 u (N1.trans N2) ru⟩
  · exact h2.elim
/-- k in d -/
def vDIn (n : Bool) (y d : PV) : M PV := fun mh => match lookP mh d y with
  | some z => .ok (.bl (xor n z.isSome)) mh
  | none => .no
theorem din_in {K : PySem.W.Frag} {σ : L2.St} {H : Hp} {Q : VK} (h : tOf K (mBin (vDIn false) f g) σ H Q) : tDIn (tOf K f) (tOf K g) σ H Q := by
  obtain ⟨Ex, p, mh, τ, R, S, h⟩ := h
  refine ⟨Ex, p, mh, τ, R, S, Rs.wants_mono (Rs.wants_bind.mp h) fun x m1 h1 q1 H1 v N1 r1 => ?_⟩
  refine ⟨Ex, q1, m1, τ, N1.rl, S.mono N1.same N1.le, Rs.wants_mono (Rs.wants_bind.mp h1) fun y m2 h2 q2 H2 w N2 r2 => ?_⟩
  unfold vDIn at h2
  split at h2
  · next z et =>
    obtain ⟨a, o, rfl, D, hz⟩ := lookP_ok N2.rl r2 (N2.rep r1) et
    refine ⟨a, o, rfl, D, ?_⟩
    have e : o.isSome = z.isSome := by
      cases z with
      | none =>
        have hz : o = none := hz
        rw [hz]; rfl
      | some t => obtain ⟨u, rfl, _⟩ := hz; rfl
    rw [e]
    exact h2 q2 H2 _ (N1.trans N2) (by simp only [Rep, Bool.false_xor])
  · exact h2.elim
theorem dnotin_in {K : PySem.W.Frag} {σ : L2.St} {H : Hp} {Q : VK} (h : tOf K (mBin (vDIn true) f g) σ H Q) : tDNotIn (tOf K f) (tOf K g) σ H Q := by
  obtain ⟨Ex, p, mh, τ, R, S, h⟩ := h
  refine ⟨Ex, p, mh, τ, R, S, Rs.wants_mono (Rs.wants_bind.mp h) fun x m1 h1 q1 H1 v N1 r1 => ?_⟩
  refine ⟨Ex, q1, m1, τ, N1.rl, S.mono N1.same N1.le, Rs.wants_mono (Rs.wants_bind.mp h1) fun y m2 h2 q2 H2 w N2 r2 => ?_⟩
  unfold vDIn at h2
  split at h2
  · next z et =>
    obtain ⟨a, o, rfl, D, hz⟩ := lookP_ok N2.rl r2 (N2.rep r1) et
    refine ⟨a, o, rfl, D, ?_⟩
    have e : o.isSome = z.isSome := by
      cases z with
      | none =>
        have hz : o = none := hz
        rw [hz]; rfl
      | some t => obtain ⟨u, rfl, _⟩ := hz; rfl
    rw [e]
    exact h2 q2 H2 _ (N1.trans N2) (by simp only [Rep, Bool.true_xor])
  · exact h2.elim
theorem de_din (hu : X.A.units + 1 < cLine) (ha : DE X a f) (hb : DE X b g) (h1 : behindInMarks .In b = false := by rfl) : DE X (.Compare a [.In] [b] pos) (mBin (vDIn false) f g) := PE.to (pe_cmp (pc_din hu ha hb) h1) fun _ _ _ => din_in
theorem de_dnotin (hu : X.A.units + 1 < cLine) (ha : DE X a f) (hb : DE X b g) (h1 : behindInMarks .NotIn b = false := by rfl) : DE X (.Compare a [.NotIn] [b] pos) (mBin (vDIn true) f g) := PE.to (pe_cmp (pc_dnotin hu ha hb) h1) fun _ _ _ => dnotin_in
theorem dt_din (hu : X.A.units + 1 < cLine) (ha : DE X a f) (hb : DE X b g) (h1 : behindInMarks .In b = false := by rfl) : DT X (.Compare a [.In] [b] pos) (mTest (mBin (vDIn false) f g)) := by
  refine PT.to (pt_cmp (pc_din hu ha hb) h1) fun σ H Q h => ?_
  obtain ⟨Ex, p, mh, τ, R, S, h⟩ := h
  exact din_in ⟨Ex, p, mh, τ, R, S, Rs.wants_mono (Rs.wants_bind.mp h) fun x m1 h1 q1 H1 v N1 r1 => asB_in N1 r1 h1⟩
theorem dt_dnotin (hu : X.A.units + 1 < cLine) (ha : DE X a f) (hb : DE X b g) (h1 : behindInMarks .NotIn b = false := by rfl) : DT X (.Compare a [.NotIn] [b] pos) (mTest (mBin (vDIn true) f g)) := by
  refine PT.to (pt_cmp (pc_dnotin hu ha hb) h1) fun σ H Q h => ?_
  obtain ⟨Ex, p, mh, τ, R, S, h⟩ := h
  exact dnotin_in ⟨Ex, p, mh, τ, R, S, Rs.wants_mono (Rs.wants_bind.mp h) fun x m1 h1 q1 H1 v N1 r1 => asB_in N1 r1 h1⟩
/-- {}: to be changed, keys ints and texts; tuples; still -/
def mDNewK : LS → M PV := fun _ mh => .ok (.loc mh.length) (mh ++ [.dk [] []])
def mDNewT : LS → M PV := fun _ mh => .ok (.loc mh.length) (mh ++ [.dt [] []])
def mDNew : LS → M PV := fun _ mh => .ok (.dk [] []) mh
theorem locAt {K : PySem.W.Frag} {Ex : List Addr} {p : Pm} {mh : List PV} {H : Hp} (R : Rl K Ex p mh H) (a : Addr) (G : Hp) : Rep K G (p ++ [some a]) (.loc mh.length) (.ref a) := by
  simp only [Rep]
  exact ⟨a, rfl, by rw [← R.len, List.getElem?_append_right (Nat.le_refl _)]; simp⟩
theorem de_dnewK : DE X (.Dict [] [] pos) mDNewK := by
  refine PE.to pe_dnewK fun σ H Q ⟨Ex, p, mh, τ, R, S, h⟩ a n => ?_
  exact h _ _ _ (Nx.alloc (t := .dk [] []) (o := .dK []) R n fun G s => by simp only [RepO]; exact ⟨[], upd_same, rfl, Reps.nil⟩) (locAt R a _)
theorem de_dnewT : DE X (.Dict [] [] pos) mDNewT := by
  refine PE.to pe_dnewT fun σ H Q ⟨Ex, p, mh, τ, R, S, h⟩ a n => ?_
  exact h _ _ _ (Nx.alloc (t := .dt [] []) (o := .dT []) R n fun G s => by simp only [RepO]; exact ⟨[], upd_same, rfl, Reps.nil⟩) (locAt R a _)
theorem de_dnew : DE X (.Dict [] [] pos) mDNew := by
  refine PE.to pe_dnewK fun σ H Q ⟨Ex, p, mh, τ, R, S, h⟩ a n => ?_
  refine h _ _ _ (Nx.laid (o := .dK []) R n) ?_
  simp only [Rep]; exact ⟨a, [], rfl, R.freshG n, rfl, Reps.nil⟩
/-- d[k] = v -/
def putO (o y t : PV) : Option PV := match o with
  | .dk ks ts => (match keyP y with
    | some k => if ks.length < sizeLine then some (.dk (dPutN k ks) (dPutT k t ks ts)) else none
    | none => none)
  | .dt ks ts => (match y with
    | .tup us => (match keysP us with
      | some k => if ks.length < sizeLine then some (.dt (dPutN k ks) (dPutT k t ks ts)) else none
      | none => none)
    | _ => none)
  | _ => none
def mDPut (d y v : LS → M PV) : LS → M (Out × LS) := fun τ mh => (v τ mh).bind fun t m1 => (d τ m1).bind fun x m2 => (y τ m2).bind fun z m3 => match x with
  | .loc n => (match m3[n]? with
    | some o => (match putO o z t with
      | some o' => .ok (.nx, τ) (m3.set n o')
      | none => .no)
    | none => .no)
  | _ => .no
theorem ds_dput (hu : X.A.units + 1 < cLine) (ha : DE X a f) (hb : DE X b g) (he : DE X e h) (hs : swapsWith e (some (.Subscript a b pos')) pos.line X.env = pure false := by rfl) : DS X (.Assign [.Subscript a b pos'] e pos) (mDPut f g h) := by
  refine PS.to (ps_dput hu ha hb he hs) fun D σ H h => ?_
  obtain ⟨Ex, p, mh, τ, R, S, h⟩ := h
  refine ⟨Ex, p, mh, τ, R, S, Rs.wants_mono (Rs.wants_bind.mp h) fun z m1 h1 q1 H1 v N1 rz => ?_⟩
  refine ⟨Ex, q1, m1, τ, N1.rl, S.mono N1.same N1.le, Rs.wants_mono (Rs.wants_bind.mp h1) fun x m2 h2 q2 H2 u N2 rx => ?_⟩
  have N12 := N1.trans N2
  refine ⟨Ex, q2, m2, τ, N2.rl, S.mono N12.same N12.le, Rs.wants_mono (Rs.wants_bind.mp h2) fun y m3 h3 q3 H3 w N3 ry => ?_⟩
  have N13 := N12.trans N3
  have rz3 := N3.rep (N2.rep rz)
  have rx3 := N3.rep rx
  split at h3
  · next n =>
    split at h3
    · next o e0 =>
      split at h3
      · next o' eo =>
        simp only [Rep] at rx3; obtain ⟨a, rfl, hp⟩ := rx3
        obtain ⟨oo, e2, r1⟩ := N3.rl.obj _ a hp
        rw [e0] at e2; cases e2
        unfold putO at eo
        split at eo
        · next ks ts =>
          simp only [RepO] at r1; obtain ⟨kvs, hk, e3, r1⟩ := r1
          subst e3
          split at eo
          · next k ek =>
            split at eo
            · next hl =>
              cases eo
              have hw := keyP_ok ry ek
              subst hw
              have N4 := Nx.write (t := .dk (dPutN k (kvs.map (·.1))) (dPutT k z (kvs.map (·.1)) ts)) (o := .dK (putK kvs k v)) N3.rl hp (by
                simp only [RepO]; exact ⟨_, upd_same, putK_names k v kvs, putK_reps rz3 r1⟩)
              exact ⟨a, _, rfl, DPut.k hk (by simpa using hl), h3 _ _ _ (N13.trans N4) ((S.mono N13.same N13.le).mono N4.same N4.le)⟩
            · cases eo
          · cases eo
        · next ks ts =>
          simp only [RepO] at r1; obtain ⟨kvs, hk, e3, r1⟩ := r1
          subst e3
          split at eo
          · next us =>
            split at eo
            · next k ek =>
              split at eo
              · next hl =>
                cases eo
                simp only [Rep] at ry; obtain ⟨b, vs, rfl, hb, rv⟩ := ry
                have hw := keysP_ok rv ek
                subst hw
                have N4 := Nx.write (t := .dt (dPutN k (kvs.map (·.1))) (dPutT k z (kvs.map (·.1)) ts)) (o := .dT (putK kvs k v)) N3.rl hp (by
                  simp only [RepO]; exact ⟨_, upd_same, putK_names k v kvs, putK_reps rz3 r1⟩)
                exact ⟨a, _, rfl, DPut.t hk (Gz.some hb).1 (by simpa using hl), h3 _ _ _ (N13.trans N4) ((S.mono N13.same N13.le).mono N4.same N4.le)⟩
              · cases eo
            · cases eo
          · cases eo
        · cases eo
      · exact h3.elim
    · exact h3.elim
  · exact h3.elim
end
end ML

set_option Elab.async false
set_option linter.all false
set_option maxRecDepth 100000
/-! ML9: defs as the text has them. -/
namespace ML
open PySem PySem.Spec L2
open PyProof.Rows (envOfC)

theorem hu64 {k : Nat} {A : Around} (r : Room k A) : A.units + 64 < cLine := by have := r.un; omega
theorem hu65 {k : Nat} {A : Around} (r : Room k A) : A.units + 65 < cLine := by have := r.un; omega
theorem hu1 {k : Nat} {A : Around} (r : Room k A) : A.units + 1 < cLine := by have := r.un; omega
/-- a def of the module by its function -/
structure Cal (P : Program) (w : World) (K : PySem.W.Frag) (mg : Str → Option Value) (base : Heap) (k : Nat) (x : Str) (n : Nat) (F : List PV → M PV) : Prop where
  ex : ∃ (f : Addr) (fd : FuncData) (ps : List Str), FnOk P w K mg base CX0 k f fd ps (spOf K n F) ∧ mg x = some (.ref f) ∧ PySem.W.keepIn K (.ref f) = true ∧ Binds K fd ps []
/-- a class with its __init__ -/
structure New (P : Program) (w : World) (K : PySem.W.Frag) (mg : Str → Option Value) (base : Heap) (k : Nat) (x : Str) (C : Addr) (n : Nat) (F : List PV → M PV) : Prop where
  ex : ∃ (f : Addr) (fd : FuncData) (ps : List Str), Mk K C f ∧ FnOk P w K mg base CX0 k f fd ps (spOf K n F) ∧ mg x = some (.ref C) ∧ Binds K fd ps []
/-- a method -/
structure Mth (P : Program) (w : World) (K : PySem.W.Frag) (mg : Str → Option Value) (base : Heap) (k : Nat) (C : Addr) (m : Str) (n : Nat) (F : List PV → M PV) : Prop where
  ex : ∃ (f : Addr) (fd : FuncData) (ps : List Str), Cls K C ∧ Meth K C m f ∧ FnOk P w K mg base CX0 k f fd ps (spOf K n F) ∧ Binds K fd ps []
section
variable {X : Cx} {j k n : Nat} {C : Addr} {x m : Str} {F : List PV → M PV} {p pos apos : Pos} {e o : Expr} {es : List Expr} {fs : LS → M (List PV)} {g : LS → M PV}
theorem de_cal (c : Cal X.prog X.w X.K X.mg X.base k x n F) (hr : Room j X.A) (hk : k ≤ j) (hg : Gl X x) (ha : DA X (e :: es) fs)
    (hdb : (x == ("__debug__" : Str)) = false := by decide) (he : starEach (e :: es) X.env = (false, eval e X.env) :: starEach es X.env := by rfl) (hpl : (backTo pos (starEach es X.env)).any (·.1) = false := by rfl) :
    DE X (.Call (.Name x p) (e :: es) [] pos) (mApp n F fs) := by
  obtain ⟨f, fd, ps, G, hm, kp, b⟩ := c.ex
  exact de_call G (hr.mono hk) hg hm kp b ha hdb he hpl
theorem de_newc (c : New X.prog X.w X.K X.mg X.base k x C n F) (hr : Room j X.A) (hk : k + 1 ≤ j) (hg : Gl X x) (ha : DA X (e :: es) fs)
    (hdb : (x == ("__debug__" : Str)) = false := by decide) (he : starEach (e :: es) X.env = (false, eval e X.env) :: starEach es X.env := by rfl) (hpl : (backTo pos (starEach es X.env)).any (·.1) = false := by rfl) :
    DE X (.Call (.Name x p) (e :: es) [] pos) (mNew C n F fs) := by
  obtain ⟨f, fd, ps, M, G, hm, b⟩ := c.ex
  exact de_new M G (hr.mono hk) hg hm b ha hdb he hpl
theorem de_mth {pl : Sem Bool} (c : Mth X.prog X.w X.K X.mg X.base k C m n F) (hr : Room j X.A) (hk : k ≤ j) (he : DE X o g) (ha : DA X (e :: es) fs)
    (hst : starEach (e :: es) X.env = (false, eval e X.env) :: starEach es X.env := by rfl) (hpl : (backTo pos (starEach es X.env)).any (·.1) = false := by rfl)
    (ht : eval (.Call (.Attribute o m apos) (e :: es) [] pos) X.env = (do
      let ov ← eval o X.env
      standAt apos.atName
      let (f, first) ← holding [ov] (getMethod ov m pl)
      callWith pos f first (backTo pos (starEach (e :: es) X.env)) (backToKw pos (keywordEach [] X.env))) := by rfl) :
    DE X (.Call (.Attribute o m apos) (e :: es) [] pos) (mMth C m n F g fs) := by
  obtain ⟨f, fd, ps, c, M, G, b⟩ := c.ex
  exact de_meth (pl := pl) c M G (hr.mono hk) b he ha hst hpl ht
end
theorem bt_len : bootBuiltins "len" = some (.builtin "len") := by decide +kernel
theorem bt_abs : bootBuiltins "abs" = some (.builtin "abs") := by decide +kernel
theorem bt_min : bootBuiltins "min" = some (.builtin "min") := by decide +kernel
theorem bt_max : bootBuiltins "max" = some (.builtin "max") := by decide +kernel
theorem bt_all : bootBuiltins "all" = some (.builtin "all") := by decide +kernel
theorem bt_any : bootBuiltins "any" = some (.builtin "any") := by decide +kernel
theorem bt_sorted : bootBuiltins "sorted" = some (.builtin "sorted") := by decide +kernel
theorem bt_repr : bootBuiltins "repr" = some (.builtin "repr") := by decide +kernel
theorem bt_isinstance : bootBuiltins "isinstance" = some (.builtin "isinstance") := by decide +kernel
theorem bt_int : bootBuiltins "int" = some (.type "int") := by decide +kernel
theorem bt_bool : bootBuiltins "bool" = some (.type "bool") := by decide +kernel
theorem bt_str : bootBuiltins "str" = some (.type "str") := by decide +kernel
theorem bt_list : bootBuiltins "list" = some (.type "list") := by decide +kernel
theorem bt_tuple : bootBuiltins "tuple" = some (.type "tuple") := by decide +kernel
theorem bt_dict : bootBuiltins "dict" = some (.type "dict") := by decide +kernel
end ML

set_option Elab.async false
set_option linter.all false
set_option maxRecDepth 100000
/-! ML10: more built-ins: list(text), sorted, join, ranges down, list(reversed(list)), enumerate(text). -/
namespace ML
open PySem PySem.Spec L2 PySem.Calls

section
variable {X : Cx}
/-- a list laid anew, still or to be changed, by a flag -/
def putL (loc : Bool) (ts : List PV) : M PV := fun mh => if loc = true then .ok (.loc mh.length) (mh ++ [.lst ts]) else .ok (.lst ts) mh
theorem putL_ok {K : PySem.W.Frag} {Ex : List Addr} {p q : Pm} {mh : List PV} {H H1 : Hp} {ts : List PV} {vs : List V} {loc : Bool} {Q : VK} (N : Nx K Ex p H q mh H1) (r : Reps K (Gr Ex q H1) q ts vs) {a : Addr} (n : H1 a = none)
    (h : (putL loc ts mh).wants fun t mh' => ∀ q H' u, Nx K Ex p H q mh' H' → Rep K (Gr Ex q H') q t u → Q u H') : Q (.ref a) (upd H1 a (.lst vs)) := by
  unfold putL at h
  split at h
  · obtain ⟨N2, r2⟩ := locLst N r n
    exact h _ _ _ N2 (r2 _)
  · obtain ⟨N2, r2⟩ := laidLst N r n
    exact h _ _ _ N2 r2
/-- list(text) -/
def signs (z : Str) : List PV := z.cps.toList.map fun c => .str ⟨#[c]⟩
def signsV (z : Str) : List V := z.cps.toList.map fun c => .str ⟨#[c]⟩
theorem signs_reps {K : PySem.W.Frag} {G : Hp} {p : Pm} (z : Str) : Reps K G p (signs z) (signsV z) := by
  unfold signs signsV
  generalize z.cps.toList = l
  induction l with
  | nil => exact Reps.nil
  | cons c l ih => exact Reps.cons (by simp only [Rep]) ih
theorem vals_signs {z : Str} {acc : Array Value} (h : ItemsOf (SignAt z) acc z.cps.size) : Vals (signsV z) acc.toList := by
  have key : ∀ (l : List Nat) (us : List Value), us.length = l.length → (∀ (j : Nat) (u : Value), us[j]? = some u → ∃ c t, l[j]? = some c ∧ u = .str ⟨#[c]⟩ t) → Vals (l.map fun c => V.str ⟨#[c]⟩) us := by
    intro l
    induction l with
    | nil => intro us hl _; cases us with
      | nil => exact .nil
      | cons u us => cases hl
    | cons c l ih =>
      intro us hl hg
      cases us with
      | nil => cases hl
      | cons u us =>
        obtain ⟨c', t, e1, e2⟩ := hg 0 u rfl
        simp at e1
        subst e1
        exact .cons ⟨t, e2⟩ (ih us (by simpa using hl) fun j u hj => hg (j + 1) u (by simpa using hj))
  unfold signsV
  refine key _ _ (by rw [Array.length_toList, Array.length_toList]; exact h.1) fun j u hj => ?_
  obtain ⟨c, t, e1, e2⟩ := h.2 j u (by rw [← Array.getElem?_toList]; exact hj)
  exact ⟨c, t, by rw [Array.getElem?_toList]; exact e1, e2⟩
def vListS' (loc : Bool) (xs : List PV) : M PV := fun mh => match xs with
  | [.str z] => if z.cps.size ≤ sizeLine then putL loc (signs z) mh else .no
  | _ => .no
abbrev vListS := vListS' false
abbrev vListSL := vListS' true
theorem callv_listS' (hc : X.calm = true) (loc : Bool) : CallV X (.type "list") (vListS' loc) := by
  intro pins s σ H vs us Q I rv ⟨Ex, p, mh, xs, R, rx, h⟩
  unfold vListS' at h
  split at h
  · obtain ⟨v, rfl, r⟩ := reps1 rx
    simp only [Rep] at r; subst r
    obtain ⟨u, rfl, t, rfl⟩ := vals1 rv
    split at h
    · next z hz =>
      refine PySem.call_list_str (I.ok.hd hc) _ t (fun h' tk acc' c' hk e' hi => ?_) hz
      refine ⟨.ref s.heap.objs.size, upd H s.heap.objs.size (.lst (signsV _)), I.laid hk (Nat.le_refl _) (show ObjOk X.prog X.w _ _ _ (.lst (signsV _)) from ⟨?_, acc'.toList, c', vals_signs hi, ?_⟩), rfl, putL_ok (Nx.refl R) (signs_reps _) (I.hok.fresh (Nat.le_refl _)) h⟩
      · unfold signsV; rw [List.length_map, Array.length_toList]; exact hz
      · rw [Array.toArray_toList]; exact e'
    · exact h.elim
  · exact h.elim
theorem callv_listS (hc : X.calm = true) : CallV X (.type "list") vListS := callv_listS' hc false
theorem callv_listSL (hc : X.calm = true) : CallV X (.type "list") vListSL := callv_listS' hc true

/-! ### sorted, join of texts -/
def strsP : List PV → Option (List Str)
  | [] => some []
  | .str s :: ts => (strsP ts).map (s :: ·)
  | _ => none
theorem strsP_ok {K : PySem.W.Frag} {G : Hp} {p : Pm} : ∀ {ts : List PV} {vs : List V} {ss : List Str}, Reps K G p ts vs → strsP ts = some ss → vs = ss.map V.str
  | [], _, _, r, e => by simp only [strsP] at e; cases e; simp only [Reps] at r; exact r
  | t :: ts, _, _, r, e => by
    simp only [Reps] at r; obtain ⟨v, ws, rfl, r, rs⟩ := r
    cases t <;> simp only [strsP] at e <;> try cases e
    case str s =>
      cases q : strsP ts with
      | none => rw [q] at e; cases e
      | some ss => rw [q] at e; cases e; simp only [Rep] at r; subst r; rw [strsP_ok rs q]; rfl
theorem reps_strs {K : PySem.W.Frag} {G : Hp} {p : Pm} : ∀ ss : List Str, Reps K G p (ss.map PV.str) (ss.map V.str)
  | [] => Reps.nil
  | s :: ss => Reps.cons (by simp only [Rep]) (reps_strs ss)
/-- texts in order -/
def leS (a b : Str) : Bool := !decide (b.cps.toList < a.cps.toList)
def insS (x : Str) : List Str → List Str
  | [] => [x]
  | y :: r => if leS x y = true then x :: y :: r else y :: insS x r
def isort : List Str → List Str
  | [] => []
  | x :: r => insS x (isort r)
theorem leS_iff {a b : Str} : leS a b = true ↔ a.cps.toList ≤ b.cps.toList := by
  unfold leS
  rw [Bool.not_eq_true', decide_eq_false_iff_not, List.not_lt]
theorem leS_total {a b : Str} (h : ¬ leS a b = true) : leS b a = true := by
  rw [leS_iff] at h ⊢
  exact (List.le_total _ _).resolve_left h
theorem leS_trans {a b c : Str} (h : leS a b = true) (h' : leS b c = true) : leS a c = true := by
  rw [leS_iff] at *; exact List.le_trans h h'
theorem leS_anti {a b : Str} (h : leS a b = true) (h' : leS b a = true) : a = b := by
  rw [leS_iff] at *
  have := List.le_antisymm h h'
  obtain ⟨⟨a⟩⟩ := a
  obtain ⟨⟨b⟩⟩ := b
  exact congrArg (fun l => (⟨⟨l⟩⟩ : Str)) this
theorem insS_perm (x : Str) : ∀ l, (insS x l).Perm (x :: l)
  | [] => .refl _
  | y :: r => by
    unfold insS
    split
    · exact .refl _
    · exact (List.Perm.cons y (insS_perm x r)).trans (.swap x y r)
theorem isort_perm : ∀ l, (isort l).Perm l
  | [] => .refl _
  | x :: r => (insS_perm x _).trans (List.Perm.cons x (isort_perm r))
theorem insS_pw (x : Str) : ∀ l, l.Pairwise (fun a b => leS a b = true) → (insS x l).Pairwise (fun a b => leS a b = true)
  | [], _ => List.pairwise_singleton _ _
  | y :: r, h => by
    unfold insS
    have h0 := List.pairwise_cons.mp h
    split
    · next hxy =>
      refine List.pairwise_cons.mpr ⟨fun z hz => ?_, h⟩
      rcases List.mem_cons.mp hz with e | hz
      · subst e; exact hxy
      · exact leS_trans hxy (h0.1 z hz)
    · next hxy =>
      refine List.pairwise_cons.mpr ⟨fun z hz => ?_, insS_pw x r h0.2⟩
      rcases List.mem_cons.mp ((insS_perm x r).mem_iff.mp hz) with e | hz
      · subst e; exact leS_total hxy
      · exact h0.1 z hz
theorem isort_pw : ∀ l, (isort l).Pairwise (fun a b => leS a b = true)
  | [] => .nil
  | x :: r => insS_pw x _ (isort_pw r)
theorem sortedS_pw : ∀ l : List Str, PyProof.Rows.sortedS l = true → l.Pairwise (fun a b => leS a b = true)
  | [], _ => .nil
  | [x], _ => List.pairwise_singleton _ _
  | x :: y :: r, h => by
    have h : PyProof.Rows.risingS x (y :: r) = true := h
    unfold PyProof.Rows.risingS at h
    rw [Bool.and_eq_true, PyProof.Rows.ltCps_eq] at h
    have hxy : leS x y = true := h.1
    have ih := sortedS_pw (y :: r) h.2
    refine List.pairwise_cons.mpr ⟨fun z hz => ?_, ih⟩
    rcases List.mem_cons.mp hz with e | hz
    · subst e; exact hxy
    · exact leS_trans hxy ((List.pairwise_cons.mp ih).1 z hz)
theorem isort_uniq {l ys : List Str} (p : ys.Perm l) (h : PyProof.Rows.sortedS ys = true) : ys = isort l :=
  List.Perm.eq_of_pairwise (fun _ _ _ _ h1 h2 => leS_anti h1 h2) (sortedS_pw ys h) (isort_pw l) (p.trans (isort_perm l).symm)
/-- sorted(texts) -/
def vSortedS (xs : List PV) : M PV := fun mh => match xs with
  | [x] => (match seqR mh x with
    | some ts => (match strsP ts with
      | some ss => if ss.length < 64 then .ok (.lst ((isort ss).map .str)) mh else .no
      | none => .no)
    | none => .no)
  | _ => .no
theorem callv_sortedS : CallV X (.builtin "sorted") vSortedS := by
  intro pins s σ H vs us Q I rv ⟨Ex, p, mh, xs, R, rx, h⟩
  unfold vSortedS at h
  split at h
  · obtain ⟨v, rfl, r⟩ := reps1 rx
    split at h
    · next ts e0 =>
      split at h
      · next ss e1 =>
        split at h
        · next hz =>
          obtain ⟨a, ws, rfl, hv, r⟩ := seqR_ok R r e0
          obtain rfl := strsP_ok r e1
          refine cr_sortedS pins s σ H _ us Q I rv ⟨a, ss, rfl, hv, hz, fun ys q hp hs hn => ?_⟩
          obtain rfl := isort_uniq hp hs
          obtain ⟨N, r⟩ := laidLst (Nx.refl R) (reps_strs (isort ss)) hn
          exact h p _ _ N r
        · exact h.elim
      · exact h.elim
    · exact h.elim
  · exact h.elim
def vJoin (x : PV) (xs : List PV) : M PV := fun mh => match x, xs with
  | .str a, [y] => (match seqR mh y with
    | some ts => (match strsP ts with
      | some ss => if (ss.map (·.length)).sum + ss.length * a.length ≤ 16777216 then .ok (.str (Txt.join a ss)) mh else .no
      | none => .no)
    | none => .no)
  | _, _ => .no
theorem mtv_join : MtV X "str.join" vJoin := by
  intro pins s σ H v vs vv us Q I rv rvs ⟨Ex, p, mh, x, xs, R, rx, rxs, h⟩
  unfold vJoin at h
  split at h
  · simp only [Rep] at rx; subst rx
    obtain ⟨w, rfl, r⟩ := reps1 rxs
    split at h
    · next ts e0 =>
      split at h
      · next ss e1 =>
        split at h
        · next hz =>
          obtain ⟨a, ws, rfl, hv, r⟩ := seqR_ok R r e0
          obtain rfl := strsP_ok r e1
          exact mt_join pins s σ H _ _ vv us Q I rv rvs ⟨_, a, ss, rfl, rfl, .inl hv, hz, h p H _ (Nx.refl R) (by simp only [Rep])⟩
        · exact h.elim
      · exact h.elim
    · exact h.elim
  · exact h.elim

/-! ### list(range(a, b, -1)) -/
def dnP (i j : Int) : List PV := (List.range (i - j).toNat).map fun k => .int (i + (k : Nat) * (-1))
def dnV (i j : Int) : List V := (List.range (i - j).toNat).map fun k => .int (i + (k : Nat) * (-1))
theorem reps_dn {K : PySem.W.Frag} {G : Hp} {p : Pm} (i j : Int) : Reps K G p (dnP i j) (dnV i j) := by
  unfold dnP dnV
  exact reps_of_get (n := 0) (fun k => by simp only [Rep]) _
theorem vals_dn {a b : Int} {acc : Array Value} (h : ItemsOf (fun i v => ∃ t, v = .int (a + i * (-1)) t) acc (a - b).toNat) : Vals (dnV a b) acc.toList := by
  have e : acc.toList.length = (a - b).toNat := by rw [Array.length_toList]; exact h.1
  unfold dnV
  rw [← e]
  refine vals_of_get acc.toList _ fun j u hj => ?_
  obtain ⟨t, rfl⟩ := h.2 j u (by rw [← hj, Array.getElem?_toList])
  exact ⟨t, rfl⟩
def dnOkB (i j : Int) : Bool := decide (-(2 ^ 62) ≤ i ∧ i < 2 ^ 62 ∧ -(2 ^ 62) ≤ j ∧ j < 2 ^ 62 ∧ i - j ≤ 16777216)
def mListRgD (fs : LS → M (List PV)) : LS → M PV := fun τ mh => (fs τ mh).bind fun xs m => match xs with
  | [.int i, .int j, .int (.negSucc 0)] => if dnOkB i j = true then .ok (.lst (dnP i j)) m else .no
  | _ => .no
theorem reps3 {K : PySem.W.Frag} {G : Hp} {p : Pm} {x y z : PV} {vs : List V} (r : Reps K G p [x, y, z] vs) : ∃ v w u, vs = [v, w, u] ∧ Rep K G p x v ∧ Rep K G p y w ∧ Rep K G p z u := by
  simp only [Reps] at r; obtain ⟨v, ws, rfl, r, w, us, rfl, r', u, zs, rfl, r'', rfl⟩ := r; exact ⟨v, w, u, rfl, r, r', r''⟩
theorem vals3 {x y z : V} {us : List Value} (h : Vals [x, y, z] us) : ∃ a b c, us = [a, b, c] ∧ RelV x a ∧ RelV y b ∧ RelV z c := by
  cases h with
  | cons r h =>
    cases h with
    | cons r2 h =>
      cases h with
      | cons r3 h => cases h; exact ⟨_, _, _, rfl, r, r2, r3⟩
theorem de_listRgD {a b c : Expr} {fs : LS → M (List PV)} {pos p p2 pos2 : Pos} (hc : X.calm = true) (hg : Gl X "list") (hm : X.mg "list" = none) (hg2 : Gl X "range") (hm2 : X.mg "range" = none) (ha : DA X [a, b, c] fs)
    (na : starEach [a, b, c] X.env = (false, eval a X.env) :: starEach [b, c] X.env := by rfl) (hp : (backTo pos2 (starEach [b, c] X.env)).any (·.1) = false := by rfl)
    (nc : starEach [.Call (.Name "range" p2) [a, b, c] [] pos2] X.env = (false, eval (.Call (.Name "range" p2) [a, b, c] [] pos2) X.env) :: starEach [] X.env := by rfl) :
    DE X (.Call (.Name "list" p) [.Call (.Name "range" p2) [a, b, c] [] pos2] [] pos) (mListRgD fs) := by
  refine ⟨fun pins s σ H Q I h => ?_⟩
  obtain ⟨Ex, pm, mh, τ, R, S, h⟩ := h
  have h0 : tOfA X.K fs σ H fun vs H1 => ∃ i j, vs = [.int i, .int j, .int (-1)] ∧ dnOkB i j = true ∧ ∀ t, H1 t = none → Q (.ref t) (upd H1 t (.lst (dnV i j))) := by
    refine ⟨Ex, pm, mh, τ, R, S, Rs.wants_mono (Rs.wants_bind.mp h) fun xs m1 h1 q1 H1 vs N1 r1 => ?_⟩
    split at h1
    · next i j =>
      obtain ⟨v, w, u, rfl, r1, r2, r3⟩ := reps3 r1
      simp only [Rep] at r1 r2 r3
      subst r1 r2 r3
      split at h1
      · next hz =>
        refine ⟨i, j, rfl, hz, fun t ht => ?_⟩
        obtain ⟨N3, r3⟩ := laidLst N1 (reps_dn i j) ht
        exact h1 q1 _ _ N3 r3
      · exact h1.elim
    · exact h1.elim
  refine PyProof.Rows.Call_ (ld_blt I hg hm bt_list (PyProof.Rows.callWith_type1 (PyProof.Rows.args_cons (PyProof.Rows.Call_ (ld_blt I hg2 hm2 PyProof.Rows.boot_range (PyProof.Rows.callWith_type1 (thn (ha.run pos2 pins s σ H _ I h0) fun us s1 ⟨vs, H1, I1, r1, q1⟩ => ?_) na hp))) nc) nc))
  obtain ⟨i, j, rfl, hz, q⟩ := q1
  have hz := of_decide_eq_true hz
  obtain ⟨c0, c1, c2, c3⟩ := RgC.neg hz.1 hz.2.1 hz.2.2.1 hz.2.2.2.1
  obtain ⟨v, w, u, rfl, ⟨t, rfl⟩, ⟨t', rfl⟩, ⟨t'', rfl⟩⟩ := vals3 r1
  refine call_range_3 c0 (PyProof.Rows.args_nil ?_) (.inl (PyProof.noPylong_small c1))
  have I2 : Inv X pins σ H1 { s1 with heap := s1.heap.push { cls := .type "range", data := .fields #[.int i t, .int j t', .int (-1) t''] } } := I1.kept (t' := s1.toks) fun b o e => Heap.get?_push_of_some _ e
  refine PySem.call_list_range (n := (i - j).toNat) (I2.ok.hd hc) (IsRange.new ..) c2 c3 (by omega) fun h' tk acc c' hk e' hi => ?_
  refine ⟨.ref _, upd H1 _ (.lst (dnV i j)), I2.laid hk (Nat.le_refl _) (show ObjOk X.prog X.w _ _ _ (.lst (dnV i j)) from ⟨?_, acc.toList, c', vals_dn hi, ?_⟩), rfl, q _ (I2.hok.fresh (Nat.le_refl _))⟩
  · unfold dnV; rw [List.length_map, List.length_range, sizeLine_eq]; omega
  · rw [Array.toArray_toList]; exact e'
end

/-! ### list(reversed(list)) -/
section
variable {prog : Program} {w : World} {A : Around} {E : Value → Shared → Prop} {s : Shared}
theorem rev_list {it l : Addr} {its : Array Value} {Q : Value → Shared → Prop} (hh : A.handled = none) (hit : s.heap.IsRevIter it l ((its.size : Int) - 1)) (hl : s.heap.IsList l its) (hne : l ≠ it) (hn : its.size ≤ sizeLine)
    (hQ : ∀ (h2 : Heap) (tk : Nat) (acc : Array Value) (c2 : Nat), (∀ b o, b ≠ it → s.heap.get? b = some o → h2.get? b = some o) → h2.get? s.heap.objs.size = some { cls := .type "list", dict := none, data := .seq acc c2, slots := #[] } →
      ItemsOf (fun i v => its[its.size - 1 - i]? = some v) acc its.size → Q (.ref s.heap.objs.size) { s with heap := h2, toks := tk }) :
    wpAny (model prog w) A (call (.type "list") [.ref it]) Q E s := by
  obtain ⟨oi, hoi, _⟩ := id hit
  obtain ⟨ol, hol, _⟩ := id hl
  have nSi : s.heap.objs.size ≠ it := Nat.ne_of_gt (Heap.lt_size hoi)
  have nSl : s.heap.objs.size ≠ l := Nat.ne_of_gt (Heap.lt_size hol)
  have nSf : s.heap.objs.size ∉ [it, l] := by simp only [List.mem_cons, List.not_mem_nil, or_false, not_or]; exact ⟨nSi, nSl⟩
  have Wk := (Walks.listRev (prog := prog) (w := w) (A := A.in1.in1) hh it l hne its).toS
  refine callType_codes (Q₁ := fun ob s1 => ob = .ref s.heap.objs.size ∧ s1 = { s with heap := s.heap.push { cls := .type "list", data := .seq #[] } }) F.called_list (F.typeCall_list_1 _) F.entry_list_init
    (code_list_new _ ⟨rfl, rfl⟩) fun ob s1 h1 => ?_
  obtain ⟨rfl, rfl⟩ := h1
  have gS : (s.heap.push { cls := .type "list", data := .seq #[] }).get? s.heap.objs.size = some { cls := .type "list", data := .seq #[] } := Heap.get?_push_size _ rfl
  refine ⟨⟨_, gS, rfl⟩, F.args_list_init_2 _ _, ?_⟩
  have gi : (s.heap.push { cls := .type "list", data := .seq #[] }).IsRevIter it l ((its.size : Int) - 1) := hit.at fun o e => Heap.get?_push_of_some _ e
  have gl : (s.heap.push { cls := .type "list", data := .seq #[] }).IsList l its := hl.push _
  generalize hz : s.heap.objs.size = S at *
  generalize hp : s.heap.push { cls := .type "list", data := .seq #[] } = hp1 at *
  have old : ∀ b o, s.heap.get? b = some o → hp1.get? b = some o := fun b o e => by rw [← hp]; exact Heap.get?_push_of_some _ e
  show wpAny _ _ (do let o1 ← Builtin.List.listItems (.ref S); Builtin.List.listUpdate (.ref S) (fun _ => #[]); letGo o1.toList.reverse; Builtin.List.listExtendWith (.ref S) (.ref it) .none) _ _ _
  refine wpAny_bind ?_
  unfold Builtin.List.listItems
  refine wpAny_bind (wpAny_seqItems gS rfl (wpAny_pure ?_))
  show wpAny _ _ (updateSeq S (fun _ => #[]) >>= fun _ => letGo (#[] : Array Value).toList.reverse >>= fun _ => Builtin.List.listExtendWith (.ref S) (.ref it) .none) _ _ _
  refine wpAny_bind (wpAny_updateSeq gS rfl ?_)
  have gS2 := Heap.get?_update_self (Obj.mapSeq (fun _ => (#[] : Array Value))) gS rfl
  have oth : ∀ b o, b ≠ S → hp1.get? b = some o → (hp1.update S (Obj.mapSeq (fun _ => (#[] : Array Value)))).get? b = some o :=
    fun b o hb e => (Heap.get?_update_other _ _ (Ne.symm hb)).trans e
  refine wpAny_bind (wpAny_letGo ?_)
  have gi2 : (hp1.update S (Obj.mapSeq (fun _ => (#[] : Array Value)))).IsRevIter it l ((its.size : Int) - 1) := gi.at fun o e => oth it o (Ne.symm nSi) e
  have gl2 : (hp1.update S (Obj.mapSeq (fun _ => (#[] : Array Value)))).IsList l its := by
    obtain ⟨o, e1, e2⟩ := gl
    exact ⟨o, oth l o (Ne.symm nSl) e1, e2⟩
  have old2 : ∀ b o, s.heap.get? b = some o → (hp1.update S (Obj.mapSeq (fun _ => (#[] : Array Value)))).get? b = some o := fun b o e => oth b o (fun z => absurd (Heap.lt_size e) (by rw [z, ← hz]; exact Nat.lt_irrefl _)) (old b o e)
  generalize hp1.update S (Obj.mapSeq (fun _ => (#[] : Array Value))) = hp2 at *
  have hT : ({ s with heap := hp2 } : Shared).TypeIs (.ref it) "list_reverseiterator" := Heap.IsRevIter.typeIs (s := { s with heap := hp2 }) gi2
  have nr : Builtin.List.listSameRef (.ref S) (.ref it) = false := by simp [Builtin.List.listSameRef, nSi]
  unfold Builtin.List.listExtendWith
  refine wpAny_bind (wpAny_typeOf hT ?_)
  rw [if_neg (by rw [nr]; decide)]
  refine wpAny_bind (wpAny_pyIter_revIter (s := { s with heap := hp2 }) gi2 ?_)
  refine wpAny_bind (wpAny_holding ?_)
  unfold Builtin.List.listLengthHint
  refine wpAny_bind (wpAny_specialOf hT RT.nolen_lri ?_)
  show wpAny _ A.in1.in1 (specialOf (Value.ref it) (Str.ofString "__length_hint__") >>= _) _ _ _
  refine wpAny_bind (wpAny_specialOf hT RT.hint_lri ?_)
  generalize hid : ("list_reverseiterator.__length_hint__" : String) = id0
  wp_delta
  rw [show splitId id0 = some ("list_reverseiterator", "__length_hint__") from by subst hid; decide +kernel]
  subst hid
  refine wpAny_bind (wpAny_isInstance (b := true) hT (by rw [isSubtype_type]; kernel_rfl) ?_)
  refine wpAny_pure ?_
  rw [if_neg (by decide)]
  have e0 : ((its.size : Nat) : Int) - 1 - ((0 : Nat) : Int) = (its.size : Int) - 1 := by omega
  refine wpAny_pure ⟨plainId_quiet F.plain_extend_loop _, codeAny_extend_loopS Wk hn _ nSf _ its.size 0 _ _ _ rfl (Nat.zero_le _) ⟨Nat.zero_le _, by rw [e0]; exact gi2, gl2⟩ gS2 (ItemsOf.nil _) fun s' acc' c' hm hS' hacc => ?_⟩
  rw [Moved.eq_with hm]
  refine ⟨rfl, ?_⟩
  refine hQ s'.heap s'.toks acc' c' (fun b o hb e => hm.heap b o (fun hmem => ?_) (old2 b o e)) hS' hacc
  rcases List.mem_cons.mp hmem with e' | hmem
  · exact absurd (Heap.lt_size e) (by rw [e', ← hz]; exact Nat.lt_irrefl _)
  · exact hb (List.mem_singleton.mp hmem)
end

section
variable {X : Cx}
def mListRev' (loc : Bool) (f : LS → M PV) : LS → M PV := fun τ mh => (f τ mh).bind fun x m => match seqR m x with
  | some ts => putL loc ts.reverse m
  | none => .no
abbrev mListRev := mListRev' false
abbrev mListRevL := mListRev' true
theorem de_listRev' {e : Expr} {f : LS → M PV} {pos p p2 pos2 : Pos} (loc : Bool) (hc : X.calm = true) (hg : Gl X "list") (hm : X.mg "list" = none) (hg2 : Gl X "reversed") (hm2 : X.mg "reversed" = none) (he : DE X e f)
    (na : starEach [e] X.env = (false, eval e X.env) :: starEach [] X.env := by rfl)
    (nc : starEach [.Call (.Name "reversed" p2) [e] [] pos2] X.env = (false, eval (.Call (.Name "reversed" p2) [e] [] pos2) X.env) :: starEach [] X.env := by rfl) :
    DE X (.Call (.Name "list" p) [.Call (.Name "reversed" p2) [e] [] pos2] [] pos) (mListRev' loc f) := by
  refine ⟨fun pins s σ H Q I h => ?_⟩
  obtain ⟨Ex, pm, mh, τ, R, S, h⟩ := h
  have h0 : tOf X.K f σ H fun v H1 => ∃ a vs, v = .ref a ∧ SqL X.K H1 a vs ∧ ∀ t, H1 t = none → Q (.ref t) (upd H1 t (.lst vs.reverse)) := by
    refine ⟨Ex, pm, mh, τ, R, S, Rs.wants_mono (Rs.wants_bind.mp h) fun x m1 h1 q1 H1 v N1 r1 => ?_⟩
    split at h1
    · next ts e0 =>
      obtain ⟨a, vs, rfl, hv, r⟩ := seqR_ok N1.rl r1 e0
      exact ⟨a, vs, rfl, hv, fun t ht => putL_ok N1 r.rev ht h1⟩
    · exact h1.elim
  refine PyProof.Rows.Call_ (ld_blt I hg hm bt_list (PyProof.Rows.callWith_type1 (PyProof.Rows.args_cons (PyProof.Rows.Call_ (ld_blt I hg2 hm2 PyProof.Rows.boot_reversed (PyProof.Rows.callWith_type1 (PyProof.Rows.args_cons (thn (he.run pins s σ H _ I h0) fun u s1 ⟨v, H1, I1, r1, q1⟩ => PyProof.Rows.args_nil ?_) na) na rfl))) nc) nc rfl))
  obtain ⟨a, xs, rfl, hq, q⟩ := q1
  obtain rfl : u = Value.ref a := r1
  obtain ⟨its, rv, p', hz⟩ := I1.list hq
  refine call_reversed_list p'.isList (PyProof.Rows.args_nil ?_)
  have k0 : ∀ b o, s1.heap.get? b = some o → (s1.heap.push (revObj a ((its.toArray.size : Int) - 1))).get? b = some o := fun b o e => Heap.get?_push_of_some _ e
  have I2 : Inv X pins σ H1 { s1 with heap := s1.heap.push (revObj a ((its.toArray.size : Int) - 1)) } := I1.kept (t' := s1.toks) k0
  obtain ⟨f0, f1, f2, f3, f4, f5⟩ := I1.fpOk (H' := H1) (b := s1.heap.objs.size) (Nat.le_refl _) (I1.hok.fresh (Nat.le_refl _))
  have hl := p'.isList
  obtain ⟨ol, hol, _⟩ := id hl
  have hne : a ≠ s1.heap.objs.size := Nat.ne_of_lt (Heap.lt_size hol)
  have hn : its.toArray.size ≤ sizeLine := by rw [List.size_toArray, ← rv.length]; exact hz
  have hz2 : (s1.heap.push (revObj a ((its.toArray.size : Int) - 1))).objs.size = s1.heap.objs.size + 1 := Heap.size_push ..
  refine rev_list (s := { s1 with heap := s1.heap.push (revObj a ((its.toArray.size : Int) - 1)) }) (I1.ok.hd hc) ⟨_, Heap.get?_push_size _ rfl, rfl, rfl⟩ (hl.push _) hne hn fun h' tk acc c2 hk e' hi => ?_
  have nb : s1.heap.objs.size ≠ (s1.heap.push (revObj a ((its.toArray.size : Int) - 1))).objs.size := by rw [hz2]; omega
  have e3 : h'.get? (s1.heap.push (revObj a ((its.toArray.size : Int) - 1))).objs.size = some { cls := .type "list", dict := none, data := .seq acc c2, slots := #[] } := e'
  refine ⟨.ref _, upd H1 _ (.lst xs.reverse), I1.laid (t' := tk) (fun b o e => hk b o (fun z => absurd (Heap.lt_size e) (by rw [z]; exact Nat.lt_irrefl _)) (k0 b o e)) (by rw [hz2]; omega) (show ObjOk X.prog X.w _ _ _ (.lst xs.reverse) from ⟨by rw [List.length_reverse]; exact hz, acc.toList, c2, RT.vals_rev rv hi, ?_⟩), rfl, q _ (I1.hok.fresh (by rw [hz2]; omega))⟩
  rw [Array.toArray_toList]
  exact e3
theorem de_listRev {e : Expr} {f : LS → M PV} {pos p p2 pos2 : Pos} (hc : X.calm = true) (hg : Gl X "list") (hm : X.mg "list" = none) (hg2 : Gl X "reversed") (hm2 : X.mg "reversed" = none) (he : DE X e f)
    (na : starEach [e] X.env = (false, eval e X.env) :: starEach [] X.env := by rfl)
    (nc : starEach [.Call (.Name "reversed" p2) [e] [] pos2] X.env = (false, eval (.Call (.Name "reversed" p2) [e] [] pos2) X.env) :: starEach [] X.env := by rfl) :
    DE X (.Call (.Name "list" p) [.Call (.Name "reversed" p2) [e] [] pos2] [] pos) (mListRev f) := de_listRev' false hc hg hm hg2 hm2 he na nc
theorem de_listRevL {e : Expr} {f : LS → M PV} {pos p p2 pos2 : Pos} (hc : X.calm = true) (hg : Gl X "list") (hm : X.mg "list" = none) (hg2 : Gl X "reversed") (hm2 : X.mg "reversed" = none) (he : DE X e f)
    (na : starEach [e] X.env = (false, eval e X.env) :: starEach [] X.env := by rfl)
    (nc : starEach [.Call (.Name "reversed" p2) [e] [] pos2] X.env = (false, eval (.Call (.Name "reversed" p2) [e] [] pos2) X.env) :: starEach [] X.env := by rfl) :
    DE X (.Call (.Name "list" p) [.Call (.Name "reversed" p2) [e] [] pos2] [] pos) (mListRevL f) := de_listRev' true hc hg hm hg2 hm2 he na nc
end

/-! ### enumerate(text) -/
theorem draws_str {prog : Program} {w : World} {A : Around} (hh : A.handled = none) (it : Addr) (z : Str) (t : Tok) :
    Draws prog w A it [it] z.cps.size (fun i v => ∃ c u, z.cps[i]? = some c ∧ v = .str ⟨#[c]⟩ u) (fun i h => h.IsStrIter it (strIterType z) z t i) := by
  by_cases ha : z.cps.all (· < 128)
  · have e : strIterType z = "str_ascii_iterator" := by unfold strIterType; rw [if_pos ha]
    rw [e]; exact Draws.strAscii hh it z t
  · have e : strIterType z = "str_iterator" := by unfold strIterType; rw [if_neg ha]
    rw [e]; exact Draws.strWide hh it z t
/-- the signs of z, each in a new pair -/
def Ites (z : Str) : It :=
  ⟨fun i _ => i < z.cps.size, fun i H v H' => ∃ T c, v = .ref T ∧ H T = none ∧ H' = upd H T (.tup [.int (i : Nat), .str ⟨#[c]⟩]) ∧ z.cps[i]? = some c, fun i _ => i = z.cps.size⟩
theorem turn_enumS {P : Program} {w : World} {K : PySem.W.Frag} {elts : List Expr} {kk : Nat} {tpos : Pos} (z : Str) (t : Tok) (e it : Addr) :
    Turn P w K (.Tuple elts kk tpos) (Ites z) [e, it] e (fun i h => (∃ old, IsEnum h e it ((i : Nat) : Int) old) ∧ h.IsStrIter it (strIterType z) z t i ∧ e ≠ it) where
  mem := by simp
  obj := fun i h st b hb => by
    obtain ⟨⟨old, he⟩, ⟨o, ho, hc, hd⟩, _⟩ := st
    have e' : b = e ∨ b = it := by simpa using hb
    rcases e' with y | y
    · rw [y]; exact ⟨_, he, fun v q => nomatch q⟩
    · rw [y]; exact ⟨o, ho, fun v q => by rw [hd] at q; cases q⟩
  keep := fun i h h2 st k => by
    obtain ⟨⟨old, he⟩, ⟨o, ho, hr⟩, hne⟩ := st
    exact ⟨⟨old, k e (by simp) _ he⟩, ⟨o, k it (by simp) o ho, hr⟩, hne⟩
  item := by
    intro X hP hw hK hc i pins s σ H E I hf st hg
    subst hP hw hK
    obtain ⟨⟨old, he⟩, hit, hne⟩ := st
    have hg : i < z.cps.size := hg
    have hel : e < s.heap.objs.size := Heap.lt_size he
    have hil : it < s.heap.objs.size := by obtain ⟨_, q, _⟩ := hit; exact Heap.lt_size q
    have D := draws_str (prog := X.prog) (w := X.w) (A := X.A.in1) (I.ok.hd hc) it z t
    refine wpAny_pyNext_enum_itemD D he hit hg hne (by simpa using hne) fun u h2 tk hu ho hit2 hT hsz hk => ?_
    obtain ⟨c, tc, ec, rfl⟩ := hu
    refine ⟨_, rfl, wpAny_letOwnedTupleGo_enum (s := { s with heap := h2, toks := tk + 1 }) ho fun h3 he3 sb => ?_⟩
    have hT2 : h3.get? s.heap.objs.size = some { cls := .type "tuple", data := .seq #[.int i tk, .str ⟨#[c]⟩ tc] } := (sb.2 _ (Nat.ne_of_gt hel)).trans hT
    have new : ObjOk X.prog X.w (upd H s.heap.objs.size (.tup [.int (i : Nat), .str ⟨#[c]⟩])) h3 s.heap.objs.size (.tup [.int (i : Nat), .str ⟨#[c]⟩]) :=
      ⟨by show 2 ≤ sizeLine; decide, [.int i tk, .str ⟨#[c]⟩ tc], .cons ⟨_, rfl⟩ (.cons ⟨_, rfl⟩ .nil), ⟨_, hT2, rfl, _, rfl⟩⟩
    have I1 : Inv X pins σ (upd H s.heap.objs.size (.tup [.int (i : Nat), .str ⟨#[c]⟩])) { s with heap := h3, toks := tk + 1 } :=
      I.turnedNew (ch := [e, it]) (fun b ob hb q => (sb.2 b (fun y => hb (by simp [y]))).trans (hk b ob (fun y => hb (by simp [y])) (fun y => hb (by simp [y])) q)) hf (Nat.le_refl _) new
    refine ⟨.ref s.heap.objs.size, _, I1, rfl, ⟨_, c, rfl, I.hok.fresh (Nat.le_refl _), rfl, ec⟩, ⟨⟨.str ⟨#[c]⟩ tc, ?_⟩, ?_, hne⟩, fun b hb => ?_⟩
    · have e1 : ((i + 1 : Nat) : Int) = (i : Int) + 1 := by omega
      rw [e1]; exact he3
    · obtain ⟨o, ho2, hr⟩ := hit2
      exact ⟨o, (sb.2 it (Ne.symm hne)).trans ho2, hr⟩
    · have hb' : b < s.heap.objs.size := by
        have e' : b = e ∨ b = it := by simpa using hb
        rcases e' with y | y
        · rw [y]; exact hel
        · rw [y]; exact hil
      rw [upd_ne (Nat.ne_of_lt hb')]
      exact (hf b hb).1
  done := by
    intro X hP hw hK hc i pins s σ H E I hf st hg
    subst hP hw hK
    obtain ⟨⟨old, he⟩, hit, hne⟩ := st
    have hg : i = z.cps.size := hg
    subst hg
    obtain ⟨f0, f1, f2, f3, f4, f5⟩ := hf it (by simp)
    have D := draws_str (prog := X.prog) (w := X.w) (A := X.A.in1) (I.ok.hd hc) it z t
    exact wpAny_pyNext_enum_endD D he hit fun h2 eb => ⟨rfl, I.turned (t' := s.toks) (fun b o hb q => eb b o hb q) f0 f1 f3 f4 f5⟩
  self := fun A i s Q E st h => let ⟨⟨_, he⟩, _⟩ := st; wpAny_pyIter_enum he h
section
variable {X : Cx}
def iEnumS (ta : TA) : TI := fun σ H R => ta σ H fun vs H1 => ∃ z, vs = [.str z] ∧ R (Ites z) H1
theorem pi_enumS {e : Expr} {ta : TA} {p pos tpos : Pos} {elts : List Expr} {kk : Nat} (hg : Gl X "enumerate") (hm : X.mg "enumerate" = none) (ha : PA X [e] ta) (hs : starEach [e] X.env = [(false, eval e X.env)] := by rfl) :
    PI X (.Tuple elts kk tpos) (.Call (.Name "enumerate" p) [e] [] pos) (iEnumS ta) := by
  refine ⟨fun pins s σ H R I h => ?_⟩
  refine PyProof.Rows.Call_ (ld_blt I hg hm PyProof.Rows.boot_enumerate (PyProof.Rows.callWith_type1 (thn (ha.run pos pins s σ H _ I h) fun us s1 ⟨vs, H1, I1, r1, z, ez, q⟩ => ?_) hs rfl))
  subst ez
  obtain ⟨u, rfl, t, rfl⟩ := vals1 r1
  refine call_enumerate_str fun h2 he hit hsz hk => wpAny_pyIter_enum he ?_
  have I2 : Inv X pins σ H1 { s1 with heap := h2 } := I1.kept (t' := s1.toks) hk
  refine ⟨s1.heap.objs.size + 1, [s1.heap.objs.size + 1, s1.heap.objs.size], _, _, H1, rfl, I2, turn_enumS z t (s1.heap.objs.size + 1) s1.heap.objs.size, ⟨⟨.none, he⟩, hit, Nat.succ_ne_self _⟩, fun b hb => ?_, q⟩
  have e' : b = s1.heap.objs.size + 1 ∨ b = s1.heap.objs.size := by simpa using hb
  have hle : s1.heap.objs.size ≤ b := by
    rcases e' with y | y
    · rw [y]; exact Nat.le_add_right _ _
    · rw [y]; exact Nat.le_refl _
  exact I1.fpOk hle (I1.hok.fresh hle)
def srcES (xs : List PV) : M Src := fun mh => match xs with
  | [.str z] => if z.cps.size ≤ sizeLine then .ok (Src.lst (signs z)).enum mh else .no
  | _ => .no
theorem gs_enumS {K : PySem.W.Frag} {Ex : List Addr} {p : Pm} {mh : List PV} {H : Hp} {z : Str} (hl : z.cps.size ≤ sizeLine) (R : Rl K Ex p mh H) : Gs K (Ites z) (Src.lst (signs z)).enum Ex p H where
  len := by show (signs z).length ≤ _; unfold signs; rw [List.length_map, Array.length_toList]; exact hl
  stop := fun Ex' q mh H' N _ => by show (signs z).length = _; unfold signs; rw [List.length_map, Array.length_toList]
  go := fun Ex' q mh H' N _ i hi => by have hi : i < (signs z).length := hi; unfold signs at hi; rw [List.length_map, Array.length_toList] at hi; exact hi
  yld := fun Ex' q mh H' N _ i hi v H'' y => by
    obtain ⟨T, c, rfl, hn, rfl, ec⟩ := y
    obtain ⟨N2, r2⟩ := laidTup (ts := [.int i, .str ⟨#[c]⟩]) (vs := [.int i, .str ⟨#[c]⟩]) (Nx.refl N.rl) (Reps.cons (by simp only [Rep]) (Reps.cons (by simp only [Rep]) Reps.nil)) hn
    refine ⟨.tup [.int i, .str ⟨#[c]⟩], ?_, N2, r2⟩
    show ((signs z)[i]?).map _ = _
    unfold signs
    rw [List.getElem?_map, Array.getElem?_toList, ec]; rfl
theorem di_enumS {a : Expr} {p pos tpos : Pos} {elts : List Expr} {kk : Nat} {fs : LS → M (List PV)} (hg : Gl X "enumerate") (hm : X.mg "enumerate" = none) (ha : DA X [a] fs) (hs : starEach [a] X.env = [(false, eval a X.env)] := by rfl) :
    DI X (.Tuple elts kk tpos) (.Call (.Name "enumerate" p) [a] [] pos) (mItA fs srcES) := by
  refine PI.to (pi_enumS hg hm ha hs) fun σ H R h => ?_
  obtain ⟨Ex, p, mh, τ, RL, S, h⟩ := h
  refine ⟨Ex, p, mh, τ, RL, S, Rs.wants_mono (Rs.wants_bind.mp h) fun x m1 h1 q1 H1 v N1 r1 => ?_⟩
  unfold srcES at h1
  split at h1
  · obtain ⟨w, rfl, r⟩ := reps1 r1
    simp only [Rep] at r; subst r
    split at h1
    · next z hz => exact ⟨z, rfl, h1 q1 H1 _ N1 (gs_enumS hz N1.rl)⟩
    · exact h1.elim
  · exact h1.elim
end
end ML

set_option Elab.async false
set_option linter.all false
set_option maxRecDepth 100000
/-! ML11: comprehensions of two fors. -/
namespace ML
open PySem PySem.Spec L2

def compT (S : Src) (G : PV → LS → M LS) (t : LS → M Bool) (f1 : LS → M Src) (G1 : PV → LS → M LS) (t1 : LS → M Bool) (e : LS → M PV) (vs1 : List Nat) (τ : LS) : Nat → List PV → M (List PV)
  | 0, acc, mh => if S.ok mh = true then .ok acc mh else .no
  | k + 1, acc, mh => if S.ok mh = true then (match S.it (S.n - (k + 1)) mh with
    | none => .no
    | some x => (G x τ mh).bind fun τ1 m1 => (t τ1 m1).bind fun b m2 => if b = true then (f1 τ1 m2).bind fun S1 m3 =>
        if acc.length + S1.n ≤ sizeLine then (compS S1 G1 t1 e (wipeL τ1 vs1) S1.n acc m3).bind fun acc2 m4 => compT S G t f1 G1 t1 e vs1 τ k acc2 m4 else .no
      else compT S G t f1 G1 t1 e vs1 τ k acc m2) else .no
def mCompT (f : LS → M Src) (G : PV → LS → M LS) (t : LS → M Bool) (f1 : LS → M Src) (G1 : PV → LS → M LS) (t1 : LS → M Bool) (e : LS → M PV) (vs vs1 : List Nat) : LS → M (List PV) := fun τ mh => (f τ mh).bind fun S m => compT S G t f1 G1 t1 e vs1 (wipeL τ vs) S.n [] m
def mComp2 (f : LS → M Src) (G : PV → LS → M LS) (t : LS → M Bool) (f1 : LS → M Src) (G1 : PV → LS → M LS) (t1 : LS → M Bool) (e : LS → M PV) (vs vs1 : List Nat) : LS → M PV := fun τ mh => (mCompT f G t f1 G1 t1 e vs vs1 τ mh).bind fun xs m => .ok (.lst xs) m
theorem Lt.nx {K : PySem.W.Frag} {Ex Ex2 : List Addr} {p q r : Pm} {H H1 H2 : Hp} {m1 m2 : List PV} (L : Lt K Ex p H Ex2 q m1 H1) (N : Nx K Ex2 q H1 r m2 H2) : Lt K Ex p H Ex2 r m2 H2 :=
  ⟨L.le.trans N.le, N.rl, fun b u e => N.same b u (L.same b u e)⟩
theorem Nd.lt {K : PySem.W.Frag} {Ex : List Addr} {D : Addr} {p q : Pm} {H H' : Hp} {mh' acc : List PV} (hD : H D = none) (N : Nd K Ex D p H q mh' H' acc) : Lt K Ex p H (D :: Ex) q mh' H' := by
  obtain ⟨r2, e2⟩ := N.pre
  refine ⟨by rw [e2]; exact Le.app _ _, N.rl, fun b u e => ?_⟩
  obtain ⟨h, z⟩ := Gz.some e
  rw [List.mem_append, not_or] at z
  refine Gz.of (N.keep b u z.2 h) ?_
  rw [List.cons_append, List.mem_cons, not_or, List.mem_append, not_or]
  refine ⟨ne_of_none h hD, z.1, fun y => ?_⟩
  rcases N.new b y with y | y
  · exact z.2 y
  · rw [h] at y; cases y
theorem Nd.whole {K : PySem.W.Frag} {Ex : List Addr} {D : Addr} {p q1 q : Pm} {H H1 H' : Hp} {m1 mh' acc : List PV} (N1 : Nx K Ex p H q1 m1 H1) (N : Nd K Ex D q1 H1 q mh' H' acc) : Nd K Ex D p H q mh' H' acc := by
  obtain ⟨r1, e1⟩ := N1.pre
  obtain ⟨r2, e2⟩ := N.pre
  refine ⟨⟨r1 ++ r2, by rw [e2, e1, List.append_assoc]⟩, N.rl, fun b o hb h => ?_, fun a ha => ?_, N.at_⟩
  · refine N.keep b o (fun z => ?_) (N1.keep b o hb h)
    rcases N1.new b z with z | z
    · exact hb z
    · rw [h] at z; cases z
  · rcases N.new a ha with z | z
    · exact N1.new a z
    · by_cases hp : a ∈ fp p
      · exact .inl hp
      · cases e : H a with
        | none => exact .inr rfl
        | some o => rw [N1.keep a o hp e] at z; cases z
theorem Lt.push {K : PySem.W.Frag} {Ex Ex2 : List Addr} {D : Addr} {p q : Pm} {H H1 : Hp} {m1 : List PV} {o : HO} (L : Lt K Ex p H (D :: Ex2) q m1 H1) (r : Rl K (D :: Ex2) q m1 (upd H1 D o)) : Lt K Ex p H (D :: Ex2) q m1 (upd H1 D o) :=
  ⟨L.le, r, fun b u e => by
    have := L.same b u e
    show Gr (D :: Ex2) q (upd H1 D o) b = some u
    rw [side_upd]; exact this⟩
section
variable {X : Cx} {f f1 : LS → M Src} {G G1 : PV → LS → M LS} {t t1 : LS → M Bool} {e : LS → M PV} {ws ws1 : List Nat}
theorem comp2_in {σ : L2.St} {H : Hp} {vs vs1 : List Nat} {Q : VK} (hw : ∀ i ∈ ws, i ∈ vs) (hw1 : ∀ i ∈ ws1, i ∈ vs1) (h : tOf X.K (mComp2 f G t f1 G1 t1 e vs vs1) σ H Q) :
    tLc2 (iOf X.K f) (gOf X.K ws G) (tOfT X.K t) (iOf X.K f1) (gOf X.K ws1 G1) (tOfT X.K t1) (tOf X.K e) vs vs1 σ H Q := by
  obtain ⟨Ex, p, mh, τ, RL, S, h⟩ := h
  have h := Rs.wants_bind.mp h
  refine ⟨Ex, p, mh, τ, RL, S, Rs.wants_mono (Rs.wants_bind.mp h) fun Sr m1 h1 q1 H1 J N1 GS D hD => ?_⟩
  have hD0 : H D = none := by
    cases q : H D with
    | none => rfl
    | some o =>
      by_cases hp : D ∈ fp p
      · obtain ⟨n, e⟩ := mem_fp.mp hp
        obtain ⟨u, e2⟩ := N1.rl.live (mem_fp.mpr ⟨n, N1.le n D e⟩)
        rw [hD] at e2; cases e2
      · rw [N1.keep D o hp q] at hD; cases hD
  have S1 := (S.mono N1.same N1.le).wipe vs
  refine ⟨fun i m H' => i + m = Sr.n ∧ ∃ q mh' acc, Nd X.K Ex D q1 H1 q mh' H' acc ∧ (compT Sr G t f1 G1 t1 e vs1 (wipeL τ vs) m acc mh').wants fun acc m => (Rs.ok (PV.lst acc) m).wants fun t mh' => ∀ q H' v, Nx X.K Ex p H q mh' H' → Rep X.K (Gr Ex q H') q t v → Q v H',
    ⟨Sr.n, by omega, q1, m1, [], Nd.start N1.rl hD, h1⟩, ?_⟩
  rintro i m H' ⟨him, q, mh', acc, N, hw'⟩
  have L := N.lt hD
  have Sq : RSt X.K (Gr (D :: Ex) q H') q (L2.wipe σ vs) (wipeL τ vs) := S1.mono L.same L.le
  cases m with
  | zero =>
    have ei : i = Sr.n := by omega
    subst ei
    unfold compT at hw'
    split at hw'
    · next ok =>
      refine .inl ⟨GS.stop _ q mh' H' L ok, ?_⟩
      obtain ⟨N2, r2⟩ := (Nd.whole N1 N).fin RL hD0
      exact hw' q H' _ N2 r2
    · exact hw'.elim
  | succ k =>
    unfold compT at hw'
    split at hw'
    · next ok =>
      have ei : Sr.n - (k + 1) = i := by omega
      rw [ei] at hw'
      split at hw'
      · exact hw'.elim
      · next x ex =>
        have hi : i < Sr.n := by omega
        refine .inr ⟨GS.go _ q mh' H' L ok i hi, fun H2 => i + 1 + k = Sr.n ∧ ∃ q mh' acc, Nd X.K Ex D q1 H1 q mh' H2 acc ∧ (compT Sr G t f1 G1 t1 e vs1 (wipeL τ vs) k acc mh').wants fun acc m => (Rs.ok (PV.lst acc) m).wants fun t mh' => ∀ q H' v, Nx X.K Ex p H q mh' H' → Rep X.K (Gr Ex q H') q t v → Q v H',
          fun H2 w => ⟨k, Nat.lt_succ_self k, w⟩, fun v H2 hy => ?_⟩
        obtain ⟨x', ex', N2, r2⟩ := GS.yld _ q mh' H' L ok i hi v H2 hy
        rw [ex] at ex'; cases ex'
        refine ⟨D :: Ex, q, mh', wipeL τ vs, x, N2.rl, Sq.mono N2.same N2.le, r2, Rs.wants_mono (Rs.wants_bind.mp hw') fun τ1 m2 h2 q3 H3 σ3 N3 S3 e3 => ⟨?_, ?_⟩⟩
        · exact wipe_back e3.1 hw e3.2
        · have N4 := (N.step hD N2).step hD N3
          refine ⟨D :: Ex, q3, m2, τ1, N3.rl, S3, Rs.wants_mono (Rs.wants_bind.mp h2) fun b m3 h3 q4 H4 N5 => ?_⟩
          have N6 := N4.step hD N5
          have S4 := S3.mono N5.same N5.le
          cases b with
          | false =>
            rw [if_neg Bool.false_ne_true] at h3
            refine iteF ?_
            exact ⟨by omega, q4, m3, acc, N6, h3⟩
          | true =>
            rw [if_pos rfl] at h3
            refine iteT ?_
            refine ⟨D :: Ex, q4, m3, τ1, N5.rl, S4, Rs.wants_mono (Rs.wants_bind.mp h3) fun Si m4 h4 q5 H5 J1 N7 GI => ?_⟩
            split at h4
            · next hz =>
              have N8 := N6.step hD N7
              have S5 := (S4.mono N7.same N7.le).wipe vs1
              refine ⟨fun j m HH => j + m = Si.n ∧ ∃ r mm ac, Nd X.K Ex D q1 H1 r mm HH ac ∧ Lt X.K (D :: Ex) q5 H5 (D :: Ex) r mm HH ∧ ac.length ≤ acc.length + j ∧ (compS Si G1 t1 e (wipeL τ1 vs1) m ac mm).wants fun acc2 m4 => (compT Sr G t f1 G1 t1 e vs1 (wipeL τ vs) k acc2 m4).wants fun acc m => (Rs.ok (PV.lst acc) m).wants fun t mh' => ∀ q H' v, Nx X.K Ex p H q mh' H' → Rep X.K (Gr Ex q H') q t v → Q v H',
                ⟨Si.n, by omega, q5, m4, acc, N8, (Nx.refl N7.rl).lt, Nat.le_refl _, Rs.wants_bind.mp h4⟩, ?_⟩
              rintro j mi HH ⟨hjm, r, mm, ac, NN, LL, hac, hv⟩
              have Sr5 : RSt X.K (Gr (D :: Ex) r HH) r (L2.wipe σ3 vs1) (wipeL τ1 vs1) := S5.mono LL.same LL.le
              cases mi with
              | zero =>
                have ej : j = Si.n := by omega
                subst ej
                unfold compS at hv
                split at hv
                · next ok1 => exact .inl ⟨GI.stop _ r mm HH LL ok1, by omega, r, mm, ac, NN, hv⟩
                · exact hv.elim
              | succ ki =>
                unfold compS at hv
                split at hv
                · next ok1 =>
                  have ej : Si.n - (ki + 1) = j := by omega
                  rw [ej] at hv
                  split at hv
                  · exact hv.elim
                  · next y ey =>
                    have hj : j < Si.n := by omega
                    refine .inr ⟨GI.go _ r mm HH LL ok1 j hj, fun HH => j + 1 + ki = Si.n ∧ ∃ r mm ac, Nd X.K Ex D q1 H1 r mm HH ac ∧ Lt X.K (D :: Ex) q5 H5 (D :: Ex) r mm HH ∧ ac.length ≤ acc.length + (j + 1) ∧ (compS Si G1 t1 e (wipeL τ1 vs1) ki ac mm).wants fun acc2 m4 => (compT Sr G t f1 G1 t1 e vs1 (wipeL τ vs) k acc2 m4).wants fun acc m => (Rs.ok (PV.lst acc) m).wants fun t mh' => ∀ q H' v, Nx X.K Ex p H q mh' H' → Rep X.K (Gr Ex q H') q t v → Q v H',
                      fun HH w => ⟨ki, Nat.lt_succ_self ki, w⟩, fun vv HA hyy => ?_⟩
                    obtain ⟨y', ey', NA, rA⟩ := GI.yld _ r mm HH LL ok1 j hj vv HA hyy
                    rw [ey] at ey'; cases ey'
                    refine ⟨D :: Ex, r, mm, wipeL τ1 vs1, y, NA.rl, Sr5.mono NA.same NA.le, rA, Rs.wants_mono (Rs.wants_bind.mp hv) fun τ2 mB hB rB HB σB NB SB eB => ⟨?_, ?_⟩⟩
                    · exact wipe_back eB.1 hw1 eB.2
                    · have NC := (NN.step hD NA).step hD NB
                      have LC := (LL.nx NA).nx NB
                      refine ⟨D :: Ex, rB, mB, τ2, NB.rl, SB, Rs.wants_mono (Rs.wants_bind.mp hB) fun bb mC hC rC HC ND => ?_⟩
                      have NE := NC.step hD ND
                      have LE := LC.nx ND
                      cases bb with
                      | false =>
                        rw [if_neg Bool.false_ne_true] at hC
                        refine iteF ?_
                        exact ⟨by omega, rC, mC, ac, NE, LE, by omega, hC⟩
                      | true =>
                        rw [if_pos rfl] at hC
                        refine iteT ?_
                        refine ⟨D :: Ex, rC, mC, τ2, ND.rl, SB.mono ND.same ND.le, Rs.wants_mono (Rs.wants_bind.mp hC) fun z mF hF rF HF yv NF rrF => ?_⟩
                        have NG := NE.step hD NF
                        have LG := LE.nx NF
                        obtain ⟨ws', hvs, rr⟩ := NG.at_
                        have NP := NG.push hD rrF hvs
                        refine ⟨ws', hvs, ?_, by omega, rF, mF, ac ++ [z], NP, LG.push NP.rl, by rw [List.length_append]; show ac.length + 1 ≤ _; omega, hF⟩
                        have := rr.len
                        omega
                · exact hv.elim
            · exact h4.elim
    · exact hw'.elim
variable {elt tg iter tg1 iter1 : Expr} {ifs ifs1 : List Expr} {scope : Scope} {own : List (Str × Nat)} {pos : Pos} {vs1 : List Nat}
theorem de_comp2 (hc : X.calm = true) (hN : X.N.Nodup) (hi : DI X tg iter f) (ok : BlkOk X.N X.env.scope scope own) (hw : ∀ i ∈ ws, i ∈ own.map (·.2)) (hv : ∀ i ∈ vs1, i ∈ own.map (·.2)) (hw1 : ∀ i ∈ ws1, i ∈ vs1)
    (hg : ∀ (s : Shared) (H : Hp) (C : Addr) (cl : List (Str × Addr)) (fp : List Addr), DG (X.blk s H scope (compEnvC scope cl C X.env) fp) tg ws G) (ht : ∀ (s : Shared) (H : Hp) (C : Addr) (cl : List (Str × Addr)) (fp : List Addr), DPs (X.blk s H scope (compEnvC scope cl C X.env) fp) ifs t)
    (hi1 : ∀ (s : Shared) (H : Hp) (C : Addr) (cl : List (Str × Addr)) (fp : List Addr), DI (X.blk s H scope (compEnvC scope cl C X.env) fp) tg1 iter1 f1)
    (hg1 : ∀ (s : Shared) (H : Hp) (C : Addr) (cl : List (Str × Addr)) (fp : List Addr), DG (X.blk s H scope (compEnvC scope cl C X.env) fp) tg1 ws1 G1) (ht1 : ∀ (s : Shared) (H : Hp) (C : Addr) (cl : List (Str × Addr)) (fp : List Addr), DPs (X.blk s H scope (compEnvC scope cl C X.env) fp) ifs1 t1)
    (he : ∀ (s : Shared) (H : Hp) (C : Addr) (cl : List (Str × Addr)) (fp : List Addr), DE (X.blk s H scope (compEnvC scope cl C X.env) fp) elt e) (hs : ∀ x, foldedSetIterable iter X.env x = pure x := by intro _; rfl) (hs1 : ∀ env x, foldedSetIterable iter1 env x = pure x := by intro _ _; rfl) :
    DE X (.ListComp elt [⟨tg, iter, ifs, 0⟩, ⟨tg1, iter1, ifs1, 0⟩] scope pos) (mComp2 f G t f1 G1 t1 e (own.map (·.2)) vs1) := PE.to (pe_lc2 hc hN hi ok hv hg ht hi1 hg1 ht1 he hs hs1) fun _ _ _ => comp2_in hw hw1
end
end ML

set_option Elab.async false
set_option linter.all false
set_option maxRecDepth 100000
/-! ML12: repr of data (a dict only as {}); defs run where no repr stands below (guards). -/
namespace ML
open PySem PySem.Spec L2
open Sem (wp)

/-! ### what repr shows -/
mutual
/-- the value u of the heap h is the data d -/
inductive Wv (h : Heap) : Value → PyData → Prop
  | non : Wv h .none .none
  | bl (b) : Wv h (.bool b) (.bool b)
  | int (i t) : Wv h (.int i t) (.int i)
  | str (x t) : Wv h (.str x t) (.str x)
  | lst {a : Addr} {o : Obj} {us n ds} : h.get? a = some o → o.cls = .type "list" → o.data = .seq us n → Wvs h us.toList ds → Wv h (.ref a) (.list ds)
  | tup {a : Addr} {o : Obj} {us n ds} : h.get? a = some o → o.cls = .type "tuple" → o.data = .seq us n → Wvs h us.toList ds → Wv h (.ref a) (.tuple ds)
  | emp {a : Addr} {o : Obj} {n : Nat} : h.get? a = some o → o.cls = .type "dict" → o.data = .dict #[] n → (a == sysModules) = false → Wv h (.ref a) (.dict [])
inductive Wvs (h : Heap) : List Value → List PyData → Prop
  | nil : Wvs h [] []
  | cons {u us d ds} : Wv h u d → Wvs h us ds → Wvs h (u :: us) (d :: ds)
end
mutual
theorem Wv.reads {h : Heap} : ∀ {u : Value} {d : PyData}, Wv h u d → ∃ as, Reads h u d as
  | _, _, .non => ⟨_, .none⟩
  | _, _, .bl b => ⟨_, .bool b⟩
  | _, _, .int i t => ⟨_, .int i t⟩
  | _, _, .str x t => ⟨_, .str x t⟩
  | _, _, .lst a b c w => by obtain ⟨as, r⟩ := Wvs.reads w; exact ⟨_, .list a b c r⟩
  | _, _, .tup a b c w => by obtain ⟨as, r⟩ := Wvs.reads w; exact ⟨_, .tuple a b c r⟩
  | _, _, .emp a b c _ => ⟨_, .dict (kvs := []) a b c .nil .nil⟩
theorem Wvs.reads {h : Heap} : ∀ {us : List Value} {ds : List PyData}, Wvs h us ds → ∃ as, ReadsAll h us ds as
  | _, _, .nil => ⟨_, .nil⟩
  | _, _, .cons w ws => by
    obtain ⟨as, r⟩ := Wv.reads w
    obtain ⟨bs, rs⟩ := Wvs.reads ws
    exact ⟨_, .cons r rs⟩
end
section
variable {prog : Program} {w : World} {h0 : Heap}
mutual
theorem Wv.show : ∀ {u : Value} {d : PyData}, Wv h0 u d → d.showable = true → d.shown.length ≤ sizeLine → ∃ bs, ReadAtMost h0 d.depth bs ∧ ReprK prog w bs h0 d.depth u d.shown
  | _, _, .non, _, _ => ⟨[], (fun _ m => nomatch m), by simp only [PyData.shown]; exact ReprK.of_is ReprIs.none _ _ _⟩
  | _, _, .bl b, _, _ => ⟨[], (fun _ m => nomatch m), by simp only [PyData.shown]; exact ReprK.of_is (ReprIs.bool b) _ _ _⟩
  | _, _, .int i t, hs, _ => ⟨[], (fun _ m => nomatch m), by simp only [PyData.shown]; exact ReprK.of_is (ReprIs.int t (by simpa [PyData.showable] using hs)) _ _ _⟩
  | _, _, .str x t, _, hz => ⟨[], (fun _ m => nomatch m), by simp only [PyData.shown]; exact ReprK.of_is (ReprIs.str x t (by simpa only [PyData.shown] using hz)) _ _ _⟩
  | _, _, .lst (a := a) (us := us) (ds := ds) a1 a2 a3 ws, hs, hz => by
    have hz2 : (listText (PyData.shownAll ds)).length ≤ sizeLine := by simpa only [PyData.shown] using hz
    obtain ⟨bs, hb, hk⟩ := Wvs.show ws (by simpa [PyData.showable] using hs) fun t ht => Nat.le_trans (listText_mem_le ht) hz2
    obtain ⟨as, r⟩ := Wv.reads (.lst a1 a2 a3 ws)
    have hna : a ∉ bs := not_mem_of_deeper r (by simp only [PyData.depth]; omega) hb
    refine ⟨a :: bs, ReadAtMost.cons r (by simp only [PyData.depth]; omega) hb, ?_⟩
    simp only [PyData.depth, PyData.shown]
    obtain ⟨l⟩ := us
    cases l with
    | nil =>
      have ws2 : Wvs h0 [] ds := ws
      cases ws2
      simp only [PyData.shownAll, listText_nil]
      exact ReprK.listEmpty a1 a2 a3
    | cons x l => exact ReprK.list a1 a2 a3 hna (by simpa using hk.length_eq) (fun i y e => hk.item i y (by simpa using e))
  | _, _, .tup (a := a) (us := us) (ds := ds) a1 a2 a3 ws, hs, hz => by
    have hz2 : (tupleText (PyData.shownAll ds)).length ≤ sizeLine := by simpa only [PyData.shown] using hz
    obtain ⟨bs, hb, hk⟩ := Wvs.show ws (by simpa [PyData.showable] using hs) fun t ht => Nat.le_trans (tupleText_mem_le ht) hz2
    obtain ⟨as, r⟩ := Wv.reads (.tup a1 a2 a3 ws)
    have hna : a ∉ bs := not_mem_of_deeper r (by simp only [PyData.depth]; omega) hb
    refine ⟨a :: bs, ReadAtMost.cons r (by simp only [PyData.depth]; omega) hb, ?_⟩
    simp only [PyData.depth, PyData.shown]
    exact ReprK.tuple a1 a2 a3 hna hk
  | _, _, .emp (a := a) a1 a2 a3 a4, _, _ => by
    obtain ⟨as, r⟩ := Wv.reads (.emp a1 a2 a3 a4)
    refine ⟨[a], ReadAtMost.cons (n := 0) r (Nat.zero_le _) (fun _ m => nomatch m), ?_⟩
    simp only [PyData.depth, PyData.shown, PyData.shownKv]
    exact ReprK.dict (as := []) a1 a2 a3 a4 (fun m => nomatch m) .nil
theorem Wvs.show : ∀ {us : List Value} {ds : List PyData}, Wvs h0 us ds → PyData.showableAll ds = true → (∀ t ∈ PyData.shownAll ds, t.length ≤ sizeLine) → ∃ bs, ReadAtMost h0 (PyData.depthAll ds) bs ∧ ReprAllK prog w bs h0 (PyData.depthAll ds) us (PyData.shownAll ds)
  | _, _, .nil, _, _ => ⟨[], (fun _ m => nomatch m), by simp only [PyData.shownAll]; exact .nil⟩
  | _, _, .cons (d := d) (ds := ds) r rs, hs, hz => by
    have hs2 : d.showable = true ∧ PyData.showableAll ds = true := by simpa [PyData.showableAll] using hs
    obtain ⟨b1, m1, k1⟩ := Wv.show r hs2.1 (hz _ (by simp only [PyData.shownAll]; exact List.mem_cons_self ..))
    obtain ⟨b2, m2, k2⟩ := Wvs.show rs hs2.2 fun t ht => hz t (by simp only [PyData.shownAll]; exact List.mem_cons_of_mem _ ht)
    simp only [PyData.depthAll, PyData.shownAll]
    exact ⟨b1 ++ b2, (m1.mono (Nat.le_max_left _ _)).append (m2.mono (Nat.le_max_right _ _)), .cons ((k1.more fun b hb => List.mem_append_left _ hb).level_le (Nat.le_max_left _ _)) (k2.more_le (fun b hb => List.mem_append_right _ hb) (Nat.le_max_right _ _))⟩
end
variable {A : Around} {E : Value → Shared → Prop} {s : Shared} {Q : Value → Shared → Prop}
def seqD : PyData → Bool
  | .list _ => true
  | .tuple _ => true
  | _ => false
/-- repr(a list or a tuple) -/
theorem repr_wv {u : Value} {d : PyData} (r : Wv s.heap u d) (hd : seqD d = true) (hs : d.showable = true) (hz : d.shown.length ≤ sizeLine) (hg : A.guards = some []) (hu : A.units + (d.depth + 1) < cLine)
    (hQ : ∀ h2 t tk, (∀ b o, s.heap.get? b = some o → h2.get? b = some o) → Q (.str d.shown t) { s with heap := h2, toks := tk }) : wpAny (model prog w) A (call (.builtin "repr") [u]) Q E s := by
  cases r with
  | non => cases hd
  | bl => cases hd
  | int => cases hd
  | str => cases hd
  | emp => cases hd
  | lst a1 a2 a3 ws =>
    rename_i a o us n ds
    have hz2 : (listText (PyData.shownAll ds)).length ≤ sizeLine := by simpa only [PyData.shown] using hz
    obtain ⟨bs, hb, hk⟩ := Wvs.show (prog := prog) (w := w) ws (by simpa [PyData.showable] using hs) fun t ht => Nat.le_trans (listText_mem_le ht) hz2
    obtain ⟨as, r⟩ := Wv.reads (.lst a1 a2 a3 ws)
    have hna : a ∉ bs := not_mem_of_deeper r (by simp only [PyData.depth]; omega) hb
    refine call_repr_slot (T := "list") (idr := "list.__repr__") (by omega) ⟨o, a1, a2⟩ F.slot_list_repr.toG ?_
    simp only [PyData.depth] at hu
    simp only [PyData.shown] at hQ
    obtain ⟨l⟩ := us
    cases l with
    | nil =>
      have ws2 : Wvs s.heap [] ds := ws
      cases ws2
      simp only [PyData.shownAll, listText_nil] at hQ
      exact call_list_repr_empty ⟨o, a1, a2⟩ a1 a3 ⟨_, _, rfl, hQ s.heap _ _ fun _ _ e => e⟩
    | cons x l => exact call_list_reprK a1 a2 a3 hna (by simpa using hk.length_eq) (fun i y e => hk.item i y (by simpa using e)) hg (fun b _ => Clear.nil b) (by show A.units + 1 + _ < _; omega) (fun _ _ e => e) (fun h2 t tk k => ⟨_, _, rfl, hQ h2 t tk k⟩) hz2
  | tup a1 a2 a3 ws =>
    rename_i a o us n ds
    have hz2 : (tupleText (PyData.shownAll ds)).length ≤ sizeLine := by simpa only [PyData.shown] using hz
    obtain ⟨bs, hb, hk⟩ := Wvs.show (prog := prog) (w := w) ws (by simpa [PyData.showable] using hs) fun t ht => Nat.le_trans (tupleText_mem_le ht) hz2
    obtain ⟨as, r⟩ := Wv.reads (.tup a1 a2 a3 ws)
    have hna : a ∉ bs := not_mem_of_deeper r (by simp only [PyData.depth]; omega) hb
    simp only [PyData.depth] at hu
    simp only [PyData.shown] at hQ
    exact call_repr_slot (T := "tuple") (idr := "tuple.__repr__") (by omega) ⟨o, a1, a2⟩ F.slot_tuple_repr
      (call_tuple_reprK a1 a2 a3 hna hk hg (fun b _ => Clear.nil b) (by show A.units + 1 + _ < _; omega) (fun _ _ e => e) (fun h2 t tk k => ⟨_, _, rfl, hQ h2 t tk k⟩) hz2)
end

/-! ### the same of tracked values -/
mutual
def toW (s : Nat → Option PyData) : PV → Option PyData
  | .non => some .none
  | .bl b => some (.bool b)
  | .int i => some (.int i)
  | .str x => some (.str x)
  | .tup ts => match toWs s ts with
    | some ds => some (.tuple ds)
    | none => none
  | .lst ts => match toWs s ts with
    | some ds => some (.list ds)
    | none => none
  | .dk [] [] => some (.dict [])
  | .loc n => s n
  | _ => none
def toWs (s : Nat → Option PyData) : List PV → Option (List PyData)
  | [] => some []
  | t :: ts => match toW s t, toWs s ts with
    | some d, some ds => some (d :: ds)
    | _, _ => none
end
def locW (mh : List PV) : Nat → Nat → Option PyData
  | 0, _ => none
  | k + 1, n => match mh[n]? with
    | some (.lst ts) => match toWs (locW mh k) ts with
      | some ds => some (.list ds)
      | none => none
    | _ => none
abbrev datW (mh : List PV) (x : PV) : Option PyData := toW (locW mh 8) x
section
variable {X : Cx} {pins : List (Addr × Obj)} {σ : L2.St} {H : Hp} {s : Shared} {Ex : List Addr} {p : Pm} {mh : List PV}
mutual
theorem toW_ok (I : Inv X pins σ H s) {f : Nat → Option PyData} (hf : ∀ n d a, f n = some d → p[n]? = some (some a) → Wv s.heap (.ref a) d) : ∀ (t : PV) {v : V} {u : Value} {d : PyData}, Rep X.K (Gr Ex p H) p t v → RelV v u → toW f t = some d → Wv s.heap u d
  | .non, _, _, _, r, rv, e => by simp only [Rep] at r; simp only [toW] at e; cases e; subst r; cases rv; exact .non
  | .bl b, _, _, _, r, rv, e => by simp only [Rep] at r; simp only [toW] at e; cases e; subst r; cases rv; exact .bl b
  | .int b, _, _, _, r, rv, e => by simp only [Rep] at r; simp only [toW] at e; cases e; subst r; obtain ⟨t, rfl⟩ := rv; exact .int b t
  | .str b, _, _, _, r, rv, e => by simp only [Rep] at r; simp only [toW] at e; cases e; subst r; obtain ⟨t, rfl⟩ := rv; exact .str b t
  | .tup ts, _, _, _, r, rv, e => by
    simp only [toW] at e
    cases q : toWs f ts with
    | none => rw [q] at e; cases e
    | some ds =>
      rw [q] at e; cases e
      simp only [Rep] at r; obtain ⟨a, vs, rfl, h, rs⟩ := r
      cases rv
      obtain ⟨_, its, rr, o, h1, h2, n, h3⟩ := (show ObjOk X.prog X.w H s.heap a (.tup vs) from I.hok a _ (Gz.some h).1)
      exact .tup h1 h2 h3 (toWs_ok I hf ts rs rr q)
  | .lst ts, _, _, _, r, rv, e => by
    simp only [toW] at e
    cases q : toWs f ts with
    | none => rw [q] at e; cases e
    | some ds =>
      rw [q] at e; cases e
      simp only [Rep] at r; obtain ⟨a, vs, rfl, h, rs⟩ := r
      cases rv
      obtain ⟨_, its, n, rr, h1⟩ := (show ObjOk X.prog X.w H s.heap a (.lst vs) from I.hok a _ (Gz.some h).1)
      exact .lst h1 rfl rfl (toWs_ok I hf ts rs rr q)
  | .dk ks ts, _, _, _, r, rv, e => by
    cases ks <;> cases ts <;> simp only [toW] at e <;> try cases e
    simp only [Rep] at r; obtain ⟨a, kvs, rfl, h, e2, rs⟩ := r
    have e3 : kvs = [] := List.map_eq_nil_iff.mp e2
    subst e3
    cases rv
    obtain ⟨_, hsm, vs, kv, o, es, ep, h1, ⟨h2, _⟩, h3, _, hp, _⟩ := dk_of I.hok (Gz.some h).1
    cases kv
    cases hes : es.toList with
    | nil =>
      obtain ⟨l⟩ := es
      have hes : l = [] := hes
      subst hes
      exact .emp h1 h2 h3 hsm
    | cons x l => rw [hes] at hp; cases hp
  | .loc n, _, _, _, r, rv, e => by
    simp only [Rep] at r; obtain ⟨a, rfl, h⟩ := r
    simp only [toW] at e
    cases rv
    exact hf n _ a e h
  | .ty _, _, _, _, _, _, e => by simp only [toW] at e; cases e
  | .ad _, _, _, _, _, _, e => by simp only [toW] at e; cases e
  | .scr _, _, _, _, _, _, e => by simp only [toW] at e; cases e
  | .obj _ _ _, _, _, _, _, _, e => by simp only [toW] at e; cases e
  | .dt _ _, _, _, _, _, _, e => by simp only [toW] at e; cases e
theorem toWs_ok (I : Inv X pins σ H s) {f : Nat → Option PyData} (hf : ∀ n d a, f n = some d → p[n]? = some (some a) → Wv s.heap (.ref a) d) : ∀ (ts : List PV) {vs : List V} {us : List Value} {ds : List PyData}, Reps X.K (Gr Ex p H) p ts vs → Vals vs us → toWs f ts = some ds → Wvs s.heap us ds
  | [], _, _, _, r, rv, e => by simp only [Reps] at r; simp only [toWs] at e; cases e; subst r; cases rv; exact .nil
  | t :: ts, _, _, _, r, rv, e => by
    simp only [Reps] at r; obtain ⟨v, ws, rfl, r, rs⟩ := r
    simp only [toWs] at e
    cases rv with
    | cons r1 r2 =>
      cases q : toW f t with
      | none => rw [q] at e; cases e
      | some d =>
        cases q2 : toWs f ts with
        | none => rw [q, q2] at e; cases e
        | some ds => rw [q, q2] at e; cases e; exact .cons (toW_ok I hf t r r1 q) (toWs_ok I hf ts rs r2 q2)
end
theorem locW_ok (I : Inv X pins σ H s) (R : Rl X.K Ex p mh H) : ∀ (k n : Nat) (d : PyData) (a : Addr), locW mh k n = some d → p[n]? = some (some a) → Wv s.heap (.ref a) d
  | 0, _, _, _, e, _ => by simp only [locW] at e; cases e
  | k + 1, n, d, a, e, h => by
    obtain ⟨o, e1, r1⟩ := R.obj n a h
    simp only [locW] at e
    rw [e1] at e
    cases o <;> simp only at e <;> try cases e
    case lst ts =>
      simp only [RepO] at r1; obtain ⟨vs, h1, r1⟩ := r1
      cases q : toWs (locW mh k) ts with
      | none => rw [q] at e; cases e
      | some ds =>
        rw [q] at e; cases e
        obtain ⟨_, its, n, rr, h2⟩ := (show ObjOk X.prog X.w H s.heap a (.lst vs) from I.hok a _ h1)
        exact .lst h2 rfl rfl (toWs_ok I (locW_ok I R k) ts r1 rr q)
def vRepr (xs : List PV) : M PV := fun mh => match xs with
  | [x] => (match datW mh x with
    | some d => if seqD d = true ∧ d.showable = true ∧ d.shown.length ≤ sizeLine ∧ d.depth ≤ 60 then .ok (.str d.shown) mh else .no
    | none => .no)
  | _ => .no
theorem callv_repr (hu : X.A.units + 64 < cLine) (hg : X.A.guards = some []) : CallV X (.builtin "repr") vRepr := by
  intro pins s σ H vs us Q I rv ⟨Ex, p, mh, xs, R, rx, h⟩
  unfold vRepr at h
  split at h
  · obtain ⟨v, rfl, r⟩ := reps1 rx
    obtain ⟨u, eu, rvu⟩ := vals1 rv
    subst eu
    split at h
    · next d e =>
      split at h
      · next hc =>
        refine repr_wv (toW_ok I (locW_ok I R 8) _ r rvu e) hc.1 hc.2.1 hc.2.2.1 hg (by have := hc.2.2.2; omega) fun h2 t tk k => ?_
        exact ⟨.str _, H, I.kept k, ⟨t, rfl⟩, h p H _ (Nx.refl R) (by simp only [Rep])⟩
      · exact h.elim
    · exact h.elim
  · exact h.elim
end

/-! ### where no repr runs below -/
section
variable {P : Program} {w : World} {K : PySem.W.Frag} {mg : Str → Option Value} {base : Heap}
/-- a promise of a def for such callers -/
structure FnG (P : Program) (w : World) (K : PySem.W.Frag) (mg : Str → Option Value) (base : Heap) (k : Nat) (f : Addr) (fd : FuncData) (ps : List Str) (sp : Sp) : Prop where
  len : ∀ vs H Q E, sp vs H Q E → vs.length = ps.length
  run : ∀ (A : Around) (st : List Env) (s : Shared) (H : Hp) (ar : Args) (us : List Value) (vs : List V) (Q : VK) (E : XK), A.guards = some [] → Room k A → Env0 P w K mg base A st s H → BindsTo s fd ar (ps.zip us) → Vals vs us → sp vs H Q E →
    codeAny (model P w) A (.call (.ref f) ar) (CR CX0 st P w H s Q E) s
theorem FnG.of {k : Nat} {f : Addr} {fd : FuncData} {ps : List Str} {sp : Sp} (G : FnOk P w K mg base CX0 k f fd ps sp) : FnG P w K mg base k f fd ps sp :=
  ⟨G.len, fun A st s H ar us vs Q E _ hr e0 hb r hs => G.run A st s H ar us vs Q E hr e0 hb r hs⟩
open PyProof.Rows in
theorem fng_of {k : Nat} {f : Addr} {nm qual : Str} {pr : Arguments} {bd : List Stmt} {sc : Scope} {dvs : List V} {kws : List (Str × V)} {fd : FuncData} {N ps : List Str} {sp : Sp} (F : FunD K nm qual pr bd sc dvs kws f fd) (S : FnScope N ps sc)
    (len : ∀ vs H Q E, sp vs H Q E → vs.length = ps.length)
    (hb : ∀ (cdv : Value) (A : Around) (st : List Env) (s : Shared) (H : Hp) (vs : List V) (Q : VK) (E : XK), A.guards = some [] → Room k (A.deeper (envOfC qual sc s.heap.objs.size f cdv)) → sp vs H Q E →
      ∃ t, PSs (cxOf CX0 P w K mg base N qual sc f cdv A st s H E) bd t ∧ t { nx := fun _ H' => Q .non H', rt := Q } (start N vs) H) : FnG P w K mg base (k + 1) f fd ps sp := by
  obtain ⟨oc, od, dV, kV, doc, pm, an, cdv, ct, osl, rfl, lk, hcd, _, _⟩ := F.ex
  refine ⟨len, fun A st s H ar us vs Q E hg hr e0 hbn r hsp => ?_⟩
  have hlen := len _ _ _ _ hsp
  have kin : K.In s.heap := e0.mod.kin.keeps fun b o e => (e0.bs b o e).1
  have nol : s.heap.NoLimit := e0.mod.nolimit.keeps fun b o e => (e0.bs b o e).1
  refine codeAny_call_function hr.depth (kin _ _ lk) rfl S.co S.gen rfl (PySem.W.codeRec_of kin hcd) (hbn _ _ _ _ ?_)
  refine wpAny_newFunctionEnv_cells S.kind (fun ⟨n, v⟩ hy => ?_) fun env he s1 x => ?_
  · rcases S.par n (List.of_mem_zip hy).1 with q | q
    · exact .inl q
    · exact .inr ⟨q, PySem.W.cellsFrom_some _ _ _ (.inl q)⟩
  · subst he
    refine ⟨nol.keeps x.toInCall.keep, codeAny_func ?_⟩
    obtain ⟨t, ht, hq⟩ := hb cdv A st s H vs Q E hg (hr.deeper _) hsp
    refine wpAny_mono (ht.run [] s1 (start N vs) H _ (inv_start S hr.hd e0 hlen r x) hq) (fun fl s2 hs => ?_) fun e s2 hs => hs
    cases fl with
    | ret u =>
      obtain ⟨v, σ2, H2, J, rv, q⟩ := hs
      exact ⟨v, H2, J.os, J.bare, J.base, J.hok, rv, q⟩
    | next =>
      obtain ⟨σ2, H2, J, q⟩ := hs
      exact ⟨V.non, H2, J.os, J.bare, J.base, J.hok, rfl, q⟩
    | brk => obtain ⟨_, _, _, q⟩ := hs; exact q.elim
    | cont => obtain ⟨_, _, _, q⟩ := hs; exact q.elim
open PyProof.Rows in
theorem fn_okG {x qual : Str} {params : Arguments} {body : List Stmt} {scope : Scope} {dvs : List V} {kws : List (Str × V)} {f : Addr} {fd : FuncData} {N ps : List Str} {k n : Nat} {g : LS → M (Out × LS)} (F : FunD K x qual params body scope dvs kws f fd) (S : FnScope N ps scope) (hn : N.length = n)
    (hb : ∀ (cdv : Value) (A : Around) (outer : List Env) (s : Shared) (H : Hp) (E : XK), A.guards = some [] → Room k (A.deeper (envOfC qual scope s.heap.objs.size f cdv)) → DSs (cxOf CX0 P w K mg base N qual scope f cdv A outer s H E).nox body g) :
    FnG P w K mg base (k + 1) f fd ps (spOf K ps.length (runF n g)) := by
  subst hn
  refine fng_of F S (fun vs H Q E h => h.1) fun cdv A outer s H vs Q E hg hr h => ⟨_, PSs.nox (hb cdv A outer s H E hg hr), ?_⟩
  obtain ⟨hl, Ex, p, mh, ts, R, r, h⟩ := h
  refine ⟨Ex, p, mh, startL N.length ts, R, start_st r N, Rs.wants_mono (Rs.wants_bind.mp h) fun o m h1 q H' σ' N1 S1 => ?_⟩
  obtain ⟨oo, τ1⟩ := o
  cases oo with
  | nx => exact fin_ok (v := .non) R N1 (by simp only [Rep]) h1
  | ret t => exact fun v r1 => fin_ok R N1 r1 h1
  | bk => exact h1.elim
  | ct => exact h1.elim
/-- such a def of the module by its function -/
structure CalG (P : Program) (w : World) (K : PySem.W.Frag) (mg : Str → Option Value) (base : Heap) (k : Nat) (x : Str) (n : Nat) (F : List PV → M PV) : Prop where
  ex : ∃ (f : Addr) (fd : FuncData) (ps : List Str), FnG P w K mg base k f fd ps (spOf K n F) ∧ mg x = some (.ref f) ∧ PySem.W.keepIn K (.ref f) = true ∧ Binds K fd ps []
end
section
variable {X : Cx} {j k n : Nat} {x : Str} {F : List PV → M PV} {p pos : Pos} {e : Expr} {es : List Expr} {fs : LS → M (List PV)}
theorem de_calG (c : CalG X.prog X.w X.K X.mg X.base k x n F) (hgd : X.A.guards = some []) (hr : Room j X.A) (hk : k ≤ j) (hg : Gl X x) (ha : DA X (e :: es) fs)
    (hdb : (x == ("__debug__" : Str)) = false := by decide) (he : starEach (e :: es) X.env = (false, eval e X.env) :: starEach es X.env := by rfl) (hpl : (backTo pos (starEach es X.env)).any (·.1) = false := by rfl) :
    DE X (.Call (.Name x p) (e :: es) [] pos) (mApp n F fs) := by
  obtain ⟨f, fd, ps, G, hm, kp, b⟩ := c.ex
  refine ⟨fun pins s σ H Q I h => ?_⟩
  obtain ⟨Ex, pm, mh, τ, R, S, h⟩ := rOfC_len h
  have h0 : tOfA X.K fs σ H fun vs H1 => spOf X.K n F vs H1 Q E0 := ⟨Ex, pm, mh, τ, R, S, Rs.wants_mono h fun xs m1 h1 q1 H1 vs N1 r1 => h1 q1 H1 vs N1 r1⟩
  refine wpAny_Call_Name_kw (ld_glob I hg hm ?_ hdb)
  refine PySem.W.callWith_K (h₀ := X.base) I.ok.mod.kin kp (thn (ha.run pos pins s σ H _ I h0) fun us s1 ⟨vs, H1, I1, r, q⟩ => ⟨I1.kIn, ?_⟩) he hpl
  have hl : (us ++ []).length = ps.length := by rw [List.append_nil, ← r.length]; exact G.len _ _ _ _ q
  refine wpAny_call (codeAny_mono (G.run X.A X.stack s1 H1 ⟨us, []⟩ (us ++ []) vs Q E0 hgd (hr.mono hk) I1.env0 (b s1 us I1.kIn hl) (by rw [List.append_nil]; exact r) q) fun r s2 hq => ?_)
  cases r with
  | error e => exact hq.elim
  | ok fl =>
    cases fl with
    | ret u => exact I1.after hq
    | next => exact hq.elim
    | brk => exact hq.elim
    | cont => exact hq.elim
end
end ML

set_option Elab.async false
set_option linter.all false
set_option maxRecDepth 100000
/-! ML13: a law's end by the function of its def. -/
namespace ML
open PySem PySem.Spec L2
theorem gz_nil (H : Hp) : Gz H [] = H := by
  funext a
  unfold Gz
  rw [if_neg (by simp)]
/-- the law's answer is True: its function says so of every script -/
theorem end_sp {K : PySem.W.Frag} {F : List PV → M PV} {a : Addr} {ns : List Int} {H : Hp} (hF : F [.scr ns] [] = .ok (.bl true) []) (hS : SqL K H a (ns.map V.int)) : spOf K 1 F [.ref a] H (fun v _ => v = .bl true) E0 := by
  have hG : Gr [] [] H = H := gz_nil H
  refine ⟨rfl, [], [], [], [.scr ns], ⟨rfl, fun n m b e => by simp at e, fun b hb => by simp [fp] at hb, fun b hb => by simp at hb, fun n b e => by simp at e⟩, Reps.cons ?_ Reps.nil, ?_⟩
  · simp only [Rep]
    exact ⟨a, rfl, by rw [hG]; exact hS⟩
  · rw [hF]
    intro q H2 u N r
    simp only [Rep] at r
    exact r
section
open PyProof.Rows
theorem law_runG {P : Program} {w : World} {K : PySem.W.Frag} {mg mb : Str → Option Value} {k : Nat} {fa a : Addr} {fd : FuncData} {x : Str} {sp : Sp} {s1 : Shared} {us : List Value} {ns : List Int}
    (kin : K.In s1.heap) (hns : s1.heap.Ns mainGlobals mg) (hb : s1.heap.Ns builtinsNs mb) (hbb : ∀ x : Str, x ≠ "__name__" → mb x = bootBuiltins x) (nol : s1.heap.NoLimit) (hg : s1.gens = #[])
    (ha : s1.heap.get? a = some { cls := .type "list", data := .seq us.toArray }) (hi : IntsAre us ns) (hl : ns.length ≤ sizeLine) (hr : Room k callerA)
    (G : ∀ base : Heap, K.In base → base.Ns mainGlobals mg → FnG P w K mg base k fa fd [x] sp) (bnd : ∀ (s : Shared) (u : Value), BindsTo s fd ⟨[u], []⟩ [(x, u)])
    (hsp : ∀ H : Hp, SqL K H a (ns.map V.int) → sp [.ref a] H (fun v _ => v = .bl true) E0) :
    codeAny (model P w) callerA (.call (.ref fa) ⟨[.ref a], []⟩) (fun r s2 => r = .ok (.ret (.bool true)) ∧ OldK s1.heap s2.heap ∧ s2.os = s1.os ∧ AllBare s2.gens) s1 := by
  have rel := vals_ints hi
  have hlen := hi.length
  have main : ∀ H : Hp, Only H → SqL K H a (ns.map V.int) → HOk P w H s1.heap → (∀ b, H b ≠ none → b = a) → (H a ≠ none → K.lookup a = none) →
      codeAny (model P w) callerA (.call (.ref fa) ⟨[.ref a], []⟩) (fun r s2 => r = .ok (.ret (.bool true)) ∧ OldK s1.heap s2.heap ∧ s2.os = s1.os ∧ AllBare s2.gens) s1 := by
    intro H only seq ok one off
    have nowhere : ∀ {b : Addr} {o : Obj} {es : Array DictEntry} {ep : Nat}, s1.heap.get? b = some o → o.data = .dict es ep → H b = none := fun {b o es ep} e d => by
      cases q : H b with
      | none => rfl
      | some z =>
        obtain rfl : b = a := one b (by rw [q]; exact nofun)
        rw [ha] at e; cases e
        exact Data.noConfusion d
    have keepNs : ∀ {b : Addr} {m : Str → Option Value}, s1.heap.Ns b m → (hidT s1.heap H).Ns b m := fun ⟨o, es, ep, e, d, r⟩ => ⟨o, es, ep, hidT_get e (nowhere e d), d, r⟩
    have keepK : K.In (hidT s1.heap H) := fun b o e => hidT_get (kin b o e) (by
      cases q : H b with
      | none => rfl
      | some z =>
        obtain rfl : b = a := one b (by rw [q]; exact nofun)
        rw [off (by rw [q]; exact nofun)] at e; cases e)
    have mod : Mod K mg (hidT s1.heap H) := ⟨keepK, keepNs hns, ⟨mb, keepNs hb, hbb⟩, let ⟨mc, h1, h2⟩ := nol; ⟨mc, keepNs h1, h2⟩⟩
    have ev : Env0 P w K mg (hidT s1.heap H) callerA [] s1 H := ⟨rfl, mod, fun b o e => of_hidT e, Nat.le_of_eq (hidT_size _ _), trivial, fun b z => (nomatch z), ok, .of_eq hg⟩
    refine codeAny_mono ((G _ keepK (keepNs hns)).run callerA [] s1 H ⟨[.ref a], []⟩ [.ref a] [.ref a] _ _ rfl hr ev (bnd s1 (.ref a)) (.cons rfl .nil) (hsp H seq)) fun r s2 h => ?_
    cases r with
    | error e => exact h.elim
    | ok fl =>
      cases fl with
      | next => exact h.elim
      | brk => exact h.elim
      | cont => exact h.elim
      | ret u =>
        obtain ⟨v, H2, os, bare, un, ok2, rv, q⟩ := h
        have q : v = .bl true := q
        subst q
        obtain rfl : u = Value.bool true := rv
        refine ⟨rfl, OldK.of_keep fun b o e => ?_, os, bare⟩
        cases q : H b with
        | none => exact un.keep b o e q (fun z => nomatch z) (fun z => nomatch z)
        | some z =>
          rcases only b with y | ⟨ob, xs, y⟩
          · rw [q] at y; cases y
          · obtain ⟨e1, _⟩ := ok b _ y
            obtain ⟨e2, _⟩ := ok2 b _ (un.frzs b ob _ y)
            rw [e] at e1; cases e1
            exact e2
  cases hk : K.lookup a with
  | some o =>
    have e := kin a o hk
    rw [ha] at e; cases e
    exact main (fun _ => none) (fun _ => .inl rfl) (.inr ⟨_, us.toArray, _, hk, rfl, rfl, rfl, by rw [List.size_toArray, hlen]; exact hl, by simpa using rel⟩) (fun b z y => by cases (show (none : Option HO) = some z from y)) (fun b z => absurd rfl z) fun z => absurd rfl z
  | none =>
    have at_ : (fun b => if b = a then some (HO.frz { cls := .type "list", data := .seq us.toArray } (.lst (ns.map V.int))) else none) a = some (HO.frz { cls := .type "list", data := .seq us.toArray } (.lst (ns.map V.int))) := if_pos rfl
    refine main (fun b => if b = a then some (.frz { cls := .type "list", data := .seq us.toArray } (.lst (ns.map V.int))) else none) (fun b => ?_) (.inl (.inr ⟨_, at_⟩)) (fun b z y => ?_) (fun b z => ?_) fun _ => hk
    · by_cases hb : b = a
      · exact .inr ⟨_, _, if_pos hb⟩
      · exact .inl (if_neg hb)
    · by_cases hb : b = a
      · have y2 := (if_pos hb).symm.trans y
        cases y2
        rw [hb]
        exact ⟨ha, by rw [List.length_map]; exact hl, us, _, rel, ha⟩
      · cases (if_neg hb).symm.trans y
    · by_cases hb : b = a
      · exact hb
      · exact absurd (if_neg hb) z
/-- a law: F gives the written part, the function object, the function of the law's def -/
theorem walk_ofG {l : PySem.W.OpenLaw} {n k : Nat} {q : Program} {loose : List Str} {XP : (Str → Option Value) → Heap → Prop} {YP : World → Heap → Prop} {d : DefRec} {x : Str}
    (hn : l.most = some n) (hn2 : n ≤ sizeLine) (hdf : d.params.defaults = []) (hr : Room k callerA)
    (F : ∀ (w : World) (mg : Str → Option Value) (fa : Addr) (h : Heap), YP w h → h.Ns mainGlobals mg → mg d.name = some (.ref fa) →
      ∃ (K : PySem.W.Frag) (fd : FuncData) (F : List PV → M PV), K.In h ∧ (∀ (s : Shared) (u : Value), BindsTo s fd ⟨[u], []⟩ [(x, u)]) ∧
        (∀ ns : List Int, ns.length ≤ n → (∀ z ∈ ns, Builtin.Int.intBits z ≤ 1048576) → F [.scr ns] [] = .ok (.bl true) []) ∧
        ∀ base : Heap, K.In base → base.Ns mainGlobals mg → FnG l.prog w K mg base k fa fd [x] (spOf K 1 F)) :
    PySem.W.WalkO q loose XP YP l.row.toRowW d [] (fun f vs => PySem.call f vs) := by
  refine Att.attach_callB hn hdf fun w s0 s1 mg mb fa o pm cd doc a us ns G Y ho hd hcd hmg hob hints hlen hbits hg => ?_
  obtain ⟨K, fd, f, kin, bnd, hf, hG⟩ := F w mg fa _ Y G.T.g hmg
  exact law_runG kin G.T.g G.T.b G.T.builtins G.T.nolimit hg hob hints (Nat.le_trans hlen hn2) hr hG bnd fun H hS => end_sp (hf ns hlen hbits) hS
end
end ML

set_option Elab.async false
set_option linter.all false
set_option maxRecDepth 100000
/-! ML14: reckoning with the functions: what each combinator gives. -/
namespace ML
open PySem PySem.Spec L2

section
variable {α β : Type} {τ : LS} {mh : List PV} {f g k l : LS → M PV} {t u : LS → M Bool} {fs : LS → M (List PV)} {s b : LS → M (Out × LS)} {o o' : PV → PV → M PV} {i n : Nat} {x y : PV} {xs : List PV}
@[simp] theorem ev_gv : gv i τ mh = (match τ[i]? with
  | some (some t) => .ok t mh
  | _ => .no) := rfl
@[simp] theorem ev_kv : kv x τ mh = .ok x mh := rfl
@[simp] theorem ev_bin : mBin o f g τ mh = (f τ mh).bind fun x m1 => (g τ m1).bind fun y m2 => o x y m2 := rfl
@[simp] theorem ev_test : mTest f τ mh = (f τ mh).bind asB := rfl
@[simp] theorem ev_asB {b : Bool} : asB (.bl b) mh = .ok b mh := rfl
@[simp] theorem ev_chain : mChain o o' f g k τ mh = (f τ mh).bind fun x m1 => (g τ m1).bind fun y m2 => (o x y m2).bind fun z m3 => (asB z m3).bind fun b m4 =>
  if b = true then (k τ m4).bind fun w m5 => o' y w m5 else .ok (.bl false) m4 := rfl
@[simp] theorem ev_and : mAnd t u τ mh = (t τ mh).bind fun b m => if b = true then u τ m else .ok false m := rfl
@[simp] theorem ev_or : mOr t u τ mh = (t τ mh).bind fun b m => if b = true then .ok true m else u τ m := rfl
@[simp] theorem ev_not : mNot t τ mh = (t τ mh).bind fun b m => .ok (!b) m := rfl
@[simp] theorem ev_andV : mAndV f g τ mh = (f τ mh).bind fun x m => (asB x m).bind fun b m => if b = true then g τ m else .ok (.bl false) m := rfl
@[simp] theorem ev_orV : mOrV f g τ mh = (f τ mh).bind fun x m => (asB x m).bind fun b m => if b = true then .ok (.bl true) m else g τ m := rfl
@[simp] theorem ev_notV : mNotV f τ mh = (f τ mh).bind fun x m => (asB x m).bind fun b m => .ok (.bl (!b)) m := rfl
@[simp] theorem ev_if {f g : LS → M α} : mIf t f g τ mh = (t τ mh).bind fun b m => if b = true then f τ m else g τ m := rfl
@[simp] theorem ev_nil : mNil τ mh = .ok [] mh := rfl
@[simp] theorem ev_cons : mCons f fs τ mh = (f τ mh).bind fun x m => (fs τ m).bind fun xs m => .ok (x :: xs) m := rfl
@[simp] theorem ev_tup : mTup fs τ mh = (fs τ mh).bind fun xs m => if xs.length ≤ sizeLine then .ok (.tup xs) m else .no := rfl
@[simp] theorem ev_lst : mLst fs τ mh = (fs τ mh).bind fun xs m => if xs.length ≤ sizeLine then .ok (.lst xs) m else .no := rfl
@[simp] theorem ev_loc : mLoc fs τ mh = (fs τ mh).bind fun xs m => if xs.length ≤ sizeLine then .ok (.loc m.length) (m ++ [.lst xs]) else .no := rfl
@[simp] theorem ev_call {o : List PV → M PV} : mCall o fs τ mh = (fs τ mh).bind fun xs m => o xs m := rfl
@[simp] theorem ev_app {F : List PV → M PV} : mApp n F fs τ mh = (fs τ mh).bind fun xs m => if xs.length = n then F xs m else .no := rfl
@[simp] theorem ev_sl {lo hi : LS → M (Option Int)} : mSl f lo hi τ mh = (f τ mh).bind fun x m1 => (lo τ m1).bind fun lo m2 => (hi τ m2).bind fun hi m3 => vSl x lo hi m3 := rfl
@[simp] theorem ev_oNone : oNone τ mh = .ok none mh := rfl
@[simp] theorem ev_oSome : oSome f τ mh = (f τ mh).bind fun x m => match x with
  | .int i => .ok (some i) m
  | _ => .no := rfl
@[simp] theorem ev_skip : mSkip τ mh = .ok (.nx, τ) mh := rfl
@[simp] theorem ev_seq : mSeq s b τ mh = (s τ mh).bind fun o m => match o.1 with
  | .nx => b o.2 m
  | _ => .ok o m := rfl
@[simp] theorem ev_drop : mDrop f τ mh = (f τ mh).bind fun _ m => .ok (.nx, τ) m := rfl
@[simp] theorem ev_ret : mRet f τ mh = (f τ mh).bind fun x m => .ok (.ret x, τ) m := rfl
@[simp] theorem ev_retN : mRetN τ mh = .ok (.ret .non, τ) mh := rfl
@[simp] theorem ev_break : mBreak τ mh = .ok (.bk, τ) mh := rfl
@[simp] theorem ev_cont : mCont τ mh = .ok (.ct, τ) mh := rfl
@[simp] theorem ev_no : (mNo : LS → M α) τ mh = .no := rfl
@[simp] theorem ev_set : mSet i f τ mh = (f τ mh).bind fun x m => .ok (.nx, τ.set i (some x)) m := rfl
@[simp] theorem ev_gSet : gSet i x τ mh = .ok (τ.set i (some x)) mh := rfl
@[simp] theorem ev_asg {G : PV → LS → M LS} : mAsg f G τ mh = (f τ mh).bind fun x m => (G x τ m).bind fun τ' m' => .ok (.nx, τ') m' := rfl
@[simp] theorem ev_neg : mNeg f τ mh = (f τ mh).bind fun x m => match x with
  | .int i => .ok (.int (-i)) m
  | _ => .no := rfl
@[simp] theorem ev_isi {ns : List String} : mIsi ns f τ mh = (f τ mh).bind fun x m => match tyNm m x with
  | some a => (match isiL a ns with
    | some r => .ok (.bl r) m
    | none => .no)
  | none => .no := rfl
@[simp] theorem ev_yes : mYes τ mh = .ok true mh := rfl
@[simp] theorem ev_it {o : PV → M Src} : mIt f o τ mh = (f τ mh).bind fun x m => o x m := rfl
@[simp] theorem ev_itA {o : List PV → M Src} : mItA fs o τ mh = (fs τ mh).bind fun x m => o x m := rfl
/-! what the types' names say -/
@[simp] theorem ty_int {i : Int} : tyNm mh (.int i) = some "int" := by simp only [tyNm]
@[simp] theorem ty_bl {i : Bool} : tyNm mh (.bl i) = some "bool" := by simp only [tyNm]
@[simp] theorem ty_str {i : Str} : tyNm mh (.str i) = some "str" := by simp only [tyNm]
@[simp] theorem ty_non : tyNm mh .non = some "NoneType" := by simp only [tyNm]
@[simp] theorem ty_lst : tyNm mh (.lst xs) = some "list" := by simp only [tyNm]
@[simp] theorem ty_tup : tyNm mh (.tup xs) = some "tuple" := by simp only [tyNm]
@[simp] theorem ty_dk {ks : List Key} : tyNm mh (.dk ks xs) = some "dict" := by simp only [tyNm]
@[simp] theorem isi_1 : isiL "int" ["int"] = some true := by decide +kernel
@[simp] theorem isi_2 : isiL "bool" ["int"] = some true := by decide +kernel
@[simp] theorem isi_3 : isiL "str" ["int"] = some false := by decide +kernel
@[simp] theorem isi_4 : isiL "NoneType" ["int"] = some false := by decide +kernel
@[simp] theorem isi_5 : isiL "list" ["int"] = some false := by decide +kernel
@[simp] theorem isi_6 : isiL "tuple" ["int"] = some false := by decide +kernel
@[simp] theorem isi_7 : isiL "dict" ["int"] = some false := by decide +kernel
@[simp] theorem isi_b1 : isiL "int" ["bool"] = some false := by decide +kernel
@[simp] theorem isi_b2 : isiL "bool" ["bool"] = some true := by decide +kernel
@[simp] theorem isi_s1 : isiL "str" ["str"] = some true := by decide +kernel
@[simp] theorem isi_t1 : isiL "tuple" ["tuple"] = some true := by decide +kernel
@[simp] theorem isi_t2 : isiL "list" ["tuple"] = some false := by decide +kernel
@[simp] theorem isi_t3 : isiL "str" ["tuple"] = some false := by decide +kernel
@[simp] theorem isi_t4 : isiL "NoneType" ["tuple"] = some false := by decide +kernel
@[simp] theorem isi_t5 : isiL "dict" ["tuple"] = some false := by decide +kernel
@[simp] theorem isi_l1 : isiL "tuple" ["tuple", "list"] = some true := by decide +kernel
@[simp] theorem isi_l2 : isiL "list" ["tuple", "list"] = some true := by decide +kernel
@[simp] theorem isi_l3 : isiL "str" ["tuple", "list"] = some false := by decide +kernel
@[simp] theorem isi_l4 : isiL "NoneType" ["tuple", "list"] = some false := by decide +kernel
@[simp] theorem isi_l5 : isiL "dict" ["tuple", "list"] = some false := by decide +kernel
@[simp] theorem isi_l6 : isiL "int" ["tuple", "list"] = some false := by decide +kernel
@[simp] theorem isi_l7 : isiL "bool" ["tuple", "list"] = some false := by decide +kernel
/-! operators -/
@[simp] theorem v_lt {i j : Int} : vLt (.int i) (.int j) mh = .ok (.bl (decide (i < j))) mh := rfl
@[simp] theorem v_le {i j : Int} : vLe (.int i) (.int j) mh = .ok (.bl (decide (i ≤ j))) mh := rfl
@[simp] theorem v_gt {i j : Int} : vGt (.int i) (.int j) mh = .ok (.bl (decide (j < i))) mh := rfl
@[simp] theorem v_ge {i j : Int} : vGe (.int i) (.int j) mh = .ok (.bl (decide (j ≤ i))) mh := rfl
@[simp] theorem v_add {i j : Int} : vAdd (.int i) (.int j) mh = .ok (.int (i + j)) mh := rfl
@[simp] theorem v_sub {i j : Int} : vSub (.int i) (.int j) mh = .ok (.int (i - j)) mh := rfl
/-! a def's end -/
@[simp] theorem fin_same : fin mh x mh = .ok x mh := by unfold fin; rw [if_pos rfl]
theorem fin_more {ex : List PV} {z : PV} (h : frz (mh ++ ex) mh.length x = some z) (hx : ex ≠ [] := by simp) : fin mh x (mh ++ ex) = .ok z mh := by
  unfold fin
  rw [if_neg (fun e => hx (List.length_eq_zero_iff.mp (by rw [List.length_append] at e; omega))), if_pos (fun i hi => .inl (List.getElem?_append_left hi)), h]
  show Rs.ok z ((mh ++ ex).take mh.length) = _
  rw [List.take_left]
end

/-! ### walks as walks of lists -/
def loopL (G : PV → LS → M LS) (b : LS → M (Out × LS)) : List PV → LS → M (Out × LS)
  | [], τ, mh => .ok (.nx, τ) mh
  | x :: xs, τ, mh => (G x τ mh).bind fun τ1 m1 => (b τ1 m1).bind fun o m2 => match o.1 with
    | .nx => loopL G b xs o.2 m2
    | .ct => loopL G b xs o.2 m2
    | .bk => .ok (.nx, o.2) m2
    | .ret t => .ok (.ret t, o.2) m2
def compL (G : PV → LS → M LS) (t : LS → M Bool) (e : LS → M PV) (τ : LS) : List PV → List PV → M (List PV)
  | [], acc, mh => .ok acc mh
  | x :: xs, acc, mh => (G x τ mh).bind fun τ1 m1 => (t τ1 m1).bind fun b m2 => if b = true then (e τ1 m2).bind fun z m3 => compL G t e τ xs (acc ++ [z]) m3 else compL G t e τ xs acc m2
/-- a source that gives the list xs whatever happens -/
structure Src.Is (S : Src) (xs : List PV) : Prop where
  n : S.n = xs.length
  ok : ∀ mh, S.ok mh = true
  it : ∀ i mh, i < xs.length → S.it i mh = xs[i]?
theorem Src.is_lst (xs : List PV) : (Src.lst xs).Is xs := ⟨rfl, fun _ => rfl, fun _ _ _ => rfl⟩
theorem Src.is_fn (n : Nat) (f : Nat → PV) : (Src.fn n f).Is ((List.range n).map f) := ⟨by simp [Src.fn], fun _ => rfl, fun i _ hi => by
  have hi : i < n := by simpa using hi
  simp [Src.fn, hi]⟩
theorem Src.is_enum {S : Src} {xs : List PV} (h : S.Is xs) : S.enum.Is (xs.mapIdx fun i x => .tup [.int i, x]) := ⟨by simp [Src.enum, h.n], h.ok, fun i mh hi => by
  have hi : i < xs.length := by simpa using hi
  show (S.it i mh).map _ = _
  rw [h.it i mh hi]
  simp [hi]⟩
section
variable {S : Src} {xs : List PV} {G : PV → LS → M LS} {b : LS → M (Out × LS)} {t : LS → M Bool} {e : LS → M PV} {τ : LS}
theorem loopS_is (h : S.Is xs) : ∀ (k : Nat), k ≤ xs.length → loopS S G b k = loopL G b (xs.drop (xs.length - k))
  | 0, _ => by funext τ mh; rw [Nat.sub_zero, List.drop_length]; unfold loopS loopL; rw [if_pos (h.ok mh)]
  | k + 1, hk => by
    funext τ mh
    have hi : xs.length - (k + 1) < xs.length := by omega
    rw [List.drop_eq_getElem_cons hi]
    unfold loopS loopL
    rw [if_pos (h.ok mh), h.n, h.it _ mh hi, List.getElem?_eq_getElem hi, show xs.length - (k + 1) + 1 = xs.length - k by omega, ← loopS_is h k (by omega)]
    first | done | rfl
theorem loop_is (h : S.Is xs) : loopS S G b S.n = loopL G b xs := by
  rw [h.n, loopS_is h xs.length (Nat.le_refl _), Nat.sub_self, List.drop_zero]
theorem compS_is (h : S.Is xs) : ∀ (k : Nat), k ≤ xs.length → compS S G t e τ k = compL G t e τ (xs.drop (xs.length - k))
  | 0, _ => by funext acc mh; rw [Nat.sub_zero, List.drop_length]; unfold compS compL; rw [if_pos (h.ok mh)]
  | k + 1, hk => by
    funext acc mh
    have hi : xs.length - (k + 1) < xs.length := by omega
    rw [List.drop_eq_getElem_cons hi]
    unfold compS compL
    rw [if_pos (h.ok mh), h.n, h.it _ mh hi, List.getElem?_eq_getElem hi, show xs.length - (k + 1) + 1 = xs.length - k by omega, ← compS_is h k (by omega)]
theorem comp_is (h : S.Is xs) : compS S G t e τ S.n = compL G t e τ xs := by
  rw [h.n, compS_is h xs.length (Nat.le_refl _), Nat.sub_self, List.drop_zero]
/-- a comprehension that changes nothing -/
theorem compL_pure {α : Type} {en : α → PV} {g : α → Option PV} {mh : List PV} : ∀ (ys : List α) (acc : List PV),
    (∀ y ∈ ys, ((G (en y) τ mh).bind fun τ1 m1 => (t τ1 m1).bind fun b m2 => if b = true then (e τ1 m2).bind fun z m3 => .ok (some z) m3 else .ok none m2) = .ok (g y) mh) →
    compL G t e τ (ys.map en) acc mh = .ok (acc ++ ys.filterMap g) mh
  | [], acc, _ => by simp [compL]
  | y :: ys, acc, h => by
    have h0 := h y (List.mem_cons_self ..)
    have ih := fun acc => compL_pure ys acc fun z hz => h z (List.mem_cons_of_mem _ hz)
    rw [List.map_cons]
    unfold compL
    cases hG : G (en y) τ mh with
    | no => rw [hG] at h0; simp at h0
    | exc x m => rw [hG] at h0; simp at h0
    | ok τ1 m1 =>
      rw [hG] at h0
      simp only [Rs.bind_ok] at h0 ⊢
      cases ht : t τ1 m1 with
      | no => rw [ht] at h0; simp at h0
      | exc x m => rw [ht] at h0; simp at h0
      | ok b m2 =>
        rw [ht] at h0
        simp only [Rs.bind_ok] at h0 ⊢
        cases b with
        | false =>
          simp only [Bool.false_eq_true, if_false] at h0 ⊢
          injection h0 with h1 h2
          subst h2
          rw [ih]
          rw [List.filterMap_cons, ← h1]
        | true =>
          simp only [if_true] at h0 ⊢
          cases he : e τ1 m2 with
          | no => rw [he] at h0; simp at h0
          | exc x m => rw [he] at h0; simp at h0
          | ok z m3 =>
            rw [he] at h0
            simp only [Rs.bind_ok] at h0 ⊢
            injection h0 with h1 h2
            subst h2
            rw [ih, List.filterMap_cons, ← h1]
            simp
theorem compL_map {α : Type} {en : α → PV} {g : α → PV} {mh : List PV} (ys : List α) (acc : List PV)
    (h : ∀ y ∈ ys, ((G (en y) τ mh).bind fun τ1 m1 => (t τ1 m1).bind fun b m2 => if b = true then (e τ1 m2).bind fun z m3 => .ok (some z) m3 else .ok none m2) = .ok (some (g y)) mh) :
    compL G t e τ (ys.map en) acc mh = .ok (acc ++ ys.map g) mh := by
  rw [compL_pure (g := fun y => some (g y)) ys acc h]
  congr 2
  rw [← List.filterMap_eq_map]; rfl
end
@[simp] theorem ev_srcL {ts mh : List PV} : srcL (.lst ts) mh = .ok (Src.lst ts) mh := rfl
@[simp] theorem ev_srcT {ts mh : List PV} : srcT (.tup ts) mh = .ok (Src.lst ts) mh := rfl
theorem ev_srcS {z : Str} {mh : List PV} (h : z.cps.size ≤ sizeLine) : srcS (.str z) mh = .ok (Src.lst (signs z)) mh := if_pos h
theorem ev_srcR1 {j : Int} {mh : List PV} (h : j ≤ 16777216 ∧ -(2 ^ 62) ≤ j) : srcR1 [.int j] mh = .ok (Src.fn j.toNat fun i => .int (0 + (i : Nat))) mh := if_pos h
@[simp] theorem ev_srcE {ts mh : List PV} : srcE [.lst ts] mh = .ok (Src.lst ts).enum mh := rfl
theorem ev_for {f : LS → M Src} {G : PV → LS → M LS} {b : LS → M (Out × LS)} {τ : LS} {mh : List PV} : mFor f G b τ mh = (f τ mh).bind fun S m => loopS S G b S.n τ m := rfl
theorem ev_comp {f : LS → M Src} {G : PV → LS → M LS} {t : LS → M Bool} {e : LS → M PV} {vs : List Nat} {τ : LS} {mh : List PV} : mComp f G t e vs τ mh = (f τ mh).bind fun S m => (compS S G t e (wipeL τ vs) S.n [] m).bind fun xs m => .ok (.lst xs) m := by
  unfold mComp mComp0
  cases f τ mh <;> rfl
end ML
namespace ML
open PySem PySem.Spec L2
section
variable {α : Type} {en : α → PV} {f : LS → M Src} {G : PV → LS → M LS} {t : LS → M Bool} {e : LS → M PV} {vs : List Nat} {τ : LS} {mh m : List PV} {S : Src} {ys : List α}
theorem comp_map (g : α → PV) (h1 : f τ mh = .ok S m) (h2 : S.Is (ys.map en)) (h3 : ∀ y ∈ ys, ((G (en y) (wipeL τ vs) m).bind fun τ1 m1 => (t τ1 m1).bind fun b m2 => if b = true then (e τ1 m2).bind fun z m3 => .ok (some z) m3 else .ok none m2) = .ok (some (g y)) m) :
    mComp f G t e vs τ mh = .ok (.lst (ys.map g)) m := by
  rw [ev_comp, h1, Rs.bind_ok, comp_is h2, compL_map (g := g) ys [] h3]
  rfl
theorem comp_fm (g : α → Option PV) (h1 : f τ mh = .ok S m) (h2 : S.Is (ys.map en)) (h3 : ∀ y ∈ ys, ((G (en y) (wipeL τ vs) m).bind fun τ1 m1 => (t τ1 m1).bind fun b m2 => if b = true then (e τ1 m2).bind fun z m3 => .ok (some z) m3 else .ok none m2) = .ok (g y) m) :
    mComp f G t e vs τ mh = .ok (.lst (ys.filterMap g)) m := by
  rw [ev_comp, h1, Rs.bind_ok, comp_is h2, compL_pure (g := g) ys [] h3]
  rfl
end
theorem is_rng (n : Nat) : (Src.fn n fun i => .int (0 + (i : Nat))).Is ((List.range n).map fun i => .int (i : Nat)) := by
  have := Src.is_fn n fun i => .int (0 + (i : Nat))
  simpa using this
theorem src_rng {n : Nat} {mh : List PV} (h : n ≤ 16777216) : srcR1 [.int (n : Nat)] mh = .ok (Src.fn n fun i => .int (0 + (i : Nat))) mh := ev_srcR1 ⟨by omega, by omega⟩
end ML
namespace ML
open PySem PySem.Spec L2
section
variable {mh : List PV} {x y : PV}
theorem veq_of {d e : PyData} {b : Bool} (h1 : dat mh x = some d) (h2 : dat mh y = some e) (h3 : SeqAt.shaped d = true) (h4 : SeqAt.shaped e = true) (h5 : PyData.eqv d e = b) : vEq x y mh = .ok (.bl b) mh := by
  unfold vEq
  split
  · simp only [dat, toD, Option.some.injEq] at h1 h2
    subst h1 h2
    simp only [PyData.eqv] at h5
    rw [h5]
  · rw [h1, h2]
    show (if SeqAt.shaped d = true ∧ SeqAt.shaped e = true then Rs.ok (PV.bl (PyData.eqv d e)) mh else .no) = _
    rw [if_pos ⟨h3, h4⟩, h5]
theorem vne_of {d e : PyData} {b : Bool} (h1 : dat mh x = some d) (h2 : dat mh y = some e) (h3 : SeqAt.shaped d = true) (h4 : SeqAt.shaped e = true) (h5 : PyData.eqv d e = b) : vNe x y mh = .ok (.bl (!b)) mh := by
  unfold vNe
  split
  · simp only [dat, toD, Option.some.injEq] at h1 h2
    subst h1 h2
    simp only [PyData.eqv] at h5
    rw [h5]
  · rw [h1, h2]
    show (if SeqAt.shaped d = true ∧ SeqAt.shaped e = true then Rs.ok (PV.bl (!PyData.eqv d e)) mh else .no) = _
    rw [if_pos ⟨h3, h4⟩, h5]
theorem shaped_str {a : Str} (h : PyData.strOk a = true) : SeqAt.shaped (.str a) = true := by simp [SeqAt.shaped, PyData.canLay0, PyData.depth, h]
theorem shaped_int (a : Int) : SeqAt.shaped (.int a) = true := by simp [SeqAt.shaped, PyData.canLay0, PyData.depth]
theorem shaped_bool (a : Bool) : SeqAt.shaped (.bool a) = true := by simp [SeqAt.shaped, PyData.canLay0, PyData.depth]
theorem v_eq_str {a b : Str} : vEq (.str a) (.str b) mh = .ok (.bl (a == b)) mh := rfl
theorem v_eq_int (a b : Int) : vEq (.int a) (.int b) mh = .ok (.bl (a == b)) mh := veq_of rfl rfl (shaped_int a) (shaped_int b) (by simp only [PyData.eqv])
theorem v_ne_str {a b : Str} : vNe (.str a) (.str b) mh = .ok (.bl (!(a == b))) mh := rfl
theorem v_ne_int (a b : Int) : vNe (.int a) (.int b) mh = .ok (.bl (!(a == b))) mh := vne_of rfl rfl (shaped_int a) (shaped_int b) (by simp only [PyData.eqv])
end
end ML
namespace ML
open PySem PySem.Spec L2
section
variable {mh m m2 : List PV} {x y : PV} {f g : LS → M PV} {fs : LS → M (List PV)} {τ : LS} {i j : Int}
theorem ev_listRg2 (hf : f τ mh = .ok (.int i) m) (hg : g τ m = .ok (.int j) m2) (h : rgOkB i j = true) : mListRg2 f g τ mh = .ok (.lst (rgP i j)) m2 := by
  unfold mListRg2
  rw [hf, Rs.bind_ok, hg, Rs.bind_ok]
  exact if_pos h
theorem ev_listRgD (hf : fs τ mh = .ok [.int i, .int j, .int (-1)] m) (h : dnOkB i j = true) : mListRgD fs τ mh = .ok (.lst (dnP i j)) m := by
  unfold mListRgD
  rw [hf, Rs.bind_ok]
  exact if_pos h
end
end ML
namespace ML
open PySem PySem.Spec L2
mutual
/-- no mutable object in it -/
def lf : PV → Bool
  | .loc _ => false
  | .tup ts => lfs ts
  | .lst ts => lfs ts
  | .obj _ _ ts => lfs ts
  | .dk _ ts => lfs ts
  | .dt _ ts => lfs ts
  | _ => true
def lfs : List PV → Bool
  | [] => true
  | t :: ts => lf t && lfs ts
end
theorem lfs_iff : ∀ ts : List PV, lfs ts = true ↔ ∀ t ∈ ts, lf t = true
  | [] => by simp [lfs]
  | t :: ts => by simp [lfs, lfs_iff ts]
mutual
theorem sub_lf {s : Nat → Option PV} : ∀ t : PV, lf t = true → sub s t = some t
  | .loc _, h => by simp [lf] at h
  | .tup ts, h => by simp only [lf] at h; simp only [sub, subs_lf ts h]
  | .lst ts, h => by simp only [lf] at h; simp only [sub, subs_lf ts h]
  | .obj _ _ ts, h => by simp only [lf] at h; simp only [sub, subs_lf ts h]
  | .dk _ ts, h => by simp only [lf] at h; simp only [sub, subs_lf ts h]
  | .dt _ ts, h => by simp only [lf] at h; simp only [sub, subs_lf ts h]
  | .non, _ => by simp only [sub]
  | .bl _, _ => by simp only [sub]
  | .int _, _ => by simp only [sub]
  | .str _, _ => by simp only [sub]
  | .ty _, _ => by simp only [sub]
  | .ad _, _ => by simp only [sub]
  | .scr _, _ => by simp only [sub]
theorem subs_lf {s : Nat → Option PV} : ∀ ts : List PV, lfs ts = true → subs s ts = some ts
  | [], _ => by simp only [subs]
  | t :: ts, h => by simp only [lfs, Bool.and_eq_true] at h; simp only [subs, sub_lf t h.1, subs_lf ts h.2]
end
section
variable {mh ex ts : List PV} {x z : PV}
theorem fin_lf (h : lf x = true) : fin mh x (mh ++ ex) = .ok x mh := by
  by_cases hx : ex = []
  · subst hx; rw [List.append_nil]; exact fin_same
  · exact fin_more (sub_lf x h) hx
theorem frz_at {j : Nat} {o : PV} (ho : ex[j]? = some o) (hs : ∀ s, subO s (some o) = some z) : frz (mh ++ ex) mh.length (.loc (mh.length + j)) = some z := by
  show sub (frzN (mh ++ ex) mh.length 8) (.loc _) = _
  simp only [sub, frzN]
  rw [if_neg (by omega), List.getElem?_append_right (by omega), show mh.length + j - mh.length = j by omega, ho]
  exact hs _
theorem fin_lst (h : lfs ts = true) : fin mh (.loc mh.length) (mh ++ .lst ts :: ex) = .ok (.lst ts) mh :=
  fin_more (frz_at (j := 0) rfl fun s => sub_lf (.lst ts) h)
end
theorem lf_int {i : Int} : lf (.int i) = true := rfl
theorem lfs_map {α : Type} {f : α → PV} (h : ∀ a, lf (f a) = true) (l : List α) : lfs (l.map f) = true := (lfs_iff _).mpr fun t ht => by
  obtain ⟨a, _, rfl⟩ := List.mem_map.mp ht
  exact h a
end ML
namespace ML
open PySem PySem.Spec L2
section
variable {G : PV → LS → M LS} {b s u : LS → M (Out × LS)} {x t : PV} {xs mh m1 m2 : List PV} {τ τ1 τ2 : LS}
theorem loop_nx (h1 : G x τ mh = .ok τ1 m1) (h2 : b τ1 m1 = .ok (.nx, τ2) m2) : loopL G b (x :: xs) τ mh = loopL G b xs τ2 m2 := by
  rw [loopL, h1, Rs.bind_ok, h2]; rfl
theorem loop_ct (h1 : G x τ mh = .ok τ1 m1) (h2 : b τ1 m1 = .ok (.ct, τ2) m2) : loopL G b (x :: xs) τ mh = loopL G b xs τ2 m2 := by
  rw [loopL, h1, Rs.bind_ok, h2]; rfl
theorem loop_ret (h1 : G x τ mh = .ok τ1 m1) (h2 : b τ1 m1 = .ok (.ret t, τ2) m2) : loopL G b (x :: xs) τ mh = .ok (.ret t, τ2) m2 := by
  rw [loopL, h1, Rs.bind_ok, h2]; rfl
theorem loop_bk (h1 : G x τ mh = .ok τ1 m1) (h2 : b τ1 m1 = .ok (.bk, τ2) m2) : loopL G b (x :: xs) τ mh = .ok (.nx, τ2) m2 := by
  rw [loopL, h1, Rs.bind_ok, h2]; rfl
theorem seq_nx (h1 : s τ mh = .ok (.nx, τ1) m1) : mSeq s u τ mh = u τ1 m1 := by rw [ev_seq, h1]; rfl
theorem seq_ret (h1 : s τ mh = .ok (.ret t, τ1) m1) : mSeq s u τ mh = .ok (.ret t, τ1) m1 := by rw [ev_seq, h1]; rfl
theorem seq_ct (h1 : s τ mh = .ok (.ct, τ1) m1) : mSeq s u τ mh = .ok (.ct, τ1) m1 := by rw [ev_seq, h1]; rfl
theorem seq_bk (h1 : s τ mh = .ok (.bk, τ1) m1) : mSeq s u τ mh = .ok (.bk, τ1) m1 := by rw [ev_seq, h1]; rfl
theorem for_src {f : LS → M Src} {S : Src} (h1 : f τ mh = .ok S m1) (h2 : S.Is xs) : mFor f G b τ mh = loopL G b xs τ m1 := by
  rw [ev_for, h1, Rs.bind_ok, loop_is h2]
theorem run_ret {n : Nat} {g : LS → M (Out × LS)} {ts : List PV} {z : PV} (h : g (startL n ts) mh = .ok (.ret t, τ1) m1) (hf : fin mh t m1 = .ok z mh) : runF n g ts mh = .ok z mh := by
  unfold runF; rw [h]; exact hf
theorem run_nx {n : Nat} {g : LS → M (Out × LS)} {ts : List PV} (h : g (startL n ts) mh = .ok (.nx, τ1) (mh ++ xs)) : runF n g ts mh = .ok .non mh := by
  unfold runF; rw [h]; exact fin_lf (x := .non) (by simp only [lf])
end
end ML
namespace ML
open PySem PySem.Spec L2
section
variable {α : Type} {f g k : LS → M PV} {fs : LS → M (List PV)} {t u : LS → M Bool} {s s2 : LS → M (Out × LS)} {o : PV → PV → M PV} {x y z w : PV} {xs mh m m1 m2 m3 : List PV} {τ τ1 τ2 : LS} {b : Bool} {n i : Nat} {r : Rs PV}
theorem gv_ok (h : τ[i]? = some (some x)) : gv i τ mh = .ok x mh := by rw [ev_gv, h]
theorem bin_ok (h1 : f τ mh = .ok x m1) (h2 : g τ m1 = .ok y m2) (h3 : o x y m2 = r) : mBin o f g τ mh = r := by rw [ev_bin, h1, Rs.bind_ok, h2, Rs.bind_ok, h3]
theorem test_ok (h1 : f τ mh = .ok (.bl b) m1) : mTest f τ mh = .ok b m1 := by rw [ev_test, h1]; rfl
theorem andV_f (h1 : f τ mh = .ok (.bl false) m1) : mAndV f g τ mh = .ok (.bl false) m1 := by rw [ev_andV, h1]; rfl
theorem andV_t (h1 : f τ mh = .ok (.bl true) m1) : mAndV f g τ mh = g τ m1 := by rw [ev_andV, h1]; rfl
theorem orV_f (h1 : f τ mh = .ok (.bl false) m1) : mOrV f g τ mh = g τ m1 := by rw [ev_orV, h1]; rfl
theorem orV_t (h1 : f τ mh = .ok (.bl true) m1) : mOrV f g τ mh = .ok (.bl true) m1 := by rw [ev_orV, h1]; rfl
theorem notV_ok (h1 : f τ mh = .ok (.bl b) m1) : mNotV f τ mh = .ok (.bl (!b)) m1 := by rw [ev_notV, h1]; rfl
theorem and_f (h1 : t τ mh = .ok false m1) : mAnd t u τ mh = .ok false m1 := by rw [ev_and, h1]; rfl
theorem and_t (h1 : t τ mh = .ok true m1) : mAnd t u τ mh = u τ m1 := by rw [ev_and, h1]; rfl
theorem or_f (h1 : t τ mh = .ok false m1) : mOr t u τ mh = u τ m1 := by rw [ev_or, h1]; rfl
theorem or_t (h1 : t τ mh = .ok true m1) : mOr t u τ mh = .ok true m1 := by rw [ev_or, h1]; rfl
theorem not_ok (h1 : t τ mh = .ok b m1) : mNot t τ mh = .ok (!b) m1 := by rw [ev_not, h1]; rfl
theorem if_t {f g : LS → M α} (h1 : t τ mh = .ok true m1) : mIf t f g τ mh = f τ m1 := by rw [ev_if, h1]; rfl
theorem if_f {f g : LS → M α} (h1 : t τ mh = .ok false m1) : mIf t f g τ mh = g τ m1 := by rw [ev_if, h1]; rfl
theorem cons_ok (h1 : f τ mh = .ok x m1) (h2 : fs τ m1 = .ok xs m2) : mCons f fs τ mh = .ok (x :: xs) m2 := by rw [ev_cons, h1, Rs.bind_ok, h2]; rfl
theorem args1 (h1 : f τ mh = .ok x m1) : mCons f mNil τ mh = .ok [x] m1 := cons_ok h1 rfl
theorem args2 (h1 : f τ mh = .ok x m1) (h2 : g τ m1 = .ok y m2) : mCons f (mCons g mNil) τ mh = .ok [x, y] m2 := cons_ok h1 (args1 h2)
theorem args3 (h1 : f τ mh = .ok x m1) (h2 : g τ m1 = .ok y m2) (h3 : k τ m2 = .ok z m3) : mCons f (mCons g (mCons k mNil)) τ mh = .ok [x, y, z] m3 := cons_ok h1 (args2 h2 h3)
theorem call_ok {o : List PV → M PV} (h1 : fs τ mh = .ok xs m1) (h2 : o xs m1 = r) : mCall o fs τ mh = r := by rw [ev_call, h1, Rs.bind_ok, h2]
theorem app_ok {F : List PV → M PV} (h1 : fs τ mh = .ok xs m1) (h2 : F xs m1 = r) (hl : xs.length = n := by rfl) : mApp n F fs τ mh = r := by rw [ev_app, h1, Rs.bind_ok, if_pos hl, h2]
theorem set_ok (h1 : f τ mh = .ok x m1) : mSet i f τ mh = .ok (.nx, τ.set i (some x)) m1 := by rw [ev_set, h1]; rfl
theorem drop_ok (h1 : f τ mh = .ok x m1) : mDrop f τ mh = .ok (.nx, τ) m1 := by rw [ev_drop, h1]; rfl
theorem ret_ok (h1 : f τ mh = .ok x m1) : mRet f τ mh = .ok (.ret x, τ) m1 := by rw [ev_ret, h1]; rfl
theorem tup_ok (h1 : fs τ mh = .ok xs m1) (hl : xs.length ≤ 1000 := by decide) : mTup fs τ mh = .ok (.tup xs) m1 := by rw [ev_tup, h1, Rs.bind_ok, if_pos (by rw [sizeLine_eq]; omega)]
theorem lst_ok (h1 : fs τ mh = .ok xs m1) (hl : xs.length ≤ 1000 := by decide) : mLst fs τ mh = .ok (.lst xs) m1 := by rw [ev_lst, h1, Rs.bind_ok, if_pos (by rw [sizeLine_eq]; omega)]
theorem loc_ok (h1 : fs τ mh = .ok xs m1) (hl : xs.length ≤ 1000 := by decide) : mLoc fs τ mh = .ok (.loc m1.length) (m1 ++ [.lst xs]) := by rw [ev_loc, h1, Rs.bind_ok, if_pos (by rw [sizeLine_eq]; omega)]
theorem meth_ok {T : String} {o : PV → List PV → M PV} (h1 : f τ mh = .ok x m1) (ht : tyB T m1 x = true) (h2 : fs τ m1 = .ok xs m2) (h3 : o x xs m2 = r) : mMeth T o f fs τ mh = r := by
  unfold mMeth
  rw [h1, Rs.bind_ok, if_pos ht, h2, Rs.bind_ok, h3]
theorem it_ok {o : PV → M Src} {S : Src} (h1 : f τ mh = .ok x m1) (h2 : o x m1 = .ok S m2) : mIt f o τ mh = .ok S m2 := by rw [ev_it, h1, Rs.bind_ok, h2]
theorem itA_ok {o : List PV → M Src} {S : Src} (h1 : fs τ mh = .ok xs m1) (h2 : o xs m1 = .ok S m2) : mItA fs o τ mh = .ok S m2 := by rw [ev_itA, h1, Rs.bind_ok, h2]
theorem step_map {G : PV → LS → M LS} {e : LS → M PV} (h1 : G x τ mh = .ok τ1 m1) (h2 : e τ1 m1 = .ok z m2) :
    ((G x τ mh).bind fun τ1 m1 => (mYes τ1 m1).bind fun b m2 => if b = true then (e τ1 m2).bind fun z m3 => .ok (some z) m3 else .ok none m2) = .ok (some z) m2 := by
  rw [h1, Rs.bind_ok, ev_yes, Rs.bind_ok, if_pos rfl, h2]; rfl
theorem step_t {G : PV → LS → M LS} {e : LS → M PV} (h1 : G x τ mh = .ok τ1 m1) (ht : t τ1 m1 = .ok true m2) (h2 : e τ1 m2 = .ok z m3) :
    ((G x τ mh).bind fun τ1 m1 => (t τ1 m1).bind fun b m2 => if b = true then (e τ1 m2).bind fun z m3 => .ok (some z) m3 else .ok none m2) = .ok (some z) m3 := by
  rw [h1, Rs.bind_ok, ht, Rs.bind_ok, if_pos rfl, h2]; rfl
theorem step_f {G : PV → LS → M LS} {e : LS → M PV} (h1 : G x τ mh = .ok τ1 m1) (ht : t τ1 m1 = .ok false m2) :
    ((G x τ mh).bind fun τ1 m1 => (t τ1 m1).bind fun b m2 => if b = true then (e τ1 m2).bind fun z m3 => .ok (some z) m3 else .ok none m2) = .ok none m2 := by
  rw [h1, Rs.bind_ok, ht, Rs.bind_ok, if_neg Bool.false_ne_true]
end
end ML

set_option Elab.async false
set_option linter.all false
set_option maxRecDepth 100000
set_option maxHeartbeats 0
namespace Lw
open PySem PySem.Spec L2 ML
def top (i : Nat) : Stmt := PySem.Challenge.pw_saidhere_k76_whole_levels_of_long_rows.main.body.getD i (.Pass ⟨0, 0, 0, 0⟩)
abbrev s_WrongThing___init__ : Stmt := inClass (top 3) 0
abbrev s_BadRow___init__ : Stmt := inClass (top 6) 0
abbrev s_TooLong___init__ : Stmt := inClass (top 7) 0
abbrev s_is_integer : Stmt := top 11
abbrev s_is_listed : Stmt := top 12
abbrev s_is_alphabet : Stmt := top 13
abbrev s_check_alphabet : Stmt := top 14
abbrev s_check_row : Stmt := top 15
abbrev s_check_place : Stmt := top 16
abbrev s_check_contest : Stmt := top 19
abbrev s_exchanged_table : Stmt := top 20
abbrev s_places_beyond : Stmt := top 21
abbrev s_barred_places : Stmt := top 22
abbrev s_unanswered : Stmt := top 23
abbrev s_lost_move : Stmt := top 24
abbrev s_next_table : Stmt := top 25
abbrev s_level_tables : Stmt := top 26
abbrev s_listed_level : Stmt := top 27
abbrev s_table_height : Stmt := top 28
abbrev s_Contest___init__ : Stmt := inClass (top 29) 0
abbrev s_Contest_parting_height : Stmt := inClass (top 29) 1
abbrev s_Contest_parting_sheet : Stmt := inClass (top 29) 2
abbrev s_table_of_level : Stmt := top 30
abbrev s_is_answered : Stmt := top 31
abbrev s_judge_levels : Stmt := top 32
abbrev s__law_source : Stmt := top 34
abbrev s__law_pick : Stmt := top 35
abbrev s__law_is_number : Stmt := top 36
abbrev s__law_wide : Stmt := top 37
abbrev s__law_turned_row : Stmt := top 38
abbrev s__law_close : Stmt := top 39
abbrev s__law_single_levels : Stmt := top 40
abbrev s__law_is_level : Stmt := top 41
abbrev s__law_is_levels : Stmt := top 42
abbrev s__law_judged : Stmt := top 43
abbrev s__law_height_of : Stmt := top 44
abbrev s__law_heights_well : Stmt := top 45
abbrev s__law_single_well : Stmt := top 46
abbrev s__law_comings : Stmt := top 47
abbrev s__law_kinds : Stmt := top 48
abbrev s__law_same : Stmt := top 49
abbrev s__law_answered : Stmt := top 50
abbrev s__law_stays : Stmt := top 51
abbrev s__law_deep_well : Stmt := top 52
abbrev s__law_long_well : Stmt := top 53
abbrev s_law : Stmt := top 54
structure Tx (K : PySem.W.Frag) (mg : Str → Option Value) (cContest : Addr) : Prop where
  n_abs : mg "abs" = none
  n_all : mg "all" = none
  n_any : mg "any" = none
  n_bool : mg "bool" = none
  n_enumerate : mg "enumerate" = none
  n_int : mg "int" = none
  n_isinstance : mg "isinstance" = none
  n_len : mg "len" = none
  n_list : mg "list" = none
  n_min : mg "min" = none
  n_range : mg "range" = none
  n_repr : mg "repr" = none
  n_reversed : mg "reversed" = none
  n_sorted : mg "sorted" = none
  n_str : mg "str" = none
  n_tuple : mg "tuple" = none
  c_LETTERS : ∃ t, mg "LETTERS" = some (.str "abcdefgh" t)
  c_LONGEST : ∃ t, mg "LONGEST" = some (.int 200 t)
  c_LONGEST_CONTEST : ∃ t, mg "LONGEST_CONTEST" = some (.int 12 t)
  g_Contest : mg "Contest" = some (.ref cContest)
  k_Contest : Cls K cContest
  a_Contest_alphabet : NoAttr K cContest "alphabet"
  a_Contest_row : NoAttr K cContest "row"
  a_Contest_other : NoAttr K cContest "other"
  a_Contest_tables : NoAttr K cContest "tables"
  a_Contest_levels : NoAttr K cContest "levels"
noncomputable def g_is_integer : LS → M (Out × LS) := (mRet (mAndV (mIsi ["int"] (gv 0)) (mAndV (mNotV (mIsi ["bool"] (gv 0))) (mChain vLe vLe (gv 1) (gv 0) (gv 2)))))
noncomputable def F_is_integer : List PV → M PV := runF 3 (g_is_integer)
noncomputable def g_is_listed : LS → M (Out × LS) := (mRet (mIsi ["tuple", "list"] (gv 0)))
noncomputable def F_is_listed : List PV → M PV := runF 1 (g_is_listed)
noncomputable def g_is_alphabet : LS → M (Out × LS) := (mSeq (mIf (mOr (mNot (mTest (mIsi ["str"] (gv 0)))) (mNot (mTest (mChain vLe vLe (kv (.int 1)) (mCall vLen (mCons (gv 0) mNil)) (mCall vLen (mCons (kv (.str "abcdefgh")) mNil))))))
 (mRet (kv (.bl false)))
 mSkip)
 (mSeq (mIf (mNot (mTest (mCall vAll (mCons (mComp (mIt (gv 0) srcS) (gSet 1) mYes (mBin (vIn false) (gv 1) (kv (.str "abcdefgh"))) [1]) mNil))))
 (mRet (kv (.bl false)))
 mSkip)
 (mRet (mCall vAll (mCons (mComp (mItA (mCons (mBin vSub (mCall vLen (mCons (gv 0) mNil)) (kv (.int 1))) mNil) srcR1) (gSet 2) mYes (mBin vLt (mBin vIx (gv 0) (gv 2)) (mBin vIx (gv 0) (mBin vAdd (gv 2) (kv (.int 1))))) [2]) mNil)))))
noncomputable def F_is_alphabet : List PV → M PV := runF 3 (g_is_alphabet)
noncomputable def g_check_alphabet : LS → M (Out × LS) := (mIf (mNot (mTest (mApp 1 F_is_alphabet (mCons (gv 0) mNil))))
 mNo
 mSkip)
noncomputable def F_check_alphabet : List PV → M PV := runF 1 (g_check_alphabet)
noncomputable def g_check_row : LS → M (Out × LS) := (mSeq (mIf (mOr (mNot (mTest (mIsi ["str"] (gv 1)))) (mTest (mBin vGt (mCall vLen (mCons (gv 1) mNil)) (kv (.int 200)))))
 mNo
 mSkip)
 (mFor (mItA (mCons (gv 1) mNil) srcES) (gTupP 2 (gsCons (gSet 2) (gsCons (gSet 3) gsNil)))
 (mIf (mTest (mBin (vIn true) (gv 3) (gv 0)))
 mNo
 mSkip)))
noncomputable def F_check_row : List PV → M PV := runF 4 (g_check_row)
noncomputable def g_check_place : LS → M (Out × LS) := (mIf (mNot (mTest (mApp 3 F_is_integer (mCons (gv 1) (mCons (kv (.int 0)) (mCons (mBin vSub (mCall vLen (mCons (gv 0) mNil)) (kv (.int 1))) mNil))))))
 mNo
 mSkip)
noncomputable def F_check_place : List PV → M PV := runF 2 (g_check_place)
noncomputable def g_check_contest : LS → M (Out × LS) := (mSeq (mDrop (mApp 1 F_check_alphabet (mCons (gv 0) mNil)))
 (mSeq (mDrop (mApp 2 F_check_row (mCons (gv 0) (mCons (gv 1) mNil))))
 (mSeq (mDrop (mApp 2 F_check_row (mCons (gv 0) (mCons (gv 2) mNil))))
 (mFor (mIt (mTup (mCons (gv 1) (mCons (gv 2) mNil))) srcT) (gSet 3)
 (mIf (mTest (mBin vGt (mCall vLen (mCons (gv 3) mNil)) (kv (.int 12))))
 mNo
 mSkip)))))
noncomputable def F_check_contest : List PV → M PV := runF 4 (g_check_contest)
noncomputable def g_exchanged_table : LS → M (Out × LS) := (mRet (mComp (mItA (mCons (gv 1) mNil) srcR1) (gSet 3) mYes (mComp (mIt (gv 0) srcL) (gSet 2) mYes (mBin vIx (gv 2) (gv 3)) [2]) [3]))
noncomputable def F_exchanged_table : List PV → M PV := runF 4 (g_exchanged_table)
noncomputable def g_places_beyond : LS → M (Out × LS) := (mSeq (mIf (mTest (mBin vEq (gv 2) (kv (.str "until"))))
 (mRet (mListRg2 (mBin vAdd (gv 0) (kv (.int 1))) (gv 1)))
 mSkip)
 (mRet (mListRgD (mCons (mBin vSub (gv 0) (kv (.int 1))) (mCons (mNeg (kv (.int 1))) (mCons (mNeg (kv (.int 1))) mNil))))))
noncomputable def F_places_beyond : List PV → M PV := runF 3 (g_places_beyond)
noncomputable def g_barred_places : LS → M (Out × LS) := (mSeq (mSet 3 (mLoc mNil))
 (mSeq (mFor (mIt (gv 2) srcL) (gSet 4)
 (mSeq (mIf (mTest (mBin vIx (gv 0) (gv 4)))
 (mRet (kv .non))
 mSkip)
 (mSeq (mDrop (mMeth "list" vAppend (gv 3) (mCons (gv 4) mNil)))
 (mIf (mTest (mBin (vDIn true) (gv 4) (gv 1)))
 (mRet (gv 3))
 mSkip))))
 (mRet (gv 3))))
noncomputable def F_barred_places : List PV → M PV := runF 5 (g_barred_places)
noncomputable def g_unanswered : LS → M (Out × LS) := (mSeq (mSet 3 mDNewK)
 (mSeq (mFor (mItA (mCons (gv 1) mNil) srcE) (gTupP 2 (gsCons (gSet 4) (gsCons (gSet 5) gsNil)))
 (mSeq (mSet 6 (mApp 3 F_barred_places (mCons (mBin vIx (gv 0) (gv 5)) (mCons (gv 3) (mCons (gv 2) mNil)))))
 (mSeq (mIf (mTest (mBin (vIs true) (gv 6) (kv .non)))
 (mSeq (mSet 7 (mIf (mAnd (mTest (mBin vGt (mCall vLen (mCons (gv 6) mNil)) (kv (.int 0)))) (mTest (mBin (vDIn true) (mBin vIx (gv 6) (mNeg (kv (.int 1)))) (gv 3)))) (mBin vIx (gv 6) (mNeg (kv (.int 1)))) (kv .non)))
 (mRet (mTup (mCons (gv 5) (mCons (mSl (gv 1) oNone (oSome (gv 4))) (mCons (gv 6) (mCons (gv 7) mNil)))))))
 mSkip)
 (mFor (mIt (gv 2) srcL) (gSet 8)
 (mIf (mTest (mBin vIx (mBin vIx (gv 0) (gv 5)) (gv 8)))
 (mDPut (gv 3) (gv 8) (kv (.bl true)))
 mSkip)))))
 (mRet (kv .non))))
noncomputable def F_unanswered : List PV → M PV := runF 9 (g_unanswered)
noncomputable def g_lost_move : LS → M (Out × LS) := (mSeq (mFor (mIt (mTup (mCons (kv (.str "until")) (mCons (kv (.str "since")) mNil))) srcT) (gSet 4)
 (mSeq (mSet 5 (mApp 3 F_places_beyond (mCons (gv 2) (mCons (mCall vLen (mCons (gv 0) mNil)) (mCons (gv 4) mNil)))))
 (mSeq (mSet 6 (mApp 3 F_places_beyond (mCons (gv 3) (mCons (mCall vLen (mCons (gv 1) mNil)) (mCons (gv 4) mNil)))))
 (mSeq (mSet 7 (mApp 3 F_unanswered (mCons (gv 0) (mCons (gv 5) (mCons (gv 6) mNil)))))
 (mSeq (mIf (mTest (mBin (vIs true) (gv 7) (kv .non)))
 (mRet (mBin vAdd (mTup (mCons (gv 4) (mCons (kv (.bl false)) mNil))) (gv 7)))
 mSkip)
 (mSeq (mSet 7 (mApp 3 F_unanswered (mCons (gv 1) (mCons (gv 6) (mCons (gv 5) mNil)))))
 (mIf (mTest (mBin (vIs true) (gv 7) (kv .non)))
 (mRet (mBin vAdd (mTup (mCons (gv 4) (mCons (kv (.bl true)) mNil))) (gv 7)))
 mSkip)))))))
 (mRet (kv .non)))
noncomputable def F_lost_move : List PV → M PV := runF 8 (g_lost_move)
noncomputable def g_next_table : LS → M (Out × LS) := (mRet (mComp (mItA (mCons (gv 0) mNil) srcE) (gTupP 2 (gsCons (gSet 3) (gsCons (gSet 4) gsNil))) mYes (mComp (mItA (mCons (mCall vLen (mCons (gv 1) mNil)) mNil) srcR1) (gSet 2) mYes (mAndV (mBin vIx (gv 4) (gv 2)) (mBin (vIs false) (mApp 4 F_lost_move (mCons (gv 0) (mCons (gv 1) (mCons (gv 3) (mCons (gv 2) mNil))))) (kv .non))) [2]) [3, 4]))
noncomputable def F_next_table : List PV → M PV := runF 5 (g_next_table)
noncomputable def g_level_tables : LS → M (Out × LS) := (mSeq (mSet 2 (mComp (mIt (gv 0) srcS) (gSet 4) mYes (mComp (mIt (gv 1) srcS) (gSet 3) mYes (mBin vEq (gv 4) (gv 3)) [3]) [4]))
 (mSeq (mSet 5 (mLoc mNil))
 (mSeq (mSet 6 (kv (.bl true)))
 (mSeq (mWhile (mTest (gv 6))
 (mSeq (mSet 7 (mApp 2 F_exchanged_table (mCons (gv 2) (mCons (mCall vLen (mCons (gv 1) mNil)) mNil))))
 (mSeq (mDrop (mMeth "list" vAppend (gv 5) (mCons (mTup (mCons (gv 2) (mCons (gv 7) mNil))) mNil)))
 (mSeq (mSet 8 (mApp 2 F_next_table (mCons (gv 2) (mCons (gv 7) mNil))))
 (mSeq (mSet 6 (mBin vNe (gv 8) (gv 2)))
 (mSet 2 (gv 8)))))))
 (mRet (gv 5))))))
noncomputable def F_level_tables : List PV → M PV := runF 9 (g_level_tables)
noncomputable def g_listed_level : LS → M (Out × LS) := (mRet (mCall vTuple (mCons (mComp2 (mItA (mCons (gv 0) mNil) srcE) (gTupP 2 (gsCons (gSet 1) (gsCons (gSet 2) gsNil))) mYes (mItA (mCons (gv 2) mNil) srcE) (gTupP 2 (gsCons (gSet 3) (gsCons (gSet 4) gsNil))) (mTest (gv 4)) (mTup (mCons (gv 1) (mCons (gv 3) mNil))) [1, 2, 3, 4] [3, 4]) mNil)))
noncomputable def F_listed_level : List PV → M PV := runF 5 (g_listed_level)
noncomputable def g_table_height : LS → M (Out × LS) := (mSeq (mFor (mItA (mCons (gv 0) mNil) srcE) (gTupP 2 (gsCons (gSet 3) (gsCons (gTupP 2 (gsCons (gSet 4) (gsCons (gSet 5) gsNil))) gsNil)))
 (mIf (mNot (mTest (mBin vIx (mBin vIx (gv 4) (gv 1)) (gv 2))))
 (mRet (gv 3))
 mSkip))
 (mRet (kv .non)))
noncomputable def F_table_height : List PV → M PV := runF 6 (g_table_height)
noncomputable def g_Contest___init__ (cContest : Addr) : LS → M (Out × LS) := (mSeq (mDrop (mApp 3 F_check_contest (mCons (gv 1) (mCons (gv 2) (mCons (gv 3) mNil)))))
 (mSeq (mSetFld cContest "alphabet" (gv 0) (gv 1))
 (mSeq (mSetFld cContest "row" (gv 0) (gv 2))
 (mSeq (mSetFld cContest "other" (gv 0) (gv 3))
 (mSeq (mSetFld cContest "tables" (gv 0) (mApp 2 F_level_tables (mCons (gv 2) (mCons (gv 3) mNil))))
 (mSetFld cContest "levels" (gv 0) (mCall vTuple (mCons (mComp (mIt (mFld cContest "tables" (gv 0)) srcL) (gTupP 2 (gsCons (gSet 4) (gsCons (gSet 5) gsNil))) mYes (mApp 1 F_listed_level (mCons (gv 4) mNil)) [4, 5]) mNil))))))))
noncomputable def F_Contest___init__ (cContest : Addr) : List PV → M PV := runF 6 (g_Contest___init__ cContest)
noncomputable def g_Contest_parting_height (cContest : Addr) : LS → M (Out × LS) := (mSeq (mDrop (mApp 2 F_check_place (mCons (mFld cContest "row" (gv 0)) (mCons (gv 1) mNil))))
 (mSeq (mDrop (mApp 2 F_check_place (mCons (mFld cContest "other" (gv 0)) (mCons (gv 2) mNil))))
 (mRet (mApp 3 F_table_height (mCons (mFld cContest "tables" (gv 0)) (mCons (gv 1) (mCons (gv 2) mNil)))))))
noncomputable def F_Contest_parting_height (cContest : Addr) : List PV → M PV := runF 3 (g_Contest_parting_height cContest)
noncomputable def g_table_of_level : LS → M (Out × LS) := (mSeq (mIf (mNot (mTest (mApp 1 F_is_listed (mCons (gv 2) mNil))))
 (mRet (kv .non))
 mSkip)
 (mSeq (mSet 3 (mCompL (mIt (gv 0) srcS) (gSet 5) mYes (mCompL (mIt (gv 1) srcS) (gSet 4) mYes (kv (.bl false)) [4]) [5]))
 (mSeq (mFor (mIt (gv 2) srcQ) (gSet 6)
 (mSeq (mIf (mOr (mNot (mTest (mApp 1 F_is_listed (mCons (gv 6) mNil)))) (mTest (mBin vNe (mCall vLen (mCons (gv 6) mNil)) (kv (.int 2)))))
 (mRet (kv .non))
 mSkip)
 (mSeq (mAsg (gv 6) (gTupP 2 (gsCons (gSet 7) (gsCons (gSet 8) gsNil))))
 (mSeq (mIf (mOr (mNot (mTest (mApp 3 F_is_integer (mCons (gv 7) (mCons (kv (.int 0)) (mCons (mBin vSub (mCall vLen (mCons (gv 0) mNil)) (kv (.int 1))) mNil)))))) (mNot (mTest (mApp 3 F_is_integer (mCons (gv 8) (mCons (kv (.int 0)) (mCons (mBin vSub (mCall vLen (mCons (gv 1) mNil)) (kv (.int 1))) mNil)))))))
 (mRet (kv .non))
 mSkip)
 (mSeq (mIf (mTest (mBin vNe (mBin vIx (gv 0) (gv 7)) (mBin vIx (gv 1) (gv 8))))
 (mRet (kv .non))
 mSkip)
 (mSetIx (kv (.bl true)) (mBin vIx (gv 3) (gv 7)) (gv 8)))))))
 (mRet (gv 3)))))
noncomputable def F_table_of_level : List PV → M PV := runF 9 (g_table_of_level)
noncomputable def g_is_answered : LS → M (Out × LS) := (mSeq (mSet 3 (mApp 2 F_exchanged_table (mCons (gv 1) (mCons (gv 2) mNil))))
 (mSeq (mFor (mItA (mCons (gv 0) mNil) srcE) (gTupP 2 (gsCons (gSet 4) (gsCons (gSet 5) gsNil)))
 (mFor (mItA (mCons (gv 5) mNil) srcE) (gTupP 2 (gsCons (gSet 6) (gsCons (gSet 7) gsNil)))
 (mIf (mAnd (mTest (gv 7)) (mTest (mBin (vIs true) (mApp 4 F_lost_move (mCons (gv 1) (mCons (gv 3) (mCons (gv 4) (mCons (gv 6) mNil))))) (kv .non))))
 (mRet (kv (.bl false)))
 mSkip)))
 (mRet (kv (.bl true)))))
noncomputable def F_is_answered : List PV → M PV := runF 8 (g_is_answered)
noncomputable def g_judge_levels : LS → M (Out × LS) := (mSeq (mDrop (mApp 3 F_check_contest (mCons (gv 0) (mCons (gv 1) (mCons (gv 2) mNil)))))
 (mSeq (mIf (mNot (mTest (mApp 1 F_is_listed (mCons (gv 3) mNil))))
 (mRet (kv (.bl false)))
 mSkip)
 (mSeq (mSet 4 (kv .non))
 (mSeq (mFor (mIt (gv 3) srcQ) (gSet 5)
 (mSeq (mSet 6 (mApp 3 F_table_of_level (mCons (gv 1) (mCons (gv 2) (mCons (gv 5) mNil)))))
 (mSeq (mIf (mOr (mTest (mBin (vIs false) (gv 6) (kv .non))) (mAnd (mTest (mBin (vIs true) (gv 4) (kv .non))) (mNot (mTest (mApp 3 F_is_answered (mCons (gv 6) (mCons (gv 4) (mCons (mCall vLen (mCons (gv 2) mNil)) mNil))))))))
 (mRet (kv (.bl false)))
 mSkip)
 (mSet 4 (gv 6)))))
 (mRet (kv (.bl true)))))))
noncomputable def F_judge_levels : List PV → M PV := runF 7 (g_judge_levels)
noncomputable def g__law_source : LS → M (Out × LS) := (mSeq (mSet 2 (mIf (mTest (mBin vLt (gv 1) (mCall vLen (mCons (gv 0) mNil)))) (mBin vIx (gv 0) (gv 1)) (mBin vAdd (mBin vMul (kv (.int 5)) (gv 1)) (kv (.int 3)))))
 (mSeq (mSet 3 (mBin vAdd (mBin vMul (kv (.int 1009)) (gv 1)) (kv (.int 17))))
 (mSeq (mFor (mIt (mSl (gv 0) oNone (oSome (kv (.int 3)))) srcL) (gSet 4)
 (mSet 3 (mBin vMod (mCall vToInt (mCons (mBin vAdd (mBin vMul (gv 3) (kv (.int 31))) (mBin vMod (mCall vToInt (mCons (gv 4) mNil)) (kv (.int 2147483629)))) mNil)) (kv (.int 2147483629)))))
 (mSeq (mSet 3 (mBin vMod (mCall vToInt (mCons (mBin vAdd (mBin vMul (gv 3) (kv (.int 31))) (mBin vMod (mCall vToInt (mCons (gv 2) mNil)) (kv (.int 2147483587)))) mNil)) (kv (.int 2147483629))))
 (mSeq (mSet 5 (mCall vAbs (mCons (gv 2) mNil)))
 (mSeq (mIf (mTest (mBin vLt (gv 5) (mBin vPow (kv (.int 10)) (kv (.int 18)))))
 (mRet (mLoc (mCons (kv (.int 0)) (mCons (gv 3) (mCons (kv (.int 0)) mNil)))))
 mSkip)
 (mSeq (mIf (mTest (mBin vGt (mBin vShr (gv 5) (kv (.int 3000))) (kv (.int 0))))
 (mSet 5 (mBin vSub (gv 5) (mBin vShl (mBin vShr (gv 5) (kv (.int 3000))) (kv (.int 3000)))))
 mSkip)
 (mRet (mLoc (mCons (gv 5) (mCons (gv 3) (mCons (kv (.int 0)) mNil))))))))))))
noncomputable def F__law_source : List PV → M PV := runK 6 (g__law_source)
noncomputable def g__law_pick : LS → M (Out × LS) := (mSeq (mIf (mTest (mBin vGt (mBin vIx (gv 0) (kv (.int 0))) (kv (.int 0))))
 (mSeq (mSet 2 (mBin vMod (mCall vToInt (mCons (mBin vIx (gv 0) (kv (.int 0))) mNil)) (gv 1)))
 (mSeq (mSetIx (mBin vDiv (mBin vIx (gv 0) (kv (.int 0))) (gv 1)) (gv 0) (kv (.int 0)))
 (mRet (gv 2))))
 mSkip)
 (mSeq (mSetIx (mBin vAdd (mBin vIx (gv 0) (kv (.int 2))) (kv (.int 1))) (gv 0) (kv (.int 2)))
 (mSeq (mSet 3 (mBin vMod (mCall vToInt (mCons (mBin vMul (mBin vAdd (mBin vIx (gv 0) (kv (.int 1))) (mBin vMul (kv (.int 7919)) (mBin vIx (gv 0) (kv (.int 2))))) (kv (.int 48271))) mNil)) (kv (.int 2147483647))))
 (mSeq (mSet 3 (mBin vMod (mCall vToInt (mCons (mBin vAdd (mBin vAdd (mBin vMul (gv 3) (gv 3)) (mBin vMul (kv (.int 69621)) (mBin vIx (gv 0) (kv (.int 2))))) (mBin vIx (gv 0) (kv (.int 1)))) mNil)) (kv (.int 2147483629))))
 (mSeq (mSet 3 (mBin vMod (mCall vToInt (mCons (mBin vAdd (mBin vMul (gv 3) (kv (.int 16807))) (kv (.int 11))) mNil)) (kv (.int 2147483647))))
 (mSeq (mSet 3 (mBin vMod (mCall vToInt (mCons (mBin vAdd (mBin vMul (gv 3) (gv 3)) (gv 3)) mNil)) (kv (.int 2147483587))))
 (mRet (mBin vMod (mCall vToInt (mCons (mBin vDiv (gv 3) (kv (.int 3))) mNil)) (gv 1)))))))))
noncomputable def F__law_pick : List PV → M PV := runF 4 (g__law_pick)
noncomputable def g__law_is_number : LS → M (Out × LS) := (mRet (mAndV (mIsi ["int"] (gv 0)) (mAndV (mNotV (mIsi ["bool"] (gv 0))) (mChain vLe vLe (gv 1) (gv 0) (gv 2)))))
noncomputable def F__law_is_number : List PV → M PV := runF 3 (g__law_is_number)
noncomputable def g__law_wide : LS → M (Out × LS) := (mSeq (mSet 3 (mBin vAdd (gv 1) (mApp 2 F__law_pick (mCons (gv 0) (mCons (mBin vAdd (mBin vSub (gv 2) (gv 1)) (kv (.int 1))) mNil)))))
 (mSeq (mSet 4 (mCall vListSL (mCons (kv (.str "abcdefgh")) mNil)))
 (mSeq (mSet 5 (mLoc mNil))
 (mSeq (mFor (mItA (mCons (gv 3) mNil) srcR1) (gSet 6)
 (mDrop (mMeth "list" vAppend (gv 5) (mCons (mMeth "list" vPop (gv 4) (mCons (mApp 2 F__law_pick (mCons (gv 0) (mCons (mCall vLen (mCons (gv 4) mNil)) mNil))) mNil)) mNil))))
 (mRet (mMeth "str" vJoin (kv (.str "")) (mCons (mCall vSortedS (mCons (gv 5) mNil)) mNil)))))))
noncomputable def F__law_wide : List PV → M PV := runF 7 (g__law_wide)
noncomputable def g__law_turned_row : LS → M (Out × LS) := (mRet (mMeth "str" vJoin (kv (.str "")) (mCons (mListRev (mCall vListS (mCons (gv 0) mNil))) mNil)))
noncomputable def F__law_turned_row : List PV → M PV := runF 1 (g__law_turned_row)
noncomputable def g__law_close : LS → M (Out × LS) := (mSeq (mSet 5 (mLst (mCons (mBin vSub (mBin vSub (gv 0) (kv (.int 1))) (gv 1)) (mCons (mBin vSub (mBin vSub (gv 2) (kv (.int 1))) (gv 3)) mNil))))
 (mSeq (mIf (mTest (mBin vEq (mTup (mCons (gv 1) (mCons (mBin vIx (gv 5) (kv (.int 0))) mNil))) (mTup (mCons (gv 3) (mCons (mBin vIx (gv 5) (kv (.int 1))) mNil)))))
 (mRet (kv (.bl true)))
 mSkip)
 (mSeq (mIf (mOr (mTest (mBin vNe (mCall vMin2 (mCons (gv 1) (mCons (gv 4) mNil))) (mCall vMin2 (mCons (gv 3) (mCons (gv 4) mNil))))) (mTest (mBin vNe (mCall vMin2 (mCons (mBin vIx (gv 5) (kv (.int 0))) (mCons (gv 4) mNil))) (mCall vMin2 (mCons (mBin vIx (gv 5) (kv (.int 1))) (mCons (gv 4) mNil))))))
 (mRet (kv (.bl false)))
 mSkip)
 (mRet (mBin vEq (mCall vMin2 (mCons (mBin vSub (gv 0) (kv (.int 1))) (mCons (mBin vSub (mBin vMul (kv (.int 2)) (gv 4)) (kv (.int 2))) mNil))) (mCall vMin2 (mCons (mBin vSub (gv 2) (kv (.int 1))) (mCons (mBin vSub (mBin vMul (kv (.int 2)) (gv 4)) (kv (.int 2))) mNil))))))))
noncomputable def F__law_close : List PV → M PV := runF 6 (g__law_close)
noncomputable def g__law_single_levels : LS → M (Out × LS) := (mSeq (mSet 2 (mLoc mNil))
 (mSeq (mFor (mItA (mCons (kv (.int 14)) mNil) srcR1) (gSet 3)
 (mSeq (mSet 4 (mLst mNil))
 (mSeq (mFor (mItA (mCons (gv 0) mNil) srcR1) (gSet 5)
 (mSet 4 (mBin vAdd (gv 4) (mComp (mItA (mCons (gv 1) mNil) srcR1) (gSet 6) (mTest (mApp 5 F__law_close (mCons (gv 0) (mCons (gv 5) (mCons (gv 1) (mCons (gv 6) (mCons (gv 3) mNil))))))) (mTup (mCons (gv 5) (mCons (gv 6) mNil))) [6]))))
 (mSeq (mIf (mAnd (mTest (mBin vGt (mCall vLen (mCons (gv 2) mNil)) (kv (.int 0)))) (mTest (mBin vEq (gv 4) (mBin vIx (gv 2) (mNeg (kv (.int 1)))))))
 mBreak
 mSkip)
 (mDrop (mMeth "list" vAppend (gv 2) (mCons (gv 4) mNil)))))))
 (mRet (gv 2))))
noncomputable def F__law_single_levels : List PV → M PV := runF 7 (g__law_single_levels)
noncomputable def g__law_is_level : LS → M (Out × LS) := (mSeq (mIf (mOr (mNot (mTest (mIsi ["tuple"] (gv 0)))) (mTest (mBin vNe (mCall vLen (mCons (gv 0) mNil)) (mCall vLen (mCons (gv 1) mNil)))))
 (mRet (kv (.bl false)))
 mSkip)
 (mSeq (mFor (mIt (gv 0) srcT) (gSet 2)
 (mIf (mOr (mNot (mTest (mIsi ["tuple"] (gv 2)))) (mOr (mTest (mBin vNe (mCall vLen (mCons (gv 2) mNil)) (kv (.int 2)))) (mNot (mTest (mCall vAll (mCons (mComp (mIt (gv 2) srcT) (gSet 3) mYes (mApp 3 F__law_is_number (mCons (gv 3) (mCons (kv (.int 0)) (mCons (kv (.int 11)) mNil)))) [3]) mNil))))))
 (mRet (kv (.bl false)))
 mSkip))
 (mRet (mBin vEq (mCall vList (mCons (gv 0) mNil)) (gv 1)))))
noncomputable def F__law_is_level : List PV → M PV := runF 4 (g__law_is_level)
noncomputable def g__law_is_levels : LS → M (Out × LS) := (mSeq (mIf (mOr (mNot (mTest (mIsi ["tuple"] (gv 0)))) (mTest (mBin vNe (mCall vLen (mCons (gv 0) mNil)) (mCall vLen (mCons (gv 1) mNil)))))
 (mRet (kv (.bl false)))
 mSkip)
 (mRet (mCall vAll (mCons (mComp (mItA (mCons (mCall vLen (mCons (gv 1) mNil)) mNil) srcR1) (gSet 2) mYes (mApp 2 F__law_is_level (mCons (mBin vIx (gv 0) (gv 2)) (mCons (mBin vIx (gv 1) (gv 2)) mNil))) [2]) mNil))))
noncomputable def F__law_is_levels : List PV → M PV := runF 3 (g__law_is_levels)
noncomputable def g__law_judged : LS → M (Out × LS) := (mSeq (mSet 6 (mApp 2 F__law_pick (mCons (gv 0) (mCons (kv (.int 3)) mNil))))
 (mSeq (mIf (mTest (mBin vEq (gv 6) (kv (.int 0))))
 (mSet 7 (mCall vTuple (mCons (mComp (mIt (gv 4) srcL) (gSet 9) mYes (mCall vTuple (mCons (mComp (mIt (gv 9) srcL) (gSet 8) mYes (gv 8) [8]) mNil)) [9]) mNil)))
 (mIf (mTest (mBin vEq (gv 6) (kv (.int 1))))
 (mSet 7 (mComp (mIt (gv 4) srcL) (gSet 9) mYes (mComp (mIt (gv 9) srcL) (gSet 8) mYes (mIf (mTest (mIsi ["tuple"] (gv 8))) (mCall vList (mCons (gv 8) mNil)) (gv 8)) [8]) [9]))
 (mSet 7 (mCall vTuple (mCons (mComp (mIt (gv 4) srcL) (gSet 9) mYes (mBin vAdd (mListRev (mCall vList (mCons (gv 9) mNil))) (mCall vList (mCons (gv 9) mNil))) [9]) mNil)))))
 (mSeq (mSet 10 (mCall vRepr (mCons (gv 7) mNil)))
 (mSeq (mSet 11 (mApp 4 F_judge_levels (mCons (gv 1) (mCons (gv 2) (mCons (gv 3) (mCons (gv 7) mNil))))))
 (mSeq (mIf (mTest (mBin vNe (mCall vRepr (mCons (gv 7) mNil)) (gv 10)))
 (mRet (kv (.bl false)))
 mSkip)
 (mRet (mIf (mTest (gv 5)) (mBin (vIs false) (gv 11) (kv (.bl true))) (mBin (vIs false) (gv 11) (kv (.bl false))))))))))
noncomputable def F__law_judged : List PV → M PV := runF 12 (g__law_judged)
noncomputable def g__law_height_of : LS → M (Out × LS) := (mSeq (mFor (mItA (mCons (mCall vLen (mCons (gv 0) mNil)) mNil) srcR1) (gSet 2)
 (mIf (mTest (mBin (vIn true) (gv 1) (mBin vIx (gv 0) (gv 2))))
 (mRet (gv 2))
 mSkip))
 (mRet (kv .non)))
noncomputable def F__law_height_of : List PV → M PV := runF 3 (g__law_height_of)
noncomputable def g__law_heights_well (cContest : Addr) : LS → M (Out × LS) := (mSeq (mIf (mOr (mTest (mBin vEq (gv 3) (kv (.int 0)))) (mTest (mBin vEq (gv 4) (kv (.int 0)))))
 (mRet (kv (.bl true)))
 mSkip)
 (mSeq (mFor (mItA (mCons (kv (.int 4)) mNil) srcR1) (gSet 5)
 (mSeq (mSet 6 (mTup (mCons (mApp 2 F__law_pick (mCons (gv 0) (mCons (gv 3) mNil))) (mCons (mApp 2 F__law_pick (mCons (gv 0) (mCons (gv 4) mNil))) mNil))))
 (mSeq (mSet 7 (mApp 2 F__law_height_of (mCons (gv 2) (mCons (gv 6) mNil))))
 (mSeq (mSet 8 (mMth cContest "parting_height" 3 (F_Contest_parting_height cContest) (gv 1) (mCons (mBin vIx (gv 6) (kv (.int 0))) (mCons (mBin vIx (gv 6) (kv (.int 1))) mNil))))
 (mIf (mTest (mBin (vIs false) (gv 7) (kv .non)))
 (mIf (mTest (mBin (vIs true) (gv 8) (kv .non)))
 (mRet (kv (.bl false)))
 mSkip)
 (mIf (mNot (mTest (mApp 3 F__law_is_number (mCons (gv 8) (mCons (gv 7) (mCons (gv 7) mNil))))))
 (mRet (kv (.bl false)))
 mSkip))))))
 (mRet (kv (.bl true)))))
noncomputable def F__law_heights_well (cContest : Addr) : List PV → M PV := runF 9 (g__law_heights_well cContest)
noncomputable def g__law_single_well (cContest : Addr) : LS → M (Out × LS) := (mSeq (mSet 1 (mApp 3 F__law_wide (mCons (gv 0) (mCons (kv (.int 1)) (mCons (kv (.int 8)) mNil)))))
 (mSeq (mSet 2 (mBin vIx (gv 1) (mApp 2 F__law_pick (mCons (gv 0) (mCons (mCall vLen (mCons (gv 1) mNil)) mNil)))))
 (mSeq (mSet 3 (mIf (mTest (mBin vEq (mApp 2 F__law_pick (mCons (gv 0) (mCons (kv (.int 20)) mNil))) (kv (.int 7)))) (kv (.int 12)) (kv (.int 7))))
 (mSeq (mSet 4 (mApp 2 F__law_pick (mCons (gv 0) (mCons (mBin vAdd (gv 3) (kv (.int 1))) mNil))))
 (mSeq (mSet 5 (mLst (mCons (gv 4) (mCons (mBin vAdd (gv 4) (kv (.int 1))) (mCons (mApp 2 F__law_pick (mCons (gv 0) (mCons (mBin vAdd (gv 3) (kv (.int 1))) mNil))) (mCons (gv 4) mNil))))))
 (mSeq (mSet 6 (mCall vMin2 (mCons (mBin vIx (gv 5) (mApp 2 F__law_pick (mCons (gv 0) (mCons (kv (.int 4)) mNil)))) (mCons (gv 3) mNil))))
 (mSeq (mSet 7 (mApp 2 F__law_single_levels (mCons (gv 4) (mCons (gv 6) mNil))))
 (mSeq (mSet 8 (mBin vMul (gv 2) (gv 4)))
 (mSeq (mSet 9 (mBin vMul (gv 2) (gv 6)))
 (mSeq (mSet 10 (mNew cContest 4 (F_Contest___init__ cContest) (mCons (gv 1) (mCons (gv 8) (mCons (gv 9) mNil)))))
 (mSeq (mIf (mOr (mNot (mTest (mApp 2 F__law_is_levels (mCons (mFld cContest "levels" (gv 10)) (mCons (gv 7) mNil))))) (mOr (mTest (mBin vNe (mFld cContest "row" (gv 10)) (gv 8))) (mTest (mBin vNe (mFld cContest "other" (gv 10)) (gv 9)))))
 (mRet (kv (.bl false)))
 mSkip)
 (mSeq (mIf (mNot (mTest (mApp 5 (F__law_heights_well cContest) (mCons (gv 0) (mCons (gv 10) (mCons (gv 7) (mCons (gv 4) (mCons (gv 6) mNil))))))))
 (mRet (kv (.bl false)))
 mSkip)
 (mSeq (mSet 11 (mCompL (mIt (gv 7) srcL) (gSet 12) mYes (mCall vListL (mCons (gv 12) mNil)) [12]))
 (mSeq (mFor (mItA (mCons (mBin vSub (mBin vAdd (kv (.int 9)) (mApp 2 F__law_pick (mCons (gv 0) (mCons (kv (.int 8)) mNil)))) (mCall vLen (mCons (gv 7) mNil))) mNil) srcR1) (gSet 13)
 (mDrop (mMeth "list" vAppend (gv 11) (mCons (mCall vListL (mCons (mBin vIx (gv 7) (mNeg (kv (.int 1)))) mNil)) mNil))))
 (mSeq (mIf (mNot (mTest (mApp 6 F__law_judged (mCons (gv 0) (mCons (gv 1) (mCons (gv 8) (mCons (gv 9) (mCons (gv 11) (mCons (kv (.bl true)) mNil)))))))))
 (mRet (kv (.bl false)))
 mSkip)
 (mSeq (mSet 14 (mBin vAdd (kv (.int 1)) (mApp 2 F__law_pick (mCons (gv 0) (mCons (mBin vSub (mCall vLen (mCons (gv 11) mNil)) (kv (.int 1))) mNil)))))
 (mSeq (mSet 15 (mComp (mIt (mBin vIx (gv 7) (kv (.int 0))) srcL) (gSet 16) (mTest (mBin (vIn true) (gv 16) (mBin vIx (gv 11) (gv 14)))) (gv 16) [16]))
 (mSeq (mIf (mTest (mBin vGt (mCall vLen (mCons (gv 15) mNil)) (kv (.int 0))))
 (mSeq (mDrop (mMeth "list" vAppend (mBin vIx (gv 11) (gv 14)) (mCons (mBin vIx (gv 15) (mApp 2 F__law_pick (mCons (gv 0) (mCons (mCall vLen (mCons (gv 15) mNil)) mNil)))) mNil)))
 (mSeq (mIf (mNot (mTest (mApp 6 F__law_judged (mCons (gv 0) (mCons (gv 1) (mCons (gv 8) (mCons (gv 9) (mCons (gv 11) (mCons (kv (.bl false)) mNil)))))))))
 (mRet (kv (.bl false)))
 mSkip)
 (mDrop (mMeth "list" vPop (mBin vIx (gv 11) (gv 14)) mNil))))
 mSkip)
 (mSeq (mSet 17 (mLst (mCons (mTup (mCons (kv (.int 0)) mNil)) (mCons (mTup (mCons (gv 4) (mCons (kv (.int 0)) mNil))) (mCons (mTup (mCons (kv (.int 0)) (mCons (gv 6) mNil))) (mCons (mTup (mCons (mNeg (kv (.int 1))) (mCons (kv (.int 0)) mNil))) (mCons (mTup (mCons (kv (.bl false)) (mCons (kv (.int 0)) mNil))) (mCons (mTup (mCons (mTup (mCons (kv (.int 0)) (mCons (kv (.int 0)) mNil))) mNil)) (mCons (mTup (mCons (kv (.int 0)) (mCons (kv (.int 0)) (mCons (kv (.int 0)) mNil)))) (mCons (kv (.str "ab")) (mCons (kv .non) (mCons mDNew mNil))))))))))))
 (mSeq (mSet 14 (mApp 2 F__law_pick (mCons (gv 0) (mCons (mCall vLen (mCons (gv 11) mNil)) mNil))))
 (mSeq (mDrop (mMeth "list" vAppend (mBin vIx (gv 11) (gv 14)) (mCons (mBin vIx (gv 17) (mApp 2 F__law_pick (mCons (gv 0) (mCons (mCall vLen (mCons (gv 17) mNil)) mNil)))) mNil)))
 (mSeq (mIf (mNot (mTest (mApp 6 F__law_judged (mCons (gv 0) (mCons (gv 1) (mCons (gv 8) (mCons (gv 9) (mCons (gv 11) (mCons (kv (.bl false)) mNil)))))))))
 (mRet (kv (.bl false)))
 mSkip)
 (mSeq (mDrop (mMeth "list" vPop (mBin vIx (gv 11) (gv 14)) mNil))
 (mRet (mApp 6 F__law_judged (mCons (gv 0) (mCons (gv 1) (mCons (gv 8) (mCons (gv 9) (mCons (mSl (gv 11) (oSome (gv 14)) oNone) (mCons (kv (.bl true)) mNil)))))))))))))))))))))))))))))))
noncomputable def F__law_single_well (cContest : Addr) : List PV → M PV := runF 18 (g__law_single_well cContest)
noncomputable def g__law_comings : LS → M (Out × LS) := (mSeq (mSet 1 (kv (.str "")))
 (mSeq (mFor (mIt (gv 0) srcS) (gSet 2)
 (mIf (mTest (mBin (vIn true) (gv 2) (gv 1)))
 (mSet 1 (mBin vAdd (gv 1) (gv 2)))
 mSkip))
 (mRet (gv 1))))
noncomputable def F__law_comings : List PV → M PV := runF 3 (g__law_comings)
noncomputable def g__law_kinds : LS → M (Out × LS) := (mSeq (mSet 1 (mLoc mNil))
 (mSeq (mFor (mItA (mCons (mCall vLen (mCons (gv 0) mNil)) mNil) srcR1) (gSet 2)
 (mDrop (mMeth "list" vAppend (gv 1) (mCons (mTup (mCons (mBin vIx (gv 0) (gv 2)) (mCons (mApp 1 F__law_comings (mCons (mSl (gv 0) (oSome (mBin vAdd (gv 2) (kv (.int 1)))) oNone) mNil)) (mCons (mApp 1 F__law_comings (mCons (mApp 1 F__law_turned_row (mCons (mSl (gv 0) oNone (oSome (gv 2))) mNil)) mNil)) mNil)))) mNil))))
 (mRet (gv 1))))
noncomputable def F__law_kinds : List PV → M PV := runF 3 (g__law_kinds)
noncomputable def g__law_same : LS → M (Out × LS) := (mSeq (mSet 2 (mLst mNil))
 (mSeq (mFor (mItA (mCons (mCall vLen (mCons (gv 0) mNil)) mNil) srcR1) (gSet 3)
 (mSet 2 (mBin vAdd (gv 2) (mComp (mItA (mCons (mCall vLen (mCons (gv 1) mNil)) mNil) srcR1) (gSet 4) (mTest (mBin vEq (mBin vIx (gv 0) (gv 3)) (mBin vIx (gv 1) (gv 4)))) (mTup (mCons (gv 3) (mCons (gv 4) mNil))) [4]))))
 (mRet (gv 2))))
noncomputable def F__law_same : List PV → M PV := runF 5 (g__law_same)
noncomputable def g__law_answered : LS → M (Out × LS) := (mSeq (mFor (mItA (mCons (mCall vLen (mCons (gv 1) mNil)) mNil) srcR1) (gSet 3)
 (mSeq (mSet 4 (kv (.bl false)))
 (mSeq (mFor (mItA (mCons (mCall vLen (mCons (gv 2) mNil)) mNil) srcR1) (gSet 5)
 (mSeq (mIf (mTest (mBin (vDIn false) (mTup (mCons (mBin vIx (gv 1) (gv 3)) (mCons (mBin vIx (gv 2) (gv 5)) mNil))) (gv 0)))
 (mSet 4 (mCall vAll (mCons (mComp (mIt (mSl (gv 2) oNone (oSome (gv 5))) srcL) (gSet 7) mYes (mCall vAny (mCons (mComp (mIt (mSl (gv 1) oNone (oSome (gv 3))) srcL) (gSet 6) mYes (mBin (vDIn false) (mTup (mCons (gv 6) (mCons (gv 7) mNil))) (gv 0)) [6]) mNil)) [7]) mNil)))
 mSkip)
 (mIf (mTest (gv 4))
 mBreak
 mSkip)))
 (mIf (mNot (mTest (gv 4)))
 (mRet (kv (.bl false)))
 mSkip))))
 (mRet (kv (.bl true))))
noncomputable def F__law_answered : List PV → M PV := runF 8 (g__law_answered)
noncomputable def g__law_stays : LS → M (Out × LS) := (mSeq (mSet 4 mDNewT)
 (mSeq (mSet 5 mDNewT)
 (mSeq (mFor (mIt (gv 2) srcL) (gTupP 2 (gsCons (gSet 6) (gsCons (gSet 7) gsNil)))
 (mSeq (mDPut (gv 4) (mTup (mCons (gv 6) (mCons (gv 7) mNil))) (kv (.bl true)))
 (mDPut (gv 5) (mTup (mCons (gv 7) (mCons (gv 6) mNil))) (kv (.bl true)))))
 (mSeq (mSet 8 (mLst (mCons (mComp (mItA (mCons (mBin vAdd (mBin vIx (gv 3) (kv (.int 0))) (kv (.int 1))) (mCons (mCall vLen (mCons (gv 0) mNil)) mNil)) srcR2) (gSet 6) mYes (gv 6) [6]) (mCons (mComp (mItA (mCons (mBin vAdd (mBin vIx (gv 3) (kv (.int 1))) (kv (.int 1))) (mCons (mCall vLen (mCons (gv 1) mNil)) mNil)) srcR2) (gSet 7) mYes (gv 7) [7]) mNil))))
 (mSeq (mIf (mOr (mNot (mTest (mApp 3 F__law_answered (mCons (gv 4) (mCons (mBin vIx (gv 8) (kv (.int 0))) (mCons (mBin vIx (gv 8) (kv (.int 1))) mNil)))))) (mNot (mTest (mApp 3 F__law_answered (mCons (gv 5) (mCons (mBin vIx (gv 8) (kv (.int 1))) (mCons (mBin vIx (gv 8) (kv (.int 0))) mNil)))))))
 (mRet (kv (.bl false)))
 mSkip)
 (mSeq (mSet 8 (mLst (mCons (mComp (mItA (mCons (mBin vIx (gv 3) (kv (.int 0))) mNil) srcR1) (gSet 6) mYes (mBin vSub (mBin vSub (mBin vIx (gv 3) (kv (.int 0))) (kv (.int 1))) (gv 6)) [6]) (mCons (mComp (mItA (mCons (mBin vIx (gv 3) (kv (.int 1))) mNil) srcR1) (gSet 7) mYes (mBin vSub (mBin vSub (mBin vIx (gv 3) (kv (.int 1))) (kv (.int 1))) (gv 7)) [7]) mNil))))
 (mRet (mAndV (mApp 3 F__law_answered (mCons (gv 4) (mCons (mBin vIx (gv 8) (kv (.int 0))) (mCons (mBin vIx (gv 8) (kv (.int 1))) mNil)))) (mApp 3 F__law_answered (mCons (gv 5) (mCons (mBin vIx (gv 8) (kv (.int 1))) (mCons (mBin vIx (gv 8) (kv (.int 0))) mNil))))))))))))
noncomputable def F__law_stays : List PV → M PV := runF 9 (g__law_stays)
noncomputable def g__law_deep_well : LS → M (Out × LS) := (mSeq (mSet 6 (mBin vAdd (mLst (mCons (mCall vListL (mCons (gv 4) mNil)) (mCons (mCall vListL (mCons (gv 5) mNil)) mNil))) (mComp (mItA (mCons (mBin vAdd (kv (.int 8)) (mApp 2 F__law_pick (mCons (gv 0) (mCons (kv (.int 10)) mNil)))) mNil) srcR1) (gSet 7) mYes (mLoc mNil) [7])))
 (mSeq (mIf (mNot (mTest (mApp 6 F__law_judged (mCons (gv 0) (mCons (gv 1) (mCons (gv 2) (mCons (gv 3) (mCons (gv 6) (mCons (kv (.bl true)) mNil)))))))))
 (mRet (kv (.bl false)))
 mSkip)
 (mSeq (mSet 8 (mBin vAdd (kv (.int 3)) (mApp 2 F__law_pick (mCons (gv 0) (mCons (mBin vSub (mCall vLen (mCons (gv 6) mNil)) (kv (.int 3))) mNil)))))
 (mSeq (mDrop (mMeth "list" vAppend (mBin vIx (gv 6) (gv 8)) (mCons (mBin vIx (gv 4) (mApp 2 F__law_pick (mCons (gv 0) (mCons (mCall vLen (mCons (gv 4) mNil)) mNil)))) mNil)))
 (mRet (mApp 6 F__law_judged (mCons (gv 0) (mCons (gv 1) (mCons (gv 2) (mCons (gv 3) (mCons (gv 6) (mCons (kv (.bl false)) mNil))))))))))))
noncomputable def F__law_deep_well : List PV → M PV := runF 9 (g__law_deep_well)
noncomputable def g__law_long_well : LS → M (Out × LS) := (mSeq (mSet 1 (mApp 3 F__law_wide (mCons (gv 0) (mCons (kv (.int 2)) (mCons (kv (.int 8)) mNil)))))
 (mSeq (mSet 2 (mApp 2 F__law_pick (mCons (gv 0) (mCons (mBin vSub (mCall vLen (mCons (gv 1) mNil)) (kv (.int 1))) mNil))))
 (mSeq (mSet 3 (mSl (gv 1) (oSome (gv 2)) (oSome (mBin vAdd (mBin vAdd (gv 2) (kv (.int 2))) (mApp 2 F__law_pick (mCons (gv 0) (mCons (kv (.int 3)) mNil)))))))
 (mSeq (mSet 4 (mMeth "str" vJoin (kv (.str "")) (mCons (mComp (mItA (mCons (mBin vAdd (kv (.int 6)) (mApp 2 F__law_pick (mCons (gv 0) (mCons (kv (.int 7)) mNil)))) mNil) srcR1) (gSet 5) mYes (mBin vIx (gv 3) (mApp 2 F__law_pick (mCons (gv 0) (mCons (mCall vLen (mCons (gv 3) mNil)) mNil)))) [5]) mNil)))
 (mSeq (mSet 6 (mMeth "str" vJoin (kv (.str "")) (mCons (mComp (mItA (mCons (mBin vAdd (kv (.int 6)) (mApp 2 F__law_pick (mCons (gv 0) (mCons (kv (.int 7)) mNil)))) mNil) srcR1) (gSet 5) mYes (mBin vIx (gv 3) (mApp 2 F__law_pick (mCons (gv 0) (mCons (mCall vLen (mCons (gv 3) mNil)) mNil)))) [5]) mNil)))
 (mSeq (mSet 7 (mApp 2 F__law_same (mCons (gv 4) (mCons (gv 6) mNil))))
 (mSeq (mSet 8 (mApp 2 F__law_same (mCons (mApp 1 F__law_kinds (mCons (gv 4) mNil)) (mCons (mApp 1 F__law_kinds (mCons (gv 6) mNil)) mNil))))
 (mSeq (mIf (mNot (mTest (mApp 6 F__law_judged (mCons (gv 0) (mCons (gv 1) (mCons (gv 4) (mCons (gv 6) (mCons (mLst (mCons (gv 7) (mCons (gv 8) mNil))) (mCons (kv (.bl true)) mNil)))))))))
 (mRet (kv (.bl false)))
 mSkip)
 (mSeq (mIf (mTest (mBin vEq (mCall vLen (mCons (gv 7) mNil)) (kv (.int 0))))
 (mRet (kv (.bl true)))
 mSkip)
 (mSeq (mSet 9 (mComp (mIt (gv 7) srcL) (gSet 10) (mTest (mBin (vIn true) (gv 10) (gv 8))) (gv 10) [10]))
 (mSeq (mIf (mTest (mBin vGt (mCall vLen (mCons (gv 9) mNil)) (kv (.int 0))))
 (mSeq (mSet 10 (mBin vIx (gv 9) (mApp 2 F__law_pick (mCons (gv 0) (mCons (mCall vLen (mCons (gv 9) mNil)) mNil)))))
 (mSeq (mIf (mNot (mTest (mApp 6 F__law_judged (mCons (gv 0) (mCons (gv 1) (mCons (gv 4) (mCons (gv 6) (mCons (mLst (mCons (gv 7) (mCons (mLst (mCons (gv 10) mNil)) mNil))) (mCons (kv (.bl false)) mNil)))))))))
 (mRet (kv (.bl false)))
 mSkip)
 (mIf (mNot (mTest (mApp 6 F__law_judged (mCons (gv 0) (mCons (gv 1) (mCons (gv 4) (mCons (gv 6) (mCons (mLst (mCons (gv 7) (mCons (mBin vAdd (gv 8) (mLst (mCons (gv 10) mNil))) mNil))) (mCons (kv (.bl false)) mNil)))))))))
 (mRet (kv (.bl false)))
 mSkip)))
 mSkip)
 (mSeq (mFor (mItA (mCons (kv (.int 2)) mNil) srcR1) (gSet 11)
 (mSeq (mIf (mTest (mBin vGt (mCall vLen (mCons (gv 8) mNil)) (kv (.int 0))))
 (mSeq (mSet 10 (mBin vIx (gv 8) (mApp 2 F__law_pick (mCons (gv 0) (mCons (mCall vLen (mCons (gv 8) mNil)) mNil)))))
 (mSeq (mSet 12 (mApp 4 F__law_stays (mCons (gv 4) (mCons (gv 6) (mCons (gv 8) (mCons (gv 10) mNil))))))
 (mIf (mNot (mTest (mApp 6 F__law_judged (mCons (gv 0) (mCons (gv 1) (mCons (gv 4) (mCons (gv 6) (mCons (mLst (mCons (gv 7) (mCons (gv 8) (mCons (mLst (mCons (gv 10) mNil)) mNil)))) (mCons (gv 12) mNil)))))))))
 (mRet (kv (.bl false)))
 mSkip)))
 mSkip)
 (mSeq (mSet 13 (mComp (mIt (gv 7) srcL) (gSet 10) (mTest (mBin vGt (mApp 2 F__law_pick (mCons (gv 0) (mCons (kv (.int 4)) mNil))) (kv (.int 0)))) (gv 10) [10]))
 (mSeq (mSet 10 (mBin vIx (gv 7) (mApp 2 F__law_pick (mCons (gv 0) (mCons (mCall vLen (mCons (gv 7) mNil)) mNil)))))
 (mIf (mNot (mTest (mApp 6 F__law_judged (mCons (gv 0) (mCons (gv 1) (mCons (gv 4) (mCons (gv 6) (mCons (mLst (mCons (gv 13) (mCons (mLst (mCons (gv 10) mNil)) mNil))) (mCons (mApp 4 F__law_stays (mCons (gv 4) (mCons (gv 6) (mCons (gv 13) (mCons (gv 10) mNil))))) mNil)))))))))
 (mRet (kv (.bl false)))
 mSkip)))))
 (mRet (mApp 6 F__law_deep_well (mCons (gv 0) (mCons (gv 1) (mCons (gv 4) (mCons (gv 6) (mCons (gv 7) (mCons (gv 8) mNil))))))))))))))))))))
noncomputable def F__law_long_well : List PV → M PV := runF 14 (g__law_long_well)
noncomputable def g_law (cContest : Addr) : LS → M (Out × LS) := (mSeq (mIf (mNot (mTest (mApp 1 (F__law_single_well cContest) (mCons (mApp 2 F__law_source (mCons (gv 0) (mCons (kv (.int 0)) mNil))) mNil))))
 (mRet (kv (.bl false)))
 mSkip)
 (mRet (mApp 1 F__law_long_well (mCons (mApp 2 F__law_source (mCons (gv 0) (mCons (kv (.int 1)) mNil))) mNil))))
noncomputable def F_law (cContest : Addr) : List PV → M PV := runF 1 (g_law cContest)
end Lw

set_option Elab.async false
set_option linter.all false
set_option maxRecDepth 100000
namespace Lw
open PySem PySem.Spec L2 ML
/-! ### tables, places -/
def rw (c : Nat) (g : Nat → Bool) : PV := .lst ((List.range c).map fun m => .bl (g m))
def tb (r c : Nat) (f : Nat → Nat → Bool) : PV := .lst ((List.range r).map fun k => rw c (f k))
def pl (l : List Nat) : PV := .lst (l.map fun i => .int (i : Nat))
theorem atI_nat {α : Type} (xs : List α) (k : Nat) (h : k < xs.length) : atI xs ((k : Nat) : Int) = xs[k]? := by
  unfold atI ixN
  simp [h]
theorem ix_lst {ts mh : List PV} {k : Nat} {t : PV} (h : ts[k]? = some t) : vIx (.lst ts) (.int (k : Nat)) mh = .ok t mh := by
  have hk : k < ts.length := (List.getElem?_eq_some_iff.mp h).1
  show (match seqR mh (.lst ts) with
      | some ts => (match atI ts ((k : Nat) : Int) with
        | some t => Rs.ok t mh
        | none => .no)
      | none => .no) = _
  show (match atI ts ((k : Nat) : Int) with
        | some t => Rs.ok t mh
        | none => .no) = _
  rw [atI_nat ts k hk, h]
@[simp] theorem ix_rw {c : Nat} {g : Nat → Bool} {k : Nat} {mh : List PV} (h : k < c) : vIx (rw c g) (.int (k : Nat)) mh = .ok (.bl (g k)) mh := ix_lst (by simp [h])
@[simp] theorem ix_tb {r c : Nat} {f : Nat → Nat → Bool} {k : Nat} {mh : List PV} (h : k < r) : vIx (tb r c f) (.int (k : Nat)) mh = .ok (rw c (f k)) mh := ix_lst (by simp [h])
/-! ### is_integer, is_listed -/
theorem e_is_integer_i (i lo hi : Int) (mh : List PV) : F_is_integer [.int i, .int lo, .int hi] mh = .ok (.bl (decide (lo ≤ i ∧ i ≤ hi))) mh := by
  simp [F_is_integer, g_is_integer, runF, startL, exitF]
  by_cases h : lo ≤ i <;> simp [h]
theorem e_is_integer_b (i : Bool) (lo hi : Int) (mh : List PV) : F_is_integer [.bl i, .int lo, .int hi] mh = .ok (.bl false) mh := by
  simp [F_is_integer, g_is_integer, runF, startL, exitF]
theorem e_is_listed_l (ts mh : List PV) : F_is_listed [.lst ts] mh = .ok (.bl true) mh := by
  simp [F_is_listed, g_is_listed, runF, startL, exitF]
/-! ### exchanged_table -/
theorem e_exchanged (r c w : Nat) (f : Nat → Nat → Bool) (mh : List PV) (hw : w ≤ c) (h1 : w ≤ 16777216) : F_exchanged_table [tb r c f, .int (w : Nat)] mh = .ok (tb w r fun m k => f k m) mh := by
  have key : mComp (mItA (mCons (gv 1) mNil) srcR1) (gSet 3) mYes (mComp (mIt (gv 0) srcL) (gSet 2) mYes (mBin vIx (gv 2) (gv 3)) [2]) [3] [some (tb r c f), some (.int (w : Nat)), none, none] mh = .ok (tb w r fun m k => f k m) mh := by
    refine comp_map (en := fun i : Nat => .int (i : Nat)) (fun m => rw r fun k => f k m) (by simp [src_rng h1]) (is_rng w) fun m hm => ?_
    have hm : m < c := by have := List.mem_range.mp hm; omega
    simp [wipeL]
    rw [comp_map (en := fun k => rw c (f k)) (ys := List.range r) (fun k => .bl (f k m)) (by simp [tb]; rfl) (Src.is_lst _) fun k hk => by simp [wipeL, hm]]
    rfl
  unfold F_exchanged_table g_exchanged_table runF
  simp [startL, key, exitF]
end Lw

set_option Elab.async false
set_option linter.all false
set_option maxRecDepth 10000
namespace Lw
open PySem PySem.Spec L2 ML
/-! ### places_beyond -/
def beyond (p n : Nat) : Bool → List Nat
  | true => (List.range (n - (p + 1))).map (· + (p + 1))
  | false => (List.range p).map fun i => p - 1 - i
def wd : Bool → Str
  | true => "until"
  | false => "since"
theorem ok_wd (u : Bool) : PyData.strOk (wd u) = true := by cases u <;> decide +kernel
theorem eq_wd (u : Bool) : (wd u == ("until" : Str)) = u := by cases u <;> decide +kernel
theorem e_beyond (p n : Nat) (u : Bool) (mh : List PV) (hp : p < n) (hn : n ≤ 1000) : F_places_beyond [.int (p : Nat), .int (n : Nat), .str (wd u)] mh = .ok (pl (beyond p n u)) mh := by
  have e1 : ∀ mh, vEq (.str (wd u)) (.str "until") mh = .ok (.bl u) mh := fun mh => by rw [v_eq_str, eq_wd]
  have e2 : rgOkB ((p : Int) + 1) (n : Int) = true := decide_eq_true (by omega)
  have e4 : dnOkB ((p : Int) - 1) (-1) = true := decide_eq_true (by omega)
  have e3 : PV.lst (rgP ((p : Int) + 1) (n : Int)) = pl (beyond p n true) := by
    unfold rgP pl beyond
    have : ((n : Int) - ((p : Int) + 1)).toNat = n - (p + 1) := by omega
    rw [this, List.map_map]
    refine congrArg PV.lst (List.map_congr_left fun i _ => congrArg PV.int ?_)
    show (p : Int) + 1 + (i : Int) = ((i + (p + 1) : Nat) : Int)
    omega
  have e5 : PV.lst (dnP ((p : Int) - 1) (-1)) = pl (beyond p n false) := by
    unfold dnP pl beyond
    have : ((p : Int) - 1 - (-1)).toNat = p := by omega
    rw [this, List.map_map]
    refine congrArg PV.lst (List.map_congr_left fun i hi => congrArg PV.int ?_)
    have := List.mem_range.mp hi
    show (p : Int) - 1 + (i : Int) * (-1) = ((p - 1 - i : Nat) : Int)
    omega
  have a1 : ∀ τ : LS, τ = [some (.int (p : Nat)), some (.int (n : Nat)), some (.str (wd u))] → g_places_beyond τ mh = .ok (.ret (pl (beyond p n u)), τ) mh := by
    intro τ hτ
    have g0 : gv 0 τ mh = .ok (.int (p : Nat)) mh := by subst hτ; rfl
    have g1 : gv 1 τ mh = .ok (.int (n : Nat)) mh := by subst hτ; rfl
    have g2 : gv 2 τ mh = .ok (.str (wd u)) mh := by subst hτ; rfl
    unfold g_places_beyond
    rw [ev_seq, ev_if, ev_test, ev_bin, g2, Rs.bind_ok, ev_kv, Rs.bind_ok, e1, Rs.bind_ok, ev_asB, Rs.bind_ok]
    cases u with
    | true =>
      rw [if_pos rfl, ev_ret, ev_listRg2 (i := (p : Int) + 1) (j := (n : Nat)) (m := mh) (m2 := mh) (by rw [ev_bin, g0, Rs.bind_ok, ev_kv, Rs.bind_ok, v_add]) g1 e2, e3]
      rfl
    | false =>
      rw [if_neg Bool.false_ne_true, ev_skip, Rs.bind_ok, ev_ret, ev_listRgD (i := (p : Int) - 1) (j := -1) (m := mh) (by rw [ev_cons, ev_bin, g0, Rs.bind_ok, ev_kv, Rs.bind_ok, v_sub, Rs.bind_ok]; rfl) e4, e5]
      rfl
  unfold F_places_beyond runF
  show exitF mh (g_places_beyond [some (.int (p : Nat)), some (.int (n : Nat)), some (.str (wd u))] mh) = _
  rw [a1 _ rfl]
  exact fin_same
end Lw

set_option Elab.async false
set_option linter.all false
set_option maxRecDepth 10000
namespace Lw
open PySem PySem.Spec L2 ML
/-! ### barred_places -/
def okB (C g : Nat → Bool) : List Nat → Bool
  | [] => false
  | p :: l => g p || (C p && okB C g l)
def brd (C : Nat → Bool) : List Nat → List Nat
  | [] => []
  | p :: l => p :: (if C p = true then brd C l else [])
/-- a dict with the places of C as keys -/
def DictC (o : PV) (C : Nat → Bool) (b : Nat) : Prop := ∃ ks ts, o = .dk ks ts ∧ ks.length ≤ b ∧ ts = ks.map (fun _ => PV.bl true) ∧ ∀ p : Nat, C p = true ↔ (Sum.inl (p : Int) : Key) ∈ ks
theorem dget_true : ∀ (ks : List Key) (k : Key), (dGet k ks (ks.map fun _ => PV.bl true)).isSome = true ↔ k ∈ ks
  | [], k => by simp [dGet]
  | q :: ks, k => by
    show (if q = k then some (PV.bl true) else dGet k ks (ks.map fun _ => PV.bl true)).isSome = true ↔ _
    by_cases h : q = k
    · simp [h]
    · rw [if_neg h, dget_true ks k]
      have : k ≠ q := fun e => h e.symm
      simp [this]
theorem din_c {o : PV} {C : Nat → Bool} {b : Nat} (h : DictC o C b) {mh : List PV} {n : Nat} (hn : mh[n]? = some o) (s : Bool) (p : Nat) : vDIn s (.int (p : Nat)) (.loc n) mh = .ok (.bl (xor s (C p))) mh := by
  obtain ⟨ks, ts, rfl, _, rfl, hc⟩ := h
  have e : lookP mh (.loc n) (.int (p : Nat)) = some (dGet (Sum.inl (p : Int)) ks (ks.map fun _ => PV.bl true)) := by
    unfold lookP dictV
    simp only [hn, lookO, keyP]
  unfold vDIn
  rw [e]
  show Rs.ok (PV.bl (xor s (dGet _ ks _).isSome)) mh = _
  have : (dGet (Sum.inl (p : Int)) ks (ks.map fun _ => PV.bl true)).isSome = C p := Bool.eq_iff_iff.mpr ((dget_true ks _).trans (hc p).symm)
  rw [this]
theorem zip_true (z : Key) : ∀ ks : List Key, List.zipWith (fun n x => if n = z then PV.bl true else x) ks (ks.map fun _ => PV.bl true) = ks.map fun _ => PV.bl true
  | [] => rfl
  | k :: ks => by rw [List.map_cons, List.zipWith_cons_cons, zip_true z ks]; simp
theorem put_c {o : PV} {C : Nat → Bool} {b : Nat} (h : DictC o C b) (hb : b < 1000) (p : Nat) : ∃ o', putO o (.int (p : Nat)) (.bl true) = some o' ∧ DictC o' (fun q => C q || decide (q = p)) (b + 1) := by
  obtain ⟨ks, ts, rfl, hl, rfl, hc⟩ := h
  have e : putO (.dk ks (ks.map fun _ => PV.bl true)) (.int (p : Nat)) (.bl true) = some (.dk (dPutN (Sum.inl (p : Int)) ks) (dPutT (Sum.inl (p : Int)) (.bl true) ks (ks.map fun _ => PV.bl true))) := by
    unfold putO
    simp only [keyP]
    rw [if_pos (by rw [sizeLine_eq]; omega)]
  refine ⟨_, e, _, _, rfl, ?_, ?_, fun q => ?_⟩
  · unfold dPutN; split
    · omega
    · rw [List.length_append]; show ks.length + 1 ≤ _; omega
  · unfold dPutN dPutT
    split
    · exact zip_true _ ks
    · simp
  · have hq : (C q || decide (q = p)) = true ↔ (Sum.inl (q : Int) : Key) ∈ ks ∨ q = p := by rw [Bool.or_eq_true, hc, decide_eq_true_iff]
    rw [hq]
    unfold dPutN
    split
    · next hm =>
      constructor
      · rintro (h | h)
        · exact h
        · rw [h]; exact hm
      · exact .inl
    · rw [List.mem_append, List.mem_singleton]
      refine or_congr Iff.rfl ⟨fun h => by rw [h], fun h => ?_⟩
      have := Sum.inl.inj h
      omega
theorem app_lst {mh0 acc : List PV} {y : PV} (h : acc.length < 1000) : vAppend (.loc mh0.length) [y] (mh0 ++ [.lst acc]) = .ok .non (mh0 ++ [.lst (acc ++ [y])]) := by
  unfold vAppend locL
  simp
  rw [sizeLine_eq]; omega
theorem ty_lloc {mh0 acc : List PV} : tyB "list" (mh0 ++ [.lst acc]) (.loc mh0.length) = true := by
  unfold tyB; simp [seqR, seqL]
theorem barred_loop {c n : Nat} {C g : Nat → Bool} {b : Nat} {o : PV} {mh0 : List PV} {line oth : PV} (hd : DictC o C b) (hn : mh0[n]? = some o) (hline : line = rw c g) : ∀ (l : List Nat) (x : Option PV) (acc : List Nat), (∀ p ∈ l, p < c) → acc.length + l.length < 1000 →
    ∃ x' acc' oo, loopL (gSet 4) (mSeq (mIf (mTest (mBin vIx (gv 0) (gv 4))) (mRet (kv .non)) mSkip) (mSeq (mDrop (mMeth "list" vAppend (gv 3) (mCons (gv 4) mNil))) (mIf (mTest (mBin (vDIn true) (gv 4) (gv 1))) (mRet (gv 3)) mSkip)))
      (l.map fun p => .int (p : Nat)) [some line, some (.loc n), some oth, some (.loc mh0.length), x] (mh0 ++ [.lst (acc.map fun p => .int (p : Nat))]) = .ok (oo, [some line, some (.loc n), some oth, some (.loc mh0.length), x']) (mh0 ++ [.lst (acc'.map fun p => .int (p : Nat))]) ∧
      ((okB C g l = true ∧ oo = .ret .non) ∨ (okB C g l = false ∧ acc' = acc ++ brd C l ∧ (oo = .nx ∨ oo = .ret (.loc mh0.length))))
  | [], x, acc, _, _ => ⟨x, acc, .nx, rfl, .inr ⟨rfl, by simp [brd], .inl rfl⟩⟩
  | p :: l, x, acc, hp, hl => by
    subst hline
    have hpc : p < c := hp p (List.mem_cons_self ..)
    have hl' : acc.length + (l.length + 1) < 1000 := by simpa using hl
    have hdin : ∀ z, vDIn true (.int (p : Nat)) (.loc n) (mh0 ++ [z]) = .ok (.bl (!C p)) (mh0 ++ [z]) := fun z => by
      rw [din_c hd (by rw [List.getElem?_append_left (List.getElem?_eq_some_iff.mp hn).1]; exact hn), Bool.true_xor]
    have hap : vAppend (.loc mh0.length) [.int (p : Nat)] (mh0 ++ [.lst (acc.map fun p => .int (p : Nat))]) = .ok .non (mh0 ++ [.lst (acc.map (fun p => .int (p : Nat)) ++ [.int (p : Nat)])]) := app_lst (by simp; omega)
    cases hg : g p with
    | true =>
      refine ⟨some (.int (p : Nat)), acc, .ret .non, ?_, .inl ⟨by simp [okB, hg], rfl⟩⟩
      simp [loopL, ix_rw hpc, hg]
    | false =>
      cases hc : C p with
      | false =>
        refine ⟨some (.int (p : Nat)), acc ++ [p], .ret (.loc mh0.length), ?_, .inr ⟨by simp [okB, hg, hc], by simp [brd, hc], .inr rfl⟩⟩
        simp [loopL, ix_rw hpc, hg, mMeth, ty_lloc, hap, hdin, hc]
      | true =>
        obtain ⟨x', acc', oo, h1, h2⟩ := barred_loop (oth := oth) (g := g) hd hn rfl l (some (.int (p : Nat))) (acc ++ [p]) (fun q hq => hp q (List.mem_cons_of_mem _ hq)) (by simp; omega)
        refine ⟨x', acc', oo, ?_, ?_⟩
        · rw [← h1]
          simp [loopL, ix_rw hpc, hg, mMeth, ty_lloc, hap, hdin, hc]
        · rcases h2 with ⟨a, b⟩ | ⟨a, b, c⟩
          · exact .inl ⟨by simp [okB, hc, a], b⟩
          · exact .inr ⟨by simp [okB, hg, hc, a], by rw [b]; simp [brd, hc], c⟩
theorem e_barred {c n : Nat} {C g : Nat → Bool} {b : Nat} {o : PV} {mh : List PV} (hd : DictC o C b) (hn : mh[n]? = some o) (l : List Nat) (hl : ∀ p ∈ l, p < c) (hz : l.length < 1000) :
    F_barred_places [rw c g, .loc n, pl l] mh = .ok (if okB C g l = true then .non else pl (brd C l)) mh := by
  unfold F_barred_places runF g_barred_places
  obtain ⟨x', acc', oo, h1, h2⟩ := barred_loop (c := c) (g := g) (oth := pl l) hd hn rfl l none [] hl (by simpa using hz)
  have hs : mFor (mIt (gv 2) srcL) (gSet 4) (mSeq (mIf (mTest (mBin vIx (gv 0) (gv 4))) (mRet (kv .non)) mSkip) (mSeq (mDrop (mMeth "list" vAppend (gv 3) (mCons (gv 4) mNil))) (mIf (mTest (mBin (vDIn true) (gv 4) (gv 1))) (mRet (gv 3)) mSkip)))
      [some (rw c g), some (.loc n), some (pl l), some (.loc mh.length), none] (mh ++ [.lst []]) = .ok (oo, [some (rw c g), some (.loc n), some (pl l), some (.loc mh.length), x']) (mh ++ [.lst (acc'.map fun p => .int (p : Nat))]) := by
    rw [ev_for]
    show loopS (Src.lst _) _ _ _ _ _ = _
    rw [loop_is (Src.is_lst _)]
    exact h1
  have hf : fin mh (.loc mh.length) (mh ++ [.lst (acc'.map fun p => .int (p : Nat))]) = .ok (pl acc') mh := fin_lst (lfs_map (fun _ => rfl) _)
  have hf2 : fin mh .non (mh ++ [.lst (acc'.map fun p => .int (p : Nat))]) = .ok .non mh := fin_lf rfl
  simp [startL, hs]
  rcases h2 with ⟨a, b⟩ | ⟨a, b, c⟩
  · subst b; simp [exitF, hf2, a]
  · have b : acc' = brd C l := b
    subst b
    rcases c with c | c <;> subst c <;> simp [exitF, hf, a]
end Lw

set_option Elab.async false
set_option linter.all false
set_option maxRecDepth 10000
namespace Lw
open PySem PySem.Spec L2 ML
/-! ### unanswered -/
def covB (l : List Nat) (C g : Nat → Bool) : Nat → Bool := fun q => C q || (decide (q ∈ l) && g q)
def ansB (f : Nat → Nat → Bool) (l : List Nat) (C : Nat → Bool) : List Nat → Bool
  | [] => true
  | k :: ks => okB C (f k) l && ansB f l (covB l C (f k)) ks
theorem cov_loop {r c k : Nat} {f : Nat → Nat → Bool} {mh0 : List PV} {a1 a2 a4 a6 a7 : Option PV} (hk : k < r) : ∀ (l : List Nat) (x : Option PV) (o : PV) (C : Nat → Bool) (b : Nat), DictC o C b → (∀ p ∈ l, p < c) → b + l.length < 1000 →
    ∃ x' o', loopL (gSet 8) (mIf (mTest (mBin vIx (mBin vIx (gv 0) (gv 5)) (gv 8))) (mDPut (gv 3) (gv 8) (kv (.bl true))) mSkip) (l.map fun p => .int (p : Nat)) [some (tb r c f), a1, a2, some (.loc mh0.length), a4, some (.int (k : Nat)), a6, a7, x] (mh0 ++ [o]) =
      .ok (.nx, [some (tb r c f), a1, a2, some (.loc mh0.length), a4, some (.int (k : Nat)), a6, a7, x']) (mh0 ++ [o']) ∧ DictC o' (covB l C (f k)) (b + l.length)
  | [], x, o, C, b, hd, _, _ => ⟨x, o, rfl, by
    have : covB [] C (f k) = C := by funext q; simp [covB]
    rw [this]; exact hd⟩
  | p :: l, x, o, C, b, hd, hp, hl => by
    have hpc : p < c := hp p (List.mem_cons_self ..)
    have hl' : b + (l.length + 1) < 1000 := by simpa using hl
    cases hg : f k p with
    | false =>
      obtain ⟨x', o', h1, h2⟩ := cov_loop hk l (some (.int (p : Nat))) o C b hd (fun q hq => hp q (List.mem_cons_of_mem _ hq)) (by omega)
      refine ⟨x', o', ?_, ?_⟩
      · rw [← h1]; simp [loopL, ix_tb hk, ix_rw hpc, hg]
      · have : covB (p :: l) C (f k) = covB l C (f k) := by
          funext q
          unfold covB
          by_cases hq : q = p
          · subst hq; simp [hg]
          · simp [hq]
        rw [this]
        obtain ⟨ks, ts, e1, e2, e3, e4⟩ := h2
        exact ⟨ks, ts, e1, by rw [List.length_cons]; omega, e3, e4⟩
    | true =>
      obtain ⟨o1, e1, hd1⟩ := put_c hd (by omega) p
      obtain ⟨x', o', h1, h2⟩ := cov_loop hk l (some (.int (p : Nat))) o1 _ (b + 1) hd1 (fun q hq => hp q (List.mem_cons_of_mem _ hq)) (by omega)
      refine ⟨x', o', ?_, ?_⟩
      · rw [← h1]; simp [loopL, ix_tb hk, ix_rw hpc, hg, mDPut, e1]
      · have : covB (p :: l) C (f k) = covB l (fun q => C q || decide (q = p)) (f k) := by
          funext q
          unfold covB
          by_cases hq : q = p
          · subst hq; simp [hg]
          · simp [hq]
        rw [this, List.length_cons, show b + (l.length + 1) = b + 1 + l.length by omega]
        exact h2
theorem atI_last {α : Type} {xs : List α} (h : xs ≠ []) : atI xs (-1) = some (xs.getLast h) := by
  have hl : 0 < xs.length := List.length_pos_iff.mpr h
  unfold atI ixN
  rw [if_neg (by omega), if_pos (by omega)]
  show xs[((-1 : Int) + (xs.length : Nat)).toNat]? = _
  rw [show ((-1 : Int) + (xs.length : Nat)).toNat = xs.length - 1 by omega, ← List.getLast?_eq_getElem?, List.getLast?_eq_some_getLast h]
theorem last_ix {ts : List Nat} {mh : List PV} (h : ts ≠ []) : vIx (pl ts) (.int (-1)) mh = .ok (.int (ts.getLast h : Nat)) mh := by
  have hm : ts.map (fun i => PV.int (i : Nat)) ≠ [] := by simpa using h
  show (match atI (ts.map fun i => PV.int (i : Nat)) (-1) with
        | some t => Rs.ok t mh
        | none => .no) = _
  rw [atI_last hm, List.getLast_map]
theorem brd_ne {C : Nat → Bool} {l : List Nat} : brd C l = [] ↔ l = [] := by cases l <;> simp [brd]
theorem len_pl {ts : List Nat} {mh : List PV} : vLen [pl ts] mh = .ok (.int (ts.length : Nat)) mh := by
  show Rs.ok (PV.int ((ts.map fun i => PV.int (i : Nat)).length : Nat)) mh = _
  rw [List.length_map]
theorem is_non_pl {ts : List Nat} {mh : List PV} : vIs true (pl ts) .non mh = .ok (.bl true) mh := rfl
theorem is_non_non {mh : List PV} : vIs true .non .non mh = .ok (.bl false) mh := rfl
theorem bar_ev {ts : List Nat} {mh : List PV} {n b : Nat} {o : PV} {C : Nat → Bool} {a0 a1 a2 a4 a5 a7 a8 : Option PV} (hd : DictC o C b) (hn : mh[n]? = some o) :
    ∃ v, lf v = true ∧ mIf (mAnd (mTest (mBin vGt (mCall vLen (mCons (gv 6) mNil)) (kv (.int 0)))) (mTest (mBin (vDIn true) (mBin vIx (gv 6) (mNeg (kv (.int 1)))) (gv 3)))) (mBin vIx (gv 6) (mNeg (kv (.int 1)))) (kv .non)
      [a0, a1, a2, some (.loc n), a4, a5, some (pl ts), a7, a8] mh = .ok v mh := by
  by_cases h : ts = []
  · subst h
    exact ⟨.non, rfl, by simp [len_pl]⟩
  · have hl : 0 < ts.length := List.length_pos_iff.mpr h
    cases hc : C (ts.getLast h) with
    | true => exact ⟨.non, rfl, by simp [len_pl, hl, last_ix h, din_c hd hn, hc]⟩
    | false => exact ⟨.int (ts.getLast h : Nat), rfl, by simp [len_pl, hl, last_ix h, din_c hd hn, hc]⟩
theorem ones_loop {r c : Nat} {f : Nat → Nat → Bool} {mh0 : List PV} {others : List Nat} (ho : ∀ p ∈ others, p < c) (hol : others.length ≤ 20) (all : List Nat) : ∀ (ones : List Nat) (i : Nat) (a4 a5 a6 a7 a8 : Option PV) (o : PV) (C : Nat → Bool) (b : Nat), DictC o C b → (∀ k ∈ ones, k < r) → b + 20 * ones.length < 900 →
    ∃ oo τ' m', loopL (gTupP 2 (gsCons (gSet 4) (gsCons (gSet 5) gsNil)))
 (mSeq (mSet 6 (mApp 3 F_barred_places (mCons (mBin vIx (gv 0) (gv 5)) (mCons (gv 3) (mCons (gv 2) mNil)))))
 (mSeq (mIf (mTest (mBin (vIs true) (gv 6) (kv .non)))
 (mSeq (mSet 7 (mIf (mAnd (mTest (mBin vGt (mCall vLen (mCons (gv 6) mNil)) (kv (.int 0)))) (mTest (mBin (vDIn true) (mBin vIx (gv 6) (mNeg (kv (.int 1)))) (gv 3)))) (mBin vIx (gv 6) (mNeg (kv (.int 1)))) (kv .non)))
 (mRet (mTup (mCons (gv 5) (mCons (mSl (gv 1) oNone (oSome (gv 4))) (mCons (gv 6) (mCons (gv 7) mNil)))))))
 mSkip)
 (mFor (mIt (gv 2) srcL) (gSet 8)
 (mIf (mTest (mBin vIx (mBin vIx (gv 0) (gv 5)) (gv 8)))
 (mDPut (gv 3) (gv 8) (kv (.bl true)))
 mSkip))))
      (ones.mapIdx fun j k => .tup [.int (i + j : Nat), .int (k : Nat)]) [some (tb r c f), some (pl all), some (pl others), some (.loc mh0.length), a4, a5, a6, a7, a8] (mh0 ++ [o]) = .ok (oo, τ') m' ∧ (∃ ex, m' = mh0 ++ ex) ∧
      ((ansB f others C ones = true ∧ oo = .nx) ∨ (ansB f others C ones = false ∧ ∃ x y z w, oo = .ret (.tup [x, y, z, w]) ∧ lfs [x, y, z, w] = true))
  | [], i, a4, a5, a6, a7, a8, o, C, b, _, _, _ => ⟨.nx, _, _, rfl, ⟨[o], rfl⟩, .inl ⟨rfl, rfl⟩⟩
  | k :: ones, i, a4, a5, a6, a7, a8, o, C, b, hd, hk, hb => by
    have hkr : k < r := hk k (List.mem_cons_self ..)
    have hbl : b + 20 * (ones.length + 1) < 900 := by simpa using hb
    have hn : (mh0 ++ [o])[mh0.length]? = some o := by simp
    have hbar := e_barred (c := c) (g := f k) hd hn others ho (by omega)
    cases hok : okB C (f k) others with
    | false =>
      rw [hok] at hbar
      simp only [Bool.false_eq_true, if_false] at hbar
      obtain ⟨v, hv, hbe⟩ := bar_ev (ts := brd C others) (a0 := some (tb r c f)) (a1 := some (pl all)) (a2 := some (pl others)) (a4 := some (.int (i : Nat))) (a5 := some (.int (k : Nat))) (a7 := a7) (a8 := a8) hd hn
      refine ⟨.ret (.tup [.int (k : Nat), .lst (cutP (all.map fun i => .int (i : Nat)) none (some (i : Nat))), pl (brd C others), v]), [some (tb r c f), some (pl all), some (pl others), some (.loc mh0.length), some (.int (i : Nat)), some (.int (k : Nat)), some (pl (brd C others)), some v, a8], _, ?_, ⟨[o], rfl⟩, .inr ⟨by simp [ansB, hok], _, _, _, _, rfl, ?_⟩⟩
      · rw [List.mapIdx_cons, loopL]
        have hif : ∀ A B : LS → M (Out × LS), mIf (mTest (mBin (vIs true) (gv 6) (kv .non))) A B [some (tb r c f), some (pl all), some (pl others), some (.loc mh0.length), some (.int (i : Nat)), some (.int (k : Nat)), some (pl (brd C others)), a7, a8] (mh0 ++ [o]) =
            A [some (tb r c f), some (pl all), some (pl others), some (.loc mh0.length), some (.int (i : Nat)), some (.int (k : Nat)), some (pl (brd C others)), a7, a8] (mh0 ++ [o]) := fun A B => by simp [is_non_pl]
        have hsl : vSl (pl all) none (some (i : Nat)) (mh0 ++ [o]) = .ok (.lst (cutP (all.map fun i => .int (i : Nat)) none (some (i : Nat)))) (mh0 ++ [o]) := rfl
        simp [-ev_if, gTupP, gsCons, gsNil, ix_tb hkr, hbar, hif, hbe, hsl, sizeLine_eq]
      · simp only [lfs, lf, hv, Bool.and_true, Bool.and_eq_true, true_and]
        exact ⟨(lfs_iff _).mpr fun t ht => by
          unfold cutP at ht
          obtain ⟨a, _, rfl⟩ := List.mem_map.mp (List.mem_of_mem_drop (List.mem_of_mem_take ht))
          rfl, lfs_map (fun _ => rfl) _⟩
    | true =>
      rw [hok] at hbar
      simp only [if_true] at hbar
      obtain ⟨x', o', h1, h2⟩ := cov_loop (r := r) (c := c) (f := f) (mh0 := mh0) (a1 := some (pl all)) (a2 := some (pl others)) (a4 := some (.int (i : Nat))) (a6 := some .non) (a7 := a7) hkr others a8 o C b hd ho (by omega)
      obtain ⟨oo, τ', m', g1, g2, g3⟩ := ones_loop (f := f) ho hol all ones (i + 1) (some (.int (i : Nat))) (some (.int (k : Nat))) (some .non) a7 x' o' _ (b + others.length) h2 (fun q hq => hk q (List.mem_cons_of_mem _ hq)) (by omega)
      refine ⟨oo, τ', m', ?_, g2, ?_⟩
      · rw [List.mapIdx_cons, loopL]
        have e1 : (fun j k : Nat => PV.tup [.int (i + (j + 1) : Nat), .int (k : Nat)]) = fun j k => PV.tup [.int (i + 1 + j : Nat), .int (k : Nat)] := by
          funext j k
          rw [show i + (j + 1) = i + 1 + j by omega]
        have e2 : mFor (mIt (gv 2) srcL) (gSet 8) (mIf (mTest (mBin vIx (mBin vIx (gv 0) (gv 5)) (gv 8))) (mDPut (gv 3) (gv 8) (kv (.bl true))) mSkip) [some (tb r c f), some (pl all), some (pl others), some (.loc mh0.length), some (.int (i : Nat)), some (.int (k : Nat)), some .non, a7, a8] (mh0 ++ [o]) =
            .ok (.nx, [some (tb r c f), some (pl all), some (pl others), some (.loc mh0.length), some (.int (i : Nat)), some (.int (k : Nat)), some .non, a7, x']) (mh0 ++ [o']) := by
          rw [ev_for]
          show loopS (Src.lst _) _ _ _ _ _ = _
          rw [loop_is (Src.is_lst _)]
          exact h1
        rw [e1, ← g1]
        simp [gTupP, gsCons, gsNil, ix_tb hkr, hbar, is_non_non, e2]
      · simpa [ansB, hok] using g3
theorem e_unanswered {r c : Nat} {f : Nat → Nat → Bool} {ones others : List Nat} (mh : List PV) (h1 : ∀ k ∈ ones, k < r) (h2 : ∀ p ∈ others, p < c) (h3 : ones.length ≤ 20) (h4 : others.length ≤ 20) :
    ∃ v, F_unanswered [tb r c f, pl ones, pl others] mh = .ok v mh ∧ ((ansB f others (fun _ => false) ones = true ∧ v = .non) ∨ (ansB f others (fun _ => false) ones = false ∧ ∃ x y z w, v = .tup [x, y, z, w] ∧ lfs [x, y, z, w] = true)) := by
  have hd : DictC (.dk [] []) (fun _ => false) 0 := ⟨[], [], rfl, Nat.le_refl _, rfl, fun p => by simp⟩
  obtain ⟨oo, τ', m', g1, ⟨ex, g2⟩, g3⟩ := ones_loop (mh0 := mh) h2 h4 ones ones 0 none none none none none (.dk [] []) _ 0 hd h1 (by omega)
  have hs : ∀ B, mFor (mItA (mCons (gv 1) mNil) srcE) (gTupP 2 (gsCons (gSet 4) (gsCons (gSet 5) gsNil))) B [some (tb r c f), some (pl ones), some (pl others), some (.loc mh.length), none, none, none, none, none] (mh ++ [.dk [] []]) =
      loopL (gTupP 2 (gsCons (gSet 4) (gsCons (gSet 5) gsNil))) B (ones.mapIdx fun j k => .tup [.int (0 + j : Nat), .int (k : Nat)]) [some (tb r c f), some (pl ones), some (pl others), some (.loc mh.length), none, none, none, none, none] (mh ++ [.dk [] []]) := fun B => by
    rw [ev_for]
    have e : (ones.mapIdx fun j k => PV.tup [.int (0 + j : Nat), .int (k : Nat)]) = (ones.map fun i => PV.int (i : Nat)).mapIdx fun i x => .tup [.int i, x] := by
      refine List.ext_getElem? fun j => ?_
      simp only [List.getElem?_mapIdx, List.getElem?_map, Nat.zero_add]
      cases ones[j]? <;> rfl
    rw [e]
    show loopS (Src.lst _).enum _ _ _ _ _ = _
    rw [loop_is (Src.is_enum (Src.is_lst _))]
  subst g2
  have hg := (hs _).trans g1
  rcases g3 with ⟨a, b⟩ | ⟨a, x, y, z, w, b, l⟩
  · subst b
    refine ⟨.non, ?_, .inl ⟨a, rfl⟩⟩
    unfold F_unanswered runF g_unanswered
    simp [startL, mDNewK, hg, exitF, fin_lf (x := .non) rfl]
  · subst b
    refine ⟨.tup [x, y, z, w], ?_, .inr ⟨a, x, y, z, w, rfl, l⟩⟩
    unfold F_unanswered runF g_unanswered
    simp [startL, mDNewK, hg, exitF, fin_lf (x := .tup [x, y, z, w]) l]
end Lw

set_option Elab.async false
set_option linter.all false
set_option maxRecDepth 10000
namespace Lw
open PySem PySem.Spec L2 ML
/-! ### lost_move -/
def fl (f : Nat → Nat → Bool) : Nat → Nat → Bool := fun m k => f k m
def half (f : Nat → Nat → Bool) (r c k m : Nat) (u : Bool) : Bool := ansB f (beyond m c u) (fun _ => false) (beyond k r u) && ansB (fl f) (beyond k r u) (fun _ => false) (beyond m c u)
def keeps (f : Nat → Nat → Bool) (r c k m : Nat) : Bool := half f r c k m true && half f r c k m false
theorem beyond_lt {p n : Nat} {u : Bool} (hp : p < n) : ∀ q ∈ beyond p n u, q < n := by
  intro q hq
  cases u with
  | true =>
    obtain ⟨i, hi, rfl⟩ := List.mem_map.mp hq
    have := List.mem_range.mp hi
    omega
  | false =>
    obtain ⟨i, hi, rfl⟩ := List.mem_map.mp hq
    have := List.mem_range.mp hi
    omega
theorem beyond_len {p n : Nat} {u : Bool} (hp : p < n) : (beyond p n u).length ≤ n := by
  cases u <;> simp [beyond] <;> omega
theorem len_tb {r c : Nat} {f : Nat → Nat → Bool} {mh : List PV} : vLen [tb r c f] mh = .ok (.int (r : Nat)) mh := by
  show Rs.ok (PV.int (((List.range r).map fun k => rw c (f k)).length : Nat)) mh = _
  rw [List.length_map, List.length_range]
noncomputable def lostB : LS → M (Out × LS) := (mSeq (mSet 5 (mApp 3 F_places_beyond (mCons (gv 2) (mCons (mCall vLen (mCons (gv 0) mNil)) (mCons (gv 4) mNil)))))
 (mSeq (mSet 6 (mApp 3 F_places_beyond (mCons (gv 3) (mCons (mCall vLen (mCons (gv 1) mNil)) (mCons (gv 4) mNil)))))
 (mSeq (mSet 7 (mApp 3 F_unanswered (mCons (gv 0) (mCons (gv 5) (mCons (gv 6) mNil)))))
 (mSeq (mIf (mTest (mBin (vIs true) (gv 7) (kv .non)))
 (mRet (mBin vAdd (mTup (mCons (gv 4) (mCons (kv (.bl false)) mNil))) (gv 7)))
 mSkip)
 (mSeq (mSet 7 (mApp 3 F_unanswered (mCons (gv 1) (mCons (gv 6) (mCons (gv 5) mNil)))))
 (mIf (mTest (mBin (vIs true) (gv 7) (kv .non)))
 (mRet (mBin vAdd (mTup (mCons (gv 4) (mCons (kv (.bl true)) mNil))) (gv 7)))
 mSkip))))))
theorem is_non_tup {ts mh : List PV} : vIs true (.tup ts) .non mh = .ok (.bl true) mh := rfl
theorem add_tup {a b x y z w : PV} {mh : List PV} : vAdd (.tup [a, b]) (.tup [x, y, z, w]) mh = .ok (.tup [a, b, x, y, z, w]) mh := by
  show (if 2 + 4 ≤ sizeLine then Rs.ok (PV.tup ([a, b] ++ [x, y, z, w])) mh else .no) = _
  rw [if_pos (by rw [sizeLine_eq]; omega)]; rfl
theorem lost_body {r c k m : Nat} {f : Nat → Nat → Bool} (mh : List PV) (u : Bool) (hk : k < r) (hm : m < c) (hr : r ≤ 20) (hc : c ≤ 20) (a5 a6 a7 : Option PV) :
    ∃ oo b5 b6 b7, lostB [some (tb r c f), some (tb c r (fl f)), some (.int (k : Nat)), some (.int (m : Nat)), some (.str (wd u)), a5, a6, a7] mh = .ok (oo, [some (tb r c f), some (tb c r (fl f)), some (.int (k : Nat)), some (.int (m : Nat)), some (.str (wd u)), b5, b6, b7]) mh ∧
      ((half f r c k m u = true ∧ oo = .nx) ∨ (half f r c k m u = false ∧ ∃ ts, oo = .ret (.tup ts) ∧ lfs ts = true)) := by
  have b1 := fun mh => e_beyond k r u mh hk (by omega)
  have b2 := fun mh => e_beyond m c u mh hm (by omega)
  obtain ⟨v1, g1, h1⟩ := e_unanswered (r := r) (c := c) (f := f) (ones := beyond k r u) (others := beyond m c u) mh (beyond_lt hk) (beyond_lt hm) (Nat.le_trans (beyond_len hk) hr) (Nat.le_trans (beyond_len hm) hc)
  obtain ⟨v2, g2, h2⟩ := e_unanswered (r := c) (c := r) (f := fl f) (ones := beyond m c u) (others := beyond k r u) mh (beyond_lt hm) (beyond_lt hk) (Nat.le_trans (beyond_len hm) hc) (Nat.le_trans (beyond_len hk) hr)
  rcases h1 with ⟨a1, c1⟩ | ⟨a1, x, y, z, w, c1, l1⟩
  · subst c1
    rcases h2 with ⟨a2, c2⟩ | ⟨a2, x, y, z, w, c2, l2⟩
    · subst c2
      exact ⟨.nx, _, _, _, by simp [lostB, len_tb, b1, b2, g1, g2, is_non_non]; exact ⟨rfl, rfl, rfl⟩, .inl ⟨by simp [half, a1, a2], rfl⟩⟩
    · subst c2
      refine ⟨.ret (.tup [.str (wd u), .bl true, x, y, z, w]), _, _, _, by simp [lostB, len_tb, b1, b2, g1, g2, is_non_non, is_non_tup, add_tup, sizeLine_eq]; exact ⟨rfl, rfl, rfl⟩, .inr ⟨by simp [half, a2], _, rfl, ?_⟩⟩
      simpa [lfs, lf] using l2
  · subst c1
    refine ⟨.ret (.tup [.str (wd u), .bl false, x, y, z, w]), _, _, _, by simp [lostB, len_tb, b1, b2, g1, g2, is_non_non, is_non_tup, add_tup, sizeLine_eq]; exact ⟨rfl, rfl, rfl⟩, .inr ⟨by simp [half, a1], _, rfl, ?_⟩⟩
    simpa [lfs, lf] using l1
theorem e_lost {r c k m : Nat} {f : Nat → Nat → Bool} (mh : List PV) (hk : k < r) (hm : m < c) (hr : r ≤ 20) (hc : c ≤ 20) :
    ∃ v, F_lost_move [tb r c f, tb c r (fl f), .int (k : Nat), .int (m : Nat)] mh = .ok v mh ∧ ((keeps f r c k m = true ∧ v = .non) ∨ (keeps f r c k m = false ∧ ∃ ts, v = .tup ts)) := by
  have hfor : mFor (mIt (mTup (mCons (kv (.str "until")) (mCons (kv (.str "since")) mNil))) srcT) (gSet 4) lostB [some (tb r c f), some (tb c r (fl f)), some (.int (k : Nat)), some (.int (m : Nat)), none, none, none, none] mh =
      loopL (gSet 4) lostB [.str (wd true), .str (wd false)] [some (tb r c f), some (tb c r (fl f)), some (.int (k : Nat)), some (.int (m : Nat)), none, none, none, none] mh := by
    rw [ev_for]
    have : mIt (mTup (mCons (kv (.str "until")) (mCons (kv (.str "since")) mNil))) srcT [some (tb r c f), some (tb c r (fl f)), some (.int (k : Nat)), some (.int (m : Nat)), none, none, none, none] mh = .ok (Src.lst [.str (wd true), .str (wd false)]) mh := by
      simp [sizeLine_eq, wd]
    rw [this, Rs.bind_ok, loop_is (Src.is_lst _)]
  obtain ⟨o1, p5, p6, p7, g1, h1⟩ := lost_body mh true hk hm hr hc (f := f) none none none
  obtain ⟨o2, q5, q6, q7, g2, h2⟩ := lost_body mh false hk hm hr hc (f := f) p5 p6 p7
  rcases h1 with ⟨a1, c1⟩ | ⟨a1, ts, c1, l1⟩
  · subst c1
    rcases h2 with ⟨a2, c2⟩ | ⟨a2, ts, c2, l2⟩
    · subst c2
      exact ⟨.non, run_ret (t := .non) (m1 := mh) ((seq_nx (hfor.trans ((loop_nx rfl g1).trans ((loop_nx rfl g2).trans rfl)))).trans rfl) fin_same, .inl ⟨by simp [keeps, a1, a2], rfl⟩⟩
    · subst c2
      exact ⟨.tup ts, run_ret (t := .tup ts) (m1 := mh) (seq_ret (hfor.trans ((loop_nx rfl g1).trans (loop_ret rfl g2)))) fin_same, .inr ⟨by simp [keeps, a2], _, rfl⟩⟩
  · subst c1
    exact ⟨.tup ts, run_ret (t := .tup ts) (m1 := mh) (seq_ret (hfor.trans (loop_ret rfl g1))) fin_same, .inr ⟨by simp [keeps, a1], _, rfl⟩⟩
end Lw

set_option Elab.async false
set_option linter.all false
set_option maxRecDepth 10000
namespace Lw
open PySem PySem.Spec L2 ML
/-! ### next_table -/
def nx (r c : Nat) (f : Nat → Nat → Bool) : Nat → Nat → Bool := fun k m => f k m && keeps f r c k m
theorem enum_tb {r c : Nat} {f : Nat → Nat → Bool} : (Src.lst ((List.range r).map fun k => rw c (f k))).enum.Is ((List.range r).map fun k => PV.tup [.int (k : Nat), rw c (f k)]) := by
  have h := Src.is_enum (Src.is_lst ((List.range r).map fun k => rw c (f k)))
  have e : (((List.range r).map fun k => rw c (f k)).mapIdx fun i x => PV.tup [.int i, x]) = (List.range r).map fun k => PV.tup [.int (k : Nat), rw c (f k)] := by
    refine List.ext_getElem? fun j => ?_
    simp only [List.getElem?_mapIdx, List.getElem?_map]
    by_cases hj : j < r
    · rw [List.getElem?_range hj]; rfl
    · rw [List.getElem?_eq_none (by simp; omega)]; rfl
  rw [e] at h
  exact h
theorem e_next {r c : Nat} {f : Nat → Nat → Bool} (mh : List PV) (hr : r ≤ 20) (hc : c ≤ 20) : F_next_table [tb r c f, tb c r (fl f)] mh = .ok (tb r c (nx r c f)) mh := by
  have hL : ∀ k m, k < r → m < c → ∃ v, F_lost_move [tb r c f, tb c r (fl f), .int (k : Nat), .int (m : Nat)] mh = .ok v mh ∧ ((keeps f r c k m = true ∧ v = .non) ∨ (keeps f r c k m = false ∧ ∃ ts, v = .tup ts)) := fun k m hk hm => e_lost (f := f) mh hk hm hr hc
  unfold F_next_table g_next_table
  generalize F_lost_move = F at hL ⊢
  have inner : ∀ k, k < r → mComp (mItA (mCons (mCall vLen (mCons (gv 1) mNil)) mNil) srcR1) (gSet 2) mYes (mAndV (mBin vIx (gv 4) (gv 2)) (mBin (vIs false) (mApp 4 F (mCons (gv 0) (mCons (gv 1) (mCons (gv 3) (mCons (gv 2) mNil))))) (kv .non))) [2]
      [some (tb r c f), some (tb c r (fl f)), none, some (.int (k : Nat)), some (rw c (f k))] mh = .ok (rw c (nx r c f k)) mh := fun k hk => by
    refine comp_map (en := fun i : Nat => .int (i : Nat)) (ys := List.range c) (fun m => .bl (nx r c f k m)) (itA_ok (args1 (call_ok (args1 rfl) len_tb)) (src_rng (by omega))) (is_rng c) fun m hm => ?_
    have hm : m < c := List.mem_range.mp hm
    obtain ⟨v, g1, h1⟩ := hL k m hk hm
    cases hf : f k m with
    | false =>
      have e0 : nx r c f k m = false := by unfold nx; rw [hf]; rfl
      rw [e0]
      exact step_map rfl (andV_f (bin_ok rfl rfl ((ix_rw hm).trans (by rw [hf]))))
    | true =>
      have e0 : nx r c f k m = keeps f r c k m := by unfold nx; rw [hf]; rfl
      rw [e0]
      rcases h1 with ⟨a1, c1⟩ | ⟨a1, ts, c1⟩
      · subst c1
        rw [a1]
        exact step_map rfl ((andV_t (bin_ok rfl rfl ((ix_rw hm).trans (by rw [hf])))).trans (bin_ok (app_ok (cons_ok rfl (args3 rfl rfl rfl)) g1) rfl rfl))
      · subst c1
        rw [a1]
        exact step_map rfl ((andV_t (bin_ok rfl rfl ((ix_rw hm).trans (by rw [hf])))).trans (bin_ok (app_ok (cons_ok rfl (args3 rfl rfl rfl)) g1) rfl rfl))
  have key : mComp (mItA (mCons (gv 0) mNil) srcE) (gTupP 2 (gsCons (gSet 3) (gsCons (gSet 4) gsNil))) mYes (mComp (mItA (mCons (mCall vLen (mCons (gv 1) mNil)) mNil) srcR1) (gSet 2) mYes (mAndV (mBin vIx (gv 4) (gv 2)) (mBin (vIs false) (mApp 4 F (mCons (gv 0) (mCons (gv 1) (mCons (gv 3) (mCons (gv 2) mNil))))) (kv .non))) [2]) [3, 4]
      [some (tb r c f), some (tb c r (fl f)), none, none, none] mh = .ok (tb r c (nx r c f)) mh :=
    comp_map (en := fun k : Nat => .tup [.int (k : Nat), rw c (f k)]) (ys := List.range r) (fun k => rw c (nx r c f k)) (itA_ok (args1 rfl) ev_srcE) enum_tb fun k hk => step_map rfl (inner k (List.mem_range.mp hk))
  exact run_ret (ret_ok key) fin_same
end Lw

set_option Elab.async false
set_option linter.all false
set_option maxRecDepth 100000
namespace Lw
open PySem PySem.Spec L2 ML
/-! ### rows of one letter: the formula's tables, reckoned -/
def cl (r c h k m : Nat) : Bool := (k == m && (r - 1 - k == c - 1 - m)) || (min k h == min m h && min (r - 1 - k) h == min (c - 1 - m) h && (h == 0 || min (r - 1) (2 * h - 2) == min (c - 1) (2 * h - 2)))
def okL : List Bool → List Bool → Bool
  | c :: cs, g :: gs => g || (c && okL cs gs)
  | _, _ => false
def ansL : List Bool → List (List Bool) → Bool
  | _, [] => true
  | cs, g :: rest => okL cs g && ansL (List.zipWith or cs g) rest
def tabL (r c : Nat) (f : Nat → Nat → Bool) : List (List Bool) := (List.range r).map fun k => (List.range c).map (f k)
def sideL (T : List (List Bool)) (w k m : Nat) : Bool := ansL (List.replicate (w - (m + 1)) false) ((T.drop (k + 1)).map (·.drop (m + 1)))
def chk (r c : Nat) : Bool := (List.range 8).all fun h =>
  let T := tabL r c (cl r c h)
  let U := tabL c r fun m k => cl r c h k m
  let N := tabL r c fun k m => sideL T c k m && sideL U r m k
  (List.range r).all fun k => (List.range c).all fun m => (((N.getD k []).getD m false && (N.getD (r - 1 - k) []).getD (c - 1 - m) false) == cl r c (h + 1) k m)
theorem okB_L (C g : Nat → Bool) : ∀ l : List Nat, okB C g l = okL (l.map C) (l.map g)
  | [] => rfl
  | p :: l => by simp only [okB, List.map_cons, okL, okB_L C g l]
theorem cov_L (C g : Nat → Bool) (l : List Nat) : l.map (covB l C g) = List.zipWith or (l.map C) (l.map g) := by
  have key : ∀ (s : List Nat), (∀ q ∈ s, q ∈ l) → s.map (covB l C g) = List.zipWith or (s.map C) (s.map g) := by
    intro s
    induction s with
    | nil => intro _; rfl
    | cons q s ih =>
      intro h
      rw [List.map_cons, List.map_cons, List.map_cons, List.zipWith_cons_cons, ih fun z hz => h z (List.mem_cons_of_mem _ hz)]
      have : decide (q ∈ l) = true := decide_eq_true (h q (List.mem_cons_self ..))
      simp only [covB, this, Bool.true_and]
  exact key l fun _ h => h
theorem ansB_L (f : Nat → Nat → Bool) (l : List Nat) : ∀ (ks : List Nat) (C : Nat → Bool), ansB f l C ks = ansL (l.map C) (ks.map fun k => l.map (f k))
  | [], C => rfl
  | k :: ks, C => by simp only [ansB, List.map_cons, ansL, okB_L, ansB_L f l ks, cov_L]
theorem drop_range (n k : Nat) : (List.range n).drop k = (List.range (n - k)).map (· + k) := by
  refine List.ext_getElem? fun j => ?_
  rw [List.getElem?_drop, List.getElem?_map]
  by_cases h : j < n - k
  · rw [List.getElem?_range h, List.getElem?_range (by omega)]
    simp; omega
  · rw [List.getElem?_eq_none (by simp; omega), List.getElem?_eq_none (by simp; omega)]; rfl
theorem side_eq (f : Nat → Nat → Bool) (r c k m : Nat) : ansB f (beyond m c true) (fun _ => false) (beyond k r true) = sideL (tabL r c f) c k m := by
  rw [ansB_L]
  have e1 : (beyond m c true).map (fun _ => false) = List.replicate (c - (m + 1)) false := by
    unfold beyond
    rw [List.map_map, List.eq_replicate_iff]
    refine ⟨by simp, fun b hb => ?_⟩
    obtain ⟨_, _, rfl⟩ := List.mem_map.mp hb
    rfl
  have e2 : ((beyond k r true).map fun k => (beyond m c true).map (f k)) = ((tabL r c f).drop (k + 1)).map (·.drop (m + 1)) := by
    unfold tabL
    rw [← List.map_drop, drop_range, List.map_map, List.map_map]
    show (List.map _ (List.map _ _)) = _
    rw [List.map_map]
    refine List.map_congr_left fun i _ => ?_
    show (beyond m c true).map (f (i + (k + 1))) = ((List.range c).map (f (i + (k + 1)))).drop (m + 1)
    rw [← List.map_drop, drop_range]
    rfl
  rw [e1, e2]
  rfl
theorem half_t (f : Nat → Nat → Bool) (r c k m : Nat) : half f r c k m true = (sideL (tabL r c f) c k m && sideL (tabL c r (fl f)) r m k) := by
  unfold half
  rw [side_eq, side_eq]
def mir (r c : Nat) (f : Nat → Nat → Bool) : Nat → Nat → Bool := fun i j => f (r - 1 - i) (c - 1 - j)
theorem beyond_mir {p n : Nat} (h : p < n) : beyond p n false = (beyond (n - 1 - p) n true).map (n - 1 - ·) := by
  unfold beyond
  rw [List.map_map, show n - (n - 1 - p + 1) = p by omega]
  refine List.map_congr_left fun i hi => ?_
  have := List.mem_range.mp hi
  show p - 1 - i = n - 1 - (i + (n - 1 - p + 1))
  omega
theorem half_f (f : Nat → Nat → Bool) {r c k m : Nat} (hk : k < r) (hm : m < c) : half f r c k m false = half (mir r c f) r c (r - 1 - k) (c - 1 - m) true := by
  unfold half
  rw [beyond_mir hk, beyond_mir hm, ansB_L, ansB_L, ansB_L, ansB_L]
  simp only [List.map_map]
  rfl
theorem tab_congr {f g : Nat → Nat → Bool} {r c : Nat} (h : ∀ k m, k < r → m < c → f k m = g k m) : tabL r c f = tabL r c g :=
  List.map_congr_left fun k hk => List.map_congr_left fun m hm => h k m (List.mem_range.mp hk) (List.mem_range.mp hm)
theorem half_congr {f g : Nat → Nat → Bool} {r c : Nat} (h : ∀ k m, k < r → m < c → f k m = g k m) (k m : Nat) : half f r c k m true = half g r c k m true := by
  rw [half_t, half_t, tab_congr h, tab_congr (f := fl f) (g := fl g) fun m k hm hk => h k m hk hm]
theorem keeps_congr {f g : Nat → Nat → Bool} {r c : Nat} (h : ∀ k m, k < r → m < c → f k m = g k m) {k m : Nat} (hk : k < r) (hm : m < c) : keeps f r c k m = keeps g r c k m := by
  unfold keeps
  rw [half_congr h, half_f f hk hm, half_f g hk hm, half_congr (f := mir r c f) (g := mir r c g) fun i j hi hj => h _ _ (by omega) (by omega)]
theorem cl_mir {r c h k m : Nat} (hk : k < r) (hm : m < c) : cl r c h (r - 1 - k) (c - 1 - m) = cl r c h k m := by
  unfold cl
  have e1 : r - 1 - (r - 1 - k) = k := by omega
  have e2 : c - 1 - (c - 1 - m) = m := by omega
  rw [e1, e2]
  have a : (r - 1 - k == c - 1 - m && k == m) = (k == m && r - 1 - k == c - 1 - m) := Bool.and_comm _ _
  have b : (min (r - 1 - k) h == min (c - 1 - m) h && min k h == min m h) = (min k h == min m h && min (r - 1 - k) h == min (c - 1 - m) h) := Bool.and_comm _ _
  rw [a, b]
theorem chk_at {r c h k m : Nat} (hc : chk r c = true) (hh : h < 8) (hk : k < r) (hm : m < c) : keeps (cl r c h) r c k m = cl r c (h + 1) k m := by
  unfold chk at hc
  have h1 := List.all_eq_true.mp hc h (List.mem_range.mpr hh)
  have h2 := List.all_eq_true.mp h1 k (List.mem_range.mpr hk)
  have h3 := List.all_eq_true.mp h2 m (List.mem_range.mpr hm)
  have h4 := eq_of_beq h3
  rw [← h4]
  have g : ∀ (f : Nat → Nat → Bool) (a b : Nat), a < r → b < c → ((tabL r c f).getD a []).getD b false = f a b := fun f a b ha hb => by
    simp [tabL, List.getD_eq_getElem?_getD, ha, hb]
  rw [g _ k m hk hm, g _ _ _ (by omega) (by omega)]
  unfold keeps
  rw [half_f _ hk hm, half_t, half_congr (f := mir r c (cl r c h)) (g := cl r c h) fun i j hi hj => cl_mir hi hj, half_t]
  rfl
end Lw

set_option Elab.async false
set_option linter.all false
set_option maxRecDepth 100000
namespace Lw
theorem chk_0 : ((List.range 13).all fun c => chk 0 c) = true := by decide +kernel
theorem chk_1 : ((List.range 13).all fun c => chk 1 c) = true := by decide +kernel
theorem chk_2 : ((List.range 13).all fun c => chk 2 c) = true := by decide +kernel
theorem chk_3 : ((List.range 13).all fun c => chk 3 c) = true := by decide +kernel
theorem chk_4 : ((List.range 13).all fun c => chk 4 c) = true := by decide +kernel
theorem chk_5 : ((List.range 13).all fun c => chk 5 c) = true := by decide +kernel
theorem chk_6 : ((List.range 13).all fun c => chk 6 c) = true := by decide +kernel
theorem chk_7 : ((List.range 13).all fun c => chk 7 c) = true := by decide +kernel
theorem chk_8 : ((List.range 13).all fun c => chk 8 c) = true := by decide +kernel
theorem chk_9 : ((List.range 13).all fun c => chk 9 c) = true := by decide +kernel
theorem chk_10 : ((List.range 13).all fun c => chk 10 c) = true := by decide +kernel
theorem chk_11 : ((List.range 13).all fun c => chk 11 c) = true := by decide +kernel
theorem chk_12 : ((List.range 13).all fun c => chk 12 c) = true := by decide +kernel
theorem chk_all {r c : Nat} (hr : r < 13) (hc : c < 13) : chk r c = true := by
  have key : ∀ {r : Nat}, ((List.range 13).all fun c => chk r c) = true → chk r c = true := fun h => List.all_eq_true.mp h c (List.mem_range.mpr hc)
  match r, hr with
  | 0, _ => exact key chk_0
  | 1, _ => exact key chk_1
  | 2, _ => exact key chk_2
  | 3, _ => exact key chk_3
  | 4, _ => exact key chk_4
  | 5, _ => exact key chk_5
  | 6, _ => exact key chk_6
  | 7, _ => exact key chk_7
  | 8, _ => exact key chk_8
  | 9, _ => exact key chk_9
  | 10, _ => exact key chk_10
  | 11, _ => exact key chk_11
  | 12, _ => exact key chk_12
  | n + 13, h => omega
theorem cl_stable {r c h k m : Nat} (hr : r < 13) (hc : c < 13) (hh : 7 ≤ h) (hk : k < r) (hm : m < c) : cl r c h k m = (k == m && (r - 1 - k == c - 1 - m)) := by
  unfold cl
  have : (min k h == min m h && min (r - 1 - k) h == min (c - 1 - m) h && (h == 0 || min (r - 1) (2 * h - 2) == min (c - 1) (2 * h - 2))) = true → (k == m && (r - 1 - k == c - 1 - m)) = true := by
    simp only [Bool.and_eq_true, Bool.or_eq_true, beq_iff_eq]
    omega
  cases h1 : (k == m && (r - 1 - k == c - 1 - m)) with
  | true => rfl
  | false =>
    rw [Bool.false_or]
    cases h2 : (min k h == min m h && min (r - 1 - k) h == min (c - 1 - m) h && (h == 0 || min (r - 1) (2 * h - 2) == min (c - 1) (2 * h - 2))) with
    | false => rfl
    | true => rw [this h2] at h1; cases h1
/-- THE FACT -/
theorem cl_next {r c h k m : Nat} (hr : r < 13) (hc : c < 13) (hk : k < r) (hm : m < c) : keeps (cl r c h) r c k m = cl r c (h + 1) k m := by
  by_cases hh : h < 8
  · exact chk_at (chk_all hr hc) hh hk hm
  · have e : ∀ i j, i < r → j < c → cl r c h i j = cl r c 7 i j := fun i j hi hj => by rw [cl_stable hr hc (by omega) hi hj, cl_stable hr hc (by omega) hi hj]
    rw [keeps_congr e hk hm, chk_at (chk_all hr hc) (by omega) hk hm, cl_stable hr hc (by omega) hk hm, cl_stable hr hc (by omega) hk hm]
end Lw

set_option Elab.async false
set_option linter.all false
set_option maxRecDepth 100000
namespace Lw
open PySem PySem.Spec L2 ML
/-! ### is_answered -/
theorem enum_map (n : Nat) (F : Nat → PV) : (Src.lst ((List.range n).map F)).enum.Is ((List.range n).map fun k => PV.tup [.int (k : Nat), F k]) := by
  have h := Src.is_enum (Src.is_lst ((List.range n).map F))
  have e : (((List.range n).map F).mapIdx fun i x => PV.tup [.int i, x]) = (List.range n).map fun k => PV.tup [.int (k : Nat), F k] := by
    refine List.ext_getElem? fun j => ?_
    simp only [List.getElem?_mapIdx, List.getElem?_map]
    by_cases hj : j < n
    · rw [List.getElem?_range hj]; rfl
    · rw [List.getElem?_eq_none (by simp; omega)]; rfl
  rw [e] at h
  exact h
def ansAll (r c : Nat) (g f : Nat → Nat → Bool) : Bool := (List.range r).all fun k => (List.range c).all fun m => !g k m || keeps f r c k m
theorem e_answered {r c : Nat} {f g : Nat → Nat → Bool} (mh : List PV) (hr : r ≤ 20) (hc : c ≤ 20) : F_is_answered [tb r c g, tb r c f, .int (c : Nat)] mh = .ok (.bl (ansAll r c g f)) mh := by
  have hX := e_exchanged r c c f mh (Nat.le_refl _) (by omega)
  have hL : ∀ k m, k < r → m < c → ∃ v, F_lost_move [tb r c f, tb c r (fl f), .int (k : Nat), .int (m : Nat)] mh = .ok v mh ∧ ((keeps f r c k m = true ∧ v = .non) ∨ (keeps f r c k m = false ∧ ∃ ts, v = .tup ts)) := fun k m hk hm => e_lost (f := f) mh hk hm hr hc
  unfold F_is_answered g_is_answered
  change F_exchanged_table _ mh = .ok (tb c r (fl f)) mh at hX
  generalize F_lost_move = L at hL ⊢
  generalize F_exchanged_table = E at hX ⊢
  -- one line
  have inner : ∀ k, k < r → ∀ (l : List Nat) (a6 a7 : Option PV), (∀ m ∈ l, m < c) → ∃ b6 b7, loopL (gTupP 2 (gsCons (gSet 6) (gsCons (gSet 7) gsNil))) (mIf (mAnd (mTest (gv 7)) (mTest (mBin (vIs true) (mApp 4 L (mCons (gv 1) (mCons (gv 3) (mCons (gv 4) (mCons (gv 6) mNil))))) (kv .non)))) (mRet (kv (.bl false))) mSkip) (l.map fun m => .tup [.int (m : Nat), .bl (g k m)]) [some (tb r c g), some (tb r c f), some (.int (c : Nat)), some (tb c r (fl f)), some (.int (k : Nat)), some (rw c (g k)), a6, a7] mh =
      .ok (if (l.all fun m => !g k m || keeps f r c k m) = true then .nx else .ret (.bl false), [some (tb r c g), some (tb r c f), some (.int (c : Nat)), some (tb c r (fl f)), some (.int (k : Nat)), some (rw c (g k)), b6, b7]) mh := by
    intro k hk l
    induction l with
    | nil => intro a6 a7 _; exact ⟨a6, a7, rfl⟩
    | cons m l ih =>
      intro a6 a7 hl
      have hm : m < c := hl m (List.mem_cons_self ..)
      obtain ⟨b6, b7, h1⟩ := ih (some (.int (m : Nat))) (some (.bl (g k m))) fun q hq => hl q (List.mem_cons_of_mem _ hq)
      cases hg : g k m with
      | false =>
        rw [hg] at h1
        refine ⟨b6, b7, ?_⟩
        rw [List.all_cons, hg, List.map_cons, hg]
        exact (loop_nx rfl ((if_f (and_f (test_ok rfl))).trans rfl)).trans h1
      | true =>
        obtain ⟨v, g1, h2⟩ := hL k m hk hm
        rw [List.all_cons, hg, List.map_cons, hg]
        rw [hg] at h1
        rcases h2 with ⟨a1, c1⟩ | ⟨a1, ts, c1⟩
        · subst c1
          rw [a1]
          exact ⟨b6, b7, (loop_nx rfl ((if_f ((and_t (test_ok rfl)).trans (test_ok (bin_ok (app_ok (cons_ok rfl (args3 rfl rfl rfl)) g1) rfl rfl)))).trans rfl)).trans h1⟩
        · subst c1
          rw [a1]
          exact ⟨_, _, loop_ret rfl ((if_t ((and_t (test_ok rfl)).trans (test_ok (bin_ok (app_ok (cons_ok rfl (args3 rfl rfl rfl)) g1) rfl rfl)))).trans (ret_ok rfl))⟩
  -- all lines
  have outer : ∀ (l : List Nat) (a4 a5 a6 a7 : Option PV), (∀ k ∈ l, k < r) → ∃ b4 b5 b6 b7, loopL (gTupP 2 (gsCons (gSet 4) (gsCons (gSet 5) gsNil))) (mFor (mItA (mCons (gv 5) mNil) srcE) (gTupP 2 (gsCons (gSet 6) (gsCons (gSet 7) gsNil))) (mIf (mAnd (mTest (gv 7)) (mTest (mBin (vIs true) (mApp 4 L (mCons (gv 1) (mCons (gv 3) (mCons (gv 4) (mCons (gv 6) mNil))))) (kv .non)))) (mRet (kv (.bl false))) mSkip)) (l.map fun k => .tup [.int (k : Nat), rw c (g k)]) [some (tb r c g), some (tb r c f), some (.int (c : Nat)), some (tb c r (fl f)), a4, a5, a6, a7] mh =
      .ok (if (l.all fun k => (List.range c).all fun m => !g k m || keeps f r c k m) = true then .nx else .ret (.bl false), [some (tb r c g), some (tb r c f), some (.int (c : Nat)), some (tb c r (fl f)), b4, b5, b6, b7]) mh := by
    intro l
    induction l with
    | nil => intro a4 a5 a6 a7 _; exact ⟨a4, a5, a6, a7, rfl⟩
    | cons k l ih =>
      intro a4 a5 a6 a7 hl
      have hk : k < r := hl k (List.mem_cons_self ..)
      obtain ⟨b6, b7, h1⟩ := inner k hk (List.range c) a6 a7 fun m hm => List.mem_range.mp hm
      rw [List.all_cons, List.map_cons]
      cases hA : (List.range c).all fun m => !g k m || keeps f r c k m with
      | false =>
        rw [hA] at h1
        exact ⟨_, _, _, _, loop_ret rfl ((for_src (itA_ok (args1 rfl) ev_srcE) (enum_map c fun m => .bl (g k m))).trans h1)⟩
      | true =>
        rw [hA] at h1
        obtain ⟨c4, c5, c6, c7, h2⟩ := ih (some (.int (k : Nat))) (some (rw c (g k))) b6 b7 fun q hq => hl q (List.mem_cons_of_mem _ hq)
        exact ⟨c4, c5, c6, c7, (loop_nx rfl ((for_src (itA_ok (args1 rfl) ev_srcE) (enum_map c fun m => .bl (g k m))).trans h1)).trans h2⟩
  obtain ⟨b4, b5, b6, b7, h1⟩ := outer (List.range r) none none none none fun k hk => List.mem_range.mp hk
  have h0 := (for_src (f := mItA (mCons (gv 0) mNil) srcE) (G := gTupP 2 (gsCons (gSet 4) (gsCons (gSet 5) gsNil))) (τ := [some (tb r c g), some (tb r c f), some (.int (c : Nat)), some (tb c r (fl f)), none, none, none, none]) (mh := mh) (itA_ok (args1 rfl) ev_srcE) (enum_map r fun k => rw c (g k))).trans h1
  unfold ansAll
  cases hA : (List.range r).all fun k => (List.range c).all fun m => !g k m || keeps f r c k m with
  | true =>
    rw [hA] at h0
    exact run_ret ((seq_nx (set_ok (app_ok (args2 rfl rfl) hX))).trans ((seq_nx h0).trans (ret_ok rfl))) fin_same
  | false =>
    rw [hA] at h0
    exact run_ret ((seq_nx (set_ok (app_ok (args2 rfl rfl) hX))).trans (seq_ret h0)) fin_same
end Lw

set_option Elab.async false
set_option linter.all false
set_option maxRecDepth 100000
namespace Lw
open PySem PySem.Spec L2 ML
/-! ### table_of_level -/
theorem compL_alloc {G : PV → LS → M LS} {e : LS → M PV} {τ : LS} {o : PV} (hG : ∀ x m, ∃ τ1, G x τ m = .ok τ1 m ∧ ∀ m, e τ1 m = .ok (.loc m.length) (m ++ [o])) : ∀ (xs acc m : List PV),
    compL G mYes e τ xs acc m = .ok (acc ++ (List.range xs.length).map fun i => .loc (m.length + i)) (m ++ List.replicate xs.length o)
  | [], acc, m => by simp [compL]
  | x :: xs, acc, m => by
    obtain ⟨τ1, h1, h2⟩ := hG x m
    rw [compL, h1, Rs.bind_ok, ev_yes, Rs.bind_ok, if_pos rfl, h2, Rs.bind_ok, compL_alloc hG xs, List.length_cons, List.range_succ_eq_map, List.map_cons, List.map_map, List.replicate_succ, List.append_assoc, List.append_assoc]
    congr 1
    show _ = acc ++ ([PV.loc (m.length + 0)] ++ _)
    rw [Nat.add_zero]
    congr 2
    refine List.map_congr_left fun i _ => ?_
    show PV.loc ((m ++ [o]).length + i) = PV.loc (m.length + (i + 1))
    rw [List.length_append]
    congr 1
    show m.length + 1 + i = _
    omega
theorem lcomp_ok {f : LS → M Src} {G : PV → LS → M LS} {t : LS → M Bool} {e : LS → M PV} {vs : List Nat} {τ : LS} {mh m m2 : List PV} {S : Src} {xs zs : List PV} (h1 : f τ mh = .ok S m) (h2 : S.Is xs) (h3 : compL G t e (wipeL τ vs) xs [] m = .ok zs m2) :
    mCompL f G t e vs τ mh = .ok (.loc m2.length) (m2 ++ [.lst zs]) := by
  unfold mCompL mComp0
  rw [h1, Rs.bind_ok, comp_is h2, h3]
  rfl
def st (l : List Nat) : Str := ⟨⟨l⟩⟩
theorem src_st {l : List Nat} {mh : List PV} (h : l.length ≤ 1000) : srcS (.str (st l)) mh = .ok (Src.lst (l.map fun c => .str ⟨#[c]⟩)) mh := by
  have := ev_srcS (z := st l) (mh := mh) (by show l.length ≤ sizeLine; rw [sizeLine_eq]; omega)
  exact this
/-- the table that is being written: its lines, itself -/
def heap (r c : Nat) (n : Nat) (f : Nat → Nat → Bool) : List PV := ((List.range r).map fun k => rw c (f k)) ++ [.lst ((List.range r).map fun k => .loc (n + k))]
theorem near_new {row other : List Nat} {mh : List PV} (hr : row.length ≤ 20) (hc : other.length ≤ 20) {a2 : Option PV} : 
    mCompL (mIt (gv 0) srcS) (gSet 5) mYes (mCompL (mIt (gv 1) srcS) (gSet 4) mYes (kv (.bl false)) [4]) [5] [some (.str (st row)), some (.str (st other)), a2, none, none, none, none, none, none] mh =
      .ok (.loc (mh.length + row.length)) (mh ++ heap row.length other.length mh.length fun _ _ => false) := by
  have h1 := compL_alloc (G := gSet 5) (e := mCompL (mIt (gv 1) srcS) (gSet 4) mYes (kv (.bl false)) [4]) (τ := wipeL [some (.str (st row)), some (.str (st other)), a2, none, none, none, none, none, none] [5]) (o := rw other.length fun _ => false) (fun x m => ⟨_, rfl, fun m => by
    refine lcomp_ok (xs := other.map fun c => .str ⟨#[c]⟩) (zs := (List.range other.length).map fun _ => .bl false) (it_ok rfl (src_st (by omega))) (Src.is_lst _) ?_
    rw [compL_map (g := fun _ => .bl false) other [] fun y hy => step_map rfl rfl]
    congr 1
    rw [List.nil_append]
    exact List.ext_getElem? fun j => by
      rw [List.getElem?_map, List.getElem?_map]
      by_cases hj : j < other.length
      · rw [List.getElem?_range hj, List.getElem?_eq_getElem hj]; rfl
      · rw [List.getElem?_eq_none (by omega), List.getElem?_eq_none (by simp; omega)]⟩) (row.map fun c => .str ⟨#[c]⟩) [] mh
  have h2 := lcomp_ok (it_ok (τ := [some (.str (st row)), some (.str (st other)), a2, none, none, none, none, none, none]) (f := gv 0) (mh := mh) rfl (src_st (l := row) (by omega))) (Src.is_lst _) h1
  rw [h2]
  rw [List.length_map]
  have e1 : List.replicate row.length (rw other.length fun _ => false) = (List.range row.length).map fun _ => rw other.length fun _ => false := by
    rw [eq_comm, List.eq_replicate_iff]
    exact ⟨by simp, fun b hb => by obtain ⟨_, _, rfl⟩ := List.mem_map.mp hb; rfl⟩
  unfold heap
  rw [e1, List.length_append, List.length_map, List.length_range, List.nil_append, List.append_assoc]

/-- f with one pair more -/
def put1 (f : Nat → Nat → Bool) (k m : Nat) : Nat → Nat → Bool := fun i j => f i j || (decide (i = k) && decide (j = m))
theorem rw_set {c m : Nat} {g : Nat → Bool} (hm : m < c) : ((List.range c).map fun j => PV.bl (g j)).set m (.bl true) = (List.range c).map fun j => .bl (g j || decide (j = m)) := by
  refine List.ext_getElem? fun j => ?_
  rw [List.getElem?_set]
  by_cases hj : m = j
  · subst hj; simp [hm]
  · rw [if_neg hj, List.getElem?_map, List.getElem?_map]
    have : ¬ j = m := fun e => hj e.symm
    by_cases h2 : j < c
    · rw [List.getElem?_range h2]; simp [this]
    · rw [List.getElem?_eq_none (by simp; omega)]; rfl
theorem heap_set {r c n k m : Nat} {f : Nat → Nat → Bool} {mh : List PV} (hn : mh.length = n) (hk : k < r) (hm : m < c) : (mh ++ heap r c n f).set (n + k) (rw c fun j => f k j || decide (j = m)) = mh ++ heap r c n (put1 f k m) := by
  unfold heap
  rw [List.set_append_right _ _ (by omega), show n + k - mh.length = k by omega, List.set_append_left _ _ (by simp; exact hk)]
  congr 2
  refine List.ext_getElem? fun j => ?_
  rw [List.getElem?_set]
  by_cases hj : k = j
  · subst hj
    have e : (fun j => f k j || decide (j = m)) = put1 f k m k := by funext j; simp [put1]
    rw [e]; simp [hk]
  · rw [if_neg hj, List.getElem?_map, List.getElem?_map]
    have : ¬ j = k := fun e => hj e.symm
    by_cases h2 : j < r
    · have e : f j = put1 f k m j := by funext i; simp [put1, this]
      rw [List.getElem?_range h2]; simp [← e]
    · rw [List.getElem?_eq_none (by simp; omega)]; rfl
theorem heap_self {r c n : Nat} {f : Nat → Nat → Bool} {mh : List PV} (hn : mh.length = n) : (mh ++ heap r c n f)[n + r]? = some (.lst ((List.range r).map fun k => .loc (n + k))) := by
  unfold heap
  rw [List.getElem?_append_right (by omega), List.getElem?_append_right (by simp; omega)]
  simp
  rw [show n + r - mh.length - r = 0 by omega]; rfl
theorem heap_line {r c n k : Nat} {f : Nat → Nat → Bool} {mh : List PV} (hn : mh.length = n) (hk : k < r) : (mh ++ heap r c n f)[n + k]? = some (rw c (f k)) := by
  unfold heap
  rw [List.getElem?_append_right (by omega), List.getElem?_append_left (by simp; omega), show n + k - mh.length = k by omega]
  simp [hk]
theorem heap_fin {r c : Nat} {f : Nat → Nat → Bool} {mh : List PV} : fin mh (.loc (mh.length + r)) (mh ++ heap r c mh.length f) = .ok (tb r c f) mh := by
  refine fin_more ?_ (by simp [heap])
  show sub (frzN _ _ 8) (.loc _) = _
  simp only [sub, frzN]
  rw [if_neg (by omega), heap_self rfl]
  show subO (frzN _ _ 7) (some (.lst _)) = _
  simp only [subO, sub]
  have key : ∀ l : List Nat, (∀ k ∈ l, k < r) → subs (frzN (mh ++ heap r c mh.length f) mh.length 7) (l.map fun k => .loc (mh.length + k)) = some (l.map fun k => rw c (f k)) := by
    intro l
    induction l with
    | nil => intro _; rfl
    | cons k l ih =>
      intro h
      rw [List.map_cons, List.map_cons]
      have e1 : sub (frzN (mh ++ heap r c mh.length f) mh.length 7) (.loc (mh.length + k)) = some (rw c (f k)) := by
        simp only [sub, frzN]
        rw [if_neg (by omega), heap_line rfl (h k (List.mem_cons_self ..))]
        exact sub_lf (rw c (f k)) (lfs_map (fun _ => rfl) _)
      simp only [subs]
      rw [e1, ih fun q hq => h q (List.mem_cons_of_mem _ hq)]
  rw [key _ fun k hk => List.mem_range.mp hk]
  rfl
end Lw

set_option Elab.async false
set_option linter.all false
set_option maxRecDepth 100000
namespace Lw
open PySem PySem.Spec L2 ML
/-! ### the items of a level -/
def seqI (b : Bool) (ts : List PV) : PV := if b = true then .lst ts else .tup ts
def inr (x : PV) (r : Nat) : Bool := match x with
  | .int i => decide (0 ≤ i ∧ i ≤ (r : Int) - 1)
  | _ => false
def intB (x : PV) : Prop := (∃ i, x = .int i) ∨ ∃ b, x = .bl b
def Good (row other : List Nat) (k m : Nat) (x : PV) : Prop := k < row.length ∧ m < other.length ∧ row[k]? = other[m]? ∧ ∃ b, x = seqI b [.int (k : Nat), .int (m : Nat)]
def Bad (r c : Nat) (x : PV) : Prop := (x = .non ∨ (∃ z, x = .str z) ∨ x = .dk [] []) ∨ (∃ b ts, x = seqI b ts ∧ ts.length ≠ 2) ∨ ∃ b y z, x = seqI b [y, z] ∧ intB y ∧ intB z ∧ (inr y r && inr z c) = false
theorem e_int_of {x : PV} (h : intB x) (r : Nat) (mh : List PV) : F_is_integer [x, .int 0, .int ((r : Int) - 1)] mh = .ok (.bl (inr x r)) mh := by
  rcases h with ⟨i, rfl⟩ | ⟨b, rfl⟩
  · exact e_is_integer_i i 0 ((r : Int) - 1) mh
  · exact e_is_integer_b b 0 ((r : Int) - 1) mh
theorem e_listed_seq (b : Bool) (ts mh : List PV) : F_is_listed [seqI b ts] mh = .ok (.bl true) mh := by
  cases b with
  | true => exact e_is_listed_l ts mh
  | false => simp [seqI, F_is_listed, g_is_listed, runF, startL, exitF]
theorem e_listed_no {x : PV} (h : x = .non ∨ (∃ z, x = .str z) ∨ x = .dk [] []) (mh : List PV) : F_is_listed [x] mh = .ok (.bl false) mh := by
  rcases h with rfl | ⟨z, rfl⟩ | rfl
  · simp [F_is_listed, g_is_listed, runF, startL, exitF]
  · simp [F_is_listed, g_is_listed, runF, startL, exitF]
  · simp [F_is_listed, g_is_listed, runF, startL, exitF]
theorem len_seq (b : Bool) (ts mh : List PV) : vLen [seqI b ts] mh = .ok (.int (ts.length : Nat)) mh := by cases b <;> rfl
theorem len_st {l : List Nat} {mh : List PV} (h : l.length ≤ 1000) : vLen [.str (st l)] mh = .ok (.int (l.length : Nat)) mh := by
  show (if (st l).length ≤ sizeLine then Rs.ok (PV.int ((st l).length : Nat)) mh else .no) = _
  rw [if_pos (by show l.length ≤ sizeLine; rw [sizeLine_eq]; omega)]
  rfl
theorem ix_st {l : List Nat} {mh : List PV} {k c : Nat} (h : l.length ≤ 1000) (hc : l[k]? = some c) : vIx (.str (st l)) (.int (k : Nat)) mh = .ok (.str ⟨#[c]⟩) mh := by
  have hk : k < l.length := (List.getElem?_eq_some_iff.mp hc).1
  show (if (st l).length ≤ sizeLine then (match atI l ((k : Nat) : Int) with
      | some c => Rs.ok (PV.str ⟨#[c]⟩) mh
      | none => .no) else .no) = _
  rw [if_pos (by show l.length ≤ sizeLine; rw [sizeLine_eq]; omega), atI_nat l k hk, hc]
theorem ok_sign {c : Nat} (h : c < 1000) : PyData.strOk ⟨#[c]⟩ = true := by
  simp [PyData.strOk]; omega
abbrev lvB (I L : List PV → M PV) : LS → M (Out × LS) := (mSeq (mIf (mOr (mNot (mTest (mApp 1 L (mCons (gv 6) mNil)))) (mTest (mBin vNe (mCall vLen (mCons (gv 6) mNil)) (kv (.int 2)))))
 (mRet (kv .non))
 mSkip)
 (mSeq (mAsg (gv 6) (gTupP 2 (gsCons (gSet 7) (gsCons (gSet 8) gsNil))))
 (mSeq (mIf (mOr (mNot (mTest (mApp 3 I (mCons (gv 7) (mCons (kv (.int 0)) (mCons (mBin vSub (mCall vLen (mCons (gv 0) mNil)) (kv (.int 1))) mNil)))))) (mNot (mTest (mApp 3 I (mCons (gv 8) (mCons (kv (.int 0)) (mCons (mBin vSub (mCall vLen (mCons (gv 1) mNil)) (kv (.int 1))) mNil)))))))
 (mRet (kv .non))
 mSkip)
 (mSeq (mIf (mTest (mBin vNe (mBin vIx (gv 0) (gv 7)) (mBin vIx (gv 1) (gv 8))))
 (mRet (kv .non))
 mSkip)
 (mSetIx (kv (.bl true)) (mBin vIx (gv 3) (gv 7)) (gv 8))))))
theorem asg_seq {b : Bool} {y z : PV} {a0 a1 a2 a3 a4 a5 a7 a8 : Option PV} {m : List PV} : mAsg (gv 6) (gTupP 2 (gsCons (gSet 7) (gsCons (gSet 8) gsNil))) [a0, a1, a2, a3, a4, a5, some (seqI b [y, z]), a7, a8] m = .ok (.nx, [a0, a1, a2, a3, a4, a5, some (seqI b [y, z]), some y, some z]) m := by
  cases b <;> rfl
theorem ne_len {n : Nat} {mh : List PV} : vNe (.int (n : Nat)) (.int 2) mh = .ok (.bl (decide (n ≠ 2))) mh := by
  rw [v_ne_int]
  congr 2
  by_cases h : n = 2
  · subst h; rfl
  · have : ((n : Int) == 2) = false := by simp; omega
    rw [this, decide_eq_true h]; rfl
theorem lv_bad {row other : List Nat} {x : PV} (hr : row.length ≤ 20) (hc : other.length ≤ 20) (hb : Bad row.length other.length x) {a2 a3 a4 a5 a7 a8 : Option PV} (m : List PV) :
    ∃ τ', lvB F_is_integer F_is_listed [some (.str (st row)), some (.str (st other)), a2, a3, a4, a5, some x, a7, a8] m = .ok (.ret .non, τ') m := by
  rcases hb with h | ⟨b, ts, rfl, h⟩ | ⟨b, y, z, rfl, hy, hz, h⟩
  · exact ⟨_, seq_ret ((if_t (or_t (not_ok (b := false) (test_ok (app_ok (args1 rfl) (e_listed_no h m)))))).trans (ret_ok rfl))⟩
  · refine ⟨_, seq_ret ((if_t ((or_f (not_ok (b := true) (test_ok (app_ok (args1 rfl) (e_listed_seq b ts m))))).trans (test_ok (bin_ok (call_ok (args1 rfl) (len_seq b ts m)) rfl ?_)))).trans (ret_ok rfl))⟩
    rw [ne_len, decide_eq_true h]
  · have h0 : ∀ u : LS → M (Out × LS), mSeq (mIf (mOr (mNot (mTest (mApp 1 F_is_listed (mCons (gv 6) mNil)))) (mTest (mBin vNe (mCall vLen (mCons (gv 6) mNil)) (kv (.int 2))))) (mRet (kv .non)) mSkip) u [some (.str (st row)), some (.str (st other)), a2, a3, a4, a5, some (seqI b [y, z]), a7, a8] m = u [some (.str (st row)), some (.str (st other)), a2, a3, a4, a5, some (seqI b [y, z]), a7, a8] m := fun u => by
      exact seq_nx ((if_f ((or_f (not_ok (b := true) (test_ok (app_ok (args1 rfl) (e_listed_seq b _ m))))).trans (test_ok (bin_ok (call_ok (args1 rfl) (len_seq b _ m)) rfl ne_len)))).trans rfl)
    have i1 := e_int_of hy row.length m
    have i2 := e_int_of hz other.length m
    refine ⟨[some (.str (st row)), some (.str (st other)), a2, a3, a4, a5, some (seqI b [y, z]), some y, some z], (h0 _).trans ((seq_nx asg_seq).trans (seq_ret ((if_t ?_).trans (ret_ok rfl))))⟩
    cases h1 : inr y row.length with
    | false =>
      rw [h1] at i1
      exact or_t (not_ok (b := false) (test_ok (app_ok (args3 rfl rfl (bin_ok (call_ok (args1 rfl) (len_st (by omega))) rfl rfl)) i1)))
    | true =>
      rw [h1] at i1 h
      have h2 : inr z other.length = false := by simpa using h
      rw [h2] at i2
      exact (or_f (not_ok (b := true) (test_ok (app_ok (args3 rfl rfl (bin_ok (call_ok (args1 rfl) (len_st (by omega))) rfl rfl)) i1)))).trans (not_ok (b := false) (test_ok (app_ok (args3 rfl rfl (bin_ok (call_ok (args1 rfl) (len_st (by omega))) rfl rfl)) i2)))
theorem lv_good {row other : List Nat} {x : PV} {k m : Nat} {f : Nat → Nat → Bool} {mh : List PV} (hr : row.length ≤ 20) (hc : other.length ≤ 20) (hz : ∀ c ∈ row, c < 1000) (hg : Good row other k m x) {a2 a4 a5 a7 a8 : Option PV} :
    lvB F_is_integer F_is_listed [some (.str (st row)), some (.str (st other)), a2, some (.loc (mh.length + row.length)), a4, a5, some x, a7, a8] (mh ++ heap row.length other.length mh.length f) =
      .ok (.nx, [some (.str (st row)), some (.str (st other)), a2, some (.loc (mh.length + row.length)), a4, a5, some x, some (.int (k : Nat)), some (.int (m : Nat))]) (mh ++ heap row.length other.length mh.length (put1 f k m)) := by
  obtain ⟨hk, hm, he, b, rfl⟩ := hg
  generalize hM : mh ++ heap row.length other.length mh.length f = M
  have i1 := e_is_integer_i (k : Nat) 0 ((row.length : Int) - 1) M
  have i2 := e_is_integer_i (m : Nat) 0 ((other.length : Int) - 1) M
  rw [decide_eq_true (by omega)] at i1 i2
  have h1 : mIf (mOr (mNot (mTest (mApp 1 F_is_listed (mCons (gv 6) mNil)))) (mTest (mBin vNe (mCall vLen (mCons (gv 6) mNil)) (kv (.int 2))))) (mRet (kv .non)) mSkip [some (.str (st row)), some (.str (st other)), a2, some (.loc (mh.length + row.length)), a4, a5, some (seqI b [.int (k : Nat), .int (m : Nat)]), a7, a8] M = .ok (.nx, _) M :=
    (if_f ((or_f (not_ok (b := true) (test_ok (app_ok (args1 rfl) (e_listed_seq b _ M))))).trans (test_ok (bin_ok (call_ok (args1 rfl) (len_seq b _ M)) rfl ne_len)))).trans rfl
  have h2 : mIf (mOr (mNot (mTest (mApp 3 F_is_integer (mCons (gv 7) (mCons (kv (.int 0)) (mCons (mBin vSub (mCall vLen (mCons (gv 0) mNil)) (kv (.int 1))) mNil)))))) (mNot (mTest (mApp 3 F_is_integer (mCons (gv 8) (mCons (kv (.int 0)) (mCons (mBin vSub (mCall vLen (mCons (gv 1) mNil)) (kv (.int 1))) mNil)))))))
      (mRet (kv .non)) mSkip [some (.str (st row)), some (.str (st other)), a2, some (.loc (mh.length + row.length)), a4, a5, some (seqI b [.int (k : Nat), .int (m : Nat)]), some (.int (k : Nat)), some (.int (m : Nat))] M = .ok (.nx, _) M :=
    (if_f ((or_f (not_ok (b := true) (test_ok (app_ok (args3 rfl rfl (bin_ok (call_ok (args1 rfl) (len_st (by omega))) rfl rfl)) i1)))).trans (not_ok (b := true) (test_ok (app_ok (args3 rfl rfl (bin_ok (call_ok (args1 rfl) (len_st (by omega))) rfl rfl)) i2))))).trans rfl
  have hkc : row[k]? = some row[k] := List.getElem?_eq_getElem hk
  have hb : row[k] < 1000 := hz _ (List.getElem_mem hk)
  have h3 : mIf (mTest (mBin vNe (mBin vIx (gv 0) (gv 7)) (mBin vIx (gv 1) (gv 8)))) (mRet (kv .non)) mSkip [some (.str (st row)), some (.str (st other)), a2, some (.loc (mh.length + row.length)), a4, a5, some (seqI b [.int (k : Nat), .int (m : Nat)]), some (.int (k : Nat)), some (.int (m : Nat))] M = .ok (.nx, [some (.str (st row)), some (.str (st other)), a2, some (.loc (mh.length + row.length)), a4, a5, some (seqI b [.int (k : Nat), .int (m : Nat)]), some (.int (k : Nat)), some (.int (m : Nat))]) M := by
    refine (if_f (test_ok (bin_ok (bin_ok rfl rfl (ix_st (by omega) hkc)) (bin_ok rfl rfl (ix_st (by omega) (he ▸ hkc))) ?_))).trans rfl
    rw [v_ne_str, beq_self_eq_true]
    rfl
  have h4 : mSetIx (kv (.bl true)) (mBin vIx (gv 3) (gv 7)) (gv 8) [some (.str (st row)), some (.str (st other)), a2, some (.loc (mh.length + row.length)), a4, a5, some (seqI b [.int (k : Nat), .int (m : Nat)]), some (.int (k : Nat)), some (.int (m : Nat))] M = .ok (.nx, [some (.str (st row)), some (.str (st other)), a2, some (.loc (mh.length + row.length)), a4, a5, some (seqI b [.int (k : Nat), .int (m : Nat)]), some (.int (k : Nat)), some (.int (m : Nat))]) (mh ++ heap row.length other.length mh.length (put1 f k m)) := by
    have e1 : vIx (.loc (mh.length + row.length)) (.int (k : Nat)) M = .ok (.loc (mh.length + k)) M := by
      have : seqR M (.loc (mh.length + row.length)) = some ((List.range row.length).map fun k => .loc (mh.length + k)) := by
        show (match M[mh.length + row.length]? with
          | some (.lst ts) => some ts
          | _ => none) = _
        rw [← hM, heap_self rfl]
      show (match seqR M (.loc (mh.length + row.length)) with
        | some ts => (match atI ts ((k : Nat) : Int) with
          | some t => Rs.ok t M
          | none => .no)
        | none => .no) = _
      rw [this]
      show (match atI ((List.range row.length).map fun k => PV.loc (mh.length + k)) ((k : Nat) : Int) with
          | some t => Rs.ok t M
          | none => .no) = _
      rw [atI_nat _ k (by simp; exact hk)]
      simp [hk]
    have e2 : locL M (.loc (mh.length + k)) = some (mh.length + k, (List.range other.length).map fun j => .bl (f k j)) := by
      show (match M[mh.length + k]? with
        | some (.lst ts) => some (mh.length + k, ts)
        | _ => none) = _
      rw [← hM, heap_line rfl hk]
      rfl
    have e3 : ixN ((List.range other.length).map fun j => PV.bl (f k j)).length ((m : Nat) : Int) = some m := by
      unfold ixN
      simp [hm]
    unfold mSetIx
    rw [ev_kv, Rs.bind_ok, bin_ok (f := gv 3) (g := gv 7) rfl rfl e1, Rs.bind_ok]
    show (match locL M (.loc (mh.length + k)), PV.int (m : Nat) with
      | some (n, ts), .int i => (match ixN ts.length i with
        | some j => Rs.ok ((Out.nx, [some (.str (st row)), some (.str (st other)), a2, some (.loc (mh.length + row.length)), a4, a5, some (seqI b [.int (k : Nat), .int (m : Nat)]), some (.int (k : Nat)), some (.int (m : Nat))]) : Out × LS) (M.set n (.lst (ts.set j (.bl true))))
        | none => .no)
      | _, _ => .no) = _
    rw [e2]
    show (match ixN ((List.range other.length).map fun j => PV.bl (f k j)).length ((m : Nat) : Int) with
        | some j => Rs.ok ((Out.nx, [some (.str (st row)), some (.str (st other)), a2, some (.loc (mh.length + row.length)), a4, a5, some (seqI b [.int (k : Nat), .int (m : Nat)]), some (.int (k : Nat)), some (.int (m : Nat))]) : Out × LS) (M.set (mh.length + k) (.lst (((List.range other.length).map fun j => PV.bl (f k j)).set j (.bl true))))
        | none => .no) = _
    rw [e3]
    show Rs.ok ((Out.nx, [some (.str (st row)), some (.str (st other)), a2, some (.loc (mh.length + row.length)), a4, a5, some (seqI b [.int (k : Nat), .int (m : Nat)]), some (.int (k : Nat)), some (.int (m : Nat))]) : Out × LS) (M.set (mh.length + k) (.lst (((List.range other.length).map fun j => PV.bl (f k j)).set m (.bl true)))) = _
    rw [rw_set hm, ← hM]
    show Rs.ok _ ((mh ++ heap row.length other.length mh.length f).set (mh.length + k) (rw other.length fun j => f k j || decide (j = m))) = _
    rw [heap_set rfl hk hm]
  exact (seq_nx h1).trans ((seq_nx asg_seq).trans ((seq_nx h2).trans ((seq_nx h3).trans h4)))
end Lw

set_option Elab.async false
set_option linter.all false
set_option maxRecDepth 100000
namespace Lw
open PySem PySem.Spec L2 ML
/-- the items write the table g over f -/
inductive LvOk (row other : List Nat) : List PV → (Nat → Nat → Bool) → (Nat → Nat → Bool) → Prop
  | nil {f} : LvOk row other [] f f
  | cons {x k m xs f g} : Good row other k m x → LvOk row other xs (put1 f k m) g → LvOk row other (x :: xs) f g
/-- good items, then a bad one -/
inductive LvBad (row other : List Nat) : List PV → Prop
  | here {x xs} : Bad row.length other.length x → LvBad row other (x :: xs)
  | cons {x k m xs} : Good row other k m x → LvBad row other xs → LvBad row other (x :: xs)
theorem lv_loop_ok {row other : List Nat} {mh : List PV} (hr : row.length ≤ 20) (hc : other.length ≤ 20) (hz : ∀ c ∈ row, c < 1000) {a2 a4 a5 : Option PV} : ∀ {items : List PV} {f g : Nat → Nat → Bool}, LvOk row other items f g → ∀ a6 a7 a8, ∃ b6 b7 b8,
    loopL (gSet 6) (lvB F_is_integer F_is_listed) items [some (.str (st row)), some (.str (st other)), a2, some (.loc (mh.length + row.length)), a4, a5, a6, a7, a8] (mh ++ heap row.length other.length mh.length f) =
      .ok (.nx, [some (.str (st row)), some (.str (st other)), a2, some (.loc (mh.length + row.length)), a4, a5, b6, b7, b8]) (mh ++ heap row.length other.length mh.length g)
  | _, _, _, .nil, a6, a7, a8 => ⟨a6, a7, a8, rfl⟩
  | _, _, _, .cons h hs, a6, a7, a8 => by
    obtain ⟨b6, b7, b8, h2⟩ := lv_loop_ok hr hc hz hs _ _ _
    exact ⟨b6, b7, b8, (loop_nx rfl (lv_good hr hc hz h)).trans h2⟩
theorem lv_loop_bad {row other : List Nat} {mh : List PV} (hr : row.length ≤ 20) (hc : other.length ≤ 20) (hz : ∀ c ∈ row, c < 1000) {a2 a4 a5 : Option PV} : ∀ {items : List PV}, LvBad row other items → ∀ (f : Nat → Nat → Bool) a6 a7 a8, ∃ τ' ex,
    loopL (gSet 6) (lvB F_is_integer F_is_listed) items [some (.str (st row)), some (.str (st other)), a2, some (.loc (mh.length + row.length)), a4, a5, a6, a7, a8] (mh ++ heap row.length other.length mh.length f) = .ok (.ret .non, τ') (mh ++ ex)
  | _, .here h, f, a6, a7, a8 => by
    obtain ⟨τ', h1⟩ := lv_bad hr hc h (mh ++ heap row.length other.length mh.length f)
    exact ⟨τ', _, loop_ret rfl h1⟩
  | _, .cons h hs, f, a6, a7, a8 => by
    obtain ⟨τ', ex, h2⟩ := lv_loop_bad hr hc hz hs _ _ _ _
    exact ⟨τ', ex, (loop_nx rfl (lv_good hr hc hz h)).trans h2⟩
theorem src_seq {b : Bool} {ts mh : List PV} : srcQ (seqI b ts) mh = .ok (Src.lst ts) mh := by cases b <;> rfl
theorem e_level_ok {row other : List Nat} (mh : List PV) (hr : row.length ≤ 20) (hc : other.length ≤ 20) (hz : ∀ c ∈ row, c < 1000) {b : Bool} {items : List PV} {g : Nat → Nat → Bool} (h : LvOk row other items (fun _ _ => false) g) :
    F_table_of_level [.str (st row), .str (st other), seqI b items] mh = .ok (tb row.length other.length g) mh := by
  obtain ⟨b6, b7, b8, h1⟩ := lv_loop_ok (mh := mh) (a2 := some (seqI b items)) (a4 := none) (a5 := none) hr hc hz h none none none
  unfold F_table_of_level g_table_of_level
  have e0 := e_listed_seq b items mh
  have e1 := near_new (row := row) (other := other) (mh := mh) (a2 := some (seqI b items)) hr hc
  exact run_ret ((seq_nx ((if_f (not_ok (b := true) (test_ok (app_ok (args1 rfl) e0)))).trans rfl)).trans ((seq_nx (set_ok e1)).trans ((seq_nx ((for_src (it_ok rfl src_seq) (Src.is_lst items)).trans h1)).trans (ret_ok rfl)))) heap_fin
theorem e_level_bad {row other : List Nat} (mh : List PV) (hr : row.length ≤ 20) (hc : other.length ≤ 20) (hz : ∀ c ∈ row, c < 1000) {b : Bool} {items : List PV} (h : LvBad row other items) :
    F_table_of_level [.str (st row), .str (st other), seqI b items] mh = .ok .non mh := by
  obtain ⟨τ', ex, h1⟩ := lv_loop_bad (mh := mh) (a2 := some (seqI b items)) (a4 := none) (a5 := none) hr hc hz h (fun _ _ => false) none none none
  unfold F_table_of_level g_table_of_level
  have e0 := e_listed_seq b items mh
  have e1 := near_new (row := row) (other := other) (mh := mh) (a2 := some (seqI b items)) hr hc
  exact run_ret ((seq_nx ((if_f (not_ok (b := true) (test_ok (app_ok (args1 rfl) e0)))).trans rfl)).trans ((seq_nx (set_ok e1)).trans (seq_ret ((for_src (it_ok rfl src_seq) (Src.is_lst items)).trans h1)))) (fin_lf (x := .non) rfl)
end Lw

set_option Elab.async false
set_option linter.all false
set_option maxRecDepth 100000
namespace Lw
open PySem PySem.Spec L2 ML
/-! ### alphabets, rows -/
structure AlOk (al : List Nat) : Prop where
  pos : 1 ≤ al.length
  len : al.length ≤ 8
  abc : ∀ c ∈ al, 97 ≤ c ∧ c ≤ 104
  inc : ∀ (k : Nat) (a b : Nat), al[k]? = some a → al[k + 1]? = some b → a < b
theorem v_all {α : Type} (l : List α) (p : α → Bool) (mh : List PV) : vAll [.lst (l.map fun a => .bl (p a))] mh = .ok (.bl (l.all p)) mh := by
  have key : ∀ l : List α, bools (l.map fun a => PV.bl (p a)) = some (l.map p) := fun l => by
    induction l with
    | nil => rfl
    | cons a l ih => rw [List.map_cons]; simp only [bools]; rw [ih]; rfl
  show (match bools (l.map fun a => PV.bl (p a)) with
      | some bs => Rs.ok (PV.bl (bs.all id)) mh
      | none => .no) = _
  rw [key]
  show Rs.ok (PV.bl ((l.map p).all id)) mh = _
  rw [List.all_map]; rfl
theorem in_str {c : Nat} {z : List Nat} {mh : List PV} (n : Bool) : vIn n (.str ⟨#[c]⟩) (.str (st z)) mh = .ok (.bl (xor n (decide (c ∈ z)))) mh := rfl
theorem abc_eq : ("abcdefgh" : Str) = st [97, 98, 99, 100, 101, 102, 103, 104] := by decide +kernel
theorem lt_str {a b : Nat} {mh : List PV} : vLt (.str ⟨#[a]⟩) (.str ⟨#[b]⟩) mh = .ok (.bl (decide (a < b))) mh := by
  show Rs.ok (PV.bl (decide ([a] < [b]))) mh = _
  congr 2
  by_cases h : a < b
  · rw [decide_eq_true h, decide_eq_true]; exact List.Lex.rel h
  · rw [decide_eq_false h, decide_eq_false]
    intro h2
    cases h2 with
    | rel h3 => exact h h3
    | cons h3 => cases h3
theorem e_alphabet {al : List Nat} (h : AlOk al) (mh : List PV) : F_is_alphabet [.str (st al)] mh = .ok (.bl true) mh := by
  have hl := h.len
  have hp := h.pos
  unfold F_is_alphabet g_is_alphabet
  rw [abc_eq]
  have h1 : ∀ τ : LS, τ[0]? = some (some (.str (st al))) → ∀ A B : LS → M (Out × LS), mIf (mOr (mNot (mTest (mIsi ["str"] (gv 0)))) (mNot (mTest (mChain vLe vLe (kv (.int 1)) (mCall vLen (mCons (gv 0) mNil)) (mCall vLen (mCons (kv (.str (st [97, 98, 99, 100, 101, 102, 103, 104]))) mNil)))))) A B τ mh = B τ mh := fun τ hτ A B => by
    refine if_f ((or_f (m1 := mh) (not_ok (b := true) (test_ok (m1 := mh) ?_))).trans (not_ok (b := true) (test_ok (m1 := mh) ?_)))
    · rw [ev_isi, gv_ok hτ]; simp
    · rw [ev_chain, ev_kv, Rs.bind_ok, call_ok (args1 (gv_ok hτ)) (len_st (by omega)), Rs.bind_ok, v_le, Rs.bind_ok, decide_eq_true (by omega), ev_asB, Rs.bind_ok, if_pos rfl, call_ok (args1 rfl) (len_st (by simp)), Rs.bind_ok, v_le, decide_eq_true (by simp; omega)]
  have h2 : mComp (mIt (gv 0) srcS) (gSet 1) mYes (mBin (vIn false) (gv 1) (kv (.str (st [97, 98, 99, 100, 101, 102, 103, 104])))) [1] [some (.str (st al)), none, none] mh = .ok (.lst (al.map fun c => .bl (decide (c ∈ [97, 98, 99, 100, 101, 102, 103, 104])))) mh :=
    comp_map (en := fun c => .str ⟨#[c]⟩) (ys := al) (fun c => .bl (decide (c ∈ [97, 98, 99, 100, 101, 102, 103, 104]))) (it_ok rfl (src_st (by omega))) (Src.is_lst _) fun c hc => step_map rfl (bin_ok rfl rfl ((in_str false).trans (by rw [Bool.false_xor])))
  have a2 : (al.all fun c => decide (c ∈ [97, 98, 99, 100, 101, 102, 103, 104])) = true := List.all_eq_true.mpr fun c hc => by
    have := h.abc c hc
    simp; omega
  have h3 : mComp (mItA (mCons (mBin vSub (mCall vLen (mCons (gv 0) mNil)) (kv (.int 1))) mNil) srcR1) (gSet 2) mYes (mBin vLt (mBin vIx (gv 0) (gv 2)) (mBin vIx (gv 0) (mBin vAdd (gv 2) (kv (.int 1))))) [2] [some (.str (st al)), none, none] mh = .ok (.lst ((List.range (al.length - 1)).map fun _ => .bl true)) mh := by
    refine comp_map (en := fun i : Nat => .int (i : Nat)) (ys := List.range (al.length - 1)) (fun _ => .bl true) (itA_ok (args1 (bin_ok (call_ok (args1 rfl) (len_st (by omega))) rfl rfl)) ?_) (is_rng (al.length - 1)) fun k hk => ?_
    · show srcR1 [.int (((al.length : Nat) : Int) - 1)] mh = _
      rw [show ((al.length : Nat) : Int) - 1 = ((al.length - 1 : Nat) : Int) by omega]
      exact src_rng (by omega)
    · have hk := List.mem_range.mp hk
      have g1 : al[k]? = some al[k] := List.getElem?_eq_getElem (by omega)
      have g2 : al[k + 1]? = some al[k + 1] := List.getElem?_eq_getElem (by omega)
      have := h.inc k _ _ g1 g2
      refine step_map rfl (bin_ok (bin_ok rfl rfl (ix_st (by omega) g1)) (bin_ok (y := .int ((k + 1 : Nat) : Int)) rfl (bin_ok rfl rfl rfl) (ix_st (by omega) g2)) (lt_str.trans (by rw [decide_eq_true this])))
  have a3 : ((List.range (al.length - 1)).all fun _ => true) = true := List.all_eq_true.mpr fun _ _ => rfl
  refine run_ret ((seq_nx ((h1 _ rfl _ _).trans rfl)).trans ((seq_nx ((if_f (not_ok (b := true) (test_ok (call_ok (args1 h2) ((v_all _ _ _).trans (by rw [a2])))))).trans rfl)).trans (ret_ok (call_ok (args1 h3) ((v_all _ _ _).trans (by rw [a3])))))) fin_same
theorem e_check_alphabet {al : List Nat} (h : AlOk al) (mh : List PV) : F_check_alphabet [.str (st al)] mh = .ok .non mh := by
  unfold F_check_alphabet g_check_alphabet
  have := e_alphabet h mh
  exact run_nx (xs := []) (by rw [List.append_nil]; exact (if_f (not_ok (b := true) (test_ok (app_ok (args1 rfl) this)))).trans rfl)
end Lw

set_option Elab.async false
set_option linter.all false
set_option maxRecDepth 100000
namespace Lw
open PySem PySem.Spec L2 ML
/-! ### check_row, check_contest -/
def RowOk (al row : List Nat) : Prop := row.length ≤ 12 ∧ ∀ c ∈ row, c ∈ al
theorem row_loop {al : List Nat} {a1 : Option PV} {mh : List PV} : ∀ (xs : List PV) (a2 a3 : Option PV), (∀ x ∈ xs, ∃ i c : Nat, x = .tup [.int i, .str ⟨#[c]⟩] ∧ c ∈ al) →
    ∃ b2 b3, loopL (gTupP 2 (gsCons (gSet 2) (gsCons (gSet 3) gsNil))) (mIf (mTest (mBin (vIn true) (gv 3) (gv 0))) mNo mSkip) xs [some (.str (st al)), a1, a2, a3] mh = .ok (.nx, [some (.str (st al)), a1, b2, b3]) mh
  | [], a2, a3, _ => ⟨a2, a3, rfl⟩
  | x :: xs, a2, a3, h => by
    obtain ⟨i, c, rfl, hc⟩ := h x (List.mem_cons_self ..)
    obtain ⟨b2, b3, h2⟩ := row_loop xs (some (.int i)) (some (.str ⟨#[c]⟩)) fun y hy => h y (List.mem_cons_of_mem _ hy)
    exact ⟨b2, b3, (loop_nx rfl ((if_f (test_ok (bin_ok rfl rfl ((in_str true).trans (by rw [decide_eq_true hc]; rfl))))).trans rfl)).trans h2⟩
theorem e_check_row {al row : List Nat} (h : RowOk al row) (mh : List PV) : F_check_row [.str (st al), .str (st row)] mh = .ok .non mh := by
  have hl := h.1
  unfold F_check_row g_check_row
  have hsrc : srcES [.str (st row)] mh = .ok (Src.lst (signs (st row))).enum mh := if_pos (by show row.length ≤ sizeLine; rw [sizeLine_eq]; omega)
  obtain ⟨b2, b3, h2⟩ := row_loop (al := al) (a1 := some (.str (st row))) (mh := mh) ((signs (st row)).mapIdx fun i x => .tup [.int i, x]) none none fun x hx => by
    obtain ⟨i, hi, rfl⟩ := List.mem_mapIdx.mp hx
    have hi2 : i < row.length := by simpa [signs, st] using hi
    refine ⟨i, row[i], ?_, h.2 _ (List.getElem_mem hi2)⟩
    simp [signs, st]
  have h1 : mIf (mOr (mNot (mTest (mIsi ["str"] (gv 1)))) (mTest (mBin vGt (mCall vLen (mCons (gv 1) mNil)) (kv (.int 200))))) mNo mSkip [some (.str (st al)), some (.str (st row)), none, none] mh = .ok (.nx, [some (.str (st al)), some (.str (st row)), none, none]) mh := by
    refine (if_f ((or_f (m1 := mh) (not_ok (b := true) (test_ok (m1 := mh) ?_))).trans (test_ok (bin_ok (call_ok (args1 rfl) (len_st (by omega))) rfl ?_)))).trans rfl
    · rw [ev_isi, gv_ok rfl]; simp
    · rw [v_gt, decide_eq_false (by omega)]
  exact run_nx (xs := []) (by rw [List.append_nil]; exact (seq_nx h1).trans ((for_src (itA_ok (args1 rfl) hsrc) (Src.is_enum (Src.is_lst _))).trans h2))
theorem e_check_contest {al row other : List Nat} (ha : AlOk al) (h1 : RowOk al row) (h2 : RowOk al other) (mh : List PV) : F_check_contest [.str (st al), .str (st row), .str (st other)] mh = .ok .non mh := by
  unfold F_check_contest g_check_contest
  have c0 := e_check_alphabet ha mh
  have c1 := e_check_row h1 mh
  have c2 := e_check_row h2 mh
  have l1 := h1.1
  have l2 := h2.1
  have body : ∀ (z : List Nat) (hz : z.length ≤ 12) (a0 a1 a2 : Option PV), mIf (mTest (mBin vGt (mCall vLen (mCons (gv 3) mNil)) (kv (.int 12)))) mNo mSkip [a0, a1, a2, some (.str (st z))] mh = .ok (.nx, [a0, a1, a2, some (.str (st z))]) mh := fun z hz a0 a1 a2 =>
    (if_f (test_ok (bin_ok (call_ok (args1 rfl) (len_st (by omega))) rfl (by rw [v_gt, decide_eq_false (by omega)])))).trans rfl
  exact run_nx (xs := []) (by
    rw [List.append_nil]
    exact (seq_nx (drop_ok (app_ok (args1 rfl) c0))).trans ((seq_nx (drop_ok (app_ok (args2 rfl rfl) c1))).trans ((seq_nx (drop_ok (app_ok (args2 rfl rfl) c2))).trans
      ((for_src (it_ok (tup_ok (args2 rfl rfl) (by simp)) ev_srcT) (Src.is_lst _)).trans ((loop_nx rfl (body row l1 _ _ _)).trans ((loop_nx rfl (body other l2 _ _ _)).trans rfl))))))
/-! ### judge_levels -/
inductive Jg (row other : List Nat) : Option (Nat → Nat → Bool) → List PV → Bool → Prop
  | nil {p} : Jg row other p [] true
  | bad {p b items xs} : LvBad row other items → Jg row other p (seqI b items :: xs) false
  | lost {f g b items xs} : LvOk row other items (fun _ _ => false) g → ansAll row.length other.length g f = false → Jg row other (some f) (seqI b items :: xs) false
  | first {g b items xs v} : LvOk row other items (fun _ _ => false) g → Jg row other (some g) xs v → Jg row other none (seqI b items :: xs) v
  | next {f g b items xs v} : LvOk row other items (fun _ _ => false) g → ansAll row.length other.length g f = true → Jg row other (some g) xs v → Jg row other (some f) (seqI b items :: xs) v
def ahd (row other : List Nat) : Option (Nat → Nat → Bool) → PV
  | none => .non
  | some f => tb row.length other.length f
abbrev jgB (T A : List PV → M PV) : LS → M (Out × LS) := (mSeq (mSet 6 (mApp 3 T (mCons (gv 1) (mCons (gv 2) (mCons (gv 5) mNil)))))
 (mSeq (mIf (mOr (mTest (mBin (vIs false) (gv 6) (kv .non))) (mAnd (mTest (mBin (vIs true) (gv 4) (kv .non))) (mNot (mTest (mApp 3 A (mCons (gv 6) (mCons (gv 4) (mCons (mCall vLen (mCons (gv 2) mNil)) mNil))))))))
 (mRet (kv (.bl false)))
 mSkip)
 (mSet 4 (gv 6))))
theorem jg_loop {row other : List Nat} {mh : List PV} (hr : row.length ≤ 20) (hc : other.length ≤ 20) (hz : ∀ c ∈ row, c < 1000) {a0 a3 : Option PV} : ∀ {xs : List PV} {p : Option (Nat → Nat → Bool)} {v : Bool}, Jg row other p xs v → ∀ a5 a6, ∃ τ',
    loopL (gSet 5) (jgB F_table_of_level F_is_answered) xs [a0, some (.str (st row)), some (.str (st other)), a3, some (ahd row other p), a5, a6] mh = .ok (if v = true then .nx else .ret (.bl false), τ') mh
  | _, _, _, .nil, a5, a6 => ⟨_, rfl⟩
  | _, _, _, .bad h, a5, a6 => ⟨_, loop_ret rfl ((seq_nx (set_ok (app_ok (args3 rfl rfl rfl) (e_level_bad mh hr hc hz h)))).trans (seq_ret ((if_t (or_t (test_ok (bin_ok rfl rfl rfl)))).trans (ret_ok rfl))))⟩
  | _, _, _, .lost (f := f) (g := g) h ha, a5, a6 => by
    have e := e_answered (f := f) (g := g) mh hr hc
    rw [ha] at e
    exact ⟨_, loop_ret rfl ((seq_nx (set_ok (app_ok (args3 rfl rfl rfl) (e_level_ok mh hr hc hz h)))).trans (seq_ret ((if_t ((or_f (test_ok (bin_ok rfl rfl rfl))).trans ((and_t (test_ok (bin_ok rfl rfl rfl))).trans (not_ok (b := false) (test_ok (app_ok (args3 rfl rfl (call_ok (args1 rfl) (len_st (by omega)))) e)))))).trans (ret_ok rfl))))⟩
  | _, _, _, .first (g := g) (b := b) (items := items) h hs, a5, a6 => by
    obtain ⟨τ', h2⟩ := jg_loop (mh := mh) (a0 := a0) (a3 := a3) hr hc hz hs (some (seqI b items)) (some (tb row.length other.length g))
    have hb : jgB F_table_of_level F_is_answered [a0, some (.str (st row)), some (.str (st other)), a3, some (ahd row other none), some (seqI b items), a6] mh = .ok (.nx, [a0, some (.str (st row)), some (.str (st other)), a3, some (ahd row other (some g)), some (seqI b items), some (tb row.length other.length g)]) mh :=
      ((seq_nx (set_ok (app_ok (args3 rfl rfl rfl) (e_level_ok mh hr hc hz h)))).trans ((seq_nx ((if_f ((or_f (test_ok (bin_ok rfl rfl rfl))).trans (and_f (test_ok (bin_ok rfl rfl rfl))))).trans rfl)).trans (set_ok rfl)))
    exact ⟨τ', (loop_nx rfl hb).trans h2⟩
  | _, _, _, .next (f := f) (g := g) (b := b) (items := items) h ha hs, a5, a6 => by
    have e := e_answered (f := f) (g := g) mh hr hc
    rw [ha] at e
    obtain ⟨τ', h2⟩ := jg_loop (mh := mh) (a0 := a0) (a3 := a3) hr hc hz hs (some (seqI b items)) (some (tb row.length other.length g))
    have hb : jgB F_table_of_level F_is_answered [a0, some (.str (st row)), some (.str (st other)), a3, some (ahd row other (some f)), some (seqI b items), a6] mh = .ok (.nx, [a0, some (.str (st row)), some (.str (st other)), a3, some (ahd row other (some g)), some (seqI b items), some (tb row.length other.length g)]) mh :=
      ((seq_nx (set_ok (app_ok (args3 rfl rfl rfl) (e_level_ok mh hr hc hz h)))).trans ((seq_nx ((if_f ((or_f (test_ok (bin_ok rfl rfl rfl))).trans ((and_t (test_ok (bin_ok rfl rfl rfl))).trans (not_ok (b := true) (test_ok (app_ok (args3 rfl rfl (call_ok (args1 rfl) (len_st (by omega)))) e)))))).trans rfl)).trans (set_ok rfl)))
    exact ⟨τ', (loop_nx rfl hb).trans h2⟩
theorem e_judge {al row other : List Nat} (ha : AlOk al) (h1 : RowOk al row) (h2 : RowOk al other) {b : Bool} {levels : List PV} {v : Bool} (h : Jg row other none levels v) (mh : List PV) :
    F_judge_levels [.str (st al), .str (st row), .str (st other), seqI b levels] mh = .ok (.bl v) mh := by
  have c0 := e_check_contest ha h1 h2 mh
  have l1 := h1.1
  have l2 := h2.1
  have e0 := e_listed_seq b levels mh
  obtain ⟨τ', h3⟩ := jg_loop (mh := mh) (a0 := some (.str (st al))) (a3 := some (seqI b levels)) (by omega) (by omega) (fun c hc => by have := ha.abc c (h1.2 c hc); omega) h none none
  have h4 := (for_src (f := mIt (gv 3) srcQ) (G := gSet 5) (mh := mh) (τ := [some (.str (st al)), some (.str (st row)), some (.str (st other)), some (seqI b levels), some .non, none, none]) (it_ok rfl src_seq) (Src.is_lst levels)).trans h3
  have hs : mSet 4 (kv .non) [some (.str (st al)), some (.str (st row)), some (.str (st other)), some (seqI b levels), none, none, none] mh = .ok (.nx, [some (.str (st al)), some (.str (st row)), some (.str (st other)), some (seqI b levels), some .non, none, none]) mh := set_ok rfl
  unfold F_judge_levels g_judge_levels
  cases v with
  | true =>
    rw [if_pos rfl] at h4
    exact run_ret ((seq_nx (drop_ok (app_ok (args3 rfl rfl rfl) c0))).trans ((seq_nx ((if_f (not_ok (b := true) (test_ok (app_ok (args1 rfl) e0)))).trans rfl)).trans ((seq_nx hs).trans ((seq_nx h4).trans (ret_ok rfl))))) fin_same
  | false =>
    rw [if_neg Bool.false_ne_true] at h4
    exact run_ret ((seq_nx (drop_ok (app_ok (args3 rfl rfl rfl) c0))).trans ((seq_nx ((if_f (not_ok (b := true) (test_ok (app_ok (args1 rfl) e0)))).trans rfl)).trans ((seq_nx hs).trans (seq_ret h4)))) fin_same
end Lw

set_option Elab.async false
set_option linter.all false
set_option maxRecDepth 100000
namespace Lw
open PySem PySem.Spec L2 ML
/-! ### the source -/
theorem bits_le {x : Int} {k : Nat} (h : x.natAbs < 2 ^ k) : Builtin.Int.intBits x ≤ k := by
  unfold Builtin.Int.intBits
  split
  · omega
  · next hx =>
    have : x.natAbs ≠ 0 := by simpa using hx
    have := (Nat.log2_lt this).mpr h
    omega
theorem mul_ok {x y : Int} {mh : List PV} (hx : x.natAbs < 2 ^ 100) (hy : y.natAbs < 2 ^ 100) : vMul (.int x) (.int y) mh = .ok (.int (x * y)) mh := by
  have h1 := bits_le hx
  have h2 := bits_le hy
  exact if_pos (by omega)
theorem mod_ok {x y : Int} {mh : List PV} (hy : 0 < y) : vMod (.int x) (.int y) mh = .ok (.int (x % y)) mh := if_pos (decide_eq_true hy)
theorem div_ok {x y : Int} {mh : List PV} (hy : 0 < y) (hy2 : y < 1073741824) : vDiv (.int x) (.int y) mh = .ok (.int (x / y)) mh := if_pos (decide_eq_true ⟨hy, hy2⟩)
structure Src3 (mh : List PV) (n : Nat) (k : Int) (a b c : Int) : Prop where
  at_ : mh[n]? = some (.lst [.int a, .int b, .int c])
  a0 : 0 ≤ a
  b0 : 0 ≤ b
  b1 : b < 2 ^ 32
  c0 : 0 ≤ c
  c1 : c ≤ k
theorem ix_loc {mh ts : List PV} {n k : Nat} {t : PV} (hn : mh[n]? = some (.lst ts)) (hk : ts[k]? = some t) : vIx (.loc n) (.int (k : Nat)) mh = .ok t mh := by
  have h0 : seqR mh (.loc n) = some ts := by
    show (match mh[n]? with
      | some (.lst ts) => some ts
      | _ => none) = _
    rw [hn]
  show (match seqR mh (.loc n) with
    | some ts => (match atI ts ((k : Nat) : Int) with
      | some t => Rs.ok t mh
      | none => .no)
    | none => .no) = _
  rw [h0]
  show (match atI ts ((k : Nat) : Int) with
      | some t => Rs.ok t mh
      | none => .no) = _
  rw [atI_nat ts k (List.getElem?_eq_some_iff.mp hk).1, hk]
theorem setix_ok {e f g : LS → M PV} {τ : LS} {mh m1 m2 m3 ts : List PV} {z : PV} {n k : Nat} (h1 : e τ mh = .ok z m1) (h2 : f τ m1 = .ok (.loc n) m2) (h3 : g τ m2 = .ok (.int (k : Nat)) m3) (hn : m3[n]? = some (.lst ts)) (hk : k < ts.length) :
    mSetIx e f g τ mh = .ok (.nx, τ) (m3.set n (.lst (ts.set k z))) := by
  unfold mSetIx
  rw [h1, Rs.bind_ok, h2, Rs.bind_ok, h3, Rs.bind_ok]
  have e2 : locL m3 (.loc n) = some (n, ts) := by
    show (match m3[n]? with
      | some (.lst ts) => some (n, ts)
      | _ => none) = _
    rw [hn]
  have e3 : ixN ts.length ((k : Nat) : Int) = some k := by unfold ixN; simp [hk]
  show (match locL m3 (.loc n), PV.int (k : Nat) with
      | some (n, ts), .int i => (match ixN ts.length i with
        | some j => Rs.ok ((Out.nx, τ) : Out × LS) (m3.set n (.lst (ts.set j z)))
        | none => .no)
      | _, _ => .no) = _
  rw [e2]
  show (match ixN ts.length ((k : Nat) : Int) with
        | some j => Rs.ok ((Out.nx, τ) : Out × LS) (m3.set n (.lst (ts.set j z)))
        | none => .no) = _
  rw [e3]
theorem fin_len {mh m : List PV} {x : PV} (h : m.length = mh.length) : fin mh x m = .ok x m := by unfold fin; rw [if_pos h]
theorem run_retm {n : Nat} {g : LS → M (Out × LS)} {ts mh m1 m2 : List PV} {t z : PV} {τ1 : LS} (h : g (startL n ts) mh = .ok (.ret t, τ1) m1) (hf : fin mh t m1 = .ok z m2) : runF n g ts mh = .ok z m2 := by
  unfold runF; rw [h]; exact hf
theorem set_at {mh : List PV} {n : Nat} {x y : PV} (h : mh[n]? = some x) : (mh.set n y)[n]? = some y := List.getElem?_set_self (List.getElem?_eq_some_iff.mp h).1
theorem e_pick {mh : List PV} {n : Nat} {k a b c w : Int} (S : Src3 mh n k a b c) (hk : k < 2 ^ 30) (w0 : 0 < w) (w1 : w < 1000) :
    ∃ (d : Int) (a' c' : Int), 0 ≤ d ∧ d < w ∧ F__law_pick [.loc n, .int w] mh = .ok (.int d) (mh.set n (.lst [.int a', .int b, .int c'])) ∧ Src3 (mh.set n (.lst [.int a', .int b, .int c'])) n (k + 1) a' b c' := by
  obtain ⟨hn, a0, b0, b1, c0, c1⟩ := S
  have i0 : vIx (.loc n) (.int 0) mh = .ok (.int a) mh := ix_loc (k := 0) hn rfl
  by_cases ha : 0 < a
  · refine ⟨a % w, a / w, c, Int.emod_nonneg _ (by omega), Int.emod_lt_of_pos _ w0, ?_, ⟨set_at hn, Int.ediv_nonneg a0 (by omega), b0, b1, c0, by omega⟩⟩
    unfold F__law_pick g__law_pick
    have hi := setix_ok (τ := [some (.loc n), some (.int w), some (.int (a % w)), none]) (e := mBin vDiv (mBin vIx (gv 0) (kv (.int 0))) (gv 1)) (f := gv 0) (g := kv (.int 0)) (k := 0) (mh := mh) (bin_ok (bin_ok rfl rfl i0) rfl (div_ok w0 (by omega))) rfl rfl hn (by simp)
    have hs : mSet 2 (mBin vMod (mCall vToInt (mCons (mBin vIx (gv 0) (kv (.int 0))) mNil)) (gv 1)) [some (.loc n), some (.int w), none, none] mh = .ok (.nx, [some (.loc n), some (.int w), some (.int (a % w)), none]) mh :=
      set_ok (bin_ok (call_ok (args1 (bin_ok rfl rfl i0)) rfl) rfl (mod_ok w0))
    have hm : mIf (mTest (mBin vGt (mBin vIx (gv 0) (kv (.int 0))) (kv (.int 0)))) (mSeq (mSet 2 (mBin vMod (mCall vToInt (mCons (mBin vIx (gv 0) (kv (.int 0))) mNil)) (gv 1))) (mSeq (mSetIx (mBin vDiv (mBin vIx (gv 0) (kv (.int 0))) (gv 1)) (gv 0) (kv (.int 0))) (mRet (gv 2)))) mSkip [some (.loc n), some (.int w), none, none] mh =
        .ok (.ret (.int (a % w)), [some (.loc n), some (.int w), some (.int (a % w)), none]) (mh.set n (.lst [.int (a / w), .int b, .int c])) :=
      (if_t (test_ok (bin_ok (bin_ok rfl rfl i0) rfl (show vGt (.int a) (.int 0) mh = .ok (.bl true) mh by rw [v_gt, decide_eq_true ha])))).trans ((seq_nx hs).trans ((seq_nx hi).trans (ret_ok rfl)))
    exact run_retm (seq_ret hm) (fin_len (by simp))
  · have i1 : vIx (.loc n) (.int 2) mh = .ok (.int c) mh := ix_loc (k := 2) hn rfl
    have hn2 := set_at (y := .lst [.int a, .int b, .int (c + 1)]) hn
    generalize hM : mh.set n (.lst [.int a, .int b, .int (c + 1)]) = M at hn2
    have j1 : vIx (.loc n) (.int 1) M = .ok (.int b) M := ix_loc (k := 1) hn2 rfl
    have j2 : vIx (.loc n) (.int 2) M = .ok (.int (c + 1)) M := ix_loc (k := 2) hn2 rfl
    have hi : mSetIx (mBin vAdd (mBin vIx (gv 0) (kv (.int 2))) (kv (.int 1))) (gv 0) (kv (.int 2)) [some (.loc n), some (.int w), none, none] mh = .ok (.nx, [some (.loc n), some (.int w), none, none]) M := by
      rw [← hM]
      exact setix_ok (k := 2) (bin_ok (bin_ok rfl rfl i1) rfl rfl) rfl rfl hn (by simp)
    have b7 : (2 : Int) ^ 30 = 1073741824 := by decide
    have b8 : (2 : Int) ^ 32 = 4294967296 := by decide
    have n100 : (2 : Nat) ^ 100 = 1267650600228229401496703205376 := by decide
    rw [b7] at hk
    rw [b8] at b1
    have R : ∀ x : Int, 0 ≤ x → x < 10 ^ 20 → x.natAbs < 2 ^ 100 := fun x h1 h2 => by rw [n100]; omega
    have p1 : vMul (.int 7919) (.int (c + 1)) M = .ok (.int (7919 * (c + 1))) M := mul_ok (R _ (by omega) (by omega)) (R _ (by omega) (by omega))
    have p2 : vMul (.int (b + 7919 * (c + 1))) (.int 48271) M = .ok (.int ((b + 7919 * (c + 1)) * 48271)) M := mul_ok (R _ (by omega) (by omega)) (R _ (by omega) (by omega))
    have s1 : mSet 3 (mBin vMod (mCall vToInt (mCons (mBin vMul (mBin vAdd (mBin vIx (gv 0) (kv (.int 1))) (mBin vMul (kv (.int 7919)) (mBin vIx (gv 0) (kv (.int 2))))) (kv (.int 48271))) mNil)) (kv (.int 2147483647))) [some (.loc n), some (.int w), none, none] M =
        .ok (.nx, [some (.loc n), some (.int w), none, some (.int ((b + 7919 * (c + 1)) * 48271 % 2147483647))]) M :=
      set_ok (bin_ok (call_ok (args1 (bin_ok (bin_ok (bin_ok rfl rfl j1) (bin_ok rfl (bin_ok rfl rfl j2) p1) rfl) rfl p2)) rfl) rfl (mod_ok (by decide)))
    have q1a := Int.emod_nonneg ((b + 7919 * (c + 1)) * 48271) (show (2147483647 : Int) ≠ 0 by decide)
    have q1b := Int.emod_lt_of_pos ((b + 7919 * (c + 1)) * 48271) (show (0 : Int) < 2147483647 by decide)
    generalize (b + 7919 * (c + 1)) * 48271 % 2147483647 = x1 at s1 q1a q1b
    have p3 : vMul (.int x1) (.int x1) M = .ok (.int (x1 * x1)) M := mul_ok (R _ (by omega) (by omega)) (R _ (by omega) (by omega))
    have p4 : vMul (.int 69621) (.int (c + 1)) M = .ok (.int (69621 * (c + 1))) M := mul_ok (R _ (by omega) (by omega)) (R _ (by omega) (by omega))
    have s2 : mSet 3 (mBin vMod (mCall vToInt (mCons (mBin vAdd (mBin vAdd (mBin vMul (gv 3) (gv 3)) (mBin vMul (kv (.int 69621)) (mBin vIx (gv 0) (kv (.int 2))))) (mBin vIx (gv 0) (kv (.int 1)))) mNil)) (kv (.int 2147483629))) [some (.loc n), some (.int w), none, some (.int x1)] M =
        .ok (.nx, [some (.loc n), some (.int w), none, some (.int ((x1 * x1 + 69621 * (c + 1) + b) % 2147483629))]) M :=
      set_ok (bin_ok (call_ok (args1 (bin_ok (bin_ok (bin_ok rfl rfl p3) (bin_ok rfl (bin_ok rfl rfl j2) p4) rfl) (bin_ok rfl rfl j1) rfl)) rfl) rfl (mod_ok (by decide)))
    have q2a := Int.emod_nonneg (x1 * x1 + 69621 * (c + 1) + b) (show (2147483629 : Int) ≠ 0 by decide)
    have q2b := Int.emod_lt_of_pos (x1 * x1 + 69621 * (c + 1) + b) (show (0 : Int) < 2147483629 by decide)
    generalize (x1 * x1 + 69621 * (c + 1) + b) % 2147483629 = x2 at s2 q2a q2b
    have p5 : vMul (.int x2) (.int 16807) M = .ok (.int (x2 * 16807)) M := mul_ok (R _ (by omega) (by omega)) (R _ (by omega) (by omega))
    have s3 : mSet 3 (mBin vMod (mCall vToInt (mCons (mBin vAdd (mBin vMul (gv 3) (kv (.int 16807))) (kv (.int 11))) mNil)) (kv (.int 2147483647))) [some (.loc n), some (.int w), none, some (.int x2)] M =
        .ok (.nx, [some (.loc n), some (.int w), none, some (.int ((x2 * 16807 + 11) % 2147483647))]) M :=
      set_ok (bin_ok (call_ok (args1 (bin_ok (bin_ok rfl rfl p5) rfl rfl)) rfl) rfl (mod_ok (by decide)))
    have q3a := Int.emod_nonneg (x2 * 16807 + 11) (show (2147483647 : Int) ≠ 0 by decide)
    have q3b := Int.emod_lt_of_pos (x2 * 16807 + 11) (show (0 : Int) < 2147483647 by decide)
    generalize (x2 * 16807 + 11) % 2147483647 = x3 at s3 q3a q3b
    have p6 : vMul (.int x3) (.int x3) M = .ok (.int (x3 * x3)) M := mul_ok (R _ (by omega) (by omega)) (R _ (by omega) (by omega))
    have s4 : mSet 3 (mBin vMod (mCall vToInt (mCons (mBin vAdd (mBin vMul (gv 3) (gv 3)) (gv 3)) mNil)) (kv (.int 2147483587))) [some (.loc n), some (.int w), none, some (.int x3)] M =
        .ok (.nx, [some (.loc n), some (.int w), none, some (.int ((x3 * x3 + x3) % 2147483587))]) M :=
      set_ok (bin_ok (call_ok (args1 (bin_ok (bin_ok rfl rfl p6) rfl rfl)) rfl) rfl (mod_ok (by decide)))
    generalize (x3 * x3 + x3) % 2147483587 = x4 at s4
    refine ⟨x4 / 3 % w, a, c + 1, Int.emod_nonneg _ (by omega), Int.emod_lt_of_pos _ w0, ?_, ⟨set_at hn, a0, b0, b8 ▸ b1, by omega, by omega⟩⟩
    rw [hM]
    unfold F__law_pick g__law_pick
    have s5 : mRet (mBin vMod (mCall vToInt (mCons (mBin vDiv (gv 3) (kv (.int 3))) mNil)) (gv 1)) [some (.loc n), some (.int w), none, some (.int x4)] M = .ok (.ret (.int (x4 / 3 % w)), [some (.loc n), some (.int w), none, some (.int x4)]) M :=
      ret_ok (bin_ok (call_ok (args1 (bin_ok rfl rfl (div_ok (by decide) (by decide)))) rfl) rfl (mod_ok w0))
    have s0 : mIf (mTest (mBin vGt (mBin vIx (gv 0) (kv (.int 0))) (kv (.int 0)))) (mSeq (mSet 2 (mBin vMod (mCall vToInt (mCons (mBin vIx (gv 0) (kv (.int 0))) mNil)) (gv 1))) (mSeq (mSetIx (mBin vDiv (mBin vIx (gv 0) (kv (.int 0))) (gv 1)) (gv 0) (kv (.int 0))) (mRet (gv 2)))) mSkip [some (.loc n), some (.int w), none, none] mh = .ok (.nx, [some (.loc n), some (.int w), none, none]) mh :=
      (if_f (test_ok (bin_ok (bin_ok rfl rfl i0) rfl (show vGt (.int a) (.int 0) mh = .ok (.bl false) mh by rw [v_gt, decide_eq_false ha])))).trans rfl
    exact run_retm ((seq_nx s0).trans ((seq_nx hi).trans ((seq_nx s1).trans ((seq_nx s2).trans ((seq_nx s3).trans ((seq_nx s4).trans s5)))))) (fin_len (mh := mh) (m := M) (by rw [← hM]; simp))
end Lw

set_option Elab.async false
set_option linter.all false
set_option maxRecDepth 100000
namespace Lw
open PySem PySem.Spec L2 ML
/-! ### _law_source -/
theorem seed_step {σ x : Int} {mh : List PV} (s0 : 0 ≤ σ) (s1 : σ < 2147483629) (md : Int) (hm : 0 < md) (hm2 : md < 2 ^ 32) (a0 a1 a2 a5 : Option PV) (i j : Nat) (τ : LS) (h3 : gv 3 τ mh = .ok (.int σ) mh) (hj : gv j τ mh = .ok (.int x) mh) :
    mSet 3 (mBin vMod (mCall vToInt (mCons (mBin vAdd (mBin vMul (gv 3) (kv (.int 31))) (mBin vMod (mCall vToInt (mCons (gv j) mNil)) (kv (.int md)))) mNil)) (kv (.int 2147483629))) τ mh = .ok (.nx, τ.set 3 (some (.int ((σ * 31 + x % md) % 2147483629)))) mh := by
  have n100 : (2 : Nat) ^ 100 = 1267650600228229401496703205376 := by decide
  have p1 : vMul (.int σ) (.int 31) mh = .ok (.int (σ * 31)) mh := mul_ok (by rw [n100]; omega) (by rw [n100]; omega)
  exact set_ok (bin_ok (call_ok (args1 (bin_ok (bin_ok h3 rfl p1) (bin_ok (call_ok (args1 hj) rfl) rfl (mod_ok hm)) rfl)) rfl) rfl (mod_ok (by decide)))
theorem seed_rng (y : Int) : 0 ≤ y % 2147483629 ∧ y % 2147483629 < 2147483629 := ⟨Int.emod_nonneg _ (by decide), Int.emod_lt_of_pos _ (by decide)⟩
theorem seed_loop {mh : List PV} {a0 a1 a2 a5 : Option PV} : ∀ (xs : List Int) (σ : Int) (a4 : Option PV), 0 ≤ σ → σ < 2147483629 → ∃ σ' b4, 0 ≤ σ' ∧ σ' < 2147483629 ∧
    loopL (gSet 4) (mSet 3 (mBin vMod (mCall vToInt (mCons (mBin vAdd (mBin vMul (gv 3) (kv (.int 31))) (mBin vMod (mCall vToInt (mCons (gv 4) mNil)) (kv (.int 2147483629)))) mNil)) (kv (.int 2147483629)))) (xs.map .int) [a0, a1, a2, some (.int σ), a4, a5] mh = .ok (.nx, [a0, a1, a2, some (.int σ'), b4, a5]) mh
  | [], σ, a4, h0, h1 => ⟨σ, a4, h0, h1, rfl⟩
  | x :: xs, σ, a4, h0, h1 => by
    obtain ⟨r0, r1⟩ := seed_rng (σ * 31 + x % 2147483629)
    obtain ⟨σ', b4, g0, g1, g2⟩ := seed_loop (a0 := a0) (a1 := a1) (a2 := a2) (a5 := a5) (mh := mh) xs ((σ * 31 + x % 2147483629) % 2147483629) (some (.int x)) r0 r1
    exact ⟨σ', b4, g0, g1, (loop_nx rfl (seed_step (τ := [a0, a1, a2, some (.int σ), some (.int x), a5]) h0 h1 2147483629 (by decide) (by decide) none none none none 0 4 rfl rfl)).trans g2⟩
theorem v_shr {i k : Int} {mh : List PV} (h : 0 ≤ k) : vShr (.int i) (.int k) mh = .ok (.int (i / 2 ^ k.toNat)) mh := if_pos (decide_eq_true h)
theorem v_shl {i k : Int} {mh : List PV} (h : 0 ≤ k) (hb : (Builtin.Int.intBits i : Int) + k ≤ 2 ^ 27) : vShl (.int i) (.int k) mh = .ok (.int (i * 2 ^ k.toNat)) mh := if_pos (decide_eq_true ⟨h, hb⟩)
theorem v_pow {i k : Int} {mh : List PV} (h : 0 ≤ k) (h2 : k ≤ 1000000) (hb : i.natAbs < 2 ^ 64) : vPow (.int i) (.int k) mh = .ok (.int (i ^ k.toNat)) mh := if_pos (decide_eq_true ⟨h, h2, hb⟩)
theorem bits_mono {x y : Int} (h : x.natAbs ≤ y.natAbs) : Builtin.Int.intBits x ≤ Builtin.Int.intBits y := by
  have : y.natAbs < 2 ^ Builtin.Int.intBits y := by
    unfold Builtin.Int.intBits
    split
    · next hy => have : y = 0 := by simpa using hy
                 subst this; decide
    · exact Nat.lt_log2_self
  exact bits_le (Nat.lt_of_le_of_lt h this)
theorem e_source_tail {σ z : Int} {mh : List PV} (h0 : 0 ≤ σ) (h1 : σ < 2147483629) (hz : Builtin.Int.intBits z ≤ 1048576) (a0 a1 a4 a5 : Option PV) : ∃ a b τ', 0 ≤ a ∧ 0 ≤ b ∧ b < 2147483629 ∧
    (mSeq (mSet 3 (mBin vMod (mCall vToInt (mCons (mBin vAdd (mBin vMul (gv 3) (kv (.int 31))) (mBin vMod (mCall vToInt (mCons (gv 2) mNil)) (kv (.int 2147483587)))) mNil)) (kv (.int 2147483629))))
      (mSeq (mSet 5 (mCall vAbs (mCons (gv 2) mNil)))
      (mSeq (mIf (mTest (mBin vLt (gv 5) (mBin vPow (kv (.int 10)) (kv (.int 18)))))
      (mRet (mLoc (mCons (kv (.int 0)) (mCons (gv 3) (mCons (kv (.int 0)) mNil)))))
      mSkip)
      (mSeq (mIf (mTest (mBin vGt (mBin vShr (gv 5) (kv (.int 3000))) (kv (.int 0))))
      (mSet 5 (mBin vSub (gv 5) (mBin vShl (mBin vShr (gv 5) (kv (.int 3000))) (kv (.int 3000)))))
      mSkip)
      (mRet (mLoc (mCons (gv 5) (mCons (gv 3) (mCons (kv (.int 0)) mNil)))))))))
      [a0, a1, some (.int z), some (.int σ), a4, a5] mh = .ok (.ret (.loc mh.length), τ') (mh ++ [.lst [.int a, .int b, .int 0]]) := by
  obtain ⟨r0, r1⟩ := seed_rng (σ * 31 + z % 2147483587)
  have s1 := seed_step (τ := [a0, a1, some (.int z), some (.int σ), a4, a5]) (mh := mh) h0 h1 2147483587 (by decide) (by decide) none none none none 0 2 rfl rfl
  generalize (σ * 31 + z % 2147483587) % 2147483629 = b at r0 r1 s1
  obtain ⟨y, hy, y0, yb⟩ : ∃ y : Int, y = (if z < 0 then -z else z) ∧ 0 ≤ y ∧ Builtin.Int.intBits y ≤ 1048576 := ⟨_, rfl, by split <;> omega, Nat.le_trans (bits_mono (by split <;> omega)) hz⟩
  have s2 : mSet 5 (mCall vAbs (mCons (gv 2) mNil)) [a0, a1, some (.int z), some (.int b), a4, a5] mh = .ok (.nx, [a0, a1, some (.int z), some (.int b), a4, some (.int y)]) mh := by
    rw [hy]; exact set_ok (call_ok (args1 rfl) rfl)
  have t1 : mTest (mBin vLt (gv 5) (mBin vPow (kv (.int 10)) (kv (.int 18)))) [a0, a1, some (.int z), some (.int b), a4, some (.int y)] mh = .ok (decide (y < 10 ^ (18 : Int).toNat)) mh :=
    test_ok (bin_ok rfl (bin_ok rfl rfl (v_pow (by decide) (by decide) (by decide))) v_lt)
  cases hc : decide (y < 10 ^ (18 : Int).toNat) with
  | true =>
    rw [hc] at t1
    exact ⟨0, b, _, Int.le_refl _, r0, r1, (seq_nx s1).trans ((seq_nx s2).trans (seq_ret ((if_t t1).trans (ret_ok (loc_ok (args3 rfl rfl rfl) (by simp))))))⟩
  | false =>
    rw [hc] at t1
    have t2 : mTest (mBin vGt (mBin vShr (gv 5) (kv (.int 3000))) (kv (.int 0))) [a0, a1, some (.int z), some (.int b), a4, some (.int y)] mh = .ok (decide (0 < y / 2 ^ (3000 : Int).toNat)) mh :=
      test_ok (bin_ok (bin_ok rfl rfl (v_shr (by decide))) rfl v_gt)
    generalize hP : (2 : Int) ^ (3000 : Int).toNat = P at t2
    have P0 : 0 < P := by rw [← hP]; exact Int.pow_pos (by decide)
    cases hd : decide (0 < y / P) with
    | false =>
      rw [hd] at t2
      exact ⟨y, b, _, y0, r0, r1, (seq_nx s1).trans ((seq_nx s2).trans ((seq_nx ((if_f t1).trans rfl)).trans ((seq_nx ((if_f t2).trans rfl)).trans (ret_ok (loc_ok (args3 rfl rfl rfl) (by simp))))))⟩
    | true =>
      rw [hd] at t2
      have hq : (y / P).natAbs ≤ y.natAbs := by
        have h1 := Int.ediv_nonneg y0 (Int.le_of_lt P0)
        have h2 := Int.ediv_le_self P y0
        omega
      have s3 : mSet 5 (mBin vSub (gv 5) (mBin vShl (mBin vShr (gv 5) (kv (.int 3000))) (kv (.int 3000)))) [a0, a1, some (.int z), some (.int b), a4, some (.int y)] mh = .ok (.nx, [a0, a1, some (.int z), some (.int b), a4, some (.int (y - y / P * P))]) mh := by
        have g1 : vShr (.int y) (.int 3000) mh = .ok (.int (y / P)) mh := by rw [v_shr (by decide), hP]
        have g2 : vShl (.int (y / P)) (.int 3000) mh = .ok (.int (y / P * P)) mh := by
          have := bits_mono hq
          rw [v_shl (by decide) (by have e27 : (2 : Int) ^ 27 = 134217728 := by decide
                                    rw [e27]; omega), hP]
        exact set_ok (bin_ok rfl (bin_ok (bin_ok rfl rfl g1) rfl g2) rfl)
      have e : y - y / P * P = y % P := by rw [Int.emod_def, Int.mul_comm]
      rw [e] at s3
      exact ⟨y % P, b, _, Int.emod_nonneg _ (by omega), r0, r1, (seq_nx s1).trans ((seq_nx s2).trans ((seq_nx ((if_f t1).trans rfl)).trans ((seq_nx ((if_t t2).trans s3)).trans (ret_ok (loc_ok (args3 rfl rfl rfl) (by simp))))))⟩
end Lw

set_option Elab.async false
set_option linter.all false
set_option maxRecDepth 100000
namespace Lw
open PySem PySem.Spec L2 ML
theorem ix_scr {ns : List Int} {p : Nat} {z : Int} {mh : List PV} (h : ns[p]? = some z) : vIx (.scr ns) (.int (p : Nat)) mh = .ok (.int z) mh := by
  show (match atI (ns.map PV.int) ((p : Nat) : Int) with
      | some t => Rs.ok t mh
      | none => .no) = _
  rw [atI_nat _ p (by simpa using (List.getElem?_eq_some_iff.mp h).1), List.getElem?_map, h]
  rfl
theorem e_source {ns : List Int} (p : Nat) (hp : p ≤ 1) (hl : ns.length ≤ 63) (hb : ∀ z ∈ ns, Builtin.Int.intBits z ≤ 1048576) (mh : List PV) : ∃ a b : Int, 0 ≤ a ∧ 0 ≤ b ∧ b < 2147483629 ∧
    F__law_source [.scr ns, .int (p : Nat)] mh = .ok (.loc mh.length) (mh ++ [.lst [.int a, .int b, .int 0]]) := by
  have m1 : vMul (.int 5) (.int (p : Nat)) mh = .ok (.int (5 * (p : Nat))) mh := mul_ok (by decide) (by omega)
  have m2 : vMul (.int 1009) (.int (p : Nat)) mh = .ok (.int (1009 * (p : Nat))) mh := mul_ok (by decide) (by omega)
  -- the cell
  obtain ⟨z, hz, c1⟩ : ∃ z : Int, Builtin.Int.intBits z ≤ 1048576 ∧ mSet 2 (mIf (mTest (mBin vLt (gv 1) (mCall vLen (mCons (gv 0) mNil)))) (mBin vIx (gv 0) (gv 1)) (mBin vAdd (mBin vMul (kv (.int 5)) (gv 1)) (kv (.int 3)))) [some (.scr ns), some (.int (p : Nat)), none, none, none, none] mh =
      .ok (.nx, [some (.scr ns), some (.int (p : Nat)), some (.int z), none, none, none]) mh := by
    have hlen : vLen [.scr ns] mh = .ok (.int (ns.length : Nat)) mh := by
      show Rs.ok (PV.int ((ns.map PV.int).length : Nat)) mh = _
      rw [List.length_map]
    by_cases h : p < ns.length
    · have e := List.getElem?_eq_getElem h
      refine ⟨ns[p], hb _ (List.getElem_mem h), set_ok ((if_t (test_ok (bin_ok rfl (call_ok (args1 rfl) hlen) ?_))).trans (bin_ok rfl rfl (ix_scr e)))⟩
      rw [v_lt, decide_eq_true (by omega)]
    · refine ⟨5 * (p : Nat) + 3, Nat.le_trans (bits_le (k := 10) (by omega)) (by decide), set_ok ((if_f (test_ok (bin_ok rfl (call_ok (args1 rfl) hlen) ?_))).trans (bin_ok (bin_ok rfl rfl m1) rfl rfl))⟩
      rw [v_lt, decide_eq_false (by omega)]
  have c2 : mSet 3 (mBin vAdd (mBin vMul (kv (.int 1009)) (gv 1)) (kv (.int 17))) [some (.scr ns), some (.int (p : Nat)), some (.int z), none, none, none] mh = .ok (.nx, [some (.scr ns), some (.int (p : Nat)), some (.int z), some (.int (1009 * (p : Nat) + 17)), none, none]) mh :=
    set_ok (bin_ok (bin_ok rfl rfl m2) rfl rfl)
  obtain ⟨xs, hx⟩ : ∃ xs : List Int, cutP (ns.map .int) none (some 3) = xs.map .int := ⟨_, by unfold cutP; rw [← List.map_drop, ← List.map_take]⟩
  obtain ⟨σ, b4, s0, s1, c3⟩ := seed_loop (a0 := some (.scr ns)) (a1 := some (.int (p : Nat))) (a2 := some (.int z)) (a5 := none) (mh := mh) xs (1009 * (p : Nat) + 17) none (by omega) (by omega)
  have c4 := (for_src (f := mIt (mSl (gv 0) oNone (oSome (kv (.int 3)))) srcL) (G := gSet 4) (mh := mh) (τ := [some (.scr ns), some (.int (p : Nat)), some (.int z), some (.int (1009 * (p : Nat) + 17)), none, none]) (xs := xs.map .int) (S := Src.lst (xs.map .int)) (by rw [← hx]; rfl) (Src.is_lst _)).trans c3
  obtain ⟨a, b, τ', a0, b0, b1, c5⟩ := e_source_tail (mh := mh) s0 s1 hz (some (.scr ns)) (some (.int (p : Nat))) b4 none
  refine ⟨a, b, a0, b0, b1, ?_⟩
  unfold F__law_source runK g__law_source
  have c6 := (seq_nx c1).trans ((seq_nx c2).trans ((seq_nx c4).trans c5))
  show exitK (_ : Rs (Out × LS)) = _
  exact (congrArg exitK c6).trans rfl
end Lw

set_option Elab.async false
set_option linter.all false
set_option maxRecDepth 100000
namespace Lw
open PySem PySem.Spec L2 ML
/-! ### _law_close -/
theorem shaped2 (a b : Int) : SeqAt.shaped (.tuple [.int a, .int b]) = true := by simp [SeqAt.shaped, PyData.canLay0, PyData.canLayAll0, PyData.depth, PyData.depthAll]
theorem v_eq_pair {a b c d : Int} {mh : List PV} : vEq (.tup [.int a, .int b]) (.tup [.int c, .int d]) mh = .ok (.bl (a == c && b == d)) mh :=
  veq_of rfl rfl (shaped2 a b) (shaped2 c d) (by simp only [PyData.eqv, PyData.eqvAll, Bool.and_true])
theorem v_min {a b : Int} {mh : List PV} : vMin2 [.int a, .int b] mh = .ok (.int (if b < a then b else a)) mh := rfl
theorem ix2 {x y : PV} {mh : List PV} : vIx (.lst [x, y]) (.int 0) mh = .ok x mh ∧ vIx (.lst [x, y]) (.int 1) mh = .ok y mh := ⟨rfl, rfl⟩
theorem e_close {r c h k m : Nat} (hk : k < r) (hm : m < c) (hh : h ≤ 1000) (mh : List PV) : F__law_close [.int (r : Nat), .int (k : Nat), .int (c : Nat), .int (m : Nat), .int (h : Nat)] mh = .ok (.bl (cl r c h k m)) mh := by
  unfold F__law_close g__law_close
  generalize hb0 : ((r : Nat) : Int) - 1 - (k : Nat) = b0
  generalize hb1 : ((c : Nat) : Int) - 1 - (m : Nat) = b1
  have s5 : mSet 5 (mLst (mCons (mBin vSub (mBin vSub (gv 0) (kv (.int 1))) (gv 1)) (mCons (mBin vSub (mBin vSub (gv 2) (kv (.int 1))) (gv 3)) mNil))) [some (.int (r : Nat)), some (.int (k : Nat)), some (.int (c : Nat)), some (.int (m : Nat)), some (.int (h : Nat)), none] mh =
      .ok (.nx, [some (.int (r : Nat)), some (.int (k : Nat)), some (.int (c : Nat)), some (.int (m : Nat)), some (.int (h : Nat)), some (.lst [.int b0, .int b1])]) mh := by
    rw [← hb0, ← hb1]
    exact set_ok (lst_ok (args2 (bin_ok (bin_ok rfl rfl rfl) rfl rfl) (bin_ok (bin_ok rfl rfl rfl) rfl rfl)) (by simp))
  have t1 : mTest (mBin vEq (mTup (mCons (gv 1) (mCons (mBin vIx (gv 5) (kv (.int 0))) mNil))) (mTup (mCons (gv 3) (mCons (mBin vIx (gv 5) (kv (.int 1))) mNil)))) [some (.int (r : Nat)), some (.int (k : Nat)), some (.int (c : Nat)), some (.int (m : Nat)), some (.int (h : Nat)), some (.lst [.int b0, .int b1])] mh = .ok (((k : Nat) : Int) == (m : Nat) && b0 == b1) mh :=
    test_ok (bin_ok (tup_ok (args2 rfl (bin_ok rfl rfl rfl)) (by simp)) (tup_ok (args2 rfl (bin_ok rfl rfl rfl)) (by simp)) v_eq_pair)
  -- the least of two
  let mn : Int → Int → Int := fun a b => if b < a then b else a
  have t2 : mOr (mTest (mBin vNe (mCall vMin2 (mCons (gv 1) (mCons (gv 4) mNil))) (mCall vMin2 (mCons (gv 3) (mCons (gv 4) mNil))))) (mTest (mBin vNe (mCall vMin2 (mCons (mBin vIx (gv 5) (kv (.int 0))) (mCons (gv 4) mNil))) (mCall vMin2 (mCons (mBin vIx (gv 5) (kv (.int 1))) (mCons (gv 4) mNil))))) [some (.int (r : Nat)), some (.int (k : Nat)), some (.int (c : Nat)), some (.int (m : Nat)), some (.int (h : Nat)), some (.lst [.int b0, .int b1])] mh =
      .ok (!(mn k h == mn m h) || !(mn b0 h == mn b1 h)) mh := by
    have u1 : mTest (mBin vNe (mCall vMin2 (mCons (gv 1) (mCons (gv 4) mNil))) (mCall vMin2 (mCons (gv 3) (mCons (gv 4) mNil)))) [some (.int (r : Nat)), some (.int (k : Nat)), some (.int (c : Nat)), some (.int (m : Nat)), some (.int (h : Nat)), some (.lst [.int b0, .int b1])] mh = .ok (!(mn k h == mn m h)) mh :=
      test_ok (bin_ok (call_ok (args2 rfl rfl) v_min) (call_ok (args2 rfl rfl) v_min) (v_ne_int _ _))
    have u2 : mTest (mBin vNe (mCall vMin2 (mCons (mBin vIx (gv 5) (kv (.int 0))) (mCons (gv 4) mNil))) (mCall vMin2 (mCons (mBin vIx (gv 5) (kv (.int 1))) (mCons (gv 4) mNil)))) [some (.int (r : Nat)), some (.int (k : Nat)), some (.int (c : Nat)), some (.int (m : Nat)), some (.int (h : Nat)), some (.lst [.int b0, .int b1])] mh = .ok (!(mn b0 h == mn b1 h)) mh :=
      test_ok (bin_ok (call_ok (args2 (bin_ok rfl rfl rfl) rfl) v_min) (call_ok (args2 (bin_ok rfl rfl rfl) rfl) v_min) (v_ne_int _ _))
    cases hq : !(mn k h == mn m h) with
    | true => rw [hq] at u1; exact or_t u1
    | false => rw [hq] at u1; rw [or_f u1, u2, Bool.false_or]
  have n100 : (2 : Nat) ^ 100 = 1267650600228229401496703205376 := by decide
  have m1 : vMul (.int 2) (.int (h : Nat)) mh = .ok (.int (2 * (h : Nat))) mh := mul_ok (by decide) (by rw [n100]; omega)
  have t3 : mRet (mBin vEq (mCall vMin2 (mCons (mBin vSub (gv 0) (kv (.int 1))) (mCons (mBin vSub (mBin vMul (kv (.int 2)) (gv 4)) (kv (.int 2))) mNil))) (mCall vMin2 (mCons (mBin vSub (gv 2) (kv (.int 1))) (mCons (mBin vSub (mBin vMul (kv (.int 2)) (gv 4)) (kv (.int 2))) mNil)))) [some (.int (r : Nat)), some (.int (k : Nat)), some (.int (c : Nat)), some (.int (m : Nat)), some (.int (h : Nat)), some (.lst [.int b0, .int b1])] mh = .ok (.ret (.bl (mn ((r : Int) - 1) (2 * (h : Int) - 2) == mn ((c : Int) - 1) (2 * (h : Int) - 2))), [some (.int (r : Nat)), some (.int (k : Nat)), some (.int (c : Nat)), some (.int (m : Nat)), some (.int (h : Nat)), some (.lst [.int b0, .int b1])]) mh :=
    ret_ok (bin_ok (call_ok (args2 (bin_ok rfl rfl rfl) (bin_ok (bin_ok rfl rfl m1) rfl rfl)) v_min) (call_ok (args2 (bin_ok rfl rfl rfl) (bin_ok (bin_ok rfl rfl m1) rfl rfl)) v_min) (v_eq_int _ _))
  have fact : cl r c h k m = ((((k : Nat) : Int) == (m : Nat) && b0 == b1) || (!(!(mn k h == mn m h) || !(mn b0 h == mn b1 h)) && (mn ((r : Int) - 1) (2 * (h : Int) - 2) == mn ((c : Int) - 1) (2 * (h : Int) - 2)))) := by
    have e0 : ∀ a b : Nat, (((a : Nat) : Int) == (b : Nat)) = (a == b) := fun a b => by
      rw [Bool.eq_iff_iff, beq_iff_eq, beq_iff_eq]
      omega
    have em : ∀ a b : Nat, mn (a : Nat) (b : Nat) = ((min a b : Nat) : Int) := fun a b => by
      show (if ((b : Nat) : Int) < (a : Nat) then ((b : Nat) : Int) else (a : Nat)) = _
      split <;> omega
    have f0 : b0 = ((r - 1 - k : Nat) : Int) := by omega
    have f1 : b1 = ((c - 1 - m : Nat) : Int) := by omega
    have f2 : (mn ((r : Int) - 1) (2 * (h : Int) - 2) == mn ((c : Int) - 1) (2 * (h : Int) - 2)) = (h == 0 || min (r - 1) (2 * h - 2) == min (c - 1) (2 * h - 2)) := by
      by_cases h0 : h = 0
      · subst h0
        show ((if (2 * ((0 : Nat) : Int) - 2) < (r : Int) - 1 then (2 * ((0 : Nat) : Int) - 2) else (r : Int) - 1) == (if (2 * ((0 : Nat) : Int) - 2) < (c : Int) - 1 then (2 * ((0 : Nat) : Int) - 2) else (c : Int) - 1)) = _
        rw [if_pos (by omega), if_pos (by omega)]
        simp
      · have g1 : (r : Int) - 1 = ((r - 1 : Nat) : Int) := by omega
        have g2 : (c : Int) - 1 = ((c - 1 : Nat) : Int) := by omega
        have g3 : 2 * (h : Int) - 2 = ((2 * h - 2 : Nat) : Int) := by omega
        rw [g1, g2, g3, em, em, e0]
        simp [h0]
    rw [f2, f0, f1, em, em, em, em, e0, e0, e0, e0]
    unfold cl
    simp only [Bool.not_or, Bool.not_not]
  rw [fact]
  cases hA : (((k : Nat) : Int) == (m : Nat) && b0 == b1) with
  | true =>
    rw [hA] at t1
    exact run_ret ((seq_nx s5).trans (seq_ret ((if_t t1).trans (ret_ok rfl)))) fin_same
  | false =>
    rw [hA] at t1
    cases hB : (!(mn k h == mn m h) || !(mn b0 h == mn b1 h)) with
    | true =>
      rw [hB] at t2
      exact run_ret ((seq_nx s5).trans ((seq_nx ((if_f t1).trans rfl)).trans (seq_ret ((if_t t2).trans (ret_ok rfl))))) fin_same
    | false =>
      rw [hB] at t2
      exact run_ret ((seq_nx s5).trans ((seq_nx ((if_f t1).trans rfl)).trans ((seq_nx ((if_f t2).trans rfl)).trans t3))) fin_same
end Lw

set_option Elab.async false
set_option linter.all false
set_option maxRecDepth 100000
namespace Lw
open PySem PySem.Spec L2 ML
/-! ### pairs of places, levels as lists of pairs -/
def pr (p : Nat × Nat) : PV := .tup [.int (p.1 : Nat), .int (p.2 : Nat)]
def prs (l : List (Nat × Nat)) : PV := .lst (l.map pr)
/-- the pairs of a table, line by line -/
def pairsOf (r c : Nat) (f : Nat → Nat → Bool) : List (Nat × Nat) := (List.range r).flatMap fun k => ((List.range c).filter fun m => f k m).map fun m => (k, m)
theorem mem_pairs {r c : Nat} {f : Nat → Nat → Bool} {k m : Nat} : (k, m) ∈ pairsOf r c f ↔ k < r ∧ m < c ∧ f k m = true := by
  unfold pairsOf
  rw [List.mem_flatMap]
  constructor
  · rintro ⟨a, ha, h⟩
    obtain ⟨b, hb, e⟩ := List.mem_map.mp h
    cases e
    obtain ⟨h1, h2⟩ := List.mem_filter.mp hb
    exact ⟨List.mem_range.mp ha, List.mem_range.mp h1, h2⟩
  · rintro ⟨h1, h2, h3⟩
    exact ⟨k, List.mem_range.mpr h1, List.mem_map.mpr ⟨m, List.mem_filter.mpr ⟨List.mem_range.mpr h2, h3⟩, rfl⟩⟩
/-- a table written by items that are pairs -/
def tabOf (f : Nat → Nat → Bool) : List (Nat × Nat) → Nat → Nat → Bool
  | [] => f
  | p :: l => tabOf (put1 f p.1 p.2) l
theorem tabOf_eq : ∀ (l : List (Nat × Nat)) (f : Nat → Nat → Bool) (k m : Nat), tabOf f l k m = (f k m || decide ((k, m) ∈ l))
  | [], f, k, m => by simp [tabOf]
  | p :: l, f, k, m => by
    obtain ⟨a, b⟩ := p
    rw [tabOf, tabOf_eq l]
    unfold put1
    by_cases h : k = a ∧ m = b
    · obtain ⟨rfl, rfl⟩ := h; simp
    · have h1 : (decide (k = a) && decide (m = b)) = false := by simp; exact fun e => fun e2 => h ⟨e, e2⟩
      have h2 : ((k, m) = (a, b)) = False := by simp; exact fun e e2 => h ⟨e, e2⟩
      simp [h1, h2]
/-- items that are good, each for its pair -/
theorem ok_of {row other : List Nat} : ∀ {items : List PV} {ps : List (Nat × Nat)} {f : Nat → Nat → Bool}, items.length = ps.length → (∀ (i : Nat) (x : PV) (p : Nat × Nat), items[i]? = some x → ps[i]? = some p → Good row other p.1 p.2 x) → LvOk row other items f (tabOf f ps)
  | [], [], f, _, _ => .nil
  | x :: items, p :: ps, f, hl, h => .cons (h 0 x p rfl rfl) (ok_of (by simpa using hl) fun i x p h1 h2 => h (i + 1) x p (by simpa using h1) (by simpa using h2))
  | [], _ :: _, _, hl, _ => by simp at hl
  | _ :: _, [], _, hl, _ => by simp at hl
end Lw

set_option Elab.async false
set_option linter.all false
set_option maxRecDepth 100000
namespace Lw
open PySem PySem.Spec L2 ML
/-! ### runs of the judge -/
/-- the level x is the table g -/
def Lev (row other : List Nat) (x : PV) (g : Nat → Nat → Bool) : Prop := ∃ b items, x = seqI b items ∧ LvOk row other items (fun _ _ => false) g
inductive Levs (row other : List Nat) : List PV → List (Nat → Nat → Bool) → Prop
  | nil : Levs row other [] []
  | cons {x g xs gs} : Lev row other x g → Levs row other xs gs → Levs row other (x :: xs) (g :: gs)
/-- each table is answered by the one ahead of it -/
def chain (r c : Nat) : (Nat → Nat → Bool) → List (Nat → Nat → Bool) → Bool
  | _, [] => true
  | f, g :: gs => ansAll r c g f && chain r c g gs
theorem jg_chain {row other : List Nat} : ∀ {xs : List PV} {gs : List (Nat → Nat → Bool)} {f : Nat → Nat → Bool}, Levs row other xs gs → Jg row other (some f) xs (chain row.length other.length f gs)
  | _, _, f, .nil => .nil
  | _, _, f, .cons (g := g) ⟨b, items, e, h⟩ hs => by
    subst e
    unfold chain
    cases ha : ansAll row.length other.length g f with
    | false => exact .lost h ha
    | true => exact .next h ha (jg_chain hs)
/-- good levels, then one with a bad item -/
theorem jg_bad {row other : List Nat} {x : PV} {ys : List PV} (hx : ∃ b items, x = seqI b items ∧ LvBad row other items) : ∀ {xs : List PV} {gs : List (Nat → Nat → Bool)} {p : Option (Nat → Nat → Bool)}, Levs row other xs gs → Jg row other p (xs ++ x :: ys) false
  | _, _, p, .nil => by
    obtain ⟨b, items, rfl, h⟩ := hx
    exact .bad h
  | _, _, p, .cons (g := g) ⟨b, items, e, h⟩ hs => by
    subst e
    cases p with
    | none => exact .first h (jg_bad hx hs)
    | some f =>
      cases ha : ansAll row.length other.length g f with
      | false => exact .lost h ha
      | true => exact .next h ha (jg_bad hx hs)
theorem jg_all {row other : List Nat} {x : PV} {g : Nat → Nat → Bool} {xs : List PV} {gs : List (Nat → Nat → Bool)} (h : Lev row other x g) (hs : Levs row other xs gs) : Jg row other none (x :: xs) (chain row.length other.length g gs) := by
  obtain ⟨b, items, rfl, h⟩ := h
  exact .first h (jg_chain hs)
end Lw

set_option Elab.async false
set_option linter.all false
set_option maxRecDepth 100000
namespace Lw
open PySem PySem.Spec L2 ML
/-- the same values in range -/
def Same2 (r c : Nat) (f g : Nat → Nat → Bool) : Prop := ∀ k m, k < r → m < c → f k m = g k m
theorem ansAll_iff {r c : Nat} {g f : Nat → Nat → Bool} : ansAll r c g f = true ↔ ∀ k m, k < r → m < c → g k m = true → keeps f r c k m = true := by
  unfold ansAll
  rw [List.all_eq_true]
  constructor
  · intro h k m hk hm hg
    have := List.all_eq_true.mp (h k (List.mem_range.mpr hk)) m (List.mem_range.mpr hm)
    rw [hg] at this
    simpa using this
  · intro h k hk
    refine List.all_eq_true.mpr fun m hm => ?_
    have := h k m (List.mem_range.mp hk) (List.mem_range.mp hm)
    cases hg : g k m with
    | false => rfl
    | true => rw [this hg]; rfl
theorem ansAll_congr {r c : Nat} {g g' f f' : Nat → Nat → Bool} (hg : Same2 r c g g') (hf : Same2 r c f f') : ansAll r c g f = ansAll r c g' f' := by
  rw [Bool.eq_iff_iff, ansAll_iff, ansAll_iff]
  constructor
  · intro h k m hk hm e
    rw [← keeps_congr hf hk hm]
    exact h k m hk hm (by rw [hg k m hk hm]; exact e)
  · intro h k m hk hm e
    rw [keeps_congr hf hk hm]
    exact h k m hk hm (by rw [← hg k m hk hm]; exact e)
theorem ans_cl {r c h : Nat} {g f : Nat → Nat → Bool} (hr : r < 13) (hc : c < 13) (hf : Same2 r c f (cl r c h)) : ansAll r c g f = true ↔ ∀ k m, k < r → m < c → g k m = true → cl r c (h + 1) k m = true := by
  rw [ansAll_iff]
  constructor
  · intro a k m hk hm e
    rw [← cl_next hr hc hk hm, ← keeps_congr hf hk hm]
    exact a k m hk hm e
  · intro a k m hk hm e
    rw [keeps_congr hf hk hm, cl_next hr hc hk hm]
    exact a k m hk hm e
end Lw

set_option Elab.async false
set_option linter.all false
set_option maxRecDepth 100000
namespace Lw
open PySem PySem.Spec L2 ML
/-! ### walks of lists that may be mutable, nothing changed -/
section
variable {G : PV → LS → M LS} {t : LS → M Bool} {e : LS → M PV} {τ : LS} {m xs : List PV} {S : Src}
theorem compS_at (hn : S.n = xs.length) (hok : S.ok m = true) (hit : ∀ i, i < xs.length → S.it i m = xs[i]?) (g : PV → PV)
    (h : ∀ x ∈ xs, ((G x τ m).bind fun τ1 m1 => (t τ1 m1).bind fun b m2 => if b = true then (e τ1 m2).bind fun z m3 => .ok (some z) m3 else .ok none m2) = .ok (some (g x)) m) :
    ∀ (k : Nat), k ≤ xs.length → ∀ acc, compS S G t e τ k acc m = .ok (acc ++ (xs.drop (xs.length - k)).map g) m
  | 0, _, acc => by
    unfold compS
    rw [if_pos hok, Nat.sub_zero, List.drop_length, List.map_nil, List.append_nil]
  | k + 1, hk, acc => by
    have hi : xs.length - (k + 1) < xs.length := by omega
    have h0 := h xs[xs.length - (k + 1)] (List.getElem_mem hi)
    rw [List.drop_eq_getElem_cons hi, List.map_cons, show xs.length - (k + 1) + 1 = xs.length - k by omega]
    unfold compS
    rw [if_pos hok, hn, hit _ hi, List.getElem?_eq_getElem hi]
    generalize xs[xs.length - (k + 1)] = x at h0
    show ((G x τ m).bind fun τ1 m1 => (t τ1 m1).bind fun b m2 => if b = true then (e τ1 m2).bind fun z m3 => compS S G t e τ k (acc ++ [z]) m3 else compS S G t e τ k acc m2) = _
    cases hG : G x τ m with
    | no => rw [hG] at h0; cases h0
    | exc a b => rw [hG] at h0; cases h0
    | ok τ1 m1 =>
      rw [hG, Rs.bind_ok] at h0
      rw [Rs.bind_ok]
      cases ht : t τ1 m1 with
      | no => rw [ht] at h0; cases h0
      | exc a b => rw [ht] at h0; cases h0
      | ok b m2 =>
        rw [ht, Rs.bind_ok] at h0
        rw [Rs.bind_ok]
        cases b with
        | false => rw [if_neg Bool.false_ne_true] at h0; cases h0
        | true =>
          rw [if_pos rfl] at h0 ⊢
          cases he : e τ1 m2 with
          | no => rw [he] at h0; cases h0
          | exc a b => rw [he] at h0; cases h0
          | ok z m3 =>
            rw [he, Rs.bind_ok] at h0
            cases h0
            rw [Rs.bind_ok, compS_at hn hok hit g h k (by omega), List.append_assoc]
            rfl
/-- a list, mutable or not -/
theorem comp_seq {f : LS → M PV} {vs : List Nat} {mh : List PV} {x : PV} (h1 : f τ mh = .ok x m) (h2 : seqL m x = some xs) (g : PV → PV)
    (h : ∀ y ∈ xs, ((G y (wipeL τ vs) m).bind fun τ1 m1 => (t τ1 m1).bind fun b m2 => if b = true then (e τ1 m2).bind fun z m3 => .ok (some z) m3 else .ok none m2) = .ok (some (g y)) m) :
    mComp (mIt f srcL) G t e vs τ mh = .ok (.lst (xs.map g)) m := by
  rw [ev_comp, ev_it, h1, Rs.bind_ok]
  have key : ∀ S : Src, srcL x m = .ok S m → S.n = xs.length → S.ok m = true → (∀ i, i < xs.length → S.it i m = xs[i]?) → ((srcL x m).bind fun S m => (compS S G t e (wipeL τ vs) S.n [] m).bind fun xs m => Rs.ok (PV.lst xs) m) = Rs.ok (PV.lst (xs.map g)) m := fun S hS hn hok hit => by
    rw [hS, Rs.bind_ok, hn, compS_at hn hok hit g h xs.length (Nat.le_refl _), Nat.sub_self, List.drop_zero]
    rfl
  unfold seqL at h2
  split at h2
  · cases h2
    exact key (Src.lst xs) rfl rfl rfl fun _ _ => rfl
  · next n =>
    split at h2
    · next ts hm =>
      cases h2
      refine key (Src.loc n xs.length) ?_ rfl ?_ fun i _ => ?_
      · show (match m[n]? with
          | some (.lst ts) => Rs.ok (Src.loc n ts.length) m
          | _ => .no) = _
        rw [hm]
      · show (match m[n]? with
          | some (.lst ts) => ts.length == xs.length
          | _ => false) = true
        rw [hm]; exact beq_self_eq_true _
      · show (match m[n]? with
          | some (.lst ts) => ts[i]?
          | _ => none) = _
        rw [hm]
    · cases h2
  · cases h2
end
end Lw

set_option Elab.async false
set_option linter.all false
set_option maxRecDepth 100000
namespace Lw
open PySem PySem.Spec L2 ML
/-! ### what repr shows of tables -/
/-- data of bounded size -/
structure Nice (x : PV) (w d : Nat) : Prop where
  ex : ∃ z : PyData, (∀ s, toW s x = some z) ∧ z.showable = true ∧ z.leavesShort 13 = true ∧ z.weight ≤ w ∧ z.depth ≤ d
theorem nice_all {w d : Nat} : ∀ {xs : List PV}, (∀ x ∈ xs, Nice x w d) → ∃ zs : List PyData, (∀ s, toWs s xs = some zs) ∧ PyData.showableAll zs = true ∧ PyData.leavesShortAll 13 zs = true ∧ PyData.weightAll zs ≤ (w + 1) * xs.length ∧ PyData.depthAll zs ≤ d
  | [], _ => ⟨[], fun s => by simp only [toWs], by simp only [PyData.showableAll], by simp only [PyData.leavesShortAll], by simp only [PyData.weightAll]; omega, by simp only [PyData.depthAll]; omega⟩
  | x :: xs, h => by
    obtain ⟨z, a1, a2, a3, a4, a5⟩ := (h x (List.mem_cons_self ..)).ex
    obtain ⟨zs, b1, b2, b3, b4, b5⟩ := nice_all (xs := xs) fun y hy => h y (List.mem_cons_of_mem _ hy)
    refine ⟨z :: zs, fun s => by simp only [toWs, a1 s, b1 s], by simp only [PyData.showableAll, a2, b2, Bool.and_self], by simp only [PyData.leavesShortAll, a3, b3, Bool.and_self], ?_, by simp only [PyData.depthAll]; omega⟩
    simp only [PyData.weightAll, List.length_cons]
    rw [Nat.mul_add]
    omega
theorem nice_seq {w d : Nat} (b : Bool) {xs : List PV} (h : ∀ x ∈ xs, Nice x w d) : Nice (seqI b xs) ((w + 1) * xs.length) (d + 1) := by
  obtain ⟨zs, b1, b2, b3, b4, b5⟩ := nice_all h
  cases b with
  | true => exact ⟨.list zs, fun s => by simp only [seqI, if_true, toW, b1 s], by simpa only [PyData.showable] using b2, by simpa only [PyData.leavesShort] using b3, by simpa only [PyData.weight] using b4, by simp only [PyData.depth]; omega⟩
  | false => exact ⟨.tuple zs, fun s => by simp only [seqI, Bool.false_eq_true, if_false, toW, b1 s], by simpa only [PyData.showable] using b2, by simpa only [PyData.leavesShort] using b3, by simpa only [PyData.weight] using b4, by simp only [PyData.depth]; omega⟩
theorem Nice.mono {x : PV} {w d w' d' : Nat} (h : Nice x w d) (hw : w ≤ w') (hd : d ≤ d') : Nice x w' d' := by
  obtain ⟨z, a1, a2, a3, a4, a5⟩ := h.ex
  exact ⟨z, a1, a2, a3, by omega, by omega⟩
theorem nice_int {i : Int} (h1 : -1000 ≤ i) (h2 : i ≤ 1000) : Nice (.int i) 10 0 := by
  have hl : i.natAbs < 2 ^ 10 := by
    have : (2 : Nat) ^ 10 = 1024 := by decide
    omega
  have hw : (PyData.int i).weight ≤ 10 := by
    simp only [PyData.weight]
    split
    · omega
    · next hz =>
      have hz : i.natAbs ≠ 0 := by simpa using hz
      have := (Nat.log2_lt hz).mpr hl
      omega
  refine ⟨.int i, fun s => by simp only [toW], ?_, ?_, hw, by simp only [PyData.depth]; omega⟩
  · simp only [PyData.showable, decide_eq_true_eq]
    by_cases hz : i.natAbs = 0
    · rw [hz]; decide
    · exact Nat.lt_trans ((Nat.log2_lt hz).mpr hl) (by decide)
  · simp only [PyData.leavesShort, decide_eq_true_eq]
    exact PyData.shown_int_le2 (by omega) (by omega)
theorem nice_bl (b : Bool) : Nice (.bl b) 10 0 := ⟨.bool b, fun s => by simp only [toW], by simp only [PyData.showable], by simp only [PyData.leavesShort], by simp only [PyData.weight]; omega, by simp only [PyData.depth]; omega⟩
theorem nice_non : Nice .non 10 0 := ⟨.none, fun s => by simp only [toW], by simp only [PyData.showable], by simp only [PyData.leavesShort], by simp only [PyData.weight]; omega, by simp only [PyData.depth]; omega⟩
theorem nice_dict : Nice (.dk [] []) 10 1 := ⟨.dict [], fun s => by simp only [toW], by simp only [PyData.showable, PyData.showableKv], by simp only [PyData.leavesShort, PyData.leavesShortKv], by simp only [PyData.weight, PyData.weightKv]; omega, by simp only [PyData.depth, PyData.depthKv]; omega⟩
theorem nice_ab : Nice (.str "ab") 10 0 := ⟨.str "ab", fun s => by simp only [toW], by simp only [PyData.showable], by decide +kernel, by decide +kernel, by simp only [PyData.depth]; omega⟩
theorem e_repr {b : Bool} {xs : List PV} {w d : Nat} (h : Nice (seqI b xs) w d) (hw : w ≤ 2 ^ 20) (hd : d ≤ 60) : ∃ s : Str, ∀ mh, vRepr [seqI b xs] mh = .ok (.str s) mh := by
  obtain ⟨z, a1, a2, a3, a4, a5⟩ := h.ex
  have hq : seqD z = true := by
    have e := a1 fun _ => none
    cases b with
    | true =>
      simp only [seqI, if_true, toW] at e
      split at e
      · cases e; rfl
      · cases e
    | false =>
      simp only [seqI, Bool.false_eq_true, if_false, toW] at e
      split at e
      · cases e; rfl
      · cases e
  have hs := PyData.shown_fits (B := 13) (by omega) (by omega) a3 (Nat.le_trans a4 hw)
  refine ⟨z.shown, fun mh => ?_⟩
  show (match datW mh (seqI b xs) with
    | some d => if seqD d = true ∧ d.showable = true ∧ d.shown.length ≤ sizeLine ∧ d.depth ≤ 60 then Rs.ok (PV.str d.shown) mh else .no
    | none => .no) = _
  show (match toW (locW mh 8) (seqI b xs) with
    | some d => if seqD d = true ∧ d.showable = true ∧ d.shown.length ≤ sizeLine ∧ d.depth ≤ 60 then Rs.ok (PV.str d.shown) mh else .no
    | none => .no) = _
  rw [a1]
  exact if_pos ⟨hq, a2, hs, by omega⟩
end Lw

set_option Elab.async false
set_option linter.all false
set_option maxRecDepth 100000
namespace Lw
/-! ### first comings -/
def cm (S : List Nat) : List Nat → List Nat
  | [] => []
  | x :: xs => if x ∈ S then cm S xs else x :: cm (S ++ [x]) xs
def okS (S : List Nat) (x : Nat) : List Nat → Bool
  | [] => false
  | y :: ys => (x == y) || (decide (y ∈ S) && okS S x ys)
def ansS (ys : List Nat) (S : List Nat) : List Nat → Bool
  | [] => true
  | x :: xs => okS S x ys && ansS ys (S ++ [x]) xs
theorem okS_mono {S T : List Nat} {x : Nat} (h : ∀ y ∈ S, y ∈ T) : ∀ ys : List Nat, okS S x ys = true → okS T x ys = true
  | [], e => e
  | y :: ys, e => by
    simp only [okS, Bool.or_eq_true, Bool.and_eq_true, decide_eq_true_eq] at e ⊢
    rcases e with e | ⟨e1, e2⟩
    · exact .inl e
    · exact .inr ⟨h y e1, okS_mono h ys e2⟩
theorem cm_congr : ∀ (xs : List Nat) {S T : List Nat}, (∀ y, y ∈ S ↔ y ∈ T) → cm S xs = cm T xs
  | [], _, _, _ => rfl
  | x :: xs, S, T, h => by
    unfold cm
    by_cases hx : x ∈ S
    · rw [if_pos hx, if_pos ((h x).mp hx), cm_congr xs h]
    · rw [if_neg hx, if_neg fun e => hx ((h x).mpr e), cm_congr xs (T := T ++ [x]) fun y => by rw [List.mem_append, List.mem_append, h y]]
theorem okS_head {S : List Nat} {x : Nat} (hx : x ∉ S) : ∀ ys : List Nat, (okS S x ys = true → cm S ys = x :: cm (S ++ [x]) ys) ∧ (okS S x ys = false → ∀ t, cm S ys ≠ x :: t)
  | [] => ⟨fun e => (by cases e), fun _ t e => (by cases e)⟩
  | y :: ys => by
    obtain ⟨i1, i2⟩ := okS_head hx ys
    by_cases hy : y ∈ S
    · have hxy : (x == y) = false := by
        rw [beq_eq_false_iff_ne]
        exact fun e => hx (e ▸ hy)
      have e1 : cm S (y :: ys) = cm S ys := by rw [cm, if_pos hy]
      have e2 : cm (S ++ [x]) (y :: ys) = cm (S ++ [x]) ys := by rw [cm, if_pos (List.mem_append.mpr (.inl hy))]
      have e3 : okS S x (y :: ys) = okS S x ys := by rw [okS, hxy, decide_eq_true hy]; rfl
      rw [e1, e2, e3]
      exact ⟨i1, i2⟩
    · have e1 : cm S (y :: ys) = y :: cm (S ++ [y]) ys := by rw [cm, if_neg hy]
      have e3 : okS S x (y :: ys) = (x == y) := by rw [okS, decide_eq_false hy, Bool.false_and, Bool.or_false]
      rw [e1, e3]
      refine ⟨fun e => ?_, fun e t h => ?_⟩
      · have e := eq_of_beq e
        subst e
        rw [cm, if_pos (List.mem_append.mpr (.inr (List.mem_singleton.mpr rfl)))]
      · rw [beq_eq_false_iff_ne] at e
        injection h with h1 h2
        exact e h1.symm
theorem ansS_iff {ys : List Nat} : ∀ (xs S : List Nat), (∀ x ∈ S, okS S x ys = true) → (ansS ys S xs = true ↔ cm S xs <+: cm S ys)
  | [], S, _ => ⟨fun _ => List.nil_prefix, fun _ => rfl⟩
  | x :: xs, S, inv => by
    have up : ∀ z, okS S z ys = true → okS (S ++ [x]) z ys = true := fun z => okS_mono (fun y hy => List.mem_append.mpr (.inl hy)) ys
    have ec : cm S (x :: xs) = if x ∈ S then cm S xs else x :: cm (S ++ [x]) xs := rfl
    rw [ansS, ec]
    by_cases hx : x ∈ S
    · have inv2 : ∀ z ∈ S ++ [x], okS (S ++ [x]) z ys = true := fun z hz => by
        rcases List.mem_append.mp hz with hz | hz
        · exact up z (inv z hz)
        · rw [List.mem_singleton.mp hz]; exact up x (inv x hx)
      have cc : ∀ zs, cm (S ++ [x]) zs = cm S zs := fun zs => cm_congr zs fun y => by
        rw [List.mem_append, List.mem_singleton]
        exact ⟨fun h => h.elim id fun e => e ▸ hx, .inl⟩
      rw [inv x hx, Bool.true_and, if_pos hx, ansS_iff xs (S ++ [x]) inv2, cc, cc]
    · rw [if_neg hx]
      obtain ⟨i1, i2⟩ := okS_head hx ys
      cases ho : okS S x ys with
      | false =>
        rw [Bool.false_and]
        refine ⟨fun e => (by cases e), fun e => ?_⟩
        obtain ⟨t, ht⟩ := e
        exact absurd ht.symm (i2 ho _)
      | true =>
        have inv2 : ∀ z ∈ S ++ [x], okS (S ++ [x]) z ys = true := fun z hz => by
          rcases List.mem_append.mp hz with hz | hz
          · exact up z (inv z hz)
          · rw [List.mem_singleton.mp hz]; exact up x ho
        rw [Bool.true_and, ansS_iff xs (S ++ [x]) inv2, i1 ho, List.cons_prefix_cons]
        exact ⟨fun h => ⟨rfl, h⟩, fun h => h.2⟩
theorem ansS_both {xs ys : List Nat} : (ansS ys [] xs && ansS xs [] ys) = decide (cm [] xs = cm [] ys) := by
  rw [Bool.eq_iff_iff, Bool.and_eq_true, ansS_iff xs [] (by simp), ansS_iff ys [] (by simp), decide_eq_true_eq]
  constructor
  · rintro ⟨h1, h2⟩
    exact h1.eq_of_length (Nat.le_antisymm h1.length_le h2.length_le)
  · intro h
    rw [h]
    exact ⟨List.prefix_refl _, List.prefix_refl _⟩
/-! ### tables of like letters -/
theorem okB_S {C : Nat → Bool} {S : List Nat} {Y : Nat → Nat} {x : Nat} : ∀ l : List Nat, (∀ q ∈ l, C q = decide (Y q ∈ S)) → okB C (fun q => x == Y q) l = okS S x (l.map Y)
  | [], _ => rfl
  | q :: l, h => by
    rw [okB, List.map_cons, okS, h q (List.mem_cons_self ..), okB_S l fun z hz => h z (List.mem_cons_of_mem _ hz)]
theorem ansB_S {X Y : Nat → Nat} {l : List Nat} : ∀ (ks : List Nat) (C : Nat → Bool) (S : List Nat), (∀ q ∈ l, C q = decide (Y q ∈ S)) → ansB (fun k m => X k == Y m) l C ks = ansS (l.map Y) S (ks.map X)
  | [], C, S, _ => rfl
  | k :: ks, C, S, h => by
    rw [ansB, List.map_cons, ansS, okB_S l h]
    congr 1
    refine ansB_S ks _ _ fun q hq => ?_
    unfold covB
    rw [h q hq, decide_eq_true hq, Bool.true_and, Bool.eq_iff_iff]
    simp only [Bool.or_eq_true, decide_eq_true_eq, beq_iff_eq, List.mem_append, List.mem_singleton]
    exact or_congr Iff.rfl ⟨fun h => h.symm, fun h => h.symm⟩
theorem okB_iff {C g : Nat → Bool} : ∀ l : List Nat, okB C g l = true ↔ ∃ j p, l[j]? = some p ∧ g p = true ∧ ∀ q ∈ l.take j, C q = true
  | [] => ⟨fun h => (by cases h), fun ⟨j, p, h, _⟩ => (by simp at h)⟩
  | q :: l => by
    simp only [okB, Bool.or_eq_true, Bool.and_eq_true, okB_iff l]
    constructor
    · rintro (h | ⟨h, j, p, h1, h2, h3⟩)
      · exact ⟨0, q, rfl, h, by simp⟩
      · exact ⟨j + 1, p, by simpa using h1, h2, by
          intro z hz
          rw [List.take_succ_cons] at hz
          rcases List.mem_cons.mp hz with rfl | hz
          · exact h
          · exact h3 z hz⟩
    · rintro ⟨j, p, h1, h2, h3⟩
      cases j with
      | zero => exact .inl (by simp at h1; rw [h1]; exact h2)
      | succ j =>
        refine .inr ⟨h3 q (by rw [List.take_succ_cons]; exact List.mem_cons_self ..), j, p, by simpa using h1, h2, fun z hz => h3 z (by rw [List.take_succ_cons]; exact List.mem_cons_of_mem _ hz)⟩
/-! ### like letters: first comings -/
def eqT (row other : List Nat) (i j : Nat) : Bool := row.getD i 0 == other.getD j 0
theorem side_t (row : List Nat) (k : Nat) : (beyond k row.length true).map (row.getD · 0) = row.drop (k + 1) := by
  unfold beyond
  rw [List.map_map]
  refine List.ext_getElem? fun j => ?_
  rw [List.getElem?_map, List.getElem?_drop]
  by_cases h : j < row.length - (k + 1)
  · rw [List.getElem?_range h, Option.map_some]
    show some (row.getD (j + (k + 1)) 0) = _
    rw [List.getD_eq_getElem?_getD, Nat.add_comm j, List.getElem?_eq_getElem (by omega : k + 1 + j < row.length)]
    rfl
  · rw [List.getElem?_eq_none (by simp; omega), List.getElem?_eq_none (by omega)]
    rfl
theorem side_f (row : List Nat) (k : Nat) (hk : k < row.length) : (beyond k row.length false).map (row.getD · 0) = (row.take k).reverse := by
  unfold beyond
  rw [List.map_map]
  refine List.ext_getElem? fun j => ?_
  rw [List.getElem?_map]
  by_cases h : j < k
  · rw [List.getElem?_range h, Option.map_some, List.getElem?_reverse (by rw [List.length_take]; omega), List.length_take, List.getElem?_take_of_lt (by omega)]
    show some (row.getD (k - 1 - j) 0) = _
    rw [List.getD_eq_getElem?_getD, show min k row.length - 1 - j = k - 1 - j by omega, List.getElem?_eq_getElem (by omega : k - 1 - j < row.length)]
    rfl
  · rw [List.getElem?_eq_none (by simp; omega), List.getElem?_eq_none (by rw [List.length_reverse, List.length_take]; omega)]
    rfl
theorem keeps_eq {row other : List Nat} {k m : Nat} (hk : k < row.length) (hm : m < other.length) :
    keeps (eqT row other) row.length other.length k m = (decide (cm [] (row.drop (k + 1)) = cm [] (other.drop (m + 1))) && decide (cm [] (row.take k).reverse = cm [] (other.take m).reverse)) := by
  have e1 : eqT row other = fun k m => (row.getD · 0) k == (other.getD · 0) m := rfl
  have e2 : fl (eqT row other) = fun k m => (other.getD · 0) k == (row.getD · 0) m := by
    funext a b
    show (row.getD b 0 == other.getD a 0) = (other.getD a 0 == row.getD b 0)
    exact Bool.beq_comm
  have hh : ∀ u, half (eqT row other) row.length other.length k m u = decide (cm [] ((beyond k row.length u).map (row.getD · 0)) = cm [] ((beyond m other.length u).map (other.getD · 0))) := fun u => by
    unfold half
    rw [e2, e1, ansB_S (X := (row.getD · 0)) (Y := (other.getD · 0)) _ _ [] (by simp), ansB_S (X := (other.getD · 0)) (Y := (row.getD · 0)) _ _ [] (by simp), ansS_both]
  unfold keeps
  rw [hh, hh, side_t, side_t, side_f _ _ hk, side_f _ _ hm]
/-- a table of no pairs keeps nothing in rows that are not both of one letter -/
theorem keeps_none {r c k m : Nat} (hk : k < r) (hr : 2 ≤ r) : keeps (fun _ _ => false) r c k m = false := by
  have hok : ∀ (l : List Nat), okB (fun _ => false) (fun _ => false) l = false := fun l => by cases l <;> rfl
  have hans : ∀ (l ks : List Nat), ks ≠ [] → ansB (fun _ _ => false) l (fun _ => false) ks = false := fun l ks h => by
    cases ks with
    | nil => exact absurd rfl h
    | cons a ks => rw [ansB, hok, Bool.false_and]
  unfold keeps half
  by_cases h : k + 1 < r
  · rw [hans _ (beyond k r true) (by
      intro e
      have := congrArg List.length e
      simp [beyond] at this
      omega)]
    rfl
  · rw [hans _ (beyond k r false) (by
      intro e
      have := congrArg List.length e
      simp [beyond] at this
      omega)]
    simp
end Lw

set_option Elab.async false
set_option linter.all false
set_option maxRecDepth 100000
namespace Lw
open PySem PySem.Spec L2 ML
/-! ### draws -/
def Sr (m : List PV) (n : Nat) (k : Nat) : Prop := ∃ a b c, Src3 m n k a b c
theorem Sr.lt {m : List PV} {n k : Nat} (S : Sr m n k) : n < m.length := by
  obtain ⟨a, b, c, S⟩ := S
  exact (List.getElem?_eq_some_iff.mp S.at_).1
theorem Sr.le {m : List PV} {n k j : Nat} (S : Sr m n k) (h : k ≤ j) : Sr m n j := by
  obtain ⟨a, b, c, S⟩ := S
  exact ⟨a, b, c, S.at_, S.a0, S.b0, S.b1, S.c0, by have := S.c1; omega⟩
theorem Sr.of {m m' : List PV} {n k : Nat} (S : Sr m n k) (h : m'[n]? = m[n]?) : Sr m' n k := by
  obtain ⟨a, b, c, S⟩ := S
  exact ⟨a, b, c, h.trans S.at_, S.a0, S.b0, S.b1, S.c0, S.c1⟩
theorem Sr.app {m : List PV} {n k : Nat} (S : Sr m n k) (ex : List PV) : Sr (m ++ ex) n k := S.of (List.getElem?_append_left S.lt)
theorem pick {m : List PV} {n k w : Nat} (S : Sr m n k) (hk : k < 1000000) (w0 : 0 < w) (w1 : w < 1000) :
    ∃ d q, d < w ∧ F__law_pick [.loc n, .int (w : Nat)] m = .ok (.int (d : Nat)) (m.set n q) ∧ Sr (m.set n q) n (k + 1) := by
  obtain ⟨a, b, c, S⟩ := S
  have h30 : (2 : Int) ^ 30 = 1073741824 := by decide
  obtain ⟨d, a', c', d0, d1, e, S'⟩ := e_pick (w := (w : Nat)) S (by rw [h30]; omega) (by omega) (by omega)
  refine ⟨d.toNat, _, by omega, by rw [show ((d.toNat : Nat) : Int) = d by omega]; exact e, a', b, c', ?_⟩
  exact ⟨S'.at_, S'.a0, S'.b0, S'.b1, S'.c0, by have := S'.c1; omega⟩
/-! ### _law_judged -/
def cv : PV → PV
  | .tup ts => .lst ts
  | x => x
def lvW (w : Nat) (is : List PV) : PV := if w = 0 then .tup is else if w = 1 then .lst (is.map cv) else .lst (is.reverse ++ is)
def tblW (w : Nat) (LL : List (List PV)) : PV := seqI (w == 1) (LL.map (lvW w))
def Item (z : PV) : Prop := (∃ ts, z = .tup ts ∧ Nice (.tup ts) 40 2) ∨ z = .str "ab" ∨ z = .non ∨ z = .dk [] []
structure Lvls (m : List PV) (L : PV) (LL : List (List PV)) : Prop where
  ex : ∃ xs, seqL m L = some xs ∧ xs.map (seqL m) = LL.map some
section
variable {m : List PV} {L : PV} {LL : List (List PV)} {τ : LS}
theorem Lvls.get {xs : List PV} (h : xs.map (seqL m) = LL.map some) {y : PV} (hy : y ∈ xs) : ∃ is ∈ LL, seqL m y = some is := by
  have : seqL m y ∈ LL.map some := h ▸ List.mem_map.mpr ⟨y, hy, rfl⟩
  obtain ⟨is, h1, h2⟩ := List.mem_map.mp this
  exact ⟨is, h1, h2.symm⟩
theorem Lvls.map {xs : List PV} (h : xs.map (seqL m) = LL.map some) (g : List PV → PV) : xs.map (fun y => g ((seqL m y).getD [])) = LL.map g := by
  have e : xs.map (fun y => g ((seqL m y).getD [])) = (xs.map (seqL m)).map fun o => g (o.getD []) := by
    rw [List.map_map]; rfl
  rw [e, h, List.map_map]; rfl
theorem tbl0 (hL : Lvls m L LL) {a0 a1 a2 a3 a5 a6 : Option PV} : mCall vTuple (mCons (mComp (mIt (gv 4) srcL) (gSet 9) mYes (mCall vTuple (mCons (mComp (mIt (gv 9) srcL) (gSet 8) mYes (gv 8) [8]) mNil)) [9]) mNil) [a0, a1, a2, a3, some L, a5, a6, none, none, none, none, none] m = .ok (tblW 0 LL) m := by
  obtain ⟨xs, h1, h2⟩ := hL.ex
  have c := comp_seq (f := gv 4) (τ := [a0, a1, a2, a3, some L, a5, a6, none, none, none, none, none]) (mh := m) (m := m) (G := gSet 9) (t := mYes) (e := mCall vTuple (mCons (mComp (mIt (gv 9) srcL) (gSet 8) mYes (gv 8) [8]) mNil)) (vs := [9]) rfl h1 (fun y => .tup ((seqL m y).getD [])) fun y hy => by
    obtain ⟨is, hi, e⟩ := Lvls.get h2 hy
    rw [e]
    refine step_map (z := .tup is) rfl (call_ok (args1 (comp_seq rfl e id fun z hz => step_map rfl rfl)) ?_)
    rw [List.map_id]; rfl
  rw [Lvls.map h2 PV.tup] at c
  exact call_ok (args1 c) rfl
theorem tbl1 (hL : Lvls m L LL) (hi : ∀ is ∈ LL, ∀ z ∈ is, Item z) {a0 a1 a2 a3 a5 a6 : Option PV} : mComp (mIt (gv 4) srcL) (gSet 9) mYes (mComp (mIt (gv 9) srcL) (gSet 8) mYes (mIf (mTest (mIsi ["tuple"] (gv 8))) (mCall vList (mCons (gv 8) mNil)) (gv 8)) [8]) [9] [a0, a1, a2, a3, some L, a5, a6, none, none, none, none, none] m = .ok (tblW 1 LL) m := by
  obtain ⟨xs, h1, h2⟩ := hL.ex
  have c := comp_seq (f := gv 4) (τ := [a0, a1, a2, a3, some L, a5, a6, none, none, none, none, none]) (mh := m) (m := m) (G := gSet 9) (t := mYes) (e := mComp (mIt (gv 9) srcL) (gSet 8) mYes (mIf (mTest (mIsi ["tuple"] (gv 8))) (mCall vList (mCons (gv 8) mNil)) (gv 8)) [8]) (vs := [9]) rfl h1 (fun y => .lst (((seqL m y).getD []).map cv)) fun y hy => by
    obtain ⟨is, h3, e⟩ := Lvls.get h2 hy
    rw [e]
    refine step_map (z := .lst (is.map cv)) rfl (comp_seq rfl e cv fun z hz => ?_)
    rcases hi is h3 z hz with ⟨ts, rfl, _⟩ | rfl | rfl | rfl
    · exact step_map rfl ((if_t (test_ok (m1 := m) (by rw [ev_isi, gv_ok rfl]; simp))).trans (call_ok (args1 rfl) rfl))
    · exact step_map rfl ((if_f (test_ok (m1 := m) (by rw [ev_isi, gv_ok rfl]; simp))).trans rfl)
    · exact step_map rfl ((if_f (test_ok (m1 := m) (by rw [ev_isi, gv_ok rfl]; simp))).trans rfl)
    · exact step_map rfl ((if_f (test_ok (m1 := m) (by rw [ev_isi, gv_ok rfl]; simp))).trans rfl)
  rw [Lvls.map h2 fun is => PV.lst (is.map cv)] at c
  exact c
theorem list_of {x : PV} {is : List PV} (h : seqL m x = some is) : vList [x] m = .ok (.lst is) m := by
  have : vList0 [x] m = some is := by
    cases x <;> first | exact h | (simp only [seqL] at h; cases h)
  unfold vList
  rw [this]
theorem listL_of {x : PV} {is : List PV} (h : seqL m x = some is) : vListL [x] m = .ok (.loc m.length) (m ++ [.lst is]) := by
  have : vList0 [x] m = some is := by
    cases x <;> first | exact h | (simp only [seqL] at h; cases h)
  unfold vListL
  rw [this]
theorem add_lst {a b : List PV} (h : a.length + b.length ≤ 10000) : vAdd (.lst a) (.lst b) m = .ok (.lst (a ++ b)) m := by
  show (if a.length + b.length ≤ sizeLine then Rs.ok (PV.lst (a ++ b)) m else .no) = _
  rw [if_pos (by rw [sizeLine_eq]; omega)]
theorem tbl2 (hL : Lvls m L LL) (hi : ∀ is ∈ LL, is.length ≤ 150) {a0 a1 a2 a3 a5 a6 : Option PV} : mCall vTuple (mCons (mComp (mIt (gv 4) srcL) (gSet 9) mYes (mBin vAdd (mListRev (mCall vList (mCons (gv 9) mNil))) (mCall vList (mCons (gv 9) mNil))) [9]) mNil) [a0, a1, a2, a3, some L, a5, a6, none, none, none, none, none] m = .ok (tblW 2 LL) m := by
  obtain ⟨xs, h1, h2⟩ := hL.ex
  have c := comp_seq (f := gv 4) (τ := [a0, a1, a2, a3, some L, a5, a6, none, none, none, none, none]) (mh := m) (m := m) (G := gSet 9) (t := mYes) (e := mBin vAdd (mListRev (mCall vList (mCons (gv 9) mNil))) (mCall vList (mCons (gv 9) mNil))) (vs := [9]) rfl h1 (fun y => .lst (((seqL m y).getD []).reverse ++ ((seqL m y).getD []))) fun y hy => by
    obtain ⟨is, h3, e⟩ := Lvls.get h2 hy
    have hl := hi is h3
    rw [e]
    have r1 : ∀ τ' : LS, τ'[9]? = some (some y) → mListRev (mCall vList (mCons (gv 9) mNil)) τ' m = .ok (.lst is.reverse) m := fun τ' ht => by
      show (((mCall vList (mCons (gv 9) mNil)) τ' m).bind fun x m => match seqR m x with
        | some ts => putL false ts.reverse m
        | none => Rs.no) = _
      rw [call_ok (args1 (gv_ok ht)) (list_of e)]
      rfl
    exact step_map (z := .lst (is.reverse ++ is)) rfl (bin_ok (r1 _ rfl) (call_ok (args1 rfl) (list_of e)) (add_lst (by rw [List.length_reverse]; omega)))
  rw [Lvls.map h2 fun is => PV.lst (is.reverse ++ is)] at c
  exact call_ok (args1 c) rfl
end
theorem item_nice {z : PV} (h : Item z) : Nice z 40 2 ∧ Nice (cv z) 40 2 := by
  rcases h with ⟨ts, rfl, h⟩ | rfl | rfl | rfl
  · refine ⟨h, ?_⟩
    obtain ⟨y, a1, a2, a3, a4, a5⟩ := h.ex
    have e := a1 fun _ => none
    simp only [toW] at e
    cases q : toWs (fun _ => none) ts with
    | none => rw [q] at e; cases e
    | some zs =>
      rw [q] at e
      cases e
      refine ⟨.list zs, fun s => ?_, by simpa only [PyData.showable] using a2, by simpa only [PyData.leavesShort] using a3, by simpa only [PyData.weight] using a4, by simpa only [PyData.depth] using a5⟩
      have e2 := a1 s
      simp only [toW] at e2
      show toW s (.lst ts) = _
      simp only [toW]
      cases q2 : toWs s ts with
      | none => rw [q2] at e2; cases e2
      | some ws =>
        rw [q2] at e2
        injection e2 with e2
        injection e2 with e2
        rw [e2]
  · exact ⟨nice_ab.mono (by omega) (by omega), nice_ab.mono (by omega) (by omega)⟩
  · exact ⟨nice_non.mono (by omega) (by omega), nice_non.mono (by omega) (by omega)⟩
  · exact ⟨nice_dict.mono (by omega) (by omega), nice_dict.mono (by omega) (by omega)⟩
theorem tbl_repr {LL : List (List PV)} (w : Nat) (h1 : LL.length ≤ 30) (h2 : ∀ is ∈ LL, is.length ≤ 150) (h3 : ∀ is ∈ LL, ∀ z ∈ is, Item z) : ∃ s : Str, ∀ mh, vRepr [tblW w LL] mh = .ok (.str s) mh := by
  have hl : ∀ x ∈ LL.map (lvW w), Nice x 12300 3 := fun x hx => by
    obtain ⟨is, hi, rfl⟩ := List.mem_map.mp hx
    have a1 := h2 is hi
    have a2 := h3 is hi
    unfold lvW
    split
    · exact (nice_seq false (w := 40) (d := 2) fun z hz => (item_nice (a2 z hz)).1).mono (by have := Nat.mul_le_mul_left 41 a1; omega) (by omega)
    · split
      · exact (nice_seq true (w := 40) (d := 2) (xs := is.map cv) fun z hz => by
          obtain ⟨y, hy, rfl⟩ := List.mem_map.mp hz
          exact (item_nice (a2 y hy)).2).mono (by rw [List.length_map]; have := Nat.mul_le_mul_left 41 a1; omega) (by omega)
      · exact (nice_seq true (w := 40) (d := 2) (xs := is.reverse ++ is) fun z hz => by
          rcases List.mem_append.mp hz with hz | hz
          · exact (item_nice (a2 z (List.mem_reverse.mp hz))).1
          · exact (item_nice (a2 z hz)).1).mono (by rw [List.length_append, List.length_reverse]; omega) (by omega)
  exact e_repr (nice_seq (w == 1) hl) (by rw [List.length_map]; have := Nat.mul_le_mul_left (12300 + 1) h1; have h20 : (2 : Nat) ^ 20 = 1048576 := by decide
                                          omega) (by omega)
end Lw

set_option Elab.async false
set_option linter.all false
set_option maxRecDepth 100000
namespace Lw
open PySem PySem.Spec L2 ML
theorem eq_small {a b : Nat} {mh : List PV} : vEq (.int (a : Nat)) (.int (b : Nat)) mh = .ok (.bl (decide (a = b))) mh := by
  rw [v_eq_int]
  congr 2
  by_cases h : a = b
  · subst h; simp
  · rw [decide_eq_false h]; simp; omega
theorem e_judged {al row other m : List _} {n k : Nat} {L : PV} {LL : List (List PV)} {due : Bool} (ha : AlOk al) (hr : RowOk al row) (ho : RowOk al other) (S : Sr m n k) (hk : k < 1000000) (hL : ∀ q, Lvls (m.set n q) L LL)
    (h1 : LL.length ≤ 30) (h2 : ∀ is ∈ LL, is.length ≤ 150) (h3 : ∀ is ∈ LL, ∀ z ∈ is, Item z) (hj : ∀ w, w < 3 → Jg row other none (LL.map (lvW w)) due) :
    ∃ q, F__law_judged [.loc n, .str (st al), .str (st row), .str (st other), L, .bl due] m = .ok (.bl true) (m.set n q) ∧ Sr (m.set n q) n (k + 1) := by
  obtain ⟨d, q, hd, hp, S'⟩ := pick (w := 3) S hk (by omega) (by omega)
  refine ⟨q, ?_, S'⟩
  have hL := hL q
  have hlen : (m.set n q).length = m.length := List.length_set
  generalize hM : m.set n q = M at *
  obtain ⟨s, hs⟩ := tbl_repr (LL := LL) d h1 h2 h3
  have hjd := e_judge ha hr ho (b := d == 1) (hj d hd) M
  have s6 : mSet 6 (mApp 2 F__law_pick (mCons (gv 0) (mCons (kv (.int 3)) mNil))) [some (.loc n), some (.str (st al)), some (.str (st row)), some (.str (st other)), some L, some (.bl due), none, none, none, none, none, none] m = .ok (.nx, [some (.loc n), some (.str (st al)), some (.str (st row)), some (.str (st other)), some L, some (.bl due), some (.int (d : Nat)), none, none, none, none, none]) M :=
    set_ok (app_ok (args2 rfl rfl) hp)
  have tst : ∀ j : Nat, mTest (mBin vEq (gv 6) (kv (.int (j : Nat)))) [some (.loc n), some (.str (st al)), some (.str (st row)), some (.str (st other)), some L, some (.bl due), some (.int (d : Nat)), none, none, none, none, none] M = .ok (decide (d = j)) M := fun j => test_ok (bin_ok rfl rfl eq_small)
  have t0 := tst 0
  have t1 := tst 1
  have s7 : (mIf (mTest (mBin vEq (gv 6) (kv (.int 0))))
 (mSet 7 (mCall vTuple (mCons (mComp (mIt (gv 4) srcL) (gSet 9) mYes (mCall vTuple (mCons (mComp (mIt (gv 9) srcL) (gSet 8) mYes (gv 8) [8]) mNil)) [9]) mNil)))
 (mIf (mTest (mBin vEq (gv 6) (kv (.int 1))))
 (mSet 7 (mComp (mIt (gv 4) srcL) (gSet 9) mYes (mComp (mIt (gv 9) srcL) (gSet 8) mYes (mIf (mTest (mIsi ["tuple"] (gv 8))) (mCall vList (mCons (gv 8) mNil)) (gv 8)) [8]) [9]))
 (mSet 7 (mCall vTuple (mCons (mComp (mIt (gv 4) srcL) (gSet 9) mYes (mBin vAdd (mListRev (mCall vList (mCons (gv 9) mNil))) (mCall vList (mCons (gv 9) mNil))) [9]) mNil))))) [some (.loc n), some (.str (st al)), some (.str (st row)), some (.str (st other)), some L, some (.bl due), some (.int (d : Nat)), none, none, none, none, none] M =
      .ok (.nx, [some (.loc n), some (.str (st al)), some (.str (st row)), some (.str (st other)), some L, some (.bl due), some (.int (d : Nat)), some (tblW d LL), none, none, none, none]) M := by
    by_cases d0 : d = 0
    · rw [decide_eq_true d0] at t0
      exact (if_t t0).trans (set_ok (by rw [d0]; exact tbl0 hL))
    · rw [decide_eq_false d0] at t0
      by_cases d1 : d = 1
      · rw [decide_eq_true d1] at t1
        exact (if_f t0).trans ((if_t t1).trans (set_ok (by rw [d1]; exact tbl1 hL h3)))
      · rw [decide_eq_false d1] at t1
        have d2 : d = 2 := by omega
        exact (if_f t0).trans ((if_f t1).trans (set_ok (by rw [d2]; exact tbl2 hL h2)))
  unfold F__law_judged g__law_judged
  generalize F_judge_levels = FJ at hjd ⊢
  generalize F__law_pick = FP at s6 ⊢
  have e10 := hs M
  have hend : mIf (mTest (gv 5)) (mBin (vIs false) (gv 11) (kv (.bl true))) (mBin (vIs false) (gv 11) (kv (.bl false))) [some (.loc n), some (.str (st al)), some (.str (st row)), some (.str (st other)), some L, some (.bl due), some (.int (d : Nat)), some (tblW d LL), none, none, some (.str s), some (.bl due)] M = .ok (.bl true) M := by
    cases due
    · exact (if_f (test_ok rfl)).trans (bin_ok rfl rfl rfl)
    · exact (if_t (test_ok rfl)).trans (bin_ok rfl rfl rfl)
  exact run_retm ((seq_nx s6).trans ((seq_nx s7).trans ((seq_nx (set_ok (call_ok (args1 rfl) e10))).trans ((seq_nx (set_ok (app_ok (cons_ok rfl (args3 rfl rfl rfl)) hjd))).trans
    ((seq_nx ((if_f (test_ok (bin_ok (call_ok (args1 rfl) e10) rfl (v_ne_str.trans (by rw [beq_self_eq_true]; rfl))))).trans rfl)).trans (ret_ok hend)))))) (fin_len hlen)
/-! ### levels of pairs -/
def memT (ps : List (Nat × Nat)) (k m : Nat) : Bool := decide ((k, m) ∈ ps)
def PairsOk (row other : List Nat) (ps : List (Nat × Nat)) : Prop := ∀ p ∈ ps, p.1 < row.length ∧ p.2 < other.length ∧ row[p.1]? = other[p.2]?
theorem tabOf_mem (ps : List (Nat × Nat)) : tabOf (fun _ _ => false) ps = memT ps := by
  funext k m
  rw [tabOf_eq, Bool.false_or]; rfl
theorem cv_pr (p : Nat × Nat) : cv (pr p) = seqI true [.int (p.1 : Nat), .int (p.2 : Nat)] := rfl
theorem lev_w {row other : List Nat} {ps : List (Nat × Nat)} (h : PairsOk row other ps) (w : Nat) : Lev row other (lvW w (ps.map pr)) (memT ps) := by
  have good : ∀ (b : Bool) (l : List (Nat × Nat)), (∀ p ∈ l, p ∈ ps) → LvOk row other (l.map fun p => seqI b [.int (p.1 : Nat), .int (p.2 : Nat)]) (fun _ _ => false) (tabOf (fun _ _ => false) l) := fun b l hl =>
    ok_of (by simp) fun i x p h1 h2 => by
      rw [List.getElem?_map, h2] at h1
      simp only [Option.map_some, Option.some.injEq] at h1
      obtain ⟨a1, a2, a3⟩ := h p (hl p (List.mem_of_getElem? h2))
      exact ⟨a1, a2, a3, b, h1.symm⟩
  unfold lvW
  split
  · refine ⟨false, _, rfl, ?_⟩
    have := good false ps fun _ h => h
    rw [tabOf_mem] at this
    exact this
  · split
    · refine ⟨true, _, rfl, ?_⟩
      have := good true ps fun _ h => h
      rw [tabOf_mem] at this
      rw [List.map_map]
      exact this
    · refine ⟨true, _, rfl, ?_⟩
      have := good false (ps.reverse ++ ps) fun p hp => by
        rcases List.mem_append.mp hp with h | h
        · exact List.mem_reverse.mp h
        · exact h
      rw [tabOf_mem, List.map_append] at this
      have e : memT (ps.reverse ++ ps) = memT ps := by
        funext k m
        unfold memT
        simp only [List.mem_append, List.mem_reverse, or_self]
      rw [e] at this
      have e2 : (ps.map pr).reverse ++ ps.map pr = ps.reverse.map (fun p => seqI false [.int (p.1 : Nat), .int (p.2 : Nat)]) ++ ps.map fun p => seqI false [.int (p.1 : Nat), .int (p.2 : Nat)] := by
        rw [← List.map_reverse]; rfl
      rw [e2]
      exact this
theorem levs_w {row other : List Nat} (w : Nat) : ∀ {pss : List (List (Nat × Nat))}, (∀ ps ∈ pss, PairsOk row other ps) → Levs row other ((pss.map (·.map pr)).map (lvW w)) (pss.map memT)
  | [], _ => .nil
  | ps :: pss, h => .cons (lev_w (h ps (List.mem_cons_self ..)) w) (levs_w w fun z hz => h z (List.mem_cons_of_mem _ hz))
/-- whether each level is answered by the one ahead of it -/
def good (r c : Nat) : List (List (Nat × Nat)) → Bool
  | [] => true
  | ps :: pss => chain r c (memT ps) (pss.map memT)
theorem jg_good {row other : List Nat} {pss : List (List (Nat × Nat))} (h : ∀ ps ∈ pss, PairsOk row other ps) (w : Nat) : Jg row other none ((pss.map (·.map pr)).map (lvW w)) (good row.length other.length pss) := by
  cases pss with
  | nil => exact .nil
  | cons ps pss => exact jg_all (lev_w (h ps (List.mem_cons_self ..)) w) (levs_w w fun z hz => h z (List.mem_cons_of_mem _ hz))
/-- a level with a bad thing at its end -/
theorem lvBad_app {row other : List Nat} {x : PV} {ys : List PV} (hx : Bad row.length other.length x) (b : Bool) : ∀ {ps : List (Nat × Nat)}, PairsOk row other ps → LvBad row other ((ps.map fun p => seqI b [.int (p.1 : Nat), .int (p.2 : Nat)]) ++ x :: ys)
  | [], _ => .here hx
  | p :: ps, h => by
    obtain ⟨a1, a2, a3⟩ := h p (List.mem_cons_self ..)
    exact .cons ⟨a1, a2, a3, b, rfl⟩ (lvBad_app hx b fun z hz => h z (List.mem_cons_of_mem _ hz))
theorem lvBad_w {row other : List Nat} {ps : List (Nat × Nat)} {x : PV} (h : PairsOk row other ps) (hx : Bad row.length other.length x) (hx2 : Bad row.length other.length (cv x)) (w : Nat) : ∃ b items, lvW w (ps.map pr ++ [x]) = seqI b items ∧ LvBad row other items := by
  unfold lvW
  split
  · exact ⟨false, _, rfl, lvBad_app hx false h⟩
  · split
    · refine ⟨true, _, rfl, ?_⟩
      rw [List.map_append, List.map_map]
      exact lvBad_app hx2 true h
    · refine ⟨true, _, rfl, ?_⟩
      rw [List.reverse_append]
      exact .here hx
theorem jg_odd {row other : List Nat} {pss pss2 : List (List (Nat × Nat))} {ps : List (Nat × Nat)} {x : PV} (h : ∀ z ∈ pss, PairsOk row other z) (hp : PairsOk row other ps) (hx : Bad row.length other.length x) (hx2 : Bad row.length other.length (cv x)) (w : Nat) :
    Jg row other none ((pss.map (·.map pr) ++ (ps.map pr ++ [x]) :: pss2.map (·.map pr)).map (lvW w)) false := by
  rw [List.map_append, List.map_cons]
  exact jg_bad (lvBad_w hp hx hx2 w) (levs_w w h)
theorem item_pr {p : Nat × Nat} (h : p.1 ≤ 1000 ∧ p.2 ≤ 1000) : Item (pr p) := by
  refine .inl ⟨_, rfl, ?_⟩
  exact (nice_seq false (w := 10) (d := 0) (xs := [.int (p.1 : Nat), .int (p.2 : Nat)]) fun z hz => by
    rcases List.mem_cons.mp hz with rfl | hz
    · exact nice_int (by omega) (by omega)
    · rw [List.mem_singleton.mp hz]
      exact nice_int (by omega) (by omega)).mono (by simp) (by omega)
end Lw

set_option Elab.async false
set_option linter.all false
set_option maxRecDepth 100000
namespace Lw
open PySem PySem.Spec L2 ML
/-! ### sorted letters -/
def insN (x : Nat) : List Nat → List Nat
  | [] => [x]
  | y :: r => if x ≤ y then x :: y :: r else y :: insN x r
def sortN : List Nat → List Nat
  | [] => []
  | x :: r => insN x (sortN r)
theorem insN_perm (x : Nat) : ∀ l : List Nat, (insN x l).Perm (x :: l)
  | [] => .refl _
  | y :: r => by
    unfold insN
    split
    · exact .refl _
    · exact ((insN_perm x r).cons y).trans (.swap x y r)
theorem sortN_perm : ∀ l : List Nat, (sortN l).Perm l
  | [] => .refl _
  | x :: r => (insN_perm x (sortN r)).trans ((sortN_perm r).cons x)
theorem insN_pw {x : Nat} : ∀ {l : List Nat}, l.Pairwise (· ≤ ·) → (insN x l).Pairwise (· ≤ ·)
  | [], _ => by simp [insN]
  | y :: r, h => by
    unfold insN
    obtain ⟨h1, h2⟩ := List.pairwise_cons.mp h
    split
    · next hxy =>
      refine List.pairwise_cons.mpr ⟨fun z hz => ?_, h⟩
      rcases List.mem_cons.mp hz with rfl | hz
      · exact hxy
      · exact Nat.le_trans hxy (h1 z hz)
    · next hxy =>
      refine List.pairwise_cons.mpr ⟨fun z hz => ?_, insN_pw h2⟩
      rcases List.mem_cons.mp ((insN_perm x r).mem_iff.mp hz) with rfl | hz
      · omega
      · exact h1 z hz
theorem sortN_pw : ∀ l : List Nat, (sortN l).Pairwise (· ≤ ·)
  | [] => .nil
  | x :: r => insN_pw (sortN_pw r)
def sgn (c : Nat) : Str := ⟨#[c]⟩
def sg (l : List Nat) : List PV := l.map fun c => .str (sgn c)
theorem leS_sgn {a b : Nat} : leS (sgn a) (sgn b) = decide (a ≤ b) := by
  show (!decide ([b] < [a])) = _
  by_cases h : b < a
  · rw [decide_eq_true (show [b] < [a] from List.Lex.rel h), decide_eq_false (by omega)]; rfl
  · have : ¬ [b] < [a] := by
      intro h2
      cases h2 with
      | rel h3 => exact h h3
      | cons h3 => cases h3
    rw [decide_eq_false this, decide_eq_true (by omega)]; rfl
theorem ins_sgn (x : Nat) : ∀ l : List Nat, insS (sgn x) (l.map sgn) = (insN x l).map sgn
  | [] => rfl
  | y :: r => by
    rw [List.map_cons, insS, leS_sgn, insN]
    by_cases h : x ≤ y
    · rw [if_pos (decide_eq_true h), if_pos h]; rfl
    · rw [if_neg (by simpa using h), if_neg h, ins_sgn x r]; rfl
theorem isort_sgn : ∀ l : List Nat, isort (l.map sgn) = (sortN l).map sgn
  | [] => rfl
  | x :: r => by rw [List.map_cons, isort, isort_sgn r, ins_sgn]; rfl
theorem strs_sg : ∀ l : List Nat, strsP (sg l) = some (l.map sgn)
  | [] => rfl
  | c :: l => by
    show (strsP (sg l)).map (sgn c :: ·) = _
    rw [strs_sg l]; rfl
theorem st_app (a b : List Nat) : st a ++ st b = st (a ++ b) := by
  show (⟨⟨a⟩ ++ ⟨b⟩⟩ : Str) = ⟨⟨a ++ b⟩⟩
  rw [List.append_toArray]
theorem join_sgn (l : List Nat) : Txt.join "" (l.map sgn) = st l := by
  unfold Txt.join
  rw [StrLaws.glued_eq_join]
  have e0 : ("" : Str) = st [] := by decide +kernel
  rw [e0]
  have key : ∀ l : List Nat, Str.join (st []) (l.map sgn) = st l := fun l => by
    induction l with
    | nil => rfl
    | cons c l ih =>
      cases l with
      | nil => rfl
      | cons d l =>
        show sgn c ++ st [] ++ Str.join (st []) ((d :: l).map sgn) = _
        rw [ih]
        show st [c] ++ st [] ++ st (d :: l) = _
        rw [st_app, st_app]; rfl
  exact key l
theorem join_ok {l : List Nat} {m : List PV} {x : PV} (h : seqR m x = some (sg l)) (hl : l.length ≤ 1000) : vJoin (.str "") [x] m = .ok (.str (st l)) m := by
  show (match seqR m x with
    | some ts => (match strsP ts with
      | some ss => if (ss.map fun z : Str => z.length).sum + ss.length * ("" : Str).length ≤ 16777216 then Rs.ok (PV.str (Txt.join "" ss)) m else .no
      | none => .no)
    | none => .no) = _
  rw [h]
  show (match strsP (sg l) with
      | some ss => if (ss.map fun z : Str => z.length).sum + ss.length * ("" : Str).length ≤ 16777216 then Rs.ok (PV.str (Txt.join "" ss)) m else .no
      | none => .no) = _
  rw [strs_sg]
  have e : ((l.map sgn).map fun z : Str => z.length).sum = l.length := by
    rw [List.map_map]
    clear hl h
    induction l with
    | nil => rfl
    | cons c l ih => rw [List.map_cons, List.sum_cons, ih, List.length_cons]; show 1 + _ = _; omega
  have e2 : ("" : Str).length = 0 := by decide +kernel
  show (if ((l.map sgn).map fun z : Str => z.length).sum + (l.map sgn).length * ("" : Str).length ≤ 16777216 then Rs.ok (PV.str (Txt.join "" (l.map sgn))) m else .no) = _
  rw [e, e2, if_pos (by omega), join_sgn]
theorem sorted_ok {l : List Nat} {m : List PV} {x : PV} (h : seqR m x = some (sg l)) (hl : l.length < 64) : vSortedS [x] m = .ok (.lst (sg (sortN l))) m := by
  show (match seqR m x with
    | some ts => (match strsP ts with
      | some ss => if ss.length < 64 then Rs.ok (PV.lst ((isort ss).map .str)) m else .no
      | none => .no)
    | none => .no) = _
  rw [h]
  show (match strsP (sg l) with
      | some ss => if ss.length < 64 then Rs.ok (PV.lst ((isort ss).map .str)) m else .no
      | none => .no) = _
  rw [strs_sg]
  show (if (l.map sgn).length < 64 then Rs.ok (PV.lst ((isort (l.map sgn)).map .str)) m else .no) = _
  rw [if_pos (by rw [List.length_map]; exact hl), isort_sgn, List.map_map]
  rfl
/-! ### _law_wide -/
theorem al_of {l : List Nat} (h1 : 1 ≤ l.length) (h2 : l.length ≤ 8) (h3 : ∀ c ∈ l, 97 ≤ c ∧ c ≤ 104) (h4 : l.Nodup) : AlOk (sortN l) := by
  have hp := sortN_perm l
  refine ⟨by rw [hp.length_eq]; exact h1, by rw [hp.length_eq]; exact h2, fun c hc => h3 c (hp.mem_iff.mp hc), fun k a b ha hb => ?_⟩
  have hn : (sortN l).Nodup := hp.nodup_iff.mpr h4
  have hw := sortN_pw l
  obtain ⟨i1, e1⟩ := List.getElem?_eq_some_iff.mp ha
  obtain ⟨i2, e2⟩ := List.getElem?_eq_some_iff.mp hb
  have q1 := List.pairwise_iff_getElem.mp hw k (k + 1) i1 i2 (by omega)
  have q2 := List.pairwise_iff_getElem.mp hn k (k + 1) i1 i2 (by omega)
  rw [e1, e2] at q1 q2
  omega
theorem len_loc {m : List PV} {n : Nat} {ts : List PV} (h : m[n]? = some (.lst ts)) : vLen [.loc n] m = .ok (.int (ts.length : Nat)) m := by
  show (match seqR m (.loc n) with
    | some ts => Rs.ok (PV.int ts.length) m
    | none => .no) = _
  have : seqR m (.loc n) = some ts := by
    show (match m[n]? with
      | some (.lst ts) => some ts
      | _ => none) = _
    rw [h]
  rw [this]
theorem pop_loc {m : List PV} {n d : Nat} {ts : List PV} {y : PV} (h : m[n]? = some (.lst ts)) (hl : ts.length < 1000) (hy : ts[d]? = some y) : vPop (.loc n) [.int (d : Nat)] m = .ok y (m.set n (.lst (ts.eraseIdx d))) := by
  have hd : d < ts.length := (List.getElem?_eq_some_iff.mp hy).1
  have e : locL m (.loc n) = some (n, ts) := by
    show (match m[n]? with
      | some (.lst ts) => some (n, ts)
      | _ => none) = _
    rw [h]
  unfold vPop
  simp only [e]
  rw [if_pos ⟨by omega, by omega⟩, seqIndex_of (by omega) (by omega)]
  show (match ts[((d : Nat) : Int).toNat]? with
          | some y => Rs.ok y (m.set n (.lst (ts.eraseIdx ((d : Nat) : Int).toNat)))
          | none => .no) = _
  rw [Int.toNat_natCast, hy]
theorem app_loc {m : List PV} {n : Nat} {ts : List PV} {y : PV} (h : m[n]? = some (.lst ts)) (hl : ts.length < 1000) : vAppend (.loc n) [y] m = .ok .non (m.set n (.lst (ts ++ [y]))) := by
  show (match locL m (.loc n), [y] with
    | some (n, ts), [y] => if ts.length < sizeLine then Rs.ok PV.non (m.set n (.lst (ts ++ [y]))) else .no
    | _, _ => .no) = _
  have e : locL m (.loc n) = some (n, ts) := by
    show (match m[n]? with
      | some (.lst ts) => some (n, ts)
      | _ => none) = _
    rw [h]
  rw [e]
  show (if ts.length < sizeLine then Rs.ok PV.non (m.set n (.lst (ts ++ [y]))) else .no) = _
  rw [if_pos (by rw [sizeLine_eq]; omega)]
theorem ty_loc {m : List PV} {n : Nat} {ts : List PV} (h : m[n]? = some (.lst ts)) : tyB "list" m (.loc n) = true := by
  show (seqR m (.loc n)).isSome = true
  show (match m[n]? with
      | some (.lst ts) => some ts
      | _ => none).isSome = true
  rw [h]; rfl
end Lw

set_option Elab.async false
set_option linter.all false
set_option maxRecDepth 100000
namespace Lw
open PySem PySem.Spec L2 ML
/-- a def's end: the source moved on, objects made -/
theorem fin_upz {mh ex : List PV} {n k : Nat} {q x z : PV} (S : Sr (mh.set n q) n k) (hz : frz (mh.set n q ++ ex) mh.length x = some z) (hx : ex ≠ []) : fin mh x (mh.set n q ++ ex) = .ok z (mh.set n q) := by
  have hl : (mh.set n q).length = mh.length := List.length_set
  unfold fin
  rw [if_neg (fun e => hx (List.length_eq_zero_iff.mp (by rw [List.length_append, hl] at e; omega))), if_pos (fun i hi => ?_), hz]
  · show Rs.ok z ((mh.set n q ++ ex).take mh.length) = _
    rw [← hl, List.take_left]
  · rw [List.getElem?_append_left (by rw [hl]; exact hi)]
    by_cases h : i = n
    · subst h
      refine .inr fun o ho => ?_
      obtain ⟨a, b, c, S⟩ := S
      rw [S.at_] at ho
      cases ho
      rfl
    · exact .inl (List.getElem?_set_ne (fun e => h e.symm))
theorem fin_up {mh ex : List PV} {n k : Nat} {q x : PV} (S : Sr (mh.set n q) n k) (hx : lf x = true) : fin mh x (mh.set n q ++ ex) = .ok x (mh.set n q) := by
  by_cases h : ex = []
  · subst h; rw [List.append_nil]; exact fin_len List.length_set
  · exact fin_upz S (sub_lf x hx) h
abbrev wdB (P : List PV → M PV) : LS → M (Out × LS) := (mDrop (mMeth "list" vAppend (gv 5) (mCons (mMeth "list" vPop (gv 4) (mCons (mApp 2 P (mCons (gv 0) (mCons (mCall vLen (mCons (gv 4) mNil)) mNil))) mNil)) mNil)))
theorem erase_map {α β : Type} (f : α → β) : ∀ (l : List α) (i : Nat), (l.map f).eraseIdx i = (l.eraseIdx i).map f
  | [], _ => rfl
  | x :: l, 0 => rfl
  | x :: l, i + 1 => by
    show f x :: (l.map f).eraseIdx i = f x :: (l.eraseIdx i).map f
    rw [erase_map f l i]
theorem perm_erase : ∀ {l : List Nat} {d c : Nat}, l[d]? = some c → l.Perm (c :: l.eraseIdx d)
  | [], _, _, h => by simp at h
  | x :: l, 0, c, h => by simp at h; subst h; exact .refl _
  | x :: l, d + 1, c, h => by
    have := perm_erase (l := l) (d := d) (c := c) (by simpa using h)
    exact (this.cons x).trans (.swap c x _)
theorem perm_pop {l1 l2 : List Nat} {d c : Nat} (h : l1[d]? = some c) : (l1.eraseIdx d ++ (l2 ++ [c])).Perm (l1 ++ l2) := by
  have h1 : l1.Perm (c :: l1.eraseIdx d) := perm_erase h
  have h2 : (l1 ++ l2).Perm (c :: l1.eraseIdx d ++ l2) := h1.append_right l2
  refine (List.Perm.trans ?_ h2.symm)
  rw [← List.append_assoc]
  exact List.perm_append_singleton c _
theorem wd_loop {n : Nat} {a1 a2 a3 : Option PV} : ∀ (xs : List PV) (B : List PV) (k : Nat) (l1 l2 : List Nat) (a6 : Option PV), Sr B n k → k + xs.length < 1000000 → xs.length ≤ l1.length → l1.length + l2.length ≤ 100 →
    ∃ q l1' l2' b6, loopL (gSet 6) (wdB F__law_pick) xs [some (.loc n), a1, a2, a3, some (.loc B.length), some (.loc (B.length + 1)), a6] (B ++ [PV.lst (sg l1), .lst (sg l2)]) =
      .ok (.nx, [some (.loc n), a1, a2, a3, some (.loc B.length), some (.loc (B.length + 1)), b6]) (B.set n q ++ [PV.lst (sg l1'), .lst (sg l2')]) ∧ Sr (B.set n q) n (k + xs.length) ∧ l2'.length = l2.length + xs.length ∧ (l1' ++ l2').Perm (l1 ++ l2)
  | [], B, k, l1, l2, a6, S, _, _, _ => by
    obtain ⟨a, b, c, S0⟩ := id S
    have e : B.set n (.lst [.int a, .int b, .int c]) = B := by
      obtain ⟨h1, h2⟩ := List.getElem?_eq_some_iff.mp S0.at_
      rw [← h2, List.set_getElem_self]
    exact ⟨.lst [.int a, .int b, .int c], l1, l2, a6, by rw [e]; rfl, by rw [e]; exact S, rfl, .refl _⟩
  | x :: xs, B, k, l1, l2, a6, S, hk, hx, hl => by
    have hx : xs.length + 1 ≤ l1.length := hx
    have hk : k + (xs.length + 1) < 1000000 := hk
    have g4 : (B ++ [PV.lst (sg l1), .lst (sg l2)])[B.length]? = some (.lst (sg l1)) := by rw [List.getElem?_append_right (Nat.le_refl _), Nat.sub_self]; rfl
    have hsg : ∀ l : List Nat, (sg l).length = l.length := fun l => by unfold sg; rw [List.length_map]
    obtain ⟨d, q, hd, hp, S'⟩ := pick (w := l1.length) (S.app [PV.lst (sg l1), .lst (sg l2)]) (by omega) (by omega) (by omega)
    have hset : (B ++ [PV.lst (sg l1), .lst (sg l2)]).set n q = B.set n q ++ [PV.lst (sg l1), .lst (sg l2)] := List.set_append_left _ _ S.lt
    rw [hset] at hp S'
    have hB : (B.set n q).length = B.length := List.length_set
    have S2 : Sr (B.set n q) n (k + 1) := S'.of (by rw [List.getElem?_append_left (by rw [hB]; exact S.lt)])
    have g4' : (B.set n q ++ [PV.lst (sg l1), .lst (sg l2)])[B.length]? = some (.lst (sg l1)) := by rw [← hB, List.getElem?_append_right (Nat.le_refl _), Nat.sub_self]; rfl
    have hc : l1[d]? = some l1[d] := List.getElem?_eq_getElem hd
    have hc2 : (sg l1)[d]? = some (.str (sgn l1[d])) := by unfold sg; rw [List.getElem?_map, hc]; rfl
    have e1 : (B.set n q ++ [PV.lst (sg l1), .lst (sg l2)]).set B.length (.lst ((sg l1).eraseIdx d)) = B.set n q ++ [PV.lst (sg (l1.eraseIdx d)), .lst (sg l2)] := by
      rw [← hB, List.set_append_right _ _ (Nat.le_refl _), Nat.sub_self]
      show B.set n q ++ [PV.lst ((sg l1).eraseIdx d), .lst (sg l2)] = _
      unfold sg
      rw [erase_map]
    have g5 : (B.set n q ++ [PV.lst (sg (l1.eraseIdx d)), .lst (sg l2)])[B.length + 1]? = some (.lst (sg l2)) := by rw [← hB, List.getElem?_append_right (by omega), Nat.add_sub_cancel_left]; rfl
    have g5b : (B ++ [PV.lst (sg l1), .lst (sg l2)])[B.length + 1]? = some (.lst (sg l2)) := by rw [List.getElem?_append_right (by omega), Nat.add_sub_cancel_left]; rfl
    have e2 : (B.set n q ++ [PV.lst (sg (l1.eraseIdx d)), .lst (sg l2)]).set (B.length + 1) (.lst (sg l2 ++ [.str (sgn l1[d])])) = B.set n q ++ [PV.lst (sg (l1.eraseIdx d)), .lst (sg (l2 ++ [l1[d]]))] := by
      rw [← hB, List.set_append_right _ _ (by omega), Nat.add_sub_cancel_left]
      show B.set n q ++ [PV.lst (sg (l1.eraseIdx d)), .lst (sg l2 ++ [.str (sgn l1[d])])] = _
      unfold sg
      rw [List.map_append]; rfl
    have hpop : mMeth "list" vPop (gv 4) (mCons (mApp 2 F__law_pick (mCons (gv 0) (mCons (mCall vLen (mCons (gv 4) mNil)) mNil))) mNil) [some (.loc n), a1, a2, a3, some (.loc B.length), some (.loc (B.length + 1)), some x] (B ++ [PV.lst (sg l1), .lst (sg l2)]) = .ok (.str (sgn l1[d])) (B.set n q ++ [PV.lst (sg (l1.eraseIdx d)), .lst (sg l2)]) := by
      refine meth_ok rfl (ty_loc g4) (args1 (app_ok (args2 rfl (call_ok (args1 rfl) ((len_loc g4).trans (by rw [hsg])))) hp)) ?_
      rw [pop_loc g4' (by rw [hsg]; omega) hc2, e1]
    have hb : wdB F__law_pick [some (.loc n), a1, a2, a3, some (.loc B.length), some (.loc (B.length + 1)), some x] (B ++ [PV.lst (sg l1), .lst (sg l2)]) = .ok (.nx, [some (.loc n), a1, a2, a3, some (.loc B.length), some (.loc (B.length + 1)), some x]) (B.set n q ++ [PV.lst (sg (l1.eraseIdx d)), .lst (sg (l2 ++ [l1[d]]))]) := by
      refine drop_ok (x := .non) (meth_ok rfl (ty_loc g5b) (args1 hpop) ?_)
      rw [app_loc g5 (by rw [hsg]; omega), e2]
    obtain ⟨q', l1', l2', b6, h1, h2, h3, h4⟩ := wd_loop (n := n) (a1 := a1) (a2 := a2) (a3 := a3) xs (B.set n q) (k + 1) (l1.eraseIdx d) (l2 ++ [l1[d]]) (some x) S2 (by omega) (by rw [List.length_eraseIdx_of_lt hd]; omega) (by rw [List.length_eraseIdx_of_lt hd, List.length_append]; show _ + (_ + 1) ≤ _; omega)
    rw [hB, List.set_set] at h1
    rw [List.set_set] at h2
    refine ⟨q', l1', l2', b6, (loop_nx rfl hb).trans h1, h2.le (by rw [List.length_cons]; omega), by rw [h3]; simp only [List.length_append, List.length_cons, List.length_nil]; omega, h4.trans (perm_pop hc)⟩
theorem e_wide {m : List PV} {n k a b : Nat} (S : Sr m n k) (hk : k + 20 < 1000000) (ha : 1 ≤ a) (hab : a ≤ b) (hb : b ≤ 8) :
    ∃ al q, F__law_wide [.loc n, .int (a : Nat), .int (b : Nat)] m = .ok (.str (st al)) (m.set n q) ∧ Sr (m.set n q) n (k + 9) ∧ AlOk al ∧ a ≤ al.length ∧ al.length ≤ b := by
  obtain ⟨d, q, hd, hp, S'⟩ := pick (w := b - a + 1) S (by omega) (by omega) (by omega)
  have hm : (m.set n q).length = m.length := List.length_set
  have s3 : mSet 3 (mBin vAdd (gv 1) (mApp 2 F__law_pick (mCons (gv 0) (mCons (mBin vAdd (mBin vSub (gv 2) (gv 1)) (kv (.int 1))) mNil)))) [some (.loc n), some (.int (a : Nat)), some (.int (b : Nat)), none, none, none, none] m = .ok (.nx, [some (.loc n), some (.int (a : Nat)), some (.int (b : Nat)), some (.int ((a + d : Nat) : Int)), none, none, none]) (m.set n q) := by
    refine set_ok (bin_ok rfl (app_ok (args2 (y := .int ((b - a + 1 : Nat) : Int)) rfl (bin_ok (bin_ok rfl rfl rfl) rfl ?_)) hp) rfl)
    rw [v_add]
    congr 2
    omega
  have s4 : mSet 4 (mCall vListSL (mCons (kv (.str "abcdefgh")) mNil)) [some (.loc n), some (.int (a : Nat)), some (.int (b : Nat)), some (.int ((a + d : Nat) : Int)), none, none, none] (m.set n q) = .ok (.nx, [some (.loc n), some (.int (a : Nat)), some (.int (b : Nat)), some (.int ((a + d : Nat) : Int)), some (.loc (m.set n q).length), none, none]) (m.set n q ++ [PV.lst (sg [97, 98, 99, 100, 101, 102, 103, 104])]) := by
    refine set_ok (call_ok (args1 rfl) ?_)
    rw [abc_eq]
    have e : vListSL [.str (st [97, 98, 99, 100, 101, 102, 103, 104])] (m.set n q) = (if (st [97, 98, 99, 100, 101, 102, 103, 104]).cps.size ≤ sizeLine then putL true (signs (st [97, 98, 99, 100, 101, 102, 103, 104])) (m.set n q) else Rs.no) := rfl
    rw [e, if_pos (by show (8 : Nat) ≤ sizeLine; rw [sizeLine_eq]; omega)]
    rfl
  have s5 : mSet 5 (mLoc mNil) [some (.loc n), some (.int (a : Nat)), some (.int (b : Nat)), some (.int ((a + d : Nat) : Int)), some (.loc (m.set n q).length), none, none] (m.set n q ++ [PV.lst (sg [97, 98, 99, 100, 101, 102, 103, 104])]) = .ok (.nx, [some (.loc n), some (.int (a : Nat)), some (.int (b : Nat)), some (.int ((a + d : Nat) : Int)), some (.loc (m.set n q).length), some (.loc ((m.set n q).length + 1)), none]) (m.set n q ++ [PV.lst (sg [97, 98, 99, 100, 101, 102, 103, 104]), PV.lst (sg [])]) := by
    have := loc_ok (fs := mNil) (τ := [some (.loc n), some (.int (a : Nat)), some (.int (b : Nat)), some (.int ((a + d : Nat) : Int)), some (.loc (m.set n q).length), none, none]) (mh := m.set n q ++ [PV.lst (sg [97, 98, 99, 100, 101, 102, 103, 104])]) (xs := []) rfl (by simp)
    rw [List.length_append, List.append_assoc] at this
    exact set_ok this
  obtain ⟨q', l1, l2, b6, h1, h2, h3, h4⟩ := wd_loop (n := n) (a1 := some (.int (a : Nat))) (a2 := some (.int (b : Nat))) (a3 := some (.int ((a + d : Nat) : Int))) ((List.range (a + d)).map fun i => .int (i : Nat)) (m.set n q) (k + 1) [97, 98, 99, 100, 101, 102, 103, 104] [] none S' (by simp; omega) (by simp; omega) (by simp)
  rw [List.set_set] at h1 h2
  have hlen : l2.length = a + d := by rw [h3]; simp
  have hperm : (l1 ++ l2).Perm [97, 98, 99, 100, 101, 102, 103, 104] := h4
  have hnd : l2.Nodup := by
    have : (l1 ++ l2).Nodup := hperm.nodup_iff.mpr (by decide)
    exact (List.nodup_append.mp this).2.1
  have habc : ∀ c ∈ l2, 97 ≤ c ∧ c ≤ 104 := fun c hc => by
    have : c ∈ [97, 98, 99, 100, 101, 102, 103, 104] := hperm.mem_iff.mp (List.mem_append.mpr (.inr hc))
    simp at this
    omega
  have hso : (sortN l2).length = a + d := by rw [(sortN_perm l2).length_eq, hlen]
  refine ⟨sortN l2, q', ?_, h2.le (by simp; omega), al_of (by omega) (by omega) habc hnd, by omega, by omega⟩
  have hB : (m.set n q').length = m.length := List.length_set
  have g5 : (m.set n q' ++ [PV.lst (sg l1), PV.lst (sg l2)])[m.length + 1]? = some (.lst (sg l2)) := by rw [← hB, List.getElem?_append_right (by omega), Nat.add_sub_cancel_left]; rfl
  have g5r : seqR (m.set n q' ++ [PV.lst (sg l1), PV.lst (sg l2)]) (.loc (m.length + 1)) = some (sg l2) := by
    show (match (m.set n q' ++ [PV.lst (sg l1), PV.lst (sg l2)])[m.length + 1]? with
      | some (.lst ts) => some ts
      | _ => none) = _
    rw [g5]
  have hfor : mFor (mItA (mCons (gv 3) mNil) srcR1) (gSet 6) (wdB F__law_pick) [some (.loc n), some (.int (a : Nat)), some (.int (b : Nat)), some (.int ((a + d : Nat) : Int)), some (.loc (m.set n q).length), some (.loc ((m.set n q).length + 1)), none] (m.set n q ++ [PV.lst (sg [97, 98, 99, 100, 101, 102, 103, 104]), PV.lst (sg [])]) = _ := (for_src (itA_ok (args1 rfl) (src_rng (by omega))) (is_rng _)).trans h1
  rw [hm] at hfor s5 s4
  have hret : mRet (mMeth "str" vJoin (kv (.str "")) (mCons (mCall vSortedS (mCons (gv 5) mNil)) mNil)) [some (.loc n), some (.int (a : Nat)), some (.int (b : Nat)), some (.int ((a + d : Nat) : Int)), some (.loc m.length), some (.loc (m.length + 1)), b6] (m.set n q' ++ [PV.lst (sg l1), PV.lst (sg l2)]) =
      .ok (.ret (.str (st (sortN l2))), [some (.loc n), some (.int (a : Nat)), some (.int (b : Nat)), some (.int ((a + d : Nat) : Int)), some (.loc m.length), some (.loc (m.length + 1)), b6]) (m.set n q' ++ [PV.lst (sg l1), PV.lst (sg l2)]) :=
    ret_ok (meth_ok rfl rfl (args1 (call_ok (args1 rfl) (sorted_ok g5r (by omega)))) (join_ok (x := .lst (sg (sortN l2))) rfl (by omega)))
  unfold F__law_wide g__law_wide
  exact run_retm ((seq_nx s3).trans ((seq_nx s4).trans ((seq_nx s5).trans ((seq_nx hfor).trans hret)))) (fin_up h2 rfl)
end Lw

set_option Elab.async false
set_option linter.all false
set_option maxRecDepth 100000
namespace Lw
open PySem PySem.Spec L2 ML
/-! ### data that are compared -/
structure Da (x : PV) (z : PyData) (d : Nat) : Prop where
  to : ∀ s, toD s x = some z
  lay : PyData.canLay0 z = true
  dep : z.depth ≤ d
theorem toDs_map {α : Type} {f : α → PV} {g : α → PyData} : ∀ (l : List α), (∀ a ∈ l, ∀ s, toD s (f a) = some (g a)) → ∀ s, toDs s (l.map f) = some (l.map g)
  | [], _, s => by simp only [List.map_nil, toDs]
  | a :: l, h, s => by
    simp only [List.map_cons, toDs, h a (List.mem_cons_self ..) s, toDs_map l (fun b hb => h b (List.mem_cons_of_mem _ hb)) s]
theorem lay_map {α : Type} {g : α → PyData} : ∀ (l : List α), (∀ a ∈ l, PyData.canLay0 (g a) = true) → PyData.canLayAll0 (l.map g) = true
  | [], _ => by simp only [List.map_nil, PyData.canLayAll0]
  | a :: l, h => by
    simp only [List.map_cons, PyData.canLayAll0, h a (List.mem_cons_self ..), lay_map l fun b hb => h b (List.mem_cons_of_mem _ hb), Bool.and_self]
theorem dep_map {α : Type} {g : α → PyData} {d : Nat} : ∀ (l : List α), (∀ a ∈ l, (g a).depth ≤ d) → PyData.depthAll (l.map g) ≤ d
  | [], _ => by simp only [List.map_nil, PyData.depthAll]; omega
  | a :: l, h => by
    have h1 := h a (List.mem_cons_self ..)
    have h2 := dep_map l fun b hb => h b (List.mem_cons_of_mem _ hb)
    simp only [List.map_cons, PyData.depthAll]; omega
section
variable {α : Type} {f : α → PV} {g : α → PyData} {l : List α} {d : Nat}
theorem Da.lst (h : ∀ a ∈ l, Da (f a) (g a) d) : Da (.lst (l.map f)) (.list (l.map g)) (d + 1) := by
  refine ⟨fun s => ?_, ?_, ?_⟩
  · simp only [toD, toDs_map l (fun a ha => (h a ha).to) s]
  · simp only [PyData.canLay0]; exact lay_map l fun a ha => (h a ha).lay
  · simp only [PyData.depth]; have := dep_map l fun a ha => (h a ha).dep; omega
theorem Da.tup (h : ∀ a ∈ l, Da (f a) (g a) d) : Da (.tup (l.map f)) (.tuple (l.map g)) (d + 1) := by
  refine ⟨fun s => ?_, ?_, ?_⟩
  · simp only [toD, toDs_map l (fun a ha => (h a ha).to) s]
  · simp only [PyData.canLay0]; exact lay_map l fun a ha => (h a ha).lay
  · simp only [PyData.depth]; have := dep_map l fun a ha => (h a ha).dep; omega
end
theorem Da.bl (b : Bool) : Da (.bl b) (.bool b) 0 := ⟨fun s => by simp only [toD], by simp only [PyData.canLay0], by simp only [PyData.depth]; omega⟩
theorem Da.int (i : Int) : Da (.int i) (.int i) 0 := ⟨fun s => by simp only [toD], by simp only [PyData.canLay0], by simp only [PyData.depth]; omega⟩
theorem Da.shaped {x : PV} {z : PyData} {d : Nat} (h : Da x z d) (hd : d ≤ 60) : SeqAt.shaped z = true := by
  unfold SeqAt.shaped
  rw [h.lay, decide_eq_true (by have := h.dep; omega)]; rfl
theorem veq_da {x y : PV} {z w : PyData} {d e : Nat} {mh : List PV} (h1 : Da x z d) (h2 : Da y w e) (hd : d ≤ 60) (he : e ≤ 60) : vEq x y mh = .ok (.bl (PyData.eqv z w)) mh :=
  veq_of (h1.to _) (h2.to _) (h1.shaped hd) (h2.shaped he) rfl
theorem vne_da {x y : PV} {z w : PyData} {d e : Nat} {mh : List PV} (h1 : Da x z d) (h2 : Da y w e) (hd : d ≤ 60) (he : e ≤ 60) : vNe x y mh = .ok (.bl (!PyData.eqv z w)) mh :=
  vne_of (h1.to _) (h2.to _) (h1.shaped hd) (h2.shaped he) rfl
theorem eqvAll_same {α : Type} {F G : α → PyData} : ∀ l : List α, PyData.eqvAll (l.map F) (l.map G) = l.all fun a => PyData.eqv (F a) (G a)
  | [] => by simp only [List.map_nil, PyData.eqvAll, List.all_nil]
  | a :: l => by simp only [List.map_cons, PyData.eqvAll, List.all_cons, eqvAll_same l]
theorem eqvAll_inj {α : Type} [DecidableEq α] {F : α → PyData} (h : ∀ a b, PyData.eqv (F a) (F b) = decide (a = b)) : ∀ l l2 : List α, PyData.eqvAll (l.map F) (l2.map F) = decide (l = l2)
  | [], [] => by simp only [List.map_nil, PyData.eqvAll]; rfl
  | [], b :: l2 => by simp only [List.map_nil, List.map_cons, PyData.eqvAll]; exact (decide_eq_false (by simp)).symm
  | a :: l, [] => by simp only [List.map_nil, List.map_cons, PyData.eqvAll]; exact (decide_eq_false (by simp)).symm
  | a :: l, b :: l2 => by
    simp only [List.map_cons, PyData.eqvAll, h, eqvAll_inj h l l2]
    rw [Bool.eq_iff_iff]
    simp
/-! ### tables -/
def tbD (r c : Nat) (f : Nat → Nat → Bool) : PyData := .list ((List.range r).map fun k => .list ((List.range c).map fun m => .bool (f k m)))
theorem tb_da (r c : Nat) (f : Nat → Nat → Bool) : Da (tb r c f) (tbD r c f) 2 := Da.lst fun k _ => Da.lst (f := fun m => .bl (f k m)) (g := fun m => .bool (f k m)) fun m _ => Da.bl _
def eqB (r c : Nat) (f g : Nat → Nat → Bool) : Bool := (List.range r).all fun k => (List.range c).all fun m => f k m == g k m
theorem eqB_iff {r c : Nat} {f g : Nat → Nat → Bool} : eqB r c f g = true ↔ Same2 r c f g := by
  unfold eqB Same2
  simp only [List.all_eq_true, List.mem_range, beq_iff_eq]
  exact ⟨fun h k m hk hm => h k hk m hm, fun h k hk m hm => h k m hk hm⟩
theorem tbD_eqv (r c : Nat) (f g : Nat → Nat → Bool) : PyData.eqv (tbD r c f) (tbD r c g) = eqB r c f g := by
  unfold tbD eqB
  simp only [PyData.eqv, eqvAll_same]
theorem tb_congr {r c : Nat} {f g : Nat → Nat → Bool} (h : Same2 r c f g) : tb r c f = tb r c g := by
  unfold tb rw
  exact congrArg PV.lst (List.map_congr_left fun k hk => congrArg PV.lst (List.map_congr_left fun m hm => congrArg PV.bl (h k m (List.mem_range.mp hk) (List.mem_range.mp hm))))
theorem tb_lf {r c : Nat} {f : Nat → Nat → Bool} : lf (tb r c f) = true := by
  show lfs _ = true
  exact lfs_map (f := fun k => rw c (f k)) (fun k => show lfs _ = true from lfs_map (f := fun m => .bl (f k m)) (fun m => rfl) _) _
/-! ### level_tables -/
def lvT (row other : List Nat) : Nat → Nat → Nat → Bool
  | 0 => eqT row other
  | h + 1 => nx row.length other.length (lvT row other h)
def tabs (row other : List Nat) (n : Nat) : List PV := (List.range n).map fun h => .tup [tb row.length other.length (lvT row other h), tb other.length row.length (fl (lvT row other h))]
abbrev ltB (X N : List PV → M PV) : LS → M (Out × LS) := (mSeq (mSet 7 (mApp 2 X (mCons (gv 2) (mCons (mCall vLen (mCons (gv 1) mNil)) mNil))))
 (mSeq (mDrop (mMeth "list" vAppend (gv 5) (mCons (mTup (mCons (gv 2) (mCons (gv 7) mNil))) mNil)))
 (mSeq (mSet 8 (mApp 2 N (mCons (gv 2) (mCons (gv 7) mNil))))
 (mSeq (mSet 6 (mBin vNe (gv 8) (gv 2)))
 (mSet 2 (gv 8))))))
theorem lt_step {row other : List Nat} (hr : row.length ≤ 20) (hc : other.length ≤ 20) {mh : List PV} {h : Nat} (hh : h < 900) {a3 a4 a6 a7 a8 : Option PV} :
    ltB F_exchanged_table F_next_table [some (.str (st row)), some (.str (st other)), some (tb row.length other.length (lvT row other h)), a3, a4, some (.loc mh.length), a6, a7, a8] (mh ++ [.lst (tabs row other h)]) =
      .ok (.nx, [some (.str (st row)), some (.str (st other)), some (tb row.length other.length (lvT row other (h + 1))), a3, a4, some (.loc mh.length), some (.bl (!eqB row.length other.length (lvT row other (h + 1)) (lvT row other h))), some (tb other.length row.length (fl (lvT row other h))), some (tb row.length other.length (lvT row other (h + 1)))]) (mh ++ [.lst (tabs row other (h + 1))]) := by
  have x1 := e_exchanged row.length other.length other.length (lvT row other h) (mh ++ [.lst (tabs row other h)]) (Nat.le_refl _) (by omega)
  have x2 := e_next (f := lvT row other h) (mh ++ [.lst (tabs row other (h + 1))]) hr hc
  have g5 : (mh ++ [PV.lst (tabs row other h)])[mh.length]? = some (.lst (tabs row other h)) := by rw [List.getElem?_append_right (Nat.le_refl _), Nat.sub_self]; rfl
  have e1 : (mh ++ [PV.lst (tabs row other h)]).set mh.length (.lst (tabs row other h ++ [.tup [tb row.length other.length (lvT row other h), tb other.length row.length (fl (lvT row other h))]])) = mh ++ [.lst (tabs row other (h + 1))] := by
    rw [List.set_append_right _ _ (Nat.le_refl _), Nat.sub_self]
    show mh ++ [PV.lst _] = _
    unfold tabs
    rw [List.range_succ, List.map_append]; rfl
  have a1 := app_loc (y := .tup [tb row.length other.length (lvT row other h), tb other.length row.length (fl (lvT row other h))]) g5 (by unfold tabs; simp; omega)
  rw [e1] at a1
  generalize F_exchanged_table = X at x1 ⊢
  generalize F_next_table = N at x2 ⊢
  refine (seq_nx (set_ok (app_ok (args2 rfl (call_ok (args1 rfl) (len_st (by omega)))) x1))).trans ((seq_nx (drop_ok (meth_ok rfl (ty_loc g5) (args1 (tup_ok (args2 rfl rfl) (by simp))) a1))).trans
    ((seq_nx (set_ok (app_ok (args2 rfl rfl) x2))).trans ((seq_nx (set_ok (bin_ok rfl rfl ?_))).trans (set_ok rfl))))
  exact (vne_da (tb_da ..) (tb_da ..) (by omega) (by omega)).trans (by rw [tbD_eqv]; rfl)
/-- N is the first table that is equal to the next one -/
structure Last (row other : List Nat) (N : Nat) : Prop where
  at_ : eqB row.length other.length (lvT row other (N + 1)) (lvT row other N) = true
  bef : ∀ h, h < N → eqB row.length other.length (lvT row other (h + 1)) (lvT row other h) = false
theorem lt_loop {row other : List Nat} (hr : row.length ≤ 20) (hc : other.length ≤ 20) {mh : List PV} {N : Nat} (hN : N < 800) (hL : Last row other N) {a3 a4 : Option PV} : ∀ (j h : Nat), h + j = N → ∀ a7 a8, ∃ b2 b6 b7 b8,
    whileS (mTest (gv 6)) (ltB F_exchanged_table F_next_table) (j + 2) [some (.str (st row)), some (.str (st other)), some (tb row.length other.length (lvT row other h)), a3, a4, some (.loc mh.length), some (.bl true), a7, a8] (mh ++ [.lst (tabs row other h)]) =
      .ok (.nx, [some (.str (st row)), some (.str (st other)), b2, a3, a4, some (.loc mh.length), b6, b7, b8]) (mh ++ [.lst (tabs row other (N + 1))])
  | 0, h, e, a7, a8 => by
    have e : h = N := e
    subst e
    have s := lt_step hr hc (mh := mh) (h := h) (by omega) (a3 := a3) (a4 := a4) (a6 := some (.bl true)) (a7 := a7) (a8 := a8)
    rw [hL.at_] at s
    have t1 : mTest (gv 6) [some (.str (st row)), some (.str (st other)), some (tb row.length other.length (lvT row other h)), a3, a4, some (.loc mh.length), some (.bl true), a7, a8] (mh ++ [.lst (tabs row other h)]) = .ok true (mh ++ [.lst (tabs row other h)]) := test_ok rfl
    refine ⟨some (tb row.length other.length (lvT row other (h + 1))), some (.bl false), some (tb other.length row.length (fl (lvT row other h))), some (tb row.length other.length (lvT row other (h + 1))), ?_⟩
    show whileS (mTest (gv 6)) (ltB F_exchanged_table F_next_table) (1 + 1) _ _ = _
    rw [whileS, t1, Rs.bind_ok, if_pos rfl, s, Rs.bind_ok]
    rfl
  | j + 1, h, e, a7, a8 => by
    have s := lt_step hr hc (mh := mh) (h := h) (by omega) (a3 := a3) (a4 := a4) (a6 := some (.bl true)) (a7 := a7) (a8 := a8)
    rw [hL.bef h (by omega)] at s
    have t1 : mTest (gv 6) [some (.str (st row)), some (.str (st other)), some (tb row.length other.length (lvT row other h)), a3, a4, some (.loc mh.length), some (.bl true), a7, a8] (mh ++ [.lst (tabs row other h)]) = .ok true (mh ++ [.lst (tabs row other h)]) := test_ok rfl
    obtain ⟨b2, b6, b7, b8, r⟩ := lt_loop hr hc (mh := mh) hN hL (a3 := a3) (a4 := a4) j (h + 1) (by omega) (some (tb other.length row.length (fl (lvT row other h)))) (some (tb row.length other.length (lvT row other (h + 1))))
    refine ⟨b2, b6, b7, b8, ?_⟩
    rw [whileS, t1, Rs.bind_ok, if_pos rfl, s, Rs.bind_ok]
    exact r
theorem near_eq {row other : List Nat} {mh : List PV} (hr : row.length ≤ 20) (hc : other.length ≤ 20) :
    mComp (mIt (gv 0) srcS) (gSet 4) mYes (mComp (mIt (gv 1) srcS) (gSet 3) mYes (mBin vEq (gv 4) (gv 3)) [3]) [4] [some (.str (st row)), some (.str (st other)), none, none, none, none, none, none, none] mh = .ok (tb row.length other.length (eqT row other)) mh := by
  have h := comp_map (f := mIt (gv 0) srcS) (G := gSet 4) (t := mYes) (vs := [4]) (en := fun a => .str (sgn a)) (ys := row) (τ := [some (.str (st row)), some (.str (st other)), none, none, none, none, none, none, none]) (mh := mh) (e := mComp (mIt (gv 1) srcS) (gSet 3) mYes (mBin vEq (gv 4) (gv 3)) [3]) (fun a => .lst (other.map fun b => .bl (a == b))) (it_ok rfl (src_st (by omega))) (Src.is_lst _) fun a _ => step_map rfl (comp_map (en := fun b => .str (sgn b)) (ys := other) (fun b => .bl (a == b)) (it_ok rfl (src_st (by omega))) (Src.is_lst _) fun b _ => step_map rfl (bin_ok rfl rfl (by
    rw [v_eq_str]
    congr 2
    rw [Bool.eq_iff_iff, beq_iff_eq, beq_iff_eq]
    exact ⟨fun e => (by injection e with e; injection e with e; injection e), fun e => by rw [e]⟩)))
  rw [h]
  congr 1
  have key : ∀ (l : List Nat) (F : Nat → PV), l.map F = (List.range l.length).map fun i => F (l.getD i 0) := fun l F => by
    refine List.ext_getElem? fun i => ?_
    rw [List.getElem?_map, List.getElem?_map]
    by_cases hi : i < l.length
    · rw [List.getElem?_range hi, List.getElem?_eq_getElem hi]
      show some (F l[i]) = some (F (l.getD i 0))
      rw [List.getD_eq_getElem?_getD, List.getElem?_eq_getElem hi]; rfl
    · rw [List.getElem?_eq_none (by omega), List.getElem?_eq_none (by simp; omega)]
      rfl
  unfold tb rw
  rw [key row]
  refine congrArg PV.lst (List.map_congr_left fun k _ => ?_)
  rw [key other]
  rfl
theorem e_level_tables {row other : List Nat} (mh : List PV) (hr : row.length ≤ 20) (hc : other.length ≤ 20) {N : Nat} (hN : N < 800) (hL : Last row other N) : F_level_tables [.str (st row), .str (st other)] mh = .ok (.lst (tabs row other (N + 1))) mh := by
  obtain ⟨b2, b6, b7, b8, w⟩ := lt_loop hr hc (mh := mh) hN hL (a3 := none) (a4 := none) N 0 (by omega) none none
  have w := mWhile_of (by omega) w
  have n1 := near_eq (mh := mh) hr hc
  have s5 : mSet 5 (mLoc mNil) [some (.str (st row)), some (.str (st other)), some (tb row.length other.length (eqT row other)), none, none, none, none, none, none] mh = .ok (.nx, [some (.str (st row)), some (.str (st other)), some (tb row.length other.length (eqT row other)), none, none, some (.loc mh.length), none, none, none]) (mh ++ [.lst []]) := set_ok (loc_ok rfl (by simp))
  unfold F_level_tables g_level_tables
  exact run_ret ((seq_nx (set_ok n1)).trans ((seq_nx s5).trans ((seq_nx (set_ok rfl)).trans ((seq_nx w).trans (ret_ok rfl))))) (fin_lst (ex := []) (lfs_map (fun h => by
    show lfs [_, _] = true
    simp only [lfs, tb_lf, Bool.and_self]) _))
end Lw

set_option Elab.async false
set_option linter.all false
set_option maxRecDepth 100000
namespace Lw
open PySem PySem.Spec L2 ML
/-! ### comprehensions of two fors -/
section
variable {α : Type} {en : α → PV} {f f1 : LS → M Src} {G G1 : PV → LS → M LS} {t t1 : LS → M Bool} {e : LS → M PV} {vs vs1 : List Nat} {τ : LS} {mh m : List PV} {S : Src} {ys : List α} {g : α → List PV}
theorem compT_ok (hS : S.Is (ys.map en)) (h : ∀ y ∈ ys, ∀ acc, ∃ τ1 S1, G (en y) τ m = .ok τ1 m ∧ t τ1 m = .ok true m ∧ f1 τ1 m = .ok S1 m ∧ S1.n ≤ 10000 ∧ compS S1 G1 t1 e (wipeL τ1 vs1) S1.n acc m = .ok (acc ++ g y) m) :
    ∀ (k : Nat), k ≤ ys.length → ∀ acc : List PV, acc.length + ((ys.drop (ys.length - k)).flatMap g).length ≤ 10000 → compT S G t f1 G1 t1 e vs1 τ k acc m = .ok (acc ++ (ys.drop (ys.length - k)).flatMap g) m
  | 0, _, acc, _ => by
    unfold compT
    rw [if_pos (hS.ok m), Nat.sub_zero, List.drop_length, List.flatMap_nil, List.append_nil]
  | k + 1, hk, acc, hl => by
    have hi : ys.length - (k + 1) < ys.length := by omega
    obtain ⟨τ1, S1, h1, h2, h3, h4, h5⟩ := h ys[ys.length - (k + 1)] (List.getElem_mem hi) acc
    have hn : S.n = ys.length := by rw [hS.n, List.length_map]
    have hit : S.it (S.n - (k + 1)) m = some (en ys[ys.length - (k + 1)]) := by
      rw [hn, hS.it _ m (by rw [List.length_map]; exact hi), List.getElem?_map, List.getElem?_eq_getElem hi]; rfl
    rw [List.drop_eq_getElem_cons hi, List.flatMap_cons, show ys.length - (k + 1) + 1 = ys.length - k by omega] at hl ⊢
    unfold compT
    rw [if_pos (hS.ok m), hit]
    show ((G (en ys[ys.length - (k + 1)]) τ m).bind fun τ1 m1 => (t τ1 m1).bind fun b m2 => if b = true then (f1 τ1 m2).bind fun S1 m3 =>
        if acc.length + S1.n ≤ sizeLine then (compS S1 G1 t1 e (wipeL τ1 vs1) S1.n acc m3).bind fun acc2 m4 => compT S G t f1 G1 t1 e vs1 τ k acc2 m4 else .no
      else compT S G t f1 G1 t1 e vs1 τ k acc m2) = _
    rw [List.length_append] at hl
    rw [h1, Rs.bind_ok, h2, Rs.bind_ok, if_pos rfl, h3, Rs.bind_ok, if_pos (by rw [sizeLine_eq]; omega), h5, Rs.bind_ok, compT_ok hS h k (by omega) _ (by rw [List.length_append]; omega), List.append_assoc]
theorem comp2_ok (h0 : f τ mh = .ok S m) (hS : S.Is (ys.map en)) (h : ∀ y ∈ ys, ∀ acc, ∃ τ1 S1, G (en y) (wipeL τ vs) m = .ok τ1 m ∧ t τ1 m = .ok true m ∧ f1 τ1 m = .ok S1 m ∧ S1.n ≤ 10000 ∧ compS S1 G1 t1 e (wipeL τ1 vs1) S1.n acc m = .ok (acc ++ g y) m)
    (hl : (ys.flatMap g).length ≤ 10000) : mComp2 f G t f1 G1 t1 e vs vs1 τ mh = .ok (.lst (ys.flatMap g)) m := by
  unfold mComp2 mCompT
  have hn : S.n = ys.length := by rw [hS.n, List.length_map]
  have := compT_ok (τ := wipeL τ vs) hS h ys.length (Nat.le_refl _) [] (by rw [Nat.sub_self, List.drop_zero]; simpa using hl)
  rw [h0, Rs.bind_ok, hn, this, Nat.sub_self, List.drop_zero]
  rfl
end
theorem pairs_len {r c : Nat} {f : Nat → Nat → Bool} : (pairsOf r c f).length ≤ r * c := by
  unfold pairsOf
  rw [List.length_flatMap]
  have key : ∀ l : List Nat, (l.map fun k => (((List.range c).filter fun m => f k m).map fun m => (k, m)).length).sum ≤ l.length * c := fun l => by
    induction l with
    | nil => simp
    | cons a l ih =>
      rw [List.map_cons, List.sum_cons, List.length_cons, Nat.add_mul, Nat.one_mul]
      have : (((List.range c).filter fun m => f a m).map fun m => (a, m)).length ≤ c := by
        rw [List.length_map]
        exact Nat.le_trans (List.length_filter_le ..) (by rw [List.length_range]; exact Nat.le_refl _)
      omega
  have := key (List.range r)
  rwa [List.length_range] at this
theorem e_listed_level {r c : Nat} {f : Nat → Nat → Bool} (mh : List PV) (hr : r ≤ 20) (hc : c ≤ 20) : F_listed_level [tb r c f] mh = .ok (.tup ((pairsOf r c f).map pr)) mh := by
  have e0 : (pairsOf r c f).map pr = (List.range r).flatMap fun k => (List.range c).filterMap fun m => if f k m = true then some (pr (k, m)) else none := by
    unfold pairsOf
    rw [List.map_flatMap]
    refine congrArg (fun F => List.flatMap F (List.range r)) (funext fun k => ?_)
    rw [List.map_map]
    generalize List.range c = l
    induction l with
    | nil => rfl
    | cons a l ih =>
      rw [List.filter_cons, List.filterMap_cons]
      cases hf : f k a with
      | true => simp only [if_true, List.map_cons, ih]; rfl
      | false => simp only [Bool.false_eq_true, if_false, ih]
  have h := comp2_ok (f := mItA (mCons (gv 0) mNil) srcE) (G := gTupP 2 (gsCons (gSet 1) (gsCons (gSet 2) gsNil))) (t := mYes) (f1 := mItA (mCons (gv 2) mNil) srcE) (G1 := gTupP 2 (gsCons (gSet 3) (gsCons (gSet 4) gsNil))) (t1 := mTest (gv 4)) (e := mTup (mCons (gv 1) (mCons (gv 3) mNil))) (vs := [1, 2, 3, 4]) (vs1 := [3, 4])
    (τ := [some (tb r c f), none, none, none, none]) (mh := mh) (m := mh) (ys := List.range r) (en := fun k => .tup [.int (k : Nat), rw c (f k)]) (g := fun k => (List.range c).filterMap fun m => if f k m = true then some (pr (k, m)) else none) (itA_ok (args1 rfl) ev_srcE) enum_tb (fun k hk acc => by
      refine ⟨[some (tb r c f), some (.int (k : Nat)), some (rw c (f k)), none, none], _, rfl, rfl, itA_ok (args1 rfl) ev_srcE, by simp [Src.enum, Src.lst]; omega, ?_⟩
      rw [comp_is (enum_map c fun m => .bl (f k m))]
      refine compL_pure (en := fun m : Nat => .tup [.int (m : Nat), .bl (f k m)]) (List.range c) acc fun m hm => ?_
      cases hf : f k m with
      | true => exact step_t rfl (test_ok rfl) (tup_ok (args2 rfl rfl) (by simp))
      | false => exact step_f rfl (test_ok rfl))
    (by rw [← e0, List.length_map]; have := pairs_len (r := r) (c := c) (f := f); have : r * c ≤ 20 * 20 := Nat.mul_le_mul hr hc; omega)
  rw [← e0] at h
  unfold F_listed_level g_listed_level
  exact run_ret (ret_ok (call_ok (args1 h) rfl)) fin_same
/-! ### table_height -/
def hgt (P : Nat → Bool) : Nat → Nat → PV
  | _, 0 => .non
  | s, n + 1 => if P s = true then hgt P (s + 1) n else .int (s : Nat)
theorem th_loop {row other : List Nat} {k m : Nat} (hk : k < row.length) (hm : m < other.length) {mh : List PV} {a0 : Option PV} : ∀ (n s : Nat) (a3 a4 a5 : Option PV), ∃ τ',
    loopL (gTupP 2 (gsCons (gSet 3) (gsCons (gTupP 2 (gsCons (gSet 4) (gsCons (gSet 5) gsNil))) gsNil))) (mIf (mNot (mTest (mBin vIx (mBin vIx (gv 4) (gv 1)) (gv 2)))) (mRet (gv 3)) mSkip)
      ((List.range' s n).map fun h => .tup [.int (h : Nat), .tup [tb row.length other.length (lvT row other h), tb other.length row.length (fl (lvT row other h))]]) [a0, some (.int (k : Nat)), some (.int (m : Nat)), a3, a4, a5] mh =
      .ok (match hgt (fun h => lvT row other h k m) s n with
        | .non => .nx
        | x => .ret x, τ') mh
  | 0, s, a3, a4, a5 => ⟨_, rfl⟩
  | n + 1, s, a3, a4, a5 => by
    rw [List.range'_succ, List.map_cons]
    have t1 : mTest (mBin vIx (mBin vIx (gv 4) (gv 1)) (gv 2)) [a0, some (.int (k : Nat)), some (.int (m : Nat)), some (.int (s : Nat)), some (tb row.length other.length (lvT row other s)), some (tb other.length row.length (fl (lvT row other s)))] mh = .ok (lvT row other s k m) mh :=
      test_ok (bin_ok (bin_ok rfl rfl (ix_tb hk)) rfl (ix_rw hm))
    unfold hgt
    cases hp : lvT row other s k m with
    | true =>
      rw [hp] at t1
      obtain ⟨τ', h⟩ := th_loop hk hm (mh := mh) (a0 := a0) n (s + 1) (some (.int (s : Nat))) (some (tb row.length other.length (lvT row other s))) (some (tb other.length row.length (fl (lvT row other s))))
      rw [if_pos rfl]
      exact ⟨τ', (loop_nx rfl ((if_f (not_ok t1)).trans rfl)).trans h⟩
    | false =>
      rw [hp] at t1
      rw [if_neg Bool.false_ne_true]
      exact ⟨_, loop_ret rfl ((if_t (not_ok t1)).trans (ret_ok rfl))⟩
theorem hgt_lf (P : Nat → Bool) : ∀ n s, lf (hgt P s n) = true
  | 0, s => rfl
  | n + 1, s => by
    unfold hgt
    split
    · exact hgt_lf P n (s + 1)
    · rfl
theorem e_table_height {row other : List Nat} {k m n : Nat} (mh : List PV) (hk : k < row.length) (hm : m < other.length) : F_table_height [.lst (tabs row other n), .int (k : Nat), .int (m : Nat)] mh = .ok (hgt (fun h => lvT row other h k m) 0 n) mh := by
  obtain ⟨τ', h⟩ := th_loop hk hm (mh := mh) (a0 := some (.lst (tabs row other n))) n 0 none none none
  rw [← List.range_eq_range'] at h
  have h2 := (for_src (f := mItA (mCons (gv 0) mNil) srcE) (mh := mh) (τ := [some (.lst (tabs row other n)), some (.int (k : Nat)), some (.int (m : Nat)), none, none, none]) (itA_ok (args1 rfl) ev_srcE) (enum_map n fun h => .tup [tb row.length other.length (lvT row other h), tb other.length row.length (fl (lvT row other h))])).trans h
  unfold F_table_height g_table_height
  have hh := hgt_lf (fun h => lvT row other h k m) n 0
  generalize hgt (fun h => lvT row other h k m) 0 n = x at h2 hh
  have e : ∀ x : PV, (match x with
        | .non => Out.nx
        | x => .ret x) = .nx ∧ x = .non ∨ (match x with
        | .non => Out.nx
        | x => .ret x) = .ret x := fun x => by cases x <;> first | exact .inl ⟨rfl, rfl⟩ | exact .inr rfl
  rcases e x with ⟨e1, e2⟩ | e1
  · rw [e1] at h2
    subst e2
    exact run_ret ((seq_nx h2).trans (ret_ok rfl)) fin_same
  · rw [e1] at h2
    exact run_ret (seq_ret h2) fin_same
end Lw

set_option Elab.async false
set_option linter.all false
set_option maxRecDepth 100000
namespace Lw
open PySem PySem.Spec L2 ML
/-! ### Contest -/
def lvls (row other : List Nat) (n : Nat) : List PV := (List.range n).map fun h => .tup ((pairsOf row.length other.length (lvT row other h)).map pr)
def cNames : List Str := ["alphabet", "row", "other", "tables", "levels"]
def cObj (C : Addr) (al row other : List Nat) (n : Nat) : PV := .obj C cNames [.str (st al), .str (st row), .str (st other), .lst (tabs row other n), .tup (lvls row other n)]
section
variable {C : Addr} {f : Str} {g e : LS → M PV} {τ : LS} {mh m m2 : List PV} {z : PV} {n : Nat} {ns : List Str} {ts : List PV}
theorem setfld_ok (h1 : e τ mh = .ok z m) (h2 : g τ m = .ok (.loc n) m2) (h3 : m2[n]? = some (.obj C ns ts)) (hl : ns.length < 1000) : mSetFld C f g e τ mh = .ok (.nx, τ) (m2.set n (.obj C (putN f ns) (putT f z ns ts))) := by
  unfold mSetFld
  rw [h1, Rs.bind_ok, h2, Rs.bind_ok]
  show (match m2[n]? with
    | some (.obj C' ns ts) => if C' = C ∧ ns.length < 1000 then Rs.ok ((Out.nx, τ) : Out × LS) (m2.set n (.obj C (putN f ns) (putT f z ns ts))) else .no
    | _ => .no) = _
  rw [h3]
  exact if_pos ⟨rfl, hl⟩
theorem fld_ok {x t : PV} (h1 : g τ mh = .ok x m) (h2 : objV m x = some (C, ns, ts)) (h3 : fieldOf f ns ts = some t) : mFld C f g τ mh = .ok t m := by
  unfold mFld
  rw [h1, Rs.bind_ok, h2]
  show (if C = C then (match fieldOf f ns ts with
    | some t => Rs.ok t m
    | none => .no) else .no) = _
  rw [if_pos rfl, h3]
end
theorem putN_app {f : Str} : ∀ {ns : List Str}, f ∉ ns → putN f ns = ns ++ [f]
  | [], _ => rfl
  | n :: ns, h => by
    rw [putN, if_neg fun e : n = f => h (by rw [e]; exact List.mem_cons_self ..), putN_app fun e => h (List.mem_cons_of_mem _ e)]; rfl
theorem putT_app {f : Str} {z : PV} : ∀ {ns : List Str} {ts : List PV}, f ∉ ns → ns.length = ts.length → putT f z ns ts = ts ++ [z]
  | [], [], _, _ => rfl
  | n :: ns, t :: ts, h, hl => by
    rw [putT, if_neg fun e : n = f => h (by rw [e]; exact List.mem_cons_self ..), putT_app (fun e => h (List.mem_cons_of_mem _ e)) (by simpa using hl)]; rfl
  | [], _ :: _, _, hl => by simp at hl
  | _ :: _, [], _, hl => by simp at hl
theorem setfld_new {C : Addr} {f : Str} {g e : LS → M PV} {τ : LS} {mh : List PV} {z : PV} {ns : List Str} {ts B : List PV} (hB : mh = B ++ [.obj C ns ts]) (h1 : e τ mh = .ok z mh) (h2 : g τ mh = .ok (.loc B.length) mh) (hf : f ∉ ns) (hl : ns.length = ts.length) (hl2 : ns.length < 1000) :
    mSetFld C f g e τ mh = .ok (.nx, τ) (B ++ [.obj C (ns ++ [f]) (ts ++ [z])]) := by
  have h3 : mh[B.length]? = some (.obj C ns ts) := by rw [hB, List.getElem?_append_right (Nat.le_refl _), Nat.sub_self]; rfl
  rw [setfld_ok h1 h2 h3 hl2, putN_app hf, putT_app hf hl, hB, List.set_append_right _ _ (Nat.le_refl _), Nat.sub_self]
  rfl
theorem field_eq {f : Str} {ns : List Str} {t : PV} {ts : List PV} : fieldOf f (f :: ns) (t :: ts) = some t := by rw [fieldOf, if_pos rfl]
theorem field_ne {f n : Str} {ns : List Str} {t : PV} {ts : List PV} (h : f ≠ n) : fieldOf f (n :: ns) (t :: ts) = fieldOf f ns ts := by rw [fieldOf, if_neg h]
theorem field_row {a b c d e : PV} : fieldOf "row" cNames [a, b, c, d, e] = some b := (field_ne (by decide +kernel)).trans field_eq
theorem field_other {a b c d e : PV} : fieldOf "other" cNames [a, b, c, d, e] = some c := (field_ne (by decide +kernel)).trans ((field_ne (by decide +kernel)).trans field_eq)
theorem field_tables {a b c d : PV} {l : List PV} {ls : List Str} : fieldOf "tables" ("alphabet" :: "row" :: "other" :: "tables" :: ls) (a :: b :: c :: d :: l) = some d := (field_ne (by decide +kernel)).trans ((field_ne (by decide +kernel)).trans ((field_ne (by decide +kernel)).trans field_eq))
theorem field_levels {a b c d e : PV} : fieldOf "levels" cNames [a, b, c, d, e] = some e := (field_ne (by decide +kernel)).trans ((field_ne (by decide +kernel)).trans ((field_ne (by decide +kernel)).trans ((field_ne (by decide +kernel)).trans field_eq)))
theorem lfs_app (a b : List PV) : lfs (a ++ b) = (lfs a && lfs b) := by
  induction a with
  | nil => simp [lfs]
  | cons x a ih => simp [lfs, ih, Bool.and_assoc]
theorem pr_lf (p : Nat × Nat) : lf (pr p) = true := rfl
theorem tabs_lf {row other : List Nat} {n : Nat} : lfs (tabs row other n) = true := lfs_map (fun h => by
    show lfs [_, _] = true
    simp only [lfs, tb_lf, Bool.and_self]) _
theorem lvls_lf {row other : List Nat} {n : Nat} : lfs (lvls row other n) = true := lfs_map (fun h => by
    show lfs _ = true
    exact lfs_map pr_lf _) _
theorem cObj_lf {C : Addr} {al row other : List Nat} {n : Nat} : lf (cObj C al row other n) = true := by
  show lfs [_, _, _, .lst _, .tup _] = true
  simp only [lfs, lf, tabs_lf, lvls_lf, Bool.and_self]
theorem e_init {C : Addr} {al row other : List Nat} {m : List PV} {N : Nat} (ha : AlOk al) (h1 : RowOk al row) (h2 : RowOk al other) (hN : N < 800) (hL : Last row other N) :
    F_Contest___init__ C [.loc m.length, .str (st al), .str (st row), .str (st other)] (m ++ [.obj C [] []]) = .ok .non (m ++ [cObj C al row other (N + 1)]) := by
  have l1 := h1.1
  have l2 := h2.1
  have c0 := e_check_contest ha h1 h2 (m ++ [.obj C [] []])
  have hlast : ∀ o : PV, (m ++ [o])[m.length]? = some o := fun o => by rw [List.getElem?_append_right (Nat.le_refl _), Nat.sub_self]; rfl
  have hset : ∀ o o2 : PV, (m ++ [o]).set m.length o2 = m ++ [o2] := fun o o2 => by rw [List.set_append_right _ _ (Nat.le_refl _), Nat.sub_self]; rfl
  unfold F_Contest___init__ runF g_Contest___init__
  let τ : LS := [some (.loc m.length), some (.str (st al)), some (.str (st row)), some (.str (st other)), none, none]
  have s1 : mSetFld C "alphabet" (gv 0) (gv 1) τ (m ++ [.obj C [] []]) = .ok (.nx, τ) (m ++ [.obj C ["alphabet"] [.str (st al)]]) :=
    setfld_new (ns := []) (ts := []) rfl rfl rfl (by decide +kernel) rfl (by simp)
  have s2 : mSetFld C "row" (gv 0) (gv 2) τ (m ++ [.obj C ["alphabet"] [.str (st al)]]) = .ok (.nx, τ) (m ++ [.obj C ["alphabet", "row"] [.str (st al), .str (st row)]]) :=
    setfld_new (ns := ["alphabet"]) (ts := [.str (st al)]) rfl rfl rfl (by decide +kernel) rfl (by simp)
  have s3 : mSetFld C "other" (gv 0) (gv 3) τ (m ++ [.obj C ["alphabet", "row"] [.str (st al), .str (st row)]]) = .ok (.nx, τ) (m ++ [.obj C ["alphabet", "row", "other"] [.str (st al), .str (st row), .str (st other)]]) :=
    setfld_new (ns := ["alphabet", "row"]) (ts := [.str (st al), .str (st row)]) rfl rfl rfl (by decide +kernel) rfl (by simp)
  have lt := e_level_tables (m ++ [.obj C ["alphabet", "row", "other"] [.str (st al), .str (st row), .str (st other)]]) (by omega) (by omega) hN hL
  generalize F_level_tables = FL at lt ⊢
  have s4 : mSetFld C "tables" (gv 0) (mApp 2 FL (mCons (gv 2) (mCons (gv 3) mNil))) τ (m ++ [.obj C ["alphabet", "row", "other"] [.str (st al), .str (st row), .str (st other)]]) = .ok (.nx, τ) (m ++ [.obj C ["alphabet", "row", "other", "tables"] [.str (st al), .str (st row), .str (st other), .lst (tabs row other (N + 1))]]) :=
    setfld_new (ns := ["alphabet", "row", "other"]) (ts := [.str (st al), .str (st row), .str (st other)]) rfl (app_ok (args2 rfl rfl) lt) rfl (by decide +kernel) rfl (by simp)
  have hg : objV (m ++ [.obj C ["alphabet", "row", "other", "tables"] [.str (st al), .str (st row), .str (st other), .lst (tabs row other (N + 1))]]) (.loc m.length) = some (C, (["alphabet", "row", "other", "tables"] : List Str), ([.str (st al), .str (st row), .str (st other), .lst (tabs row other (N + 1))] : List PV)) := by
    show (match (m ++ [PV.obj C ["alphabet", "row", "other", "tables"] [.str (st al), .str (st row), .str (st other), .lst (tabs row other (N + 1))]])[m.length]? with
      | some (.obj C ns ts) => some (C, ns, ts)
      | _ => none) = _
    rw [hlast]
  have cc : mComp (mIt (mFld C "tables" (gv 0)) srcL) (gTupP 2 (gsCons (gSet 4) (gsCons (gSet 5) gsNil))) mYes (mApp 1 F_listed_level (mCons (gv 4) mNil)) [4, 5] τ (m ++ [.obj C ["alphabet", "row", "other", "tables"] [.str (st al), .str (st row), .str (st other), .lst (tabs row other (N + 1))]]) = .ok (.lst (lvls row other (N + 1))) (m ++ [.obj C ["alphabet", "row", "other", "tables"] [.str (st al), .str (st row), .str (st other), .lst (tabs row other (N + 1))]]) :=
    comp_map (en := fun h => .tup [tb row.length other.length (lvT row other h), tb other.length row.length (fl (lvT row other h))]) (ys := List.range (N + 1)) (fun h => .tup ((pairsOf row.length other.length (lvT row other h)).map pr)) (it_ok (fld_ok rfl hg field_tables) ev_srcL) (Src.is_lst _) fun h _ => step_map rfl (app_ok (args1 rfl) (e_listed_level _ (by omega) (by omega)))
  generalize F_listed_level = FQ at cc ⊢
  have s5 : mSetFld C "levels" (gv 0) (mCall vTuple (mCons (mComp (mIt (mFld C "tables" (gv 0)) srcL) (gTupP 2 (gsCons (gSet 4) (gsCons (gSet 5) gsNil))) mYes (mApp 1 FQ (mCons (gv 4) mNil)) [4, 5]) mNil)) τ (m ++ [.obj C ["alphabet", "row", "other", "tables"] [.str (st al), .str (st row), .str (st other), .lst (tabs row other (N + 1))]]) = .ok (.nx, τ) (m ++ [cObj C al row other (N + 1)]) :=
    setfld_new (ns := ["alphabet", "row", "other", "tables"]) (ts := [.str (st al), .str (st row), .str (st other), .lst (tabs row other (N + 1))]) rfl (call_ok (args1 cc) rfl) rfl (by decide +kernel) rfl (by simp)
  have hend := (seq_nx (drop_ok (app_ok (n := 3) (fs := mCons (gv 1) (mCons (gv 2) (mCons (gv 3) mNil))) (τ := τ) (args3 rfl rfl rfl) c0))).trans ((seq_nx s1).trans ((seq_nx s2).trans ((seq_nx s3).trans ((seq_nx s4).trans s5))))
  exact (congrArg (exitF (m ++ [PV.obj C [] []])) hend).trans (show fin (m ++ [PV.obj C [] []]) .non (m ++ [cObj C al row other (N + 1)]) = _ from fin_len (by simp))
theorem e_contest {C : Addr} {al row other : List Nat} {m mh : List PV} {N : Nat} {fs : LS → M (List PV)} {τ : LS} (ha : AlOk al) (h1 : RowOk al row) (h2 : RowOk al other) (hN : N < 800) (hL : Last row other N) (hfs : fs τ mh = .ok [.str (st al), .str (st row), .str (st other)] m) :
    mNew C 4 (F_Contest___init__ C) fs τ mh = .ok (cObj C al row other (N + 1)) m := by
  unfold mNew
  rw [hfs, Rs.bind_ok, if_pos (by rfl), e_init ha h1 h2 hN hL, Rs.bind_ok]
  exact fin_more (frz_at (j := 0) rfl fun s => sub_lf _ cObj_lf)
theorem e_place {z : List Nat} {k : Nat} (mh : List PV) (hk : k < z.length) (hz : z.length ≤ 20) : F_check_place [.str (st z), .int (k : Nat)] mh = .ok .non mh := by
  have c := e_is_integer_i (k : Nat) 0 ((z.length : Nat) - 1 : Int) mh
  rw [decide_eq_true (by omega)] at c
  unfold F_check_place g_check_place
  generalize F_is_integer = FI at c
  exact run_nx (xs := []) (by
    rw [List.append_nil]
    exact (if_f (not_ok (b := true) (test_ok (app_ok (args3 rfl rfl (bin_ok (call_ok (args1 rfl) (len_st (by omega))) rfl rfl)) c)))).trans rfl)
theorem e_parting {C : Addr} {al row other : List Nat} {k m n : Nat} (mh : List PV) (hk : k < row.length) (hm : m < other.length) (hr : row.length ≤ 20) (hc : other.length ≤ 20) :
    F_Contest_parting_height C [cObj C al row other n, .int (k : Nat), .int (m : Nat)] mh = .ok (hgt (fun h => lvT row other h k m) 0 n) mh := by
  have c1 := e_place (z := row) mh hk hr
  have c2 := e_place (z := other) mh hm hc
  have c3 := e_table_height (n := n) mh hk hm
  unfold F_Contest_parting_height g_Contest_parting_height
  have hf : ∀ τ : LS, τ[0]? = some (some (cObj C al row other n)) → mFld C "row" (gv 0) τ mh = .ok (.str (st row)) mh ∧ mFld C "other" (gv 0) τ mh = .ok (.str (st other)) mh ∧ mFld C "tables" (gv 0) τ mh = .ok (.lst (tabs row other n)) mh := fun τ hτ =>
    ⟨fld_ok (gv_ok hτ) rfl field_row, fld_ok (gv_ok hτ) rfl field_other, fld_ok (gv_ok hτ) rfl field_tables⟩
  obtain ⟨f1, f2, f3⟩ := hf [some (cObj C al row other n), some (.int (k : Nat)), some (.int (m : Nat))] rfl
  exact run_ret ((seq_nx (drop_ok (app_ok (args2 f1 rfl) c1))).trans ((seq_nx (drop_ok (app_ok (args2 f2 rfl) c2))).trans (ret_ok (app_ok (args3 f3 rfl rfl) c3)))) fin_same
end Lw

set_option Elab.async false
set_option linter.all false
set_option maxRecDepth 100000
namespace Lw
open PySem PySem.Spec L2 ML
/-! ### rows of one letter -/
def rep (r z : Nat) : List Nat := List.replicate r z
theorem rep_len (r z : Nat) : (rep r z).length = r := List.length_replicate
theorem rep_get {r z k : Nat} (h : k < r) : (rep r z)[k]? = some z := List.getElem?_replicate_of_lt h
theorem cl_mono {r c h k m : Nat} (e : cl r c (h + 1) k m = true) : cl r c h k m = true := by
  unfold cl at e ⊢
  simp only [Bool.or_eq_true, Bool.and_eq_true, beq_iff_eq] at e ⊢
  rcases e with e | ⟨⟨e1, e2⟩, e3⟩
  · exact .inl e
  · refine .inr ⟨⟨by omega, by omega⟩, ?_⟩
    by_cases h0 : h = 0
    · exact .inl h0
    · refine .inr ?_
      rcases e3 with e3 | e3 <;> omega
theorem cl_zero {r c k m : Nat} : cl r c 0 k m = true := by
  unfold cl
  simp
theorem lv_cl {r c z : Nat} (hr : r < 13) (hc : c < 13) : ∀ h, Same2 r c (lvT (rep r z) (rep c z) h) (cl r c h)
  | 0 => fun k m hk hm => by
    rw [cl_zero]
    show ((rep r z).getD k 0 == (rep c z).getD m 0) = true
    rw [List.getD_eq_getElem?_getD, List.getD_eq_getElem?_getD, rep_get hk, rep_get hm]
    exact beq_self_eq_true _
  | h + 1 => fun k m hk hm => by
    have ih := lv_cl (z := z) hr hc h
    show (lvT (rep r z) (rep c z) h k m && keeps (lvT (rep r z) (rep c z) h) (rep r z).length (rep c z).length k m) = _
    rw [rep_len, rep_len, ih k m hk hm, keeps_congr ih hk hm, cl_next hr hc hk hm]
    cases e : cl r c (h + 1) k m with
    | false => rw [Bool.and_false]
    | true => rw [cl_mono e]; rfl
def P (r c h : Nat) : List (Nat × Nat) := pairsOf r c (cl r c h)
theorem pairs_congr {r c : Nat} {f g : Nat → Nat → Bool} (h : Same2 r c f g) : pairsOf r c f = pairsOf r c g := by
  unfold pairsOf
  have key : ∀ (l : List Nat), (∀ k ∈ l, k < r) → l.flatMap (fun k => ((List.range c).filter fun m => f k m).map fun m => (k, m)) = l.flatMap (fun k => ((List.range c).filter fun m => g k m).map fun m => (k, m)) := fun l => by
    induction l with
    | nil => intro _; rfl
    | cons a l ih =>
      intro hl
      rw [List.flatMap_cons, List.flatMap_cons, ih fun k hk => hl k (List.mem_cons_of_mem _ hk)]
      congr 2
      exact List.filter_congr fun m hm => by rw [h a m (hl a (List.mem_cons_self ..)) (List.mem_range.mp hm)]
  exact key _ fun k hk => List.mem_range.mp hk
theorem pairs_eq_iff {r c : Nat} {f g : Nat → Nat → Bool} : pairsOf r c f = pairsOf r c g ↔ Same2 r c f g := by
  refine ⟨fun h k m hk hm => ?_, pairs_congr⟩
  have : (k, m) ∈ pairsOf r c f ↔ (k, m) ∈ pairsOf r c g := by rw [h]
  rw [mem_pairs, mem_pairs] at this
  rw [Bool.eq_iff_iff]
  exact ⟨fun e => (this.mp ⟨hk, hm, e⟩).2.2, fun e => (this.mpr ⟨hk, hm, e⟩).2.2⟩
/-- N is the first level that is equal to the next one -/
structure First (r c N : Nat) : Prop where
  le : N ≤ 7
  at_ : P r c (N + 1) = P r c N
  bef : ∀ h, h < N → P r c (h + 1) ≠ P r c h
theorem least {Q : Nat → Prop} : ∀ (n : Nat), Q n → ∃ N, N ≤ n ∧ Q N ∧ ∀ h, h < N → ¬ Q h := by
  intro n
  induction n using Nat.strongRecOn with
  | ind n ih =>
    intro hq
    by_cases h : ∃ j, j < n ∧ Q j
    · obtain ⟨j, hj, hQ⟩ := h
      obtain ⟨N, h1, h2, h3⟩ := ih j hj hQ
      exact ⟨N, by omega, h2, h3⟩
    · exact ⟨n, Nat.le_refl _, hq, fun j hj hQ => h ⟨j, hj, hQ⟩⟩
theorem first_ex {r c : Nat} (hr : r < 13) (hc : c < 13) : ∃ N, First r c N := by
  have h7 : P r c (7 + 1) = P r c 7 := pairs_congr fun k m hk hm => by rw [cl_stable hr hc (by omega) hk hm, cl_stable hr hc (by omega) hk hm]
  obtain ⟨N, h1, h2, h3⟩ := least (Q := fun h => P r c (h + 1) = P r c h) 7 h7
  exact ⟨N, h1, h2, h3⟩
theorem first_last {r c z N : Nat} (hr : r < 13) (hc : c < 13) (h : First r c N) : Last (rep r z) (rep c z) N := by
  have key : ∀ h, eqB (rep r z).length (rep c z).length (lvT (rep r z) (rep c z) (h + 1)) (lvT (rep r z) (rep c z) h) = decide (P r c (h + 1) = P r c h) := fun h => by
    rw [rep_len, rep_len, Bool.eq_iff_iff, eqB_iff, decide_eq_true_eq]
    unfold P
    rw [pairs_eq_iff]
    have a := lv_cl (z := z) hr hc (h + 1)
    have b := lv_cl (z := z) hr hc h
    exact ⟨fun e k m hk hm => by rw [← a k m hk hm, ← b k m hk hm, e k m hk hm], fun e k m hk hm => by rw [a k m hk hm, b k m hk hm, e k m hk hm]⟩
  exact ⟨by rw [key]; exact decide_eq_true h.at_, fun j hj => by rw [key]; exact decide_eq_false (h.bef j hj)⟩
theorem lvls_cl {r c z n : Nat} (hr : r < 13) (hc : c < 13) : lvls (rep r z) (rep c z) n = (List.range n).map fun h => .tup ((P r c h).map pr) := by
  unfold lvls
  refine List.map_congr_left fun h _ => ?_
  rw [rep_len, rep_len, pairs_congr (lv_cl hr hc h)]
  rfl
/-- behind the first level that stays all are the same -/
theorem P_stay {r c N : Nat} (hr : r < 13) (hc : c < 13) (h : First r c N) : ∀ j, P r c (N + j) = P r c N
  | 0 => rfl
  | j + 1 => by
    have ih := P_stay hr hc h j
    have a := pairs_eq_iff.mp (show pairsOf r c (cl r c (N + j)) = pairsOf r c (cl r c N) from ih)
    have b := pairs_eq_iff.mp (show pairsOf r c (cl r c (N + 1)) = pairsOf r c (cl r c N) from h.at_)
    refine pairs_congr fun k m hk hm => ?_
    rw [show N + (j + 1) = (N + j) + 1 by omega, ← cl_next hr hc hk hm, keeps_congr a hk hm, cl_next hr hc hk hm, b k m hk hm]
/-! ### lists of pairs compared -/
def pd (p : Nat × Nat) : PyData := .tuple [.int (p.1 : Nat), .int (p.2 : Nat)]
theorem pr_da (p : Nat × Nat) : Da (pr p) (pd p) 1 := Da.tup (l := [p.1, p.2]) (f := fun i => .int (i : Nat)) (g := fun i => .int (i : Nat)) fun i _ => Da.int _
theorem prs_da (l : List (Nat × Nat)) : Da (prs l) (.list (l.map pd)) 2 := Da.lst fun p _ => pr_da p
theorem pd_eqv (a b : Nat × Nat) : PyData.eqv (pd a) (pd b) = decide (a = b) := by
  obtain ⟨a1, a2⟩ := a
  obtain ⟨b1, b2⟩ := b
  simp only [pd, PyData.eqv, PyData.eqvAll, Bool.and_true]
  rw [Bool.eq_iff_iff]
  simp only [Bool.and_eq_true, beq_iff_eq, decide_eq_true_eq, Prod.mk.injEq]
  omega
theorem eq_prs {l l2 : List (Nat × Nat)} {mh : List PV} : vEq (prs l) (prs l2) mh = .ok (.bl (decide (l = l2))) mh := by
  rw [veq_da (prs_da l) (prs_da l2) (by omega) (by omega)]
  simp only [PyData.eqv, eqvAll_inj pd_eqv]
theorem in_prs {n : Bool} {p : Nat × Nat} {l : List (Nat × Nat)} {mh : List PV} {x : PV} (hx : seqL mh x = some (l.map pr)) : vIn n (pr p) x mh = .ok (.bl (xor n (decide (p ∈ l)))) mh := by
  have hd : dat mh x = some (PyData.list (l.map pd)) := by
    unfold seqL at hx
    split at hx
    · cases hx
      exact (prs_da l).to _
    · next i =>
      split at hx
      · next ts e =>
        cases hx
        show locD mh 8 i = _
        show (match mh[i]? with
          | some (.lst ts) => match toDs (locD mh 7) ts with
            | some ds => some (PyData.list ds)
            | none => none
          | _ => none) = _
        rw [e]
        have := toDs_map l (fun p _ => (pr_da p).to) (locD mh 7)
        show (match toDs (locD mh 7) (l.map pr) with
            | some ds => some (PyData.list ds)
            | none => none) = _
        rw [this]
      · cases hx
    · cases hx
  show (match dat mh (pr p), dat mh x with
    | some d, some (PyData.list ds) => if SeqAt.shaped d = true ∧ SeqAt.shaped (PyData.list ds) = true then Rs.ok (PV.bl (xor n (ds.any fun z => PyData.eqv z d))) mh else .no
    | _, _ => .no) = _
  have hp : dat mh (pr p) = some (pd p) := (pr_da p).to _
  rw [hd, hp]
  show (if SeqAt.shaped (pd p) = true ∧ SeqAt.shaped (PyData.list (l.map pd)) = true then Rs.ok (PV.bl (xor n ((l.map pd).any fun z => PyData.eqv z (pd p)))) mh else .no) = _
  rw [if_pos ⟨(pr_da p).shaped (by omega), (prs_da l).shaped (by omega)⟩]
  congr 3
  rw [List.any_map, Bool.eq_iff_iff, List.any_eq_true, decide_eq_true_eq]
  constructor
  · rintro ⟨q, hq, e⟩
    have e : PyData.eqv (pd q) (pd p) = true := e
    rw [pd_eqv, decide_eq_true_eq] at e
    exact e ▸ hq
  · intro h
    exact ⟨p, h, by show PyData.eqv (pd p) (pd p) = true; rw [pd_eqv]; exact decide_eq_true rfl⟩
end Lw

set_option Elab.async false
set_option linter.all false
set_option maxRecDepth 100000
namespace Lw
open PySem PySem.Spec L2 ML
/-! ### _law_single_levels -/
def rowP (c : Nat) (f : Nat → Nat → Bool) (k : Nat) : List (Nat × Nat) := ((List.range c).filter fun m => f k m).map fun m => (k, m)
theorem row_fm (c : Nat) (f : Nat → Nat → Bool) (k : Nat) : ((List.range c).filterMap fun m => if f k m = true then some (pr (k, m)) else none) = (rowP c f k).map pr := by
  unfold rowP
  rw [List.map_map]
  generalize List.range c = l
  induction l with
  | nil => rfl
  | cons a l ih =>
    rw [List.filter_cons, List.filterMap_cons]
    cases hf : f k a with
    | true => simp only [if_true, List.map_cons, ih]; rfl
    | false => simp only [Bool.false_eq_true, if_false, ih]
theorem rowP_len {c : Nat} {f : Nat → Nat → Bool} {k : Nat} : (rowP c f k).length ≤ c := by
  unfold rowP
  rw [List.length_map]
  exact Nat.le_trans (List.length_filter_le ..) (by rw [List.length_range]; exact Nat.le_refl _)
theorem add_prs {l l2 : List (Nat × Nat)} {mh : List PV} (h : l.length + l2.length ≤ 10000) : vAdd (prs l) (prs l2) mh = .ok (prs (l ++ l2)) mh := by
  have := add_lst (a := l.map pr) (b := l2.map pr) (m := mh) (by rw [List.length_map, List.length_map]; exact h)
  rw [← List.map_append] at this
  exact this
abbrev slB (Cl : List PV → M PV) : LS → M (Out × LS) := (mSet 4 (mBin vAdd (gv 4) (mComp (mItA (mCons (gv 1) mNil) srcR1) (gSet 6) (mTest (mApp 5 Cl (mCons (gv 0) (mCons (gv 5) (mCons (gv 1) (mCons (gv 6) (mCons (gv 3) mNil))))))) (mTup (mCons (gv 5) (mCons (gv 6) mNil))) [6])))
theorem sl_loop {r c h : Nat} (hr : r < 13) (hc : c < 13) (hh : h ≤ 1000) {mh : List PV} {a2 a6 : Option PV} : ∀ (ks : List Nat) (acc : List (Nat × Nat)) (a5 : Option PV), (∀ k ∈ ks, k < r) → acc.length + 13 * ks.length ≤ 5000 → ∃ b5,
    loopL (gSet 5) (slB F__law_close) (ks.map fun k => .int (k : Nat)) [some (.int (r : Nat)), some (.int (c : Nat)), a2, some (.int (h : Nat)), some (prs acc), a5, a6] mh =
      .ok (.nx, [some (.int (r : Nat)), some (.int (c : Nat)), a2, some (.int (h : Nat)), some (prs (acc ++ ks.flatMap (rowP c (cl r c h)))), b5, a6]) mh
  | [], acc, a5, _, _ => ⟨a5, by rw [List.flatMap_nil, List.append_nil]; rfl⟩
  | k :: ks, acc, a5, hk, hl => by
    have hk0 : k < r := hk k (List.mem_cons_self ..)
    have hl : acc.length + 13 * (ks.length + 1) ≤ 5000 := hl
    have h1 := comp_fm (f := mItA (mCons (gv 1) mNil) srcR1) (G := gSet 6) (t := mTest (mApp 5 F__law_close (mCons (gv 0) (mCons (gv 5) (mCons (gv 1) (mCons (gv 6) (mCons (gv 3) mNil))))))) (e := mTup (mCons (gv 5) (mCons (gv 6) mNil))) (vs := [6])
      (τ := [some (.int (r : Nat)), some (.int (c : Nat)), a2, some (.int (h : Nat)), some (prs acc), some (.int (k : Nat)), a6]) (mh := mh) (m := mh) (en := fun m : Nat => .int (m : Nat)) (ys := List.range c) (fun m => if cl r c h k m = true then some (pr (k, m)) else none) (itA_ok (args1 rfl) (src_rng (by omega))) (is_rng c) fun m hm => by
        have hc2 := e_close hk0 (List.mem_range.mp hm) hh mh
        generalize F__law_close = FC at hc2 ⊢
        cases e : cl r c h k m with
        | true =>
          rw [e] at hc2
          exact step_t rfl (test_ok (app_ok (cons_ok rfl (cons_ok rfl (args3 rfl rfl rfl))) hc2)) (tup_ok (args2 rfl rfl) (by simp))
        | false =>
          rw [e] at hc2
          exact step_f rfl (test_ok (app_ok (cons_ok rfl (cons_ok rfl (args3 rfl rfl rfl))) hc2))
    rw [row_fm] at h1
    have hr2 := rowP_len (c := c) (f := cl r c h) (k := k)
    obtain ⟨b5, h2⟩ := sl_loop hr hc hh (mh := mh) (a2 := a2) (a6 := a6) ks (acc ++ rowP c (cl r c h) k) (some (.int (k : Nat))) (fun j hj => hk j (List.mem_cons_of_mem _ hj)) (by rw [List.length_append]; omega)
    refine ⟨b5, ?_⟩
    rw [List.map_cons, List.flatMap_cons, ← List.append_assoc]
    exact (loop_nx rfl (set_ok (bin_ok rfl h1 (add_prs (by omega))))).trans h2
theorem P_flat (r c h : Nat) : (List.range r).flatMap (rowP c (cl r c h)) = P r c h := rfl
abbrev snB (Cl : List PV → M PV) : LS → M (Out × LS) := (mSeq (mSet 4 (mLst mNil))
 (mSeq (mFor (mItA (mCons (gv 0) mNil) srcR1) (gSet 5) (slB Cl))
 (mSeq (mIf (mAnd (mTest (mBin vGt (mCall vLen (mCons (gv 2) mNil)) (kv (.int 0)))) (mTest (mBin vEq (gv 4) (mBin vIx (gv 2) (mNeg (kv (.int 1)))))))
 mBreak
 mSkip)
 (mDrop (mMeth "list" vAppend (gv 2) (mCons (gv 4) mNil))))))
def Ps (r c n : Nat) : List PV := (List.range n).map fun h => prs (P r c h)
theorem Ps_succ (r c n : Nat) : Ps r c (n + 1) = Ps r c n ++ [prs (P r c n)] := by unfold Ps; rw [List.range_succ, List.map_append]; rfl
theorem last_loc {m ts : List PV} {n : Nat} {t : PV} (h : m[n]? = some (.lst (ts ++ [t]))) : vIx (.loc n) (.int (-1)) m = .ok t m := by
  have h0 : seqR m (.loc n) = some (ts ++ [t]) := by
    show (match m[n]? with
      | some (.lst ts) => some ts
      | _ => none) = _
    rw [h]
  show (match seqR m (.loc n) with
    | some ts => (match atI ts (-1) with
      | some t => Rs.ok t m
      | none => .no)
    | none => .no) = _
  rw [h0]
  show (match atI (ts ++ [t]) (-1) with
      | some t => Rs.ok t m
      | none => .no) = _
  rw [atI_last (by simp), List.getLast_concat]
theorem sn_body {r c h : Nat} (hr : r < 13) (hc : c < 13) (hh : h ≤ 100) {mh : List PV} {a4 a5 a6 : Option PV} : ∃ b5,
    snB F__law_close [some (.int (r : Nat)), some (.int (c : Nat)), some (.loc mh.length), some (.int (h : Nat)), a4, a5, a6] (mh ++ [.lst (Ps r c h)]) =
      (if h ≠ 0 ∧ P r c h = P r c (h - 1) then Rs.ok (.bk, [some (.int (r : Nat)), some (.int (c : Nat)), some (.loc mh.length), some (.int (h : Nat)), some (prs (P r c h)), b5, a6]) (mh ++ [.lst (Ps r c h)])
        else .ok (.nx, [some (.int (r : Nat)), some (.int (c : Nat)), some (.loc mh.length), some (.int (h : Nat)), some (prs (P r c h)), b5, a6]) (mh ++ [.lst (Ps r c (h + 1))])) := by
  have s4 : mSet 4 (mLst mNil) [some (.int (r : Nat)), some (.int (c : Nat)), some (.loc mh.length), some (.int (h : Nat)), a4, a5, a6] (mh ++ [.lst (Ps r c h)]) = .ok (.nx, [some (.int (r : Nat)), some (.int (c : Nat)), some (.loc mh.length), some (.int (h : Nat)), some (prs []), a5, a6]) (mh ++ [.lst (Ps r c h)]) := set_ok (lst_ok rfl (by simp))
  obtain ⟨b5, hl⟩ := sl_loop hr hc (h := h) (by omega) (mh := mh ++ [.lst (Ps r c h)]) (a2 := some (.loc mh.length)) (a6 := a6) (List.range r) [] a5 (fun k hk => List.mem_range.mp hk) (by simp; omega)
  rw [List.nil_append, P_flat] at hl
  have hfor := (for_src (f := mItA (mCons (gv 0) mNil) srcR1) (mh := mh ++ [.lst (Ps r c h)]) (τ := [some (.int (r : Nat)), some (.int (c : Nat)), some (.loc mh.length), some (.int (h : Nat)), some (prs []), a5, a6]) (itA_ok (args1 rfl) (src_rng (by omega))) (is_rng r)).trans hl
  have g2 : (mh ++ [PV.lst (Ps r c h)])[mh.length]? = some (.lst (Ps r c h)) := by rw [List.getElem?_append_right (Nat.le_refl _), Nat.sub_self]; rfl
  have hps : (Ps r c h).length = h := by unfold Ps; rw [List.length_map, List.length_range]
  have t1 : mTest (mBin vGt (mCall vLen (mCons (gv 2) mNil)) (kv (.int 0))) [some (.int (r : Nat)), some (.int (c : Nat)), some (.loc mh.length), some (.int (h : Nat)), some (prs (P r c h)), b5, a6] (mh ++ [.lst (Ps r c h)]) = .ok (decide (0 < h)) (mh ++ [.lst (Ps r c h)]) := by
    refine test_ok (bin_ok (call_ok (args1 rfl) (len_loc g2)) rfl ?_)
    rw [v_gt, hps]
    congr 2
    rw [Bool.eq_iff_iff, decide_eq_true_eq, decide_eq_true_eq]; omega
  have app : mDrop (mMeth "list" vAppend (gv 2) (mCons (gv 4) mNil)) [some (.int (r : Nat)), some (.int (c : Nat)), some (.loc mh.length), some (.int (h : Nat)), some (prs (P r c h)), b5, a6] (mh ++ [.lst (Ps r c h)]) = .ok (.nx, [some (.int (r : Nat)), some (.int (c : Nat)), some (.loc mh.length), some (.int (h : Nat)), some (prs (P r c h)), b5, a6]) (mh ++ [.lst (Ps r c (h + 1))]) := by
    have a := app_loc (y := prs (P r c h)) g2 (by rw [hps]; omega)
    rw [← Ps_succ, List.set_append_right _ _ (Nat.le_refl _), Nat.sub_self] at a
    exact drop_ok (meth_ok rfl (ty_loc g2) (args1 rfl) a)
  refine ⟨b5, ?_⟩
  by_cases h0 : h = 0
  · rw [if_neg (fun e => e.1 h0)]
    rw [decide_eq_false (by omega)] at t1
    exact (seq_nx s4).trans ((seq_nx hfor).trans ((seq_nx ((if_f (and_f t1)).trans rfl)).trans app))
  · rw [decide_eq_true (by omega)] at t1
    have e2 : Ps r c h = Ps r c (h - 1) ++ [prs (P r c (h - 1))] := by rw [← Ps_succ, show h - 1 + 1 = h by omega]
    have t2 : mTest (mBin vEq (gv 4) (mBin vIx (gv 2) (mNeg (kv (.int 1))))) [some (.int (r : Nat)), some (.int (c : Nat)), some (.loc mh.length), some (.int (h : Nat)), some (prs (P r c h)), b5, a6] (mh ++ [.lst (Ps r c h)]) = .ok (decide (P r c h = P r c (h - 1))) (mh ++ [.lst (Ps r c h)]) :=
      test_ok (bin_ok rfl (bin_ok rfl rfl (last_loc (g2.trans (by rw [e2])))) eq_prs)
    by_cases he : P r c h = P r c (h - 1)
    · rw [if_pos ⟨h0, he⟩]
      rw [decide_eq_true he] at t2
      exact (seq_nx s4).trans ((seq_nx hfor).trans (seq_bk ((if_t ((and_t t1).trans t2)).trans rfl)))
    · rw [if_neg (fun e => he e.2)]
      rw [decide_eq_false he] at t2
      exact (seq_nx s4).trans ((seq_nx hfor).trans ((seq_nx ((if_f ((and_t t1).trans t2)).trans rfl)).trans app))
theorem sn_loop {r c N : Nat} (hr : r < 13) (hc : c < 13) (hN : First r c N) {mh : List PV} {a6 : Option PV} : ∀ (j h : Nat), h ≤ N + 1 → N + 1 < h + j → h + j ≤ 50 → ∀ (a3 a4 a5 : Option PV), ∃ b3 b4 b5,
    loopL (gSet 3) (snB F__law_close) ((List.range' h j).map fun i => .int (i : Nat)) [some (.int (r : Nat)), some (.int (c : Nat)), some (.loc mh.length), a3, a4, a5, a6] (mh ++ [.lst (Ps r c h)]) =
      .ok (.nx, [some (.int (r : Nat)), some (.int (c : Nat)), some (.loc mh.length), b3, b4, b5, a6]) (mh ++ [.lst (Ps r c (N + 1))])
  | 0, h, h1, h2, h3, a3, a4, a5 => by omega
  | j + 1, h, h1, h2, h3, a3, a4, a5 => by
    obtain ⟨b5, hb⟩ := sn_body hr hc (h := h) (by omega) (mh := mh) (a4 := a4) (a5 := a5) (a6 := a6)
    rw [List.range'_succ, List.map_cons]
    by_cases he : h = N + 1
    · subst he
      rw [if_pos ⟨by omega, by rw [Nat.add_sub_cancel]; exact hN.at_⟩] at hb
      exact ⟨_, _, _, loop_bk rfl hb⟩
    · rw [if_neg fun e => by
        have := hN.bef (h - 1) (by omega)
        rw [show h - 1 + 1 = h by omega] at this
        exact this e.2] at hb
      obtain ⟨b3, b4, b5', h4⟩ := sn_loop hr hc hN (mh := mh) (a6 := a6) j (h + 1) (by omega) (by omega) (by omega) (some (.int (h : Nat))) (some (prs (P r c h))) b5
      exact ⟨b3, b4, b5', (loop_nx rfl hb).trans h4⟩
theorem prs_lf (l : List (Nat × Nat)) : lf (prs l) = true := lfs_map pr_lf l
theorem e_single_levels {r c N : Nat} (mh : List PV) (hr : r < 13) (hc : c < 13) (hN : First r c N) : F__law_single_levels [.int (r : Nat), .int (c : Nat)] mh = .ok (.lst (Ps r c (N + 1))) mh := by
  have hN7 := hN.le
  obtain ⟨b3, b4, b5, h⟩ := sn_loop hr hc hN (mh := mh) (a6 := none) 14 0 (by omega) (by omega) (by omega) none none none
  rw [← List.range_eq_range'] at h
  have hfor := (for_src (f := mItA (mCons (kv (.int 14)) mNil) srcR1) (mh := mh ++ [.lst []]) (τ := [some (.int (r : Nat)), some (.int (c : Nat)), some (.loc mh.length), none, none, none, none]) (itA_ok (args1 rfl) (src_rng (n := 14) (by omega))) (is_rng 14)).trans h
  have s2 : mSet 2 (mLoc mNil) [some (.int (r : Nat)), some (.int (c : Nat)), none, none, none, none, none] mh = .ok (.nx, [some (.int (r : Nat)), some (.int (c : Nat)), some (.loc mh.length), none, none, none, none]) (mh ++ [.lst []]) := set_ok (loc_ok rfl (by simp))
  unfold F__law_single_levels g__law_single_levels
  generalize F__law_close = FC at hfor ⊢
  exact run_ret ((seq_nx s2).trans ((seq_nx hfor).trans (ret_ok rfl))) (fin_lst (ex := []) (lfs_map (fun h => prs_lf _) _))
end Lw

set_option Elab.async false
set_option linter.all false
set_option maxRecDepth 100000
namespace Lw
open PySem PySem.Spec L2 ML
theorem e_number_i (i lo hi : Int) (mh : List PV) : F__law_is_number [.int i, .int lo, .int hi] mh = .ok (.bl (decide (lo ≤ i ∧ i ≤ hi))) mh := by
  simp [F__law_is_number, g__law_is_number, runF, startL, exitF]
  by_cases h : lo ≤ i <;> simp [h]
/-! ### _law_is_level -/
theorem il_loop {mh : List PV} {a0 a1 : Option PV} : ∀ (l : List (Nat × Nat)) (a2 a3 : Option PV), (∀ p ∈ l, p.1 ≤ 11 ∧ p.2 ≤ 11) → ∃ b2 b3,
    loopL (gSet 2) (mIf (mOr (mNot (mTest (mIsi ["tuple"] (gv 2)))) (mOr (mTest (mBin vNe (mCall vLen (mCons (gv 2) mNil)) (kv (.int 2)))) (mNot (mTest (mCall vAll (mCons (mComp (mIt (gv 2) srcT) (gSet 3) mYes (mApp 3 F__law_is_number (mCons (gv 3) (mCons (kv (.int 0)) (mCons (kv (.int 11)) mNil)))) [3]) mNil))))))
 (mRet (kv (.bl false)))
 mSkip) (l.map pr) [a0, a1, a2, a3] mh = .ok (.nx, [a0, a1, b2, b3]) mh
  | [], a2, a3, _ => ⟨a2, a3, rfl⟩
  | p :: l, a2, a3, h => by
    obtain ⟨p1, p2⟩ := h p (List.mem_cons_self ..)
    obtain ⟨b2, b3, hh⟩ := il_loop (mh := mh) (a0 := a0) (a1 := a1) l (some (pr p)) a3 fun q hq => h q (List.mem_cons_of_mem _ hq)
    refine ⟨b2, b3, (loop_nx (τ1 := [a0, a1, some (pr p), a3]) (m1 := mh) rfl ?_).trans hh⟩
    have cc := comp_map (f := mIt (gv 2) srcT) (G := gSet 3) (t := mYes) (vs := [3]) (e := mApp 3 F__law_is_number (mCons (gv 3) (mCons (kv (.int 0)) (mCons (kv (.int 11)) mNil)))) (τ := [a0, a1, some (pr p), a3]) (mh := mh) (m := mh) (en := fun i : Nat => .int (i : Nat)) (ys := [p.1, p.2]) (fun i => .bl (decide (i ≤ 11))) (it_ok rfl rfl) (Src.is_lst _) fun i hi => step_map rfl (app_ok (args3 rfl rfl rfl) ((e_number_i _ _ _ _).trans (by
      congr 2
      rw [Bool.eq_iff_iff, decide_eq_true_eq, decide_eq_true_eq]; omega)))
    have t1 : mTest (mIsi ["tuple"] (gv 2)) [a0, a1, some (pr p), a3] mh = .ok true mh := test_ok (m1 := mh) (by rw [ev_isi, gv_ok rfl]; simp [pr])
    have t2 : mTest (mBin vNe (mCall vLen (mCons (gv 2) mNil)) (kv (.int 2))) [a0, a1, some (pr p), a3] mh = .ok false mh := test_ok (bin_ok (call_ok (args1 rfl) rfl) rfl (ne_len (n := 2)))
    have t3 : mTest (mCall vAll (mCons (mComp (mIt (gv 2) srcT) (gSet 3) mYes (mApp 3 F__law_is_number (mCons (gv 3) (mCons (kv (.int 0)) (mCons (kv (.int 11)) mNil)))) [3]) mNil)) [a0, a1, some (pr p), a3] mh = .ok true mh := by
      refine test_ok (call_ok (args1 cc) ((v_all _ _ _).trans ?_))
      congr 2
      simp [p1, p2]
    exact (if_f ((or_f (not_ok t1)).trans ((or_f t2).trans (not_ok t3)))).trans rfl
theorem e_is_level {l : List (Nat × Nat)} (mh : List PV) (h : ∀ p ∈ l, p.1 ≤ 11 ∧ p.2 ≤ 11) : F__law_is_level [.tup (l.map pr), prs l] mh = .ok (.bl true) mh := by
  obtain ⟨b2, b3, hl⟩ := il_loop (mh := mh) (a0 := some (.tup (l.map pr))) (a1 := some (prs l)) l none none h
  have hfor := (for_src (f := mIt (gv 0) srcT) (mh := mh) (τ := [some (.tup (l.map pr)), some (prs l), none, none]) (it_ok rfl ev_srcT) (Src.is_lst _)).trans hl
  have t1 : mTest (mIsi ["tuple"] (gv 0)) [some (.tup (l.map pr)), some (prs l), none, none] mh = .ok true mh := test_ok (m1 := mh) (by rw [ev_isi, gv_ok rfl]; simp)
  have t2 : mTest (mBin vNe (mCall vLen (mCons (gv 0) mNil)) (mCall vLen (mCons (gv 1) mNil))) [some (.tup (l.map pr)), some (prs l), none, none] mh = .ok false mh :=
    test_ok (bin_ok (call_ok (args1 rfl) rfl) (call_ok (args1 rfl) rfl) ((v_ne_int _ _).trans (by rw [beq_self_eq_true]; rfl)))
  unfold F__law_is_level g__law_is_level
  generalize F__law_is_number = FI at hfor ⊢
  exact run_ret ((seq_nx ((if_f ((or_f (not_ok t1)).trans t2)).trans rfl)).trans ((seq_nx hfor).trans (ret_ok (bin_ok (call_ok (args1 rfl) rfl) rfl ((eq_prs (l := l) (l2 := l)).trans (by rw [decide_eq_true rfl])))))) fin_same
theorem P_le {r c h : Nat} (hr : r < 13) (hc : c < 13) : ∀ p ∈ P r c h, p.1 < r ∧ p.2 < c := fun p hp => by
  obtain ⟨k, m⟩ := p
  have := mem_pairs.mp hp
  exact ⟨this.1, this.2.1⟩
theorem Ps_at {r c n h : Nat} (hh : h < n) : (Ps r c n)[h]? = some (prs (P r c h)) := by
  unfold Ps
  rw [List.getElem?_map, List.getElem?_range hh]; rfl
theorem Ps_len {r c n : Nat} : (Ps r c n).length = n := by unfold Ps; rw [List.length_map, List.length_range]
theorem ix_tup {ts mh : List PV} {k : Nat} {t : PV} (h : ts[k]? = some t) : vIx (.tup ts) (.int (k : Nat)) mh = .ok t mh := by
  have hk : k < ts.length := (List.getElem?_eq_some_iff.mp h).1
  show (match atI ts ((k : Nat) : Int) with
        | some t => Rs.ok t mh
        | none => .no) = _
  rw [atI_nat ts k hk, h]
theorem e_is_levels {r c n : Nat} (mh : List PV) (hr : r < 13) (hc : c < 13) (hn : n ≤ 100) : F__law_is_levels [.tup ((List.range n).map fun h => .tup ((P r c h).map pr)), .lst (Ps r c n)] mh = .ok (.bl true) mh := by
  have t1 : mTest (mIsi ["tuple"] (gv 0)) [some (.tup ((List.range n).map fun h => .tup ((P r c h).map pr))), some (.lst (Ps r c n)), none] mh = .ok true mh := test_ok (m1 := mh) (by rw [ev_isi, gv_ok rfl]; simp)
  have t2 : mTest (mBin vNe (mCall vLen (mCons (gv 0) mNil)) (mCall vLen (mCons (gv 1) mNil))) [some (.tup ((List.range n).map fun h => .tup ((P r c h).map pr))), some (.lst (Ps r c n)), none] mh = .ok false mh :=
    test_ok (bin_ok (call_ok (args1 rfl) rfl) (call_ok (args1 rfl) rfl) ((v_ne_int _ _).trans (by rw [List.length_map, List.length_range, Ps_len, beq_self_eq_true]; rfl)))
  have cc := comp_map (f := mItA (mCons (mCall vLen (mCons (gv 1) mNil)) mNil) srcR1) (G := gSet 2) (t := mYes) (vs := [2]) (e := mApp 2 F__law_is_level (mCons (mBin vIx (gv 0) (gv 2)) (mCons (mBin vIx (gv 1) (gv 2)) mNil))) (τ := [some (.tup ((List.range n).map fun h => .tup ((P r c h).map pr))), some (.lst (Ps r c n)), none]) (mh := mh) (m := mh) (en := fun i : Nat => .int (i : Nat)) (ys := List.range n) (fun _ => .bl true)
    (itA_ok (args1 (call_ok (args1 rfl) rfl)) (by rw [Ps_len]; exact src_rng (by omega))) (is_rng n) fun h hh => by
      have hh := List.mem_range.mp hh
      have g0 : ((List.range n).map fun h => PV.tup ((P r c h).map pr))[h]? = some (.tup ((P r c h).map pr)) := by rw [List.getElem?_map, List.getElem?_range hh]; rfl
      exact step_map rfl (app_ok (args2 (bin_ok rfl rfl (ix_tup g0)) (bin_ok rfl rfl (ix_lst (Ps_at hh)))) (e_is_level mh fun p hp => by
        have := P_le hr hc p hp
        omega))
  have va := v_all (List.range n) (fun _ => true) mh
  rw [List.all_eq_true.mpr fun _ _ => rfl] at va
  unfold F__law_is_levels g__law_is_levels
  generalize F__law_is_level = FI at cc ⊢
  exact run_ret ((seq_nx ((if_f ((or_f (not_ok t1)).trans t2)).trans rfl)).trans (ret_ok (call_ok (args1 cc) va))) fin_same
/-! ### _law_height_of -/
theorem ho_loop {r c n : Nat} {p : Nat × Nat} {mh : List PV} : ∀ (j s : Nat) (a2 : Option PV), s + j ≤ n → ∃ τ',
    loopL (gSet 2) (mIf (mTest (mBin (vIn true) (gv 1) (mBin vIx (gv 0) (gv 2)))) (mRet (gv 2)) mSkip) ((List.range' s j).map fun i => .int (i : Nat)) [some (.lst (Ps r c n)), some (pr p), a2] mh =
      .ok (match hgt (fun h => decide (p ∈ P r c h)) s j with
        | .non => .nx
        | x => .ret x, τ') mh
  | 0, s, a2, _ => ⟨_, rfl⟩
  | j + 1, s, a2, hs => by
    rw [List.range'_succ, List.map_cons]
    have t1 : mTest (mBin (vIn true) (gv 1) (mBin vIx (gv 0) (gv 2))) [some (.lst (Ps r c n)), some (pr p), some (.int (s : Nat))] mh = .ok (!decide (p ∈ P r c s)) mh :=
      test_ok (bin_ok rfl (bin_ok rfl rfl (ix_lst (Ps_at (by omega)))) ((in_prs (l := P r c s) rfl).trans (by rw [Bool.true_xor])))
    unfold hgt
    cases hp : decide (p ∈ P r c s) with
    | true =>
      rw [hp] at t1
      obtain ⟨τ', h⟩ := ho_loop (r := r) (c := c) (n := n) (p := p) (mh := mh) j (s + 1) (some (.int (s : Nat))) (by omega)
      rw [if_pos rfl]
      exact ⟨τ', (loop_nx rfl ((if_f t1).trans rfl)).trans h⟩
    | false =>
      rw [hp] at t1
      rw [if_neg Bool.false_ne_true]
      exact ⟨_, loop_ret rfl ((if_t t1).trans (ret_ok rfl))⟩
theorem hgt_cases (P : Nat → Bool) : ∀ n s, hgt P s n = .non ∨ ∃ h, h < s + n ∧ hgt P s n = .int (h : Nat)
  | 0, s => .inl rfl
  | n + 1, s => by
    unfold hgt
    split
    · rcases hgt_cases P n (s + 1) with h | ⟨h, h1, h2⟩
      · exact .inl h
      · exact .inr ⟨h, by omega, h2⟩
    · exact .inr ⟨s, by omega, rfl⟩
theorem e_height_of {r c n : Nat} {p : Nat × Nat} (mh : List PV) (hn : n ≤ 100) : F__law_height_of [.lst (Ps r c n), pr p] mh = .ok (hgt (fun h => decide (p ∈ P r c h)) 0 n) mh := by
  obtain ⟨τ', h⟩ := ho_loop (r := r) (c := c) (n := n) (p := p) (mh := mh) n 0 none (by omega)
  rw [← List.range_eq_range'] at h
  have h2 := (for_src (f := mItA (mCons (mCall vLen (mCons (gv 0) mNil)) mNil) srcR1) (mh := mh) (τ := [some (.lst (Ps r c n)), some (pr p), none]) (itA_ok (args1 (call_ok (args1 rfl) rfl)) (by rw [Ps_len]; exact src_rng (by omega))) (is_rng n)).trans h
  unfold F__law_height_of g__law_height_of
  rcases hgt_cases (fun h => decide (p ∈ P r c h)) n 0 with e | ⟨j, _, e⟩
  · rw [e] at h2 ⊢
    exact run_ret ((seq_nx h2).trans (ret_ok rfl)) fin_same
  · rw [e] at h2 ⊢
    exact run_ret (seq_ret h2) fin_same
theorem hgt_congr {P Q : Nat → Bool} (h : ∀ j, P j = Q j) (s n : Nat) : hgt P s n = hgt Q s n := by
  rw [funext h]
end Lw

set_option Elab.async false
set_option linter.all false
set_option maxRecDepth 100000
namespace Lw
open PySem PySem.Spec L2 ML
/-! ### _law_heights_well -/
theorem mth_ok {C : Addr} {mn : Str} {n : Nat} {F : List PV → M PV} {g : LS → M PV} {fs : LS → M (List PV)} {τ : LS} {mh m1 m2 xs : List PV} {x : PV} {ns : List Str} {ts : List PV} {r : Rs PV} (h1 : g τ mh = .ok x m1) (h2 : objV m1 x = some (C, ns, ts)) (h3 : mn ∉ ns) (h4 : fs τ m1 = .ok xs m2) (hl : xs.length + 1 = n) (h5 : F (x :: xs) m2 = r) :
    mMth C mn n F g fs τ mh = r := by
  unfold mMth
  rw [h1, Rs.bind_ok, h2]
  show (if C = C ∧ mn ∉ ns then (fs τ m1).bind fun xs m2 => if xs.length + 1 = n then F (x :: xs) m2 else .no else .no) = _
  rw [if_pos ⟨rfl, h3⟩, h4, Rs.bind_ok, if_pos hl, h5]
abbrev hwB (C : Addr) (P H PH I : List PV → M PV) : LS → M (Out × LS) := (mSeq (mSet 6 (mTup (mCons (mApp 2 P (mCons (gv 0) (mCons (gv 3) mNil))) (mCons (mApp 2 P (mCons (gv 0) (mCons (gv 4) mNil))) mNil))))
 (mSeq (mSet 7 (mApp 2 H (mCons (gv 2) (mCons (gv 6) mNil))))
 (mSeq (mSet 8 (mMth C "parting_height" 3 PH (gv 1) (mCons (mBin vIx (gv 6) (kv (.int 0))) (mCons (mBin vIx (gv 6) (kv (.int 1))) mNil))))
 (mIf (mTest (mBin (vIs false) (gv 7) (kv .non)))
 (mIf (mTest (mBin (vIs true) (gv 8) (kv .non)))
 (mRet (kv (.bl false)))
 mSkip)
 (mIf (mNot (mTest (mApp 3 I (mCons (gv 8) (mCons (gv 7) (mCons (gv 7) mNil))))))
 (mRet (kv (.bl false)))
 mSkip)))))
theorem hw_body {C : Addr} {al : List Nat} {r c z n k N : Nat} {m : List PV} (hr : r < 13) (hc : c < 13) (r0 : 0 < r) (c0 : 0 < c) (S : Sr m n k) (hk : k + 10 < 1000000) (hN : N ≤ 7) {a5 a6 a7 a8 : Option PV} : ∃ q b6 b7 b8,
    hwB C F__law_pick F__law_height_of (F_Contest_parting_height C) F__law_is_number [some (.loc n), some (cObj C al (rep r z) (rep c z) (N + 1)), some (.lst (Ps r c (N + 1))), some (.int (r : Nat)), some (.int (c : Nat)), a5, a6, a7, a8] m =
      .ok (.nx, [some (.loc n), some (cObj C al (rep r z) (rep c z) (N + 1)), some (.lst (Ps r c (N + 1))), some (.int (r : Nat)), some (.int (c : Nat)), a5, b6, b7, b8]) (m.set n q) ∧ Sr (m.set n q) n (k + 2) := by
  obtain ⟨d1, q1, hd1, hp1, S1⟩ := pick (w := r) S (by omega) r0 (by omega)
  obtain ⟨d2, q2, hd2, hp2, S2⟩ := pick (w := c) S1 (by omega) c0 (by omega)
  rw [List.set_set] at hp2 S2
  generalize m.set n q1 = M1 at hp1 hp2
  refine ⟨q2, some (pr (d1, d2)), some (hgt (fun h => decide ((d1, d2) ∈ P r c h)) 0 (N + 1)), some (hgt (fun h => decide ((d1, d2) ∈ P r c h)) 0 (N + 1)), ?_, S2⟩
  generalize m.set n q2 = M at *
  have h7 := e_height_of (r := r) (c := c) (n := N + 1) (p := (d1, d2)) M (by omega)
  have h8 := e_parting (C := C) (al := al) (row := rep r z) (other := rep c z) (n := N + 1) M (k := d1) (m := d2) (by rw [rep_len]; exact hd1) (by rw [rep_len]; exact hd2) (by rw [rep_len]; omega) (by rw [rep_len]; omega)
  have heq : hgt (fun h => lvT (rep r z) (rep c z) h d1 d2) 0 (N + 1) = hgt (fun h => decide ((d1, d2) ∈ P r c h)) 0 (N + 1) := hgt_congr (fun h => by
    rw [lv_cl hr hc h d1 d2 hd1 hd2, Bool.eq_iff_iff, decide_eq_true_eq]
    unfold P
    rw [mem_pairs]
    exact ⟨fun e => ⟨hd1, hd2, e⟩, fun e => e.2.2⟩) _ _
  rw [heq] at h8
  have hi := e_number_i
  generalize F__law_pick = FP at hp1 hp2 ⊢
  generalize F__law_height_of = FH at h7 ⊢
  generalize F_Contest_parting_height C = FO at h8 ⊢
  generalize F__law_is_number = FI at hi ⊢
  have s6 : mSet 6 (mTup (mCons (mApp 2 FP (mCons (gv 0) (mCons (gv 3) mNil))) (mCons (mApp 2 FP (mCons (gv 0) (mCons (gv 4) mNil))) mNil))) [some (.loc n), some (cObj C al (rep r z) (rep c z) (N + 1)), some (.lst (Ps r c (N + 1))), some (.int (r : Nat)), some (.int (c : Nat)), a5, a6, a7, a8] m =
      .ok (.nx, [some (.loc n), some (cObj C al (rep r z) (rep c z) (N + 1)), some (.lst (Ps r c (N + 1))), some (.int (r : Nat)), some (.int (c : Nat)), a5, some (pr (d1, d2)), a7, a8]) M :=
    set_ok (tup_ok (args2 (app_ok (args2 rfl rfl) hp1) (app_ok (args2 rfl rfl) hp2)) (by simp))
  generalize hx : hgt (fun h => decide ((d1, d2) ∈ P r c h)) 0 (N + 1) = x at h7 h8 ⊢
  have hcase := hgt_cases (fun h => decide ((d1, d2) ∈ P r c h)) (N + 1) 0
  rw [hx] at hcase
  have hcn : (("parting_height" : Str)) ∉ cNames := by decide +kernel
  have s8 : mSet 8 (mMth C "parting_height" 3 FO (gv 1) (mCons (mBin vIx (gv 6) (kv (.int 0))) (mCons (mBin vIx (gv 6) (kv (.int 1))) mNil))) [some (.loc n), some (cObj C al (rep r z) (rep c z) (N + 1)), some (.lst (Ps r c (N + 1))), some (.int (r : Nat)), some (.int (c : Nat)), a5, some (pr (d1, d2)), some x, a8] M =
      .ok (.nx, [some (.loc n), some (cObj C al (rep r z) (rep c z) (N + 1)), some (.lst (Ps r c (N + 1))), some (.int (r : Nat)), some (.int (c : Nat)), a5, some (pr (d1, d2)), some x, some x]) M :=
    set_ok (mth_ok rfl rfl hcn (args2 (bin_ok rfl rfl (ix_tup (k := 0) rfl)) (bin_ok rfl rfl (ix_tup (k := 1) rfl))) rfl h8)
  refine (seq_nx s6).trans ((seq_nx (set_ok (app_ok (args2 rfl rfl) h7))).trans ((seq_nx s8).trans ?_))
  rcases hcase with e | ⟨j, _, e⟩
  · subst e
    exact (if_t (test_ok (bin_ok rfl rfl rfl))).trans ((if_f (test_ok (bin_ok rfl rfl rfl))).trans rfl)
  · subst e
    have hj := hi (j : Nat) (j : Nat) (j : Nat) M
    rw [decide_eq_true ⟨Int.le_refl _, Int.le_refl _⟩] at hj
    exact (if_f (test_ok (bin_ok rfl rfl rfl))).trans ((if_f (not_ok (b := true) (test_ok (app_ok (args3 rfl rfl rfl) hj)))).trans rfl)
theorem hw_loop {C : Addr} {al : List Nat} {r c z n N : Nat} (hr : r < 13) (hc : c < 13) (r0 : 0 < r) (c0 : 0 < c) (hN : N ≤ 7) : ∀ (xs : List PV) (m : List PV) (k : Nat) (a5 a6 a7 a8 : Option PV), Sr m n k → k + 2 * xs.length + 10 < 1000000 → ∃ q b5 b6 b7 b8,
    loopL (gSet 5) (hwB C F__law_pick F__law_height_of (F_Contest_parting_height C) F__law_is_number) xs [some (.loc n), some (cObj C al (rep r z) (rep c z) (N + 1)), some (.lst (Ps r c (N + 1))), some (.int (r : Nat)), some (.int (c : Nat)), a5, a6, a7, a8] m =
      .ok (.nx, [some (.loc n), some (cObj C al (rep r z) (rep c z) (N + 1)), some (.lst (Ps r c (N + 1))), some (.int (r : Nat)), some (.int (c : Nat)), b5, b6, b7, b8]) (m.set n q) ∧ Sr (m.set n q) n (k + 2 * xs.length)
  | [], m, k, a5, a6, a7, a8, S, _ => by
    obtain ⟨a, b, c, S0⟩ := id S
    have e : m.set n (.lst [.int a, .int b, .int c]) = m := by
      obtain ⟨h1, h2⟩ := List.getElem?_eq_some_iff.mp S0.at_
      rw [← h2, List.set_getElem_self]
    exact ⟨.lst [.int a, .int b, .int c], a5, a6, a7, a8, by rw [e]; rfl, by rw [e]; exact S⟩
  | x :: xs, m, k, a5, a6, a7, a8, S, hk => by
    have hk : k + 2 * (xs.length + 1) + 10 < 1000000 := hk
    obtain ⟨q, b6, b7, b8, h1, S1⟩ := hw_body (C := C) (al := al) (z := z) hr hc r0 c0 S (by omega) hN (a5 := some x) (a6 := a6) (a7 := a7) (a8 := a8)
    obtain ⟨q2, b5, c6, c7, c8, h2, S2⟩ := hw_loop (C := C) (al := al) (z := z) hr hc r0 c0 hN xs (m.set n q) (k + 2) (some x) b6 b7 b8 S1 (by omega)
    rw [List.set_set] at h2 S2
    exact ⟨q2, b5, c6, c7, c8, (loop_nx rfl h1).trans h2, S2.le (by rw [List.length_cons]; omega)⟩
theorem set_self {m : List PV} {n k : Nat} (S : Sr m n k) : ∃ q, m.set n q = m := by
  obtain ⟨a, b, c, S0⟩ := S
  obtain ⟨h1, h2⟩ := List.getElem?_eq_some_iff.mp S0.at_
  exact ⟨.lst [.int a, .int b, .int c], by rw [← h2, List.set_getElem_self]⟩
theorem e_heights {C : Addr} {al : List Nat} {r c z n k N : Nat} {m : List PV} (hr : r < 13) (hc : c < 13) (S : Sr m n k) (hk : k + 100 < 1000000) (hN : N ≤ 7) : ∃ q,
    F__law_heights_well C [.loc n, cObj C al (rep r z) (rep c z) (N + 1), .lst (Ps r c (N + 1)), .int (r : Nat), .int (c : Nat)] m = .ok (.bl true) (m.set n q) ∧ Sr (m.set n q) n (k + 8) := by
  unfold F__law_heights_well g__law_heights_well
  have tz : ∀ (i j : Nat) (v : Nat) (τ : LS), τ[i]? = some (some (.int (v : Nat))) → mTest (mBin vEq (gv i) (kv (.int 0))) τ m = .ok (decide (v = 0)) m := fun i j v τ h => test_ok (bin_ok (gv_ok h) rfl (eq_small (b := 0)))
  have t3 := tz 3 0 r [some (.loc n), some (cObj C al (rep r z) (rep c z) (N + 1)), some (.lst (Ps r c (N + 1))), some (.int (r : Nat)), some (.int (c : Nat)), none, none, none, none] rfl
  have t4 := tz 4 0 c [some (.loc n), some (cObj C al (rep r z) (rep c z) (N + 1)), some (.lst (Ps r c (N + 1))), some (.int (r : Nat)), some (.int (c : Nat)), none, none, none, none] rfl
  by_cases hr0 : r = 0
  · obtain ⟨q, hq⟩ := set_self S
    refine ⟨q, ?_, by rw [hq]; exact S.le (by omega)⟩
    rw [hq]
    rw [decide_eq_true hr0] at t3
    exact run_ret (seq_ret ((if_t (or_t t3)).trans (ret_ok rfl))) fin_same
  · rw [decide_eq_false hr0] at t3
    by_cases hc0 : c = 0
    · obtain ⟨q, hq⟩ := set_self S
      refine ⟨q, ?_, by rw [hq]; exact S.le (by omega)⟩
      rw [hq]
      rw [decide_eq_true hc0] at t4
      exact run_ret (seq_ret ((if_t ((or_f t3).trans t4)).trans (ret_ok rfl))) fin_same
    · rw [decide_eq_false hc0] at t4
      obtain ⟨q, b5, b6, b7, b8, h, S'⟩ := hw_loop (C := C) (al := al) (z := z) (n := n) hr hc (by omega) (by omega) hN ((List.range 4).map fun i => .int (i : Nat)) m k none none none none S (by simp; omega)
      have hfor := (for_src (f := mItA (mCons (kv (.int 4)) mNil) srcR1) (mh := m) (τ := [some (.loc n), some (cObj C al (rep r z) (rep c z) (N + 1)), some (.lst (Ps r c (N + 1))), some (.int (r : Nat)), some (.int (c : Nat)), none, none, none, none]) (itA_ok (args1 rfl) (src_rng (n := 4) (by omega))) (is_rng 4)).trans h
      refine ⟨q, ?_, S'.le (by simp)⟩
      generalize F__law_pick = FP at hfor ⊢
      generalize F__law_height_of = FH at hfor ⊢
      generalize F_Contest_parting_height C = FO at hfor ⊢
      generalize F__law_is_number = FI at hfor ⊢
      exact run_retm ((seq_nx ((if_f ((or_f t3).trans t4)).trans rfl)).trans ((seq_nx hfor).trans (ret_ok rfl))) (fin_len List.length_set)
end Lw

set_option Elab.async false
set_option linter.all false
set_option maxRecDepth 100000
namespace Lw
open PySem PySem.Spec L2 ML
/-! ### the tables of rows of one letter, judged -/
def Q (r c N i : Nat) : List (Nat × Nat) := P r c (min i N)
def pssF (r c N s n : Nat) : List (List (Nat × Nat)) := (List.range' s n).map (Q r c N)
theorem Q_succ {r c N : Nat} (h : First r c N) (s : Nat) : Q r c N (s + 1) = P r c (min s N + 1) := by
  unfold Q
  by_cases hs : s < N
  · rw [show min (s + 1) N = min s N + 1 by omega]
  · rw [show min (s + 1) N = N by omega, show min s N = N by omega, h.at_]
theorem mem_P {r c h k m : Nat} (hk : k < r) (hm : m < c) : memT (P r c h) k m = cl r c h k m := by
  unfold memT P
  rw [Bool.eq_iff_iff, decide_eq_true_eq, mem_pairs]
  exact ⟨fun e => e.2.2, fun e => ⟨hk, hm, e⟩⟩
theorem ans_Q {r c N : Nat} (hr : r < 13) (hc : c < 13) (h : First r c N) (s : Nat) (g : List (Nat × Nat)) : ansAll r c (memT g) (memT (Q r c N s)) = true ↔ ∀ k m, k < r → m < c → (k, m) ∈ g → (k, m) ∈ Q r c N (s + 1) := by
  have hf : Same2 r c (memT (Q r c N s)) (cl r c (min s N)) := fun k m hk hm => mem_P hk hm
  rw [ans_cl hr hc hf, Q_succ h]
  unfold P
  constructor
  · intro a k m hk hm e
    rw [mem_pairs]
    exact ⟨hk, hm, a k m hk hm (decide_eq_true e)⟩
  · intro a k m hk hm e
    exact (mem_pairs.mp (a k m hk hm (of_decide_eq_true e))).2.2
theorem chain_Q {r c N : Nat} (hr : r < 13) (hc : c < 13) (h : First r c N) : ∀ (n s : Nat), chain r c (memT (Q r c N s)) ((pssF r c N (s + 1) n).map memT) = true
  | 0, s => rfl
  | n + 1, s => by
    unfold pssF
    rw [List.range'_succ, List.map_cons, List.map_cons, chain, (ans_Q hr hc h s _).mpr fun k m _ _ e => e, Bool.true_and]
    exact chain_Q hr hc h n (s + 1)
theorem good_Q {r c N : Nat} (hr : r < 13) (hc : c < 13) (h : First r c N) : ∀ (s n : Nat), good r c (pssF r c N s n) = true
  | s, 0 => rfl
  | s, n + 1 => by
    unfold pssF
    rw [List.range'_succ, List.map_cons]
    exact chain_Q hr hc h n s
theorem chain_bad {r c : Nat} {g g' : Nat → Nat → Bool} (hb : ansAll r c g' g = false) : ∀ (i : Nat) (gs : List (Nat → Nat → Bool)) (f : Nat → Nat → Bool), (f :: gs)[i]? = some g → gs[i]? = some g' → chain r c f gs = false
  | 0, [], f, _, h2 => by simp at h2
  | 0, a :: gs, f, h1, h2 => by
    simp at h1 h2
    subst h1 h2
    rw [chain, hb, Bool.false_and]
  | i + 1, [], f, _, h2 => by simp at h2
  | i + 1, a :: gs, f, h1, h2 => by
    rw [chain, chain_bad hb i gs a (by simpa using h1) (by simpa using h2), Bool.and_false]
theorem good_bad {r c i : Nat} {g g' : List (Nat × Nat)} (hb : ansAll r c (memT g') (memT g) = false) : ∀ (pss : List (List (Nat × Nat))), pss[i]? = some g → pss[i + 1]? = some g' → good r c pss = false
  | [], h1, _ => by simp at h1
  | ps :: pss, h1, h2 => by
    refine chain_bad hb i (pss.map memT) (memT ps) ?_ ?_
    · rw [← List.map_cons, List.getElem?_map, h1]; rfl
    · rw [List.getElem?_map]
      have : pss[i]? = some g' := by simpa using h2
      rw [this]; rfl
theorem pssF_at {r c N s n i : Nat} (h : i < n) : (pssF r c N s n)[i]? = some (Q r c N (s + i)) := by
  unfold pssF
  rw [List.getElem?_map, List.getElem?_range' h, Nat.one_mul]; rfl
theorem pssF_len {r c N s n : Nat} : (pssF r c N s n).length = n := by unfold pssF; rw [List.length_map, List.length_range']
/-- one pair more -/
theorem good_more {r c N n at_ : Nat} (hr : r < 13) (hc : c < 13) (h : First r c N) (h1 : 1 ≤ at_) (h2 : at_ < n) {p : Nat × Nat} (hp : p.1 < r ∧ p.2 < c) (hn : p ∉ Q r c N at_) : good r c ((pssF r c N 0 n).set at_ (Q r c N at_ ++ [p])) = false := by
  refine good_bad (i := at_ - 1) (g := Q r c N (at_ - 1)) (g' := Q r c N at_ ++ [p]) ?_ _ ?_ ?_
  · rw [Bool.eq_false_iff]
    intro e
    rw [ans_Q hr hc h] at e
    have := e p.1 p.2 hp.1 hp.2 (List.mem_append.mpr (.inr (List.mem_singleton.mpr rfl)))
    rw [show at_ - 1 + 1 = at_ by omega] at this
    exact hn this
  · rw [List.getElem?_set_ne (by omega), pssF_at (by omega), Nat.zero_add]
  · rw [show at_ - 1 + 1 = at_ by omega, List.getElem?_set_self (by rw [pssF_len]; exact h2)]
theorem pairs_rep {r c z : Nat} {ps : List (Nat × Nat)} (h : ∀ p ∈ ps, p.1 < r ∧ p.2 < c) : PairsOk (rep r z) (rep c z) ps := fun p hp => by
  obtain ⟨h1, h2⟩ := h p hp
  rw [rep_len, rep_len, rep_get h1, rep_get h2]
  exact ⟨h1, h2, rfl⟩
theorem Q_le {r c N i : Nat} (hr : r < 13) (hc : c < 13) : ∀ p ∈ Q r c N i, p.1 < r ∧ p.2 < c := P_le hr hc
theorem Q_len {r c N i : Nat} (hr : r < 13) (hc : c < 13) : (Q r c N i).length ≤ 144 := Nat.le_trans pairs_len (Nat.mul_le_mul (show r ≤ 12 by omega) (show c ≤ 12 by omega))
/-! ### odd things -/
def odds (r c : Nat) : List PV := [.tup [.int 0], .tup [.int (r : Nat), .int 0], .tup [.int 0, .int (c : Nat)], .tup [.int (-1), .int 0], .tup [.bl false, .int 0], .tup [.tup [.int 0, .int 0]], .tup [.int 0, .int 0, .int 0], .str "ab", .non, .dk [] []]
theorem bad_len {r c : Nat} {ts : List PV} (h : ts.length ≠ 2) : Bad r c (.tup ts) ∧ Bad r c (cv (.tup ts)) := ⟨.inr (.inl ⟨false, ts, rfl, h⟩), .inr (.inl ⟨true, ts, rfl, h⟩)⟩
theorem bad_two {r c : Nat} {y z : PV} (hy : intB y) (hz : intB z) (h : (inr y r && inr z c) = false) : Bad r c (.tup [y, z]) ∧ Bad r c (cv (.tup [y, z])) := ⟨.inr (.inr ⟨false, y, z, rfl, hy, hz, h⟩), .inr (.inr ⟨true, y, z, rfl, hy, hz, h⟩)⟩
theorem nice_tup {ts : List PV} (hl : ts.length ≤ 3) (h : ∀ z ∈ ts, Nice z 10 0) : Item (.tup ts) := by
  refine .inl ⟨ts, rfl, ?_⟩
  exact (nice_seq false (w := 10) (d := 0) h).mono (by have := Nat.mul_le_mul_left 11 hl; omega) (by omega)
theorem odd_at {r c d : Nat} (hr : r < 13) (hc : c < 13) (hd : d < 10) : ∃ x, (odds r c)[d]? = some x ∧ Item x ∧ Bad r c x ∧ Bad r c (cv x) := by
  have ni : ∀ i : Nat, i < 13 → Nice (.int (i : Nat)) 10 0 := fun i hi => nice_int (by omega) (by omega)
  have i0 : intB (.int 0) := .inl ⟨0, rfl⟩
  match d, hd with
  | 0, _ => exact ⟨_, rfl, nice_tup (by simp) (by simp; exact ni 0 (by omega)), bad_len (by simp)⟩
  | 1, _ => exact ⟨_, rfl, nice_tup (by simp) (by simp; exact ⟨ni r hr, ni 0 (by omega)⟩), bad_two (.inl ⟨_, rfl⟩) i0 (by simp [inr]; omega)⟩
  | 2, _ => exact ⟨_, rfl, nice_tup (by simp) (by simp; exact ⟨ni 0 (by omega), ni c hc⟩), bad_two i0 (.inl ⟨_, rfl⟩) (by simp [inr]; omega)⟩
  | 3, _ => exact ⟨_, rfl, nice_tup (by simp) (by simp; exact ⟨nice_int (by omega) (by omega), ni 0 (by omega)⟩), bad_two (.inl ⟨_, rfl⟩) i0 (by simp [inr])⟩
  | 4, _ => exact ⟨_, rfl, nice_tup (by simp) (by simp; exact ⟨nice_bl false, ni 0 (by omega)⟩), bad_two (.inr ⟨_, rfl⟩) i0 (by simp [inr])⟩
  | 5, _ => exact ⟨_, rfl, .inl ⟨_, rfl, (nice_seq false (w := 22) (d := 1) (xs := [.tup [.int 0, .int 0]]) fun z hz => by
      rw [List.mem_singleton.mp hz]
      exact nice_seq false (w := 10) (d := 0) (xs := [.int 0, .int 0]) fun y hy => by
        rcases List.mem_cons.mp hy with rfl | hy
        · exact ni 0 (by omega)
        · rw [List.mem_singleton.mp hy]; exact ni 0 (by omega)).mono (by simp) (by omega)⟩, bad_len (by simp)⟩
  | 6, _ => exact ⟨_, rfl, nice_tup (by simp) (by simp; exact ni 0 (by omega)), bad_len (by simp)⟩
  | 7, _ => exact ⟨_, rfl, .inr (.inl rfl), .inl (.inr (.inl ⟨_, rfl⟩)), .inl (.inr (.inl ⟨_, rfl⟩))⟩
  | 8, _ => exact ⟨_, rfl, .inr (.inr (.inl rfl)), .inl (.inl rfl), .inl (.inl rfl)⟩
  | 9, _ => exact ⟨_, rfl, .inr (.inr (.inr rfl)), .inl (.inr (.inr rfl)), .inl (.inr (.inr rfl))⟩
  | n + 10, h => omega
end Lw

set_option Elab.async false
set_option linter.all false
set_option maxRecDepth 100000
namespace Lw
open PySem PySem.Spec L2 ML
/-! ### a table that is being changed: its list at t, its levels at ids -/
structure Tab (m : List PV) (n : Nat) (M : List PV) (t : Nat) (ids : List Nat) (LL : List (List PV)) : Prop where
  ext : ∃ q ex, M = m.set n q ++ ex
  n_lt : n < m.length
  t_ge : m.length ≤ t
  tb : M[t]? = some (PV.lst (ids.map PV.loc))
  len : ids.length = LL.length
  ge : ∀ (i j : Nat), ids[i]? = some j → m.length ≤ j ∧ j ≠ t
  at_ : ∀ (i j : Nat) (is : List PV), ids[i]? = some j → LL[i]? = some is → M[j]? = some (PV.lst is)
  nd : ∀ (i i' j : Nat), ids[i]? = some j → ids[i']? = some j → i = i'
section
variable {m M : List PV} {n t : Nat} {ids : List Nat} {LL : List (List PV)}
theorem Tab.setN (T : Tab m n M t ids LL) (q : PV) : Tab m n (M.set n q) t ids LL := by
  refine ⟨?_, T.n_lt, T.t_ge, ?_, T.len, T.ge, fun i j is h1 h2 => ?_, T.nd⟩
  · obtain ⟨q0, ex, e⟩ := T.ext
    exact ⟨q, ex, by rw [e, List.set_append_left _ _ (by rw [List.length_set]; exact T.n_lt), List.set_set]⟩
  · rw [List.getElem?_set_ne (by have := T.t_ge; have := T.n_lt; omega)]; exact T.tb
  · rw [List.getElem?_set_ne (by have := (T.ge i j h1).1; have := T.n_lt; omega)]; exact T.at_ i j is h1 h2
theorem Tab.put (T : Tab m n M t ids LL) {a j : Nat} (ha : ids[a]? = some j) (new : List PV) : Tab m n (M.set j (PV.lst new)) t ids (LL.set a new) := by
  obtain ⟨hj, hjt⟩ := T.ge a j ha
  obtain ⟨q0, ex, e⟩ := T.ext
  refine ⟨⟨q0, ex.set (j - m.length) (PV.lst new), ?_⟩, T.n_lt, T.t_ge, ?_, by rw [List.length_set]; exact T.len, T.ge, fun i j' is h1 h2 => ?_, T.nd⟩
  · rw [e, List.set_append_right _ _ (by rw [List.length_set]; exact hj), List.length_set]
  · rw [List.getElem?_set_ne hjt]; exact T.tb
  · by_cases hi : i = a
    · subst hi
      rw [ha] at h1
      cases h1
      have hal : i < LL.length := by rw [← T.len]; exact (List.getElem?_eq_some_iff.mp ha).1
      rw [List.getElem?_set_self hal] at h2
      cases h2
      have hjl : j < M.length := by
        have := T.at_ i j _ ha (List.getElem?_eq_getElem hal)
        exact (List.getElem?_eq_some_iff.mp this).1
      exact List.getElem?_set_self hjl
    · rw [List.getElem?_set_ne (fun e => hi e.symm)] at h2
      have hne : j' ≠ j := fun e => hi (T.nd i a j (e ▸ h1) ha)
      rw [List.getElem?_set_ne (fun e => hne e.symm)]
      exact T.at_ i j' is h1 h2
theorem Tab.new (T : Tab m n M t ids LL) (is : List PV) : Tab m n ((M ++ [PV.lst is]).set t (PV.lst (ids.map PV.loc ++ [PV.loc M.length]))) t (ids ++ [M.length]) (LL ++ [is]) := by
  obtain ⟨q0, ex, e⟩ := T.ext
  have htM : t < M.length := (List.getElem?_eq_some_iff.mp T.tb).1
  have hlt : ∀ i j, ids[i]? = some j → j < M.length := fun i j h => by
    have hi : i < LL.length := by rw [← T.len]; exact (List.getElem?_eq_some_iff.mp h).1
    exact (List.getElem?_eq_some_iff.mp (T.at_ i j _ h (List.getElem?_eq_getElem hi))).1
  have cas : ∀ i j, (ids ++ [M.length])[i]? = some j → (i < ids.length ∧ ids[i]? = some j) ∨ (i = ids.length ∧ j = M.length) := fun i j h => by
    by_cases hi : i < ids.length
    · rw [List.getElem?_append_left hi] at h; exact .inl ⟨hi, h⟩
    · rw [List.getElem?_append_right (by omega)] at h
      have : i - ids.length = 0 := by
        have := (List.getElem?_eq_some_iff.mp h).1
        simp at this; omega
      rw [this] at h
      simp at h
      exact .inr ⟨by omega, h.symm⟩
  refine ⟨⟨q0, (ex ++ [PV.lst is]).set (t - m.length) (PV.lst (ids.map PV.loc ++ [PV.loc M.length])), ?_⟩, T.n_lt, T.t_ge, ?_, by rw [List.length_append, List.length_append, T.len]; rfl, fun i j h => ?_, fun i j is' h1 h2 => ?_, fun i i' j h1 h2 => ?_⟩
  · rw [e, List.append_assoc, List.set_append_right _ _ (by rw [List.length_set]; exact T.t_ge), List.length_set]
  · rw [List.getElem?_set_self (by rw [List.length_append]; omega), List.map_append]; rfl
  · rcases cas i j h with ⟨_, h⟩ | ⟨_, rfl⟩
    · exact T.ge i j h
    · have := T.t_ge; omega
  · rcases cas i j h1 with ⟨hi, h1⟩ | ⟨hi, rfl⟩
    · rw [List.getElem?_append_left (by rw [← T.len]; exact hi)] at h2
      rw [List.getElem?_set_ne (fun e => (T.ge i j h1).2 e.symm), List.getElem?_append_left (hlt i j h1)]
      exact T.at_ i j is' h1 h2
    · rw [hi, T.len, List.getElem?_append_right (Nat.le_refl _), Nat.sub_self] at h2
      simp at h2
      subst h2
      rw [List.getElem?_set_ne (by omega), List.getElem?_append_right (Nat.le_refl _), Nat.sub_self]; rfl
  · rcases cas i j h1 with ⟨hi, h1⟩ | ⟨hi, rfl⟩
    · rcases cas i' j h2 with ⟨hi', h2⟩ | ⟨hi', rfl⟩
      · exact T.nd i i' j h1 h2
      · have := hlt i _ h1; omega
    · rcases cas i' _ h2 with ⟨hi', h2⟩ | ⟨hi', _⟩
      · have := hlt i' _ h2; omega
      · omega
theorem Tab.lvls (T : Tab m n M t ids LL) : Lvls M (PV.loc t) LL := by
  refine ⟨ids.map PV.loc, ?_, ?_⟩
  · show (match M[t]? with
      | some (.lst ts) => some ts
      | _ => none) = _
    rw [T.tb]
  · refine List.ext_getElem? fun i => ?_
    rw [List.map_map, List.getElem?_map, List.getElem?_map]
    by_cases hi : i < ids.length
    · have h1 := List.getElem?_eq_getElem hi
      have hi2 : i < LL.length := by rw [← T.len]; exact hi
      have h2 := List.getElem?_eq_getElem hi2
      rw [h1, h2]
      show some (match M[ids[i]]? with
        | some (.lst ts) => some ts
        | _ => none) = _
      rw [T.at_ i _ _ h1 h2]; rfl
    · rw [List.getElem?_eq_none (by omega), List.getElem?_eq_none (by rw [← T.len]; omega)]; rfl
theorem Tab.lvls_drop (T : Tab m n M t ids LL) (a : Nat) : Lvls M (PV.lst ((ids.map PV.loc).drop a)) (LL.drop a) := by
  obtain ⟨xs, h1, h2⟩ := T.lvls.ex
  have h1' : seqL M (PV.loc t) = some (ids.map PV.loc) := by
    show (match M[t]? with
      | some (.lst ts) => some ts
      | _ => none) = _
    rw [T.tb]
  rw [h1'] at h1
  cases h1
  exact ⟨_, rfl, by rw [List.map_drop, h2, ← List.map_drop]⟩
theorem Tab.id (T : Tab m n M t ids LL) {i : Nat} (hi : i < LL.length) : ∃ j, ids[i]? = some j := ⟨_, List.getElem?_eq_getElem (by rw [T.len]; exact hi)⟩
theorem Tab.ix (T : Tab m n M t ids LL) {i j : Nat} (h : ids[i]? = some j) : vIx (PV.loc t) (.int (i : Nat)) M = .ok (PV.loc j) M := ix_loc T.tb (by rw [List.getElem?_map, h]; rfl)
theorem Tab.sr (T : Tab m n M t ids LL) {k a j : Nat} (S : Sr M n k) (ha : ids[a]? = some j) (new : PV) : Sr (M.set j new) n k := S.of (by rw [List.getElem?_set_ne (by have := (T.ge a j ha).1; have := T.n_lt; omega)])
end
theorem pop_last {M ts : List PV} {j : Nat} {x : PV} (h : M[j]? = some (PV.lst (ts ++ [x]))) : vPop (PV.loc j) [] M = .ok x (M.set j (PV.lst ts)) := by
  have e : locL M (PV.loc j) = some (j, ts ++ [x]) := by
    show (match M[j]? with
      | some (.lst ts) => some (j, ts)
      | _ => none) = _
    rw [h]
  unfold vPop
  simp only [e]
  rw [show (ts ++ [x])[(ts ++ [x]).length - 1]? = some x by simp]
  simp
/-- a table laid by a comprehension of list(..) -/
theorem tab_new {f : LS → M Src} {G : PV → LS → M LS} {e : LS → M PV} {vs : List Nat} {τ : LS} {m : List PV} {n : Nat} {q : PV} {LL : List (List PV)} {xs : List PV} (hn : n < m.length) (h1 : f τ (m.set n q) = .ok (Src.lst xs) (m.set n q)) (hl : xs.length = LL.length)
    (h : ∀ (i : Nat) (x : PV) (is : List PV), xs[i]? = some x → LL[i]? = some is → ∀ M : List PV, ∃ τ1, G x (wipeL τ vs) M = .ok τ1 M ∧ e τ1 M = .ok (PV.loc M.length) (M ++ [PV.lst is])) :
    mCompL f G mYes e vs τ (m.set n q) = .ok (PV.loc (m.length + LL.length)) (m.set n q ++ (LL.map PV.lst ++ [PV.lst ((List.range LL.length).map fun i => PV.loc (m.length + i))])) ∧
      Tab m n (m.set n q ++ (LL.map PV.lst ++ [PV.lst ((List.range LL.length).map fun i => PV.loc (m.length + i))])) (m.length + LL.length) ((List.range LL.length).map (m.length + ·)) LL := by
  have key : ∀ (xs : List PV) (LL : List (List PV)) (acc M : List PV), xs.length = LL.length → (∀ (i : Nat) (x : PV) (is : List PV), xs[i]? = some x → LL[i]? = some is → ∀ M : List PV, ∃ τ1, G x (wipeL τ vs) M = .ok τ1 M ∧ e τ1 M = .ok (PV.loc M.length) (M ++ [PV.lst is])) →
      compL G mYes e (wipeL τ vs) xs acc M = .ok (acc ++ (List.range LL.length).map fun i => PV.loc (M.length + i)) (M ++ LL.map PV.lst) := by
    intro xs
    induction xs with
    | nil =>
      intro LL acc M hl _
      cases LL with
      | nil => simp [compL]
      | cons => simp at hl
    | cons x xs ih =>
      intro LL acc M hl hh
      cases LL with
      | nil => simp at hl
      | cons is LL =>
        obtain ⟨τ1, a1, a2⟩ := hh 0 x is rfl rfl M
        rw [compL, a1, Rs.bind_ok, ev_yes, Rs.bind_ok, if_pos rfl, a2, Rs.bind_ok, ih LL _ _ (by simpa using hl) fun i x is h1 h2 => hh (i + 1) x is (by simpa using h1) (by simpa using h2), List.length_cons, List.range_succ_eq_map, List.map_cons, List.map_map, List.append_assoc, List.append_assoc]
        congr 1
        show acc ++ ([PV.loc M.length] ++ _) = acc ++ ([PV.loc (M.length + 0)] ++ _)
        rw [Nat.add_zero]
        congr 2
        refine List.map_congr_left fun i _ => ?_
        show PV.loc ((M ++ [PV.lst is]).length + i) = PV.loc (M.length + (i + 1))
        rw [List.length_append]
        congr 1
        show M.length + 1 + i = _
        omega
  have hm : (m.set n q).length = m.length := List.length_set
  have h2 := lcomp_ok h1 (Src.is_lst xs) (key xs LL [] (m.set n q) hl h)
  rw [List.length_append, List.length_map, hm, List.nil_append, List.append_assoc] at h2
  refine ⟨h2, ⟨q, _, rfl⟩, hn, by omega, ?_, by simp, fun i j hj => ?_, fun i j is hj his => ?_, fun i i' j h1 h2 => ?_⟩
  · rw [List.getElem?_append_right (by omega), hm, Nat.add_sub_cancel_left, List.getElem?_append_right (by simp), List.length_map, Nat.sub_self, List.map_map]; rfl
  · rw [List.getElem?_map] at hj
    by_cases hi : i < LL.length
    · rw [List.getElem?_range hi] at hj
      simp at hj
      omega
    · rw [List.getElem?_eq_none (by simp; omega)] at hj; cases hj
  · rw [List.getElem?_map] at hj
    have hi : i < LL.length := (List.getElem?_eq_some_iff.mp his).1
    rw [List.getElem?_range hi] at hj
    simp at hj
    subst hj
    rw [List.getElem?_append_right (by omega), hm, Nat.add_sub_cancel_left, List.getElem?_append_left (by rw [List.length_map]; exact hi), List.getElem?_map, his]; rfl
  · rw [List.getElem?_map] at h1 h2
    by_cases hi : i < LL.length
    · by_cases hi' : i' < LL.length
      · rw [List.getElem?_range hi] at h1
        rw [List.getElem?_range hi'] at h2
        simp at h1 h2
        omega
      · rw [List.getElem?_eq_none (by simp; omega)] at h2; cases h2
    · rw [List.getElem?_eq_none (by simp; omega)] at h1; cases h1
end Lw

set_option Elab.async false
set_option linter.all false
set_option maxRecDepth 100000
namespace Lw
open PySem PySem.Spec L2 ML
/-! ### _law_single_well: its statements -/
noncomputable abbrev sw1 (cContest : Addr) : LS → M (Out × LS) := (mSet 1 (mApp 3 F__law_wide (mCons (gv 0) (mCons (kv (.int 1)) (mCons (kv (.int 8)) mNil)))))
noncomputable abbrev sw2 (cContest : Addr) : LS → M (Out × LS) := (mSet 2 (mBin vIx (gv 1) (mApp 2 F__law_pick (mCons (gv 0) (mCons (mCall vLen (mCons (gv 1) mNil)) mNil)))))
noncomputable abbrev sw3 (cContest : Addr) : LS → M (Out × LS) := (mSet 3 (mIf (mTest (mBin vEq (mApp 2 F__law_pick (mCons (gv 0) (mCons (kv (.int 20)) mNil))) (kv (.int 7)))) (kv (.int 12)) (kv (.int 7))))
noncomputable abbrev sw4 (cContest : Addr) : LS → M (Out × LS) := (mSet 4 (mApp 2 F__law_pick (mCons (gv 0) (mCons (mBin vAdd (gv 3) (kv (.int 1))) mNil))))
noncomputable abbrev sw5 (cContest : Addr) : LS → M (Out × LS) := (mSet 5 (mLst (mCons (gv 4) (mCons (mBin vAdd (gv 4) (kv (.int 1))) (mCons (mApp 2 F__law_pick (mCons (gv 0) (mCons (mBin vAdd (gv 3) (kv (.int 1))) mNil))) (mCons (gv 4) mNil))))))
noncomputable abbrev sw6 (cContest : Addr) : LS → M (Out × LS) := (mSet 6 (mCall vMin2 (mCons (mBin vIx (gv 5) (mApp 2 F__law_pick (mCons (gv 0) (mCons (kv (.int 4)) mNil)))) (mCons (gv 3) mNil))))
noncomputable abbrev sw7 (cContest : Addr) : LS → M (Out × LS) := (mSet 7 (mApp 2 F__law_single_levels (mCons (gv 4) (mCons (gv 6) mNil))))
noncomputable abbrev sw8 (cContest : Addr) : LS → M (Out × LS) := (mSet 8 (mBin vMul (gv 2) (gv 4)))
noncomputable abbrev sw9 (cContest : Addr) : LS → M (Out × LS) := (mSet 9 (mBin vMul (gv 2) (gv 6)))
noncomputable abbrev sw10 (cContest : Addr) : LS → M (Out × LS) := (mSet 10 (mNew cContest 4 (F_Contest___init__ cContest) (mCons (gv 1) (mCons (gv 8) (mCons (gv 9) mNil)))))
noncomputable abbrev sw11 (cContest : Addr) : LS → M (Out × LS) := (mIf (mOr (mNot (mTest (mApp 2 F__law_is_levels (mCons (mFld cContest "levels" (gv 10)) (mCons (gv 7) mNil))))) (mOr (mTest (mBin vNe (mFld cContest "row" (gv 10)) (gv 8))) (mTest (mBin vNe (mFld cContest "other" (gv 10)) (gv 9)))))
 (mRet (kv (.bl false)))
 mSkip)
noncomputable abbrev sw12 (cContest : Addr) : LS → M (Out × LS) := (mIf (mNot (mTest (mApp 5 (F__law_heights_well cContest) (mCons (gv 0) (mCons (gv 10) (mCons (gv 7) (mCons (gv 4) (mCons (gv 6) mNil))))))))
 (mRet (kv (.bl false)))
 mSkip)
noncomputable abbrev sw13 (cContest : Addr) : LS → M (Out × LS) := (mSet 11 (mCompL (mIt (gv 7) srcL) (gSet 12) mYes (mCall vListL (mCons (gv 12) mNil)) [12]))
noncomputable abbrev sw14 (cContest : Addr) : LS → M (Out × LS) := (mFor (mItA (mCons (mBin vSub (mBin vAdd (kv (.int 9)) (mApp 2 F__law_pick (mCons (gv 0) (mCons (kv (.int 8)) mNil)))) (mCall vLen (mCons (gv 7) mNil))) mNil) srcR1) (gSet 13)
 (mDrop (mMeth "list" vAppend (gv 11) (mCons (mCall vListL (mCons (mBin vIx (gv 7) (mNeg (kv (.int 1)))) mNil)) mNil))))
noncomputable abbrev sw15 (cContest : Addr) : LS → M (Out × LS) := (mIf (mNot (mTest (mApp 6 F__law_judged (mCons (gv 0) (mCons (gv 1) (mCons (gv 8) (mCons (gv 9) (mCons (gv 11) (mCons (kv (.bl true)) mNil)))))))))
 (mRet (kv (.bl false)))
 mSkip)
noncomputable abbrev sw16 (cContest : Addr) : LS → M (Out × LS) := (mSet 14 (mBin vAdd (kv (.int 1)) (mApp 2 F__law_pick (mCons (gv 0) (mCons (mBin vSub (mCall vLen (mCons (gv 11) mNil)) (kv (.int 1))) mNil)))))
noncomputable abbrev sw17 (cContest : Addr) : LS → M (Out × LS) := (mSet 15 (mComp (mIt (mBin vIx (gv 7) (kv (.int 0))) srcL) (gSet 16) (mTest (mBin (vIn true) (gv 16) (mBin vIx (gv 11) (gv 14)))) (gv 16) [16]))
noncomputable abbrev sw18 (cContest : Addr) : LS → M (Out × LS) := (mIf (mTest (mBin vGt (mCall vLen (mCons (gv 15) mNil)) (kv (.int 0))))
 (mSeq (mDrop (mMeth "list" vAppend (mBin vIx (gv 11) (gv 14)) (mCons (mBin vIx (gv 15) (mApp 2 F__law_pick (mCons (gv 0) (mCons (mCall vLen (mCons (gv 15) mNil)) mNil)))) mNil)))
 (mSeq (mIf (mNot (mTest (mApp 6 F__law_judged (mCons (gv 0) (mCons (gv 1) (mCons (gv 8) (mCons (gv 9) (mCons (gv 11) (mCons (kv (.bl false)) mNil)))))))))
 (mRet (kv (.bl false)))
 mSkip)
 (mDrop (mMeth "list" vPop (mBin vIx (gv 11) (gv 14)) mNil))))
 mSkip)
noncomputable abbrev sw19 (cContest : Addr) : LS → M (Out × LS) := (mSet 17 (mLst (mCons (mTup (mCons (kv (.int 0)) mNil)) (mCons (mTup (mCons (gv 4) (mCons (kv (.int 0)) mNil))) (mCons (mTup (mCons (kv (.int 0)) (mCons (gv 6) mNil))) (mCons (mTup (mCons (mNeg (kv (.int 1))) (mCons (kv (.int 0)) mNil))) (mCons (mTup (mCons (kv (.bl false)) (mCons (kv (.int 0)) mNil))) (mCons (mTup (mCons (mTup (mCons (kv (.int 0)) (mCons (kv (.int 0)) mNil))) mNil)) (mCons (mTup (mCons (kv (.int 0)) (mCons (kv (.int 0)) (mCons (kv (.int 0)) mNil)))) (mCons (kv (.str "ab")) (mCons (kv .non) (mCons mDNew mNil))))))))))))
noncomputable abbrev sw20 (cContest : Addr) : LS → M (Out × LS) := (mSet 14 (mApp 2 F__law_pick (mCons (gv 0) (mCons (mCall vLen (mCons (gv 11) mNil)) mNil))))
noncomputable abbrev sw21 (cContest : Addr) : LS → M (Out × LS) := (mDrop (mMeth "list" vAppend (mBin vIx (gv 11) (gv 14)) (mCons (mBin vIx (gv 17) (mApp 2 F__law_pick (mCons (gv 0) (mCons (mCall vLen (mCons (gv 17) mNil)) mNil)))) mNil)))
noncomputable abbrev sw22 (cContest : Addr) : LS → M (Out × LS) := (mIf (mNot (mTest (mApp 6 F__law_judged (mCons (gv 0) (mCons (gv 1) (mCons (gv 8) (mCons (gv 9) (mCons (gv 11) (mCons (kv (.bl false)) mNil)))))))))
 (mRet (kv (.bl false)))
 mSkip)
noncomputable abbrev sw23 (cContest : Addr) : LS → M (Out × LS) := (mDrop (mMeth "list" vPop (mBin vIx (gv 11) (gv 14)) mNil))
noncomputable abbrev sw24 (cContest : Addr) : LS → M (Out × LS) := (mRet (mApp 6 F__law_judged (mCons (gv 0) (mCons (gv 1) (mCons (gv 8) (mCons (gv 9) (mCons (mSl (gv 11) (oSome (gv 14)) oNone) (mCons (kv (.bl true)) mNil))))))))
theorem sw_eq (cContest : Addr) : g__law_single_well cContest = (mSeq (sw1 cContest) (mSeq (sw2 cContest) (mSeq (sw3 cContest) (mSeq (sw4 cContest) (mSeq (sw5 cContest) (mSeq (sw6 cContest) (mSeq (sw7 cContest) (mSeq (sw8 cContest) (mSeq (sw9 cContest) (mSeq (sw10 cContest) (mSeq (sw11 cContest) (mSeq (sw12 cContest) (mSeq (sw13 cContest) (mSeq (sw14 cContest) (mSeq (sw15 cContest) (mSeq (sw16 cContest) (mSeq (sw17 cContest) (mSeq (sw18 cContest) (mSeq (sw19 cContest) (mSeq (sw20 cContest) (mSeq (sw21 cContest) (mSeq (sw22 cContest) (mSeq (sw23 cContest) (sw24 cContest)))))))))))))))))))))))) := rfl
theorem mul_sgn {z r : Nat} {mh : List PV} (hr : r ≤ 1000) : vMul (.str (sgn z)) (.int (r : Nat)) mh = .ok (.str (st (rep r z))) mh := by
  show (if 0 ≤ ((r : Nat) : Int) ∧ ((r : Nat) : Int) ≤ 4096 ∧ (sgn z).length ≤ 4096 then Rs.ok (PV.str (repS (sgn z) ((r : Nat) : Int).toNat)) mh else .no) = _
  rw [if_pos ⟨by omega, by omega, by show (1 : Nat) ≤ 4096; omega⟩]
  have : repS (sgn z) ((r : Nat) : Int).toNat = st (rep r z) := by
    show (⟨(List.replicate r [z]).flatten.toArray⟩ : Str) = ⟨⟨List.replicate r z⟩⟩
    rw [List.flatten_replicate_singleton]
  rw [this]
theorem sw_head {C : Addr} {n k : Nat} {m : List PV} (S : Sr m n k) (hk : k + 1000 < 1000000) : ∃ al z r c N q a3 a5, AlOk al ∧ z ∈ al ∧ r < 13 ∧ c < 13 ∧ First r c N ∧ Sr (m.set n q) n (k + 30) ∧
    ∀ U, mSeq (sw1 C) (mSeq (sw2 C) (mSeq (sw3 C) (mSeq (sw4 C) (mSeq (sw5 C) (mSeq (sw6 C) (mSeq (sw7 C) (mSeq (sw8 C) (mSeq (sw9 C) (mSeq (sw10 C) (mSeq (sw11 C) (mSeq (sw12 C) U)))))))))))
      [some (.loc n), none, none, none, none, none, none, none, none, none, none, none, none, none, none, none, none, none] m =
    U [some (.loc n), some (.str (st al)), some (.str (sgn z)), a3, some (.int (r : Nat)), a5, some (.int (c : Nat)), some (.lst (Ps r c (N + 1))), some (.str (st (rep r z))), some (.str (st (rep c z))), some (cObj C al (rep r z) (rep c z) (N + 1)), none, none, none, none, none, none, none] (m.set n q) := by
  obtain ⟨al, q1, e1, S1, hA, _, _⟩ := e_wide (a := 1) (b := 8) S (by omega) (by omega) (by omega) (by omega)
  have hal := hA.len
  have hap := hA.pos
  obtain ⟨d2, q2, hd2, e2, S2⟩ := pick (w := al.length) S1 (by omega) (by omega) (by omega)
  rw [List.set_set] at e2 S2
  obtain ⟨d3, q3, hd3, e3, S3⟩ := pick (w := 20) S2 (by omega) (by omega) (by omega)
  rw [List.set_set] at e3 S3
  -- the greatest length
  let ms : Nat := if d3 = 7 then 12 else 7
  have hms : ms ≤ 12 ∧ 7 ≤ ms := by
    show (if d3 = 7 then 12 else 7) ≤ 12 ∧ 7 ≤ (if d3 = 7 then 12 else 7)
    split <;> omega
  obtain ⟨r, q4, hr, e4, S4⟩ := pick (w := ms + 1) S3 (by omega) (by omega) (by omega)
  rw [List.set_set] at e4 S4
  obtain ⟨x5, q5, hx5, e5, S5⟩ := pick (w := ms + 1) S4 (by omega) (by omega) (by omega)
  rw [List.set_set] at e5 S5
  obtain ⟨d6, q6, hd6, e6, S6⟩ := pick (w := 4) S5 (by omega) (by omega) (by omega)
  rw [List.set_set] at e6 S6
  obtain ⟨v, hv⟩ : ∃ v : Nat, [PV.int (r : Nat), PV.int ((r + 1 : Nat) : Int), PV.int (x5 : Nat), PV.int (r : Nat)][d6]? = some (PV.int (v : Nat)) := by
    match d6, hd6 with
    | 0, _ => exact ⟨_, rfl⟩
    | 1, _ => exact ⟨_, rfl⟩
    | 2, _ => exact ⟨_, rfl⟩
    | 3, _ => exact ⟨_, rfl⟩
    | j + 4, h => omega
  have hz : al[d2]? = some al[d2] := List.getElem?_eq_getElem hd2
  have hzm : al[d2] ∈ al := List.getElem_mem hd2
  generalize al[d2] = z at hz hzm
  have hr13 : r < 13 := by omega
  have hc13 : min v ms < 13 := by omega
  obtain ⟨N, hN⟩ := first_ex hr13 hc13
  have hN7 := hN.le
  have hlast := first_last (z := z) hr13 hc13 hN
  obtain ⟨q7, e7, S7⟩ := e_heights (C := C) (al := al) (z := z) hr13 hc13 S6 (by omega) hN7
  rw [List.set_set] at e7 S7
  refine ⟨al, z, r, min v ms, N, q7, some (.int (ms : Nat)), some (.lst [PV.int (r : Nat), PV.int ((r + 1 : Nat) : Int), PV.int (x5 : Nat), PV.int (r : Nat)]), hA, hzm, hr13, hc13, hN, S7.le (by omega), fun U => ?_⟩
  have l7 := e_single_levels (m.set n q6) hr13 hc13 hN
  have il := e_is_levels (n := N + 1) (m.set n q6) hr13 hc13 (by omega)
  have R1 : RowOk al (rep r z) := ⟨by rw [rep_len]; omega, fun x hx => by rw [List.eq_of_mem_replicate hx]; exact hzm⟩
  have R2 : RowOk al (rep (min v ms) z) := ⟨by rw [rep_len]; omega, fun x hx => by rw [List.eq_of_mem_replicate hx]; exact hzm⟩
  have cn := fun (fs : LS → M (List PV)) (τ : LS) (mh mm : List PV) => e_contest (C := C) (m := mm) (mh := mh) (fs := fs) (τ := τ) hA R1 R2 (by omega) hlast
  unfold sw1 sw2 sw3 sw4 sw5 sw6 sw7 sw8 sw9 sw10 sw11 sw12
  generalize F__law_wide = FW at *
  generalize F__law_pick = FP at *
  generalize F__law_single_levels = FS at *
  generalize F__law_is_levels = FIL at *
  generalize F__law_heights_well C = FH at *
  generalize F_Contest___init__ C = FC at *
  have s1 : mSet 1 (mApp 3 FW (mCons (gv 0) (mCons (kv (.int 1)) (mCons (kv (.int 8)) mNil)))) [some (.loc n), none, none, none, none, none, none, none, none, none, none, none, none, none, none, none, none, none] m = .ok (.nx, [some (.loc n), some (.str (st al)), none, none, none, none, none, none, none, none, none, none, none, none, none, none, none, none]) (m.set n q1) :=
    set_ok (app_ok (args3 rfl rfl rfl) e1)
  have s2 : mSet 2 (mBin vIx (gv 1) (mApp 2 FP (mCons (gv 0) (mCons (mCall vLen (mCons (gv 1) mNil)) mNil)))) [some (.loc n), some (.str (st al)), none, none, none, none, none, none, none, none, none, none, none, none, none, none, none, none] (m.set n q1) = .ok (.nx, [some (.loc n), some (.str (st al)), some (.str (sgn z)), none, none, none, none, none, none, none, none, none, none, none, none, none, none, none]) (m.set n q2) :=
    set_ok (bin_ok rfl (app_ok (args2 rfl (call_ok (args1 rfl) (len_st (by omega)))) e2) (ix_st (by omega) hz))
  have s3 : mSet 3 (mIf (mTest (mBin vEq (mApp 2 FP (mCons (gv 0) (mCons (kv (.int 20)) mNil))) (kv (.int 7)))) (kv (.int 12)) (kv (.int 7))) [some (.loc n), some (.str (st al)), some (.str (sgn z)), none, none, none, none, none, none, none, none, none, none, none, none, none, none, none] (m.set n q2) = .ok (.nx, [some (.loc n), some (.str (st al)), some (.str (sgn z)), some (.int (ms : Nat)), none, none, none, none, none, none, none, none, none, none, none, none, none, none]) (m.set n q3) := by
    have t := test_ok (f := mBin vEq (mApp 2 FP (mCons (gv 0) (mCons (kv (.int 20)) mNil))) (kv (.int 7))) (bin_ok (τ := [some (.loc n), some (.str (st al)), some (.str (sgn z)), none, none, none, none, none, none, none, none, none, none, none, none, none, none, none]) (app_ok (n := 2) (fs := mCons (gv 0) (mCons (kv (.int 20)) mNil)) (args2 rfl rfl) e3) rfl (eq_small (a := d3) (b := 7)))
    show mSet 3 _ _ _ = .ok (.nx, [some (.loc n), some (.str (st al)), some (.str (sgn z)), some (.int (((if d3 = 7 then 12 else 7 : Nat)) : Nat)), none, none, none, none, none, none, none, none, none, none, none, none, none, none]) (m.set n q3)
    by_cases h7 : d3 = 7
    · rw [decide_eq_true h7] at t
      rw [if_pos h7]
      exact set_ok ((if_t t).trans rfl)
    · rw [decide_eq_false h7] at t
      rw [if_neg h7]
      exact set_ok ((if_f t).trans rfl)
  have s4 : mSet 4 (mApp 2 FP (mCons (gv 0) (mCons (mBin vAdd (gv 3) (kv (.int 1))) mNil))) [some (.loc n), some (.str (st al)), some (.str (sgn z)), some (.int (ms : Nat)), none, none, none, none, none, none, none, none, none, none, none, none, none, none] (m.set n q3) = .ok (.nx, [some (.loc n), some (.str (st al)), some (.str (sgn z)), some (.int (ms : Nat)), some (.int (r : Nat)), none, none, none, none, none, none, none, none, none, none, none, none, none]) (m.set n q4) :=
    set_ok (app_ok (args2 rfl (bin_ok rfl rfl rfl)) e4)
  have s5 : mSet 5 (mLst (mCons (gv 4) (mCons (mBin vAdd (gv 4) (kv (.int 1))) (mCons (mApp 2 FP (mCons (gv 0) (mCons (mBin vAdd (gv 3) (kv (.int 1))) mNil))) (mCons (gv 4) mNil))))) [some (.loc n), some (.str (st al)), some (.str (sgn z)), some (.int (ms : Nat)), some (.int (r : Nat)), none, none, none, none, none, none, none, none, none, none, none, none, none] (m.set n q4) = .ok (.nx, [some (.loc n), some (.str (st al)), some (.str (sgn z)), some (.int (ms : Nat)), some (.int (r : Nat)), some (.lst [PV.int (r : Nat), PV.int ((r + 1 : Nat) : Int), PV.int (x5 : Nat), PV.int (r : Nat)]), none, none, none, none, none, none, none, none, none, none, none, none]) (m.set n q5) :=
    set_ok (lst_ok (cons_ok rfl (args3 (bin_ok rfl rfl rfl) (app_ok (args2 rfl (bin_ok rfl rfl rfl)) e5) rfl)) (by simp))
  have s6 : mSet 6 (mCall vMin2 (mCons (mBin vIx (gv 5) (mApp 2 FP (mCons (gv 0) (mCons (kv (.int 4)) mNil)))) (mCons (gv 3) mNil))) [some (.loc n), some (.str (st al)), some (.str (sgn z)), some (.int (ms : Nat)), some (.int (r : Nat)), some (.lst [PV.int (r : Nat), PV.int ((r + 1 : Nat) : Int), PV.int (x5 : Nat), PV.int (r : Nat)]), none, none, none, none, none, none, none, none, none, none, none, none] (m.set n q5) = .ok (.nx, [some (.loc n), some (.str (st al)), some (.str (sgn z)), some (.int (ms : Nat)), some (.int (r : Nat)), some (.lst [PV.int (r : Nat), PV.int ((r + 1 : Nat) : Int), PV.int (x5 : Nat), PV.int (r : Nat)]), some (.int ((min v ms : Nat) : Nat)), none, none, none, none, none, none, none, none, none, none, none]) (m.set n q6) :=
    set_ok (call_ok (args2 (bin_ok rfl (app_ok (args2 rfl rfl) e6) (ix_lst hv)) rfl) (v_min.trans (by
      congr 2
      split <;> omega)))
  have s7 : mSet 7 (mApp 2 FS (mCons (gv 4) (mCons (gv 6) mNil))) [some (.loc n), some (.str (st al)), some (.str (sgn z)), some (.int (ms : Nat)), some (.int (r : Nat)), some (.lst [PV.int (r : Nat), PV.int ((r + 1 : Nat) : Int), PV.int (x5 : Nat), PV.int (r : Nat)]), some (.int ((min v ms : Nat) : Nat)), none, none, none, none, none, none, none, none, none, none, none] (m.set n q6) = .ok (.nx, [some (.loc n), some (.str (st al)), some (.str (sgn z)), some (.int (ms : Nat)), some (.int (r : Nat)), some (.lst [PV.int (r : Nat), PV.int ((r + 1 : Nat) : Int), PV.int (x5 : Nat), PV.int (r : Nat)]), some (.int ((min v ms : Nat) : Nat)), some (.lst (Ps r (min v ms) (N + 1))), none, none, none, none, none, none, none, none, none, none]) (m.set n q6) :=
    set_ok (app_ok (args2 rfl rfl) l7)
  refine (seq_nx s1).trans ((seq_nx s2).trans ((seq_nx s3).trans ((seq_nx s4).trans ((seq_nx s5).trans ((seq_nx s6).trans ((seq_nx s7).trans ?_))))))
  generalize hmn : min v ms = c at *
  generalize (some (PV.lst [PV.int (r : Nat), PV.int ((r + 1 : Nat) : Int), PV.int (x5 : Nat), PV.int (r : Nat)]) : Option PV) = a5
  generalize (some (PV.int (ms : Nat)) : Option PV) = a3
  have s8 : mSet 8 (mBin vMul (gv 2) (gv 4)) [some (.loc n), some (.str (st al)), some (.str (sgn z)), a3, some (.int (r : Nat)), a5, some (.int (c : Nat)), some (.lst (Ps r c (N + 1))), none, none, none, none, none, none, none, none, none, none] (m.set n q6) = .ok (.nx, [some (.loc n), some (.str (st al)), some (.str (sgn z)), a3, some (.int (r : Nat)), a5, some (.int (c : Nat)), some (.lst (Ps r c (N + 1))), some (.str (st (rep r z))), none, none, none, none, none, none, none, none, none]) (m.set n q6) :=
    set_ok (bin_ok rfl rfl (mul_sgn (by omega)))
  have s9 : mSet 9 (mBin vMul (gv 2) (gv 6)) [some (.loc n), some (.str (st al)), some (.str (sgn z)), a3, some (.int (r : Nat)), a5, some (.int (c : Nat)), some (.lst (Ps r c (N + 1))), some (.str (st (rep r z))), none, none, none, none, none, none, none, none, none] (m.set n q6) = .ok (.nx, [some (.loc n), some (.str (st al)), some (.str (sgn z)), a3, some (.int (r : Nat)), a5, some (.int (c : Nat)), some (.lst (Ps r c (N + 1))), some (.str (st (rep r z))), some (.str (st (rep c z))), none, none, none, none, none, none, none, none]) (m.set n q6) :=
    set_ok (bin_ok rfl rfl (mul_sgn (by omega)))
  have s10 : mSet 10 (mNew C 4 FC (mCons (gv 1) (mCons (gv 8) (mCons (gv 9) mNil)))) [some (.loc n), some (.str (st al)), some (.str (sgn z)), a3, some (.int (r : Nat)), a5, some (.int (c : Nat)), some (.lst (Ps r c (N + 1))), some (.str (st (rep r z))), some (.str (st (rep c z))), none, none, none, none, none, none, none, none] (m.set n q6) = .ok (.nx, [some (.loc n), some (.str (st al)), some (.str (sgn z)), a3, some (.int (r : Nat)), a5, some (.int (c : Nat)), some (.lst (Ps r c (N + 1))), some (.str (st (rep r z))), some (.str (st (rep c z))), some (cObj C al (rep r z) (rep c z) (N + 1)), none, none, none, none, none, none, none]) (m.set n q6) :=
    set_ok (cn _ _ _ _ (args3 rfl rfl rfl))
  refine (seq_nx s8).trans ((seq_nx s9).trans ((seq_nx s10).trans ?_))
  have hf : ∀ f : Str, ∀ t : PV, fieldOf f cNames [.str (st al), .str (st (rep r z)), .str (st (rep c z)), .lst (tabs (rep r z) (rep c z) (N + 1)), .tup (lvls (rep r z) (rep c z) (N + 1))] = some t →
      mFld C f (gv 10) [some (.loc n), some (.str (st al)), some (.str (sgn z)), a3, some (.int (r : Nat)), a5, some (.int (c : Nat)), some (.lst (Ps r c (N + 1))), some (.str (st (rep r z))), some (.str (st (rep c z))), some (cObj C al (rep r z) (rep c z) (N + 1)), none, none, none, none, none, none, none] (m.set n q6) = .ok t (m.set n q6) := fun f t h => fld_ok rfl rfl h
  have f1 := hf "levels" _ field_levels
  have f2 := hf "row" _ field_row
  have f3 := hf "other" _ field_other
  rw [lvls_cl hr13 hc13] at f1
  have s11 := if_f (f := (mRet (kv (.bl false)) : LS → M (Out × LS))) (g := mSkip) ((or_f (not_ok (b := true) (test_ok (app_ok (n := 2) (args2 f1 (g := gv 7) rfl) il)))).trans ((or_f (test_ok (bin_ok f2 (g := gv 8) rfl (v_ne_str.trans (by rw [beq_self_eq_true]; rfl))))).trans (test_ok (bin_ok f3 (g := gv 9) rfl (v_ne_str.trans (by rw [beq_self_eq_true]; rfl))))))
  refine (seq_nx (s11.trans rfl)).trans ?_
  exact seq_nx ((if_f (not_ok (b := true) (test_ok (app_ok (cons_ok rfl (cons_ok rfl (args3 rfl rfl rfl))) e7)))).trans rfl)
end Lw

set_option Elab.async false
set_option linter.all false
set_option maxRecDepth 100000
namespace Lw
open PySem PySem.Spec L2 ML
section
variable {m M : List PV} {n t k a j : Nat} {ids : List Nat} {LL : List (List PV)} {τ : LS}
theorem app_at (T : Tab m n M t ids LL) (h11 : τ[11]? = some (some (.loc t))) (h14 : τ[14]? = some (some (.int (a : Nat)))) (hj : ids[a]? = some j) {is : List PV} (hi : LL[a]? = some is) (hl : is.length < 1000) {e : LS → ML.M PV} {x q : PV} (he : e τ M = .ok x (M.set n q)) :
    (mDrop (mMeth "list" vAppend (mBin vIx (gv 11) (gv 14)) (mCons e mNil))) τ M = .ok (.nx, τ) ((M.set n q).set j (.lst (is ++ [x]))) :=
  drop_ok (meth_ok (bin_ok (gv_ok h11) (gv_ok h14) (T.ix hj)) (ty_loc (T.at_ a j is hj hi)) (args1 he) (app_loc ((T.setN q).at_ a j is hj hi) hl))
theorem pop_at (T : Tab m n M t ids LL) (h11 : τ[11]? = some (some (.loc t))) (h14 : τ[14]? = some (some (.int (a : Nat)))) (hj : ids[a]? = some j) {is : List PV} {x : PV} (hi : LL[a]? = some (is ++ [x])) :
    (mDrop (mMeth "list" vPop (mBin vIx (gv 11) (gv 14)) mNil)) τ M = .ok (.nx, τ) (M.set j (.lst is)) :=
  drop_ok (meth_ok (bin_ok (gv_ok h11) (gv_ok h14) (T.ix hj)) (ty_loc (T.at_ a j _ hj hi)) rfl (pop_last (T.at_ a j _ hj hi)))
theorem set_back {is : List PV} (hi : LL[a]? = some is) (new : List PV) : (LL.set a new).set a is = LL := by
  rw [List.set_set]
  obtain ⟨h1, h2⟩ := List.getElem?_eq_some_iff.mp hi
  rw [← h2, List.set_getElem_self]
end
/-- a table that is judged as is due -/
structure Jd (row other : List Nat) (LL : List (List PV)) (due : Bool) : Prop where
  len : LL.length ≤ 30
  lens : ∀ is ∈ LL, is.length ≤ 150
  item : ∀ is ∈ LL, ∀ z ∈ is, Item z
  jg : ∀ w, w < 3 → Jg row other none (LL.map (lvW w)) due
theorem judge_if {al row other : List Nat} {m M : List PV} {n t k : Nat} {ids : List Nat} {LL : List (List PV)} {τ : LS} {due : Bool} (ha : AlOk al) (hr : RowOk al row) (ho : RowOk al other) (T : Tab m n M t ids LL) (S : Sr M n k) (hk : k < 1000000) (J : Jd row other LL due)
    (h0 : τ[0]? = some (some (.loc n))) (h1 : τ[1]? = some (some (.str (st al)))) (h8 : τ[8]? = some (some (.str (st row)))) (h9 : τ[9]? = some (some (.str (st other)))) (h11 : τ[11]? = some (some (.loc t))) :
    ∃ q, (mIf (mNot (mTest (mApp 6 F__law_judged (mCons (gv 0) (mCons (gv 1) (mCons (gv 8) (mCons (gv 9) (mCons (gv 11) (mCons (kv (.bl due)) mNil)))))))))
 (mRet (kv (.bl false)))
 mSkip) τ M = .ok (.nx, τ) (M.set n q) ∧ Sr (M.set n q) n (k + 1) := by
  obtain ⟨q, e, S'⟩ := e_judged ha hr ho S hk (fun q => (T.setN q).lvls) J.len J.lens J.item J.jg
  exact ⟨q, (if_f (not_ok (b := true) (test_ok (app_ok (cons_ok (gv_ok h0) (cons_ok (gv_ok h1) (cons_ok (gv_ok h8) (args3 (gv_ok h9) (gv_ok h11) rfl)))) e)))).trans rfl, S'⟩
/-! the table of rows of one letter -/
def LQ (r c N s n : Nat) : List (List PV) := (pssF r c N s n).map (·.map pr)
theorem LQ_len {r c N s n : Nat} : (LQ r c N s n).length = n := by unfold LQ; rw [List.length_map, pssF_len]
theorem LQ_at {r c N s n i : Nat} (h : i < n) : (LQ r c N s n)[i]? = some ((Q r c N (s + i)).map pr) := by
  unfold LQ
  rw [List.getElem?_map, pssF_at h]; rfl
theorem LQ_succ {r c N n : Nat} : LQ r c N 0 (n + 1) = LQ r c N 0 n ++ [(Q r c N n).map pr] := by
  unfold LQ pssF
  rw [List.range'_concat, List.map_append, List.map_append, Nat.zero_add, Nat.one_mul]; rfl
theorem LQ_drop {r c N n a : Nat} : (LQ r c N 0 n).drop a = LQ r c N a (n - a) := by
  refine List.ext_getElem? fun i => ?_
  rw [List.getElem?_drop]
  by_cases h : i < n - a
  · rw [LQ_at h, LQ_at (by omega), Nat.zero_add]
  · rw [List.getElem?_eq_none (by rw [LQ_len]; omega), List.getElem?_eq_none (by rw [LQ_len]; omega)]
theorem Q_item {r c N i : Nat} (hr : r < 13) (hc : c < 13) : ∀ z ∈ (Q r c N i).map pr, Item z := fun z hz => by
  obtain ⟨p, hp, rfl⟩ := List.mem_map.mp hz
  have := Q_le hr hc p hp
  exact item_pr ⟨by omega, by omega⟩
theorem mem_LQ {r c N s n : Nat} {is : List PV} (h : is ∈ LQ r c N s n) : ∃ i, is = (Q r c N i).map pr := by
  unfold LQ pssF at h
  obtain ⟨ps, hp, rfl⟩ := List.mem_map.mp h
  obtain ⟨i, _, rfl⟩ := List.mem_map.mp hp
  exact ⟨i, rfl⟩
theorem jd_Q {r c z N s n : Nat} (hr : r < 13) (hc : c < 13) (hN : First r c N) (hn : n ≤ 30) : Jd (rep r z) (rep c z) (LQ r c N s n) true := by
  refine ⟨by rw [LQ_len]; exact hn, fun is h => ?_, fun is h => ?_, fun w _ => ?_⟩
  · obtain ⟨i, rfl⟩ := mem_LQ h
    rw [List.length_map]
    have := Q_len (N := N) (i := i) hr hc
    omega
  · obtain ⟨i, rfl⟩ := mem_LQ h
    exact Q_item hr hc
  · have := jg_good (row := rep r z) (other := rep c z) (pss := pssF r c N s n) (fun ps hp => by
      unfold pssF at hp
      obtain ⟨i, _, rfl⟩ := List.mem_map.mp hp
      exact pairs_rep (Q_le hr hc)) w
    rw [rep_len, rep_len, good_Q hr hc hN] at this
    exact this
theorem jd_more {r c z N n a : Nat} (hr : r < 13) (hc : c < 13) (hN : First r c N) (hn : n ≤ 30) (h1 : 1 ≤ a) (h2 : a < n) {p : Nat × Nat} (hp : p.1 < r ∧ p.2 < c) (hq : p ∉ Q r c N a) : Jd (rep r z) (rep c z) ((LQ r c N 0 n).set a ((Q r c N a).map pr ++ [pr p])) false := by
  have e : (LQ r c N 0 n).set a ((Q r c N a).map pr ++ [pr p]) = ((pssF r c N 0 n).set a (Q r c N a ++ [p])).map (·.map pr) := by
    rw [List.map_set, List.map_append]; rfl
  have cas : ∀ is ∈ (LQ r c N 0 n).set a ((Q r c N a).map pr ++ [pr p]), is ∈ LQ r c N 0 n ∨ is = (Q r c N a).map pr ++ [pr p] := fun is h => List.mem_or_eq_of_mem_set h
  refine ⟨by rw [List.length_set, LQ_len]; exact hn, fun is h => ?_, fun is h => ?_, fun w _ => ?_⟩
  · rcases cas is h with h | rfl
    · exact (jd_Q (z := z) hr hc hN hn).lens is h
    · rw [List.length_append, List.length_map]
      have := Q_len (N := N) (i := a) hr hc
      show _ + 1 ≤ _
      omega
  · rcases cas is h with h | rfl
    · exact (jd_Q (z := z) hr hc hN hn).item is h
    · intro y hy
      rcases List.mem_append.mp hy with hy | hy
      · exact Q_item hr hc y hy
      · rw [List.mem_singleton.mp hy]
        exact item_pr ⟨by omega, by omega⟩
  · rw [e]
    have := jg_good (row := rep r z) (other := rep c z) (pss := (pssF r c N 0 n).set a (Q r c N a ++ [p])) (fun ps hps => by
      rcases List.mem_or_eq_of_mem_set hps with hps | rfl
      · unfold pssF at hps
        obtain ⟨i, _, rfl⟩ := List.mem_map.mp hps
        exact pairs_rep (Q_le hr hc)
      · refine pairs_rep fun q hq => ?_
        rcases List.mem_append.mp hq with hq | hq
        · exact Q_le hr hc q hq
        · rw [List.mem_singleton.mp hq]; exact hp) w
    rw [rep_len, rep_len, good_more hr hc hN h1 h2 hp hq] at this
    exact this
theorem jd_odd {r c z N n a : Nat} (hr : r < 13) (hc : c < 13) (hN : First r c N) (hn : n ≤ 30) (h2 : a < n) {x : PV} (hx : Item x) (b1 : Bad r c x) (b2 : Bad r c (cv x)) : Jd (rep r z) (rep c z) ((LQ r c N 0 n).set a ((Q r c N a).map pr ++ [x])) false := by
  have cas : ∀ is ∈ (LQ r c N 0 n).set a ((Q r c N a).map pr ++ [x]), is ∈ LQ r c N 0 n ∨ is = (Q r c N a).map pr ++ [x] := fun is h => List.mem_or_eq_of_mem_set h
  have hp : ∀ l : List (List (Nat × Nat)), (∀ ps ∈ l, ps ∈ pssF r c N 0 n) → ∀ ps ∈ l, PairsOk (rep r z) (rep c z) ps := fun l hl ps hps => by
    have := hl ps hps
    unfold pssF at this
    obtain ⟨i, _, rfl⟩ := List.mem_map.mp this
    exact pairs_rep (Q_le hr hc)
  refine ⟨by rw [List.length_set, LQ_len]; exact hn, fun is h => ?_, fun is h => ?_, fun w _ => ?_⟩
  · rcases cas is h with h | rfl
    · exact (jd_Q (z := z) hr hc hN hn).lens is h
    · rw [List.length_append, List.length_map]
      have := Q_len (N := N) (i := a) hr hc
      show _ + 1 ≤ _
      omega
  · rcases cas is h with h | rfl
    · exact (jd_Q (z := z) hr hc hN hn).item is h
    · intro y hy
      rcases List.mem_append.mp hy with hy | hy
      · exact Q_item hr hc y hy
      · rw [List.mem_singleton.mp hy]; exact hx
  · have e : (LQ r c N 0 n).set a ((Q r c N a).map pr ++ [x]) = ((pssF r c N 0 n).take a).map (·.map pr) ++ ((Q r c N a).map pr ++ [x]) :: ((pssF r c N 0 n).drop (a + 1)).map (·.map pr) := by
      rw [List.set_eq_take_append_cons_drop, if_pos (by rw [LQ_len]; exact h2)]
      unfold LQ
      rw [List.map_take, List.map_drop]
    rw [e]
    exact jg_odd (hp _ fun ps h => List.mem_of_mem_take h) (pairs_rep (Q_le hr hc)) (by rw [rep_len, rep_len]; exact b1) (by rw [rep_len, rep_len]; exact b2) w
end Lw

set_option Elab.async false
set_option linter.all false
set_option maxRecDepth 100000
namespace Lw
open PySem PySem.Spec L2 ML
abbrev apB : LS → M (Out × LS) := (mDrop (mMeth "list" vAppend (gv 11) (mCons (mCall vListL (mCons (mBin vIx (gv 7) (mNeg (kv (.int 1)))) mNil)) mNil)))
theorem ap_loop {m : List PV} {n t r c N : Nat} {b0 b1 b2 b3 b4 b5 b6 b8 b9 b10 b12 b14 b15 b16 b17 : Option PV} : ∀ (xs : List PV) (s : Nat) (M : List PV) (ids : List Nat) (k : Nat) (a13 : Option PV), Tab m n M t ids (LQ r c N 0 s) → Sr M n k → N + 1 ≤ s → s + xs.length < 900 →
    ∃ M' ids' b13, loopL (gSet 13) apB xs [b0, b1, b2, b3, b4, b5, b6, some (.lst (Ps r c (N + 1))), b8, b9, b10, some (.loc t), b12, a13, b14, b15, b16, b17] M =
      .ok (.nx, [b0, b1, b2, b3, b4, b5, b6, some (.lst (Ps r c (N + 1))), b8, b9, b10, some (.loc t), b12, b13, b14, b15, b16, b17]) M' ∧ Tab m n M' t ids' (LQ r c N 0 (s + xs.length)) ∧ Sr M' n k
  | [], s, M, ids, k, a13, T, S, _, _ => ⟨M, ids, a13, rfl, T, S⟩
  | x :: xs, s, M, ids, k, a13, T, S, hs, hl => by
    have hl : s + (xs.length + 1) < 900 := hl
    have T2 := T.new ((P r c N).map pr)
    have e1 : LQ r c N 0 s ++ [(P r c N).map pr] = LQ r c N 0 (s + 1) := by
      rw [LQ_succ]
      unfold Q
      rw [show min s N = N by omega]
    rw [e1] at T2
    have htM : t < M.length := (List.getElem?_eq_some_iff.mp T.tb).1
    have hn : n < M.length := S.lt
    have S2 : Sr ((M ++ [PV.lst ((P r c N).map pr)]).set t (PV.lst (ids.map PV.loc ++ [PV.loc M.length]))) n k := S.of (by
      rw [List.getElem?_set_ne (by have := T.t_ge; have := T.n_lt; omega), List.getElem?_append_left hn])
    obtain ⟨M', ids', b13, h1, h2, h3⟩ := ap_loop (b0 := b0) (b1 := b1) (b2 := b2) (b3 := b3) (b4 := b4) (b5 := b5) (b6 := b6) (b8 := b8) (b9 := b9) (b10 := b10) (b12 := b12) (b14 := b14) (b15 := b15) (b16 := b16) (b17 := b17) xs (s + 1) _ _ k (some x) T2 S2 (by omega) (by omega)
    refine ⟨M', ids', b13, (loop_nx (τ1 := [b0, b1, b2, b3, b4, b5, b6, some (.lst (Ps r c (N + 1))), b8, b9, b10, some (.loc t), b12, some x, b14, b15, b16, b17]) (m1 := M) rfl ?_).trans h1, by rw [show s + (x :: xs).length = s + 1 + xs.length by rw [List.length_cons]; omega]; exact h2, h3⟩
    have g1 : vIx (.lst (Ps r c (N + 1))) (.int (-1)) M = .ok (prs (P r c N)) M := by
      show (match atI (Ps r c (N + 1)) (-1) with
        | some t => Rs.ok t M
        | none => .no) = _
      rw [Ps_succ, atI_last (by simp), List.getLast_concat]
    have g2 : (M ++ [PV.lst ((P r c N).map pr)])[t]? = some (.lst (ids.map PV.loc)) := by rw [List.getElem?_append_left htM]; exact T.tb
    exact drop_ok (meth_ok (x := .loc t) rfl (ty_loc T.tb) (args1 (call_ok (args1 (bin_ok rfl rfl g1)) (listL_of (m := M) (x := prs (P r c N)) (is := (P r c N).map pr) rfl))) (app_loc g2 (by rw [List.length_map, T.len, LQ_len]; omega)))
theorem fm_if {α : Type} (p : α → Bool) (f : α → PV) : ∀ l : List α, l.filterMap (fun a => if p a = true then some (f a) else none) = (l.filter p).map f
  | [] => rfl
  | a :: l => by
    rw [List.filter_cons, List.filterMap_cons]
    cases h : p a with
    | true => simp only [if_true, List.map_cons, fm_if p f l]
    | false => simp only [Bool.false_eq_true, if_false, fm_if p f l]
theorem seq_loc {m : List PV} {n : Nat} {ts : List PV} (h : m[n]? = some (.lst ts)) : seqL m (.loc n) = some ts := by
  show (match m[n]? with
      | some (.lst ts) => some ts
      | _ => none) = _
  rw [h]
theorem e_single_well {C : Addr} {n k : Nat} {m : List PV} (S : Sr m n k) (hk : k + 1000 < 1000000) : ∃ q, F__law_single_well C [.loc n] m = .ok (.bl true) (m.set n q) ∧ Sr (m.set n q) n (k + 100) := by
  obtain ⟨al, z, r, c, N, q0, a3, a5, hA, hz, hr, hc, hN, S0, head⟩ := sw_head (C := C) S hk
  have hN7 := hN.le
  have hnl : n < m.length := S.lt
  have R1 : RowOk al (rep r z) := ⟨by rw [rep_len]; omega, fun x hx => by rw [List.eq_of_mem_replicate hx]; exact hz⟩
  have R2 : RowOk al (rep c z) := ⟨by rw [rep_len]; omega, fun x hx => by rw [List.eq_of_mem_replicate hx]; exact hz⟩
  -- the table
  obtain ⟨t13, T13⟩ := tab_new (f := mIt (gv 7) srcL) (G := gSet 12) (e := mCall vListL (mCons (gv 12) mNil)) (vs := [12]) (τ := [some (.loc n), some (.str (st al)), some (.str (sgn z)), a3, some (.int (r : Nat)), a5, some (.int (c : Nat)), some (.lst (Ps r c (N + 1))), some (.str (st (rep r z))), some (.str (st (rep c z))), some (cObj C al (rep r z) (rep c z) (N + 1)), none, none, none, none, none, none, none]) (q := q0) (LL := LQ r c N 0 (N + 1)) (xs := Ps r c (N + 1)) hnl rfl (by rw [Ps_len, LQ_len]) (fun i x is h1 h2 M => by
    have hi : i < N + 1 := by rw [← Ps_len (r := r) (c := c) (n := N + 1)]; exact (List.getElem?_eq_some_iff.mp h1).1
    rw [Ps_at hi] at h1
    rw [LQ_at hi] at h2
    cases h1
    cases h2
    refine ⟨_, rfl, call_ok (args1 rfl) ?_⟩
    have : (Q r c N (0 + i)).map pr = (P r c i).map pr := by unfold Q; rw [show min (0 + i) N = i by omega]
    rw [this]
    exact listL_of (x := prs (P r c i)) rfl)
  have S13 := S0.app ((LQ r c N 0 (N + 1)).map .lst ++ [.lst ((List.range (LQ r c N 0 (N + 1)).length).map fun i => .loc (m.length + i))])
  generalize m.set n q0 ++ ((LQ r c N 0 (N + 1)).map .lst ++ [.lst ((List.range (LQ r c N 0 (N + 1)).length).map fun i => .loc (m.length + i))]) = M13 at *
  generalize m.length + (LQ r c N 0 (N + 1)).length = t at *
  generalize (List.range (LQ r c N 0 (N + 1)).length).map (m.length + ·) = ids at *
  -- more levels
  obtain ⟨d, q1, hd, p14, S14⟩ := pick (w := 8) S13 (by omega) (by omega) (by omega)
  have T14 := T13.setN q1
  obtain ⟨M15, ids, b13, l14, T15, S15⟩ := ap_loop (b0 := some (.loc n)) (b1 := some (.str (st al))) (b2 := some (.str (sgn z))) (b3 := a3) (b4 := some (.int (r : Nat))) (b5 := a5) (b6 := some (.int (c : Nat))) (b8 := some (.str (st (rep r z)))) (b9 := some (.str (st (rep c z)))) (b10 := some (cObj C al (rep r z) (rep c z) (N + 1))) (b12 := none) (b14 := none) (b15 := none) (b16 := none) (b17 := none)
    ((List.range (9 + d - (N + 1))).map fun i => .int (i : Nat)) (N + 1) _ _ _ none T14 S14 (by omega) (by simp; omega)
  rw [show N + 1 + ((List.range (9 + d - (N + 1))).map fun i => PV.int (i : Nat)).length = 9 + d by simp; omega] at T15
  obtain ⟨n9, hn9⟩ : ∃ n9, n9 = 9 + d := ⟨_, rfl⟩
  rw [← hn9] at T15
  have S15 : Sr M15 n (k + 40) := S15.le (by omega)
  obtain ⟨q16, j16, S16⟩ := judge_if hA R1 R2 T15 S15 (by omega) (jd_Q (z := z) hr hc hN (by omega)) (τ := [some (.loc n), some (.str (st al)), some (.str (sgn z)), a3, some (.int (r : Nat)), a5, some (.int (c : Nat)), some (.lst (Ps r c (N + 1))), some (.str (st (rep r z))), some (.str (st (rep c z))), some (cObj C al (rep r z) (rep c z) (N + 1)), some (.loc t), none, b13, none, none, none, none]) rfl rfl rfl rfl rfl
  have T16 := T15.setN q16
  generalize hM16 : M15.set n q16 = M16 at *
  -- one pair more
  obtain ⟨d16, q17, hd16, p16, S17⟩ := pick (w := n9 - 1) S16 (by omega) (by omega) (by omega)
  have T17 := T16.setN q17
  generalize hM17 : M16.set n q17 = M17 at *
  have ha : 1 + d16 < n9 := by omega
  obtain ⟨a, hav⟩ : ∃ a, a = 1 + d16 := ⟨_, rfl⟩
  rw [← hav] at ha
  obtain ⟨j, hj⟩ := T17.id (i := a) (by rw [LQ_len]; exact ha)
  have g17 : (LQ r c N 0 n9)[a]? = some ((Q r c N a).map pr) := by rw [LQ_at ha, Nat.zero_add]
  have m17 := T17.at_ a j _ hj g17
  let ls : List (Nat × Nat) := (P r c 0).filter fun p => !decide (p ∈ Q r c N a)
  have c17 := comp_fm (f := mIt (mBin vIx (gv 7) (kv (.int 0))) srcL) (G := gSet 16) (t := mTest (mBin (vIn true) (gv 16) (mBin vIx (gv 11) (gv 14)))) (e := gv 16) (vs := [16]) (τ := [some (.loc n), some (.str (st al)), some (.str (sgn z)), a3, some (.int (r : Nat)), a5, some (.int (c : Nat)), some (.lst (Ps r c (N + 1))), some (.str (st (rep r z))), some (.str (st (rep c z))), some (cObj C al (rep r z) (rep c z) (N + 1)), some (.loc t), none, b13, some (.int (a : Nat)), none, none, none]) (mh := M17) (m := M17) (en := pr) (ys := P r c 0) (fun p => if (!decide (p ∈ Q r c N a)) = true then some (pr p) else none)
    (it_ok (bin_ok rfl rfl (ix_lst (k := 0) (Ps_at (by omega)))) ev_srcL) (Src.is_lst _) fun p _ => by
      have tin := in_prs (n := true) (p := p) (seq_loc m17)
      have tt := test_ok (f := mBin (vIn true) (gv 16) (mBin vIx (gv 11) (gv 14))) (bin_ok (τ := [some (.loc n), some (.str (st al)), some (.str (sgn z)), a3, some (.int (r : Nat)), a5, some (.int (c : Nat)), some (.lst (Ps r c (N + 1))), some (.str (st (rep r z))), some (.str (st (rep c z))), some (cObj C al (rep r z) (rep c z) (N + 1)), some (.loc t), none, b13, some (.int (a : Nat)), none, some (pr p), none]) (f := gv 16) (g := mBin vIx (gv 11) (gv 14)) (m1 := M17) rfl (bin_ok (f := gv 11) (g := gv 14) rfl rfl (T17.ix hj)) tin)
      rw [Bool.true_xor] at tt
      cases hp : !decide (p ∈ Q r c N a) with
      | true => rw [hp] at tt; exact step_t rfl tt rfl
      | false => rw [hp] at tt; exact step_f rfl tt
  rw [fm_if] at c17
  have hls : ls.length ≤ 144 := Nat.le_trans (List.length_filter_le ..) (Nat.le_trans pairs_len (Nat.mul_le_mul (show r ≤ 12 by omega) (show c ≤ 12 by omega)))
  have s18 : ∃ M18, Tab m n M18 t ids (LQ r c N 0 n9) ∧ Sr M18 n (k + 50) ∧ sw18 C [some (.loc n), some (.str (st al)), some (.str (sgn z)), a3, some (.int (r : Nat)), a5, some (.int (c : Nat)), some (.lst (Ps r c (N + 1))), some (.str (st (rep r z))), some (.str (st (rep c z))), some (cObj C al (rep r z) (rep c z) (N + 1)), some (.loc t), none, b13, some (.int (a : Nat)), some (prs ls), none, none] M17 =
      .ok (.nx, [some (.loc n), some (.str (st al)), some (.str (sgn z)), a3, some (.int (r : Nat)), a5, some (.int (c : Nat)), some (.lst (Ps r c (N + 1))), some (.str (st (rep r z))), some (.str (st (rep c z))), some (cObj C al (rep r z) (rep c z) (N + 1)), some (.loc t), none, b13, some (.int (a : Nat)), some (prs ls), none, none]) M18 := by
    have tl := test_ok (f := mBin vGt (mCall vLen (mCons (gv 15) mNil)) (kv (.int 0))) (bin_ok (τ := [some (.loc n), some (.str (st al)), some (.str (sgn z)), a3, some (.int (r : Nat)), a5, some (.int (c : Nat)), some (.lst (Ps r c (N + 1))), some (.str (st (rep r z))), some (.str (st (rep c z))), some (cObj C al (rep r z) (rep c z) (N + 1)), some (.loc t), none, b13, some (.int (a : Nat)), some (prs ls), none, none]) (m1 := M17) (m2 := M17) (call_ok (o := vLen) (fs := mCons (gv 15) mNil) (args1 rfl) rfl) rfl v_gt)
    rw [List.length_map] at tl
    unfold sw18
    by_cases h0 : 0 < ls.length
    · rw [decide_eq_true (show (0 : Int) < (ls.length : Nat) by omega)] at tl
      obtain ⟨d18, q18, hd18, p18, S18⟩ := pick (w := ls.length) S17 (by omega) h0 (by omega)
      have hp := List.getElem?_eq_getElem hd18
      have hpm : ls[d18] ∈ ls := List.getElem_mem hd18
      generalize ls[d18] = p at hp hpm
      obtain ⟨hp1, hp2⟩ := List.mem_filter.mp hpm
      have hpr := P_le hr hc p hp1
      have hpq : p ∉ Q r c N a := by simpa using hp2
      have ea := app_at (τ := [some (.loc n), some (.str (st al)), some (.str (sgn z)), a3, some (.int (r : Nat)), a5, some (.int (c : Nat)), some (.lst (Ps r c (N + 1))), some (.str (st (rep r z))), some (.str (st (rep c z))), some (cObj C al (rep r z) (rep c z) (N + 1)), some (.loc t), none, b13, some (.int (a : Nat)), some (prs ls), none, none]) T17 rfl rfl hj g17 (by rw [List.length_map]; have := Q_len (N := N) (i := a) hr hc; omega) (e := mBin vIx (gv 15) (mApp 2 F__law_pick (mCons (gv 0) (mCons (mCall vLen (mCons (gv 15) mNil)) mNil)))) (x := pr p) (q := q18)
        (bin_ok rfl (app_ok (args2 rfl (call_ok (args1 rfl) (by show Rs.ok (PV.int ((ls.map pr).length : Nat)) M17 = _; rw [List.length_map]))) p18) (ix_lst (by rw [List.getElem?_map, hp]; rfl)))
      have T18 := (T17.setN q18).put hj ((Q r c N a).map pr ++ [pr p])
      have S18' := (T17.setN q18).sr S18 hj (PV.lst ((Q r c N a).map pr ++ [pr p]))
      generalize ((M17.set n q18).set j (PV.lst ((Q r c N a).map pr ++ [pr p]))) = M18 at *
      obtain ⟨q19, j19, S19⟩ := judge_if hA R1 R2 T18 S18' (by omega) (jd_more (z := z) hr hc hN (by omega) (by omega) ha hpr hpq) (τ := [some (.loc n), some (.str (st al)), some (.str (sgn z)), a3, some (.int (r : Nat)), a5, some (.int (c : Nat)), some (.lst (Ps r c (N + 1))), some (.str (st (rep r z))), some (.str (st (rep c z))), some (cObj C al (rep r z) (rep c z) (N + 1)), some (.loc t), none, b13, some (.int (a : Nat)), some (prs ls), none, none]) rfl rfl rfl rfl rfl
      have T19 := T18.setN q19
      have hal : a < (LQ r c N 0 n9).length := by rw [LQ_len]; exact ha
      have ep := pop_at (τ := [some (.loc n), some (.str (st al)), some (.str (sgn z)), a3, some (.int (r : Nat)), a5, some (.int (c : Nat)), some (.lst (Ps r c (N + 1))), some (.str (st (rep r z))), some (.str (st (rep c z))), some (cObj C al (rep r z) (rep c z) (N + 1)), some (.loc t), none, b13, some (.int (a : Nat)), some (prs ls), none, none]) T19 rfl rfl hj (is := (Q r c N a).map pr) (x := pr p) (List.getElem?_set_self hal)
      have T20 := T19.put hj ((Q r c N a).map pr)
      rw [set_back g17] at T20
      exact ⟨_, T20, (T19.sr S19 hj _).le (by omega), (if_t tl).trans ((seq_nx ea).trans ((seq_nx j19).trans ep))⟩
    · rw [decide_eq_false (show ¬ (0 : Int) < (ls.length : Nat) by omega)] at tl
      exact ⟨M17, T17, S17.le (by omega), (if_f tl).trans rfl⟩
  obtain ⟨M18, T18, S18, s18⟩ := s18
  -- an odd thing
  have s19 : sw19 C [some (.loc n), some (.str (st al)), some (.str (sgn z)), a3, some (.int (r : Nat)), a5, some (.int (c : Nat)), some (.lst (Ps r c (N + 1))), some (.str (st (rep r z))), some (.str (st (rep c z))), some (cObj C al (rep r z) (rep c z) (N + 1)), some (.loc t), none, b13, some (.int (a : Nat)), some (prs ls), none, none] M18 = .ok (.nx, [some (.loc n), some (.str (st al)), some (.str (sgn z)), a3, some (.int (r : Nat)), a5, some (.int (c : Nat)), some (.lst (Ps r c (N + 1))), some (.str (st (rep r z))), some (.str (st (rep c z))), some (cObj C al (rep r z) (rep c z) (N + 1)), some (.loc t), none, b13, some (.int (a : Nat)), some (prs ls), none, some (.lst (odds r c))]) M18 :=
    set_ok (lst_ok (cons_ok (tup_ok (args1 rfl)) (cons_ok (tup_ok (args2 rfl rfl) (by show (2 : Nat) ≤ 1000; omega)) (cons_ok (tup_ok (args2 rfl rfl) (by show (2 : Nat) ≤ 1000; omega)) (cons_ok (tup_ok (args2 rfl rfl)) (cons_ok (tup_ok (args2 rfl rfl)) (cons_ok (tup_ok (args1 (tup_ok (args2 rfl rfl)))) (cons_ok (tup_ok (args3 rfl rfl rfl)) (args3 rfl rfl rfl)))))))) (by show (10 : Nat) ≤ 1000; omega))
  obtain ⟨b, q20, hb, p20, S20⟩ := pick (w := n9) S18 (by omega) (by omega) (by omega)
  have T20 := T18.setN q20
  have s20 : sw20 C [some (.loc n), some (.str (st al)), some (.str (sgn z)), a3, some (.int (r : Nat)), a5, some (.int (c : Nat)), some (.lst (Ps r c (N + 1))), some (.str (st (rep r z))), some (.str (st (rep c z))), some (cObj C al (rep r z) (rep c z) (N + 1)), some (.loc t), none, b13, some (.int (a : Nat)), some (prs ls), none, some (.lst (odds r c))] M18 = .ok (.nx, [some (.loc n), some (.str (st al)), some (.str (sgn z)), a3, some (.int (r : Nat)), a5, some (.int (c : Nat)), some (.lst (Ps r c (N + 1))), some (.str (st (rep r z))), some (.str (st (rep c z))), some (cObj C al (rep r z) (rep c z) (N + 1)), some (.loc t), none, b13, some (.int (b : Nat)), some (prs ls), none, some (.lst (odds r c))]) (M18.set n q20) :=
    set_ok (app_ok (args2 rfl (call_ok (args1 rfl) ((len_loc T18.tb).trans (by rw [List.length_map, T18.len, LQ_len])))) p20)
  generalize M18.set n q20 = M20 at *
  obtain ⟨d21, q21, hd21, p21, S21⟩ := pick (w := 10) S20 (by omega) (by omega) (by omega)
  obtain ⟨x, hx, ix, bx1, bx2⟩ := odd_at hr hc hd21
  obtain ⟨j2, hj2⟩ := T20.id (i := b) (by rw [LQ_len]; exact hb)
  have g20 : (LQ r c N 0 n9)[b]? = some ((Q r c N b).map pr) := by rw [LQ_at hb, Nat.zero_add]
  have s21 := app_at (τ := [some (.loc n), some (.str (st al)), some (.str (sgn z)), a3, some (.int (r : Nat)), a5, some (.int (c : Nat)), some (.lst (Ps r c (N + 1))), some (.str (st (rep r z))), some (.str (st (rep c z))), some (cObj C al (rep r z) (rep c z) (N + 1)), some (.loc t), none, b13, some (.int (b : Nat)), some (prs ls), none, some (.lst (odds r c))]) T20 rfl rfl hj2 g20 (by rw [List.length_map]; have := Q_len (N := N) (i := b) hr hc; omega) (e := mBin vIx (gv 17) (mApp 2 F__law_pick (mCons (gv 0) (mCons (mCall vLen (mCons (gv 17) mNil)) mNil)))) (x := x) (q := q21)
    (bin_ok rfl (app_ok (args2 rfl (call_ok (args1 rfl) rfl)) p21) (ix_lst hx))
  have T21 := (T20.setN q21).put hj2 ((Q r c N b).map pr ++ [x])
  have S21' := (T20.setN q21).sr S21 hj2 (PV.lst ((Q r c N b).map pr ++ [x]))
  generalize ((M20.set n q21).set j2 (PV.lst ((Q r c N b).map pr ++ [x]))) = M21 at *
  obtain ⟨q22, s22, S22⟩ := judge_if hA R1 R2 T21 S21' (by omega) (jd_odd (z := z) hr hc hN (by omega) hb ix bx1 bx2) (τ := [some (.loc n), some (.str (st al)), some (.str (sgn z)), a3, some (.int (r : Nat)), a5, some (.int (c : Nat)), some (.lst (Ps r c (N + 1))), some (.str (st (rep r z))), some (.str (st (rep c z))), some (cObj C al (rep r z) (rep c z) (N + 1)), some (.loc t), none, b13, some (.int (b : Nat)), some (prs ls), none, some (.lst (odds r c))]) rfl rfl rfl rfl rfl
  have T22 := T21.setN q22
  have hbl : b < (LQ r c N 0 n9).length := by rw [LQ_len]; exact hb
  have s23 := pop_at (τ := [some (.loc n), some (.str (st al)), some (.str (sgn z)), a3, some (.int (r : Nat)), a5, some (.int (c : Nat)), some (.lst (Ps r c (N + 1))), some (.str (st (rep r z))), some (.str (st (rep c z))), some (cObj C al (rep r z) (rep c z) (N + 1)), some (.loc t), none, b13, some (.int (b : Nat)), some (prs ls), none, some (.lst (odds r c))]) T22 rfl rfl hj2 (is := (Q r c N b).map pr) (x := x) (List.getElem?_set_self hbl)
  have T23 := T22.put hj2 ((Q r c N b).map pr)
  have S23 := T22.sr S22 hj2 (PV.lst ((Q r c N b).map pr))
  rw [set_back g20] at T23
  generalize ((M21.set n q22).set j2 (PV.lst ((Q r c N b).map pr))) = M23 at *
  have J := jd_Q (z := z) (s := b) (n := n9 - b) hr hc hN (by omega)
  obtain ⟨q24, e24, S24⟩ := e_judged hA R1 R2 S23 (by omega) (L := .lst ((ids.map PV.loc).drop b)) (fun q => (by
    have := (T23.setN q).lvls_drop b
    rw [LQ_drop] at this
    exact this)) J.len J.lens J.item J.jg
  have T24 := T23.setN q24
  have cut : mSl (gv 11) (oSome (gv 14)) oNone [some (.loc n), some (.str (st al)), some (.str (sgn z)), a3, some (.int (r : Nat)), a5, some (.int (c : Nat)), some (.lst (Ps r c (N + 1))), some (.str (st (rep r z))), some (.str (st (rep c z))), some (cObj C al (rep r z) (rep c z) (N + 1)), some (.loc t), none, b13, some (.int (b : Nat)), some (prs ls), none, some (.lst (odds r c))] M23 = .ok (.lst ((ids.map PV.loc).drop b)) M23 := by
    have hr23 : seqR M23 (.loc t) = some (ids.map PV.loc) := seq_loc T23.tb
    have hlen : (ids.map PV.loc).length = n9 := by rw [List.length_map, T23.len, LQ_len]
    show vSl (.loc t) (some ((b : Nat) : Int)) none M23 = _
    show (match seqR M23 (.loc t) with
      | some ts => Rs.ok (PV.lst (cutP ts (some ((b : Nat) : Int)) none)) M23
      | none => .no) = _
    rw [hr23]
    show Rs.ok (PV.lst (cutP (ids.map PV.loc) (some ((b : Nat) : Int)) none)) M23 = _
    unfold cutP
    rw [HT.sIx_nat, HT.sIx_none, hlen, show min b n9 = b by omega, List.take_of_length_le (by rw [List.length_drop, hlen]; omega)]
  have s24 : sw24 C [some (.loc n), some (.str (st al)), some (.str (sgn z)), a3, some (.int (r : Nat)), a5, some (.int (c : Nat)), some (.lst (Ps r c (N + 1))), some (.str (st (rep r z))), some (.str (st (rep c z))), some (cObj C al (rep r z) (rep c z) (N + 1)), some (.loc t), none, b13, some (.int (b : Nat)), some (prs ls), none, some (.lst (odds r c))] M23 = .ok (.ret (.bl true), [some (.loc n), some (.str (st al)), some (.str (sgn z)), a3, some (.int (r : Nat)), a5, some (.int (c : Nat)), some (.lst (Ps r c (N + 1))), some (.str (st (rep r z))), some (.str (st (rep c z))), some (cObj C al (rep r z) (rep c z) (N + 1)), some (.loc t), none, b13, some (.int (b : Nat)), some (prs ls), none, some (.lst (odds r c))]) (M23.set n q24) :=
    ret_ok (app_ok (cons_ok rfl (cons_ok rfl (cons_ok rfl (args3 rfl cut rfl)))) e24)
  -- all of it
  have s13 : sw13 C [some (.loc n), some (.str (st al)), some (.str (sgn z)), a3, some (.int (r : Nat)), a5, some (.int (c : Nat)), some (.lst (Ps r c (N + 1))), some (.str (st (rep r z))), some (.str (st (rep c z))), some (cObj C al (rep r z) (rep c z) (N + 1)), none, none, none, none, none, none, none] (m.set n q0) = .ok (.nx, [some (.loc n), some (.str (st al)), some (.str (sgn z)), a3, some (.int (r : Nat)), a5, some (.int (c : Nat)), some (.lst (Ps r c (N + 1))), some (.str (st (rep r z))), some (.str (st (rep c z))), some (cObj C al (rep r z) (rep c z) (N + 1)), some (.loc t), none, none, none, none, none, none]) M13 := set_ok t13
  have s14 : sw14 C [some (.loc n), some (.str (st al)), some (.str (sgn z)), a3, some (.int (r : Nat)), a5, some (.int (c : Nat)), some (.lst (Ps r c (N + 1))), some (.str (st (rep r z))), some (.str (st (rep c z))), some (cObj C al (rep r z) (rep c z) (N + 1)), some (.loc t), none, none, none, none, none, none] M13 = .ok (.nx, [some (.loc n), some (.str (st al)), some (.str (sgn z)), a3, some (.int (r : Nat)), a5, some (.int (c : Nat)), some (.lst (Ps r c (N + 1))), some (.str (st (rep r z))), some (.str (st (rep c z))), some (cObj C al (rep r z) (rep c z) (N + 1)), some (.loc t), none, b13, none, none, none, none]) M15 := by
    refine (for_src (itA_ok (args1 (bin_ok (bin_ok rfl (app_ok (args2 rfl rfl) p14) rfl) (call_ok (args1 rfl) rfl) rfl)) (S := Src.fn (9 + d - (N + 1)) fun i => .int (0 + (i : Nat))) ?_) (is_rng _)).trans l14
    show srcR1 [.int (9 + ((d : Nat) : Int) - ((Ps r c (N + 1)).length : Nat))] _ = _
    rw [Ps_len, show 9 + ((d : Nat) : Int) - ((N + 1 : Nat) : Int) = ((9 + d - (N + 1) : Nat) : Int) by omega]
    exact src_rng (by omega)
  have s16 : sw16 C [some (.loc n), some (.str (st al)), some (.str (sgn z)), a3, some (.int (r : Nat)), a5, some (.int (c : Nat)), some (.lst (Ps r c (N + 1))), some (.str (st (rep r z))), some (.str (st (rep c z))), some (cObj C al (rep r z) (rep c z) (N + 1)), some (.loc t), none, b13, none, none, none, none] M16 = .ok (.nx, [some (.loc n), some (.str (st al)), some (.str (sgn z)), a3, some (.int (r : Nat)), a5, some (.int (c : Nat)), some (.lst (Ps r c (N + 1))), some (.str (st (rep r z))), some (.str (st (rep c z))), some (cObj C al (rep r z) (rep c z) (N + 1)), some (.loc t), none, b13, some (.int (a : Nat)), none, none, none]) M17 := by
    refine set_ok (bin_ok rfl (app_ok (args2 (y := .int ((n9 - 1 : Nat) : Int)) rfl (bin_ok (call_ok (args1 rfl) (len_loc T16.tb)) rfl ?_)) p16) ?_)
    · rw [v_sub, List.length_map, T16.len, LQ_len]
      congr 2
      omega
    · rw [v_add, hav]
      congr 2
  obtain ⟨qe, ex, he⟩ := T24.ext
  have hfin : fin m (.bl true) (M23.set n q24) = .ok (.bl true) (m.set n qe) := by
    rw [he]
    rw [he] at S24
    exact fin_up (S24.of (by rw [List.getElem?_append_left (by rw [List.length_set]; exact hnl)])) rfl
  refine ⟨qe, ?_, ?_⟩
  · unfold F__law_single_well
    rw [sw_eq]
    exact run_retm ((head _).trans ((seq_nx s13).trans ((seq_nx s14).trans ((seq_nx j16).trans ((seq_nx s16).trans ((seq_nx (set_ok c17)).trans ((seq_nx s18).trans ((seq_nx s19).trans ((seq_nx s20).trans ((seq_nx s21).trans ((seq_nx s22).trans ((seq_nx s23).trans s24)))))))))))) hfin
  · rw [he] at S24
    exact (S24.of (by rw [List.getElem?_append_left (by rw [List.length_set]; exact hnl)])).le (by omega)
end Lw

set_option Elab.async false
set_option linter.all false
set_option maxRecDepth 100000
namespace Lw
open PySem PySem.Spec L2 ML
/-! ### _law_comings, _law_turned_row -/
theorem empty_st : ("" : Str) = st [] := by decide +kernel
theorem add_sgn {l : List Nat} {c : Nat} {mh : List PV} (h : l.length ≤ 1000) : vAdd (.str (st l)) (.str (sgn c)) mh = .ok (.str (st (l ++ [c]))) mh := by
  show (if (st l).length + (sgn c).length ≤ sizeLine then Rs.ok (PV.str (st l ++ sgn c)) mh else .no) = _
  have e1 : (st l).length = l.length := rfl
  have e2 : (sgn c).length = 1 := rfl
  rw [if_pos (by rw [sizeLine_eq, e1, e2]; omega)]
  show Rs.ok (PV.str (st l ++ st [c])) mh = _
  rw [st_app]
theorem co_loop {mh : List PV} {a0 : Option PV} : ∀ (xs S : List Nat) (a2 : Option PV), S.length + xs.length ≤ 1000 → ∃ b2,
    loopL (gSet 2) (mIf (mTest (mBin (vIn true) (gv 2) (gv 1))) (mSet 1 (mBin vAdd (gv 1) (gv 2))) mSkip) (sg xs) [a0, some (.str (st S)), a2] mh = .ok (.nx, [a0, some (.str (st (S ++ cm S xs))), b2]) mh
  | [], S, a2, _ => ⟨a2, by show _ = Rs.ok (Out.nx, [a0, some (.str (st (S ++ []))), a2]) mh; rw [List.append_nil]; rfl⟩
  | x :: xs, S, a2, h => by
    have h : S.length + (xs.length + 1) ≤ 1000 := h
    have t : mTest (mBin (vIn true) (gv 2) (gv 1)) [a0, some (.str (st S)), some (.str (sgn x))] mh = .ok (!decide (x ∈ S)) mh := test_ok (bin_ok rfl rfl ((in_str true).trans (by rw [Bool.true_xor])))
    have ec : cm S (x :: xs) = if x ∈ S then cm S xs else x :: cm (S ++ [x]) xs := rfl
    rw [ec]
    by_cases hx : x ∈ S
    · rw [decide_eq_true hx] at t
      rw [if_pos hx]
      obtain ⟨b2, hh⟩ := co_loop (mh := mh) (a0 := a0) xs S (some (.str (sgn x))) (by omega)
      exact ⟨b2, (loop_nx rfl ((if_f t).trans rfl)).trans hh⟩
    · rw [decide_eq_false hx] at t
      rw [if_neg hx]
      obtain ⟨b2, hh⟩ := co_loop (mh := mh) (a0 := a0) xs (S ++ [x]) (some (.str (sgn x))) (by rw [List.length_append]; show _ + 1 + _ ≤ _; omega)
      rw [List.append_assoc] at hh
      exact ⟨b2, (loop_nx rfl ((if_t t).trans (set_ok (bin_ok rfl rfl (add_sgn (by omega)))))).trans hh⟩
theorem e_comings {l : List Nat} (mh : List PV) (h : l.length ≤ 100) : F__law_comings [.str (st l)] mh = .ok (.str (st (cm [] l))) mh := by
  obtain ⟨b2, hl⟩ := co_loop (mh := mh) (a0 := some (.str (st l))) l [] none (by simp; omega)
  have hfor := (for_src (f := mIt (gv 0) srcS) (mh := mh) (τ := [some (.str (st l)), some (.str (st [])), none]) (it_ok rfl (src_st (by omega))) (Src.is_lst _)).trans hl
  have s1 : mSet 1 (kv (.str "")) [some (.str (st l)), none, none] mh = .ok (.nx, [some (.str (st l)), some (.str (st [])), none]) mh := by
    rw [empty_st]; exact set_ok rfl
  unfold F__law_comings g__law_comings
  exact run_ret ((seq_nx s1).trans ((seq_nx hfor).trans (ret_ok rfl))) fin_same
theorem e_turned {l : List Nat} (mh : List PV) (h : l.length ≤ 100) : F__law_turned_row [.str (st l)] mh = .ok (.str (st l.reverse)) mh := by
  have e1 : mCall vListS (mCons (gv 0) mNil) [some (.str (st l))] mh = .ok (.lst (sg l)) mh := call_ok (args1 rfl) (by
    have e : vListS [.str (st l)] mh = (if (st l).cps.size ≤ sizeLine then putL false (signs (st l)) mh else Rs.no) := rfl
    rw [e, if_pos (by show l.length ≤ sizeLine; rw [sizeLine_eq]; omega)]
    rfl)
  have e2 : mListRev (mCall vListS (mCons (gv 0) mNil)) [some (.str (st l))] mh = .ok (.lst (sg l.reverse)) mh := by
    show (((mCall vListS (mCons (gv 0) mNil)) [some (.str (st l))] mh).bind fun x m => match seqR m x with
        | some ts => putL false ts.reverse m
        | none => Rs.no) = _
    rw [e1]
    show Rs.ok (PV.lst (sg l).reverse) mh = _
    unfold sg
    rw [List.map_reverse]
  unfold F__law_turned_row g__law_turned_row
  exact run_ret (ret_ok (meth_ok rfl rfl (args1 e2) (join_ok (x := .lst (sg l.reverse)) rfl (by rw [List.length_reverse]; omega)))) fin_same
/-! ### _law_kinds -/
theorem sl_to {l : List Nat} {k : Nat} {mh : List PV} (h : l.length ≤ 100) : vSl (.str (st l)) none (some ((k : Nat) : Int)) mh = .ok (.str (st (l.take k))) mh := by
  show (if (st l).length ≤ sizeLine then Rs.ok (PV.str (cutS (st l) none (some ((k : Nat) : Int)))) mh else .no) = _
  have e1 : (st l).length = l.length := rfl
  rw [if_pos (by rw [sizeLine_eq, e1]; omega)]
  unfold cutS
  rw [HT.sIx_none, HT.sIx_nat, e1]
  show Rs.ok (PV.str ⟨((l.drop 0).take (min k l.length - 0)).toArray⟩) mh = _
  rw [List.drop_zero, Nat.sub_zero, ← List.take_eq_take_min]
  rfl
theorem sl_from {l : List Nat} {k : Nat} {mh : List PV} (h : l.length ≤ 100) : vSl (.str (st l)) (some ((k : Nat) : Int)) none mh = .ok (.str (st (l.drop k))) mh := by
  show (if (st l).length ≤ sizeLine then Rs.ok (PV.str (cutS (st l) (some ((k : Nat) : Int)) none)) mh else .no) = _
  have e1 : (st l).length = l.length := rfl
  rw [if_pos (by rw [sizeLine_eq, e1]; omega)]
  unfold cutS
  rw [HT.sIx_none, HT.sIx_nat, e1]
  show Rs.ok (PV.str ⟨((l.drop (min k l.length)).take (l.length - min k l.length)).toArray⟩) mh = _
  by_cases hk : k ≤ l.length
  · rw [show min k l.length = k by omega, List.take_of_length_le (by rw [List.length_drop]; exact Nat.le_refl _)]; rfl
  · rw [show min k l.length = l.length by omega, List.drop_length, List.take_nil, List.drop_of_length_le (by omega)]; rfl
def kd (l : List Nat) (k : Nat) : PV := .tup [.str (sgn (l.getD k 0)), .str (st (cm [] (l.drop (k + 1)))), .str (st (cm [] (l.take k).reverse))]
theorem kd_step {l : List Nat} {k : Nat} {mh acc : List PV} (hl : l.length ≤ 100) (hk : k < l.length) (ha : acc.length < 900) :
    (mDrop (mMeth "list" vAppend (gv 1) (mCons (mTup (mCons (mBin vIx (gv 0) (gv 2)) (mCons (mApp 1 F__law_comings (mCons (mSl (gv 0) (oSome (mBin vAdd (gv 2) (kv (.int 1)))) oNone) mNil)) (mCons (mApp 1 F__law_comings (mCons (mApp 1 F__law_turned_row (mCons (mSl (gv 0) oNone (oSome (gv 2))) mNil)) mNil)) mNil)))) mNil)))
      [some (.str (st l)), some (.loc mh.length), some (.int (k : Nat))] (mh ++ [.lst acc]) = .ok (.nx, [some (.str (st l)), some (.loc mh.length), some (.int (k : Nat))]) (mh ++ [.lst (acc ++ [kd l k])]) := by
  have g1 : (mh ++ [PV.lst acc])[mh.length]? = some (.lst acc) := by rw [List.getElem?_append_right (Nat.le_refl _), Nat.sub_self]; rfl
  have c1 := e_comings (l := l.drop (k + 1)) (mh ++ [.lst acc]) (by rw [List.length_drop]; omega)
  have c2 := e_turned (l := l.take k) (mh ++ [.lst acc]) (by rw [List.length_take]; omega)
  have c3 := e_comings (l := (l.take k).reverse) (mh ++ [.lst acc]) (by rw [List.length_reverse, List.length_take]; omega)
  generalize F__law_comings = FC at *
  generalize F__law_turned_row = FT at *
  have h1 : mSl (gv 0) (oSome (mBin vAdd (gv 2) (kv (.int 1)))) oNone [some (.str (st l)), some (.loc mh.length), some (.int (k : Nat))] (mh ++ [.lst acc]) = .ok (.str (st (l.drop (k + 1)))) (mh ++ [.lst acc]) := by
    show vSl (.str (st l)) (some ((k : Nat) + 1 : Int)) none _ = _
    rw [show ((k : Nat) + 1 : Int) = ((k + 1 : Nat) : Int) by omega]
    exact sl_from hl
  have h2 : mSl (gv 0) oNone (oSome (gv 2)) [some (.str (st l)), some (.loc mh.length), some (.int (k : Nat))] (mh ++ [.lst acc]) = .ok (.str (st (l.take k))) (mh ++ [.lst acc]) := sl_to hl
  have hg : l[k]? = some (l.getD k 0) := by rw [List.getD_eq_getElem?_getD, List.getElem?_eq_getElem hk]; rfl
  have ap := app_loc (y := kd l k) g1 (by omega)
  rw [List.set_append_right _ _ (Nat.le_refl _), Nat.sub_self] at ap
  exact drop_ok (meth_ok rfl (ty_loc g1) (args1 (tup_ok (args3 (bin_ok rfl rfl (ix_st (by omega) hg)) (app_ok (args1 h1) c1) (app_ok (args1 (app_ok (args1 h2) c2)) c3)) (by simp))) ap)
def kds (l : List Nat) : List PV := (List.range l.length).map (kd l)
theorem e_kinds {l : List Nat} (mh : List PV) (hl : l.length ≤ 100) : F__law_kinds [.str (st l)] mh = .ok (.lst (kds l)) mh := by
  have key : ∀ (j s : Nat) (a2 : Option PV), s + j ≤ l.length → ∃ b2, loopL (gSet 2) (mDrop (mMeth "list" vAppend (gv 1) (mCons (mTup (mCons (mBin vIx (gv 0) (gv 2)) (mCons (mApp 1 F__law_comings (mCons (mSl (gv 0) (oSome (mBin vAdd (gv 2) (kv (.int 1)))) oNone) mNil)) (mCons (mApp 1 F__law_comings (mCons (mApp 1 F__law_turned_row (mCons (mSl (gv 0) oNone (oSome (gv 2))) mNil)) mNil)) mNil)))) mNil)))
      ((List.range' s j).map fun i => .int (i : Nat)) [some (.str (st l)), some (.loc mh.length), a2] (mh ++ [.lst ((List.range s).map (kd l))]) = .ok (.nx, [some (.str (st l)), some (.loc mh.length), b2]) (mh ++ [.lst ((List.range (s + j)).map (kd l))]) := by
    intro j
    induction j with
    | zero => intro s a2 _; exact ⟨a2, rfl⟩
    | succ j ih =>
      intro s a2 hs
      obtain ⟨b2, hh⟩ := ih (s + 1) (some (.int (s : Nat))) (by omega)
      have st1 := kd_step (mh := mh) (acc := (List.range s).map (kd l)) hl (show s < l.length by omega) (by simp; omega)
      rw [show (List.range s).map (kd l) ++ [kd l s] = (List.range (s + 1)).map (kd l) by rw [List.range_succ, List.map_append]; rfl] at st1
      rw [show s + (j + 1) = s + 1 + j by omega, List.range'_succ, List.map_cons]
      exact ⟨b2, (loop_nx rfl st1).trans hh⟩
  obtain ⟨b2, hk⟩ := key l.length 0 none (by omega)
  rw [← List.range_eq_range', Nat.zero_add] at hk
  have hfor := (for_src (f := mItA (mCons (mCall vLen (mCons (gv 0) mNil)) mNil) srcR1) (mh := mh ++ [.lst []]) (τ := [some (.str (st l)), some (.loc mh.length), none]) (itA_ok (args1 (call_ok (args1 rfl) (len_st (by omega)))) (src_rng (by omega))) (is_rng _)).trans hk
  have s1 : mSet 1 (mLoc mNil) [some (.str (st l)), none, none] mh = .ok (.nx, [some (.str (st l)), some (.loc mh.length), none]) (mh ++ [.lst []]) := set_ok (loc_ok rfl (by simp))
  unfold F__law_kinds g__law_kinds
  generalize F__law_comings = FC at *
  generalize F__law_turned_row = FT at *
  exact run_ret ((seq_nx s1).trans ((seq_nx hfor).trans (ret_ok rfl))) (fin_lst (ex := []) (lfs_map (fun k => rfl) _))
/-! ### _law_same -/
structure Rowy (x : PV) (n : Nat) (u : Nat → PV) : Prop where
  len : ∀ mh, vLen [x] mh = .ok (.int (n : Nat)) mh
  ix : ∀ i, i < n → ∀ mh, vIx x (.int (i : Nat)) mh = .ok (u i) mh
abbrev smB : LS → M (Out × LS) := (mSet 2 (mBin vAdd (gv 2) (mComp (mItA (mCons (mCall vLen (mCons (gv 1) mNil)) mNil) srcR1) (gSet 4) (mTest (mBin vEq (mBin vIx (gv 0) (gv 3)) (mBin vIx (gv 1) (gv 4)))) (mTup (mCons (gv 3) (mCons (gv 4) mNil))) [4])))
theorem sm_loop {x y : PV} {r c : Nat} {u v : Nat → PV} {f : Nat → Nat → Bool} (hx : Rowy x r u) (hy : Rowy y c v) (hc : c ≤ 20) (he : ∀ i j, i < r → j < c → ∀ mh, vEq (u i) (v j) mh = .ok (.bl (f i j)) mh) {mh : List PV} {a4 : Option PV} : ∀ (ks : List Nat) (acc : List (Nat × Nat)) (a3 : Option PV), (∀ k ∈ ks, k < r) → acc.length + 20 * ks.length ≤ 5000 → ∃ b3,
    loopL (gSet 3) smB (ks.map fun k => .int (k : Nat)) [some x, some y, some (prs acc), a3, a4] mh = .ok (.nx, [some x, some y, some (prs (acc ++ ks.flatMap (rowP c f))), b3, a4]) mh
  | [], acc, a3, _, _ => ⟨a3, by rw [List.flatMap_nil, List.append_nil]; rfl⟩
  | k :: ks, acc, a3, hk, hl => by
    have hk0 : k < r := hk k (List.mem_cons_self ..)
    have hl : acc.length + 20 * (ks.length + 1) ≤ 5000 := hl
    have h1 := comp_fm (f := mItA (mCons (mCall vLen (mCons (gv 1) mNil)) mNil) srcR1) (G := gSet 4) (t := mTest (mBin vEq (mBin vIx (gv 0) (gv 3)) (mBin vIx (gv 1) (gv 4)))) (e := mTup (mCons (gv 3) (mCons (gv 4) mNil))) (vs := [4])
      (τ := [some x, some y, some (prs acc), some (.int (k : Nat)), a4]) (mh := mh) (m := mh) (en := fun m : Nat => .int (m : Nat)) (ys := List.range c) (fun m => if f k m = true then some (pr (k, m)) else none) (itA_ok (args1 (call_ok (args1 rfl) (hy.len mh))) (src_rng (by omega))) (is_rng c) fun m hm => by
        have hm := List.mem_range.mp hm
        have t := test_ok (f := mBin vEq (mBin vIx (gv 0) (gv 3)) (mBin vIx (gv 1) (gv 4))) (bin_ok (τ := [some x, some y, some (prs acc), some (.int (k : Nat)), some (.int (m : Nat))]) (bin_ok (f := gv 0) (g := gv 3) rfl rfl (hx.ix k hk0 mh)) (bin_ok (f := gv 1) (g := gv 4) rfl rfl (hy.ix m hm mh)) (he k m hk0 hm mh))
        cases e : f k m with
        | true => rw [e] at t; exact step_t rfl t (tup_ok (args2 rfl rfl) (by simp))
        | false => rw [e] at t; exact step_f rfl t
    rw [row_fm] at h1
    have hr2 := rowP_len (c := c) (f := f) (k := k)
    obtain ⟨b3, h2⟩ := sm_loop hx hy hc he (mh := mh) (a4 := a4) ks (acc ++ rowP c f k) (some (.int (k : Nat))) (fun j hj => hk j (List.mem_cons_of_mem _ hj)) (by rw [List.length_append]; omega)
    refine ⟨b3, ?_⟩
    rw [List.map_cons, List.flatMap_cons, ← List.append_assoc]
    exact (loop_nx rfl (set_ok (bin_ok rfl h1 (add_prs (by omega))))).trans h2
theorem e_same {x y : PV} {r c : Nat} {u v : Nat → PV} {f : Nat → Nat → Bool} (mh : List PV) (hx : Rowy x r u) (hy : Rowy y c v) (hr : r ≤ 20) (hc : c ≤ 20) (he : ∀ i j, i < r → j < c → ∀ mh, vEq (u i) (v j) mh = .ok (.bl (f i j)) mh) :
    F__law_same [x, y] mh = .ok (prs (pairsOf r c f)) mh := by
  obtain ⟨b3, h⟩ := sm_loop hx hy hc he (mh := mh) (a4 := none) (List.range r) [] none (fun k hk => List.mem_range.mp hk) (by simp; omega)
  have hfor := (for_src (f := mItA (mCons (mCall vLen (mCons (gv 0) mNil)) mNil) srcR1) (mh := mh) (τ := [some x, some y, some (prs []), none, none]) (itA_ok (args1 (call_ok (args1 rfl) (hx.len mh))) (src_rng (by omega))) (is_rng r)).trans h
  unfold F__law_same g__law_same
  exact run_ret ((seq_nx (set_ok (lst_ok rfl (by simp)))).trans ((seq_nx hfor).trans (ret_ok rfl))) fin_same
theorem rowy_st {l : List Nat} (h : l.length ≤ 100) : Rowy (.str (st l)) l.length fun i => .str (sgn (l.getD i 0)) := by
  refine ⟨fun mh => len_st (by omega), fun i hi mh => ix_st (by omega) ?_⟩
  rw [List.getD_eq_getElem?_getD, List.getElem?_eq_getElem hi]; rfl
theorem rowy_kds (l : List Nat) : Rowy (.lst (kds l)) l.length (kd l) := by
  refine ⟨fun mh => ?_, fun i hi mh => ix_lst ?_⟩
  · show Rs.ok (PV.int ((kds l).length : Nat)) mh = _
    unfold kds
    rw [List.length_map, List.length_range]
  · unfold kds
    rw [List.getElem?_map, List.getElem?_range hi]; rfl
theorem sgn_eq {a b : Nat} : (sgn a == sgn b) = (a == b) := by
  rw [Bool.eq_iff_iff, beq_iff_eq, beq_iff_eq]
  exact ⟨fun e => (by injection e with e; injection e with e; injection e), fun e => by rw [e]⟩
theorem st_eq {a b : List Nat} : (st a == st b) = decide (a = b) := by
  rw [Bool.eq_iff_iff, beq_iff_eq, decide_eq_true_eq]
  exact ⟨fun e => (by injection e with e; injection e with e), fun e => by rw [e]⟩
theorem cm_sub : ∀ (l S : List Nat), ∀ c ∈ cm S l, c ∈ l
  | [], S, c, h => h
  | x :: l, S, c, h => by
    have ec : cm S (x :: l) = if x ∈ S then cm S l else x :: cm (S ++ [x]) l := rfl
    rw [ec] at h
    split at h
    · exact List.mem_cons_of_mem _ (cm_sub l S c h)
    · rcases List.mem_cons.mp h with rfl | h
      · exact List.mem_cons_self ..
      · exact List.mem_cons_of_mem _ (cm_sub l _ c h)
theorem Da.str {l : List Nat} (h : ∀ c ∈ l, c < 1000) : Da (.str (st l)) (.str (st l)) 0 := by
  refine ⟨fun s => by simp only [toD], ?_, by simp only [PyData.depth]; omega⟩
  simp only [PyData.canLay0, PyData.strOk]
  show (l.toArray.all _) = true
  rw [List.all_toArray, List.all_eq_true]
  intro c hc
  have := h c hc
  simp
  omega
def kdD (l : List Nat) (k : Nat) : PyData := .tuple [.str (sgn (l.getD k 0)), .str (st (cm [] (l.drop (k + 1)))), .str (st (cm [] (l.take k).reverse))]
theorem kd_da {l : List Nat} {k : Nat} (hk : k < l.length) (h : ∀ c ∈ l, c < 1000) : Da (kd l k) (kdD l k) 1 := by
  have hg : l.getD k 0 ∈ l := by rw [List.getD_eq_getElem?_getD, List.getElem?_eq_getElem hk]; exact List.getElem_mem hk
  refine Da.tup (l := [[l.getD k 0], cm [] (l.drop (k + 1)), cm [] (l.take k).reverse]) (f := fun z => .str (st z)) (g := fun z => .str (st z)) fun z hz => Da.str fun c hc => ?_
  simp only [List.mem_cons, List.not_mem_nil, or_false] at hz
  rcases hz with rfl | rfl | rfl
  · rw [List.mem_singleton.mp hc]; exact h _ hg
  · exact h c (List.mem_of_mem_drop (cm_sub _ _ c hc))
  · exact h c (List.mem_of_mem_take (List.mem_reverse.mp (cm_sub _ _ c hc)))
theorem kd_eq {row other : List Nat} (h1 : ∀ c ∈ row, c < 1000) (h2 : ∀ c ∈ other, c < 1000) (i j : Nat) (hi : i < row.length) (hj : j < other.length) (mh : List PV) :
    vEq (kd row i) (kd other j) mh = .ok (.bl (nx row.length other.length (eqT row other) i j)) mh := by
  rw [veq_da (kd_da hi h1) (kd_da hj h2) (by omega) (by omega)]
  congr 2
  unfold nx
  rw [keeps_eq hi hj]
  simp only [kdD, PyData.eqv, PyData.eqvAll, Bool.and_true, sgn_eq, st_eq]
  rfl
theorem lt_eq {row other : List Nat} (i j : Nat) (hi : i < row.length) (hj : j < other.length) (mh : List PV) : vEq (.str (sgn (row.getD i 0))) (.str (sgn (other.getD j 0))) mh = .ok (.bl (eqT row other i j)) mh := by
  rw [v_eq_str, sgn_eq]
  rfl
end Lw

set_option Elab.async false
set_option linter.all false
set_option maxRecDepth 100000
namespace Lw
open PySem PySem.Spec L2 ML
/-! ### dicts of pairs -/
def kk (k m : Nat) : List Key := [Sum.inl ((k : Nat) : Int), Sum.inl ((m : Nat) : Int)]
theorem kk_inj {a b c d : Nat} : kk a b = kk c d ↔ a = c ∧ b = d := by
  unfold kk
  constructor
  · intro h
    injection h with h1 h2
    injection h2 with h2 _
    have h1 := Sum.inl.inj h1
    have h2 := Sum.inl.inj h2
    omega
  · rintro ⟨rfl, rfl⟩; rfl
def DictT (o : PV) (f : Nat → Nat → Bool) (b : Nat) : Prop := ∃ (ks : List (List Key)) (ts : List PV), o = .dt ks ts ∧ ks.length ≤ b ∧ ts = ks.map (fun _ => PV.bl true) ∧ ∀ k m : Nat, f k m = true ↔ kk k m ∈ ks
theorem dgetT_true : ∀ (ks : List (List Key)) (k : List Key), (dGet k ks (ks.map fun _ => PV.bl true)).isSome = true ↔ k ∈ ks
  | [], k => by simp [dGet]
  | q :: ks, k => by
    show (if q = k then some (PV.bl true) else dGet k ks (ks.map fun _ => PV.bl true)).isSome = true ↔ _
    by_cases h : q = k
    · simp [h]
    · rw [if_neg h, dgetT_true ks k]
      have : k ≠ q := fun e => h e.symm
      simp [this]
theorem din_t {o : PV} {f : Nat → Nat → Bool} {b : Nat} (h : DictT o f b) {mh : List PV} {n : Nat} (hn : mh[n]? = some o) (s : Bool) (k m : Nat) : vDIn s (.tup [.int (k : Nat), .int (m : Nat)]) (.loc n) mh = .ok (.bl (xor s (f k m))) mh := by
  obtain ⟨ks, ts, rfl, _, rfl, hc⟩ := h
  have e : lookP mh (.loc n) (.tup [.int (k : Nat), .int (m : Nat)]) = some (dGet (kk k m) ks (ks.map fun _ => PV.bl true)) := by
    unfold lookP dictV
    simp only [hn, lookO, keysP, keyP]
    rfl
  unfold vDIn
  rw [e]
  show Rs.ok (PV.bl (xor s (dGet _ ks _).isSome)) mh = _
  have : (dGet (kk k m) ks (ks.map fun _ => PV.bl true)).isSome = f k m := Bool.eq_iff_iff.mpr ((dgetT_true ks _).trans (hc k m).symm)
  rw [this]
theorem zipT_true (z : List Key) : ∀ ks : List (List Key), List.zipWith (fun n x => if n = z then PV.bl true else x) ks (ks.map fun _ => PV.bl true) = ks.map fun _ => PV.bl true
  | [] => rfl
  | k :: ks => by rw [List.map_cons, List.zipWith_cons_cons, zipT_true z ks]; simp
theorem put_t {o : PV} {f : Nat → Nat → Bool} {b : Nat} (h : DictT o f b) (hb : b < 1000) (k m : Nat) : ∃ o', putO o (.tup [.int (k : Nat), .int (m : Nat)]) (.bl true) = some o' ∧ DictT o' (put1 f k m) (b + 1) := by
  obtain ⟨ks, ts, rfl, hl, rfl, hc⟩ := h
  have e : putO (.dt ks (ks.map fun _ => PV.bl true)) (.tup [.int (k : Nat), .int (m : Nat)]) (.bl true) = some (.dt (dPutN (kk k m) ks) (dPutT (kk k m) (.bl true) ks (ks.map fun _ => PV.bl true))) := by
    unfold putO
    simp only [keysP, keyP]
    rw [if_pos (by rw [sizeLine_eq]; omega)]
    rfl
  refine ⟨_, e, _, _, rfl, ?_, ?_, fun i j => ?_⟩
  · unfold dPutN; split
    · omega
    · rw [List.length_append]; show ks.length + 1 ≤ _; omega
  · unfold dPutN dPutT
    split
    · exact zipT_true _ ks
    · simp
  · have hq : put1 f k m i j = true ↔ kk i j ∈ ks ∨ kk i j = kk k m := by
      unfold put1
      rw [Bool.or_eq_true, hc, Bool.and_eq_true, decide_eq_true_iff, decide_eq_true_iff, kk_inj]
    rw [hq]
    unfold dPutN
    split
    · next hm =>
      constructor
      · rintro (h | h)
        · exact h
        · rw [h]; exact hm
      · exact .inl
    · rw [List.mem_append, List.mem_singleton]
theorem dput_ok {d y v : LS → M PV} {τ : LS} {mh m1 m2 m3 : List PV} {t z o o' : PV} {n : Nat} (h1 : v τ mh = .ok t m1) (h2 : d τ m1 = .ok (.loc n) m2) (h3 : y τ m2 = .ok z m3) (ho : m3[n]? = some o) (hp : putO o z t = some o') : mDPut d y v τ mh = .ok (.nx, τ) (m3.set n o') := by
  unfold mDPut
  rw [h1, Rs.bind_ok, h2, Rs.bind_ok, h3, Rs.bind_ok]
  show (match m3[n]? with
    | some o => (match putO o z t with
      | some o' => Rs.ok ((Out.nx, τ) : Out × LS) (m3.set n o')
      | none => .no)
    | none => .no) = _
  rw [ho]
  show (match putO o z t with
      | some o' => Rs.ok ((Out.nx, τ) : Out × LS) (m3.set n o')
      | none => .no) = _
  rw [hp]
/-! ### _law_answered -/
theorem v_any {α : Type} (l : List α) (p : α → Bool) (mh : List PV) : vAny [.lst (l.map fun a => .bl (p a))] mh = .ok (.bl (l.any p)) mh := by
  have key : ∀ l : List α, bools (l.map fun a => PV.bl (p a)) = some (l.map p) := fun l => by
    induction l with
    | nil => rfl
    | cons a l ih => rw [List.map_cons]; simp only [bools]; rw [ih]; rfl
  show (match bools (l.map fun a => PV.bl (p a)) with
      | some bs => Rs.ok (PV.bl (bs.any id)) mh
      | none => .no) = _
  rw [key]
  show Rs.ok (PV.bl ((l.map p).any id)) mh = _
  rw [List.any_map]; rfl
theorem sl_pl {l : List Nat} {k : Nat} {mh : List PV} : vSl (pl l) none (some ((k : Nat) : Int)) mh = .ok (pl (l.take k)) mh := by
  show Rs.ok (PV.lst (cutP (l.map fun i => PV.int (i : Nat)) none (some ((k : Nat) : Int)))) mh = _
  unfold cutP
  rw [HT.sIx_none, HT.sIx_nat, List.drop_zero, Nat.sub_zero, ← List.take_eq_take_min]
  unfold pl
  rw [List.map_take]
theorem ix_pl {l : List Nat} {k p : Nat} {mh : List PV} (h : l[k]? = some p) : vIx (pl l) (.int (k : Nat)) mh = .ok (.int (p : Nat)) mh := ix_lst (by rw [List.getElem?_map, h]; rfl)
/-- what the loop over the others finds -/
def fnd (f : Nat → Nat → Bool) (ones others : List Nat) (i x : Nat) (j p : Nat) : Bool := f x p && (others.take j).all fun q => (ones.take i).any fun o => f o q
abbrev anA : LS → M PV := (mCall vAll (mCons (mComp (mIt (mSl (gv 2) oNone (oSome (gv 5))) srcL) (gSet 7) mYes (mCall vAny (mCons (mComp (mIt (mSl (gv 1) oNone (oSome (gv 3))) srcL) (gSet 6) mYes (mBin (vDIn false) (mTup (mCons (gv 6) (mCons (gv 7) mNil))) (gv 0)) [6]) mNil)) [7]) mNil))
theorem an_all {o : PV} {f : Nat → Nat → Bool} {b n : Nat} (hd : DictT o f b) {mh : List PV} (hn : mh[n]? = some o) {ones others : List Nat} {i j : Nat} {a4 a6 a7 : Option PV} :
    anA [some (.loc n), some (pl ones), some (pl others), some (.int (i : Nat)), a4, some (.int (j : Nat)), a6, a7] mh = .ok (.bl ((others.take j).all fun q => (ones.take i).any fun x => f x q)) mh := by
  have outer := comp_map (f := mIt (mSl (gv 2) oNone (oSome (gv 5))) srcL) (G := gSet 7) (t := mYes) (vs := [7]) (e := mCall vAny (mCons (mComp (mIt (mSl (gv 1) oNone (oSome (gv 3))) srcL) (gSet 6) mYes (mBin (vDIn false) (mTup (mCons (gv 6) (mCons (gv 7) mNil))) (gv 0)) [6]) mNil))
    (τ := [some (.loc n), some (pl ones), some (pl others), some (.int (i : Nat)), a4, some (.int (j : Nat)), a6, a7]) (mh := mh) (m := mh) (en := fun q : Nat => .int (q : Nat)) (ys := others.take j) (fun q => .bl ((ones.take i).any fun x => f x q)) (it_ok (show vSl (pl others) none (some ((j : Nat) : Int)) mh = _ from sl_pl) ev_srcL) (Src.is_lst _) fun q _ => by
      refine step_map rfl (call_ok (args1 (comp_map (en := fun x : Nat => .int (x : Nat)) (ys := ones.take i) (fun x => .bl (f x q)) (it_ok (show vSl (pl ones) none (some ((i : Nat) : Int)) mh = _ from sl_pl) ev_srcL) (Src.is_lst _) fun x _ => step_map rfl (bin_ok (tup_ok (args2 rfl rfl) (by simp)) rfl ((din_t hd hn false x q).trans (by rw [Bool.false_xor]))))) (v_any _ _ mh))
  exact call_ok (args1 outer) (v_all _ _ mh)
abbrev anB : LS → M (Out × LS) := (mSeq (mIf (mTest (mBin (vDIn false) (mTup (mCons (mBin vIx (gv 1) (gv 3)) (mCons (mBin vIx (gv 2) (gv 5)) mNil))) (gv 0)))
 (mSet 4 anA)
 mSkip)
 (mIf (mTest (gv 4))
 mBreak
 mSkip))
theorem an_inner {o : PV} {f : Nat → Nat → Bool} {b n : Nat} (hd : DictT o f b) {mh : List PV} (hn : mh[n]? = some o) {ones others : List Nat} {i x : Nat} (hx : ones[i]? = some x) {a6 a7 : Option PV} : ∀ (d j : Nat), j + d = others.length → ∀ a5, ∃ b5,
    loopL (gSet 5) anB ((List.range' j d).map fun i => .int (i : Nat)) [some (.loc n), some (pl ones), some (pl others), some (.int (i : Nat)), some (.bl false), a5, a6, a7] mh =
      .ok (.nx, [some (.loc n), some (pl ones), some (pl others), some (.int (i : Nat)), some (.bl ((List.range' j d).any fun j => fnd f ones others i x j (others.getD j 0))), b5, a6, a7]) mh
  | 0, j, _, a5 => ⟨a5, rfl⟩
  | d + 1, j, e, a5 => by
    have hj : j < others.length := by omega
    have hp : others[j]? = some (others.getD j 0) := by rw [List.getD_eq_getElem?_getD, List.getElem?_eq_getElem hj]; rfl
    rw [List.range'_succ, List.map_cons, List.any_cons]
    have t1 : ∀ a4, mTest (mBin (vDIn false) (mTup (mCons (mBin vIx (gv 1) (gv 3)) (mCons (mBin vIx (gv 2) (gv 5)) mNil))) (gv 0)) [some (.loc n), some (pl ones), some (pl others), some (.int (i : Nat)), a4, some (.int (j : Nat)), a6, a7] mh = .ok (f x (others.getD j 0)) mh := fun a4 =>
      test_ok (bin_ok (tup_ok (args2 (bin_ok rfl rfl (ix_pl hx)) (bin_ok rfl rfl (ix_pl hp))) (by simp)) rfl ((din_t hd hn false x _).trans (by rw [Bool.false_xor])))
    have t1 := t1 (some (.bl false))
    have hA := an_all hd hn (ones := ones) (others := others) (i := i) (j := j) (a4 := some (.bl false)) (a6 := a6) (a7 := a7)
    -- what this turn finds
    have body : anB [some (.loc n), some (pl ones), some (pl others), some (.int (i : Nat)), some (.bl false), some (.int (j : Nat)), a6, a7] mh = .ok (if fnd f ones others i x j (others.getD j 0) = true then .bk else .nx, [some (.loc n), some (pl ones), some (pl others), some (.int (i : Nat)), some (.bl (fnd f ones others i x j (others.getD j 0))), some (.int (j : Nat)), a6, a7]) mh := by
      unfold fnd
      cases hf : f x (others.getD j 0) with
      | false =>
        rw [hf] at t1
        exact (seq_nx ((if_f t1).trans rfl)).trans ((if_f (test_ok rfl)).trans rfl)
      | true =>
        rw [hf] at t1
        cases hq : (others.take j).all fun q => (ones.take i).any fun x => f x q with
        | true =>
          rw [hq] at hA
          exact (seq_nx ((if_t t1).trans (set_ok hA))).trans ((if_t (test_ok rfl)).trans rfl)
        | false =>
          rw [hq] at hA
          exact (seq_nx ((if_t t1).trans (set_ok hA))).trans ((if_f (test_ok rfl)).trans rfl)
    cases hfd : fnd f ones others i x j (others.getD j 0) with
    | true =>
      rw [hfd, if_pos rfl] at body
      rw [Bool.true_or]
      exact ⟨_, loop_bk rfl body⟩
    | false =>
      rw [hfd, if_neg Bool.false_ne_true] at body
      rw [Bool.false_or]
      obtain ⟨b5, h⟩ := an_inner hd hn (others := others) hx (a6 := a6) (a7 := a7) d (j + 1) (by omega) (some (.int (j : Nat)))
      exact ⟨b5, (loop_nx rfl body).trans h⟩
theorem fnd_ok {f : Nat → Nat → Bool} {ones others : List Nat} {i x : Nat} {C : Nat → Bool} (hC : ∀ q ∈ others, C q = (ones.take i).any fun o => f o q) : ((List.range' 0 others.length).any fun j => fnd f ones others i x j (others.getD j 0)) = okB C (f x) others := by
  rw [Bool.eq_iff_iff, okB_iff, List.any_eq_true]
  constructor
  · rintro ⟨j, hj, h⟩
    rw [← List.range_eq_range', List.mem_range] at hj
    unfold fnd at h
    rw [Bool.and_eq_true, List.all_eq_true] at h
    exact ⟨j, _, by rw [List.getD_eq_getElem?_getD, List.getElem?_eq_getElem hj]; rfl, h.1, fun q hq => by rw [hC q (List.mem_of_mem_take hq)]; exact h.2 q hq⟩
  · rintro ⟨j, p, h1, h2, h3⟩
    have hj := (List.getElem?_eq_some_iff.mp h1).1
    refine ⟨j, by rw [← List.range_eq_range', List.mem_range]; exact hj, ?_⟩
    unfold fnd
    rw [List.getD_eq_getElem?_getD, h1, Bool.and_eq_true, List.all_eq_true]
    exact ⟨h2, fun q hq => by rw [← hC q (List.mem_of_mem_take hq)]; exact h3 q hq⟩
abbrev anO : LS → M (Out × LS) := (mSeq (mSet 4 (kv (.bl false)))
 (mSeq (mFor (mItA (mCons (mCall vLen (mCons (gv 2) mNil)) mNil) srcR1) (gSet 5) anB)
 (mIf (mNot (mTest (gv 4)))
 (mRet (kv (.bl false)))
 mSkip)))
theorem an_outer {o : PV} {f : Nat → Nat → Bool} {b n : Nat} (hd : DictT o f b) {mh : List PV} (hn : mh[n]? = some o) {ones others : List Nat} (ho : others.length ≤ 1000) {a6 a7 : Option PV} : ∀ (d i : Nat) (C : Nat → Bool), i + d = ones.length → (∀ q ∈ others, C q = (ones.take i).any fun o => f o q) → ∀ a3 a4 a5, ∃ τ',
    loopL (gSet 3) anO ((List.range' i d).map fun i => .int (i : Nat)) [some (.loc n), some (pl ones), some (pl others), a3, a4, a5, a6, a7] mh =
      .ok (if ansB f others C (ones.drop i) = true then .nx else .ret (.bl false), τ') mh
  | 0, i, C, e, hC, a3, a4, a5 => by
    rw [List.drop_of_length_le (by omega)]
    exact ⟨_, rfl⟩
  | d + 1, i, C, e, hC, a3, a4, a5 => by
    have hi : i < ones.length := by omega
    have hx := List.getElem?_eq_getElem hi
    rw [List.drop_eq_getElem_cons hi, ansB]
    generalize hxv : ones[i] = x at hx
    obtain ⟨b5, h⟩ := an_inner hd hn (others := others) hx (a6 := a6) (a7 := a7) others.length 0 (by omega) a5
    rw [fnd_ok hC, ← List.range_eq_range'] at h
    have hfor := (for_src (f := mItA (mCons (mCall vLen (mCons (gv 2) mNil)) mNil) srcR1) (mh := mh) (τ := [some (.loc n), some (pl ones), some (pl others), some (.int (i : Nat)), some (.bl false), a5, a6, a7]) (itA_ok (args1 (call_ok (args1 rfl) len_pl)) (src_rng (by omega))) (is_rng _)).trans h
    rw [List.range'_succ, List.map_cons]
    cases hk : okB C (f x) others with
    | true =>
      rw [hk] at hfor
      rw [Bool.true_and]
      obtain ⟨τ', h2⟩ := an_outer hd hn ho (ones := ones) (a6 := a6) (a7 := a7) d (i + 1) (covB others C (f x)) (by omega) (fun q hq => by
        unfold covB
        rw [hC q hq, decide_eq_true hq, Bool.true_and, List.take_succ, hx]
        simp) (some (.int (i : Nat))) (some (.bl true)) b5
      exact ⟨τ', (loop_nx rfl ((seq_nx (set_ok rfl)).trans ((seq_nx hfor).trans ((if_f (not_ok (b := true) (test_ok rfl))).trans rfl)))).trans h2⟩
    | false =>
      rw [hk] at hfor
      rw [Bool.false_and, if_neg Bool.false_ne_true]
      exact ⟨_, loop_ret rfl ((seq_nx (set_ok rfl)).trans ((seq_nx hfor).trans ((if_t (not_ok (b := false) (test_ok rfl))).trans (ret_ok rfl))))⟩
theorem e_answ {o : PV} {f : Nat → Nat → Bool} {b n : Nat} (hd : DictT o f b) {mh : List PV} (hn : mh[n]? = some o) {ones others : List Nat} (h1 : ones.length ≤ 1000) (h2 : others.length ≤ 1000) :
    F__law_answered [.loc n, pl ones, pl others] mh = .ok (.bl (ansB f others (fun _ => false) ones)) mh := by
  obtain ⟨τ', h⟩ := an_outer hd hn h2 (ones := ones) (a6 := none) (a7 := none) ones.length 0 (fun _ => false) (by omega) (fun q _ => by simp) none none none
  rw [← List.range_eq_range', List.drop_zero] at h
  have hfor := (for_src (f := mItA (mCons (mCall vLen (mCons (gv 1) mNil)) mNil) srcR1) (mh := mh) (τ := [some (.loc n), some (pl ones), some (pl others), none, none, none, none, none]) (itA_ok (args1 (call_ok (args1 rfl) len_pl)) (src_rng (by omega))) (is_rng _)).trans h
  unfold F__law_answered g__law_answered
  cases ha : ansB f others (fun _ => false) ones with
  | true =>
    rw [ha, if_pos rfl] at hfor
    exact run_ret ((seq_nx hfor).trans (ret_ok rfl)) fin_same
  | false =>
    rw [ha, if_neg Bool.false_ne_true] at hfor
    exact run_ret (seq_ret hfor) fin_same
end Lw

set_option Elab.async false
set_option linter.all false
set_option maxRecDepth 100000
namespace Lw
open PySem PySem.Spec L2 ML
/-! ### _law_stays -/
noncomputable abbrev ts1 : LS → M (Out × LS) := (mSet 4 mDNewT)
noncomputable abbrev ts2 : LS → M (Out × LS) := (mSet 5 mDNewT)
noncomputable abbrev ts3 : LS → M (Out × LS) := (mFor (mIt (gv 2) srcL) (gTupP 2 (gsCons (gSet 6) (gsCons (gSet 7) gsNil)))
 (mSeq (mDPut (gv 4) (mTup (mCons (gv 6) (mCons (gv 7) mNil))) (kv (.bl true)))
 (mDPut (gv 5) (mTup (mCons (gv 7) (mCons (gv 6) mNil))) (kv (.bl true)))))
noncomputable abbrev ts4 : LS → M (Out × LS) := (mSet 8 (mLst (mCons (mComp (mItA (mCons (mBin vAdd (mBin vIx (gv 3) (kv (.int 0))) (kv (.int 1))) (mCons (mCall vLen (mCons (gv 0) mNil)) mNil)) srcR2) (gSet 6) mYes (gv 6) [6]) (mCons (mComp (mItA (mCons (mBin vAdd (mBin vIx (gv 3) (kv (.int 1))) (kv (.int 1))) (mCons (mCall vLen (mCons (gv 1) mNil)) mNil)) srcR2) (gSet 7) mYes (gv 7) [7]) mNil))))
noncomputable abbrev ts5 : LS → M (Out × LS) := (mIf (mOr (mNot (mTest (mApp 3 F__law_answered (mCons (gv 4) (mCons (mBin vIx (gv 8) (kv (.int 0))) (mCons (mBin vIx (gv 8) (kv (.int 1))) mNil)))))) (mNot (mTest (mApp 3 F__law_answered (mCons (gv 5) (mCons (mBin vIx (gv 8) (kv (.int 1))) (mCons (mBin vIx (gv 8) (kv (.int 0))) mNil)))))))
 (mRet (kv (.bl false)))
 mSkip)
noncomputable abbrev ts6 : LS → M (Out × LS) := (mSet 8 (mLst (mCons (mComp (mItA (mCons (mBin vIx (gv 3) (kv (.int 0))) mNil) srcR1) (gSet 6) mYes (mBin vSub (mBin vSub (mBin vIx (gv 3) (kv (.int 0))) (kv (.int 1))) (gv 6)) [6]) (mCons (mComp (mItA (mCons (mBin vIx (gv 3) (kv (.int 1))) mNil) srcR1) (gSet 7) mYes (mBin vSub (mBin vSub (mBin vIx (gv 3) (kv (.int 1))) (kv (.int 1))) (gv 7)) [7]) mNil))))
noncomputable abbrev ts7 : LS → M (Out × LS) := (mRet (mAndV (mApp 3 F__law_answered (mCons (gv 4) (mCons (mBin vIx (gv 8) (kv (.int 0))) (mCons (mBin vIx (gv 8) (kv (.int 1))) mNil)))) (mApp 3 F__law_answered (mCons (gv 5) (mCons (mBin vIx (gv 8) (kv (.int 1))) (mCons (mBin vIx (gv 8) (kv (.int 0))) mNil))))))
theorem ts_eq : g__law_stays = (mSeq ts1 (mSeq ts2 (mSeq ts3 (mSeq ts4 (mSeq ts5 (mSeq ts6 ts7)))))) := rfl

theorem fl_put (g : Nat → Nat → Bool) (k m : Nat) : put1 (fl g) m k = fl (put1 g k m) := by
  funext i j
  show (g j i || (decide (i = m) && decide (j = k))) = (g j i || (decide (j = k) && decide (i = m)))
  rw [Bool.and_comm]
theorem st_loop {a0 a1 a2 a3 a8 : Option PV} {mh : List PV} : ∀ (l : List (Nat × Nat)) (f : Nat → Nat → Bool) (o1 o2 : PV) (b : Nat) (a6 a7 : Option PV), DictT o1 f b → DictT o2 (fl f) b → b + l.length < 900 → ∃ o1' o2' b6 b7,
    loopL (gTupP 2 (gsCons (gSet 6) (gsCons (gSet 7) gsNil))) (mSeq (mDPut (gv 4) (mTup (mCons (gv 6) (mCons (gv 7) mNil))) (kv (.bl true)))
 (mDPut (gv 5) (mTup (mCons (gv 7) (mCons (gv 6) mNil))) (kv (.bl true)))) (l.map pr) [a0, a1, a2, a3, some (.loc mh.length), some (.loc (mh.length + 1)), a6, a7, a8] (mh ++ [o1, o2]) =
      .ok (.nx, [a0, a1, a2, a3, some (.loc mh.length), some (.loc (mh.length + 1)), b6, b7, a8]) (mh ++ [o1', o2']) ∧ DictT o1' (tabOf f l) (b + l.length) ∧ DictT o2' (fl (tabOf f l)) (b + l.length)
  | [], f, o1, o2, b, a6, a7, h1, h2, _ => ⟨o1, o2, a6, a7, rfl, h1, h2⟩
  | p :: l, f, o1, o2, b, a6, a7, h1, h2, hb => by
    have hb : b + (l.length + 1) < 900 := hb
    obtain ⟨o1a, e1, d1⟩ := put_t h1 (by omega) p.1 p.2
    obtain ⟨o2a, e2, d2⟩ := put_t h2 (by omega) p.2 p.1
    rw [fl_put] at d2
    have g1 : (mh ++ [o1, o2])[mh.length]? = some o1 := by rw [List.getElem?_append_right (Nat.le_refl _), Nat.sub_self]; rfl
    have s1 : (mh ++ [o1, o2]).set mh.length o1a = mh ++ [o1a, o2] := by rw [List.set_append_right _ _ (Nat.le_refl _), Nat.sub_self]; rfl
    have g2 : (mh ++ [o1a, o2])[mh.length + 1]? = some o2 := by rw [List.getElem?_append_right (by omega), Nat.add_sub_cancel_left]; rfl
    have s2 : (mh ++ [o1a, o2]).set (mh.length + 1) o2a = mh ++ [o1a, o2a] := by rw [List.set_append_right _ _ (by omega), Nat.add_sub_cancel_left]; rfl
    obtain ⟨o1', o2', b6, b7, hl, c1, c2⟩ := st_loop (a0 := a0) (a1 := a1) (a2 := a2) (a3 := a3) (a8 := a8) (mh := mh) l (put1 f p.1 p.2) o1a o2a (b + 1) (some (.int (p.1 : Nat))) (some (.int (p.2 : Nat))) d1 d2 (by omega)
    rw [show b + 1 + l.length = b + (p :: l).length by rw [List.length_cons]; omega] at c1 c2
    refine ⟨o1', o2', b6, b7, (loop_nx (τ1 := [a0, a1, a2, a3, some (.loc mh.length), some (.loc (mh.length + 1)), some (.int (p.1 : Nat)), some (.int (p.2 : Nat)), a8]) (m1 := mh ++ [o1, o2]) rfl ?_).trans hl, c1, c2⟩
    have p1 := dput_ok (d := gv 4) (y := mTup (mCons (gv 6) (mCons (gv 7) mNil))) (v := kv (.bl true)) (τ := [a0, a1, a2, a3, some (.loc mh.length), some (.loc (mh.length + 1)), some (.int (p.1 : Nat)), some (.int (p.2 : Nat)), a8]) (mh := mh ++ [o1, o2]) rfl rfl (tup_ok (args2 rfl rfl) (by simp)) g1 e1
    rw [s1] at p1
    have p2 := dput_ok (d := gv 5) (y := mTup (mCons (gv 7) (mCons (gv 6) mNil))) (v := kv (.bl true)) (τ := [a0, a1, a2, a3, some (.loc mh.length), some (.loc (mh.length + 1)), some (.int (p.1 : Nat)), some (.int (p.2 : Nat)), a8]) (mh := mh ++ [o1a, o2]) rfl rfl (tup_ok (args2 rfl rfl) (by simp)) g2 e2
    rw [s2] at p2
    exact (seq_nx p1).trans p2
theorem src_r2 {i j : Int} {m : List PV} (h : -(2 ^ 62) ≤ i ∧ i < 2 ^ 62 ∧ -(2 ^ 62) ≤ j ∧ j < 2 ^ 62 ∧ j - i ≤ 16777216) : srcR2 [.int i, .int j] m = .ok (Src.fn (j - i).toNat fun k => .int (i + (k : Nat))) m := if_pos h
/-- the places behind: by a range of two ends -/
theorem up_pl {i p n : Nat} {a b : LS → ML.M PV} {τ : LS} {m : List PV} (hp : p < n) (hn : n ≤ 1000) (ha : a τ m = .ok (.int ((p : Nat) + 1 : Int)) m) (hb : b τ m = .ok (.int (n : Nat)) m) (hg : ∀ x : PV, gv i ((wipeL τ [i]).set i (some x)) m = .ok x m) :
    mComp (mItA (mCons a (mCons b mNil)) srcR2) (gSet i) mYes (gv i) [i] τ m = .ok (pl (beyond p n true)) m := by
  have hs : srcR2 [.int ((p : Nat) + 1 : Int), .int (n : Nat)] m = .ok (Src.fn (n - (p + 1)) fun k => .int (((p : Nat) + 1 : Int) + (k : Nat))) m := by
    have h62 : (2 : Int) ^ 62 = 4611686018427387904 := by decide
    have := src_r2 (i := (p : Nat) + 1) (j := (n : Nat)) (m := m) (by rw [h62]; omega)
    rw [show (((n : Nat) : Int) - ((p : Nat) + 1 : Int)).toNat = n - (p + 1) by omega] at this
    exact this
  have h := comp_map (f := mItA (mCons a (mCons b mNil)) srcR2) (G := gSet i) (t := mYes) (e := gv i) (vs := [i]) (τ := τ) (mh := m) (m := m) (en := fun k : Nat => .int (((p : Nat) + 1 : Int) + (k : Nat))) (ys := List.range (n - (p + 1))) (fun k => .int (((p : Nat) + 1 : Int) + (k : Nat))) (itA_ok (args2 ha hb) hs) (Src.is_fn _ _) fun k _ => step_map rfl (hg _)
  rw [h]
  unfold pl beyond
  rw [List.map_map]
  refine congrArg (fun l => Rs.ok (PV.lst l) m) (List.map_congr_left fun k _ => congrArg PV.int ?_)
  show ((p : Nat) + 1 : Int) + (k : Int) = ((k + (p + 1) : Nat) : Int)
  omega
theorem dn_pl {i p : Nat} {a e : LS → ML.M PV} {τ : LS} {m : List PV} (hn : p ≤ 1000) (ha : a τ m = .ok (.int (p : Nat)) m) (he : ∀ k : Nat, k < p → e ((wipeL τ [i]).set i (some (.int (k : Nat)))) m = .ok (.int ((p : Nat) - 1 - (k : Nat) : Int)) m) (n : Nat) :
    mComp (mItA (mCons a mNil) srcR1) (gSet i) mYes e [i] τ m = .ok (pl (beyond p n false)) m := by
  have h := comp_map (f := mItA (mCons a mNil) srcR1) (G := gSet i) (t := mYes) (e := e) (vs := [i]) (τ := τ) (mh := m) (m := m) (en := fun k : Nat => .int (k : Nat)) (ys := List.range p) (fun k => .int ((p : Nat) - 1 - (k : Nat) : Int)) (itA_ok (args1 ha) (src_rng (by omega))) (is_rng p) fun k hk => step_map rfl (he k (List.mem_range.mp hk))
  rw [h]
  unfold pl beyond
  rw [List.map_map]
  refine congrArg (fun l => Rs.ok (PV.lst l) m) (List.map_congr_left fun k hk => congrArg PV.int ?_)
  have := List.mem_range.mp hk
  show ((p : Nat) : Int) - 1 - (k : Int) = ((p - 1 - k : Nat) : Int)
  omega
theorem e_stays {row other : List Nat} {l : List (Nat × Nat)} {p : Nat × Nat} (mh : List PV) (hr : row.length ≤ 20) (hc : other.length ≤ 20) (hl : l.length < 800) (h1 : p.1 < row.length) (h2 : p.2 < other.length) :
    F__law_stays [.str (st row), .str (st other), prs l, pr p] mh = .ok (.bl (keeps (memT l) row.length other.length p.1 p.2)) mh := by
  obtain ⟨o1, o2, b6, b7, hloop, d1, d2⟩ := st_loop (a0 := some (.str (st row))) (a1 := some (.str (st other))) (a2 := some (prs l)) (a3 := some (pr p)) (a8 := none) (mh := mh) l (fun _ _ => false) (.dt [] []) (.dt [] []) 0 none none
    ⟨[], [], rfl, by simp, rfl, fun k m => by simp⟩ ⟨[], [], rfl, by simp, rfl, fun k m => by simp [fl]⟩ (by omega)
  rw [tabOf_mem] at d1 d2
  have g1 : (mh ++ [o1, o2])[mh.length]? = some o1 := by rw [List.getElem?_append_right (Nat.le_refl _), Nat.sub_self]; rfl
  have g2 : (mh ++ [o1, o2])[mh.length + 1]? = some o2 := by rw [List.getElem?_append_right (by omega), Nat.add_sub_cancel_left]; rfl
  have s1 : ts1 [some (.str (st row)), some (.str (st other)), some (prs l), some (pr p), none, none, none, none, none] mh = .ok (.nx, [some (.str (st row)), some (.str (st other)), some (prs l), some (pr p), some (.loc mh.length), none, none, none, none]) (mh ++ [.dt [] []]) := set_ok rfl
  have s2 : ts2 [some (.str (st row)), some (.str (st other)), some (prs l), some (pr p), some (.loc mh.length), none, none, none, none] (mh ++ [.dt [] []]) = .ok (.nx, [some (.str (st row)), some (.str (st other)), some (prs l), some (pr p), some (.loc mh.length), some (.loc (mh.length + 1)), none, none, none]) (mh ++ [.dt [] [], .dt [] []]) := by
    refine set_ok ?_
    show Rs.ok (PV.loc (mh ++ [PV.dt [] []]).length) ((mh ++ [PV.dt [] []]) ++ [PV.dt [] []]) = _
    rw [List.length_append, List.append_assoc]; rfl
  have s3 : ts3 [some (.str (st row)), some (.str (st other)), some (prs l), some (pr p), some (.loc mh.length), some (.loc (mh.length + 1)), none, none, none] (mh ++ [.dt [] [], .dt [] []]) = _ := (for_src (it_ok rfl ev_srcL) (Src.is_lst _)).trans hloop
  generalize hM : mh ++ [o1, o2] = M at *
  have ba : ∀ u, (beyond p.1 row.length u).length ≤ 1000 := fun u => Nat.le_trans (beyond_len h1) (by omega)
  have bb : ∀ u, (beyond p.2 other.length u).length ≤ 1000 := fun u => Nat.le_trans (beyond_len h2) (by omega)
  have q1 := fun u => e_answ d1 g1 (ones := beyond p.1 row.length u) (others := beyond p.2 other.length u) (ba u) (bb u)
  have q2 := fun u => e_answ d2 g2 (ones := beyond p.2 other.length u) (others := beyond p.1 row.length u) (bb u) (ba u)
  have p0 : ∀ τ : LS, τ[3]? = some (some (pr p)) → mBin vIx (gv 3) (kv (.int 0)) τ M = .ok (.int (p.1 : Nat)) M := fun τ h => bin_ok (gv_ok h) rfl (ix_tup (k := 0) rfl)
  have p1 : ∀ τ : LS, τ[3]? = some (some (pr p)) → mBin vIx (gv 3) (kv (.int 1)) τ M = .ok (.int (p.2 : Nat)) M := fun τ h => bin_ok (gv_ok h) rfl (ix_tup (k := 1) rfl)
  have s4 : ts4 [some (.str (st row)), some (.str (st other)), some (prs l), some (pr p), some (.loc mh.length), some (.loc (mh.length + 1)), b6, b7, none] M = .ok (.nx, [some (.str (st row)), some (.str (st other)), some (prs l), some (pr p), some (.loc mh.length), some (.loc (mh.length + 1)), b6, b7, some (.lst [pl (beyond p.1 row.length true), pl (beyond p.2 other.length true)])]) M :=
    set_ok (lst_ok (args2 (up_pl h1 (by omega) (bin_ok (p0 _ rfl) rfl rfl) (call_ok (args1 rfl) (len_st (by omega))) fun x => rfl) (up_pl h2 (by omega) (bin_ok (p1 _ rfl) rfl rfl) (call_ok (args1 rfl) (len_st (by omega))) fun x => rfl)) (by simp))
  have s6 : ∀ a8, ts6 [some (.str (st row)), some (.str (st other)), some (prs l), some (pr p), some (.loc mh.length), some (.loc (mh.length + 1)), b6, b7, a8] M = .ok (.nx, [some (.str (st row)), some (.str (st other)), some (prs l), some (pr p), some (.loc mh.length), some (.loc (mh.length + 1)), b6, b7, some (.lst [pl (beyond p.1 row.length false), pl (beyond p.2 other.length false)])]) M := fun a8 =>
    set_ok (lst_ok (args2 (dn_pl (by omega) (p0 _ rfl) (fun k _ => bin_ok (bin_ok (p0 _ rfl) rfl rfl) rfl rfl) row.length) (dn_pl (by omega) (p1 _ rfl) (fun k _ => bin_ok (bin_ok (p1 _ rfl) rfl rfl) rfl rfl) other.length)) (by simp))
  unfold F__law_stays
  rw [ts_eq]
  unfold ts5 ts7
  generalize F__law_answered = FA at q1 q2 ⊢
  have A1 : ∀ u, mApp 3 FA (mCons (gv 4) (mCons (mBin vIx (gv 8) (kv (.int 0))) (mCons (mBin vIx (gv 8) (kv (.int 1))) mNil))) [some (.str (st row)), some (.str (st other)), some (prs l), some (pr p), some (.loc mh.length), some (.loc (mh.length + 1)), b6, b7, some (.lst [pl (beyond p.1 row.length u), pl (beyond p.2 other.length u)])] M = .ok (.bl (ansB (memT l) (beyond p.2 other.length u) (fun _ => false) (beyond p.1 row.length u))) M := fun u =>
    app_ok (args3 rfl (bin_ok rfl rfl (ix2 (x := pl (beyond p.1 row.length u))).1) (bin_ok rfl rfl (ix2 (x := pl (beyond p.1 row.length u))).2)) (q1 u)
  have A2 : ∀ u, mApp 3 FA (mCons (gv 5) (mCons (mBin vIx (gv 8) (kv (.int 1))) (mCons (mBin vIx (gv 8) (kv (.int 0))) mNil))) [some (.str (st row)), some (.str (st other)), some (prs l), some (pr p), some (.loc mh.length), some (.loc (mh.length + 1)), b6, b7, some (.lst [pl (beyond p.1 row.length u), pl (beyond p.2 other.length u)])] M = .ok (.bl (ansB (fl (memT l)) (beyond p.1 row.length u) (fun _ => false) (beyond p.2 other.length u))) M := fun u =>
    app_ok (args3 rfl (bin_ok rfl rfl (ix2 (x := pl (beyond p.1 row.length u))).2) (bin_ok rfl rfl (ix2 (x := pl (beyond p.1 row.length u))).1)) (q2 u)
  unfold keeps half
  have B1 := A1 true
  have B2 := A2 true
  have B3 := A1 false
  have B4 := A2 false
  have hfin : ∀ b : Bool, fin mh (.bl b) M = .ok (.bl b) mh := fun b => by rw [← hM]; exact fin_lf rfl
  cases h1 : ansB (memT l) (beyond p.2 other.length true) (fun _ => false) (beyond p.1 row.length true) with
  | false =>
    rw [h1] at B1
    rw [Bool.false_and, Bool.false_and]
    exact run_retm ((seq_nx s1).trans ((seq_nx s2).trans ((seq_nx s3).trans ((seq_nx s4).trans (seq_ret ((if_t (or_t (not_ok (b := false) (test_ok B1)))).trans (ret_ok rfl))))))) (hfin false)
  | true =>
    rw [h1] at B1
    rw [Bool.true_and]
    cases h2 : ansB (fl (memT l)) (beyond p.1 row.length true) (fun _ => false) (beyond p.2 other.length true) with
    | false =>
      rw [h2] at B2
      rw [Bool.false_and]
      exact run_retm ((seq_nx s1).trans ((seq_nx s2).trans ((seq_nx s3).trans ((seq_nx s4).trans (seq_ret ((if_t ((or_f (not_ok (b := true) (test_ok B1))).trans (not_ok (b := false) (test_ok B2)))).trans (ret_ok rfl))))))) (hfin false)
    | true =>
      rw [h2] at B2
      rw [Bool.true_and]
      have s5 := (if_f (f := (mRet (kv (.bl false)) : LS → ML.M (Out × LS))) (g := mSkip) ((or_f (not_ok (b := true) (test_ok B1))).trans (not_ok (b := true) (test_ok B2)))).trans rfl
      refine run_retm ((seq_nx s1).trans ((seq_nx s2).trans ((seq_nx s3).trans ((seq_nx s4).trans ((seq_nx s5).trans ((seq_nx (s6 _)).trans (ret_ok ?_))))))) (hfin _)
      cases h3 : ansB (memT l) (beyond p.2 other.length false) (fun _ => false) (beyond p.1 row.length false) with
      | false =>
        rw [h3] at B3
        rw [Bool.false_and]
        exact andV_f B3
      | true =>
        rw [h3] at B3
        rw [Bool.true_and]
        exact (andV_t B3).trans B4
end Lw

set_option Elab.async false
set_option linter.all false
set_option maxRecDepth 100000
namespace Lw
open PySem PySem.Spec L2 ML
/-! ### tables of pairs, judged -/
theorem jd_pairs {row other : List Nat} {pss : List (List (Nat × Nat))} (hr : row.length ≤ 12) (hc : other.length ≤ 12) (h1 : pss.length ≤ 30) (h2 : ∀ ps ∈ pss, ps.length ≤ 150) (h3 : ∀ ps ∈ pss, PairsOk row other ps) : Jd row other (pss.map (·.map pr)) (good row.length other.length pss) := by
  refine ⟨by rw [List.length_map]; exact h1, fun is h => ?_, fun is h => ?_, fun w _ => jg_good h3 w⟩
  · obtain ⟨ps, hp, rfl⟩ := List.mem_map.mp h
    rw [List.length_map]; exact h2 ps hp
  · obtain ⟨ps, hp, rfl⟩ := List.mem_map.mp h
    intro z hz
    obtain ⟨p, hpp, rfl⟩ := List.mem_map.mp hz
    obtain ⟨a, b, _⟩ := h3 ps hp p hpp
    exact item_pr ⟨by omega, by omega⟩
theorem lvls_lst (m : List PV) (pss : List (List (Nat × Nat))) : Lvls m (.lst (pss.map prs)) (pss.map (·.map pr)) := ⟨_, rfl, by rw [List.map_map, List.map_map]; rfl⟩
theorem judged_lst {al row other : List Nat} {m : List PV} {n k : Nat} {pss : List (List (Nat × Nat))} (ha : AlOk al) (hr : RowOk al row) (ho : RowOk al other) (S : Sr m n k) (hk : k < 1000000) (h1 : pss.length ≤ 30) (h2 : ∀ ps ∈ pss, ps.length ≤ 150) (h3 : ∀ ps ∈ pss, PairsOk row other ps) :
    ∃ q, F__law_judged [.loc n, .str (st al), .str (st row), .str (st other), .lst (pss.map prs), .bl (good row.length other.length pss)] m = .ok (.bl true) (m.set n q) ∧ Sr (m.set n q) n (k + 1) := by
  have J := jd_pairs hr.1 ho.1 h1 h2 h3
  exact e_judged ha hr ho S hk (fun q => lvls_lst _ pss) J.len J.lens J.item J.jg
/-! ### two long rows: what is right -/
def SM (row other : List Nat) : List (Nat × Nat) := pairsOf row.length other.length (eqT row other)
def LV (row other : List Nat) : List (Nat × Nat) := pairsOf row.length other.length (nx row.length other.length (eqT row other))
section
variable {row other : List Nat}
theorem SM_mem {p : Nat × Nat} : p ∈ SM row other ↔ p.1 < row.length ∧ p.2 < other.length ∧ eqT row other p.1 p.2 = true := mem_pairs
theorem LV_mem {p : Nat × Nat} : p ∈ LV row other ↔ p.1 < row.length ∧ p.2 < other.length ∧ eqT row other p.1 p.2 = true ∧ keeps (eqT row other) row.length other.length p.1 p.2 = true := by
  unfold LV
  rw [show p = (p.1, p.2) from rfl, mem_pairs]
  unfold nx
  rw [Bool.and_eq_true]
theorem LV_SM {p : Nat × Nat} (h : p ∈ LV row other) : p ∈ SM row other := by
  rw [LV_mem] at h
  exact SM_mem.mpr ⟨h.1, h.2.1, h.2.2.1⟩
theorem ok_SM {ps : List (Nat × Nat)} (h : ∀ p ∈ ps, p ∈ SM row other) : PairsOk row other ps := fun p hp => by
  obtain ⟨h1, h2, h3⟩ := SM_mem.mp (h p hp)
  refine ⟨h1, h2, ?_⟩
  unfold eqT at h3
  rw [List.getD_eq_getElem?_getD, List.getD_eq_getElem?_getD, List.getElem?_eq_getElem h1, List.getElem?_eq_getElem h2] at h3
  rw [List.getElem?_eq_getElem h1, List.getElem?_eq_getElem h2]
  exact congrArg some (eq_of_beq h3)
theorem memT_SM : Same2 row.length other.length (memT (SM row other)) (eqT row other) := fun k m hk hm => by
  unfold memT
  rw [Bool.eq_iff_iff, decide_eq_true_eq, SM_mem]
  exact ⟨fun e => e.2.2, fun e => ⟨hk, hm, e⟩⟩
theorem ans_list {r c : Nat} {ps : List (Nat × Nat)} {f : Nat → Nat → Bool} (h : ∀ p ∈ ps, p.1 < r ∧ p.2 < c) : ansAll r c (memT ps) f = true ↔ ∀ p ∈ ps, keeps f r c p.1 p.2 = true := by
  rw [ansAll_iff]
  constructor
  · intro a p hp
    exact a p.1 p.2 (h p hp).1 (h p hp).2 (decide_eq_true hp)
  · intro a k m _ _ e
    exact a (k, m) (of_decide_eq_true e)
theorem ans_one {r c : Nat} {p : Nat × Nat} {f : Nat → Nat → Bool} (h1 : p.1 < r) (h2 : p.2 < c) : ansAll r c (memT [p]) f = keeps f r c p.1 p.2 := by
  rw [Bool.eq_iff_iff, ans_list (fun q hq => by rw [List.mem_singleton.mp hq]; exact ⟨h1, h2⟩)]
  exact ⟨fun a => a p (List.mem_singleton.mpr rfl), fun a q hq => by rw [List.mem_singleton.mp hq]; exact a⟩
theorem keeps_SM {p : Nat × Nat} (h1 : p.1 < row.length) (h2 : p.2 < other.length) : keeps (memT (SM row other)) row.length other.length p.1 p.2 = keeps (eqT row other) row.length other.length p.1 p.2 := keeps_congr memT_SM h1 h2
theorem ans_LV : ansAll row.length other.length (memT (LV row other)) (memT (SM row other)) = true := by
  rw [ans_list fun p hp => ⟨(LV_mem.mp hp).1, (LV_mem.mp hp).2.1⟩]
  intro p hp
  obtain ⟨h1, h2, _, h4⟩ := LV_mem.mp hp
  rw [keeps_SM h1 h2]; exact h4
theorem good_2 : good row.length other.length [SM row other, LV row other] = true := by
  show (ansAll row.length other.length (memT (LV row other)) (memT (SM row other)) && true) = true
  rw [ans_LV]; rfl
theorem good_lack {p : Nat × Nat} (h : p ∈ SM row other) (hn : p ∉ LV row other) : good row.length other.length [SM row other, [p]] = false ∧ good row.length other.length [SM row other, LV row other ++ [p]] = false := by
  obtain ⟨h1, h2, h3⟩ := SM_mem.mp h
  have hk : keeps (memT (SM row other)) row.length other.length p.1 p.2 = false := by
    rw [keeps_SM h1 h2, Bool.eq_false_iff]
    exact fun e => hn (LV_mem.mpr ⟨h1, h2, h3, e⟩)
  constructor
  · show (ansAll row.length other.length (memT [p]) (memT (SM row other)) && true) = false
    rw [ans_one h1 h2, hk]; rfl
  · show (ansAll row.length other.length (memT (LV row other ++ [p])) (memT (SM row other)) && true) = false
    have : ansAll row.length other.length (memT (LV row other ++ [p])) (memT (SM row other)) = false := by
      rw [Bool.eq_false_iff]
      intro e
      rw [ans_list fun q hq => by
        rcases List.mem_append.mp hq with hq | hq
        · exact ⟨(LV_mem.mp hq).1, (LV_mem.mp hq).2.1⟩
        · rw [List.mem_singleton.mp hq]; exact ⟨h1, h2⟩] at e
      have := e p (List.mem_append.mpr (.inr (List.mem_singleton.mpr rfl)))
      rw [hk] at this; cases this
    rw [this]; rfl
theorem good_3 {p : Nat × Nat} (h1 : p.1 < row.length) (h2 : p.2 < other.length) : good row.length other.length [SM row other, LV row other, [p]] = keeps (memT (LV row other)) row.length other.length p.1 p.2 := by
  show (ansAll row.length other.length (memT (LV row other)) (memT (SM row other)) && (ansAll row.length other.length (memT [p]) (memT (LV row other)) && true)) = _
  rw [ans_LV, ans_one h1 h2, Bool.true_and, Bool.and_true]
theorem good_some {p : Nat × Nat} {sm : List (Nat × Nat)} (h1 : p.1 < row.length) (h2 : p.2 < other.length) : good row.length other.length [sm, [p]] = keeps (memT sm) row.length other.length p.1 p.2 := by
  show (ansAll row.length other.length (memT [p]) (memT sm) && true) = _
  rw [ans_one h1 h2, Bool.and_true]
theorem ans_nil {r c : Nat} {f : Nat → Nat → Bool} : ansAll r c (memT []) f = true := (ans_list (by simp)).mpr (by simp)
theorem chain_nil {r c : Nat} : ∀ (n : Nat) (f : Nat → Nat → Bool), chain r c f ((List.replicate n ([] : List (Nat × Nat))).map memT) = true
  | 0, f => rfl
  | n + 1, f => by
    rw [List.replicate_succ, List.map_cons, chain, ans_nil, Bool.true_and]
    exact chain_nil n _
def deep (row other : List Nat) (n : Nat) : List (List (Nat × Nat)) := [SM row other, LV row other] ++ List.replicate n []
theorem good_deep (n : Nat) : good row.length other.length (deep row other n) = true := by
  show (ansAll row.length other.length (memT (LV row other)) (memT (SM row other)) && chain row.length other.length (memT (LV row other)) ((List.replicate n ([] : List (Nat × Nat))).map memT)) = true
  rw [ans_LV, chain_nil]; rfl
theorem deep_at {n i : Nat} (h1 : 2 ≤ i) (h2 : i < n + 2) : (deep row other n)[i]? = some [] := by
  unfold deep
  rw [List.getElem?_append_right (by simpa using h1), List.getElem?_replicate, if_pos (by simp; omega)]
theorem deep_len {n : Nat} : (deep row other n).length = n + 2 := by unfold deep; simp
theorem good_deep_more {n a : Nat} {p : Nat × Nat} (h1 : 3 ≤ a) (h2 : a < n + 2) (hp : p ∈ SM row other) (hr : 2 ≤ row.length) : good row.length other.length ((deep row other n).set a [p]) = false := by
  obtain ⟨p1, p2, _⟩ := SM_mem.mp hp
  refine good_bad (i := a - 1) (g := []) (g' := [p]) ?_ _ ?_ ?_
  · rw [ans_one p1 p2]
    have : memT [] = fun _ _ => false := by funext k m; unfold memT; simp
    rw [this]
    exact keeps_none p1 hr
  · rw [List.getElem?_set_ne (by omega), deep_at (by omega) (by omega)]
  · rw [show a - 1 + 1 = a by omega, List.getElem?_set_self (by rw [deep_len]; exact h2)]
end
theorem SM_len {row other : List Nat} (hr : row.length ≤ 12) (hc : other.length ≤ 12) : (SM row other).length ≤ 144 := Nat.le_trans pairs_len (Nat.mul_le_mul hr hc)
theorem LV_len {row other : List Nat} (hr : row.length ≤ 12) (hc : other.length ≤ 12) : (LV row other).length ≤ 144 := Nat.le_trans pairs_len (Nat.mul_le_mul hr hc)
/-! ### _law_deep_well -/
noncomputable abbrev dw1 : LS → M (Out × LS) := (mSet 6 (mBin vAdd (mLst (mCons (mCall vListL (mCons (gv 4) mNil)) (mCons (mCall vListL (mCons (gv 5) mNil)) mNil))) (mComp (mItA (mCons (mBin vAdd (kv (.int 8)) (mApp 2 F__law_pick (mCons (gv 0) (mCons (kv (.int 10)) mNil)))) mNil) srcR1) (gSet 7) mYes (mLoc mNil) [7])))
noncomputable abbrev dw2 : LS → M (Out × LS) := (mIf (mNot (mTest (mApp 6 F__law_judged (mCons (gv 0) (mCons (gv 1) (mCons (gv 2) (mCons (gv 3) (mCons (gv 6) (mCons (kv (.bl true)) mNil)))))))))
 (mRet (kv (.bl false)))
 mSkip)
noncomputable abbrev dw3 : LS → M (Out × LS) := (mSet 8 (mBin vAdd (kv (.int 3)) (mApp 2 F__law_pick (mCons (gv 0) (mCons (mBin vSub (mCall vLen (mCons (gv 6) mNil)) (kv (.int 3))) mNil)))))
noncomputable abbrev dw4 : LS → M (Out × LS) := (mDrop (mMeth "list" vAppend (mBin vIx (gv 6) (gv 8)) (mCons (mBin vIx (gv 4) (mApp 2 F__law_pick (mCons (gv 0) (mCons (mCall vLen (mCons (gv 4) mNil)) mNil)))) mNil)))
noncomputable abbrev dw5 : LS → M (Out × LS) := (mRet (mApp 6 F__law_judged (mCons (gv 0) (mCons (gv 1) (mCons (gv 2) (mCons (gv 3) (mCons (gv 6) (mCons (kv (.bl false)) mNil))))))))
theorem dw_eq : g__law_deep_well = (mSeq dw1 (mSeq dw2 (mSeq dw3 (mSeq dw4 dw5)))) := rfl

theorem lvls_loc {m : List PV} {n : Nat} {q : PV} (pss : List (List (Nat × Nat))) : Lvls (m.set n q ++ pss.map prs) (.lst ((List.range pss.length).map fun i => .loc (m.length + i))) (pss.map (·.map pr)) := by
  refine ⟨_, rfl, List.ext_getElem? fun i => ?_⟩
  rw [List.map_map, List.map_map, List.getElem?_map, List.getElem?_map]
  by_cases hi : i < pss.length
  · rw [List.getElem?_range hi, List.getElem?_eq_getElem hi]
    show some (match (m.set n q ++ pss.map prs)[m.length + i]? with
      | some (.lst ts) => some ts
      | _ => none) = _
    rw [List.getElem?_append_right (by rw [List.length_set]; omega), List.length_set, Nat.add_sub_cancel_left, List.getElem?_map, List.getElem?_eq_getElem hi]
    rfl
  · rw [List.getElem?_eq_none (by simp; omega), List.getElem?_eq_none (by omega)]; rfl
theorem e_deep {al row other : List Nat} {m : List PV} {n k : Nat} (ha : AlOk al) (hr : RowOk al row) (ho : RowOk al other) (hr2 : 2 ≤ row.length) (S : Sr m n k) (hk : k + 100 < 1000000) (h0 : 0 < (SM row other).length) :
    ∃ q, F__law_deep_well [.loc n, .str (st al), .str (st row), .str (st other), prs (SM row other), prs (LV row other)] m = .ok (.bl true) (m.set n q) ∧ Sr (m.set n q) n (k + 20) := by
  have hnl := S.lt
  have hs := SM_len hr.1 ho.1
  have hv := LV_len hr.1 ho.1
  obtain ⟨q0, hq0⟩ := set_self S
  obtain ⟨d, q1, hd, p1, S1⟩ := pick (w := 10) ((S.app [prs (SM row other)]).app [prs (LV row other)]) (by omega) (by omega) (by omega)
  rw [List.append_assoc, List.set_append_left _ _ hnl] at p1 S1
  obtain ⟨cnt, hcnt⟩ : ∃ cnt, cnt = 8 + d := ⟨_, rfl⟩
  have hm1 : (m.set n q1).length = m.length := List.length_set
  -- the table
  have la := listL_of (m := m) (x := prs (SM row other)) (is := (SM row other).map pr) rfl
  have lb := listL_of (m := m ++ [prs (SM row other)]) (x := prs (LV row other)) (is := (LV row other).map pr) rfl
  have al1 := compL_alloc (G := gSet 7) (e := mLoc mNil) (τ := wipeL [some (.loc n), some (.str (st al)), some (.str (st row)), some (.str (st other)), some (prs (SM row other)), some (prs (LV row other)), none, none, none] [7]) (o := .lst []) (fun x m => ⟨_, rfl, fun m => loc_ok rfl (by simp)⟩) ((List.range cnt).map fun i => .int (i : Nat)) [] (m.set n q1 ++ [prs (SM row other), prs (LV row other)])
  rw [List.length_map, List.length_range, List.nil_append, List.length_append, hm1] at al1
  have cc : mComp (mItA (mCons (mBin vAdd (kv (.int 8)) (mApp 2 F__law_pick (mCons (gv 0) (mCons (kv (.int 10)) mNil)))) mNil) srcR1) (gSet 7) mYes (mLoc mNil) [7] [some (.loc n), some (.str (st al)), some (.str (st row)), some (.str (st other)), some (prs (SM row other)), some (prs (LV row other)), none, none, none] (m ++ [prs (SM row other)] ++ [prs (LV row other)]) =
      .ok (.lst ((List.range cnt).map fun i => .loc (m.length + 2 + i))) (m.set n q1 ++ [prs (SM row other), prs (LV row other)] ++ List.replicate cnt (.lst [])) := by
    have hsrc : mItA (mCons (mBin vAdd (kv (.int 8)) (mApp 2 F__law_pick (mCons (gv 0) (mCons (kv (.int 10)) mNil)))) mNil) srcR1 [some (.loc n), some (.str (st al)), some (.str (st row)), some (.str (st other)), some (prs (SM row other)), some (prs (LV row other)), none, none, none] (m ++ [prs (SM row other)] ++ [prs (LV row other)]) = .ok (Src.fn cnt fun i => .int (0 + (i : Nat))) (m.set n q1 ++ [prs (SM row other), prs (LV row other)]) := by
      refine itA_ok (args1 (bin_ok rfl (app_ok (args2 rfl rfl) (by rw [List.append_assoc]; exact p1)) rfl)) ?_
      rw [show (8 : Int) + ((d : Nat) : Int) = ((cnt : Nat) : Int) by omega]
      exact src_rng (by omega)
    rw [ev_comp, hsrc, Rs.bind_ok, comp_is (is_rng cnt), al1]
    rfl
  have hMd : m.set n q1 ++ [prs (SM row other), prs (LV row other)] ++ List.replicate cnt (.lst []) = m.set n q1 ++ (deep row other cnt).map prs := by
    unfold deep
    rw [List.append_assoc, List.map_append, List.map_replicate]; rfl
  rw [hMd] at cc
  have hids : [PV.loc m.length, PV.loc (m.length + 1)] ++ (List.range cnt).map (fun i => PV.loc (m.length + 2 + i)) = (List.range (deep row other cnt).length).map fun i => .loc (m.length + i) := by
    rw [deep_len, show cnt + 2 = 2 + cnt by omega, List.range_add, List.map_append, List.map_map]
    show _ = [PV.loc (m.length + 0), PV.loc (m.length + 1)] ++ _
    rw [Nat.add_zero]
    refine congrArg (fun l => [PV.loc m.length, PV.loc (m.length + 1)] ++ l) (List.map_congr_left fun i _ => ?_)
    show PV.loc (m.length + 2 + i) = PV.loc (m.length + (2 + i))
    rw [Nat.add_assoc]
  have s1 : dw1 [some (.loc n), some (.str (st al)), some (.str (st row)), some (.str (st other)), some (prs (SM row other)), some (prs (LV row other)), none, none, none] m = .ok (.nx, [some (.loc n), some (.str (st al)), some (.str (st row)), some (.str (st other)), some (prs (SM row other)), some (prs (LV row other)), some (.lst ((List.range (deep row other cnt).length).map fun i => .loc (m.length + i))), none, none]) (m.set n q1 ++ (deep row other cnt).map prs) := by
    refine set_ok (bin_ok (lst_ok (args2 (call_ok (args1 rfl) la) (call_ok (args1 rfl) lb)) (by simp)) cc ?_)
    rw [add_lst (by simp; omega), List.length_append, ← hids]
    rfl
  -- judged
  have S1' : Sr (m.set n q1 ++ (deep row other cnt).map prs) n (k + 1) := S1.of (by rw [List.getElem?_append_left (by rw [hm1]; exact hnl), List.getElem?_append_left (by rw [hm1]; exact hnl)])
  have hrl := hr.1
  have hol := ho.1
  have memd : ∀ ps ∈ deep row other cnt, ∀ p ∈ ps, p ∈ SM row other := fun ps hp p hpp => by
    unfold deep at hp
    rcases List.mem_append.mp hp with h | h
    · rcases List.mem_cons.mp h with rfl | h
      · exact hpp
      · rw [List.mem_singleton.mp h] at hpp; exact LV_SM hpp
    · rw [(List.mem_replicate.mp h).2] at hpp; cases hpp
  have lend : ∀ ps ∈ deep row other cnt, ps.length ≤ 144 := fun ps hp => by
    unfold deep at hp
    rcases List.mem_append.mp hp with h | h
    · rcases List.mem_cons.mp h with rfl | h
      · exact hs
      · rw [List.mem_singleton.mp h]; exact hv
    · rw [(List.mem_replicate.mp h).2]; simp
  have J1 := jd_pairs (row := row) (other := other) (pss := deep row other cnt) hrl hol (by rw [deep_len]; omega) (fun ps hp => by have := lend ps hp; omega) (fun ps hp => ok_SM (memd ps hp))
  rw [good_deep] at J1
  have hset : ∀ (q : PV) (pss : List (List (Nat × Nat))), (m.set n q ++ pss.map prs).set n = fun q' => m.set n q' ++ pss.map prs := fun q pss => by
    funext q'
    rw [List.set_append_left _ _ (by rw [List.length_set]; exact hnl), List.set_set]
  obtain ⟨q2, j2, S2⟩ := e_judged ha hr ho S1' (by omega) (L := .lst ((List.range (deep row other cnt).length).map fun i => .loc (m.length + i))) (fun q => by rw [hset]; exact lvls_loc _) J1.len J1.lens J1.item J1.jg
  rw [hset] at j2 S2
  -- one pair at a level behind
  obtain ⟨d3, q3, hd3, p3, S3⟩ := pick (w := cnt + 2 - 3) S2 (by omega) (by omega) (by omega)
  rw [hset] at p3 S3
  obtain ⟨a, hav⟩ : ∃ a, a = 3 + d3 := ⟨_, rfl⟩
  have hal : a < cnt + 2 := by omega
  obtain ⟨d4, q4, hd4, p4, S4⟩ := pick (w := (SM row other).length) S3 (by omega) h0 (by omega)
  rw [hset] at p4 S4
  have hp := List.getElem?_eq_getElem hd4
  have hpm : (SM row other)[d4] ∈ SM row other := List.getElem_mem hd4
  generalize (SM row other)[d4] = p at hp hpm
  have ga : ∀ q : PV, (m.set n q ++ (deep row other cnt).map prs)[m.length + a]? = some (.lst []) := fun q => by
    rw [List.getElem?_append_right (by rw [List.length_set]; omega), List.length_set, Nat.add_sub_cancel_left, List.getElem?_map, deep_at (by omega) hal]; rfl
  have happ := app_loc (y := pr p) (ga q4) (by simp)
  have hs2 : (m.set n q4 ++ (deep row other cnt).map prs).set (m.length + a) (.lst ([] ++ [pr p])) = m.set n q4 ++ ((deep row other cnt).set a [p]).map prs := by
    rw [List.set_append_right _ _ (by rw [List.length_set]; omega), List.length_set, Nat.add_sub_cancel_left, List.map_set]; rfl
  rw [hs2] at happ
  have memd2 : ∀ ps ∈ (deep row other cnt).set a [p], (∀ p ∈ ps, p ∈ SM row other) ∧ ps.length ≤ 144 := fun ps hps => by
    rcases List.mem_or_eq_of_mem_set hps with h | rfl
    · exact ⟨memd ps h, lend ps h⟩
    · exact ⟨fun q hq => by rw [List.mem_singleton.mp hq]; exact hpm, by simp⟩
  have J2 := jd_pairs (row := row) (other := other) (pss := (deep row other cnt).set a [p]) hrl hol (by rw [List.length_set, deep_len]; omega) (fun ps hp => by have := (memd2 ps hp).2; omega) (fun ps hp => ok_SM (memd2 ps hp).1)
  rw [good_deep_more (by omega) hal hpm hr2] at J2
  have S4' : Sr (m.set n q4 ++ ((deep row other cnt).set a [p]).map prs) n (k + 1 + 1 + 1 + 1) := S4.of (by rw [List.getElem?_append_left (by rw [List.length_set]; exact hnl), List.getElem?_append_left (by rw [List.length_set]; exact hnl)])
  obtain ⟨q5, j5, S5⟩ := e_judged ha hr ho S4' (by omega) (L := .lst ((List.range (deep row other cnt).length).map fun i => .loc (m.length + i))) (fun q => by
    rw [hset]
    have := lvls_loc (m := m) (n := n) (q := q) ((deep row other cnt).set a [p])
    rw [List.length_set] at this
    exact this) J2.len J2.lens J2.item J2.jg
  rw [hset] at j5 S5
  have S5' : Sr (m.set n q5) n (k + 1 + 1 + 1 + 1 + 1) := S5.of (by rw [List.getElem?_append_left (by rw [List.length_set]; exact hnl)])
  refine ⟨q5, ?_, S5'.le (by omega)⟩
  unfold F__law_deep_well
  rw [dw_eq]
  have ixa : ∀ M : List PV, vIx (.lst ((List.range (deep row other cnt).length).map fun i => .loc (m.length + i))) (.int (a : Nat)) M = .ok (.loc (m.length + a)) M := fun M => ix_lst (by rw [List.getElem?_map, List.getElem?_range (by rw [deep_len]; exact hal)]; rfl)
  unfold dw2 dw3 dw4 dw5
  generalize F__law_judged = FJ at *
  generalize F__law_pick = FP at *
  refine run_retm ((seq_nx s1).trans ((seq_nx ((if_f (not_ok (b := true) (test_ok (app_ok (cons_ok rfl (cons_ok rfl (cons_ok rfl (args3 rfl rfl rfl)))) j2)))).trans rfl)).trans ((seq_nx (set_ok (x := .int (a : Nat)) (bin_ok rfl (app_ok (args2 (y := .int ((cnt + 2 - 3 : Nat) : Int)) rfl (bin_ok (call_ok (args1 rfl) rfl) rfl ?_)) p3) ?_))).trans
    ((seq_nx (drop_ok (meth_ok (bin_ok rfl rfl (ixa _)) (ty_loc (ga q3)) (args1 (bin_ok rfl (app_ok (args2 rfl (call_ok (args1 rfl) (by show Rs.ok (PV.int (((SM row other).map pr).length : Nat)) _ = _; rw [List.length_map]))) p4) (ix_lst (by rw [List.getElem?_map, hp]; rfl)))) happ))).trans
    (ret_ok (app_ok (cons_ok rfl (cons_ok rfl (cons_ok rfl (args3 rfl rfl rfl)))) j5)))))) (fin_up S5' rfl)
  · rw [v_sub, List.length_map, List.length_range, deep_len]
    congr 2
    omega
  · rw [v_add, hav]
    congr 2
end Lw

set_option Elab.async false
set_option linter.all false
set_option maxRecDepth 100000
namespace Lw
open PySem PySem.Spec L2 ML
/-! ### rows and sets of pairs that are drawn -/
theorem draw_row {n : Nat} {ls : List Nat} (h0 : 0 < ls.length) (hl : ls.length ≤ 100) {a1 a2 a4 a5 a6 a7 a8 a9 a10 a11 a12 a13 : Option PV} : ∀ (xs : List PV) (acc : List Nat) (m : List PV) (k : Nat), Sr m n k → k + xs.length < 1000000 → ∃ w q,
    compL (gSet 5) mYes (mBin vIx (gv 3) (mApp 2 F__law_pick (mCons (gv 0) (mCons (mCall vLen (mCons (gv 3) mNil)) mNil)))) [some (.loc n), a1, a2, some (.str (st ls)), a4, a5, a6, a7, a8, a9, a10, a11, a12, a13] xs (sg acc) m = .ok (sg (acc ++ w)) (m.set n q) ∧ w.length = xs.length ∧ (∀ c ∈ w, c ∈ ls) ∧ Sr (m.set n q) n (k + xs.length)
  | [], acc, m, k, S, _ => by
    obtain ⟨q, hq⟩ := set_self S
    exact ⟨[], q, by rw [hq, List.append_nil]; rfl, rfl, (by simp), by rw [hq]; exact S⟩
  | x :: xs, acc, m, k, S, hk => by
    have hk : k + (xs.length + 1) < 1000000 := hk
    obtain ⟨d, q, hd, e, S1⟩ := pick (w := ls.length) S (by omega) h0 (by omega)
    have hg := List.getElem?_eq_getElem hd
    have hm : ls[d] ∈ ls := List.getElem_mem hd
    generalize ls[d] = c at hg hm
    obtain ⟨w, q2, h1, h2, h3, h4⟩ := draw_row h0 hl (a1 := a1) (a2 := a2) (a4 := a4) (a5 := a5) (a6 := a6) (a7 := a7) (a8 := a8) (a9 := a9) (a10 := a10) (a11 := a11) (a12 := a12) (a13 := a13) xs (acc ++ [c]) (m.set n q) (k + 1) S1 (by omega)
    rw [List.set_set, List.append_assoc] at h1
    rw [List.set_set] at h4
    refine ⟨c :: w, q2, ?_, by rw [List.length_cons, List.length_cons, h2], fun y hy => ?_, h4.le (by rw [List.length_cons]; omega)⟩
    · have ee : mBin vIx (gv 3) (mApp 2 F__law_pick (mCons (gv 0) (mCons (mCall vLen (mCons (gv 3) mNil)) mNil))) [some (.loc n), a1, a2, some (.str (st ls)), a4, some x, a6, a7, a8, a9, a10, a11, a12, a13] m = .ok (.str (sgn c)) (m.set n q) :=
        bin_ok rfl (app_ok (args2 rfl (call_ok (args1 rfl) (len_st (by omega)))) e) (ix_st (by omega) hg)
      rw [compL]
      have hG : gSet 5 x [some (.loc n), a1, a2, some (.str (st ls)), a4, a5, a6, a7, a8, a9, a10, a11, a12, a13] m = .ok [some (.loc n), a1, a2, some (.str (st ls)), a4, some x, a6, a7, a8, a9, a10, a11, a12, a13] m := rfl
      rw [hG, Rs.bind_ok, ev_yes, Rs.bind_ok, if_pos rfl, ee, Rs.bind_ok]
      have : sg acc ++ [PV.str (sgn c)] = sg (acc ++ [c]) := by unfold sg; rw [List.map_append]; rfl
      rw [this]
      exact h1
    · rcases List.mem_cons.mp hy with rfl | hy
      · exact hm
      · exact h3 y hy
theorem draw_some {n : Nat} {a1 a2 a3 a4 a5 a6 a7 a8 a9 a10 a11 a12 a13 : Option PV} : ∀ (ps acc : List (Nat × Nat)) (m : List PV) (k : Nat), Sr m n k → k + ps.length < 1000000 → ∃ w q,
    compL (gSet 10) (mTest (mBin vGt (mApp 2 F__law_pick (mCons (gv 0) (mCons (kv (.int 4)) mNil))) (kv (.int 0)))) (gv 10) [some (.loc n), a1, a2, a3, a4, a5, a6, a7, a8, a9, a10, a11, a12, a13] (ps.map pr) (acc.map pr) m = .ok ((acc ++ w).map pr) (m.set n q) ∧ w.length ≤ ps.length ∧ (∀ p ∈ w, p ∈ ps) ∧ Sr (m.set n q) n (k + ps.length)
  | [], acc, m, k, S, _ => by
    obtain ⟨q, hq⟩ := set_self S
    exact ⟨[], q, by rw [hq, List.append_nil]; rfl, Nat.le_refl _, (by simp), by rw [hq]; exact S⟩
  | p :: ps, acc, m, k, S, hk => by
    have hk : k + (ps.length + 1) < 1000000 := hk
    obtain ⟨d, q, hd, e, S1⟩ := pick (w := 4) S (by omega) (by omega) (by omega)
    have t : mTest (mBin vGt (mApp 2 F__law_pick (mCons (gv 0) (mCons (kv (.int 4)) mNil))) (kv (.int 0))) [some (.loc n), a1, a2, a3, a4, a5, a6, a7, a8, a9, some (pr p), a11, a12, a13] m = .ok (decide (0 < d)) (m.set n q) := by
      refine test_ok (bin_ok (app_ok (args2 rfl rfl) e) rfl (v_gt.trans ?_))
      congr 2
      rw [Bool.eq_iff_iff, decide_eq_true_eq, decide_eq_true_eq]; omega
    rw [List.map_cons, compL]
    have hG : gSet 10 (pr p) [some (.loc n), a1, a2, a3, a4, a5, a6, a7, a8, a9, a10, a11, a12, a13] m = .ok [some (.loc n), a1, a2, a3, a4, a5, a6, a7, a8, a9, some (pr p), a11, a12, a13] m := rfl
    rw [hG, Rs.bind_ok, t, Rs.bind_ok]
    by_cases h0 : 0 < d
    · rw [if_pos (decide_eq_true h0)]
      obtain ⟨w, q2, h1, h2, h3, h4⟩ := draw_some (a1 := a1) (a2 := a2) (a3 := a3) (a4 := a4) (a5 := a5) (a6 := a6) (a7 := a7) (a8 := a8) (a9 := a9) (a10 := a10) (a11 := a11) (a12 := a12) (a13 := a13) ps (acc ++ [p]) (m.set n q) (k + 1) S1 (by omega)
      rw [List.set_set, List.append_assoc] at h1
      rw [List.set_set] at h4
      refine ⟨p :: w, q2, ?_, by rw [List.length_cons, List.length_cons]; omega, fun y hy => ?_, h4.le (by rw [List.length_cons]; omega)⟩
      · rw [List.map_append] at h1
        exact h1
      · rcases List.mem_cons.mp hy with rfl | hy
        · exact List.mem_cons_self ..
        · exact List.mem_cons_of_mem _ (h3 y hy)
    · rw [if_neg (by simpa using h0)]
      obtain ⟨w, q2, h1, h2, h3, h4⟩ := draw_some (a1 := a1) (a2 := a2) (a3 := a3) (a4 := a4) (a5 := a5) (a6 := a6) (a7 := a7) (a8 := a8) (a9 := a9) (a10 := a10) (a11 := a11) (a12 := a12) (a13 := a13) ps acc (m.set n q) (k + 1) S1 (by omega)
      rw [List.set_set] at h1 h4
      exact ⟨w, q2, h1, by rw [List.length_cons]; omega, fun y hy => List.mem_cons_of_mem _ (h3 y hy), h4.le (by rw [List.length_cons]; omega)⟩
theorem len_prs {l : List (Nat × Nat)} {m : List PV} : vLen [prs l] m = .ok (.int (l.length : Nat)) m := by
  show Rs.ok (PV.int ((l.map pr).length : Nat)) m = _
  rw [List.length_map]
theorem ix_prs {l : List (Nat × Nat)} {p : Nat × Nat} {d : Nat} {m : List PV} (h : l[d]? = some p) : vIx (prs l) (.int (d : Nat)) m = .ok (pr p) m := ix_lst (by rw [List.getElem?_map, h]; rfl)
theorem gt_zero {a : Nat} {m : List PV} : vGt (.int (a : Nat)) (.int 0) m = .ok (.bl (decide (0 < a))) m := by
  rw [v_gt]
  congr 2
  rw [Bool.eq_iff_iff, decide_eq_true_eq, decide_eq_true_eq]; omega
/-! ### _law_long_well -/
noncomputable abbrev lw1 : LS → M (Out × LS) := (mSet 1 (mApp 3 F__law_wide (mCons (gv 0) (mCons (kv (.int 2)) (mCons (kv (.int 8)) mNil)))))
noncomputable abbrev lw2 : LS → M (Out × LS) := (mSet 2 (mApp 2 F__law_pick (mCons (gv 0) (mCons (mBin vSub (mCall vLen (mCons (gv 1) mNil)) (kv (.int 1))) mNil))))
noncomputable abbrev lw3 : LS → M (Out × LS) := (mSet 3 (mSl (gv 1) (oSome (gv 2)) (oSome (mBin vAdd (mBin vAdd (gv 2) (kv (.int 2))) (mApp 2 F__law_pick (mCons (gv 0) (mCons (kv (.int 3)) mNil)))))))
noncomputable abbrev lw4 : LS → M (Out × LS) := (mSet 4 (mMeth "str" vJoin (kv (.str "")) (mCons (mComp (mItA (mCons (mBin vAdd (kv (.int 6)) (mApp 2 F__law_pick (mCons (gv 0) (mCons (kv (.int 7)) mNil)))) mNil) srcR1) (gSet 5) mYes (mBin vIx (gv 3) (mApp 2 F__law_pick (mCons (gv 0) (mCons (mCall vLen (mCons (gv 3) mNil)) mNil)))) [5]) mNil)))
noncomputable abbrev lw5 : LS → M (Out × LS) := (mSet 6 (mMeth "str" vJoin (kv (.str "")) (mCons (mComp (mItA (mCons (mBin vAdd (kv (.int 6)) (mApp 2 F__law_pick (mCons (gv 0) (mCons (kv (.int 7)) mNil)))) mNil) srcR1) (gSet 5) mYes (mBin vIx (gv 3) (mApp 2 F__law_pick (mCons (gv 0) (mCons (mCall vLen (mCons (gv 3) mNil)) mNil)))) [5]) mNil)))
noncomputable abbrev lw6 : LS → M (Out × LS) := (mSet 7 (mApp 2 F__law_same (mCons (gv 4) (mCons (gv 6) mNil))))
noncomputable abbrev lw7 : LS → M (Out × LS) := (mSet 8 (mApp 2 F__law_same (mCons (mApp 1 F__law_kinds (mCons (gv 4) mNil)) (mCons (mApp 1 F__law_kinds (mCons (gv 6) mNil)) mNil))))
noncomputable abbrev lw8 : LS → M (Out × LS) := (mIf (mNot (mTest (mApp 6 F__law_judged (mCons (gv 0) (mCons (gv 1) (mCons (gv 4) (mCons (gv 6) (mCons (mLst (mCons (gv 7) (mCons (gv 8) mNil))) (mCons (kv (.bl true)) mNil)))))))))
 (mRet (kv (.bl false)))
 mSkip)
noncomputable abbrev lw9 : LS → M (Out × LS) := (mIf (mTest (mBin vEq (mCall vLen (mCons (gv 7) mNil)) (kv (.int 0))))
 (mRet (kv (.bl true)))
 mSkip)
noncomputable abbrev lw10 : LS → M (Out × LS) := (mSet 9 (mComp (mIt (gv 7) srcL) (gSet 10) (mTest (mBin (vIn true) (gv 10) (gv 8))) (gv 10) [10]))
noncomputable abbrev lw11 : LS → M (Out × LS) := (mIf (mTest (mBin vGt (mCall vLen (mCons (gv 9) mNil)) (kv (.int 0))))
 (mSeq (mSet 10 (mBin vIx (gv 9) (mApp 2 F__law_pick (mCons (gv 0) (mCons (mCall vLen (mCons (gv 9) mNil)) mNil)))))
 (mSeq (mIf (mNot (mTest (mApp 6 F__law_judged (mCons (gv 0) (mCons (gv 1) (mCons (gv 4) (mCons (gv 6) (mCons (mLst (mCons (gv 7) (mCons (mLst (mCons (gv 10) mNil)) mNil))) (mCons (kv (.bl false)) mNil)))))))))
 (mRet (kv (.bl false)))
 mSkip)
 (mIf (mNot (mTest (mApp 6 F__law_judged (mCons (gv 0) (mCons (gv 1) (mCons (gv 4) (mCons (gv 6) (mCons (mLst (mCons (gv 7) (mCons (mBin vAdd (gv 8) (mLst (mCons (gv 10) mNil))) mNil))) (mCons (kv (.bl false)) mNil)))))))))
 (mRet (kv (.bl false)))
 mSkip)))
 mSkip)
noncomputable abbrev lw12 : LS → M (Out × LS) := (mFor (mItA (mCons (kv (.int 2)) mNil) srcR1) (gSet 11)
 (mSeq (mIf (mTest (mBin vGt (mCall vLen (mCons (gv 8) mNil)) (kv (.int 0))))
 (mSeq (mSet 10 (mBin vIx (gv 8) (mApp 2 F__law_pick (mCons (gv 0) (mCons (mCall vLen (mCons (gv 8) mNil)) mNil)))))
 (mSeq (mSet 12 (mApp 4 F__law_stays (mCons (gv 4) (mCons (gv 6) (mCons (gv 8) (mCons (gv 10) mNil))))))
 (mIf (mNot (mTest (mApp 6 F__law_judged (mCons (gv 0) (mCons (gv 1) (mCons (gv 4) (mCons (gv 6) (mCons (mLst (mCons (gv 7) (mCons (gv 8) (mCons (mLst (mCons (gv 10) mNil)) mNil)))) (mCons (gv 12) mNil)))))))))
 (mRet (kv (.bl false)))
 mSkip)))
 mSkip)
 (mSeq (mSet 13 (mComp (mIt (gv 7) srcL) (gSet 10) (mTest (mBin vGt (mApp 2 F__law_pick (mCons (gv 0) (mCons (kv (.int 4)) mNil))) (kv (.int 0)))) (gv 10) [10]))
 (mSeq (mSet 10 (mBin vIx (gv 7) (mApp 2 F__law_pick (mCons (gv 0) (mCons (mCall vLen (mCons (gv 7) mNil)) mNil)))))
 (mIf (mNot (mTest (mApp 6 F__law_judged (mCons (gv 0) (mCons (gv 1) (mCons (gv 4) (mCons (gv 6) (mCons (mLst (mCons (gv 13) (mCons (mLst (mCons (gv 10) mNil)) mNil))) (mCons (mApp 4 F__law_stays (mCons (gv 4) (mCons (gv 6) (mCons (gv 13) (mCons (gv 10) mNil))))) mNil)))))))))
 (mRet (kv (.bl false)))
 mSkip)))))
noncomputable abbrev lw13 : LS → M (Out × LS) := (mRet (mApp 6 F__law_deep_well (mCons (gv 0) (mCons (gv 1) (mCons (gv 4) (mCons (gv 6) (mCons (gv 7) (mCons (gv 8) mNil))))))))
theorem lw_eq : g__law_long_well = (mSeq lw1 (mSeq lw2 (mSeq lw3 (mSeq lw4 (mSeq lw5 (mSeq lw6 (mSeq lw7 (mSeq lw8 (mSeq lw9 (mSeq lw10 (mSeq lw11 (mSeq lw12 lw13)))))))))))) := rfl

/-- one turn of the last loop -/
noncomputable abbrev ltS : LS → ML.M (Out × LS) := (mSeq (mIf (mTest (mBin vGt (mCall vLen (mCons (gv 8) mNil)) (kv (.int 0))))
 (mSeq (mSet 10 (mBin vIx (gv 8) (mApp 2 F__law_pick (mCons (gv 0) (mCons (mCall vLen (mCons (gv 8) mNil)) mNil)))))
 (mSeq (mSet 12 (mApp 4 F__law_stays (mCons (gv 4) (mCons (gv 6) (mCons (gv 8) (mCons (gv 10) mNil))))))
 (mIf (mNot (mTest (mApp 6 F__law_judged (mCons (gv 0) (mCons (gv 1) (mCons (gv 4) (mCons (gv 6) (mCons (mLst (mCons (gv 7) (mCons (gv 8) (mCons (mLst (mCons (gv 10) mNil)) mNil)))) (mCons (gv 12) mNil)))))))))
 (mRet (kv (.bl false)))
 mSkip)))
 mSkip)
 (mSeq (mSet 13 (mComp (mIt (gv 7) srcL) (gSet 10) (mTest (mBin vGt (mApp 2 F__law_pick (mCons (gv 0) (mCons (kv (.int 4)) mNil))) (kv (.int 0)))) (gv 10) [10]))
 (mSeq (mSet 10 (mBin vIx (gv 7) (mApp 2 F__law_pick (mCons (gv 0) (mCons (mCall vLen (mCons (gv 7) mNil)) mNil)))))
 (mIf (mNot (mTest (mApp 6 F__law_judged (mCons (gv 0) (mCons (gv 1) (mCons (gv 4) (mCons (gv 6) (mCons (mLst (mCons (gv 13) (mCons (mLst (mCons (gv 10) mNil)) mNil))) (mCons (mApp 4 F__law_stays (mCons (gv 4) (mCons (gv 6) (mCons (gv 13) (mCons (gv 10) mNil))))) mNil)))))))))
 (mRet (kv (.bl false)))
 mSkip))))
section
variable {al row other : List Nat} {m : List PV} {n k : Nat}
theorem ok_app {ps : List (Nat × Nat)} {p : Nat × Nat} (h : ∀ q ∈ ps, q ∈ SM row other) (hp : p ∈ SM row other) : ∀ q ∈ ps ++ [p], q ∈ SM row other := fun q hq => by
  rcases List.mem_append.mp hq with hq | hq
  · exact h q hq
  · rw [List.mem_singleton.mp hq]; exact hp
theorem lt_body (ha : AlOk al) (hr : RowOk al row) (ho : RowOk al other) (S : Sr m n k) (hk : k + 400 < 1000000) (h0 : 0 < (SM row other).length) {a2 a3 a5 a9 a10 a11 a12 a13 : Option PV} : ∃ q b10 b12 b13,
    ltS [some (.loc n), some (.str (st al)), a2, a3, some (.str (st row)), a5, some (.str (st other)), some (prs (SM row other)), some (prs (LV row other)), a9, a10, a11, a12, a13] m =
      .ok (.nx, [some (.loc n), some (.str (st al)), a2, a3, some (.str (st row)), a5, some (.str (st other)), some (prs (SM row other)), some (prs (LV row other)), a9, b10, a11, b12, b13]) (m.set n q) ∧ Sr (m.set n q) n (k + 160) := by
  have hrl := hr.1
  have hol := ho.1
  have hs := SM_len hrl hol
  have hv := LV_len hrl hol
  have j1 : ∃ q b10 b12, (mIf (mTest (mBin vGt (mCall vLen (mCons (gv 8) mNil)) (kv (.int 0))))
 (mSeq (mSet 10 (mBin vIx (gv 8) (mApp 2 F__law_pick (mCons (gv 0) (mCons (mCall vLen (mCons (gv 8) mNil)) mNil)))))
 (mSeq (mSet 12 (mApp 4 F__law_stays (mCons (gv 4) (mCons (gv 6) (mCons (gv 8) (mCons (gv 10) mNil))))))
 (mIf (mNot (mTest (mApp 6 F__law_judged (mCons (gv 0) (mCons (gv 1) (mCons (gv 4) (mCons (gv 6) (mCons (mLst (mCons (gv 7) (mCons (gv 8) (mCons (mLst (mCons (gv 10) mNil)) mNil)))) (mCons (gv 12) mNil)))))))))
 (mRet (kv (.bl false)))
 mSkip)))
 mSkip) [some (.loc n), some (.str (st al)), a2, a3, some (.str (st row)), a5, some (.str (st other)), some (prs (SM row other)), some (prs (LV row other)), a9, a10, a11, a12, a13] m =
      .ok (.nx, [some (.loc n), some (.str (st al)), a2, a3, some (.str (st row)), a5, some (.str (st other)), some (prs (SM row other)), some (prs (LV row other)), a9, b10, a11, b12, a13]) (m.set n q) ∧ Sr (m.set n q) n (k + 2) := by
    have t := test_ok (f := mBin vGt (mCall vLen (mCons (gv 8) mNil)) (kv (.int 0))) (bin_ok (τ := [some (.loc n), some (.str (st al)), a2, a3, some (.str (st row)), a5, some (.str (st other)), some (prs (SM row other)), some (prs (LV row other)), a9, a10, a11, a12, a13]) (mh := m) (call_ok (args1 (f := gv 8) rfl) len_prs) rfl gt_zero)
    by_cases hl : 0 < (LV row other).length
    · rw [decide_eq_true hl] at t
      obtain ⟨d, q1, hd, e1, S1⟩ := pick (w := (LV row other).length) S (by omega) hl (by omega)
      have hp := List.getElem?_eq_getElem hd
      have hpm : (LV row other)[d] ∈ LV row other := List.getElem_mem hd
      generalize (LV row other)[d] = p at hp hpm
      obtain ⟨p1, p2, _, _⟩ := LV_mem.mp hpm
      have e2 := e_stays (row := row) (other := other) (l := LV row other) (p := p) (m.set n q1) (by omega) (by omega) (by omega) p1 p2
      obtain ⟨q3, e3, S3⟩ := judged_lst (pss := [SM row other, LV row other, [p]]) ha hr ho S1 (by omega) (by simp) (fun ps hps => by
        simp only [List.mem_cons, List.not_mem_nil, or_false] at hps
        rcases hps with rfl | rfl | rfl
        · omega
        · omega
        · simp) (fun ps hps => by
        simp only [List.mem_cons, List.not_mem_nil, or_false] at hps
        rcases hps with rfl | rfl | rfl
        · exact ok_SM fun q hq => hq
        · exact ok_SM fun q hq => LV_SM hq
        · exact ok_SM fun q hq => by rw [List.mem_singleton.mp hq]; exact LV_SM hpm)
      rw [good_3 p1 p2] at e3
      rw [List.set_set] at e3 S3
      generalize F__law_pick = FP at *
      generalize F__law_stays = FS at *
      generalize F__law_judged = FJ at *
      exact ⟨q3, some (pr p), some (.bl (keeps (memT (LV row other)) row.length other.length p.1 p.2)), (if_t t).trans ((seq_nx (set_ok (bin_ok rfl (app_ok (args2 rfl (call_ok (args1 rfl) len_prs)) e1) (ix_prs hp)))).trans ((seq_nx (set_ok (app_ok (cons_ok rfl (args3 rfl rfl rfl)) e2))).trans
        ((if_f (not_ok (b := true) (test_ok (app_ok (cons_ok rfl (cons_ok rfl (cons_ok rfl (args3 rfl (lst_ok (args3 rfl rfl (lst_ok (args1 rfl) (by show (1 : Nat) ≤ 1000; omega))) (by show (3 : Nat) ≤ 1000; omega)) rfl)))) e3)))).trans rfl))), S3⟩
    · rw [decide_eq_false hl] at t
      obtain ⟨q, hq⟩ := set_self S
      exact ⟨q, a10, a12, by rw [hq]; exact (if_f t).trans rfl, by rw [hq]; exact S.le (by omega)⟩
  obtain ⟨q1, c10, c12, s1, S1⟩ := j1
  obtain ⟨sm, q2, w1, w2, w3, S2⟩ := draw_some (n := n) (a1 := some (.str (st al))) (a2 := a2) (a3 := a3) (a4 := some (.str (st row))) (a5 := a5) (a6 := some (.str (st other))) (a7 := some (prs (SM row other))) (a8 := some (prs (LV row other))) (a9 := a9) (a10 := none) (a11 := a11) (a12 := c12) (a13 := a13) (SM row other) [] (m.set n q1) (k + 2) S1 (by omega)
  rw [List.set_set] at w1 S2
  obtain ⟨d, q3, hd, e3, S3⟩ := pick (w := (SM row other).length) S2 (by omega) h0 (by omega)
  rw [List.set_set] at e3 S3
  have hp := List.getElem?_eq_getElem hd
  have hpm : (SM row other)[d] ∈ SM row other := List.getElem_mem hd
  generalize (SM row other)[d] = p at hp hpm
  obtain ⟨p1, p2, _⟩ := SM_mem.mp hpm
  have e4 := e_stays (row := row) (other := other) (l := sm) (p := p) (m.set n q3) (by omega) (by omega) (by omega) p1 p2
  obtain ⟨q5, e5, S5⟩ := judged_lst (pss := [sm, [p]]) ha hr ho S3 (by omega) (by simp) (fun ps hps => by
    simp only [List.mem_cons, List.not_mem_nil, or_false] at hps
    rcases hps with rfl | rfl
    · omega
    · simp) (fun ps hps => by
    simp only [List.mem_cons, List.not_mem_nil, or_false] at hps
    rcases hps with rfl | rfl
    · exact ok_SM w3
    · exact ok_SM fun q hq => by rw [List.mem_singleton.mp hq]; exact hpm)
  rw [good_some p1 p2] at e5
  rw [List.set_set] at e5 S5
  have cs : mComp (mIt (gv 7) srcL) (gSet 10) (mTest (mBin vGt (mApp 2 F__law_pick (mCons (gv 0) (mCons (kv (.int 4)) mNil))) (kv (.int 0)))) (gv 10) [10] [some (.loc n), some (.str (st al)), a2, a3, some (.str (st row)), a5, some (.str (st other)), some (prs (SM row other)), some (prs (LV row other)), a9, c10, a11, c12, a13] (m.set n q1) = .ok (prs sm) (m.set n q2) := by
    have hsrc : mIt (gv 7) srcL [some (.loc n), some (.str (st al)), a2, a3, some (.str (st row)), a5, some (.str (st other)), some (prs (SM row other)), some (prs (LV row other)), a9, c10, a11, c12, a13] (m.set n q1) = .ok (Src.lst ((SM row other).map pr)) (m.set n q1) := it_ok rfl ev_srcL
    rw [ev_comp, hsrc, Rs.bind_ok, comp_is (Src.is_lst _)]
    exact (congrArg (fun r => Rs.bind r fun xs m => Rs.ok (PV.lst xs) m) w1).trans rfl
  unfold ltS
  generalize F__law_pick = FP at *
  generalize F__law_stays = FS at *
  generalize F__law_judged = FJ at *
  refine ⟨q5, some (pr p), c12, some (prs sm), (seq_nx s1).trans ((seq_nx (set_ok cs)).trans ((seq_nx (set_ok (bin_ok rfl (app_ok (args2 rfl (call_ok (args1 rfl) len_prs)) e3) (ix_prs hp)))).trans
    ((if_f (not_ok (b := true) (test_ok (app_ok (cons_ok rfl (cons_ok rfl (cons_ok rfl (args3 rfl (lst_ok (args2 rfl (lst_ok (args1 rfl) (by show (1 : Nat) ≤ 1000; omega))) (by show (2 : Nat) ≤ 1000; omega)) (app_ok (cons_ok rfl (args3 rfl rfl rfl)) e4))))) e5)))).trans rfl))), S5.le (by omega)⟩
end
end Lw

set_option Elab.async false
set_option linter.all false
set_option maxRecDepth 100000
namespace Lw
open PySem PySem.Spec L2 ML
theorem sl_mid {l : List Nat} {i j : Nat} {mh : List PV} (h : l.length ≤ 100) : vSl (.str (st l)) (some ((i : Nat) : Int)) (some ((j : Nat) : Int)) mh = .ok (.str (st ((l.drop (min i l.length)).take (min j l.length - min i l.length)))) mh := by
  show (if (st l).length ≤ sizeLine then Rs.ok (PV.str (cutS (st l) (some ((i : Nat) : Int)) (some ((j : Nat) : Int)))) mh else .no) = _
  have e1 : (st l).length = l.length := rfl
  rw [if_pos (by rw [sizeLine_eq, e1]; omega)]
  unfold cutS
  rw [HT.sIx_nat, HT.sIx_nat, e1]
  rfl
/-- a row that is drawn -/
theorem drawn {n k : Nat} {ls : List Nat} {m : List PV} (h0 : 0 < ls.length) (hl : ls.length ≤ 100) (S : Sr m n k) (hk : k + 100 < 1000000) (a1 a2 a4 a5 a6 a7 a8 a9 a10 a11 a12 a13 : Option PV) : ∃ w q,
    mMeth "str" vJoin (kv (.str "")) (mCons (mComp (mItA (mCons (mBin vAdd (kv (.int 6)) (mApp 2 F__law_pick (mCons (gv 0) (mCons (kv (.int 7)) mNil)))) mNil) srcR1) (gSet 5) mYes (mBin vIx (gv 3) (mApp 2 F__law_pick (mCons (gv 0) (mCons (mCall vLen (mCons (gv 3) mNil)) mNil)))) [5]) mNil)
      [some (.loc n), a1, a2, some (.str (st ls)), a4, a5, a6, a7, a8, a9, a10, a11, a12, a13] m = .ok (.str (st w)) (m.set n q) ∧ 6 ≤ w.length ∧ w.length ≤ 12 ∧ (∀ c ∈ w, c ∈ ls) ∧ Sr (m.set n q) n (k + 20) := by
  obtain ⟨d, q1, hd, e1, S1⟩ := pick (w := 7) S (by omega) (by omega) (by omega)
  obtain ⟨w, q2, w1, w2, w3, S2⟩ := draw_row (n := n) h0 hl (a1 := a1) (a2 := a2) (a4 := a4) (a5 := none) (a6 := a6) (a7 := a7) (a8 := a8) (a9 := a9) (a10 := a10) (a11 := a11) (a12 := a12) (a13 := a13) ((List.range (6 + d)).map fun i => .int (i : Nat)) [] (m.set n q1) (k + 1) S1 (by simp; omega)
  rw [List.length_map, List.length_range] at w2 S2
  rw [List.set_set] at w1 S2
  refine ⟨w, q2, ?_, by omega, by omega, w3, S2.le (by omega)⟩
  have hsrc : mItA (mCons (mBin vAdd (kv (.int 6)) (mApp 2 F__law_pick (mCons (gv 0) (mCons (kv (.int 7)) mNil)))) mNil) srcR1 [some (.loc n), a1, a2, some (.str (st ls)), a4, a5, a6, a7, a8, a9, a10, a11, a12, a13] m = .ok (Src.fn (6 + d) fun i => .int (0 + (i : Nat))) (m.set n q1) := by
    refine itA_ok (args1 (bin_ok rfl (app_ok (args2 rfl rfl) e1) rfl)) ?_
    rw [show (6 : Int) + ((d : Nat) : Int) = ((6 + d : Nat) : Int) by omega]
    exact src_rng (by omega)
  have cc : mComp (mItA (mCons (mBin vAdd (kv (.int 6)) (mApp 2 F__law_pick (mCons (gv 0) (mCons (kv (.int 7)) mNil)))) mNil) srcR1) (gSet 5) mYes (mBin vIx (gv 3) (mApp 2 F__law_pick (mCons (gv 0) (mCons (mCall vLen (mCons (gv 3) mNil)) mNil)))) [5] [some (.loc n), a1, a2, some (.str (st ls)), a4, a5, a6, a7, a8, a9, a10, a11, a12, a13] m = .ok (.lst (sg w)) (m.set n q2) := by
    rw [ev_comp, hsrc, Rs.bind_ok, comp_is (is_rng _)]
    exact (congrArg (fun r => Rs.bind r fun xs m => Rs.ok (PV.lst xs) m) w1).trans rfl
  exact meth_ok rfl rfl (args1 cc) (join_ok (x := .lst (sg w)) rfl (by omega))
theorem e_long_well {n k : Nat} {m : List PV} (S : Sr m n k) (hk : k + 2000 < 1000000) : ∃ q, F__law_long_well [.loc n] m = .ok (.bl true) (m.set n q) := by
  obtain ⟨al, q1, e1, S1, hA, ha2, _⟩ := e_wide (a := 2) (b := 8) S (by omega) (by omega) (by omega) (by omega)
  have hal := hA.len
  obtain ⟨cut, q2, hcut, e2, S2⟩ := pick (w := al.length - 1) S1 (by omega) (by omega) (by omega)
  rw [List.set_set] at e2 S2
  obtain ⟨d3, q3, hd3, e3, S3⟩ := pick (w := 3) S2 (by omega) (by omega) (by omega)
  rw [List.set_set] at e3 S3
  obtain ⟨ls, hls⟩ : ∃ ls, ls = (al.drop (min cut al.length)).take (min (cut + 2 + d3) al.length - min cut al.length) := ⟨_, rfl⟩
  have hl0 : 0 < ls.length := by rw [hls, List.length_take, List.length_drop]; omega
  have hl1 : ls.length ≤ 100 := by rw [hls, List.length_take, List.length_drop]; omega
  have hlm : ∀ c ∈ ls, c ∈ al := fun c hc => by rw [hls] at hc; exact List.mem_of_mem_drop (List.mem_of_mem_take hc)
  have s1 : lw1 [some (.loc n), none, none, none, none, none, none, none, none, none, none, none, none, none] m = .ok (.nx, [some (.loc n), some (.str (st al)), none, none, none, none, none, none, none, none, none, none, none, none]) (m.set n q1) := set_ok (app_ok (args3 rfl rfl rfl) e1)
  have s2 : lw2 [some (.loc n), some (.str (st al)), none, none, none, none, none, none, none, none, none, none, none, none] (m.set n q1) = .ok (.nx, [some (.loc n), some (.str (st al)), some (.int (cut : Nat)), none, none, none, none, none, none, none, none, none, none, none]) (m.set n q2) := by
    refine set_ok (app_ok (args2 (y := .int ((al.length - 1 : Nat) : Int)) rfl (bin_ok (call_ok (args1 rfl) (len_st (by omega))) rfl ?_)) e2)
    rw [v_sub]
    congr 2
    omega
  have s3 : lw3 [some (.loc n), some (.str (st al)), some (.int (cut : Nat)), none, none, none, none, none, none, none, none, none, none, none] (m.set n q2) = .ok (.nx, [some (.loc n), some (.str (st al)), some (.int (cut : Nat)), some (.str (st ls)), none, none, none, none, none, none, none, none, none, none]) (m.set n q3) := by
    refine set_ok ?_
    have hp : mApp 2 F__law_pick (mCons (gv 0) (mCons (kv (.int 3)) mNil)) [some (.loc n), some (.str (st al)), some (.int (cut : Nat)), none, none, none, none, none, none, none, none, none, none, none] (m.set n q2) = .ok (.int (d3 : Nat)) (m.set n q3) := app_ok (args2 rfl rfl) e3
    have hb : mBin vAdd (mBin vAdd (gv 2) (kv (.int 2))) (mApp 2 F__law_pick (mCons (gv 0) (mCons (kv (.int 3)) mNil))) [some (.loc n), some (.str (st al)), some (.int (cut : Nat)), none, none, none, none, none, none, none, none, none, none, none] (m.set n q2) = .ok (.int ((cut + 2 + d3 : Nat) : Int)) (m.set n q3) := bin_ok (bin_ok rfl rfl rfl) hp rfl
    rw [ev_sl]
    have g1 : gv 1 [some (.loc n), some (.str (st al)), some (.int (cut : Nat)), none, none, none, none, none, none, none, none, none, none, none] (m.set n q2) = .ok (.str (st al)) (m.set n q2) := rfl
    have g2 : oSome (gv 2) [some (.loc n), some (.str (st al)), some (.int (cut : Nat)), none, none, none, none, none, none, none, none, none, none, none] (m.set n q2) = .ok (some ((cut : Nat) : Int)) (m.set n q2) := rfl
    rw [g1, Rs.bind_ok, g2, Rs.bind_ok, ev_oSome, hb, Rs.bind_ok]
    show vSl (.str (st al)) (some ((cut : Nat) : Int)) (some ((cut + 2 + d3 : Nat) : Int)) (m.set n q3) = _
    rw [sl_mid (by omega), hls]
  obtain ⟨row, q4, e4, r6, r12, rm, S4⟩ := drawn hl0 hl1 S3 (by omega) (some (.str (st al))) (some (.int (cut : Nat))) none none none none none none none none none none
  rw [List.set_set] at e4 S4
  obtain ⟨other, q5, e5, o6, o12, om, S5⟩ := drawn hl0 hl1 S4 (by omega) (some (.str (st al))) (some (.int (cut : Nat))) (some (.str (st row))) none none none none none none none none none
  rw [List.set_set] at e5 S5
  have s4 := set_ok (i := 4) e4
  have s5 := set_ok (i := 6) e5
  have hr : RowOk al row := ⟨r12, fun c hc => hlm c (rm c hc)⟩
  have ho : RowOk al other := ⟨o12, fun c hc => hlm c (om c hc)⟩
  have cr : ∀ c ∈ row, c < 1000 := fun c hc => by have := hA.abc c (hr.2 c hc); omega
  have co : ∀ c ∈ other, c < 1000 := fun c hc => by have := hA.abc c (ho.2 c hc); omega
  have hs := SM_len r12 o12
  have hv := LV_len r12 o12
  have e6 := e_same (f := eqT row other) (m.set n q5) (rowy_st (l := row) (by omega)) (rowy_st (l := other) (by omega)) (by omega) (by omega) fun i j hi hj mh => lt_eq i j hi hj mh
  have e7a := e_kinds (l := row) (m.set n q5) (by omega)
  have e7b := e_kinds (l := other) (m.set n q5) (by omega)
  have e7 := e_same (f := nx row.length other.length (eqT row other)) (m.set n q5) (rowy_kds row) (rowy_kds other) (by omega) (by omega) fun i j hi hj mh => kd_eq cr co i j hi hj mh
  obtain ⟨q8, e8, S8⟩ := judged_lst (pss := [SM row other, LV row other]) hA hr ho S5 (by omega) (by simp) (fun ps hps => by
      simp only [List.mem_cons, List.not_mem_nil, or_false] at hps
      rcases hps with rfl | rfl <;> omega) (fun ps hps => by
      simp only [List.mem_cons, List.not_mem_nil, or_false] at hps
      rcases hps with rfl | rfl
      · exact ok_SM fun q hq => hq
      · exact ok_SM fun q hq => LV_SM hq)
  rw [good_2] at e8
  rw [List.set_set] at e8 S8
  let τ8 : LS := [some (.loc n), some (.str (st al)), some (.int (cut : Nat)), some (.str (st ls)), some (.str (st row)), none, some (.str (st other)), some (prs (SM row other)), some (prs (LV row other)), none, none, none, none, none]
  have s6 : lw6 [some (.loc n), some (.str (st al)), some (.int (cut : Nat)), some (.str (st ls)), some (.str (st row)), none, some (.str (st other)), none, none, none, none, none, none, none] (m.set n q5) = .ok (.nx, [some (.loc n), some (.str (st al)), some (.int (cut : Nat)), some (.str (st ls)), some (.str (st row)), none, some (.str (st other)), some (prs (SM row other)), none, none, none, none, none, none]) (m.set n q5) := set_ok (app_ok (args2 rfl rfl) e6)
  have s7 : lw7 [some (.loc n), some (.str (st al)), some (.int (cut : Nat)), some (.str (st ls)), some (.str (st row)), none, some (.str (st other)), some (prs (SM row other)), none, none, none, none, none, none] (m.set n q5) = .ok (.nx, τ8) (m.set n q5) := set_ok (app_ok (args2 (app_ok (args1 rfl) e7a) (app_ok (args1 rfl) e7b)) e7)
  have s8 : lw8 τ8 (m.set n q5) = .ok (.nx, τ8) (m.set n q8) := (if_f (not_ok (b := true) (test_ok (app_ok (cons_ok rfl (cons_ok rfl (cons_ok rfl (args3 rfl (lst_ok (args2 rfl rfl) (by show (2 : Nat) ≤ 1000; omega)) rfl)))) e8)))).trans rfl
  have t9 : mTest (mBin vEq (mCall vLen (mCons (gv 7) mNil)) (kv (.int 0))) τ8 (m.set n q8) = .ok (decide ((SM row other).length = 0)) (m.set n q8) := test_ok (bin_ok (call_ok (args1 rfl) len_prs) rfl (eq_small (b := 0)))
  have head := fun U => (seq_nx (u := U) s1)
  by_cases h0 : (SM row other).length = 0
  · rw [decide_eq_true h0] at t9
    refine ⟨q8, ?_⟩
    unfold F__law_long_well
    rw [lw_eq]
    exact run_retm ((seq_nx s1).trans ((seq_nx s2).trans ((seq_nx s3).trans ((seq_nx s4).trans ((seq_nx s5).trans ((seq_nx s6).trans ((seq_nx s7).trans ((seq_nx s8).trans (seq_ret ((if_t t9).trans (ret_ok rfl)))))))))) ) (fin_len List.length_set)
  · rw [decide_eq_false h0] at t9
    have s9 : lw9 τ8 (m.set n q8) = .ok (.nx, τ8) (m.set n q8) := (if_f t9).trans rfl
    -- what the second level lacks
    let lk : List (Nat × Nat) := (SM row other).filter fun p => !decide (p ∈ LV row other)
    have c10 := comp_fm (f := mIt (gv 7) srcL) (G := gSet 10) (t := mTest (mBin (vIn true) (gv 10) (gv 8))) (e := gv 10) (vs := [10]) (τ := τ8) (mh := m.set n q8) (m := m.set n q8) (en := pr) (ys := SM row other) (fun p => if (!decide (p ∈ LV row other)) = true then some (pr p) else none) (it_ok rfl ev_srcL) (Src.is_lst _) fun p _ => by
      have tin := in_prs (n := true) (p := p) (l := LV row other) (mh := m.set n q8) (x := prs (LV row other)) rfl
      rw [Bool.true_xor] at tin
      have tt := test_ok (f := mBin (vIn true) (gv 10) (gv 8)) (bin_ok (τ := [some (.loc n), some (.str (st al)), some (.int (cut : Nat)), some (.str (st ls)), some (.str (st row)), none, some (.str (st other)), some (prs (SM row other)), some (prs (LV row other)), none, some (pr p), none, none, none]) (f := gv 10) (g := gv 8) rfl rfl tin)
      cases hp : !decide (p ∈ LV row other) with
      | true => rw [hp] at tt; exact step_t rfl tt rfl
      | false => rw [hp] at tt; exact step_f rfl tt
    rw [fm_if] at c10
    have s10 : lw10 τ8 (m.set n q8) = .ok (.nx, [some (.loc n), some (.str (st al)), some (.int (cut : Nat)), some (.str (st ls)), some (.str (st row)), none, some (.str (st other)), some (prs (SM row other)), some (prs (LV row other)), some (prs lk), none, none, none, none]) (m.set n q8) := set_ok c10
    have hlk : lk.length ≤ 144 := Nat.le_trans (List.length_filter_le ..) hs
    have s11 : ∃ q b10, lw11 [some (.loc n), some (.str (st al)), some (.int (cut : Nat)), some (.str (st ls)), some (.str (st row)), none, some (.str (st other)), some (prs (SM row other)), some (prs (LV row other)), some (prs lk), none, none, none, none] (m.set n q8) = .ok (.nx, [some (.loc n), some (.str (st al)), some (.int (cut : Nat)), some (.str (st ls)), some (.str (st row)), none, some (.str (st other)), some (prs (SM row other)), some (prs (LV row other)), some (prs lk), b10, none, none, none]) (m.set n q) ∧ Sr (m.set n q) n (k + 80) := by
      have t := test_ok (f := mBin vGt (mCall vLen (mCons (gv 9) mNil)) (kv (.int 0))) (bin_ok (τ := [some (.loc n), some (.str (st al)), some (.int (cut : Nat)), some (.str (st ls)), some (.str (st row)), none, some (.str (st other)), some (prs (SM row other)), some (prs (LV row other)), some (prs lk), none, none, none, none]) (mh := m.set n q8) (call_ok (args1 (f := gv 9) rfl) len_prs) rfl gt_zero)
      by_cases hl : 0 < lk.length
      · rw [decide_eq_true hl] at t
        obtain ⟨d, qa, hd, ea, Sa⟩ := pick (w := lk.length) S8 (by omega) hl (by omega)
        rw [List.set_set] at ea Sa
        have hp := List.getElem?_eq_getElem hd
        have hpm : lk[d] ∈ lk := List.getElem_mem hd
        generalize lk[d] = p at hp hpm
        obtain ⟨hp1, hp2⟩ := List.mem_filter.mp hpm
        have hpn : p ∉ LV row other := by simpa using hp2
        obtain ⟨gA, gB⟩ := good_lack hp1 hpn
        obtain ⟨qb, eb, Sb⟩ := judged_lst (pss := [SM row other, [p]]) hA hr ho Sa (by omega) (by simp) (fun ps hps => by
            simp only [List.mem_cons, List.not_mem_nil, or_false] at hps
            rcases hps with rfl | rfl
            · omega
            · simp) (fun ps hps => by
            simp only [List.mem_cons, List.not_mem_nil, or_false] at hps
            rcases hps with rfl | rfl
            · exact ok_SM fun q hq => hq
            · exact ok_SM fun q hq => by rw [List.mem_singleton.mp hq]; exact hp1)
        rw [gA] at eb
        rw [List.set_set] at eb Sb
        obtain ⟨qc, ec, Sc⟩ := judged_lst (pss := [SM row other, LV row other ++ [p]]) hA hr ho Sb (by omega) (by simp) (fun ps hps => by
            simp only [List.mem_cons, List.not_mem_nil, or_false] at hps
            rcases hps with rfl | rfl
            · omega
            · rw [List.length_append]; show _ + 1 ≤ _; omega) (fun ps hps => by
            simp only [List.mem_cons, List.not_mem_nil, or_false] at hps
            rcases hps with rfl | rfl
            · exact ok_SM fun q hq => hq
            · exact ok_SM (ok_app (fun q hq => LV_SM hq) hp1))
        rw [gB] at ec
        rw [List.set_set] at ec Sc
        have addp : ∀ mh, vAdd (prs (LV row other)) (.lst [pr p]) mh = .ok (prs (LV row other ++ [p])) mh := fun mh => add_prs (l := LV row other) (l2 := [p]) (by simp; omega)
        unfold lw11
        generalize F__law_pick = FP at *
        generalize F__law_judged = FJ at *
        exact ⟨qc, some (pr p), (if_t t).trans ((seq_nx (set_ok (bin_ok rfl (app_ok (args2 rfl (call_ok (args1 rfl) len_prs)) ea) (ix_prs hp)))).trans
          ((seq_nx ((if_f (not_ok (b := true) (test_ok (app_ok (cons_ok rfl (cons_ok rfl (cons_ok rfl (args3 rfl (lst_ok (args2 rfl (lst_ok (args1 rfl) (by show (1 : Nat) ≤ 1000; omega))) (by show (2 : Nat) ≤ 1000; omega)) rfl)))) eb)))).trans rfl)).trans
          ((if_f (not_ok (b := true) (test_ok (app_ok (cons_ok rfl (cons_ok rfl (cons_ok rfl (args3 rfl (lst_ok (args2 rfl (bin_ok rfl (lst_ok (args1 rfl) (by show (1 : Nat) ≤ 1000; omega)) (addp _))) (by show (2 : Nat) ≤ 1000; omega)) rfl)))) ec)))).trans rfl))), Sc.le (by omega)⟩
      · rw [decide_eq_false hl] at t
        exact ⟨q8, none, (if_f t).trans rfl, S8.le (by omega)⟩
    obtain ⟨q11, b10, s11, S11⟩ := s11
    obtain ⟨q12, c10', c12, c13, t1, S12⟩ := lt_body hA hr ho S11 (by omega) (by omega) (a2 := some (.int (cut : Nat))) (a3 := some (.str (st ls))) (a5 := none) (a9 := some (prs lk)) (a10 := b10) (a11 := some (.int 0)) (a12 := none) (a13 := none)
    rw [List.set_set] at t1 S12
    obtain ⟨q13, d10, d12, d13, t2, S13⟩ := lt_body hA hr ho S12 (by omega) (by omega) (a2 := some (.int (cut : Nat))) (a3 := some (.str (st ls))) (a5 := none) (a9 := some (prs lk)) (a10 := c10') (a11 := some (.int 1)) (a12 := c12) (a13 := c13)
    rw [List.set_set] at t2 S13
    have s12 : lw12 [some (.loc n), some (.str (st al)), some (.int (cut : Nat)), some (.str (st ls)), some (.str (st row)), none, some (.str (st other)), some (prs (SM row other)), some (prs (LV row other)), some (prs lk), b10, none, none, none] (m.set n q11) = .ok (.nx, [some (.loc n), some (.str (st al)), some (.int (cut : Nat)), some (.str (st ls)), some (.str (st row)), none, some (.str (st other)), some (prs (SM row other)), some (prs (LV row other)), some (prs lk), d10, some (.int 1), d12, d13]) (m.set n q13) :=
      (for_src (itA_ok (args1 rfl) (src_rng (n := 2) (by omega))) (is_rng 2)).trans ((loop_nx (x := .int 0) (xs := [.int 1]) rfl t1).trans ((loop_nx rfl t2).trans rfl))
    obtain ⟨q14, e14, S14⟩ := e_deep hA hr ho (by omega) S13 (by omega) (by omega)
    rw [List.set_set] at e14 S14
    refine ⟨q14, ?_⟩
    unfold F__law_long_well
    rw [lw_eq]
    exact run_retm ((seq_nx s1).trans ((seq_nx s2).trans ((seq_nx s3).trans ((seq_nx s4).trans ((seq_nx s5).trans ((seq_nx s6).trans ((seq_nx s7).trans ((seq_nx s8).trans ((seq_nx s9).trans ((seq_nx s10).trans ((seq_nx s11).trans ((seq_nx s12).trans
      (ret_ok (app_ok (cons_ok rfl (cons_ok rfl (cons_ok rfl (args3 rfl rfl rfl)))) e14)))))))))))))) (fin_len List.length_set)
end Lw

set_option Elab.async false
set_option linter.all false
set_option maxRecDepth 100000
set_option maxHeartbeats 0
namespace Lw
open PySem PySem.Spec L2 ML
theorem sc_is_integer : FnScope ["thing", "low", "high"] ["thing", "low", "high"] (defScope s_is_integer) := C8.fnScope_by (by decide +kernel)
theorem ok_is_integer {P : Program} {w : World} {K : PySem.W.Frag} {mg : Str → Option Value} {base : Heap} {f : Addr} {fd : FuncData} {cContest : Addr} (F : FunD K "is_integer" "is_integer" (defArgs s_is_integer) (defBody s_is_integer) (defScope s_is_integer) [] [] f fd) (T : Tx K mg cContest)  :
    FnOk P w K mg base CX0 1 f fd ["thing", "low", "high"] (spOf K 3 (F_is_integer)) :=
  fn_okF F sc_is_integer rfl fun cdv A outer s H E hr =>
 (dss_one (ds_ret (de_and (de_isi (by rfl) T.n_isinstance bt_isinstance (de_var 0) (de_bty (by rfl) T.n_int bt_int)) (de_and (de_not (de_isi (by rfl) T.n_isinstance bt_isinstance (de_var 0) (de_bty (by rfl) T.n_bool bt_bool))) (de_one (de_chain opv_le opv_le (de_var 1) (de_var 0) (de_var 2)))))))
theorem sc_is_listed : FnScope ["thing"] ["thing"] (defScope s_is_listed) := C8.fnScope_by (by decide +kernel)
theorem ok_is_listed {P : Program} {w : World} {K : PySem.W.Frag} {mg : Str → Option Value} {base : Heap} {f : Addr} {fd : FuncData} {cContest : Addr} (F : FunD K "is_listed" "is_listed" (defArgs s_is_listed) (defBody s_is_listed) (defScope s_is_listed) [] [] f fd) (T : Tx K mg cContest)  :
    FnOk P w K mg base CX0 1 f fd ["thing"] (spOf K 1 (F_is_listed)) :=
  fn_okF F sc_is_listed rfl fun cdv A outer s H E hr =>
 (dss_one (ds_ret (de_isiT (ns := ["tuple", "list"]) (by rfl) T.n_isinstance bt_isinstance (de_var 0) (da_cons (de_bty (by rfl) T.n_tuple bt_tuple) (da_cons (de_bty (by rfl) T.n_list bt_list) da_nil)) (fun _ _ => rfl) (by decide))))
theorem sc_is_alphabet : FnScope ["thing", "letter", "k"] ["thing"] (defScope s_is_alphabet) := C8.fnScope_by (by decide +kernel)
theorem ok_is_alphabet {P : Program} {w : World} {K : PySem.W.Frag} {mg : Str → Option Value} {base : Heap} {f : Addr} {fd : FuncData} {cContest : Addr} (F : FunD K "is_alphabet" "is_alphabet" (defArgs s_is_alphabet) (defBody s_is_alphabet) (defScope s_is_alphabet) [] [] f fd) (T : Tx K mg cContest)  :
    FnOk P w K mg base CX0 1 f fd ["thing"] (spOf K 1 (F_is_alphabet)) :=
  fn_okF F sc_is_alphabet rfl fun cdv A outer s H E hr =>
 (dss_cons (ds_if (dw_or (dt_not (dt_val (de_isi (by rfl) T.n_isinstance bt_isinstance (de_var 0) (de_bty (by rfl) T.n_str bt_str)))) (dw_or1 (dt_not (dt_chain opv_le opv_le de_int (de_callB callv_len (by rfl) T.n_len bt_len (da_cons (de_var 0) da_nil)) (de_callB callv_len (by rfl) T.n_len bt_len (da_cons (de_gstr (by rfl) T.c_LETTERS) da_nil)))))).dt
 (dss_one (ds_ret de_bl))
 dss_nil)
 (dss_cons (ds_if (dt_not (dt_val (de_callB (callv_all rfl) (by rfl) T.n_all bt_all (da_cons (de_comp (own := [("letter", 1)]) rfl sc_is_alphabet.nd (di_str (de_var 0)) (blkOk_by (by kernel_rfl)) (by decide) (fun _ _ _ _ _ => (dg_name (i := 1) sc_is_alphabet.nd rfl (by first | exact Or.inl rfl | exact Or.inr rfl))) (fun _ _ _ _ _ => dps_nil) (fun _ _ _ _ _ => (de_cmp (opv_in (hu65 hr)) (by rfl) (de_var 1) (de_gstr (by rfl) T.c_LETTERS)))) da_nil))))
 (dss_one (ds_ret de_bl))
 dss_nil)
 (dss_one (ds_ret (de_callB (callv_all rfl) (by rfl) T.n_all bt_all (da_cons (de_comp (own := [("k", 2)]) rfl sc_is_alphabet.nd (di_range1 (by rfl) T.n_range (da_cons (de_bin opv_sub (de_callB callv_len (by rfl) T.n_len bt_len (da_cons (de_var 0) da_nil)) de_int) da_nil)) (blkOk_by (by kernel_rfl)) (by decide) (fun _ _ _ _ _ => (dg_name (i := 2) sc_is_alphabet.nd rfl (by first | exact Or.inl rfl | exact Or.inr rfl))) (fun _ _ _ _ _ => dps_nil) (fun _ _ _ _ _ => (de_cmp opv_lt (nomark _) (de_ix (de_var 0) (de_var 2)) (de_ix (de_var 0) (de_bin opv_add (de_var 2) de_int))))) da_nil))))))
theorem sc_check_alphabet : FnScope ["thing"] ["thing"] (defScope s_check_alphabet) := C8.fnScope_by (by decide +kernel)
theorem ok_check_alphabet {P : Program} {w : World} {K : PySem.W.Frag} {mg : Str → Option Value} {base : Heap} {f : Addr} {fd : FuncData} {cContest : Addr} (F : FunD K "check_alphabet" "check_alphabet" (defArgs s_check_alphabet) (defBody s_check_alphabet) (defScope s_check_alphabet) [] [] f fd) (T : Tx K mg cContest) (c_is_alphabet : Cal P w K mg base 1 "is_alphabet" 1 F_is_alphabet) :
    FnOk P w K mg base CX0 2 f fd ["thing"] (spOf K 1 (F_check_alphabet)) :=
  fn_okF F sc_check_alphabet rfl fun cdv A outer s H E hr =>
 (dss_one (ds_if (dt_not (dt_val (de_cal c_is_alphabet hr (by decide) (by rfl) (da_cons (de_var 0) da_nil))))
 (dss_one ds_no)
 dss_nil))
theorem sc_check_row : FnScope ["alphabet", "thing", "at", "letter"] ["alphabet", "thing"] (defScope s_check_row) := C8.fnScope_by (by decide +kernel)
theorem ok_check_row {P : Program} {w : World} {K : PySem.W.Frag} {mg : Str → Option Value} {base : Heap} {f : Addr} {fd : FuncData} {cContest : Addr} (F : FunD K "check_row" "check_row" (defArgs s_check_row) (defBody s_check_row) (defScope s_check_row) [] [] f fd) (T : Tx K mg cContest)  :
    FnOk P w K mg base CX0 1 f fd ["alphabet", "thing"] (spOf K 2 (F_check_row)) :=
  fn_okF F sc_check_row rfl fun cdv A outer s H E hr =>
 (dss_cons (ds_if (dw_or (dt_not (dt_val (de_isi (by rfl) T.n_isinstance bt_isinstance (de_var 1) (de_bty (by rfl) T.n_str bt_str)))) (dw_or1 (dt_cmp opv_gt (nomark _) (de_callB callv_len (by rfl) T.n_len bt_len (da_cons (de_var 1) da_nil)) (de_gint (by rfl) T.c_LONGEST)))).dt
 (dss_one ds_no)
 dss_nil)
 (dss_one (ds_for PassesOwn.never rfl (di_enumS (by rfl) T.n_enumerate (da_cons (de_var 1) da_nil)) (dg_tup rfl (dgs_cons (dg_name (i := 2) sc_check_row.nd rfl (by first | exact Or.inl rfl | exact Or.inr rfl)) (dgs_cons (dg_name (i := 3) sc_check_row.nd rfl (by first | exact Or.inl rfl | exact Or.inr rfl)) dgs_nil)))
 (dss_one (ds_if (dt_cmp (opv_notin (hu65 hr)) (by rfl) (de_var 3) (de_var 0))
 (dss_one ds_no)
 dss_nil)))))
theorem sc_check_place : FnScope ["row", "thing"] ["row", "thing"] (defScope s_check_place) := C8.fnScope_by (by decide +kernel)
theorem ok_check_place {P : Program} {w : World} {K : PySem.W.Frag} {mg : Str → Option Value} {base : Heap} {f : Addr} {fd : FuncData} {cContest : Addr} (F : FunD K "check_place" "check_place" (defArgs s_check_place) (defBody s_check_place) (defScope s_check_place) [] [] f fd) (T : Tx K mg cContest) (c_is_integer : Cal P w K mg base 1 "is_integer" 3 F_is_integer) :
    FnOk P w K mg base CX0 2 f fd ["row", "thing"] (spOf K 2 (F_check_place)) :=
  fn_okF F sc_check_place rfl fun cdv A outer s H E hr =>
 (dss_one (ds_if (dt_not (dt_val (de_cal c_is_integer hr (by decide) (by rfl) (da_cons (de_var 1) (da_cons de_int (da_cons (de_bin opv_sub (de_callB callv_len (by rfl) T.n_len bt_len (da_cons (de_var 0) da_nil)) de_int) da_nil))))))
 (dss_one ds_no)
 dss_nil))
theorem sc_check_contest : FnScope ["alphabet", "row", "other", "one"] ["alphabet", "row", "other"] (defScope s_check_contest) := C8.fnScope_by (by decide +kernel)
theorem ok_check_contest {P : Program} {w : World} {K : PySem.W.Frag} {mg : Str → Option Value} {base : Heap} {f : Addr} {fd : FuncData} {cContest : Addr} (F : FunD K "check_contest" "check_contest" (defArgs s_check_contest) (defBody s_check_contest) (defScope s_check_contest) [] [] f fd) (T : Tx K mg cContest) (c_check_alphabet : Cal P w K mg base 2 "check_alphabet" 1 F_check_alphabet) (c_check_row : Cal P w K mg base 1 "check_row" 2 F_check_row) :
    FnOk P w K mg base CX0 3 f fd ["alphabet", "row", "other"] (spOf K 3 (F_check_contest)) :=
  fn_okF F sc_check_contest rfl fun cdv A outer s H E hr =>
 (dss_cons (ds_expr (de_cal c_check_alphabet hr (by decide) (by rfl) (da_cons (de_var 0) da_nil)))
 (dss_cons (ds_expr (de_cal c_check_row hr (by decide) (by rfl) (da_cons (de_var 0) (da_cons (de_var 1) da_nil))))
 (dss_cons (ds_expr (de_cal c_check_row hr (by decide) (by rfl) (da_cons (de_var 0) (da_cons (de_var 2) da_nil))))
 (dss_one (ds_for PassesOwn.never rfl (di_tup (de_tup (da_cons (de_var 1) (da_cons (de_var 2) da_nil)))) (dg_name (i := 3) sc_check_contest.nd rfl (by first | exact Or.inl rfl | exact Or.inr rfl))
 (dss_one (ds_if (dt_cmp opv_gt (nomark _) (de_callB callv_len (by rfl) T.n_len bt_len (da_cons (de_var 3) da_nil)) (de_gint (by rfl) T.c_LONGEST_CONTEST))
 (dss_one ds_no)
 dss_nil)))))))
theorem sc_exchanged_table : FnScope ["near", "width", "line", "m"] ["near", "width"] (defScope s_exchanged_table) := C8.fnScope_by (by decide +kernel)
theorem ok_exchanged_table {P : Program} {w : World} {K : PySem.W.Frag} {mg : Str → Option Value} {base : Heap} {f : Addr} {fd : FuncData} {cContest : Addr} (F : FunD K "exchanged_table" "exchanged_table" (defArgs s_exchanged_table) (defBody s_exchanged_table) (defScope s_exchanged_table) [] [] f fd) (T : Tx K mg cContest)  :
    FnOk P w K mg base CX0 1 f fd ["near", "width"] (spOf K 2 (F_exchanged_table)) :=
  fn_okF F sc_exchanged_table rfl fun cdv A outer s H E hr =>
 (dss_one (ds_ret (de_comp (own := [("m", 3)]) rfl sc_exchanged_table.nd (di_range1 (by rfl) T.n_range (da_cons (de_var 1) da_nil)) (blkOk_by (by kernel_rfl)) (by decide) (fun _ _ _ _ _ => (dg_name (i := 3) sc_exchanged_table.nd rfl (by first | exact Or.inl rfl | exact Or.inr rfl))) (fun _ _ _ _ _ => dps_nil) (fun _ _ _ _ _ => (de_comp (own := [("line", 2)]) rfl sc_exchanged_table.nd (di_list (de_var 0)) (blkOk_by (by kernel_rfl)) (by decide) (fun _ _ _ _ _ => (dg_name (i := 2) sc_exchanged_table.nd rfl (by first | exact Or.inl rfl | exact Or.inr rfl))) (fun _ _ _ _ _ => dps_nil) (fun _ _ _ _ _ => (de_ix (de_var 2) (de_var 3))))))))
theorem sc_places_beyond : FnScope ["place", "size", "word"] ["place", "size", "word"] (defScope s_places_beyond) := C8.fnScope_by (by decide +kernel)
theorem ok_places_beyond {P : Program} {w : World} {K : PySem.W.Frag} {mg : Str → Option Value} {base : Heap} {f : Addr} {fd : FuncData} {cContest : Addr} (F : FunD K "places_beyond" "places_beyond" (defArgs s_places_beyond) (defBody s_places_beyond) (defScope s_places_beyond) [] [] f fd) (T : Tx K mg cContest)  :
    FnOk P w K mg base CX0 1 f fd ["place", "size", "word"] (spOf K 3 (F_places_beyond)) :=
  fn_okF F sc_places_beyond rfl fun cdv A outer s H E hr =>
 (dss_cons (ds_if (dt_cmp (opv_eq (hu64 hr)) (nomark _) (de_var 2) de_str)
 (dss_one (ds_ret (de_listRg2 rfl (by rfl) T.n_list (by rfl) T.n_range (de_bin opv_add (de_var 0) de_int) (de_var 1))))
 dss_nil)
 (dss_one (ds_ret (de_listRgD rfl (by rfl) T.n_list (by rfl) T.n_range (da_cons (de_bin opv_sub (de_var 0) de_int) (da_cons (de_neg de_int) (da_cons (de_neg de_int) da_nil)))))))
theorem sc_barred_places : FnScope ["line", "covered", "others", "told", "place"] ["line", "covered", "others"] (defScope s_barred_places) := C8.fnScope_by (by decide +kernel)
theorem ok_barred_places {P : Program} {w : World} {K : PySem.W.Frag} {mg : Str → Option Value} {base : Heap} {f : Addr} {fd : FuncData} {cContest : Addr} (F : FunD K "barred_places" "barred_places" (defArgs s_barred_places) (defBody s_barred_places) (defScope s_barred_places) [] [] f fd) (T : Tx K mg cContest)  :
    FnOk P w K mg base CX0 1 f fd ["line", "covered", "others"] (spOf K 3 (F_barred_places)) :=
  fn_okF F sc_barred_places rfl fun cdv A outer s H E hr =>
 (dss_cons (ds_set (i := 3) sc_barred_places.nd rfl (by first | exact Or.inl rfl | exact Or.inr rfl) (de_loc da_nil))
 (dss_cons (ds_for PassesOwn.never rfl (di_list (de_var 2)) (dg_name (i := 4) sc_barred_places.nd rfl (by first | exact Or.inl rfl | exact Or.inr rfl))
 (dss_cons (ds_if (dt_val (de_ix (de_var 0) (de_var 4)))
 (dss_one (ds_ret de_non))
 dss_nil)
 (dss_cons (ds_expr (de_bm PySem.F.plainAttrs_list PySem.F.slot_list_append PySem.F.type_list_append mtv_append (de_var 3) (da_cons (de_var 4) da_nil)))
 (dss_one (ds_if (dt_dnotin (hu1 hr) (de_var 4) (de_var 1))
 (dss_one (ds_ret (de_var 3)))
 dss_nil)))))
 (dss_one (ds_ret (de_var 3)))))
theorem sc_unanswered : FnScope ["near", "ones", "others", "covered", "at", "one", "barred", "bar", "place"] ["near", "ones", "others"] (defScope s_unanswered) := C8.fnScope_by (by decide +kernel)
theorem ok_unanswered {P : Program} {w : World} {K : PySem.W.Frag} {mg : Str → Option Value} {base : Heap} {f : Addr} {fd : FuncData} {cContest : Addr} (F : FunD K "unanswered" "unanswered" (defArgs s_unanswered) (defBody s_unanswered) (defScope s_unanswered) [] [] f fd) (T : Tx K mg cContest) (c_barred_places : Cal P w K mg base 1 "barred_places" 3 F_barred_places) :
    FnOk P w K mg base CX0 2 f fd ["near", "ones", "others"] (spOf K 3 (F_unanswered)) :=
  fn_okF F sc_unanswered rfl fun cdv A outer s H E hr =>
 (dss_cons (ds_set (i := 3) sc_unanswered.nd rfl (by first | exact Or.inl rfl | exact Or.inr rfl) de_dnewK)
 (dss_cons (ds_for PassesOwn.never rfl (di_enum (by rfl) T.n_enumerate (da_cons (de_var 1) da_nil)) (dg_tup rfl (dgs_cons (dg_name (i := 4) sc_unanswered.nd rfl (by first | exact Or.inl rfl | exact Or.inr rfl)) (dgs_cons (dg_name (i := 5) sc_unanswered.nd rfl (by first | exact Or.inl rfl | exact Or.inr rfl)) dgs_nil)))
 (dss_cons (ds_set (i := 6) sc_unanswered.nd rfl (by first | exact Or.inl rfl | exact Or.inr rfl) (de_cal c_barred_places hr (by decide) (by rfl) (da_cons (de_ix (de_var 0) (de_var 5)) (da_cons (de_var 3) (da_cons (de_var 2) da_nil)))))
 (dss_cons (ds_if (dt_cmp opv_isnot (nomark _) (de_var 6) de_non)
 (dss_cons (ds_set (i := 7) sc_unanswered.nd rfl (by first | exact Or.inl rfl | exact Or.inr rfl) (de_if (dw_and (dt_cmp opv_gt (nomark _) (de_callB callv_len (by rfl) T.n_len bt_len (da_cons (de_var 6) da_nil)) de_int) (dw_and1 (dt_dnotin (hu1 hr) (de_ix (de_var 6) (de_neg de_int)) (de_var 3)))).dt (de_ix (de_var 6) (de_neg de_int)) de_non))
 (dss_one (ds_ret (de_tup (da_cons (de_var 5) (da_cons (de_sl (de_var 1) do_none (do_some (de_var 4))) (da_cons (de_var 6) (da_cons (de_var 7) da_nil))))))))
 dss_nil)
 (dss_one (ds_for PassesOwn.never rfl (di_list (de_var 2)) (dg_name (i := 8) sc_unanswered.nd rfl (by first | exact Or.inl rfl | exact Or.inr rfl))
 (dss_one (ds_if (dt_val (de_ix (de_ix (de_var 0) (de_var 5)) (de_var 8)))
 (dss_one (ds_dput (hu1 hr) (de_var 3) (de_var 8) de_bl))
 dss_nil)))))))
 (dss_one (ds_ret de_non))))
theorem sc_lost_move : FnScope ["near", "back", "k", "m", "word", "ones", "others", "found"] ["near", "back", "k", "m"] (defScope s_lost_move) := C8.fnScope_by (by decide +kernel)
theorem ok_lost_move {P : Program} {w : World} {K : PySem.W.Frag} {mg : Str → Option Value} {base : Heap} {f : Addr} {fd : FuncData} {cContest : Addr} (F : FunD K "lost_move" "lost_move" (defArgs s_lost_move) (defBody s_lost_move) (defScope s_lost_move) [] [] f fd) (T : Tx K mg cContest) (c_places_beyond : Cal P w K mg base 1 "places_beyond" 3 F_places_beyond) (c_unanswered : Cal P w K mg base 2 "unanswered" 3 F_unanswered) :
    FnOk P w K mg base CX0 3 f fd ["near", "back", "k", "m"] (spOf K 4 (F_lost_move)) :=
  fn_okF F sc_lost_move rfl fun cdv A outer s H E hr =>
 (dss_cons (ds_for PassesOwn.never rfl (di_tup (de_tup (da_cons de_str (da_cons de_str da_nil)))) (dg_name (i := 4) sc_lost_move.nd rfl (by first | exact Or.inl rfl | exact Or.inr rfl))
 (dss_cons (ds_set (i := 5) sc_lost_move.nd rfl (by first | exact Or.inl rfl | exact Or.inr rfl) (de_cal c_places_beyond hr (by decide) (by rfl) (da_cons (de_var 2) (da_cons (de_callB callv_len (by rfl) T.n_len bt_len (da_cons (de_var 0) da_nil)) (da_cons (de_var 4) da_nil)))))
 (dss_cons (ds_set (i := 6) sc_lost_move.nd rfl (by first | exact Or.inl rfl | exact Or.inr rfl) (de_cal c_places_beyond hr (by decide) (by rfl) (da_cons (de_var 3) (da_cons (de_callB callv_len (by rfl) T.n_len bt_len (da_cons (de_var 1) da_nil)) (da_cons (de_var 4) da_nil)))))
 (dss_cons (ds_set (i := 7) sc_lost_move.nd rfl (by first | exact Or.inl rfl | exact Or.inr rfl) (de_cal c_unanswered hr (by decide) (by rfl) (da_cons (de_var 0) (da_cons (de_var 5) (da_cons (de_var 6) da_nil)))))
 (dss_cons (ds_if (dt_cmp opv_isnot (nomark _) (de_var 7) de_non)
 (dss_one (ds_ret (de_bin opv_add (de_tup (da_cons (de_var 4) (da_cons de_bl da_nil))) (de_var 7))))
 dss_nil)
 (dss_cons (ds_set (i := 7) sc_lost_move.nd rfl (by first | exact Or.inl rfl | exact Or.inr rfl) (de_cal c_unanswered hr (by decide) (by rfl) (da_cons (de_var 1) (da_cons (de_var 6) (da_cons (de_var 5) da_nil)))))
 (dss_one (ds_if (dt_cmp opv_isnot (nomark _) (de_var 7) de_non)
 (dss_one (ds_ret (de_bin opv_add (de_tup (da_cons (de_var 4) (da_cons de_bl da_nil))) (de_var 7))))
 dss_nil))))))))
 (dss_one (ds_ret de_non)))
theorem sc_next_table : FnScope ["near", "back", "m", "k", "line"] ["near", "back"] (defScope s_next_table) := C8.fnScope_by (by decide +kernel)
theorem ok_next_table {P : Program} {w : World} {K : PySem.W.Frag} {mg : Str → Option Value} {base : Heap} {f : Addr} {fd : FuncData} {cContest : Addr} (F : FunD K "next_table" "next_table" (defArgs s_next_table) (defBody s_next_table) (defScope s_next_table) [] [] f fd) (T : Tx K mg cContest) (c_lost_move : Cal P w K mg base 3 "lost_move" 4 F_lost_move) :
    FnOk P w K mg base CX0 4 f fd ["near", "back"] (spOf K 2 (F_next_table)) :=
  fn_okF F sc_next_table rfl fun cdv A outer s H E hr =>
 (dss_one (ds_ret (de_comp (own := [("k", 3), ("line", 4)]) rfl sc_next_table.nd (di_enum (by rfl) T.n_enumerate (da_cons (de_var 0) da_nil)) (blkOk_by (by kernel_rfl)) (by decide) (fun _ _ _ _ _ => (dg_tup rfl (dgs_cons (dg_name (i := 3) sc_next_table.nd rfl (by first | exact Or.inl rfl | exact Or.inr rfl)) (dgs_cons (dg_name (i := 4) sc_next_table.nd rfl (by first | exact Or.inl rfl | exact Or.inr rfl)) dgs_nil)))) (fun _ _ _ _ _ => dps_nil) (fun _ _ _ _ _ => (de_comp (own := [("m", 2)]) rfl sc_next_table.nd (di_range1 (by rfl) T.n_range (da_cons (de_callB callv_len (by rfl) T.n_len bt_len (da_cons (de_var 1) da_nil)) da_nil)) (blkOk_by (by kernel_rfl)) (by decide) (fun _ _ _ _ _ => (dg_name (i := 2) sc_next_table.nd rfl (by first | exact Or.inl rfl | exact Or.inr rfl))) (fun _ _ _ _ _ => dps_nil) (fun _ _ _ _ _ => (de_and (de_ix (de_var 4) (de_var 2)) (de_one (de_cmp opv_is (nomark _) (de_cal c_lost_move hr (by decide) (by rfl) (da_cons (de_var 0) (da_cons (de_var 1) (da_cons (de_var 3) (da_cons (de_var 2) da_nil))))) de_non)))))))))
theorem sc_level_tables : FnScope ["row", "other", "near", "two", "one", "told", "going", "back", "later"] ["row", "other"] (defScope s_level_tables) := C8.fnScope_by (by decide +kernel)
theorem ok_level_tables {P : Program} {w : World} {K : PySem.W.Frag} {mg : Str → Option Value} {base : Heap} {f : Addr} {fd : FuncData} {cContest : Addr} (F : FunD K "level_tables" "level_tables" (defArgs s_level_tables) (defBody s_level_tables) (defScope s_level_tables) [] [] f fd) (T : Tx K mg cContest) (c_exchanged_table : Cal P w K mg base 1 "exchanged_table" 2 F_exchanged_table) (c_next_table : Cal P w K mg base 4 "next_table" 2 F_next_table) :
    FnOk P w K mg base CX0 5 f fd ["row", "other"] (spOf K 2 (F_level_tables)) :=
  fn_okF F sc_level_tables rfl fun cdv A outer s H E hr =>
 (dss_cons (ds_setComp (own := [("one", 4)]) (i := 2) rfl sc_level_tables.nd rfl rfl (sw_true rfl rfl rfl (by decide +kernel)) (di_str (de_var 0)) (blkOk_by (by kernel_rfl)) (by decide) (fun _ _ _ _ _ => (dg_name (i := 4) sc_level_tables.nd rfl (by first | exact Or.inl rfl | exact Or.inr rfl))) (fun _ _ _ _ _ => dps_nil) (fun _ _ _ _ _ => (de_comp (own := [("two", 3)]) rfl sc_level_tables.nd (di_str (de_var 1)) (blkOk_by (by kernel_rfl)) (by decide) (fun _ _ _ _ _ => (dg_name (i := 3) sc_level_tables.nd rfl (by first | exact Or.inl rfl | exact Or.inr rfl))) (fun _ _ _ _ _ => dps_nil) (fun _ _ _ _ _ => (de_cmp (opv_eq (hu64 hr)) (nomark _) (de_var 4) (de_var 3))))))
 (dss_cons (ds_set (i := 5) sc_level_tables.nd rfl (by first | exact Or.inl rfl | exact Or.inr rfl) (de_loc da_nil))
 (dss_cons (ds_set (i := 6) sc_level_tables.nd rfl (by first | exact Or.inl rfl | exact Or.inr rfl) de_bl)
 (dss_cons (ds_while PassesOwn.never (dt_val (de_var 6))
 (dss_cons (ds_set (i := 7) sc_level_tables.nd rfl (by first | exact Or.inl rfl | exact Or.inr rfl) (de_cal c_exchanged_table hr (by decide) (by rfl) (da_cons (de_var 2) (da_cons (de_callB callv_len (by rfl) T.n_len bt_len (da_cons (de_var 1) da_nil)) da_nil))))
 (dss_cons (ds_expr (de_bm PySem.F.plainAttrs_list PySem.F.slot_list_append PySem.F.type_list_append mtv_append (de_var 5) (da_cons (de_tup (da_cons (de_var 2) (da_cons (de_var 7) da_nil))) da_nil)))
 (dss_cons (ds_set (i := 8) sc_level_tables.nd rfl (by first | exact Or.inl rfl | exact Or.inr rfl) (de_cal c_next_table hr (by decide) (by rfl) (da_cons (de_var 2) (da_cons (de_var 7) da_nil))))
 (dss_cons (ds_set (i := 6) sc_level_tables.nd rfl (by first | exact Or.inl rfl | exact Or.inr rfl) (de_cmp (opv_ne (hu64 hr)) (nomark _) (de_var 8) (de_var 2)))
 (dss_one (ds_set (i := 2) sc_level_tables.nd rfl (by first | exact Or.inl rfl | exact Or.inr rfl) (de_var 8))))))))
 (dss_one (ds_ret (de_var 5)))))))
theorem sc_listed_level : FnScope ["near", "k", "line", "m", "one"] ["near"] (defScope s_listed_level) := C8.fnScope_by (by decide +kernel)
theorem ok_listed_level {P : Program} {w : World} {K : PySem.W.Frag} {mg : Str → Option Value} {base : Heap} {f : Addr} {fd : FuncData} {cContest : Addr} (F : FunD K "listed_level" "listed_level" (defArgs s_listed_level) (defBody s_listed_level) (defScope s_listed_level) [] [] f fd) (T : Tx K mg cContest)  :
    FnOk P w K mg base CX0 1 f fd ["near"] (spOf K 1 (F_listed_level)) :=
  fn_okF F sc_listed_level rfl fun cdv A outer s H E hr =>
 (dss_one (ds_ret (de_callTy callv_tuple (by rfl) T.n_tuple bt_tuple (da_cons (de_comp2 (own := [("k", 1), ("line", 2), ("m", 3), ("one", 4)]) (vs1 := [3, 4]) rfl sc_listed_level.nd (di_enum (by rfl) T.n_enumerate (da_cons (de_var 0) da_nil)) (blkOk_by (by kernel_rfl)) (by decide) (by decide) (by decide) (fun _ _ _ _ _ => (dg_tup rfl (dgs_cons (dg_name (i := 1) sc_listed_level.nd rfl (by first | exact Or.inl rfl | exact Or.inr rfl)) (dgs_cons (dg_name (i := 2) sc_listed_level.nd rfl (by first | exact Or.inl rfl | exact Or.inr rfl)) dgs_nil)))) (fun _ _ _ _ _ => dps_nil) (fun _ _ _ _ _ => (di_enum (by rfl) T.n_enumerate (da_cons (de_var 2) da_nil))) (fun _ _ _ _ _ => (dg_tup rfl (dgs_cons (dg_name (i := 3) sc_listed_level.nd rfl (by first | exact Or.inl rfl | exact Or.inr rfl)) (dgs_cons (dg_name (i := 4) sc_listed_level.nd rfl (by first | exact Or.inl rfl | exact Or.inr rfl)) dgs_nil)))) (fun _ _ _ _ _ => (dps_one (dt_val (de_var 4)))) (fun _ _ _ _ _ => (de_tup (da_cons (de_var 1) (da_cons (de_var 3) da_nil))))) da_nil))))
theorem sc_table_height : FnScope ["tables", "k", "m", "height", "near", "back"] ["tables", "k", "m"] (defScope s_table_height) := C8.fnScope_by (by decide +kernel)
theorem ok_table_height {P : Program} {w : World} {K : PySem.W.Frag} {mg : Str → Option Value} {base : Heap} {f : Addr} {fd : FuncData} {cContest : Addr} (F : FunD K "table_height" "table_height" (defArgs s_table_height) (defBody s_table_height) (defScope s_table_height) [] [] f fd) (T : Tx K mg cContest)  :
    FnOk P w K mg base CX0 1 f fd ["tables", "k", "m"] (spOf K 3 (F_table_height)) :=
  fn_okF F sc_table_height rfl fun cdv A outer s H E hr =>
 (dss_cons (ds_for PassesOwn.never rfl (di_enum (by rfl) T.n_enumerate (da_cons (de_var 0) da_nil)) (dg_tup rfl (dgs_cons (dg_name (i := 3) sc_table_height.nd rfl (by first | exact Or.inl rfl | exact Or.inr rfl)) (dgs_cons (dg_tup rfl (dgs_cons (dg_name (i := 4) sc_table_height.nd rfl (by first | exact Or.inl rfl | exact Or.inr rfl)) (dgs_cons (dg_name (i := 5) sc_table_height.nd rfl (by first | exact Or.inl rfl | exact Or.inr rfl)) dgs_nil))) dgs_nil)))
 (dss_one (ds_if (dt_not (dt_val (de_ix (de_ix (de_var 4) (de_var 1)) (de_var 2))))
 (dss_one (ds_ret (de_var 3)))
 dss_nil)))
 (dss_one (ds_ret de_non)))
theorem sc_Contest___init__ : FnScope ["self", "alphabet", "row", "other", "near", "back"] ["self", "alphabet", "row", "other"] (defScope s_Contest___init__) := C8.fnScope_by (by decide +kernel)
theorem ok_Contest___init__ {P : Program} {w : World} {K : PySem.W.Frag} {mg : Str → Option Value} {base : Heap} {f : Addr} {fd : FuncData} {cContest : Addr} (F : FunD K "__init__" "Contest.__init__" (defArgs s_Contest___init__) (defBody s_Contest___init__) (defScope s_Contest___init__) [] [] f fd) (T : Tx K mg cContest) (c_check_contest : Cal P w K mg base 3 "check_contest" 3 F_check_contest) (c_level_tables : Cal P w K mg base 5 "level_tables" 2 F_level_tables) (c_listed_level : Cal P w K mg base 1 "listed_level" 1 F_listed_level) :
    FnOk P w K mg base CX0 6 f fd ["self", "alphabet", "row", "other"] (spOf K 4 (F_Contest___init__ cContest)) :=
  fn_okF F sc_Contest___init__ rfl fun cdv A outer s H E hr =>
 (dss_cons (ds_expr (de_cal c_check_contest hr (by decide) (by rfl) (da_cons (de_var 1) (da_cons (de_var 2) (da_cons (de_var 3) da_nil)))))
 (dss_cons (ds_fld T.k_Contest T.a_Contest_alphabet (de_var 0) (de_var 1))
 (dss_cons (ds_fld T.k_Contest T.a_Contest_row (de_var 0) (de_var 2))
 (dss_cons (ds_fld T.k_Contest T.a_Contest_other (de_var 0) (de_var 3))
 (dss_cons (ds_fld T.k_Contest T.a_Contest_tables (de_var 0) (de_cal c_level_tables hr (by decide) (by rfl) (da_cons (de_var 2) (da_cons (de_var 3) da_nil))))
 (dss_one (ds_fld T.k_Contest T.a_Contest_levels (de_var 0) (de_callTy callv_tuple (by rfl) T.n_tuple bt_tuple (da_cons (de_comp (own := [("near", 4), ("back", 5)]) rfl sc_Contest___init__.nd (di_list (de_fld T.k_Contest T.a_Contest_tables (de_var 0))) (blkOk_by (by kernel_rfl)) (by decide) (fun _ _ _ _ _ => (dg_tup rfl (dgs_cons (dg_name (i := 4) sc_Contest___init__.nd rfl (by first | exact Or.inl rfl | exact Or.inr rfl)) (dgs_cons (dg_name (i := 5) sc_Contest___init__.nd rfl (by first | exact Or.inl rfl | exact Or.inr rfl)) dgs_nil)))) (fun _ _ _ _ _ => dps_nil) (fun _ _ _ _ _ => (de_cal c_listed_level hr (by decide) (by rfl) (da_cons (de_var 4) da_nil)))) da_nil)))))))))
theorem sc_Contest_parting_height : FnScope ["self", "k", "m"] ["self", "k", "m"] (defScope s_Contest_parting_height) := C8.fnScope_by (by decide +kernel)
theorem ok_Contest_parting_height {P : Program} {w : World} {K : PySem.W.Frag} {mg : Str → Option Value} {base : Heap} {f : Addr} {fd : FuncData} {cContest : Addr} (F : FunD K "parting_height" "Contest.parting_height" (defArgs s_Contest_parting_height) (defBody s_Contest_parting_height) (defScope s_Contest_parting_height) [] [] f fd) (T : Tx K mg cContest) (c_check_place : Cal P w K mg base 2 "check_place" 2 F_check_place) (c_table_height : Cal P w K mg base 1 "table_height" 3 F_table_height) :
    FnOk P w K mg base CX0 3 f fd ["self", "k", "m"] (spOf K 3 (F_Contest_parting_height cContest)) :=
  fn_okF F sc_Contest_parting_height rfl fun cdv A outer s H E hr =>
 (dss_cons (ds_expr (de_cal c_check_place hr (by decide) (by rfl) (da_cons (de_fld T.k_Contest T.a_Contest_row (de_var 0)) (da_cons (de_var 1) da_nil))))
 (dss_cons (ds_expr (de_cal c_check_place hr (by decide) (by rfl) (da_cons (de_fld T.k_Contest T.a_Contest_other (de_var 0)) (da_cons (de_var 2) da_nil))))
 (dss_one (ds_ret (de_cal c_table_height hr (by decide) (by rfl) (da_cons (de_fld T.k_Contest T.a_Contest_tables (de_var 0)) (da_cons (de_var 1) (da_cons (de_var 2) da_nil))))))))
theorem sc_table_of_level : FnScope ["row", "other", "level", "near", "two", "one", "item", "k", "m"] ["row", "other", "level"] (defScope s_table_of_level) := C8.fnScope_by (by decide +kernel)
theorem ok_table_of_level {P : Program} {w : World} {K : PySem.W.Frag} {mg : Str → Option Value} {base : Heap} {f : Addr} {fd : FuncData} {cContest : Addr} (F : FunD K "table_of_level" "table_of_level" (defArgs s_table_of_level) (defBody s_table_of_level) (defScope s_table_of_level) [] [] f fd) (T : Tx K mg cContest) (c_is_listed : Cal P w K mg base 1 "is_listed" 1 F_is_listed) (c_is_integer : Cal P w K mg base 1 "is_integer" 3 F_is_integer) :
    FnOk P w K mg base CX0 2 f fd ["row", "other", "level"] (spOf K 3 (F_table_of_level)) :=
  fn_okF F sc_table_of_level rfl fun cdv A outer s H E hr =>
 (dss_cons (ds_if (dt_not (dt_val (de_cal c_is_listed hr (by decide) (by rfl) (da_cons (de_var 2) da_nil))))
 (dss_one (ds_ret de_non))
 dss_nil)
 (dss_cons (ds_setCompL (own := [("one", 5)]) (i := 3) rfl sc_table_of_level.nd rfl rfl (sw_true rfl rfl rfl (by decide +kernel)) (di_str (de_var 0)) (blkOk_by (by kernel_rfl)) (by decide) (fun _ _ _ _ _ => (dg_name (i := 5) sc_table_of_level.nd rfl (by first | exact Or.inl rfl | exact Or.inr rfl))) (fun _ _ _ _ _ => dps_nil) (fun _ _ _ _ _ => (de_compL (own := [("two", 4)]) rfl sc_table_of_level.nd (di_str (de_var 1)) (blkOk_by (by kernel_rfl)) (by decide) (fun _ _ _ _ _ => (dg_name (i := 4) sc_table_of_level.nd rfl (by first | exact Or.inl rfl | exact Or.inr rfl))) (fun _ _ _ _ _ => dps_nil) (fun _ _ _ _ _ => de_bl))))
 (dss_cons (ds_for PassesOwn.never rfl (di_seq (de_var 2)) (dg_name (i := 6) sc_table_of_level.nd rfl (by first | exact Or.inl rfl | exact Or.inr rfl))
 (dss_cons (ds_if (dw_or (dt_not (dt_val (de_cal c_is_listed hr (by decide) (by rfl) (da_cons (de_var 6) da_nil)))) (dw_or1 (dt_cmp (opv_ne (hu64 hr)) (nomark _) (de_callB callv_len (by rfl) T.n_len bt_len (da_cons (de_var 6) da_nil)) de_int))).dt
 (dss_one (ds_ret de_non))
 dss_nil)
 (dss_cons (ds_asg (de_var 6) (dg_tup rfl (dgs_cons (dg_name (i := 7) sc_table_of_level.nd rfl (by first | exact Or.inl rfl | exact Or.inr rfl)) (dgs_cons (dg_name (i := 8) sc_table_of_level.nd rfl (by first | exact Or.inl rfl | exact Or.inr rfl)) dgs_nil))))
 (dss_cons (ds_if (dw_or (dt_not (dt_val (de_cal c_is_integer hr (by decide) (by rfl) (da_cons (de_var 7) (da_cons de_int (da_cons (de_bin opv_sub (de_callB callv_len (by rfl) T.n_len bt_len (da_cons (de_var 0) da_nil)) de_int) da_nil)))))) (dw_or1 (dt_not (dt_val (de_cal c_is_integer hr (by decide) (by rfl) (da_cons (de_var 8) (da_cons de_int (da_cons (de_bin opv_sub (de_callB callv_len (by rfl) T.n_len bt_len (da_cons (de_var 1) da_nil)) de_int) da_nil)))))))).dt
 (dss_one (ds_ret de_non))
 dss_nil)
 (dss_cons (ds_if (dt_cmp (opv_ne (hu64 hr)) (nomark _) (de_ix (de_var 0) (de_var 7)) (de_ix (de_var 1) (de_var 8)))
 (dss_one (ds_ret de_non))
 dss_nil)
 (dss_one (ds_setix de_bl (de_ix (de_var 3) (de_var 7)) (de_var 8))))))))
 (dss_one (ds_ret (de_var 3))))))
theorem sc_is_answered : FnScope ["near", "ahead", "width", "back", "k", "line", "m", "one"] ["near", "ahead", "width"] (defScope s_is_answered) := C8.fnScope_by (by decide +kernel)
theorem ok_is_answered {P : Program} {w : World} {K : PySem.W.Frag} {mg : Str → Option Value} {base : Heap} {f : Addr} {fd : FuncData} {cContest : Addr} (F : FunD K "is_answered" "is_answered" (defArgs s_is_answered) (defBody s_is_answered) (defScope s_is_answered) [] [] f fd) (T : Tx K mg cContest) (c_exchanged_table : Cal P w K mg base 1 "exchanged_table" 2 F_exchanged_table) (c_lost_move : Cal P w K mg base 3 "lost_move" 4 F_lost_move) :
    FnOk P w K mg base CX0 4 f fd ["near", "ahead", "width"] (spOf K 3 (F_is_answered)) :=
  fn_okF F sc_is_answered rfl fun cdv A outer s H E hr =>
 (dss_cons (ds_set (i := 3) sc_is_answered.nd rfl (by first | exact Or.inl rfl | exact Or.inr rfl) (de_cal c_exchanged_table hr (by decide) (by rfl) (da_cons (de_var 1) (da_cons (de_var 2) da_nil))))
 (dss_cons (ds_for PassesOwn.never rfl (di_enum (by rfl) T.n_enumerate (da_cons (de_var 0) da_nil)) (dg_tup rfl (dgs_cons (dg_name (i := 4) sc_is_answered.nd rfl (by first | exact Or.inl rfl | exact Or.inr rfl)) (dgs_cons (dg_name (i := 5) sc_is_answered.nd rfl (by first | exact Or.inl rfl | exact Or.inr rfl)) dgs_nil)))
 (dss_one (ds_for PassesOwn.never rfl (di_enum (by rfl) T.n_enumerate (da_cons (de_var 5) da_nil)) (dg_tup rfl (dgs_cons (dg_name (i := 6) sc_is_answered.nd rfl (by first | exact Or.inl rfl | exact Or.inr rfl)) (dgs_cons (dg_name (i := 7) sc_is_answered.nd rfl (by first | exact Or.inl rfl | exact Or.inr rfl)) dgs_nil)))
 (dss_one (ds_if (dw_and (dt_val (de_var 7)) (dw_and1 (dt_cmp opv_isnot (nomark _) (de_cal c_lost_move hr (by decide) (by rfl) (da_cons (de_var 1) (da_cons (de_var 3) (da_cons (de_var 4) (da_cons (de_var 6) da_nil))))) de_non))).dt
 (dss_one (ds_ret de_bl))
 dss_nil)))))
 (dss_one (ds_ret de_bl))))
theorem sc_judge_levels : FnScope ["alphabet", "row", "other", "levels", "ahead", "level", "near"] ["alphabet", "row", "other", "levels"] (defScope s_judge_levels) := C8.fnScope_by (by decide +kernel)
theorem ok_judge_levels {P : Program} {w : World} {K : PySem.W.Frag} {mg : Str → Option Value} {base : Heap} {f : Addr} {fd : FuncData} {cContest : Addr} (F : FunD K "judge_levels" "judge_levels" (defArgs s_judge_levels) (defBody s_judge_levels) (defScope s_judge_levels) [] [] f fd) (T : Tx K mg cContest) (c_check_contest : Cal P w K mg base 3 "check_contest" 3 F_check_contest) (c_is_listed : Cal P w K mg base 1 "is_listed" 1 F_is_listed) (c_table_of_level : Cal P w K mg base 2 "table_of_level" 3 F_table_of_level) (c_is_answered : Cal P w K mg base 4 "is_answered" 3 F_is_answered) :
    FnOk P w K mg base CX0 5 f fd ["alphabet", "row", "other", "levels"] (spOf K 4 (F_judge_levels)) :=
  fn_okF F sc_judge_levels rfl fun cdv A outer s H E hr =>
 (dss_cons (ds_expr (de_cal c_check_contest hr (by decide) (by rfl) (da_cons (de_var 0) (da_cons (de_var 1) (da_cons (de_var 2) da_nil)))))
 (dss_cons (ds_if (dt_not (dt_val (de_cal c_is_listed hr (by decide) (by rfl) (da_cons (de_var 3) da_nil))))
 (dss_one (ds_ret de_bl))
 dss_nil)
 (dss_cons (ds_set (i := 4) sc_judge_levels.nd rfl (by first | exact Or.inl rfl | exact Or.inr rfl) de_non)
 (dss_cons (ds_for PassesOwn.never rfl (di_seq (de_var 3)) (dg_name (i := 5) sc_judge_levels.nd rfl (by first | exact Or.inl rfl | exact Or.inr rfl))
 (dss_cons (ds_set (i := 6) sc_judge_levels.nd rfl (by first | exact Or.inl rfl | exact Or.inr rfl) (de_cal c_table_of_level hr (by decide) (by rfl) (da_cons (de_var 1) (da_cons (de_var 2) (da_cons (de_var 5) da_nil)))))
 (dss_cons (ds_if (dw_or (dt_cmp opv_is (nomark _) (de_var 6) de_non) (dw_or1 (dw_and (dt_cmp opv_isnot (nomark _) (de_var 4) de_non) (dw_and1 (dt_not (dt_val (de_cal c_is_answered hr (by decide) (by rfl) (da_cons (de_var 6) (da_cons (de_var 4) (da_cons (de_callB callv_len (by rfl) T.n_len bt_len (da_cons (de_var 2) da_nil)) da_nil)))))))).dt)).dt
 (dss_one (ds_ret de_bl))
 dss_nil)
 (dss_one (ds_set (i := 4) sc_judge_levels.nd rfl (by first | exact Or.inl rfl | exact Or.inr rfl) (de_var 6))))))
 (dss_one (ds_ret de_bl))))))
theorem sc__law_source : FnScope ["script", "place", "cell", "seed", "one", "number"] ["script", "place"] (defScope s__law_source) := C8.fnScope_by (by decide +kernel)
theorem ok__law_source {P : Program} {w : World} {K : PySem.W.Frag} {mg : Str → Option Value} {base : Heap} {f : Addr} {fd : FuncData} {cContest : Addr} (F : FunD K "_law_source" "_law_source" (defArgs s__law_source) (defBody s__law_source) (defScope s__law_source) [] [] f fd) (T : Tx K mg cContest)  :
    FnOk P w K mg base CX0 1 f fd ["script", "place"] (spOf K 2 (F__law_source)) :=
  fn_okK F sc__law_source rfl fun cdv A outer s H E hr =>
 (dss_cons (ds_set (i := 2) sc__law_source.nd rfl (by first | exact Or.inl rfl | exact Or.inr rfl) (de_if (dt_cmp opv_lt (nomark _) (de_var 1) (de_callB callv_len (by rfl) T.n_len bt_len (da_cons (de_var 0) da_nil))) (de_ix (de_var 0) (de_var 1)) (de_bin opv_add (de_bin opv_mul de_int (de_var 1)) de_int)))
 (dss_cons (ds_set (i := 3) sc__law_source.nd rfl (by first | exact Or.inl rfl | exact Or.inr rfl) (de_bin opv_add (de_bin opv_mul de_int (de_var 1)) de_int))
 (dss_cons (ds_for PassesOwn.never rfl (di_list (de_sl (de_var 0) do_none (do_some de_int))) (dg_name (i := 4) sc__law_source.nd rfl (by first | exact Or.inl rfl | exact Or.inr rfl))
 (dss_one (ds_set (i := 3) sc__law_source.nd rfl (by first | exact Or.inl rfl | exact Or.inr rfl) (de_bin opv_mod (de_callTy callv_int (by rfl) T.n_int bt_int (da_cons (de_bin opv_add (de_bin opv_mul (de_var 3) de_int) (de_bin opv_mod (de_callTy callv_int (by rfl) T.n_int bt_int (da_cons (de_var 4) da_nil)) de_int)) da_nil)) de_int))))
 (dss_cons (ds_set (i := 3) sc__law_source.nd rfl (by first | exact Or.inl rfl | exact Or.inr rfl) (de_bin opv_mod (de_callTy callv_int (by rfl) T.n_int bt_int (da_cons (de_bin opv_add (de_bin opv_mul (de_var 3) de_int) (de_bin opv_mod (de_callTy callv_int (by rfl) T.n_int bt_int (da_cons (de_var 2) da_nil)) de_int)) da_nil)) de_int))
 (dss_cons (ds_set (i := 5) sc__law_source.nd rfl (by first | exact Or.inl rfl | exact Or.inr rfl) (de_callB callv_abs (by rfl) T.n_abs bt_abs (da_cons (de_var 2) da_nil)))
 (dss_cons (ds_if (dt_cmp opv_lt (nomark _) (de_var 5) (de_bin opv_pow de_int de_int))
 (dss_one (ds_ret (de_loc (da_cons de_int (da_cons (de_var 3) (da_cons de_int da_nil))))))
 dss_nil)
 (dss_cons (ds_if (dt_cmp opv_gt (nomark _) (de_bin opv_shr (de_var 5) de_int) de_int)
 (dss_one (ds_set (i := 5) sc__law_source.nd rfl (by first | exact Or.inl rfl | exact Or.inr rfl) (de_bin opv_sub (de_var 5) (de_bin opv_shl (de_bin opv_shr (de_var 5) de_int) de_int))))
 dss_nil)
 (dss_one (ds_ret (de_loc (da_cons (de_var 5) (da_cons (de_var 3) (da_cons de_int da_nil)))))))))))))
theorem sc__law_pick : FnScope ["source", "many", "digit", "mixed"] ["source", "many"] (defScope s__law_pick) := C8.fnScope_by (by decide +kernel)
theorem ok__law_pick {P : Program} {w : World} {K : PySem.W.Frag} {mg : Str → Option Value} {base : Heap} {f : Addr} {fd : FuncData} {cContest : Addr} (F : FunD K "_law_pick" "_law_pick" (defArgs s__law_pick) (defBody s__law_pick) (defScope s__law_pick) [] [] f fd) (T : Tx K mg cContest)  :
    FnOk P w K mg base CX0 1 f fd ["source", "many"] (spOf K 2 (F__law_pick)) :=
  fn_okF F sc__law_pick rfl fun cdv A outer s H E hr =>
 (dss_cons (ds_if (dt_cmp opv_gt (nomark _) (de_ix (de_var 0) de_int) de_int)
 (dss_cons (ds_set (i := 2) sc__law_pick.nd rfl (by first | exact Or.inl rfl | exact Or.inr rfl) (de_bin opv_mod (de_callTy callv_int (by rfl) T.n_int bt_int (da_cons (de_ix (de_var 0) de_int) da_nil)) (de_var 1)))
 (dss_cons (ds_setix (de_bin opv_div (de_ix (de_var 0) de_int) (de_var 1)) (de_var 0) de_int)
 (dss_one (ds_ret (de_var 2)))))
 dss_nil)
 (dss_cons (ds_setix (de_bin opv_add (de_ix (de_var 0) de_int) de_int) (de_var 0) de_int)
 (dss_cons (ds_set (i := 3) sc__law_pick.nd rfl (by first | exact Or.inl rfl | exact Or.inr rfl) (de_bin opv_mod (de_callTy callv_int (by rfl) T.n_int bt_int (da_cons (de_bin opv_mul (de_bin opv_add (de_ix (de_var 0) de_int) (de_bin opv_mul de_int (de_ix (de_var 0) de_int))) de_int) da_nil)) de_int))
 (dss_cons (ds_set (i := 3) sc__law_pick.nd rfl (by first | exact Or.inl rfl | exact Or.inr rfl) (de_bin opv_mod (de_callTy callv_int (by rfl) T.n_int bt_int (da_cons (de_bin opv_add (de_bin opv_add (de_bin opv_mul (de_var 3) (de_var 3)) (de_bin opv_mul de_int (de_ix (de_var 0) de_int))) (de_ix (de_var 0) de_int)) da_nil)) de_int))
 (dss_cons (ds_set (i := 3) sc__law_pick.nd rfl (by first | exact Or.inl rfl | exact Or.inr rfl) (de_bin opv_mod (de_callTy callv_int (by rfl) T.n_int bt_int (da_cons (de_bin opv_add (de_bin opv_mul (de_var 3) de_int) de_int) da_nil)) de_int))
 (dss_cons (ds_set (i := 3) sc__law_pick.nd rfl (by first | exact Or.inl rfl | exact Or.inr rfl) (de_bin opv_mod (de_callTy callv_int (by rfl) T.n_int bt_int (da_cons (de_bin opv_add (de_bin opv_mul (de_var 3) (de_var 3)) (de_var 3)) da_nil)) de_int))
 (dss_one (ds_ret (de_bin opv_mod (de_callTy callv_int (by rfl) T.n_int bt_int (da_cons (de_bin opv_div (de_var 3) de_int) da_nil)) (de_var 1))))))))))
theorem sc__law_is_number : FnScope ["thing", "start", "end"] ["thing", "start", "end"] (defScope s__law_is_number) := C8.fnScope_by (by decide +kernel)
theorem ok__law_is_number {P : Program} {w : World} {K : PySem.W.Frag} {mg : Str → Option Value} {base : Heap} {f : Addr} {fd : FuncData} {cContest : Addr} (F : FunD K "_law_is_number" "_law_is_number" (defArgs s__law_is_number) (defBody s__law_is_number) (defScope s__law_is_number) [] [] f fd) (T : Tx K mg cContest)  :
    FnOk P w K mg base CX0 1 f fd ["thing", "start", "end"] (spOf K 3 (F__law_is_number)) :=
  fn_okF F sc__law_is_number rfl fun cdv A outer s H E hr =>
 (dss_one (ds_ret (de_and (de_isi (by rfl) T.n_isinstance bt_isinstance (de_var 0) (de_bty (by rfl) T.n_int bt_int)) (de_and (de_not (de_isi (by rfl) T.n_isinstance bt_isinstance (de_var 0) (de_bty (by rfl) T.n_bool bt_bool))) (de_one (de_chain opv_le opv_le (de_var 1) (de_var 0) (de_var 2)))))))
theorem sc__law_wide : FnScope ["source", "start", "end", "size", "left", "told", "k"] ["source", "start", "end"] (defScope s__law_wide) := C8.fnScope_by (by decide +kernel)
theorem ok__law_wide {P : Program} {w : World} {K : PySem.W.Frag} {mg : Str → Option Value} {base : Heap} {f : Addr} {fd : FuncData} {cContest : Addr} (F : FunD K "_law_wide" "_law_wide" (defArgs s__law_wide) (defBody s__law_wide) (defScope s__law_wide) [] [] f fd) (T : Tx K mg cContest) (c__law_pick : Cal P w K mg base 1 "_law_pick" 2 F__law_pick) :
    FnOk P w K mg base CX0 2 f fd ["source", "start", "end"] (spOf K 3 (F__law_wide)) :=
  fn_okF F sc__law_wide rfl fun cdv A outer s H E hr =>
 (dss_cons (ds_set (i := 3) sc__law_wide.nd rfl (by first | exact Or.inl rfl | exact Or.inr rfl) (de_bin opv_add (de_var 1) (de_cal c__law_pick hr (by decide) (by rfl) (da_cons (de_var 0) (da_cons (de_bin opv_add (de_bin opv_sub (de_var 2) (de_var 1)) de_int) da_nil)))))
 (dss_cons (ds_set (i := 4) sc__law_wide.nd rfl (by first | exact Or.inl rfl | exact Or.inr rfl) (de_callTy (callv_listSL rfl) (by rfl) T.n_list bt_list (da_cons de_str da_nil)))
 (dss_cons (ds_set (i := 5) sc__law_wide.nd rfl (by first | exact Or.inl rfl | exact Or.inr rfl) (de_loc da_nil))
 (dss_cons (ds_for PassesOwn.never rfl (di_range1 (by rfl) T.n_range (da_cons (de_var 3) da_nil)) (dg_name (i := 6) sc__law_wide.nd rfl (by first | exact Or.inl rfl | exact Or.inr rfl))
 (dss_one (ds_expr (de_bm PySem.F.plainAttrs_list PySem.F.slot_list_append PySem.F.type_list_append mtv_append (de_var 5) (da_cons (de_bm PySem.F.plainAttrs_list PySem.F.slot_list_pop PySem.F.type_list_pop mtv_pop (de_var 4) (da_cons (de_cal c__law_pick hr (by decide) (by rfl) (da_cons (de_var 0) (da_cons (de_callB callv_len (by rfl) T.n_len bt_len (da_cons (de_var 4) da_nil)) da_nil))) da_nil)) da_nil)))))
 (dss_one (ds_ret (de_bm PySem.F.plainAttrs_str PySem.F.slot_str_join PySem.F.type_str_join mtv_join de_str (da_cons (de_callB callv_sortedS (by rfl) T.n_sorted bt_sorted (da_cons (de_var 5) da_nil)) da_nil))))))))
theorem sc__law_turned_row : FnScope ["row"] ["row"] (defScope s__law_turned_row) := C8.fnScope_by (by decide +kernel)
theorem ok__law_turned_row {P : Program} {w : World} {K : PySem.W.Frag} {mg : Str → Option Value} {base : Heap} {f : Addr} {fd : FuncData} {cContest : Addr} (F : FunD K "_law_turned_row" "_law_turned_row" (defArgs s__law_turned_row) (defBody s__law_turned_row) (defScope s__law_turned_row) [] [] f fd) (T : Tx K mg cContest)  :
    FnOk P w K mg base CX0 1 f fd ["row"] (spOf K 1 (F__law_turned_row)) :=
  fn_okF F sc__law_turned_row rfl fun cdv A outer s H E hr =>
 (dss_one (ds_ret (de_bm PySem.F.plainAttrs_str PySem.F.slot_str_join PySem.F.type_str_join mtv_join de_str (da_cons (de_listRev rfl (by rfl) T.n_list (by rfl) T.n_reversed (de_callTy (callv_listS rfl) (by rfl) T.n_list bt_list (da_cons (de_var 0) da_nil))) da_nil))))
theorem sc__law_close : FnScope ["first", "k", "second", "m", "height", "beyond"] ["first", "k", "second", "m", "height"] (defScope s__law_close) := C8.fnScope_by (by decide +kernel)
theorem ok__law_close {P : Program} {w : World} {K : PySem.W.Frag} {mg : Str → Option Value} {base : Heap} {f : Addr} {fd : FuncData} {cContest : Addr} (F : FunD K "_law_close" "_law_close" (defArgs s__law_close) (defBody s__law_close) (defScope s__law_close) [] [] f fd) (T : Tx K mg cContest)  :
    FnOk P w K mg base CX0 1 f fd ["first", "k", "second", "m", "height"] (spOf K 5 (F__law_close)) :=
  fn_okF F sc__law_close rfl fun cdv A outer s H E hr =>
 (dss_cons (ds_set (i := 5) sc__law_close.nd rfl (by first | exact Or.inl rfl | exact Or.inr rfl) (de_lst (da_cons (de_bin opv_sub (de_bin opv_sub (de_var 0) de_int) (de_var 1)) (da_cons (de_bin opv_sub (de_bin opv_sub (de_var 2) de_int) (de_var 3)) da_nil))))
 (dss_cons (ds_if (dt_cmp (opv_eq (hu64 hr)) (nomark _) (de_tup (da_cons (de_var 1) (da_cons (de_ix (de_var 5) de_int) da_nil))) (de_tup (da_cons (de_var 3) (da_cons (de_ix (de_var 5) de_int) da_nil))))
 (dss_one (ds_ret de_bl))
 dss_nil)
 (dss_cons (ds_if (dw_or (dt_cmp (opv_ne (hu64 hr)) (nomark _) (de_callB (callv_min2 rfl) (by rfl) T.n_min bt_min (da_cons (de_var 1) (da_cons (de_var 4) da_nil))) (de_callB (callv_min2 rfl) (by rfl) T.n_min bt_min (da_cons (de_var 3) (da_cons (de_var 4) da_nil)))) (dw_or1 (dt_cmp (opv_ne (hu64 hr)) (nomark _) (de_callB (callv_min2 rfl) (by rfl) T.n_min bt_min (da_cons (de_ix (de_var 5) de_int) (da_cons (de_var 4) da_nil))) (de_callB (callv_min2 rfl) (by rfl) T.n_min bt_min (da_cons (de_ix (de_var 5) de_int) (da_cons (de_var 4) da_nil)))))).dt
 (dss_one (ds_ret de_bl))
 dss_nil)
 (dss_one (ds_ret (de_cmp (opv_eq (hu64 hr)) (nomark _) (de_callB (callv_min2 rfl) (by rfl) T.n_min bt_min (da_cons (de_bin opv_sub (de_var 0) de_int) (da_cons (de_bin opv_sub (de_bin opv_mul de_int (de_var 4)) de_int) da_nil))) (de_callB (callv_min2 rfl) (by rfl) T.n_min bt_min (da_cons (de_bin opv_sub (de_var 2) de_int) (da_cons (de_bin opv_sub (de_bin opv_mul de_int (de_var 4)) de_int) da_nil)))))))))
theorem sc__law_single_levels : FnScope ["first", "second", "told", "height", "level", "k", "m"] ["first", "second"] (defScope s__law_single_levels) := C8.fnScope_by (by decide +kernel)
theorem ok__law_single_levels {P : Program} {w : World} {K : PySem.W.Frag} {mg : Str → Option Value} {base : Heap} {f : Addr} {fd : FuncData} {cContest : Addr} (F : FunD K "_law_single_levels" "_law_single_levels" (defArgs s__law_single_levels) (defBody s__law_single_levels) (defScope s__law_single_levels) [] [] f fd) (T : Tx K mg cContest) (c__law_close : Cal P w K mg base 1 "_law_close" 5 F__law_close) :
    FnOk P w K mg base CX0 2 f fd ["first", "second"] (spOf K 2 (F__law_single_levels)) :=
  fn_okF F sc__law_single_levels rfl fun cdv A outer s H E hr =>
 (dss_cons (ds_set (i := 2) sc__law_single_levels.nd rfl (by first | exact Or.inl rfl | exact Or.inr rfl) (de_loc da_nil))
 (dss_cons (ds_for PassesOwn.never rfl (di_range1 (by rfl) T.n_range (da_cons de_int da_nil)) (dg_name (i := 3) sc__law_single_levels.nd rfl (by first | exact Or.inl rfl | exact Or.inr rfl))
 (dss_cons (ds_set (i := 4) sc__law_single_levels.nd rfl (by first | exact Or.inl rfl | exact Or.inr rfl) (de_lst da_nil))
 (dss_cons (ds_for PassesOwn.never rfl (di_range1 (by rfl) T.n_range (da_cons (de_var 0) da_nil)) (dg_name (i := 5) sc__law_single_levels.nd rfl (by first | exact Or.inl rfl | exact Or.inr rfl))
 (dss_one (ds_set (i := 4) sc__law_single_levels.nd rfl (by first | exact Or.inl rfl | exact Or.inr rfl) (de_bin opv_add (de_var 4) (de_comp (own := [("m", 6)]) rfl sc__law_single_levels.nd (di_range1 (by rfl) T.n_range (da_cons (de_var 1) da_nil)) (blkOk_by (by kernel_rfl)) (by decide) (fun _ _ _ _ _ => (dg_name (i := 6) sc__law_single_levels.nd rfl (by first | exact Or.inl rfl | exact Or.inr rfl))) (fun _ _ _ _ _ => (dps_one (dt_val (de_cal c__law_close hr (by decide) (by rfl) (da_cons (de_var 0) (da_cons (de_var 5) (da_cons (de_var 1) (da_cons (de_var 6) (da_cons (de_var 3) da_nil))))))))) (fun _ _ _ _ _ => (de_tup (da_cons (de_var 5) (da_cons (de_var 6) da_nil)))))))))
 (dss_cons (ds_if (dw_and (dt_cmp opv_gt (nomark _) (de_callB callv_len (by rfl) T.n_len bt_len (da_cons (de_var 2) da_nil)) de_int) (dw_and1 (dt_cmp (opv_eq (hu64 hr)) (nomark _) (de_var 4) (de_ix (de_var 2) (de_neg de_int))))).dt
 (dss_one ds_break)
 dss_nil)
 (dss_one (ds_expr (de_bm PySem.F.plainAttrs_list PySem.F.slot_list_append PySem.F.type_list_append mtv_append (de_var 2) (da_cons (de_var 4) da_nil))))))))
 (dss_one (ds_ret (de_var 2)))))
theorem sc__law_is_level : FnScope ["thing", "due", "pair", "one"] ["thing", "due"] (defScope s__law_is_level) := C8.fnScope_by (by decide +kernel)
theorem ok__law_is_level {P : Program} {w : World} {K : PySem.W.Frag} {mg : Str → Option Value} {base : Heap} {f : Addr} {fd : FuncData} {cContest : Addr} (F : FunD K "_law_is_level" "_law_is_level" (defArgs s__law_is_level) (defBody s__law_is_level) (defScope s__law_is_level) [] [] f fd) (T : Tx K mg cContest) (c__law_is_number : Cal P w K mg base 1 "_law_is_number" 3 F__law_is_number) :
    FnOk P w K mg base CX0 2 f fd ["thing", "due"] (spOf K 2 (F__law_is_level)) :=
  fn_okF F sc__law_is_level rfl fun cdv A outer s H E hr =>
 (dss_cons (ds_if (dw_or (dt_not (dt_val (de_isi (by rfl) T.n_isinstance bt_isinstance (de_var 0) (de_bty (by rfl) T.n_tuple bt_tuple)))) (dw_or1 (dt_cmp (opv_ne (hu64 hr)) (nomark _) (de_callB callv_len (by rfl) T.n_len bt_len (da_cons (de_var 0) da_nil)) (de_callB callv_len (by rfl) T.n_len bt_len (da_cons (de_var 1) da_nil))))).dt
 (dss_one (ds_ret de_bl))
 dss_nil)
 (dss_cons (ds_for PassesOwn.never rfl (di_tup (de_var 0)) (dg_name (i := 2) sc__law_is_level.nd rfl (by first | exact Or.inl rfl | exact Or.inr rfl))
 (dss_one (ds_if (dw_or (dt_not (dt_val (de_isi (by rfl) T.n_isinstance bt_isinstance (de_var 2) (de_bty (by rfl) T.n_tuple bt_tuple)))) (dw_or (dt_cmp (opv_ne (hu64 hr)) (nomark _) (de_callB callv_len (by rfl) T.n_len bt_len (da_cons (de_var 2) da_nil)) de_int) (dw_or1 (dt_not (dt_val (de_callB (callv_all rfl) (by rfl) T.n_all bt_all (da_cons (de_comp (own := [("one", 3)]) rfl sc__law_is_level.nd (di_tup (de_var 2)) (blkOk_by (by kernel_rfl)) (by decide) (fun _ _ _ _ _ => (dg_name (i := 3) sc__law_is_level.nd rfl (by first | exact Or.inl rfl | exact Or.inr rfl))) (fun _ _ _ _ _ => dps_nil) (fun _ _ _ _ _ => (de_cal c__law_is_number hr (by decide) (by rfl) (da_cons (de_var 3) (da_cons de_int (da_cons de_int da_nil)))))) da_nil))))))).dt
 (dss_one (ds_ret de_bl))
 dss_nil)))
 (dss_one (ds_ret (de_cmp (opv_eq (hu64 hr)) (nomark _) (de_callTy callv_list (by rfl) T.n_list bt_list (da_cons (de_var 0) da_nil)) (de_var 1))))))
theorem sc__law_is_levels : FnScope ["thing", "due", "k"] ["thing", "due"] (defScope s__law_is_levels) := C8.fnScope_by (by decide +kernel)
theorem ok__law_is_levels {P : Program} {w : World} {K : PySem.W.Frag} {mg : Str → Option Value} {base : Heap} {f : Addr} {fd : FuncData} {cContest : Addr} (F : FunD K "_law_is_levels" "_law_is_levels" (defArgs s__law_is_levels) (defBody s__law_is_levels) (defScope s__law_is_levels) [] [] f fd) (T : Tx K mg cContest) (c__law_is_level : Cal P w K mg base 2 "_law_is_level" 2 F__law_is_level) :
    FnOk P w K mg base CX0 3 f fd ["thing", "due"] (spOf K 2 (F__law_is_levels)) :=
  fn_okF F sc__law_is_levels rfl fun cdv A outer s H E hr =>
 (dss_cons (ds_if (dw_or (dt_not (dt_val (de_isi (by rfl) T.n_isinstance bt_isinstance (de_var 0) (de_bty (by rfl) T.n_tuple bt_tuple)))) (dw_or1 (dt_cmp (opv_ne (hu64 hr)) (nomark _) (de_callB callv_len (by rfl) T.n_len bt_len (da_cons (de_var 0) da_nil)) (de_callB callv_len (by rfl) T.n_len bt_len (da_cons (de_var 1) da_nil))))).dt
 (dss_one (ds_ret de_bl))
 dss_nil)
 (dss_one (ds_ret (de_callB (callv_all rfl) (by rfl) T.n_all bt_all (da_cons (de_comp (own := [("k", 2)]) rfl sc__law_is_levels.nd (di_range1 (by rfl) T.n_range (da_cons (de_callB callv_len (by rfl) T.n_len bt_len (da_cons (de_var 1) da_nil)) da_nil)) (blkOk_by (by kernel_rfl)) (by decide) (fun _ _ _ _ _ => (dg_name (i := 2) sc__law_is_levels.nd rfl (by first | exact Or.inl rfl | exact Or.inr rfl))) (fun _ _ _ _ _ => dps_nil) (fun _ _ _ _ _ => (de_cal c__law_is_level hr (by decide) (by rfl) (da_cons (de_ix (de_var 0) (de_var 2)) (da_cons (de_ix (de_var 1) (de_var 2)) da_nil))))) da_nil)))))
theorem sc__law_judged : FnScope ["source", "alphabet", "row", "other", "levels", "due", "way", "table", "item", "level", "kept", "told"] ["source", "alphabet", "row", "other", "levels", "due"] (defScope s__law_judged) := C8.fnScope_by (by decide +kernel)
theorem ok__law_judged {P : Program} {w : World} {K : PySem.W.Frag} {mg : Str → Option Value} {base : Heap} {f : Addr} {fd : FuncData} {cContest : Addr} (F : FunD K "_law_judged" "_law_judged" (defArgs s__law_judged) (defBody s__law_judged) (defScope s__law_judged) [] [] f fd) (T : Tx K mg cContest) (c__law_pick : Cal P w K mg base 1 "_law_pick" 2 F__law_pick) (c_judge_levels : Cal P w K mg base 5 "judge_levels" 4 F_judge_levels) :
    FnG P w K mg base 6 f fd ["source", "alphabet", "row", "other", "levels", "due"] (spOf K 6 (F__law_judged)) :=
  fn_okG F sc__law_judged rfl fun cdv A outer s H E hgd hr =>
 (dss_cons (ds_set (i := 6) sc__law_judged.nd rfl (by first | exact Or.inl rfl | exact Or.inr rfl) (de_cal c__law_pick hr (by decide) (by rfl) (da_cons (de_var 0) (da_cons de_int da_nil))))
 (dss_cons (ds_if (dt_cmp (opv_eq (hu64 hr)) (nomark _) (de_var 6) de_int)
 (dss_one (ds_set (i := 7) sc__law_judged.nd rfl (by first | exact Or.inl rfl | exact Or.inr rfl) (de_callTy callv_tuple (by rfl) T.n_tuple bt_tuple (da_cons (de_comp (own := [("level", 9)]) rfl sc__law_judged.nd (di_list (de_var 4)) (blkOk_by (by kernel_rfl)) (by decide) (fun _ _ _ _ _ => (dg_name (i := 9) sc__law_judged.nd rfl (by first | exact Or.inl rfl | exact Or.inr rfl))) (fun _ _ _ _ _ => dps_nil) (fun _ _ _ _ _ => (de_callTy callv_tuple (by rfl) T.n_tuple bt_tuple (da_cons (de_comp (own := [("item", 8)]) rfl sc__law_judged.nd (di_list (de_var 9)) (blkOk_by (by kernel_rfl)) (by decide) (fun _ _ _ _ _ => (dg_name (i := 8) sc__law_judged.nd rfl (by first | exact Or.inl rfl | exact Or.inr rfl))) (fun _ _ _ _ _ => dps_nil) (fun _ _ _ _ _ => (de_var 8))) da_nil)))) da_nil))))
 (dss_one (ds_if (dt_cmp (opv_eq (hu64 hr)) (nomark _) (de_var 6) de_int)
 (dss_one (ds_setComp (own := [("level", 9)]) (i := 7) rfl sc__law_judged.nd rfl rfl (sw_true rfl rfl rfl (by decide +kernel)) (di_list (de_var 4)) (blkOk_by (by kernel_rfl)) (by decide) (fun _ _ _ _ _ => (dg_name (i := 9) sc__law_judged.nd rfl (by first | exact Or.inl rfl | exact Or.inr rfl))) (fun _ _ _ _ _ => dps_nil) (fun _ _ _ _ _ => (de_comp (own := [("item", 8)]) rfl sc__law_judged.nd (di_list (de_var 9)) (blkOk_by (by kernel_rfl)) (by decide) (fun _ _ _ _ _ => (dg_name (i := 8) sc__law_judged.nd rfl (by first | exact Or.inl rfl | exact Or.inr rfl))) (fun _ _ _ _ _ => dps_nil) (fun _ _ _ _ _ => (de_if (dt_val (de_isi (by rfl) T.n_isinstance bt_isinstance (de_var 8) (de_bty (by rfl) T.n_tuple bt_tuple))) (de_callTy callv_list (by rfl) T.n_list bt_list (da_cons (de_var 8) da_nil)) (de_var 8)))))))
 (dss_one (ds_set (i := 7) sc__law_judged.nd rfl (by first | exact Or.inl rfl | exact Or.inr rfl) (de_callTy callv_tuple (by rfl) T.n_tuple bt_tuple (da_cons (de_comp (own := [("level", 9)]) rfl sc__law_judged.nd (di_list (de_var 4)) (blkOk_by (by kernel_rfl)) (by decide) (fun _ _ _ _ _ => (dg_name (i := 9) sc__law_judged.nd rfl (by first | exact Or.inl rfl | exact Or.inr rfl))) (fun _ _ _ _ _ => dps_nil) (fun _ _ _ _ _ => (de_bin opv_add (de_listRev rfl (by rfl) T.n_list (by rfl) T.n_reversed (de_callTy callv_list (by rfl) T.n_list bt_list (da_cons (de_var 9) da_nil))) (de_callTy callv_list (by rfl) T.n_list bt_list (da_cons (de_var 9) da_nil))))) da_nil)))))))
 (dss_cons (ds_set (i := 10) sc__law_judged.nd rfl (by first | exact Or.inl rfl | exact Or.inr rfl) (de_callB (callv_repr (hu64 hr) hgd) (by rfl) T.n_repr bt_repr (da_cons (de_var 7) da_nil)))
 (dss_cons (ds_set (i := 11) sc__law_judged.nd rfl (by first | exact Or.inl rfl | exact Or.inr rfl) (de_cal c_judge_levels hr (by decide) (by rfl) (da_cons (de_var 1) (da_cons (de_var 2) (da_cons (de_var 3) (da_cons (de_var 7) da_nil))))))
 (dss_cons (ds_if (dt_cmp (opv_ne (hu64 hr)) (nomark _) (de_callB (callv_repr (hu64 hr) hgd) (by rfl) T.n_repr bt_repr (da_cons (de_var 7) da_nil)) (de_var 10))
 (dss_one (ds_ret de_bl))
 dss_nil)
 (dss_one (ds_ret (de_if (dt_val (de_var 5)) (de_cmp opv_is (nomark _) (de_var 11) de_bl) (de_cmp opv_is (nomark _) (de_var 11) de_bl)))))))))
theorem sc__law_height_of : FnScope ["levels", "pair", "height"] ["levels", "pair"] (defScope s__law_height_of) := C8.fnScope_by (by decide +kernel)
theorem ok__law_height_of {P : Program} {w : World} {K : PySem.W.Frag} {mg : Str → Option Value} {base : Heap} {f : Addr} {fd : FuncData} {cContest : Addr} (F : FunD K "_law_height_of" "_law_height_of" (defArgs s__law_height_of) (defBody s__law_height_of) (defScope s__law_height_of) [] [] f fd) (T : Tx K mg cContest)  :
    FnOk P w K mg base CX0 1 f fd ["levels", "pair"] (spOf K 2 (F__law_height_of)) :=
  fn_okF F sc__law_height_of rfl fun cdv A outer s H E hr =>
 (dss_cons (ds_for PassesOwn.never rfl (di_range1 (by rfl) T.n_range (da_cons (de_callB callv_len (by rfl) T.n_len bt_len (da_cons (de_var 0) da_nil)) da_nil)) (dg_name (i := 2) sc__law_height_of.nd rfl (by first | exact Or.inl rfl | exact Or.inr rfl))
 (dss_one (ds_if (dt_cmp (opv_notin (hu65 hr)) (by rfl) (de_var 1) (de_ix (de_var 0) (de_var 2)))
 (dss_one (ds_ret (de_var 2)))
 dss_nil)))
 (dss_one (ds_ret de_non)))
theorem sc__law_heights_well : FnScope ["source", "contest", "levels", "first", "second", "turn", "pair", "due", "told"] ["source", "contest", "levels", "first", "second"] (defScope s__law_heights_well) := C8.fnScope_by (by decide +kernel)
theorem ok__law_heights_well {P : Program} {w : World} {K : PySem.W.Frag} {mg : Str → Option Value} {base : Heap} {f : Addr} {fd : FuncData} {cContest : Addr} (F : FunD K "_law_heights_well" "_law_heights_well" (defArgs s__law_heights_well) (defBody s__law_heights_well) (defScope s__law_heights_well) [] [] f fd) (T : Tx K mg cContest) (c__law_pick : Cal P w K mg base 1 "_law_pick" 2 F__law_pick) (c__law_height_of : Cal P w K mg base 1 "_law_height_of" 2 F__law_height_of) (m_Contest_parting_height : Mth P w K mg base 3 cContest "parting_height" 3 (F_Contest_parting_height cContest)) (c__law_is_number : Cal P w K mg base 1 "_law_is_number" 3 F__law_is_number) :
    FnOk P w K mg base CX0 4 f fd ["source", "contest", "levels", "first", "second"] (spOf K 5 (F__law_heights_well cContest)) :=
  fn_okF F sc__law_heights_well rfl fun cdv A outer s H E hr =>
 (dss_cons (ds_if (dw_or (dt_cmp (opv_eq (hu64 hr)) (nomark _) (de_var 3) de_int) (dw_or1 (dt_cmp (opv_eq (hu64 hr)) (nomark _) (de_var 4) de_int))).dt
 (dss_one (ds_ret de_bl))
 dss_nil)
 (dss_cons (ds_for PassesOwn.never rfl (di_range1 (by rfl) T.n_range (da_cons de_int da_nil)) (dg_name (i := 5) sc__law_heights_well.nd rfl (by first | exact Or.inl rfl | exact Or.inr rfl))
 (dss_cons (ds_set (i := 6) sc__law_heights_well.nd rfl (by first | exact Or.inl rfl | exact Or.inr rfl) (de_tup (da_cons (de_cal c__law_pick hr (by decide) (by rfl) (da_cons (de_var 0) (da_cons (de_var 3) da_nil))) (da_cons (de_cal c__law_pick hr (by decide) (by rfl) (da_cons (de_var 0) (da_cons (de_var 4) da_nil))) da_nil))))
 (dss_cons (ds_set (i := 7) sc__law_heights_well.nd rfl (by first | exact Or.inl rfl | exact Or.inr rfl) (de_cal c__law_height_of hr (by decide) (by rfl) (da_cons (de_var 2) (da_cons (de_var 6) da_nil))))
 (dss_cons (ds_set (i := 8) sc__law_heights_well.nd rfl (by first | exact Or.inl rfl | exact Or.inr rfl) (de_mth m_Contest_parting_height hr (by decide) (de_var 1) (da_cons (de_ix (de_var 6) de_int) (da_cons (de_ix (de_var 6) de_int) da_nil))))
 (dss_one (ds_if (dt_cmp opv_is (nomark _) (de_var 7) de_non)
 (dss_one (ds_if (dt_cmp opv_isnot (nomark _) (de_var 8) de_non)
 (dss_one (ds_ret de_bl))
 dss_nil))
 (dss_one (ds_if (dt_not (dt_val (de_cal c__law_is_number hr (by decide) (by rfl) (da_cons (de_var 8) (da_cons (de_var 7) (da_cons (de_var 7) da_nil))))))
 (dss_one (ds_ret de_bl))
 dss_nil))))))))
 (dss_one (ds_ret de_bl))))
theorem sc__law_single_well : FnScope ["source", "alphabet", "letter", "most", "first", "menu", "second", "levels", "row", "other", "contest", "table", "level", "k", "at", "lacks", "pair", "odd"] ["source"] (defScope s__law_single_well) := C8.fnScope_by (by decide +kernel)
theorem ok__law_single_well {P : Program} {w : World} {K : PySem.W.Frag} {mg : Str → Option Value} {base : Heap} {f : Addr} {fd : FuncData} {cContest : Addr} (F : FunD K "_law_single_well" "_law_single_well" (defArgs s__law_single_well) (defBody s__law_single_well) (defScope s__law_single_well) [] [] f fd) (T : Tx K mg cContest) (c__law_wide : Cal P w K mg base 2 "_law_wide" 3 F__law_wide) (c__law_pick : Cal P w K mg base 1 "_law_pick" 2 F__law_pick) (c__law_single_levels : Cal P w K mg base 2 "_law_single_levels" 2 F__law_single_levels) (w_Contest : New P w K mg base 6 "Contest" cContest 4 (F_Contest___init__ cContest)) (c__law_is_levels : Cal P w K mg base 3 "_law_is_levels" 2 F__law_is_levels) (c__law_heights_well : Cal P w K mg base 4 "_law_heights_well" 5 (F__law_heights_well cContest)) (c__law_judged : CalG P w K mg base 6 "_law_judged" 6 F__law_judged) :
    FnG P w K mg base 8 f fd ["source"] (spOf K 1 (F__law_single_well cContest)) :=
  fn_okG F sc__law_single_well rfl fun cdv A outer s H E hgd hr =>
 (dss_cons (ds_set (i := 1) sc__law_single_well.nd rfl (by first | exact Or.inl rfl | exact Or.inr rfl) (de_cal c__law_wide hr (by decide) (by rfl) (da_cons (de_var 0) (da_cons de_int (da_cons de_int da_nil)))))
 (dss_cons (ds_set (i := 2) sc__law_single_well.nd rfl (by first | exact Or.inl rfl | exact Or.inr rfl) (de_ix (de_var 1) (de_cal c__law_pick hr (by decide) (by rfl) (da_cons (de_var 0) (da_cons (de_callB callv_len (by rfl) T.n_len bt_len (da_cons (de_var 1) da_nil)) da_nil)))))
 (dss_cons (ds_set (i := 3) sc__law_single_well.nd rfl (by first | exact Or.inl rfl | exact Or.inr rfl) (de_if (dt_cmp (opv_eq (hu64 hr)) (nomark _) (de_cal c__law_pick hr (by decide) (by rfl) (da_cons (de_var 0) (da_cons de_int da_nil))) de_int) de_int de_int))
 (dss_cons (ds_set (i := 4) sc__law_single_well.nd rfl (by first | exact Or.inl rfl | exact Or.inr rfl) (de_cal c__law_pick hr (by decide) (by rfl) (da_cons (de_var 0) (da_cons (de_bin opv_add (de_var 3) de_int) da_nil))))
 (dss_cons (ds_set (i := 5) sc__law_single_well.nd rfl (by first | exact Or.inl rfl | exact Or.inr rfl) (de_lst (da_cons (de_var 4) (da_cons (de_bin opv_add (de_var 4) de_int) (da_cons (de_cal c__law_pick hr (by decide) (by rfl) (da_cons (de_var 0) (da_cons (de_bin opv_add (de_var 3) de_int) da_nil))) (da_cons (de_var 4) da_nil))))))
 (dss_cons (ds_set (i := 6) sc__law_single_well.nd rfl (by first | exact Or.inl rfl | exact Or.inr rfl) (de_callB (callv_min2 rfl) (by rfl) T.n_min bt_min (da_cons (de_ix (de_var 5) (de_cal c__law_pick hr (by decide) (by rfl) (da_cons (de_var 0) (da_cons de_int da_nil)))) (da_cons (de_var 3) da_nil))))
 (dss_cons (ds_set (i := 7) sc__law_single_well.nd rfl (by first | exact Or.inl rfl | exact Or.inr rfl) (de_cal c__law_single_levels hr (by decide) (by rfl) (da_cons (de_var 4) (da_cons (de_var 6) da_nil))))
 (dss_cons (ds_set (i := 8) sc__law_single_well.nd rfl (by first | exact Or.inl rfl | exact Or.inr rfl) (de_bin opv_mul (de_var 2) (de_var 4)))
 (dss_cons (ds_set (i := 9) sc__law_single_well.nd rfl (by first | exact Or.inl rfl | exact Or.inr rfl) (de_bin opv_mul (de_var 2) (de_var 6)))
 (dss_cons (ds_set (i := 10) sc__law_single_well.nd rfl (by first | exact Or.inl rfl | exact Or.inr rfl) (de_newc w_Contest hr (by decide) (by rfl) (da_cons (de_var 1) (da_cons (de_var 8) (da_cons (de_var 9) da_nil)))))
 (dss_cons (ds_if (dw_or (dt_not (dt_val (de_cal c__law_is_levels hr (by decide) (by rfl) (da_cons (de_fld T.k_Contest T.a_Contest_levels (de_var 10)) (da_cons (de_var 7) da_nil))))) (dw_or (dt_cmp (opv_ne (hu64 hr)) (nomark _) (de_fld T.k_Contest T.a_Contest_row (de_var 10)) (de_var 8)) (dw_or1 (dt_cmp (opv_ne (hu64 hr)) (nomark _) (de_fld T.k_Contest T.a_Contest_other (de_var 10)) (de_var 9))))).dt
 (dss_one (ds_ret de_bl))
 dss_nil)
 (dss_cons (ds_if (dt_not (dt_val (de_cal c__law_heights_well hr (by decide) (by rfl) (da_cons (de_var 0) (da_cons (de_var 10) (da_cons (de_var 7) (da_cons (de_var 4) (da_cons (de_var 6) da_nil))))))))
 (dss_one (ds_ret de_bl))
 dss_nil)
 (dss_cons (ds_set (i := 11) sc__law_single_well.nd rfl (by first | exact Or.inl rfl | exact Or.inr rfl) (de_compL (own := [("level", 12)]) rfl sc__law_single_well.nd (di_list (de_var 7)) (blkOk_by (by kernel_rfl)) (by decide) (fun _ _ _ _ _ => (dg_name (i := 12) sc__law_single_well.nd rfl (by first | exact Or.inl rfl | exact Or.inr rfl))) (fun _ _ _ _ _ => dps_nil) (fun _ _ _ _ _ => (de_callTy callv_listL (by rfl) T.n_list bt_list (da_cons (de_var 12) da_nil)))))
 (dss_cons (ds_for PassesOwn.never rfl (di_range1 (by rfl) T.n_range (da_cons (de_bin opv_sub (de_bin opv_add de_int (de_cal c__law_pick hr (by decide) (by rfl) (da_cons (de_var 0) (da_cons de_int da_nil)))) (de_callB callv_len (by rfl) T.n_len bt_len (da_cons (de_var 7) da_nil))) da_nil)) (dg_name (i := 13) sc__law_single_well.nd rfl (by first | exact Or.inl rfl | exact Or.inr rfl))
 (dss_one (ds_expr (de_bm PySem.F.plainAttrs_list PySem.F.slot_list_append PySem.F.type_list_append mtv_append (de_var 11) (da_cons (de_callTy callv_listL (by rfl) T.n_list bt_list (da_cons (de_ix (de_var 7) (de_neg de_int)) da_nil)) da_nil)))))
 (dss_cons (ds_if (dt_not (dt_val (de_calG c__law_judged hgd hr (by decide) (by rfl) (da_cons (de_var 0) (da_cons (de_var 1) (da_cons (de_var 8) (da_cons (de_var 9) (da_cons (de_var 11) (da_cons de_bl da_nil)))))))))
 (dss_one (ds_ret de_bl))
 dss_nil)
 (dss_cons (ds_set (i := 14) sc__law_single_well.nd rfl (by first | exact Or.inl rfl | exact Or.inr rfl) (de_bin opv_add de_int (de_cal c__law_pick hr (by decide) (by rfl) (da_cons (de_var 0) (da_cons (de_bin opv_sub (de_callB callv_len (by rfl) T.n_len bt_len (da_cons (de_var 11) da_nil)) de_int) da_nil)))))
 (dss_cons (ds_setComp (own := [("pair", 16)]) (i := 15) rfl sc__law_single_well.nd rfl rfl (sw_true rfl rfl rfl (by decide +kernel)) (di_list (de_ix (de_var 7) de_int)) (blkOk_by (by kernel_rfl)) (by decide) (fun _ _ _ _ _ => (dg_name (i := 16) sc__law_single_well.nd rfl (by first | exact Or.inl rfl | exact Or.inr rfl))) (fun _ _ _ _ _ => (dps_one (dt_cmp (opv_notin (hu65 hr)) (by rfl) (de_var 16) (de_ix (de_var 11) (de_var 14))))) (fun _ _ _ _ _ => (de_var 16)))
 (dss_cons (ds_if (dt_cmp opv_gt (nomark _) (de_callB callv_len (by rfl) T.n_len bt_len (da_cons (de_var 15) da_nil)) de_int)
 (dss_cons (ds_expr (de_bm PySem.F.plainAttrs_list PySem.F.slot_list_append PySem.F.type_list_append mtv_append (de_ix (de_var 11) (de_var 14)) (da_cons (de_ix (de_var 15) (de_cal c__law_pick hr (by decide) (by rfl) (da_cons (de_var 0) (da_cons (de_callB callv_len (by rfl) T.n_len bt_len (da_cons (de_var 15) da_nil)) da_nil)))) da_nil)))
 (dss_cons (ds_if (dt_not (dt_val (de_calG c__law_judged hgd hr (by decide) (by rfl) (da_cons (de_var 0) (da_cons (de_var 1) (da_cons (de_var 8) (da_cons (de_var 9) (da_cons (de_var 11) (da_cons de_bl da_nil)))))))))
 (dss_one (ds_ret de_bl))
 dss_nil)
 (dss_one (ds_expr (de_bm0 PySem.F.plainAttrs_list PySem.F.slot_list_pop PySem.F.type_list_pop mtv_pop (de_ix (de_var 11) (de_var 14)))))))
 dss_nil)
 (dss_cons (ds_set (i := 17) sc__law_single_well.nd rfl (by first | exact Or.inl rfl | exact Or.inr rfl) (de_lst (da_cons (de_tup (da_cons de_int da_nil)) (da_cons (de_tup (da_cons (de_var 4) (da_cons de_int da_nil))) (da_cons (de_tup (da_cons de_int (da_cons (de_var 6) da_nil))) (da_cons (de_tup (da_cons (de_neg de_int) (da_cons de_int da_nil))) (da_cons (de_tup (da_cons de_bl (da_cons de_int da_nil))) (da_cons (de_tup (da_cons (de_tup (da_cons de_int (da_cons de_int da_nil))) da_nil)) (da_cons (de_tup (da_cons de_int (da_cons de_int (da_cons de_int da_nil)))) (da_cons de_str (da_cons de_non (da_cons de_dnew da_nil))))))))))))
 (dss_cons (ds_set (i := 14) sc__law_single_well.nd rfl (by first | exact Or.inl rfl | exact Or.inr rfl) (de_cal c__law_pick hr (by decide) (by rfl) (da_cons (de_var 0) (da_cons (de_callB callv_len (by rfl) T.n_len bt_len (da_cons (de_var 11) da_nil)) da_nil))))
 (dss_cons (ds_expr (de_bm PySem.F.plainAttrs_list PySem.F.slot_list_append PySem.F.type_list_append mtv_append (de_ix (de_var 11) (de_var 14)) (da_cons (de_ix (de_var 17) (de_cal c__law_pick hr (by decide) (by rfl) (da_cons (de_var 0) (da_cons (de_callB callv_len (by rfl) T.n_len bt_len (da_cons (de_var 17) da_nil)) da_nil)))) da_nil)))
 (dss_cons (ds_if (dt_not (dt_val (de_calG c__law_judged hgd hr (by decide) (by rfl) (da_cons (de_var 0) (da_cons (de_var 1) (da_cons (de_var 8) (da_cons (de_var 9) (da_cons (de_var 11) (da_cons de_bl da_nil)))))))))
 (dss_one (ds_ret de_bl))
 dss_nil)
 (dss_cons (ds_expr (de_bm0 PySem.F.plainAttrs_list PySem.F.slot_list_pop PySem.F.type_list_pop mtv_pop (de_ix (de_var 11) (de_var 14))))
 (dss_one (ds_ret (de_calG c__law_judged hgd hr (by decide) (by rfl) (da_cons (de_var 0) (da_cons (de_var 1) (da_cons (de_var 8) (da_cons (de_var 9) (da_cons (de_sl (de_var 11) (do_some (de_var 14)) do_none) (da_cons de_bl da_nil))))))))))))))))))))))))))))))))
theorem sc__law_comings : FnScope ["row", "told", "letter"] ["row"] (defScope s__law_comings) := C8.fnScope_by (by decide +kernel)
theorem ok__law_comings {P : Program} {w : World} {K : PySem.W.Frag} {mg : Str → Option Value} {base : Heap} {f : Addr} {fd : FuncData} {cContest : Addr} (F : FunD K "_law_comings" "_law_comings" (defArgs s__law_comings) (defBody s__law_comings) (defScope s__law_comings) [] [] f fd) (T : Tx K mg cContest)  :
    FnOk P w K mg base CX0 1 f fd ["row"] (spOf K 1 (F__law_comings)) :=
  fn_okF F sc__law_comings rfl fun cdv A outer s H E hr =>
 (dss_cons (ds_set (i := 1) sc__law_comings.nd rfl (by first | exact Or.inl rfl | exact Or.inr rfl) de_str)
 (dss_cons (ds_for PassesOwn.never rfl (di_str (de_var 0)) (dg_name (i := 2) sc__law_comings.nd rfl (by first | exact Or.inl rfl | exact Or.inr rfl))
 (dss_one (ds_if (dt_cmp (opv_notin (hu65 hr)) (by rfl) (de_var 2) (de_var 1))
 (dss_one (ds_set (i := 1) sc__law_comings.nd rfl (by first | exact Or.inl rfl | exact Or.inr rfl) (de_bin opv_add (de_var 1) (de_var 2))))
 dss_nil)))
 (dss_one (ds_ret (de_var 1)))))
theorem sc__law_kinds : FnScope ["row", "told", "k"] ["row"] (defScope s__law_kinds) := C8.fnScope_by (by decide +kernel)
theorem ok__law_kinds {P : Program} {w : World} {K : PySem.W.Frag} {mg : Str → Option Value} {base : Heap} {f : Addr} {fd : FuncData} {cContest : Addr} (F : FunD K "_law_kinds" "_law_kinds" (defArgs s__law_kinds) (defBody s__law_kinds) (defScope s__law_kinds) [] [] f fd) (T : Tx K mg cContest) (c__law_comings : Cal P w K mg base 1 "_law_comings" 1 F__law_comings) (c__law_turned_row : Cal P w K mg base 1 "_law_turned_row" 1 F__law_turned_row) :
    FnOk P w K mg base CX0 2 f fd ["row"] (spOf K 1 (F__law_kinds)) :=
  fn_okF F sc__law_kinds rfl fun cdv A outer s H E hr =>
 (dss_cons (ds_set (i := 1) sc__law_kinds.nd rfl (by first | exact Or.inl rfl | exact Or.inr rfl) (de_loc da_nil))
 (dss_cons (ds_for PassesOwn.never rfl (di_range1 (by rfl) T.n_range (da_cons (de_callB callv_len (by rfl) T.n_len bt_len (da_cons (de_var 0) da_nil)) da_nil)) (dg_name (i := 2) sc__law_kinds.nd rfl (by first | exact Or.inl rfl | exact Or.inr rfl))
 (dss_one (ds_expr (de_bm PySem.F.plainAttrs_list PySem.F.slot_list_append PySem.F.type_list_append mtv_append (de_var 1) (da_cons (de_tup (da_cons (de_ix (de_var 0) (de_var 2)) (da_cons (de_cal c__law_comings hr (by decide) (by rfl) (da_cons (de_sl (de_var 0) (do_some (de_bin opv_add (de_var 2) de_int)) do_none) da_nil)) (da_cons (de_cal c__law_comings hr (by decide) (by rfl) (da_cons (de_cal c__law_turned_row hr (by decide) (by rfl) (da_cons (de_sl (de_var 0) do_none (do_some (de_var 2))) da_nil)) da_nil)) da_nil)))) da_nil)))))
 (dss_one (ds_ret (de_var 1)))))
theorem sc__law_same : FnScope ["ones", "others", "told", "k", "m"] ["ones", "others"] (defScope s__law_same) := C8.fnScope_by (by decide +kernel)
theorem ok__law_same {P : Program} {w : World} {K : PySem.W.Frag} {mg : Str → Option Value} {base : Heap} {f : Addr} {fd : FuncData} {cContest : Addr} (F : FunD K "_law_same" "_law_same" (defArgs s__law_same) (defBody s__law_same) (defScope s__law_same) [] [] f fd) (T : Tx K mg cContest)  :
    FnOk P w K mg base CX0 1 f fd ["ones", "others"] (spOf K 2 (F__law_same)) :=
  fn_okF F sc__law_same rfl fun cdv A outer s H E hr =>
 (dss_cons (ds_set (i := 2) sc__law_same.nd rfl (by first | exact Or.inl rfl | exact Or.inr rfl) (de_lst da_nil))
 (dss_cons (ds_for PassesOwn.never rfl (di_range1 (by rfl) T.n_range (da_cons (de_callB callv_len (by rfl) T.n_len bt_len (da_cons (de_var 0) da_nil)) da_nil)) (dg_name (i := 3) sc__law_same.nd rfl (by first | exact Or.inl rfl | exact Or.inr rfl))
 (dss_one (ds_set (i := 2) sc__law_same.nd rfl (by first | exact Or.inl rfl | exact Or.inr rfl) (de_bin opv_add (de_var 2) (de_comp (own := [("m", 4)]) rfl sc__law_same.nd (di_range1 (by rfl) T.n_range (da_cons (de_callB callv_len (by rfl) T.n_len bt_len (da_cons (de_var 1) da_nil)) da_nil)) (blkOk_by (by kernel_rfl)) (by decide) (fun _ _ _ _ _ => (dg_name (i := 4) sc__law_same.nd rfl (by first | exact Or.inl rfl | exact Or.inr rfl))) (fun _ _ _ _ _ => (dps_one (dt_cmp (opv_eq (hu64 hr)) (nomark _) (de_ix (de_var 0) (de_var 3)) (de_ix (de_var 1) (de_var 4))))) (fun _ _ _ _ _ => (de_tup (da_cons (de_var 3) (da_cons (de_var 4) da_nil)))))))))
 (dss_one (ds_ret (de_var 2)))))
theorem sc__law_answered : FnScope ["near", "ones", "others", "i", "found", "j", "one", "other"] ["near", "ones", "others"] (defScope s__law_answered) := C8.fnScope_by (by decide +kernel)
theorem ok__law_answered {P : Program} {w : World} {K : PySem.W.Frag} {mg : Str → Option Value} {base : Heap} {f : Addr} {fd : FuncData} {cContest : Addr} (F : FunD K "_law_answered" "_law_answered" (defArgs s__law_answered) (defBody s__law_answered) (defScope s__law_answered) [] [] f fd) (T : Tx K mg cContest)  :
    FnOk P w K mg base CX0 1 f fd ["near", "ones", "others"] (spOf K 3 (F__law_answered)) :=
  fn_okF F sc__law_answered rfl fun cdv A outer s H E hr =>
 (dss_cons (ds_for PassesOwn.never rfl (di_range1 (by rfl) T.n_range (da_cons (de_callB callv_len (by rfl) T.n_len bt_len (da_cons (de_var 1) da_nil)) da_nil)) (dg_name (i := 3) sc__law_answered.nd rfl (by first | exact Or.inl rfl | exact Or.inr rfl))
 (dss_cons (ds_set (i := 4) sc__law_answered.nd rfl (by first | exact Or.inl rfl | exact Or.inr rfl) de_bl)
 (dss_cons (ds_for PassesOwn.never rfl (di_range1 (by rfl) T.n_range (da_cons (de_callB callv_len (by rfl) T.n_len bt_len (da_cons (de_var 2) da_nil)) da_nil)) (dg_name (i := 5) sc__law_answered.nd rfl (by first | exact Or.inl rfl | exact Or.inr rfl))
 (dss_cons (ds_if (dt_din (hu1 hr) (de_tup (da_cons (de_ix (de_var 1) (de_var 3)) (da_cons (de_ix (de_var 2) (de_var 5)) da_nil))) (de_var 0))
 (dss_one (ds_set (i := 4) sc__law_answered.nd rfl (by first | exact Or.inl rfl | exact Or.inr rfl) (de_callB (callv_all rfl) (by rfl) T.n_all bt_all (da_cons (de_comp (own := [("other", 7)]) rfl sc__law_answered.nd (di_list (de_sl (de_var 2) do_none (do_some (de_var 5)))) (blkOk_by (by kernel_rfl)) (by decide) (fun _ _ _ _ _ => (dg_name (i := 7) sc__law_answered.nd rfl (by first | exact Or.inl rfl | exact Or.inr rfl))) (fun _ _ _ _ _ => dps_nil) (fun _ _ _ _ _ => (de_callB (callv_any rfl) (by rfl) T.n_any bt_any (da_cons (de_comp (own := [("one", 6)]) rfl sc__law_answered.nd (di_list (de_sl (de_var 1) do_none (do_some (de_var 3)))) (blkOk_by (by kernel_rfl)) (by decide) (fun _ _ _ _ _ => (dg_name (i := 6) sc__law_answered.nd rfl (by first | exact Or.inl rfl | exact Or.inr rfl))) (fun _ _ _ _ _ => dps_nil) (fun _ _ _ _ _ => (de_din (hu1 hr) (de_tup (da_cons (de_var 6) (da_cons (de_var 7) da_nil))) (de_var 0)))) da_nil)))) da_nil))))
 dss_nil)
 (dss_one (ds_if (dt_val (de_var 4))
 (dss_one ds_break)
 dss_nil))))
 (dss_one (ds_if (dt_not (dt_val (de_var 4)))
 (dss_one (ds_ret de_bl))
 dss_nil)))))
 (dss_one (ds_ret de_bl)))
theorem sc__law_stays : FnScope ["row", "other", "level", "pair", "near", "back", "k", "m", "sides"] ["row", "other", "level", "pair"] (defScope s__law_stays) := C8.fnScope_by (by decide +kernel)
theorem ok__law_stays {P : Program} {w : World} {K : PySem.W.Frag} {mg : Str → Option Value} {base : Heap} {f : Addr} {fd : FuncData} {cContest : Addr} (F : FunD K "_law_stays" "_law_stays" (defArgs s__law_stays) (defBody s__law_stays) (defScope s__law_stays) [] [] f fd) (T : Tx K mg cContest) (c__law_answered : Cal P w K mg base 1 "_law_answered" 3 F__law_answered) :
    FnOk P w K mg base CX0 2 f fd ["row", "other", "level", "pair"] (spOf K 4 (F__law_stays)) :=
  fn_okF F sc__law_stays rfl fun cdv A outer s H E hr =>
 (dss_cons (ds_set (i := 4) sc__law_stays.nd rfl (by first | exact Or.inl rfl | exact Or.inr rfl) de_dnewT)
 (dss_cons (ds_set (i := 5) sc__law_stays.nd rfl (by first | exact Or.inl rfl | exact Or.inr rfl) de_dnewT)
 (dss_cons (ds_for PassesOwn.never rfl (di_list (de_var 2)) (dg_tup rfl (dgs_cons (dg_name (i := 6) sc__law_stays.nd rfl (by first | exact Or.inl rfl | exact Or.inr rfl)) (dgs_cons (dg_name (i := 7) sc__law_stays.nd rfl (by first | exact Or.inl rfl | exact Or.inr rfl)) dgs_nil)))
 (dss_cons (ds_dput (hu1 hr) (de_var 4) (de_tup (da_cons (de_var 6) (da_cons (de_var 7) da_nil))) de_bl)
 (dss_one (ds_dput (hu1 hr) (de_var 5) (de_tup (da_cons (de_var 7) (da_cons (de_var 6) da_nil))) de_bl))))
 (dss_cons (ds_set (i := 8) sc__law_stays.nd rfl (by first | exact Or.inl rfl | exact Or.inr rfl) (de_lst (da_cons (de_comp (own := [("k", 6)]) rfl sc__law_stays.nd (di_range2 (by rfl) T.n_range (da_cons (de_bin opv_add (de_ix (de_var 3) de_int) de_int) (da_cons (de_callB callv_len (by rfl) T.n_len bt_len (da_cons (de_var 0) da_nil)) da_nil))) (blkOk_by (by kernel_rfl)) (by decide) (fun _ _ _ _ _ => (dg_name (i := 6) sc__law_stays.nd rfl (by first | exact Or.inl rfl | exact Or.inr rfl))) (fun _ _ _ _ _ => dps_nil) (fun _ _ _ _ _ => (de_var 6))) (da_cons (de_comp (own := [("m", 7)]) rfl sc__law_stays.nd (di_range2 (by rfl) T.n_range (da_cons (de_bin opv_add (de_ix (de_var 3) de_int) de_int) (da_cons (de_callB callv_len (by rfl) T.n_len bt_len (da_cons (de_var 1) da_nil)) da_nil))) (blkOk_by (by kernel_rfl)) (by decide) (fun _ _ _ _ _ => (dg_name (i := 7) sc__law_stays.nd rfl (by first | exact Or.inl rfl | exact Or.inr rfl))) (fun _ _ _ _ _ => dps_nil) (fun _ _ _ _ _ => (de_var 7))) da_nil))))
 (dss_cons (ds_if (dw_or (dt_not (dt_val (de_cal c__law_answered hr (by decide) (by rfl) (da_cons (de_var 4) (da_cons (de_ix (de_var 8) de_int) (da_cons (de_ix (de_var 8) de_int) da_nil)))))) (dw_or1 (dt_not (dt_val (de_cal c__law_answered hr (by decide) (by rfl) (da_cons (de_var 5) (da_cons (de_ix (de_var 8) de_int) (da_cons (de_ix (de_var 8) de_int) da_nil)))))))).dt
 (dss_one (ds_ret de_bl))
 dss_nil)
 (dss_cons (ds_set (i := 8) sc__law_stays.nd rfl (by first | exact Or.inl rfl | exact Or.inr rfl) (de_lst (da_cons (de_comp (own := [("k", 6)]) rfl sc__law_stays.nd (di_range1 (by rfl) T.n_range (da_cons (de_ix (de_var 3) de_int) da_nil)) (blkOk_by (by kernel_rfl)) (by decide) (fun _ _ _ _ _ => (dg_name (i := 6) sc__law_stays.nd rfl (by first | exact Or.inl rfl | exact Or.inr rfl))) (fun _ _ _ _ _ => dps_nil) (fun _ _ _ _ _ => (de_bin opv_sub (de_bin opv_sub (de_ix (de_var 3) de_int) de_int) (de_var 6)))) (da_cons (de_comp (own := [("m", 7)]) rfl sc__law_stays.nd (di_range1 (by rfl) T.n_range (da_cons (de_ix (de_var 3) de_int) da_nil)) (blkOk_by (by kernel_rfl)) (by decide) (fun _ _ _ _ _ => (dg_name (i := 7) sc__law_stays.nd rfl (by first | exact Or.inl rfl | exact Or.inr rfl))) (fun _ _ _ _ _ => dps_nil) (fun _ _ _ _ _ => (de_bin opv_sub (de_bin opv_sub (de_ix (de_var 3) de_int) de_int) (de_var 7)))) da_nil))))
 (dss_one (ds_ret (de_and (de_cal c__law_answered hr (by decide) (by rfl) (da_cons (de_var 4) (da_cons (de_ix (de_var 8) de_int) (da_cons (de_ix (de_var 8) de_int) da_nil)))) (de_one (de_cal c__law_answered hr (by decide) (by rfl) (da_cons (de_var 5) (da_cons (de_ix (de_var 8) de_int) (da_cons (de_ix (de_var 8) de_int) da_nil))))))))))))))
theorem sc__law_deep_well : FnScope ["source", "alphabet", "row", "other", "same", "level", "table", "k", "at"] ["source", "alphabet", "row", "other", "same", "level"] (defScope s__law_deep_well) := C8.fnScope_by (by decide +kernel)
theorem ok__law_deep_well {P : Program} {w : World} {K : PySem.W.Frag} {mg : Str → Option Value} {base : Heap} {f : Addr} {fd : FuncData} {cContest : Addr} (F : FunD K "_law_deep_well" "_law_deep_well" (defArgs s__law_deep_well) (defBody s__law_deep_well) (defScope s__law_deep_well) [] [] f fd) (T : Tx K mg cContest) (c__law_pick : Cal P w K mg base 1 "_law_pick" 2 F__law_pick) (c__law_judged : CalG P w K mg base 6 "_law_judged" 6 F__law_judged) :
    FnG P w K mg base 7 f fd ["source", "alphabet", "row", "other", "same", "level"] (spOf K 6 (F__law_deep_well)) :=
  fn_okG F sc__law_deep_well rfl fun cdv A outer s H E hgd hr =>
 (dss_cons (ds_set (i := 6) sc__law_deep_well.nd rfl (by first | exact Or.inl rfl | exact Or.inr rfl) (de_bin opv_add (de_lst (da_cons (de_callTy callv_listL (by rfl) T.n_list bt_list (da_cons (de_var 4) da_nil)) (da_cons (de_callTy callv_listL (by rfl) T.n_list bt_list (da_cons (de_var 5) da_nil)) da_nil))) (de_comp (own := [("k", 7)]) rfl sc__law_deep_well.nd (di_range1 (by rfl) T.n_range (da_cons (de_bin opv_add de_int (de_cal c__law_pick hr (by decide) (by rfl) (da_cons (de_var 0) (da_cons de_int da_nil)))) da_nil)) (blkOk_by (by kernel_rfl)) (by decide) (fun _ _ _ _ _ => (dg_name (i := 7) sc__law_deep_well.nd rfl (by first | exact Or.inl rfl | exact Or.inr rfl))) (fun _ _ _ _ _ => dps_nil) (fun _ _ _ _ _ => (de_loc da_nil)))))
 (dss_cons (ds_if (dt_not (dt_val (de_calG c__law_judged hgd hr (by decide) (by rfl) (da_cons (de_var 0) (da_cons (de_var 1) (da_cons (de_var 2) (da_cons (de_var 3) (da_cons (de_var 6) (da_cons de_bl da_nil)))))))))
 (dss_one (ds_ret de_bl))
 dss_nil)
 (dss_cons (ds_set (i := 8) sc__law_deep_well.nd rfl (by first | exact Or.inl rfl | exact Or.inr rfl) (de_bin opv_add de_int (de_cal c__law_pick hr (by decide) (by rfl) (da_cons (de_var 0) (da_cons (de_bin opv_sub (de_callB callv_len (by rfl) T.n_len bt_len (da_cons (de_var 6) da_nil)) de_int) da_nil)))))
 (dss_cons (ds_expr (de_bm PySem.F.plainAttrs_list PySem.F.slot_list_append PySem.F.type_list_append mtv_append (de_ix (de_var 6) (de_var 8)) (da_cons (de_ix (de_var 4) (de_cal c__law_pick hr (by decide) (by rfl) (da_cons (de_var 0) (da_cons (de_callB callv_len (by rfl) T.n_len bt_len (da_cons (de_var 4) da_nil)) da_nil)))) da_nil)))
 (dss_one (ds_ret (de_calG c__law_judged hgd hr (by decide) (by rfl) (da_cons (de_var 0) (da_cons (de_var 1) (da_cons (de_var 2) (da_cons (de_var 3) (da_cons (de_var 6) (da_cons de_bl da_nil)))))))))))))
theorem sc__law_long_well : FnScope ["source", "alphabet", "cut", "letters", "row", "k", "other", "same", "level", "lacks", "pair", "turn", "due", "some"] ["source"] (defScope s__law_long_well) := C8.fnScope_by (by decide +kernel)
theorem ok__law_long_well {P : Program} {w : World} {K : PySem.W.Frag} {mg : Str → Option Value} {base : Heap} {f : Addr} {fd : FuncData} {cContest : Addr} (F : FunD K "_law_long_well" "_law_long_well" (defArgs s__law_long_well) (defBody s__law_long_well) (defScope s__law_long_well) [] [] f fd) (T : Tx K mg cContest) (c__law_wide : Cal P w K mg base 2 "_law_wide" 3 F__law_wide) (c__law_pick : Cal P w K mg base 1 "_law_pick" 2 F__law_pick) (c__law_same : Cal P w K mg base 1 "_law_same" 2 F__law_same) (c__law_kinds : Cal P w K mg base 2 "_law_kinds" 1 F__law_kinds) (c__law_judged : CalG P w K mg base 6 "_law_judged" 6 F__law_judged) (c__law_stays : Cal P w K mg base 2 "_law_stays" 4 F__law_stays) (c__law_deep_well : CalG P w K mg base 7 "_law_deep_well" 6 F__law_deep_well) :
    FnG P w K mg base 8 f fd ["source"] (spOf K 1 (F__law_long_well)) :=
  fn_okG F sc__law_long_well rfl fun cdv A outer s H E hgd hr =>
 (dss_cons (ds_set (i := 1) sc__law_long_well.nd rfl (by first | exact Or.inl rfl | exact Or.inr rfl) (de_cal c__law_wide hr (by decide) (by rfl) (da_cons (de_var 0) (da_cons de_int (da_cons de_int da_nil)))))
 (dss_cons (ds_set (i := 2) sc__law_long_well.nd rfl (by first | exact Or.inl rfl | exact Or.inr rfl) (de_cal c__law_pick hr (by decide) (by rfl) (da_cons (de_var 0) (da_cons (de_bin opv_sub (de_callB callv_len (by rfl) T.n_len bt_len (da_cons (de_var 1) da_nil)) de_int) da_nil))))
 (dss_cons (ds_set (i := 3) sc__law_long_well.nd rfl (by first | exact Or.inl rfl | exact Or.inr rfl) (de_sl (de_var 1) (do_some (de_var 2)) (do_some (de_bin opv_add (de_bin opv_add (de_var 2) de_int) (de_cal c__law_pick hr (by decide) (by rfl) (da_cons (de_var 0) (da_cons de_int da_nil)))))))
 (dss_cons (ds_set (i := 4) sc__law_long_well.nd rfl (by first | exact Or.inl rfl | exact Or.inr rfl) (de_bm PySem.F.plainAttrs_str PySem.F.slot_str_join PySem.F.type_str_join mtv_join de_str (da_cons (de_comp (own := [("k", 5)]) rfl sc__law_long_well.nd (di_range1 (by rfl) T.n_range (da_cons (de_bin opv_add de_int (de_cal c__law_pick hr (by decide) (by rfl) (da_cons (de_var 0) (da_cons de_int da_nil)))) da_nil)) (blkOk_by (by kernel_rfl)) (by decide) (fun _ _ _ _ _ => (dg_name (i := 5) sc__law_long_well.nd rfl (by first | exact Or.inl rfl | exact Or.inr rfl))) (fun _ _ _ _ _ => dps_nil) (fun _ _ _ _ _ => (de_ix (de_var 3) (de_cal c__law_pick hr (by decide) (by rfl) (da_cons (de_var 0) (da_cons (de_callB callv_len (by rfl) T.n_len bt_len (da_cons (de_var 3) da_nil)) da_nil)))))) da_nil)))
 (dss_cons (ds_set (i := 6) sc__law_long_well.nd rfl (by first | exact Or.inl rfl | exact Or.inr rfl) (de_bm PySem.F.plainAttrs_str PySem.F.slot_str_join PySem.F.type_str_join mtv_join de_str (da_cons (de_comp (own := [("k", 5)]) rfl sc__law_long_well.nd (di_range1 (by rfl) T.n_range (da_cons (de_bin opv_add de_int (de_cal c__law_pick hr (by decide) (by rfl) (da_cons (de_var 0) (da_cons de_int da_nil)))) da_nil)) (blkOk_by (by kernel_rfl)) (by decide) (fun _ _ _ _ _ => (dg_name (i := 5) sc__law_long_well.nd rfl (by first | exact Or.inl rfl | exact Or.inr rfl))) (fun _ _ _ _ _ => dps_nil) (fun _ _ _ _ _ => (de_ix (de_var 3) (de_cal c__law_pick hr (by decide) (by rfl) (da_cons (de_var 0) (da_cons (de_callB callv_len (by rfl) T.n_len bt_len (da_cons (de_var 3) da_nil)) da_nil)))))) da_nil)))
 (dss_cons (ds_set (i := 7) sc__law_long_well.nd rfl (by first | exact Or.inl rfl | exact Or.inr rfl) (de_cal c__law_same hr (by decide) (by rfl) (da_cons (de_var 4) (da_cons (de_var 6) da_nil))))
 (dss_cons (ds_set (i := 8) sc__law_long_well.nd rfl (by first | exact Or.inl rfl | exact Or.inr rfl) (de_cal c__law_same hr (by decide) (by rfl) (da_cons (de_cal c__law_kinds hr (by decide) (by rfl) (da_cons (de_var 4) da_nil)) (da_cons (de_cal c__law_kinds hr (by decide) (by rfl) (da_cons (de_var 6) da_nil)) da_nil))))
 (dss_cons (ds_if (dt_not (dt_val (de_calG c__law_judged hgd hr (by decide) (by rfl) (da_cons (de_var 0) (da_cons (de_var 1) (da_cons (de_var 4) (da_cons (de_var 6) (da_cons (de_lst (da_cons (de_var 7) (da_cons (de_var 8) da_nil))) (da_cons de_bl da_nil)))))))))
 (dss_one (ds_ret de_bl))
 dss_nil)
 (dss_cons (ds_if (dt_cmp (opv_eq (hu64 hr)) (nomark _) (de_callB callv_len (by rfl) T.n_len bt_len (da_cons (de_var 7) da_nil)) de_int)
 (dss_one (ds_ret de_bl))
 dss_nil)
 (dss_cons (ds_setComp (own := [("pair", 10)]) (i := 9) rfl sc__law_long_well.nd rfl rfl (sw_true rfl rfl rfl (by decide +kernel)) (di_list (de_var 7)) (blkOk_by (by kernel_rfl)) (by decide) (fun _ _ _ _ _ => (dg_name (i := 10) sc__law_long_well.nd rfl (by first | exact Or.inl rfl | exact Or.inr rfl))) (fun _ _ _ _ _ => (dps_one (dt_cmp (opv_notin (hu65 hr)) (by rfl) (de_var 10) (de_var 8)))) (fun _ _ _ _ _ => (de_var 10)))
 (dss_cons (ds_if (dt_cmp opv_gt (nomark _) (de_callB callv_len (by rfl) T.n_len bt_len (da_cons (de_var 9) da_nil)) de_int)
 (dss_cons (ds_set (i := 10) sc__law_long_well.nd rfl (by first | exact Or.inl rfl | exact Or.inr rfl) (de_ix (de_var 9) (de_cal c__law_pick hr (by decide) (by rfl) (da_cons (de_var 0) (da_cons (de_callB callv_len (by rfl) T.n_len bt_len (da_cons (de_var 9) da_nil)) da_nil)))))
 (dss_cons (ds_if (dt_not (dt_val (de_calG c__law_judged hgd hr (by decide) (by rfl) (da_cons (de_var 0) (da_cons (de_var 1) (da_cons (de_var 4) (da_cons (de_var 6) (da_cons (de_lst (da_cons (de_var 7) (da_cons (de_lst (da_cons (de_var 10) da_nil)) da_nil))) (da_cons de_bl da_nil)))))))))
 (dss_one (ds_ret de_bl))
 dss_nil)
 (dss_one (ds_if (dt_not (dt_val (de_calG c__law_judged hgd hr (by decide) (by rfl) (da_cons (de_var 0) (da_cons (de_var 1) (da_cons (de_var 4) (da_cons (de_var 6) (da_cons (de_lst (da_cons (de_var 7) (da_cons (de_bin opv_add (de_var 8) (de_lst (da_cons (de_var 10) da_nil))) da_nil))) (da_cons de_bl da_nil)))))))))
 (dss_one (ds_ret de_bl))
 dss_nil))))
 dss_nil)
 (dss_cons (ds_for PassesOwn.never rfl (di_range1 (by rfl) T.n_range (da_cons de_int da_nil)) (dg_name (i := 11) sc__law_long_well.nd rfl (by first | exact Or.inl rfl | exact Or.inr rfl))
 (dss_cons (ds_if (dt_cmp opv_gt (nomark _) (de_callB callv_len (by rfl) T.n_len bt_len (da_cons (de_var 8) da_nil)) de_int)
 (dss_cons (ds_set (i := 10) sc__law_long_well.nd rfl (by first | exact Or.inl rfl | exact Or.inr rfl) (de_ix (de_var 8) (de_cal c__law_pick hr (by decide) (by rfl) (da_cons (de_var 0) (da_cons (de_callB callv_len (by rfl) T.n_len bt_len (da_cons (de_var 8) da_nil)) da_nil)))))
 (dss_cons (ds_set (i := 12) sc__law_long_well.nd rfl (by first | exact Or.inl rfl | exact Or.inr rfl) (de_cal c__law_stays hr (by decide) (by rfl) (da_cons (de_var 4) (da_cons (de_var 6) (da_cons (de_var 8) (da_cons (de_var 10) da_nil))))))
 (dss_one (ds_if (dt_not (dt_val (de_calG c__law_judged hgd hr (by decide) (by rfl) (da_cons (de_var 0) (da_cons (de_var 1) (da_cons (de_var 4) (da_cons (de_var 6) (da_cons (de_lst (da_cons (de_var 7) (da_cons (de_var 8) (da_cons (de_lst (da_cons (de_var 10) da_nil)) da_nil)))) (da_cons (de_var 12) da_nil)))))))))
 (dss_one (ds_ret de_bl))
 dss_nil))))
 dss_nil)
 (dss_cons (ds_setComp (own := [("pair", 10)]) (i := 13) rfl sc__law_long_well.nd rfl rfl (sw_true rfl rfl rfl (by decide +kernel)) (di_list (de_var 7)) (blkOk_by (by kernel_rfl)) (by decide) (fun _ _ _ _ _ => (dg_name (i := 10) sc__law_long_well.nd rfl (by first | exact Or.inl rfl | exact Or.inr rfl))) (fun _ _ _ _ _ => (dps_one (dt_cmp opv_gt (nomark _) (de_cal c__law_pick hr (by decide) (by rfl) (da_cons (de_var 0) (da_cons de_int da_nil))) de_int))) (fun _ _ _ _ _ => (de_var 10)))
 (dss_cons (ds_set (i := 10) sc__law_long_well.nd rfl (by first | exact Or.inl rfl | exact Or.inr rfl) (de_ix (de_var 7) (de_cal c__law_pick hr (by decide) (by rfl) (da_cons (de_var 0) (da_cons (de_callB callv_len (by rfl) T.n_len bt_len (da_cons (de_var 7) da_nil)) da_nil)))))
 (dss_one (ds_if (dt_not (dt_val (de_calG c__law_judged hgd hr (by decide) (by rfl) (da_cons (de_var 0) (da_cons (de_var 1) (da_cons (de_var 4) (da_cons (de_var 6) (da_cons (de_lst (da_cons (de_var 13) (da_cons (de_lst (da_cons (de_var 10) da_nil)) da_nil))) (da_cons (de_cal c__law_stays hr (by decide) (by rfl) (da_cons (de_var 4) (da_cons (de_var 6) (da_cons (de_var 13) (da_cons (de_var 10) da_nil))))) da_nil)))))))))
 (dss_one (ds_ret de_bl))
 dss_nil))))))
 (dss_one (ds_ret (de_calG c__law_deep_well hgd hr (by decide) (by rfl) (da_cons (de_var 0) (da_cons (de_var 1) (da_cons (de_var 4) (da_cons (de_var 6) (da_cons (de_var 7) (da_cons (de_var 8) da_nil)))))))))))))))))))))
theorem sc_law : FnScope ["script"] ["script"] (defScope s_law) := C8.fnScope_by (by decide +kernel)
theorem ok_law {P : Program} {w : World} {K : PySem.W.Frag} {mg : Str → Option Value} {base : Heap} {f : Addr} {fd : FuncData} {cContest : Addr} (F : FunD K "law" "law" (defArgs s_law) (defBody s_law) (defScope s_law) [] [] f fd) (T : Tx K mg cContest) (c__law_single_well : CalG P w K mg base 8 "_law_single_well" 1 (F__law_single_well cContest)) (c__law_source : Cal P w K mg base 1 "_law_source" 2 F__law_source) (c__law_long_well : CalG P w K mg base 8 "_law_long_well" 1 F__law_long_well) :
    FnG P w K mg base 9 f fd ["script"] (spOf K 1 (F_law cContest)) :=
  fn_okG F sc_law rfl fun cdv A outer s H E hgd hr =>
 (dss_cons (ds_if (dt_not (dt_val (de_calG c__law_single_well hgd hr (by decide) (by rfl) (da_cons (de_cal c__law_source hr (by decide) (by rfl) (da_cons (de_var 0) (da_cons de_int da_nil))) da_nil))))
 (dss_one (ds_ret de_bl))
 dss_nil)
 (dss_one (ds_ret (de_calG c__law_long_well hgd hr (by decide) (by rfl) (da_cons (de_cal c__law_source hr (by decide) (by rfl) (da_cons (de_var 0) (da_cons de_int da_nil))) da_nil)))))
end Lw

set_option Elab.async false
set_option linter.all false
set_option maxRecDepth 100000
namespace Lw
open PySem PySem.Spec L2 ML
theorem math (cContest : Addr) (ns : List Int) (hl : ns.length ≤ 63) (hb : ∀ z ∈ ns, Builtin.Int.intBits z ≤ 1048576) : F_law cContest [.scr ns] [] = .ok (.bl true) [] := by
  have sr : ∀ (B : List PV) (a b : Int), 0 ≤ a → 0 ≤ b → b < 2147483629 → Sr (B ++ [.lst [.int a, .int b, .int 0]]) B.length 0 := fun B a b h1 h2 h3 =>
    ⟨a, b, 0, by rw [List.getElem?_append_right (Nat.le_refl _), Nat.sub_self]; rfl, h1, h2, by
      have : (2 : Int) ^ 32 = 4294967296 := by decide
      omega, Int.le_refl _, Int.le_refl _⟩
  obtain ⟨a, b, a0, b0, b1, e1⟩ := e_source (ns := ns) 0 (by omega) hl hb []
  have S1 := sr [] a b a0 b0 b1
  obtain ⟨q, e2, S2⟩ := e_single_well (C := cContest) S1 (by omega)
  obtain ⟨c, d, c0, d0, d1, e3⟩ := e_source (ns := ns) 1 (by omega) hl hb (([] ++ [PV.lst [.int a, .int b, .int 0]]).set 0 q)
  have S3 := sr (([] ++ [PV.lst [.int a, .int b, .int 0]]).set 0 q) c d c0 d0 d1
  obtain ⟨q2, e4⟩ := e_long_well S3 (by omega)
  unfold F_law g_law
  generalize F__law_single_well cContest = FS at *
  generalize F__law_long_well = FL at *
  generalize F__law_source = FO at *
  have s1 : mIf (mNot (mTest (mApp 1 FS (mCons (mApp 2 FO (mCons (gv 0) (mCons (kv (.int 0)) mNil))) mNil)))) (mRet (kv (.bl false))) mSkip [some (.scr ns)] [] = .ok (.nx, [some (.scr ns)]) (([] ++ [PV.lst [.int a, .int b, .int 0]]).set 0 q) :=
    (if_f (not_ok (b := true) (test_ok (app_ok (args1 (app_ok (args2 rfl rfl) e1)) e2)))).trans rfl
  exact run_retm ((seq_nx s1).trans (ret_ok (app_ok (args1 (app_ok (args2 rfl rfl) e3)) e4))) (fin_lf (mh := []) rfl)
end Lw

set_option Elab.async false
set_option linter.all false
set_option maxRecDepth 100000
set_option maxHeartbeats 0
namespace Lw
open PySem PySem.Spec L2 ML
def d_is_integer : He.DefD := ⟨("is_integer", none), "is_integer", "is_integer", defArgs s_is_integer, defBody s_is_integer, defScope s_is_integer, [], []⟩
def d_is_listed : He.DefD := ⟨("is_listed", none), "is_listed", "is_listed", defArgs s_is_listed, defBody s_is_listed, defScope s_is_listed, [], []⟩
def d_is_alphabet : He.DefD := ⟨("is_alphabet", none), "is_alphabet", "is_alphabet", defArgs s_is_alphabet, defBody s_is_alphabet, defScope s_is_alphabet, [], []⟩
def d_check_alphabet : He.DefD := ⟨("check_alphabet", none), "check_alphabet", "check_alphabet", defArgs s_check_alphabet, defBody s_check_alphabet, defScope s_check_alphabet, [], []⟩
def d_check_row : He.DefD := ⟨("check_row", none), "check_row", "check_row", defArgs s_check_row, defBody s_check_row, defScope s_check_row, [], []⟩
def d_check_place : He.DefD := ⟨("check_place", none), "check_place", "check_place", defArgs s_check_place, defBody s_check_place, defScope s_check_place, [], []⟩
def d_check_contest : He.DefD := ⟨("check_contest", none), "check_contest", "check_contest", defArgs s_check_contest, defBody s_check_contest, defScope s_check_contest, [], []⟩
def d_exchanged_table : He.DefD := ⟨("exchanged_table", none), "exchanged_table", "exchanged_table", defArgs s_exchanged_table, defBody s_exchanged_table, defScope s_exchanged_table, [], []⟩
def d_places_beyond : He.DefD := ⟨("places_beyond", none), "places_beyond", "places_beyond", defArgs s_places_beyond, defBody s_places_beyond, defScope s_places_beyond, [], []⟩
def d_barred_places : He.DefD := ⟨("barred_places", none), "barred_places", "barred_places", defArgs s_barred_places, defBody s_barred_places, defScope s_barred_places, [], []⟩
def d_unanswered : He.DefD := ⟨("unanswered", none), "unanswered", "unanswered", defArgs s_unanswered, defBody s_unanswered, defScope s_unanswered, [], []⟩
def d_lost_move : He.DefD := ⟨("lost_move", none), "lost_move", "lost_move", defArgs s_lost_move, defBody s_lost_move, defScope s_lost_move, [], []⟩
def d_next_table : He.DefD := ⟨("next_table", none), "next_table", "next_table", defArgs s_next_table, defBody s_next_table, defScope s_next_table, [], []⟩
def d_level_tables : He.DefD := ⟨("level_tables", none), "level_tables", "level_tables", defArgs s_level_tables, defBody s_level_tables, defScope s_level_tables, [], []⟩
def d_listed_level : He.DefD := ⟨("listed_level", none), "listed_level", "listed_level", defArgs s_listed_level, defBody s_listed_level, defScope s_listed_level, [], []⟩
def d_table_height : He.DefD := ⟨("table_height", none), "table_height", "table_height", defArgs s_table_height, defBody s_table_height, defScope s_table_height, [], []⟩
def d_Contest___init__ : He.DefD := ⟨("Contest", some "__init__"), "__init__", "Contest.__init__", defArgs s_Contest___init__, defBody s_Contest___init__, defScope s_Contest___init__, [], []⟩
def d_Contest_parting_height : He.DefD := ⟨("Contest", some "parting_height"), "parting_height", "Contest.parting_height", defArgs s_Contest_parting_height, defBody s_Contest_parting_height, defScope s_Contest_parting_height, [], []⟩
def d_table_of_level : He.DefD := ⟨("table_of_level", none), "table_of_level", "table_of_level", defArgs s_table_of_level, defBody s_table_of_level, defScope s_table_of_level, [], []⟩
def d_is_answered : He.DefD := ⟨("is_answered", none), "is_answered", "is_answered", defArgs s_is_answered, defBody s_is_answered, defScope s_is_answered, [], []⟩
def d_judge_levels : He.DefD := ⟨("judge_levels", none), "judge_levels", "judge_levels", defArgs s_judge_levels, defBody s_judge_levels, defScope s_judge_levels, [], []⟩
def d__law_source : He.DefD := ⟨("_law_source", none), "_law_source", "_law_source", defArgs s__law_source, defBody s__law_source, defScope s__law_source, [], []⟩
def d__law_pick : He.DefD := ⟨("_law_pick", none), "_law_pick", "_law_pick", defArgs s__law_pick, defBody s__law_pick, defScope s__law_pick, [], []⟩
def d__law_is_number : He.DefD := ⟨("_law_is_number", none), "_law_is_number", "_law_is_number", defArgs s__law_is_number, defBody s__law_is_number, defScope s__law_is_number, [], []⟩
def d__law_wide : He.DefD := ⟨("_law_wide", none), "_law_wide", "_law_wide", defArgs s__law_wide, defBody s__law_wide, defScope s__law_wide, [], []⟩
def d__law_turned_row : He.DefD := ⟨("_law_turned_row", none), "_law_turned_row", "_law_turned_row", defArgs s__law_turned_row, defBody s__law_turned_row, defScope s__law_turned_row, [], []⟩
def d__law_close : He.DefD := ⟨("_law_close", none), "_law_close", "_law_close", defArgs s__law_close, defBody s__law_close, defScope s__law_close, [], []⟩
def d__law_single_levels : He.DefD := ⟨("_law_single_levels", none), "_law_single_levels", "_law_single_levels", defArgs s__law_single_levels, defBody s__law_single_levels, defScope s__law_single_levels, [], []⟩
def d__law_is_level : He.DefD := ⟨("_law_is_level", none), "_law_is_level", "_law_is_level", defArgs s__law_is_level, defBody s__law_is_level, defScope s__law_is_level, [], []⟩
def d__law_is_levels : He.DefD := ⟨("_law_is_levels", none), "_law_is_levels", "_law_is_levels", defArgs s__law_is_levels, defBody s__law_is_levels, defScope s__law_is_levels, [], []⟩
def d__law_judged : He.DefD := ⟨("_law_judged", none), "_law_judged", "_law_judged", defArgs s__law_judged, defBody s__law_judged, defScope s__law_judged, [], []⟩
def d__law_height_of : He.DefD := ⟨("_law_height_of", none), "_law_height_of", "_law_height_of", defArgs s__law_height_of, defBody s__law_height_of, defScope s__law_height_of, [], []⟩
def d__law_heights_well : He.DefD := ⟨("_law_heights_well", none), "_law_heights_well", "_law_heights_well", defArgs s__law_heights_well, defBody s__law_heights_well, defScope s__law_heights_well, [], []⟩
def d__law_single_well : He.DefD := ⟨("_law_single_well", none), "_law_single_well", "_law_single_well", defArgs s__law_single_well, defBody s__law_single_well, defScope s__law_single_well, [], []⟩
def d__law_comings : He.DefD := ⟨("_law_comings", none), "_law_comings", "_law_comings", defArgs s__law_comings, defBody s__law_comings, defScope s__law_comings, [], []⟩
def d__law_kinds : He.DefD := ⟨("_law_kinds", none), "_law_kinds", "_law_kinds", defArgs s__law_kinds, defBody s__law_kinds, defScope s__law_kinds, [], []⟩
def d__law_same : He.DefD := ⟨("_law_same", none), "_law_same", "_law_same", defArgs s__law_same, defBody s__law_same, defScope s__law_same, [], []⟩
def d__law_answered : He.DefD := ⟨("_law_answered", none), "_law_answered", "_law_answered", defArgs s__law_answered, defBody s__law_answered, defScope s__law_answered, [], []⟩
def d__law_stays : He.DefD := ⟨("_law_stays", none), "_law_stays", "_law_stays", defArgs s__law_stays, defBody s__law_stays, defScope s__law_stays, [], []⟩
def d__law_deep_well : He.DefD := ⟨("_law_deep_well", none), "_law_deep_well", "_law_deep_well", defArgs s__law_deep_well, defBody s__law_deep_well, defScope s__law_deep_well, [], []⟩
def d__law_long_well : He.DefD := ⟨("_law_long_well", none), "_law_long_well", "_law_long_well", defArgs s__law_long_well, defBody s__law_long_well, defScope s__law_long_well, [], []⟩
def d_law : He.DefD := ⟨("law", none), "law", "law", defArgs s_law, defBody s_law, defScope s_law, [], []⟩
def fn : List He.DefD := [d_is_integer, d_is_listed, d_is_alphabet, d_check_alphabet, d_check_row, d_check_place, d_check_contest, d_exchanged_table, d_places_beyond, d_barred_places, d_unanswered, d_lost_move, d_next_table, d_level_tables, d_listed_level, d_table_height, d_Contest___init__, d_Contest_parting_height, d_table_of_level, d_is_answered, d_judge_levels, d__law_source, d__law_pick, d__law_is_number, d__law_wide, d__law_turned_row, d__law_close, d__law_single_levels, d__law_is_level, d__law_is_levels, d__law_judged, d__law_height_of, d__law_heights_well, d__law_single_well, d__law_comings, d__law_kinds, d__law_same, d__law_answered, d__law_stays, d__law_deep_well, d__law_long_well, d_law]
def fa : List He.Fa := [.glo "is_integer", .glo "is_listed", .glo "is_alphabet", .glo "check_alphabet", .glo "check_row", .glo "check_place", .glo "check_contest", .glo "exchanged_table", .glo "places_beyond", .glo "barred_places", .glo "unanswered", .glo "lost_move", .glo "next_table", .glo "level_tables", .glo "listed_level", .glo "table_height", .glo "table_of_level", .glo "is_answered", .glo "judge_levels", .glo "_law_source", .glo "_law_pick", .glo "_law_is_number", .glo "_law_wide", .glo "_law_turned_row", .glo "_law_close", .glo "_law_single_levels", .glo "_law_is_level", .glo "_law_is_levels", .glo "_law_judged", .glo "_law_height_of", .glo "_law_heights_well", .glo "_law_single_well", .glo "_law_comings", .glo "_law_kinds", .glo "_law_same", .glo "_law_answered", .glo "_law_stays", .glo "_law_deep_well", .glo "_law_long_well", .glo "law", .free "abs", .free "all", .free "any", .free "bool", .free "enumerate", .free "int", .free "isinstance", .free "len", .free "list", .free "min", .free "range", .free "repr", .free "reversed", .free "sorted", .free "str", .free "tuple", .str "LETTERS" "abcdefgh", .int "LONGEST" 200, .int "LONGEST_CONTEST" 12, .glo "Contest", .cls "Contest", .noat "Contest" "alphabet", .noat "Contest" "row", .noat "Contest" "other", .noat "Contest" "tables", .noat "Contest" "levels", .mkr "Contest", .meth "Contest" "parting_height"]
abbrev R : PySem.W.OpenRow := PySem.W.OpenLaw.row PySem.Challenge.rw_saidhere_k76_whole_levels_of_long_rows
abbrev hk : PySem.W.Hook := He.hookD 4 fa fn
def ob (s : PySem.W.SharedT) : He.AlD := He.obsDG 4 fa fn (HandSHeadRun.getT s)
theorem ob_eq (s : PySem.W.SharedT) : ob s = hk.obs s.abs := He.obsDG_eq (HandSHeadRun.getT_eq s)
def nm0 : List Str := ["_wall", "SaidError", "WrongThing", "BadAlphabet", "BadPlace", "BadRow", "TooLong", "LETTERS", "LONGEST", "is_integer", "is_listed", "is_alphabet", "check_alphabet", "check_row", "check_place"]
def nm1 : List Str := ["LONGEST_CONTEST", "check_contest", "exchanged_table", "places_beyond", "barred_places", "unanswered", "lost_move", "next_table", "level_tables", "listed_level", "table_height", "Contest", "table_of_level", "is_answered", "judge_levels"]
def nm2 : List Str := ["_law_source", "_law_pick", "_law_is_number", "_law_wide", "_law_turned_row", "_law_close", "_law_single_levels", "_law_is_level", "_law_is_levels", "_law_judged", "_law_height_of", "_law_heights_well", "_law_single_well", "_law_comings", "_law_kinds"]
def nm3 : List Str := ["_law_same", "_law_answered", "_law_stays", "_law_deep_well", "_law_long_well"]
def nms : List Str := nm0 ++ nm1 ++ nm2 ++ nm3
theorem run (w : World) : HandSHeadRun.RunEq R (PySem.W.view R.prog [54]) hk ob 4000 nms w := by
  intro os
  kernel_rfl
theorem facts {P : Program} {w : World} {K : PySem.W.Frag} {h : Heap} {mg : Str → Option Value} {f : Addr} (X : K.In h) (G : h.Ns mainGlobals mg) (hfa : mg ("law" : Str) = some (.ref f)) (c : He.SaysD fa fn K) :
    ∃ fd : FuncData, (∀ (s : Shared) (v : Value), BindsTo s fd ⟨[v], []⟩ [("script", v)]) ∧ ∀ base : Heap, K.In base → base.Ns mainGlobals mg → FnG P w K mg base 9 f fd ["script"] (spOf K 1 (F_law (He.ga K "Contest"))) := by
  have T : Tx K mg (He.ga K "Contest") := ⟨He.free_ok X G (c.fact 40 (f := .free "abs") rfl),
    He.free_ok X G (c.fact 41 (f := .free "all") rfl),
    He.free_ok X G (c.fact 42 (f := .free "any") rfl),
    He.free_ok X G (c.fact 43 (f := .free "bool") rfl),
    He.free_ok X G (c.fact 44 (f := .free "enumerate") rfl),
    He.free_ok X G (c.fact 45 (f := .free "int") rfl),
    He.free_ok X G (c.fact 46 (f := .free "isinstance") rfl),
    He.free_ok X G (c.fact 47 (f := .free "len") rfl),
    He.free_ok X G (c.fact 48 (f := .free "list") rfl),
    He.free_ok X G (c.fact 49 (f := .free "min") rfl),
    He.free_ok X G (c.fact 50 (f := .free "range") rfl),
    He.free_ok X G (c.fact 51 (f := .free "repr") rfl),
    He.free_ok X G (c.fact 52 (f := .free "reversed") rfl),
    He.free_ok X G (c.fact 53 (f := .free "sorted") rfl),
    He.free_ok X G (c.fact 54 (f := .free "str") rfl),
    He.free_ok X G (c.fact 55 (f := .free "tuple") rfl),
    He.str_ok X G (c.fact 56 (f := .str "LETTERS" "abcdefgh") rfl),
    He.int_ok X G (c.fact 57 (f := .int "LONGEST" 200) rfl),
    He.int_ok X G (c.fact 58 (f := .int "LONGEST_CONTEST" 12) rfl),
    He.glo_ok X G (c.fact 59 (f := .glo "Contest") rfl),
    He.cls_ok (c.fact 60 (f := .cls "Contest") rfl),
    He.noat_ok (c.fact 61 (f := .noat "Contest" "alphabet") rfl),
    He.noat_ok (c.fact 62 (f := .noat "Contest" "row") rfl),
    He.noat_ok (c.fact 63 (f := .noat "Contest" "other") rfl),
    He.noat_ok (c.fact 64 (f := .noat "Contest" "tables") rfl),
    He.noat_ok (c.fact 65 (f := .noat "Contest" "levels") rfl)⟩
  obtain ⟨fd, F⟩ := c.def_ 41 (d := d_law) rfl
  have e := hfa.symm.trans (He.glo_ok X G (c.fact 39 (f := .glo "law") rfl))
  cases e
  have b := FunD.bindsA (ps := ["script"]) F fun _ _ _ _ _ _ us hl => match us, hl with | [_], _ => rfl
  refine ⟨fd, fun s v => b s [v] rfl, fun base _ _ => ?_⟩
  obtain ⟨fd_is_integer, F_is_integerd⟩ := c.def_ 0 (d := d_is_integer) rfl
  have c_is_integer : Cal P w K mg base 1 "is_integer" 3 F_is_integer := ⟨_, fd_is_integer, _, ok_is_integer (P := P) (w := w) (base := base) F_is_integerd T, He.glo_ok X G (c.fact 0 (f := .glo "is_integer") rfl), F_is_integerd.kp, F_is_integerd.bindsN fun _ _ _ _ _ _ us hl => match us, hl with | [_, _, _], _ => rfl⟩
  obtain ⟨fd_is_listed, F_is_listedd⟩ := c.def_ 1 (d := d_is_listed) rfl
  have c_is_listed : Cal P w K mg base 1 "is_listed" 1 F_is_listed := ⟨_, fd_is_listed, _, ok_is_listed (P := P) (w := w) (base := base) F_is_listedd T, He.glo_ok X G (c.fact 1 (f := .glo "is_listed") rfl), F_is_listedd.kp, F_is_listedd.bindsN fun _ _ _ _ _ _ us hl => match us, hl with | [_], _ => rfl⟩
  obtain ⟨fd_is_alphabet, F_is_alphabetd⟩ := c.def_ 2 (d := d_is_alphabet) rfl
  have c_is_alphabet : Cal P w K mg base 1 "is_alphabet" 1 F_is_alphabet := ⟨_, fd_is_alphabet, _, ok_is_alphabet (P := P) (w := w) (base := base) F_is_alphabetd T, He.glo_ok X G (c.fact 2 (f := .glo "is_alphabet") rfl), F_is_alphabetd.kp, F_is_alphabetd.bindsN fun _ _ _ _ _ _ us hl => match us, hl with | [_], _ => rfl⟩
  obtain ⟨fd_check_alphabet, F_check_alphabetd⟩ := c.def_ 3 (d := d_check_alphabet) rfl
  have c_check_alphabet : Cal P w K mg base 2 "check_alphabet" 1 F_check_alphabet := ⟨_, fd_check_alphabet, _, ok_check_alphabet (P := P) (w := w) (base := base) F_check_alphabetd T c_is_alphabet, He.glo_ok X G (c.fact 3 (f := .glo "check_alphabet") rfl), F_check_alphabetd.kp, F_check_alphabetd.bindsN fun _ _ _ _ _ _ us hl => match us, hl with | [_], _ => rfl⟩
  obtain ⟨fd_check_row, F_check_rowd⟩ := c.def_ 4 (d := d_check_row) rfl
  have c_check_row : Cal P w K mg base 1 "check_row" 2 F_check_row := ⟨_, fd_check_row, _, ok_check_row (P := P) (w := w) (base := base) F_check_rowd T, He.glo_ok X G (c.fact 4 (f := .glo "check_row") rfl), F_check_rowd.kp, F_check_rowd.bindsN fun _ _ _ _ _ _ us hl => match us, hl with | [_, _], _ => rfl⟩
  obtain ⟨fd_check_place, F_check_placed⟩ := c.def_ 5 (d := d_check_place) rfl
  have c_check_place : Cal P w K mg base 2 "check_place" 2 F_check_place := ⟨_, fd_check_place, _, ok_check_place (P := P) (w := w) (base := base) F_check_placed T c_is_integer, He.glo_ok X G (c.fact 5 (f := .glo "check_place") rfl), F_check_placed.kp, F_check_placed.bindsN fun _ _ _ _ _ _ us hl => match us, hl with | [_, _], _ => rfl⟩
  obtain ⟨fd_check_contest, F_check_contestd⟩ := c.def_ 6 (d := d_check_contest) rfl
  have c_check_contest : Cal P w K mg base 3 "check_contest" 3 F_check_contest := ⟨_, fd_check_contest, _, ok_check_contest (P := P) (w := w) (base := base) F_check_contestd T c_check_alphabet c_check_row, He.glo_ok X G (c.fact 6 (f := .glo "check_contest") rfl), F_check_contestd.kp, F_check_contestd.bindsN fun _ _ _ _ _ _ us hl => match us, hl with | [_, _, _], _ => rfl⟩
  obtain ⟨fd_exchanged_table, F_exchanged_tabled⟩ := c.def_ 7 (d := d_exchanged_table) rfl
  have c_exchanged_table : Cal P w K mg base 1 "exchanged_table" 2 F_exchanged_table := ⟨_, fd_exchanged_table, _, ok_exchanged_table (P := P) (w := w) (base := base) F_exchanged_tabled T, He.glo_ok X G (c.fact 7 (f := .glo "exchanged_table") rfl), F_exchanged_tabled.kp, F_exchanged_tabled.bindsN fun _ _ _ _ _ _ us hl => match us, hl with | [_, _], _ => rfl⟩
  obtain ⟨fd_places_beyond, F_places_beyondd⟩ := c.def_ 8 (d := d_places_beyond) rfl
  have c_places_beyond : Cal P w K mg base 1 "places_beyond" 3 F_places_beyond := ⟨_, fd_places_beyond, _, ok_places_beyond (P := P) (w := w) (base := base) F_places_beyondd T, He.glo_ok X G (c.fact 8 (f := .glo "places_beyond") rfl), F_places_beyondd.kp, F_places_beyondd.bindsN fun _ _ _ _ _ _ us hl => match us, hl with | [_, _, _], _ => rfl⟩
  obtain ⟨fd_barred_places, F_barred_placesd⟩ := c.def_ 9 (d := d_barred_places) rfl
  have c_barred_places : Cal P w K mg base 1 "barred_places" 3 F_barred_places := ⟨_, fd_barred_places, _, ok_barred_places (P := P) (w := w) (base := base) F_barred_placesd T, He.glo_ok X G (c.fact 9 (f := .glo "barred_places") rfl), F_barred_placesd.kp, F_barred_placesd.bindsN fun _ _ _ _ _ _ us hl => match us, hl with | [_, _, _], _ => rfl⟩
  obtain ⟨fd_unanswered, F_unansweredd⟩ := c.def_ 10 (d := d_unanswered) rfl
  have c_unanswered : Cal P w K mg base 2 "unanswered" 3 F_unanswered := ⟨_, fd_unanswered, _, ok_unanswered (P := P) (w := w) (base := base) F_unansweredd T c_barred_places, He.glo_ok X G (c.fact 10 (f := .glo "unanswered") rfl), F_unansweredd.kp, F_unansweredd.bindsN fun _ _ _ _ _ _ us hl => match us, hl with | [_, _, _], _ => rfl⟩
  obtain ⟨fd_lost_move, F_lost_moved⟩ := c.def_ 11 (d := d_lost_move) rfl
  have c_lost_move : Cal P w K mg base 3 "lost_move" 4 F_lost_move := ⟨_, fd_lost_move, _, ok_lost_move (P := P) (w := w) (base := base) F_lost_moved T c_places_beyond c_unanswered, He.glo_ok X G (c.fact 11 (f := .glo "lost_move") rfl), F_lost_moved.kp, F_lost_moved.bindsN fun _ _ _ _ _ _ us hl => match us, hl with | [_, _, _, _], _ => rfl⟩
  obtain ⟨fd_next_table, F_next_tabled⟩ := c.def_ 12 (d := d_next_table) rfl
  have c_next_table : Cal P w K mg base 4 "next_table" 2 F_next_table := ⟨_, fd_next_table, _, ok_next_table (P := P) (w := w) (base := base) F_next_tabled T c_lost_move, He.glo_ok X G (c.fact 12 (f := .glo "next_table") rfl), F_next_tabled.kp, F_next_tabled.bindsN fun _ _ _ _ _ _ us hl => match us, hl with | [_, _], _ => rfl⟩
  obtain ⟨fd_level_tables, F_level_tablesd⟩ := c.def_ 13 (d := d_level_tables) rfl
  have c_level_tables : Cal P w K mg base 5 "level_tables" 2 F_level_tables := ⟨_, fd_level_tables, _, ok_level_tables (P := P) (w := w) (base := base) F_level_tablesd T c_exchanged_table c_next_table, He.glo_ok X G (c.fact 13 (f := .glo "level_tables") rfl), F_level_tablesd.kp, F_level_tablesd.bindsN fun _ _ _ _ _ _ us hl => match us, hl with | [_, _], _ => rfl⟩
  obtain ⟨fd_listed_level, F_listed_leveld⟩ := c.def_ 14 (d := d_listed_level) rfl
  have c_listed_level : Cal P w K mg base 1 "listed_level" 1 F_listed_level := ⟨_, fd_listed_level, _, ok_listed_level (P := P) (w := w) (base := base) F_listed_leveld T, He.glo_ok X G (c.fact 14 (f := .glo "listed_level") rfl), F_listed_leveld.kp, F_listed_leveld.bindsN fun _ _ _ _ _ _ us hl => match us, hl with | [_], _ => rfl⟩
  obtain ⟨fd_table_height, F_table_heightd⟩ := c.def_ 15 (d := d_table_height) rfl
  have c_table_height : Cal P w K mg base 1 "table_height" 3 F_table_height := ⟨_, fd_table_height, _, ok_table_height (P := P) (w := w) (base := base) F_table_heightd T, He.glo_ok X G (c.fact 15 (f := .glo "table_height") rfl), F_table_heightd.kp, F_table_heightd.bindsN fun _ _ _ _ _ _ us hl => match us, hl with | [_, _, _], _ => rfl⟩
  obtain ⟨fd_Contest___init__, F_Contest___init__d⟩ := c.def_ 16 (d := d_Contest___init__) rfl
  have w_Contest : New P w K mg base 6 "Contest" (He.ga K "Contest") 4 (F_Contest___init__ (He.ga K "Contest")) := ⟨_, fd_Contest___init__, _, He.mkr_ok (c.fact 66 (f := .mkr "Contest") rfl), ok_Contest___init__ (P := P) (w := w) (base := base) F_Contest___init__d T c_check_contest c_level_tables c_listed_level, T.g_Contest, F_Contest___init__d.bindsN fun _ _ _ _ _ _ us hl => match us, hl with | [_, _, _, _], _ => rfl⟩
  obtain ⟨fd_Contest_parting_height, F_Contest_parting_heightd⟩ := c.def_ 17 (d := d_Contest_parting_height) rfl
  have m_Contest_parting_height : Mth P w K mg base 3 (He.ga K "Contest") "parting_height" 3 (F_Contest_parting_height (He.ga K "Contest")) := ⟨_, fd_Contest_parting_height, _, T.k_Contest, He.meth_ok (c.fact 67 (f := .meth "Contest" "parting_height") rfl), ok_Contest_parting_height (P := P) (w := w) (base := base) F_Contest_parting_heightd T c_check_place c_table_height, F_Contest_parting_heightd.bindsN fun _ _ _ _ _ _ us hl => match us, hl with | [_, _, _], _ => rfl⟩
  obtain ⟨fd_table_of_level, F_table_of_leveld⟩ := c.def_ 18 (d := d_table_of_level) rfl
  have c_table_of_level : Cal P w K mg base 2 "table_of_level" 3 F_table_of_level := ⟨_, fd_table_of_level, _, ok_table_of_level (P := P) (w := w) (base := base) F_table_of_leveld T c_is_listed c_is_integer, He.glo_ok X G (c.fact 16 (f := .glo "table_of_level") rfl), F_table_of_leveld.kp, F_table_of_leveld.bindsN fun _ _ _ _ _ _ us hl => match us, hl with | [_, _, _], _ => rfl⟩
  obtain ⟨fd_is_answered, F_is_answeredd⟩ := c.def_ 19 (d := d_is_answered) rfl
  have c_is_answered : Cal P w K mg base 4 "is_answered" 3 F_is_answered := ⟨_, fd_is_answered, _, ok_is_answered (P := P) (w := w) (base := base) F_is_answeredd T c_exchanged_table c_lost_move, He.glo_ok X G (c.fact 17 (f := .glo "is_answered") rfl), F_is_answeredd.kp, F_is_answeredd.bindsN fun _ _ _ _ _ _ us hl => match us, hl with | [_, _, _], _ => rfl⟩
  obtain ⟨fd_judge_levels, F_judge_levelsd⟩ := c.def_ 20 (d := d_judge_levels) rfl
  have c_judge_levels : Cal P w K mg base 5 "judge_levels" 4 F_judge_levels := ⟨_, fd_judge_levels, _, ok_judge_levels (P := P) (w := w) (base := base) F_judge_levelsd T c_check_contest c_is_listed c_table_of_level c_is_answered, He.glo_ok X G (c.fact 18 (f := .glo "judge_levels") rfl), F_judge_levelsd.kp, F_judge_levelsd.bindsN fun _ _ _ _ _ _ us hl => match us, hl with | [_, _, _, _], _ => rfl⟩
  obtain ⟨fd__law_source, F__law_sourced⟩ := c.def_ 21 (d := d__law_source) rfl
  have c__law_source : Cal P w K mg base 1 "_law_source" 2 F__law_source := ⟨_, fd__law_source, _, ok__law_source (P := P) (w := w) (base := base) F__law_sourced T, He.glo_ok X G (c.fact 19 (f := .glo "_law_source") rfl), F__law_sourced.kp, F__law_sourced.bindsN fun _ _ _ _ _ _ us hl => match us, hl with | [_, _], _ => rfl⟩
  obtain ⟨fd__law_pick, F__law_pickd⟩ := c.def_ 22 (d := d__law_pick) rfl
  have c__law_pick : Cal P w K mg base 1 "_law_pick" 2 F__law_pick := ⟨_, fd__law_pick, _, ok__law_pick (P := P) (w := w) (base := base) F__law_pickd T, He.glo_ok X G (c.fact 20 (f := .glo "_law_pick") rfl), F__law_pickd.kp, F__law_pickd.bindsN fun _ _ _ _ _ _ us hl => match us, hl with | [_, _], _ => rfl⟩
  obtain ⟨fd__law_is_number, F__law_is_numberd⟩ := c.def_ 23 (d := d__law_is_number) rfl
  have c__law_is_number : Cal P w K mg base 1 "_law_is_number" 3 F__law_is_number := ⟨_, fd__law_is_number, _, ok__law_is_number (P := P) (w := w) (base := base) F__law_is_numberd T, He.glo_ok X G (c.fact 21 (f := .glo "_law_is_number") rfl), F__law_is_numberd.kp, F__law_is_numberd.bindsN fun _ _ _ _ _ _ us hl => match us, hl with | [_, _, _], _ => rfl⟩
  obtain ⟨fd__law_wide, F__law_wided⟩ := c.def_ 24 (d := d__law_wide) rfl
  have c__law_wide : Cal P w K mg base 2 "_law_wide" 3 F__law_wide := ⟨_, fd__law_wide, _, ok__law_wide (P := P) (w := w) (base := base) F__law_wided T c__law_pick, He.glo_ok X G (c.fact 22 (f := .glo "_law_wide") rfl), F__law_wided.kp, F__law_wided.bindsN fun _ _ _ _ _ _ us hl => match us, hl with | [_, _, _], _ => rfl⟩
  obtain ⟨fd__law_turned_row, F__law_turned_rowd⟩ := c.def_ 25 (d := d__law_turned_row) rfl
  have c__law_turned_row : Cal P w K mg base 1 "_law_turned_row" 1 F__law_turned_row := ⟨_, fd__law_turned_row, _, ok__law_turned_row (P := P) (w := w) (base := base) F__law_turned_rowd T, He.glo_ok X G (c.fact 23 (f := .glo "_law_turned_row") rfl), F__law_turned_rowd.kp, F__law_turned_rowd.bindsN fun _ _ _ _ _ _ us hl => match us, hl with | [_], _ => rfl⟩
  obtain ⟨fd__law_close, F__law_closed⟩ := c.def_ 26 (d := d__law_close) rfl
  have c__law_close : Cal P w K mg base 1 "_law_close" 5 F__law_close := ⟨_, fd__law_close, _, ok__law_close (P := P) (w := w) (base := base) F__law_closed T, He.glo_ok X G (c.fact 24 (f := .glo "_law_close") rfl), F__law_closed.kp, F__law_closed.bindsN fun _ _ _ _ _ _ us hl => match us, hl with | [_, _, _, _, _], _ => rfl⟩
  obtain ⟨fd__law_single_levels, F__law_single_levelsd⟩ := c.def_ 27 (d := d__law_single_levels) rfl
  have c__law_single_levels : Cal P w K mg base 2 "_law_single_levels" 2 F__law_single_levels := ⟨_, fd__law_single_levels, _, ok__law_single_levels (P := P) (w := w) (base := base) F__law_single_levelsd T c__law_close, He.glo_ok X G (c.fact 25 (f := .glo "_law_single_levels") rfl), F__law_single_levelsd.kp, F__law_single_levelsd.bindsN fun _ _ _ _ _ _ us hl => match us, hl with | [_, _], _ => rfl⟩
  obtain ⟨fd__law_is_level, F__law_is_leveld⟩ := c.def_ 28 (d := d__law_is_level) rfl
  have c__law_is_level : Cal P w K mg base 2 "_law_is_level" 2 F__law_is_level := ⟨_, fd__law_is_level, _, ok__law_is_level (P := P) (w := w) (base := base) F__law_is_leveld T c__law_is_number, He.glo_ok X G (c.fact 26 (f := .glo "_law_is_level") rfl), F__law_is_leveld.kp, F__law_is_leveld.bindsN fun _ _ _ _ _ _ us hl => match us, hl with | [_, _], _ => rfl⟩
  obtain ⟨fd__law_is_levels, F__law_is_levelsd⟩ := c.def_ 29 (d := d__law_is_levels) rfl
  have c__law_is_levels : Cal P w K mg base 3 "_law_is_levels" 2 F__law_is_levels := ⟨_, fd__law_is_levels, _, ok__law_is_levels (P := P) (w := w) (base := base) F__law_is_levelsd T c__law_is_level, He.glo_ok X G (c.fact 27 (f := .glo "_law_is_levels") rfl), F__law_is_levelsd.kp, F__law_is_levelsd.bindsN fun _ _ _ _ _ _ us hl => match us, hl with | [_, _], _ => rfl⟩
  obtain ⟨fd__law_judged, F__law_judgedd⟩ := c.def_ 30 (d := d__law_judged) rfl
  have c__law_judged : CalG P w K mg base 6 "_law_judged" 6 F__law_judged := ⟨_, fd__law_judged, _, ok__law_judged (P := P) (w := w) (base := base) F__law_judgedd T c__law_pick c_judge_levels, He.glo_ok X G (c.fact 28 (f := .glo "_law_judged") rfl), F__law_judgedd.kp, F__law_judgedd.bindsN fun _ _ _ _ _ _ us hl => match us, hl with | [_, _, _, _, _, _], _ => rfl⟩
  obtain ⟨fd__law_height_of, F__law_height_ofd⟩ := c.def_ 31 (d := d__law_height_of) rfl
  have c__law_height_of : Cal P w K mg base 1 "_law_height_of" 2 F__law_height_of := ⟨_, fd__law_height_of, _, ok__law_height_of (P := P) (w := w) (base := base) F__law_height_ofd T, He.glo_ok X G (c.fact 29 (f := .glo "_law_height_of") rfl), F__law_height_ofd.kp, F__law_height_ofd.bindsN fun _ _ _ _ _ _ us hl => match us, hl with | [_, _], _ => rfl⟩
  obtain ⟨fd__law_heights_well, F__law_heights_welld⟩ := c.def_ 32 (d := d__law_heights_well) rfl
  have c__law_heights_well : Cal P w K mg base 4 "_law_heights_well" 5 (F__law_heights_well (He.ga K "Contest")) := ⟨_, fd__law_heights_well, _, ok__law_heights_well (P := P) (w := w) (base := base) F__law_heights_welld T c__law_pick c__law_height_of m_Contest_parting_height c__law_is_number, He.glo_ok X G (c.fact 30 (f := .glo "_law_heights_well") rfl), F__law_heights_welld.kp, F__law_heights_welld.bindsN fun _ _ _ _ _ _ us hl => match us, hl with | [_, _, _, _, _], _ => rfl⟩
  obtain ⟨fd__law_single_well, F__law_single_welld⟩ := c.def_ 33 (d := d__law_single_well) rfl
  have c__law_single_well : CalG P w K mg base 8 "_law_single_well" 1 (F__law_single_well (He.ga K "Contest")) := ⟨_, fd__law_single_well, _, ok__law_single_well (P := P) (w := w) (base := base) F__law_single_welld T c__law_wide c__law_pick c__law_single_levels w_Contest c__law_is_levels c__law_heights_well c__law_judged, He.glo_ok X G (c.fact 31 (f := .glo "_law_single_well") rfl), F__law_single_welld.kp, F__law_single_welld.bindsN fun _ _ _ _ _ _ us hl => match us, hl with | [_], _ => rfl⟩
  obtain ⟨fd__law_comings, F__law_comingsd⟩ := c.def_ 34 (d := d__law_comings) rfl
  have c__law_comings : Cal P w K mg base 1 "_law_comings" 1 F__law_comings := ⟨_, fd__law_comings, _, ok__law_comings (P := P) (w := w) (base := base) F__law_comingsd T, He.glo_ok X G (c.fact 32 (f := .glo "_law_comings") rfl), F__law_comingsd.kp, F__law_comingsd.bindsN fun _ _ _ _ _ _ us hl => match us, hl with | [_], _ => rfl⟩
  obtain ⟨fd__law_kinds, F__law_kindsd⟩ := c.def_ 35 (d := d__law_kinds) rfl
  have c__law_kinds : Cal P w K mg base 2 "_law_kinds" 1 F__law_kinds := ⟨_, fd__law_kinds, _, ok__law_kinds (P := P) (w := w) (base := base) F__law_kindsd T c__law_comings c__law_turned_row, He.glo_ok X G (c.fact 33 (f := .glo "_law_kinds") rfl), F__law_kindsd.kp, F__law_kindsd.bindsN fun _ _ _ _ _ _ us hl => match us, hl with | [_], _ => rfl⟩
  obtain ⟨fd__law_same, F__law_samed⟩ := c.def_ 36 (d := d__law_same) rfl
  have c__law_same : Cal P w K mg base 1 "_law_same" 2 F__law_same := ⟨_, fd__law_same, _, ok__law_same (P := P) (w := w) (base := base) F__law_samed T, He.glo_ok X G (c.fact 34 (f := .glo "_law_same") rfl), F__law_samed.kp, F__law_samed.bindsN fun _ _ _ _ _ _ us hl => match us, hl with | [_, _], _ => rfl⟩
  obtain ⟨fd__law_answered, F__law_answeredd⟩ := c.def_ 37 (d := d__law_answered) rfl
  have c__law_answered : Cal P w K mg base 1 "_law_answered" 3 F__law_answered := ⟨_, fd__law_answered, _, ok__law_answered (P := P) (w := w) (base := base) F__law_answeredd T, He.glo_ok X G (c.fact 35 (f := .glo "_law_answered") rfl), F__law_answeredd.kp, F__law_answeredd.bindsN fun _ _ _ _ _ _ us hl => match us, hl with | [_, _, _], _ => rfl⟩
  obtain ⟨fd__law_stays, F__law_staysd⟩ := c.def_ 38 (d := d__law_stays) rfl
  have c__law_stays : Cal P w K mg base 2 "_law_stays" 4 F__law_stays := ⟨_, fd__law_stays, _, ok__law_stays (P := P) (w := w) (base := base) F__law_staysd T c__law_answered, He.glo_ok X G (c.fact 36 (f := .glo "_law_stays") rfl), F__law_staysd.kp, F__law_staysd.bindsN fun _ _ _ _ _ _ us hl => match us, hl with | [_, _, _, _], _ => rfl⟩
  obtain ⟨fd__law_deep_well, F__law_deep_welld⟩ := c.def_ 39 (d := d__law_deep_well) rfl
  have c__law_deep_well : CalG P w K mg base 7 "_law_deep_well" 6 F__law_deep_well := ⟨_, fd__law_deep_well, _, ok__law_deep_well (P := P) (w := w) (base := base) F__law_deep_welld T c__law_pick c__law_judged, He.glo_ok X G (c.fact 37 (f := .glo "_law_deep_well") rfl), F__law_deep_welld.kp, F__law_deep_welld.bindsN fun _ _ _ _ _ _ us hl => match us, hl with | [_, _, _, _, _, _], _ => rfl⟩
  obtain ⟨fd__law_long_well, F__law_long_welld⟩ := c.def_ 40 (d := d__law_long_well) rfl
  have c__law_long_well : CalG P w K mg base 8 "_law_long_well" 1 F__law_long_well := ⟨_, fd__law_long_well, _, ok__law_long_well (P := P) (w := w) (base := base) F__law_long_welld T c__law_wide c__law_pick c__law_same c__law_kinds c__law_judged c__law_stays c__law_deep_well, He.glo_ok X G (c.fact 38 (f := .glo "_law_long_well") rfl), F__law_long_welld.kp, F__law_long_welld.bindsN fun _ _ _ _ _ _ us hl => match us, hl with | [_], _ => rfl⟩
  exact ok_law F T c__law_single_well c__law_source c__law_long_well
end Lw
open PySem PySem.W PySem.Calls PyProof.Rows
theorem PySem.Challenge.cw_saidhere_k76_whole_levels_of_long_rows_holds : PySem.Challenge.rw_saidhere_k76_whole_levels_of_long_rows.Holds := by
  w_on; o_law
  refine HandSHeadRun.head_any (r := OpenLaw.row PySem.Challenge.rw_saidhere_k76_whole_levels_of_long_rows) (q := view (OpenLaw.row PySem.Challenge.rw_saidhere_k76_whole_levels_of_long_rows).prog [54]) (H := Lw.hk) (ob := Lw.ob) (M := 4000) (loose := Lw.nms) (d := HandSHeadRun.topDef (OpenLaw.row PySem.Challenge.rw_saidhere_k76_whole_levels_of_long_rows).prog 54) (kwd := []) Lw.ob_eq
    (by kernel_rfl) (fun s => by kernel_rfl) Lw.run (by kernel_rfl) (by kernel_rfl) (by kernel_rfl) (by rfl) (by first | assumption | decide +kernel) (by decide +kernel) ⟨rfl, rfl, rfl, rfl, rfl, by decide +kernel⟩ ?hw ?hc
  case hw => w_witness2
  case hc =>
    refine ML.walk_ofG (l := PySem.Challenge.rw_saidhere_k76_whole_levels_of_long_rows) (n := 63) (k := 9) (x := "script") rfl (by decide) (by kernel_rfl) ⟨rfl, by decide, by decide⟩ ?F
    intro w mg fa h Y G hmg0
    obtain ⟨K, KX, c⟩ := Y
    have hmg : mg ("law" : PySem.Str) = some (.ref fa) := by
      have e : (HandSHeadRun.topDef (OpenLaw.row PySem.Challenge.rw_saidhere_k76_whole_levels_of_long_rows).prog 54).name = ("law" : PySem.Str) := by kernel_rfl
      rw [← e]
      exact hmg0
    obtain ⟨fd, hb, hF⟩ := Lw.facts (P := (PySem.Challenge.rw_saidhere_k76_whole_levels_of_long_rows).prog) (w := w) KX G hmg c
    exact ⟨K, fd, _, KX, hb, fun ns hl hbits => Lw.math _ ns hl hbits, hF⟩

