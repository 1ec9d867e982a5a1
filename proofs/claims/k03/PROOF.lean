import PyProof.Rows.All
import Wide.All
import OpenK.AllK
import Wide.FinOn
import HandS.ForMost
import HandS.Exc
import HandS.ExcOwn
import HandS.WordsExc
import HandS.Wide
import HandS.Flow
import HandS.TupAny
import HandS.Deep
import HandS.Zip
import HandS.Rev
import HandS.SortInts
import HandS.IsInst
import HandS.Defaults
import HandS.Slots
import HandS.Conv
import HandS.Codes
import KE.GoesMore
import HandS.ClsMeth
import HandS.HeadNt
import HandS.Head2
import HandS.HeadEnd
import HandS.EndBits
import PySem.Challenge.RW_shelfmixes_k03_prime_numbers
set_option Elab.async false
set_option linter.all false
set_option maxRecDepth 100000
set_option maxHeartbeats 0
set_option exponentiation.threshold 5000
/-! Data, views of the heap, results. -/
namespace Sm
open PySem L2

inductive D where
  | non | bl (b : Bool) | int (i : Int) | str (s : Str)
  | tup (ds : List D) | lst (ds : List D) | obj (c : Nat) (fs : List D) | ro (ds : List D) | ref (n : Nat)
inductive Cell where
  | lst (ds : List D) | ins (c : Nat) (fs : List D)
abbrev AH := List Cell

/-- what the classes are: addresses, field names -/
structure Gi where
  ca : Nat → Addr
  fn : Nat → List Str
  kl : Addr → List V → Prop
  sl : Nat → Bool
/-- a view: the cells' addresses, what may be written, the heap -/
structure Vw where
  m : List Addr
  G : Addr → Prop
  H : Hp
/-- it stands still: no cell, no list in the making -/
def Vw.M (a : Vw) (p : Addr) : Prop := p ∈ a.m ∨ a.G p

structure Mono (a b : Vw) : Prop where
  pre : ∃ x, b.m = a.m ++ x
  all : ∀ p o, p ∉ a.m → a.H p = some o → p ∉ b.m ∧ b.H p = some o ∧ (¬ a.G p → ¬ b.G p)
  gh : ∀ p, a.G p → b.G p
theorem Mono.keep {a b : Vw} (x : Mono a b) (p : Addr) (o : HO) (h : ¬ a.M p) (e : a.H p = some o) : ¬ b.M p ∧ b.H p = some o := by
  have h1 : p ∉ a.m := fun z => h (.inl z)
  have h2 : ¬ a.G p := fun z => h (.inr z)
  obtain ⟨x1, x2, x3⟩ := x.all p o h1 e
  exact ⟨fun z => z.elim x1 (x3 h2), x2⟩
theorem Mono.refl (a : Vw) : Mono a a := ⟨⟨[], by simp⟩, fun _ _ h e => ⟨h, e, fun z => z⟩, fun _ z => z⟩
theorem Mono.trans {a b c : Vw} (x : Mono a b) (y : Mono b c) : Mono a c := by
  obtain ⟨u, hu⟩ := x.pre
  obtain ⟨v, hv⟩ := y.pre
  exact ⟨⟨u ++ v, by rw [hv, hu, List.append_assoc]⟩, fun p o h e => let ⟨h1, e1, g1⟩ := x.all p o h e; let ⟨h2, e2, g2⟩ := y.all p o h1 e1; ⟨h2, e2, fun z => g2 (g1 z)⟩, fun p z => y.gh p (x.gh p z)⟩

/-- an instance as it stands: its own dict, or slots in order -/
def Ins (g : Gi) (a : Vw) (c : Nat) (p dx : Addr) (vs : List V) : Prop :=
  (g.sl c = false ∧ a.H p = some (.ins (g.ca c) dx ((g.fn c).zip vs))) ∨
  (g.sl c = true ∧ a.H p = some (SlX.SlO p (g.ca c) dx (vs.map some)) ∧ ¬ a.M dx ∧ a.H dx = some (.xd []))
theorem Ins.keep {g : Gi} {a b : Vw} {c : Nat} {p dx : Addr} {vs : List V} (k : ∀ p o, ¬ a.M p → a.H p = some o → ¬ b.M p ∧ b.H p = some o) (n : ¬ a.M p) (h : Ins g a c p dx vs) : ¬ b.M p ∧ Ins g b c p dx vs := by
  rcases h with ⟨h1, h2⟩ | ⟨h1, h2, h3, h4⟩
  · obtain ⟨n', e⟩ := k p _ n h2
    exact ⟨n', .inl ⟨h1, e⟩⟩
  · obtain ⟨n', e⟩ := k p _ n h2
    obtain ⟨n2, e2⟩ := k dx _ h3 h4
    exact ⟨n', .inr ⟨h1, e, n2, e2⟩⟩
section
variable (g : Gi) (K : PySem.W.Frag) (a : Vw)
mutual
def RepV : D → V → Prop
  | .non, v => v = .non
  | .bl b, v => v = .bl b
  | .int i, v => v = .int i
  | .str s, v => v = .str s
  | .tup ds, v => ∃ p vs, v = .ref p ∧ ¬ a.M p ∧ a.H p = some (.tup vs) ∧ RepVs ds vs
  | .lst ds, v => ∃ p vs, v = .ref p ∧ ¬ a.M p ∧ a.H p = some (.lst vs) ∧ RepVs ds vs
  | .obj c fs, v => ∃ p dx vs, v = .ref p ∧ ¬ a.M p ∧ Ins g a c p dx vs ∧ vs.length ≤ (g.fn c).length ∧ RepVs fs vs
  | .ro ds, v => ∃ p vs, v = .ref p ∧ ((¬ a.M p ∧ ∃ o, a.H p = some (.frz o (.lst vs))) ∨ g.kl p vs) ∧ RepVs ds vs
  | .ref n, v => ∃ p, v = .ref p ∧ a.m[n]? = some p
def RepVs : List D → List V → Prop
  | [], vs => vs = []
  | d :: ds, vs => ∃ v r, vs = v :: r ∧ RepV d v ∧ RepVs ds r
end
end

structure Mono0 (a b : Vw) : Prop where
  pre : ∃ x, b.m = a.m ++ x
  keep : ∀ p o, ¬ a.M p → a.H p = some o → ¬ b.M p ∧ b.H p = some o
theorem Mono.to0 {a b : Vw} (x : Mono a b) : Mono0 a b := ⟨x.pre, x.keep⟩
section
variable {g : Gi} {K : PySem.W.Frag} {a b : Vw}
mutual
theorem RepV.mono0 (mo : Mono0 a b) : ∀ {d : D} {v : V}, RepV g a d v → RepV g b d v
  | .non, v, h => by simpa [RepV] using h
  | .bl _, v, h => by simpa [RepV] using h
  | .int _, v, h => by simpa [RepV] using h
  | .str _, v, h => by simpa [RepV] using h
  | .tup ds, v, h => by
    simp only [RepV] at h ⊢
    obtain ⟨p, vs, e, n, q, r⟩ := h
    obtain ⟨n', q'⟩ := mo.keep p _ n q
    exact ⟨p, vs, e, n', q', RepVs.mono0 mo r⟩
  | .lst ds, v, h => by
    simp only [RepV] at h ⊢
    obtain ⟨p, vs, e, n, q, r⟩ := h
    obtain ⟨n', q'⟩ := mo.keep p _ n q
    exact ⟨p, vs, e, n', q', RepVs.mono0 mo r⟩
  | .obj c fs, v, h => by
    simp only [RepV] at h ⊢
    obtain ⟨p, dx, vs, e, n, q, l, r⟩ := h
    obtain ⟨n', q'⟩ := q.keep mo.keep n
    exact ⟨p, dx, vs, e, n', q', l, RepVs.mono0 mo r⟩
  | .ro ds, v, h => by
    simp only [RepV] at h ⊢
    obtain ⟨p, vs, e, n, r⟩ := h
    refine ⟨p, vs, e, ?_, RepVs.mono0 mo r⟩
    rcases n with ⟨n, o, q⟩ | n
    · obtain ⟨n', q'⟩ := mo.keep p _ n q
      exact .inl ⟨n', o, q'⟩
    · exact .inr n
  | .ref n, v, h => by
    simp only [RepV] at h ⊢
    obtain ⟨p, e, q⟩ := h
    obtain ⟨x, hx⟩ := mo.pre
    refine ⟨p, e, ?_⟩
    rw [hx, List.getElem?_append_left (List.getElem?_eq_some_iff.mp q).1]
    exact q
theorem RepVs.mono0 (mo : Mono0 a b) : ∀ {ds : List D} {vs : List V}, RepVs g a ds vs → RepVs g b ds vs
  | [], vs, h => by simpa [RepVs] using h
  | d :: ds, vs, h => by
    simp only [RepVs] at h ⊢
    obtain ⟨v, r, e, h1, h2⟩ := h
    exact ⟨v, r, e, RepV.mono0 mo h1, RepVs.mono0 mo h2⟩
end
theorem RepV.mono (mo : Mono a b) {d : D} {v : V} (h : RepV g a d v) : RepV g b d v := h.mono0 mo.to0
theorem RepVs.mono (mo : Mono a b) {d : List D} {v : List V} (h : RepVs g a d v) : RepVs g b d v := h.mono0 mo.to0
theorem RepVs.nil : RepVs g a [] [] := by simp [RepVs]
theorem RepVs.cons {d : D} {v : V} {ds : List D} {vs : List V} (h : RepV g a d v) (t : RepVs g a ds vs) : RepVs g a (d :: ds) (v :: vs) := by
  simp only [RepVs]; exact ⟨v, vs, rfl, h, t⟩
theorem RepVs.length : ∀ {ds : List D} {vs : List V}, RepVs g a ds vs → vs.length = ds.length
  | [], vs, h => by simp only [RepVs] at h; subst h; rfl
  | d :: ds, vs, h => by
    simp only [RepVs] at h
    obtain ⟨v, r, rfl, _, h2⟩ := h
    simp [RepVs.length h2]
theorem RepVs.append : ∀ {ds es : List D} {vs ws : List V}, RepVs g a ds vs → RepVs g a es ws → RepVs g a (ds ++ es) (vs ++ ws)
  | [], es, vs, ws, h, t => by simp only [RepVs] at h; subst h; simpa using t
  | d :: ds, es, vs, ws, h, t => by
    simp only [RepVs] at h
    obtain ⟨v, r, rfl, h1, h2⟩ := h
    exact .cons h1 (RepVs.append h2 t)
theorem RepVs.get : ∀ {ds : List D} {vs : List V} {i : Nat}, RepVs g a ds vs → ∀ {d : D}, ds[i]? = some d → ∃ v, vs[i]? = some v ∧ RepV g a d v
  | [], vs, i, h, d, e => by simp at e
  | d :: ds, vs, 0, h, d', e => by
    simp only [RepVs] at h
    obtain ⟨v, r, rfl, h1, h2⟩ := h
    simp at e; subst e
    exact ⟨v, rfl, h1⟩
  | d :: ds, vs, i + 1, h, d', e => by
    simp only [RepVs] at h
    obtain ⟨v, r, rfl, h1, h2⟩ := h
    obtain ⟨w, q, z⟩ := RepVs.get (i := i) h2 (by simpa using e)
    exact ⟨w, by simpa using q, z⟩
theorem RepVs.set : ∀ {ds : List D} {vs : List V} {i : Nat} {d : D} {v : V}, RepVs g a ds vs → RepV g a d v → RepVs g a (ds.set i d) (vs.set i v)
  | [], vs, i, d, v, h, t => by simp only [RepVs] at h; subst h; simp [RepVs]
  | e :: ds, vs, 0, d, v, h, t => by
    simp only [RepVs] at h
    obtain ⟨w, r, rfl, h1, h2⟩ := h
    exact .cons t h2
  | e :: ds, vs, i + 1, d, v, h, t => by
    simp only [RepVs] at h
    obtain ⟨w, r, rfl, h1, h2⟩ := h
    exact .cons h1 (RepVs.set h2 t)
theorem RepVs.take : ∀ {ds : List D} {vs : List V} (n : Nat), RepVs g a ds vs → RepVs g a (ds.take n) (vs.take n)
  | _, _, 0, _ => by simp [RepVs]
  | [], vs, n + 1, h => by simp only [RepVs] at h; subst h; simp [RepVs]
  | d :: ds, vs, n + 1, h => by
    simp only [RepVs] at h
    obtain ⟨v, r, rfl, h1, h2⟩ := h
    exact .cons h1 (RepVs.take n h2)
theorem RepVs.drop : ∀ {ds : List D} {vs : List V} (n : Nat), RepVs g a ds vs → RepVs g a (ds.drop n) (vs.drop n)
  | _, _, 0, h => by simpa using h
  | [], vs, n + 1, h => by simp only [RepVs] at h; subst h; simp [RepVs]
  | d :: ds, vs, n + 1, h => by
    simp only [RepVs] at h
    obtain ⟨v, r, rfl, h1, h2⟩ := h
    simpa using RepVs.drop n h2
theorem RepVs.flatRep {ds : List D} {vs : List V} (h : RepVs g a ds vs) : ∀ k, RepVs g a (List.replicate k ds).flatten (List.replicate k vs).flatten
  | 0 => by simp [RepVs]
  | k + 1 => by simpa [List.replicate_succ] using RepVs.append h (RepVs.flatRep h k)
theorem RepVs.ints : ∀ {ns : List Int} {vs : List V}, RepVs g a (ns.map D.int) vs → vs = ns.map V.int
  | [], vs, h => by simpa [RepVs] using h
  | n :: ns, vs, h => by
    simp only [List.map_cons, RepVs] at h
    obtain ⟨v, r, rfl, h1, h2⟩ := h
    simp only [RepV] at h1
    subst h1
    simp [RepVs.ints h2]
theorem RepVs.of_ints (ns : List Int) : RepVs g a (ns.map D.int) (ns.map V.int) := by
  induction ns with
  | nil => simp [RepVs]
  | cons n ns ih => exact .cons (by simp [RepV]) ih

/-- a cell as it stands -/
def CellRep (g : Gi) (a : Vw) : Cell → Option HO → Prop
  | .lst ds, o => ∃ vs, o = some (.lst vs) ∧ RepVs g a ds vs
  | .ins c fs, o => ∃ dx vs, (g.sl c = false ∧ o = some (.ins (g.ca c) dx ((g.fn c).zip vs))) ∧ vs.length ≤ (g.fn c).length ∧ RepVs g a fs vs
theorem CellRep.mono0 {c : Cell} {o : Option HO} (mo : Mono0 a b) (h : CellRep g a c o) : CellRep g b c o := by
  cases c with
  | lst ds => obtain ⟨vs, e, r⟩ := h; exact ⟨vs, e, r.mono0 mo⟩
  | ins c fs => obtain ⟨dx, vs, e, l, r⟩ := h; exact ⟨dx, vs, e, l, r.mono0 mo⟩
theorem CellRep.mono {c : Cell} {o : Option HO} (mo : Mono a b) (h : CellRep g a c o) : CellRep g b c o := by
  cases c with
  | lst ds => obtain ⟨vs, e, r⟩ := h; exact ⟨vs, e, r.mono mo⟩
  | ins c fs => obtain ⟨dx, vs, e, l, r⟩ := h; exact ⟨dx, vs, e, l, r.mono mo⟩
structure HeapRel (g : Gi) (a : Vw) (h : AH) : Prop where
  len : a.m.length = h.length
  nd : a.m.Nodup
  live : ∀ p, a.G p → a.H p ≠ none
  apart : ∀ p ∈ a.m, ¬ a.G p
  rep : ∀ (n : Nat) (c : Cell) (p : Addr), h[n]? = some c → a.m[n]? = some p → CellRep g a c (a.H p)
theorem HeapRel.at {h : AH} (r : HeapRel g a h) {n : Nat} {c : Cell} (e : h[n]? = some c) : ∃ p, a.m[n]? = some p ∧ p ∈ a.m ∧ CellRep g a c (a.H p) := by
  have hn : n < a.m.length := by rw [r.len]; exact (List.getElem?_eq_some_iff.mp e).1
  have e2 : a.m[n]? = some a.m[n] := List.getElem?_eq_getElem hn
  exact ⟨_, e2, List.getElem_mem hn, r.rep n c _ e e2⟩
theorem CellRep.some {c : Cell} {o : Option HO} (h : CellRep g a c o) : o ≠ none := by
  cases c with
  | lst ds => obtain ⟨vs, e, _⟩ := h; rw [e]; simp
  | ins c fs => obtain ⟨dx, vs, e, _⟩ := h; rw [e.2]; simp
theorem HeapRel.mem {h : AH} (r : HeapRel g a h) {p : Addr} (e : p ∈ a.m) : a.H p ≠ none := by
  obtain ⟨n, hn, rfl⟩ := List.mem_iff_getElem.mp e
  have hn' : n < h.length := by rw [← r.len]; exact hn
  exact (r.rep n h[n] _ (List.getElem?_eq_getElem hn') (List.getElem?_eq_getElem hn)).some
/-- what is new is none of ours -/
theorem HeapRel.new {h : AH} (r : HeapRel g a h) {p : Addr} (e : a.H p = none) : p ∉ a.m ∧ ¬ a.G p := ⟨fun z => r.mem z e, fun z => r.live p z e⟩
/-- a new thing that stands still -/
def Vw.add (a : Vw) (p : Addr) (o : HO) : Vw := ⟨a.m, a.G, upd a.H p o⟩
theorem Mono.add {h : AH} (r : HeapRel g a h) {p : Addr} (o : HO) (e : a.H p = none) : Mono a (a.add p o) :=
  ⟨⟨[], by simp [Vw.add]⟩, fun q u h1 h2 => ⟨h1, by show upd a.H p o q = _; rw [upd_ne (ne_of_none h2 e)]; exact h2, fun z => z⟩, fun _ z => z⟩
theorem HeapRel.add {h : AH} (r : HeapRel g a h) {p : Addr} (o : HO) (e : a.H p = none) : HeapRel g (a.add p o) h := by
  refine ⟨r.len, r.nd, fun q hq => ?_, r.apart, fun n c q h1 h2 => ?_⟩
  · show upd a.H p o q ≠ none
    by_cases hqp : q = p
    · subst hqp; rw [upd_same]; simp
    · rw [upd_ne hqp]; exact r.live q hq
  · have hqp : q ≠ p := fun z => (r.new e).1 (z ▸ List.mem_of_getElem? h2)
    show CellRep g _ c (upd a.H p o q)
    rw [upd_ne hqp]
    exact (r.rep n c q h1 h2).mono (.add r o e)
/-- a new cell -/
def Vw.addC (a : Vw) (p : Addr) (o : HO) : Vw := ⟨a.m ++ [p], a.G, upd a.H p o⟩
theorem Mono.addC {h : AH} (r : HeapRel g a h) {p : Addr} (o : HO) (e : a.H p = none) : Mono a (a.addC p o) :=
  ⟨⟨[p], rfl⟩, fun q u h1 h2 => ⟨by show q ∉ a.m ++ [p]; have := ne_of_none h2 e; simp [h1, this], by show upd a.H p o q = _; rw [upd_ne (ne_of_none h2 e)]; exact h2, fun z => z⟩, fun _ z => z⟩
theorem HeapRel.addC {h : AH} (r : HeapRel g a h) {p : Addr} {o : HO} {c : Cell} (e : a.H p = none) (hc : CellRep g (a.addC p o) c (some o)) : HeapRel g (a.addC p o) (h ++ [c]) := by
  refine ⟨by simp [Vw.addC, r.len], ?_, fun q hq => ?_, fun q hq => ?_, fun n d q h1 h2 => ?_⟩
  · show (a.m ++ [p]).Nodup
    rw [List.nodup_append]
    exact ⟨r.nd, by simp, fun x hx y hy => by simp at hy; subst hy; exact fun z => (r.new e).1 (z ▸ hx)⟩
  · show upd a.H p o q ≠ none
    by_cases hqp : q = p
    · subst hqp; rw [upd_same]; simp
    · rw [upd_ne hqp]; exact r.live q hq
  · have : q ∈ a.m ++ [p] := hq
    rcases List.mem_append.mp this with z | z
    · exact r.apart q z
    · simp at z; subst z; exact (r.new e).2
  · have h2 : (a.m ++ [p])[n]? = some q := h2
    by_cases hn : n < h.length
    · rw [List.getElem?_append_left hn] at h1
      rw [List.getElem?_append_left (by rw [r.len]; exact hn)] at h2
      have hqp : q ≠ p := fun z => (r.new e).1 (z ▸ List.mem_of_getElem? h2)
      show CellRep g _ d (upd a.H p o q)
      rw [upd_ne hqp]
      exact (r.rep n d q h1 h2).mono (.addC r o e)
    · have hn2 : n = h.length := by
        have := (List.getElem?_eq_some_iff.mp h1).1
        simp at this; omega
      subst hn2
      rw [List.getElem?_append_right (by rw [r.len]; exact Nat.le_refl _), r.len] at h2
      simp at h1 h2
      subst h1 h2
      show CellRep g _ c (upd a.H p o p)
      rw [upd_same]
      exact hc
/-- a cell is written -/
def Vw.set (a : Vw) (p : Addr) (o : HO) : Vw := ⟨a.m, a.G, upd a.H p o⟩
theorem Mono.set {p : Addr} (o : HO) (e : p ∈ a.m) : Mono a (a.set p o) :=
  ⟨⟨[], by simp [Vw.set]⟩, fun q u h1 h2 => ⟨h1, by show upd a.H p o q = _; rw [upd_ne (show q ≠ p from fun z => h1 (by rw [z]; exact e))]; exact h2, fun z => z⟩, fun _ z => z⟩
theorem HeapRel.set {h : AH} (r : HeapRel g a h) {p : Addr} {o : HO} {c : Cell} {n : Nat} (e : a.m[n]? = some p) (hc : CellRep g (a.set p o) c (some o)) : HeapRel g (a.set p o) (h.set n c) := by
  have hp : p ∈ a.m := List.mem_of_getElem? e
  refine ⟨by simp [Vw.set, r.len], r.nd, fun q hq => ?_, r.apart, fun k d q h1 h2 => ?_⟩
  · show upd a.H p o q ≠ none
    by_cases hqp : q = p
    · subst hqp; rw [upd_same]; simp
    · rw [upd_ne hqp]; exact r.live q hq
  · have h2 : a.m[k]? = some q := h2
    show CellRep g _ d (upd a.H p o q)
    by_cases hk : k = n
    · subst hk
      rw [e] at h2; cases h2
      have : k < h.length := by rw [← r.len]; exact (List.getElem?_eq_some_iff.mp e).1
      rw [List.getElem?_set_self this] at h1
      cases h1
      rw [upd_same]
      exact hc
    · rw [List.getElem?_set_ne (Ne.symm hk)] at h1
      have hqp : q ≠ p := fun z => by
        subst z
        obtain ⟨k1, e1⟩ := List.getElem?_eq_some_iff.mp h2
        obtain ⟨k2, e2⟩ := List.getElem?_eq_some_iff.mp e
        exact hk ((List.getElem_inj r.nd).mp (e1.trans e2.symm))
      rw [upd_ne hqp]
      exact (r.rep k d q h1 h2).mono (.set o hp)
/-- the slots -/
structure EnvR (g : Gi) (a : Vw) (ρ : List (Option D)) (σ : L2.St) : Prop where
  len : σ.length = ρ.length
  rep : ∀ (i : Nat) (d : D), ρ[i]? = some (some d) → ∃ v, σ[i]? = some (some v) ∧ RepV g a d v
theorem EnvR.mono {ρ : List (Option D)} {σ : L2.St} (mo : Mono a b) (h : EnvR g a ρ σ) : EnvR g b ρ σ :=
  ⟨h.len, fun i d e => let ⟨v, q, r⟩ := h.rep i d e; ⟨v, q, r.mono mo⟩⟩
theorem EnvR.set {ρ : List (Option D)} {σ : L2.St} {i : Nat} {d : D} {v : V} (h : EnvR g a ρ σ) (r : RepV g a d v) : EnvR g a (ρ.set i (some d)) (σ.set i (some v)) := by
  refine ⟨by simp [h.len], fun j e q => ?_⟩
  by_cases hj : j = i
  · subst hj
    by_cases hl : j < ρ.length
    · rw [List.getElem?_set_self hl] at q
      simp at q; subst q
      exact ⟨v, by rw [List.getElem?_set_self (by rw [h.len]; exact hl)], r⟩
    · rw [List.getElem?_eq_none (by simpa using hl)] at q
      cases q
  · rw [List.getElem?_set_ne (Ne.symm hj)] at q
    obtain ⟨w, z, r'⟩ := h.rep j e q
    exact ⟨w, by rw [List.getElem?_set_ne (Ne.symm hj)]; exact z, r'⟩
theorem EnvR.unset {ρ : List (Option D)} {σ : L2.St} {i : Nat} (h : EnvR g a ρ σ) : EnvR g a (ρ.set i none) (σ.set i none) := by
  refine ⟨by simp [h.len], fun j e q => ?_⟩
  by_cases hj : j = i
  · subst hj
    by_cases hl : j < ρ.length
    · rw [List.getElem?_set_self hl] at q
      simp at q
    · rw [List.getElem?_eq_none (by simpa using hl)] at q
      cases q
  · rw [List.getElem?_set_ne (Ne.symm hj)] at q
    obtain ⟨w, z, r'⟩ := h.rep j e q
    exact ⟨w, by rw [List.getElem?_set_ne (Ne.symm hj)]; exact z, r'⟩
end

/-! ### results -/
structure Exn where
  c : Nat
  args : List D
inductive R (α : Type) where
  | ok (a : α) (h : AH) | ex (x : Exn) (h : AH) | stuck
def R.bind {α β : Type} : R α → (α → AH → R β) → R β
  | .ok a h, f => f a h
  | .ex x h, _ => .ex x h
  | .stuck, _ => .stuck
@[simp] theorem R.bind_ok {α β : Type} (a : α) (h : AH) (f : α → AH → R β) : (R.ok a h).bind f = f a h := rfl
@[simp] theorem R.bind_ex {α β : Type} (x : Exn) (h : AH) (f : α → AH → R β) : (R.ex x h : R α).bind f = .ex x h := rfl
@[simp] theorem R.bind_stuck {α β : Type} (f : α → AH → R β) : (R.stuck : R α).bind f = .stuck := rfl
abbrev Env' := List (Option D)
abbrev Fn := List D → AH → R D

/-- how an exception stands: its class, its fields in its own dict -/
def ExR (g : Gi) (a : Vw) (x : Exn) (cls : Value) (d : Option Addr) : Prop :=
  cls = .ref (g.ca x.c) ∧ ∃ dx vs, d = some dx ∧ ¬ a.M dx ∧ a.H dx = some (.xd ((g.fn x.c).zip vs)) ∧ vs.length = (g.fn x.c).length ∧ RepVs g a x.args vs
abbrev XW := Value → Option Addr → Hp → Prop
/-- what a result asks -/
def Post (g : Gi) (a : Vw) {α β : Type} (rep : Vw → α → β → Prop) (W : XW) (Q : β → Hp → Prop) : R α → Prop
  | .ok d h => ∀ v b, Mono a b → HeapRel g b h → rep b d v → Q v b.H
  | .ex x h => ∀ cls d b, Mono a b → HeapRel g b h → ExR g b x cls d → W cls d b.H
  | .stuck => False
theorem Post.mono {g : Gi} {a b : Vw} {α β : Type} {rep : Vw → α → β → Prop} {W : XW} {Q : β → Hp → Prop} (mo : Mono a b) : ∀ {r : R α}, Post g a rep W Q r → Post g b rep W Q r
  | .ok d h, p => fun v c m hr rv => p v c (mo.trans m) hr rv
  | .ex x h, p => fun cls d c m hr rv => p cls d c (mo.trans m) hr rv
  | .stuck, p => p
theorem Post.imp {g : Gi} {a : Vw} {α β : Type} {rep : Vw → α → β → Prop} {W : XW} {Q Q' : β → Hp → Prop} : ∀ {r : R α}, Post g a rep W Q r → (∀ v H, Q v H → Q' v H) → Post g a rep W Q' r
  | .ok d h, p, k => fun v c m hr rv => k _ _ (p v c m hr rv)
  | .ex x h, p, _ => p
  | .stuck, p, _ => p
end Sm

/-! The small language and what it does. -/
namespace Sm
open PySem L2

inductive Bop where
  | add | sub | mul | fdiv | mod | pow | shl | shr | and | or
  deriving DecidableEq
inductive Cop where
  | eq | ne | lt | le | gt | ge | is | isnot | inn | notin
  deriving DecidableEq
inductive Ty where
  | bool | int | str | list | tuple
  deriving DecidableEq
inductive Bif where
  | len | abs | int | bool | list | tuple | sum | max2 | min2 | max | min | sorted | all | str
  deriving DecidableEq
inductive Con where
  | non | bl (b : Bool) | int (i : Int) | str (s : Str)

inductive E where
  | var (i : Nat)
  | con (c : Con)
  | glob (f : Nat)
  | bin (o : Bop) (a b : E)
  | neg (a : E)
  | cmp (o : Cop) (a b : E)
  | chain (o p : Cop) (a b c : E)
  | band (es : List E) | bor (es : List E) | bnot (a : E)
  | ite (c a b : E)
  | tup (es : List E) | lst (cell : Bool) (es : List E)
  | ix (a i : E)
  | slice (cell : Bool) (a : E) (lo hi : Option E)
  | call (f : Nat) (es : List E)
  | cst (f : Nat) (es : List E)
  | sti (f c : Nat) (a : E) (es : List E)
  | ccon (f : Nat)
  | bif (b : Bif) (es : List E)
  | isb (a : E) (t : Ty)
  | comp (cell : Bool) (it : E) (tg : List Nat) (one : Bool) (cond : Option E) (elt : E) (own : List (Str × Nat))
  | seq (a : E) | rng (es : List E) | enum (a : E) | zip (a b : E) | rev (a : E)

inductive G where
  | name (i : Nat) | tup (gs : List G) | sub (o i : E)

inductive S where
  | asg (g : G) (e : E)
  | exp (e : E) | ret (e : E) | retN
  | iff (c : E) (a b : List S)
  | for (tg : List Nat) (one : Bool) (it : E) (body : List S)
  | whl (fuel : Nat) (c : E) (body : List S)
  | app (o e : E)
  | pass | cont | brk | never

/-! ### values -/
def lim : Nat := 16000000
def big : Nat := 2 ^ 4000
def Con.d : Con → D
  | .non => .non | .bl b => .bl b | .int i => .int i | .str s => .str s
def asLst (h : AH) : D → Option (List D)
  | .lst ds => some ds
  | .ref n => match h[n]? with | some (.lst ds) => some ds | _ => none
  | _ => none
def asTup : D → Option (List D)
  | .tup ds => some ds
  | _ => none
def asSeq (h : AH) : D → Option (List D)
  | .tup ds => some ds
  | d => asLst h d
def ro (h : AH) : D → Option (List D)
  | .ro ds => some ds
  | d => asLst h d
def mkL (cell : Bool) (ds : List D) (h : AH) : R D :=
  if ds.length ≤ lim then (if cell then .ok (.ref h.length) (h ++ [.lst ds]) else .ok (.lst ds) h) else .stuck
def mkT (ds : List D) (h : AH) : R D := if ds.length ≤ lim then .ok (.tup ds) h else .stuck
def intsOf : List D → Option (List Int)
  | [] => some []
  | .int i :: r => (intsOf r).map (i :: ·)
  | _ :: _ => none
def blsOf : List D → Option (List Bool)
  | [] => some []
  | .bl i :: r => (blsOf r).map (i :: ·)
  | _ :: _ => none

def mulOk (i j : Int) : Bool := decide (i.natAbs < big) && decide (j.natAbs < big)
def binI : Bop → Int → Int → Option Int
  | .add, i, j => some (i + j)
  | .sub, i, j => some (i - j)
  | .mul, i, j => if mulOk i j then some (i * j) else none
  | .fdiv, i, j => if 0 < j ∧ j.natAbs < big then some (i / j) else none
  | .mod, i, j => if 0 < j then some (i % j) else none
  | .pow, i, j => if 0 ≤ j ∧ j ≤ 1000 ∧ i.natAbs < 2 ^ 64 then some (i ^ j.toNat) else none
  | .shl, i, j => if 0 ≤ j ∧ j ≤ 1000 ∧ i.natAbs < 2 ^ 64 then some (i * 2 ^ j.toNat) else none
  | .shr, i, j => if 0 ≤ j then some (i / 2 ^ j.toNat) else none
  | .and, i, j => some (Builtin.bitAnd i j)
  | .or, i, j => some (Builtin.bitOr i j)
def binL (o : Bop) (x y : D) (h : AH) : R D :=
  match o, asLst h x, asLst h y, y with
    | .add, some xs, some ys, _ => if xs.length + ys.length ≤ lim then .ok (.lst (xs ++ ys)) h else .stuck
    | .mul, some xs, none, .int k => if 0 ≤ k ∧ k ≤ 16000000 ∧ xs.length * k.toNat ≤ lim then .ok (.lst (List.replicate k.toNat xs).flatten) h else .stuck
    | _, _, _, _ => .stuck
/-- a binary operator -/
def binV (o : Bop) (x y : D) (h : AH) : R D :=
  match x, y with
  | .int i, .int j => match binI o i j with | some k => .ok (.int k) h | none => .stuck
  | .str s, .str t => match o with
    | .add => if s.length + t.length ≤ lim then .ok (.str (s ++ t)) h else .stuck
    | _ => .stuck
  | .tup xs, .tup ys => match o with
    | .add => if xs.length + ys.length ≤ lim then .ok (.tup (xs ++ ys)) h else .stuck
    | _ => .stuck
  | x, y => binL o x y h
def mapO {α β : Type} (f : α → Option β) : List α → Option (List β)
  | [] => some []
  | x :: xs => match f x, mapO f xs with | some y, some ys => some (y :: ys) | _, _ => none
def toPy (h : AH) : Nat → D → Option PyData
  | 0, _ => none
  | n + 1, d => match d with
    | .non => some .none
    | .bl b => some (.bool b)
    | .int i => some (.int i)
    | .str s => some (.str s)
    | .tup ds => (mapO (toPy h n) ds).map .tuple
    | .lst ds => (mapO (toPy h n) ds).map .list
    | .ref k => match h[k]? with | some (.lst ds) => (mapO (toPy h n) ds).map .list | _ => none
    | .obj _ _ => none
    | .ro _ => none
def eqV (h : AH) (x y : D) : Option Bool :=
  match x, y with
  | .int i, .int j => some (decide (i = j))
  | .bl i, .bl j => some (decide (i = j))
  | .str i, .str j => some (decide (i = j))
  | x, y => match toPy h 6 x, toPy h 6 y with
    | some a, some b => if SeqAt.shaped a && SeqAt.shaped b then some (PyData.eqv a b) else none
    | _, _ => none
def isNon : D → Bool
  | .non => true
  | _ => false
def strIn (x y : Str) : Bool := !(Builtin.Str.occurrences y x 0 y.length 1).isEmpty
def inV (h : AH) (x y : D) : Option Bool :=
  match x, y with
  | .str i, .str j => some (strIn i j)
  | x, y => match toPy h 6 x, (asSeq h y).bind (mapO (toPy h 6)) with
    | some a, some bs => if SeqAt.shaped a && SeqAt.shaped (.list bs) then some (bs.any fun z => PyData.eqv z a) else none
    | _, _ => none
def cmpV (o : Cop) (x y : D) (h : AH) : Option Bool :=
  match o with
  | .eq => eqV h x y
  | .ne => (eqV h x y).map (!·)
  | .lt => match x, y with | .int i, .int j => some (decide (i < j)) | _, _ => none
  | .le => match x, y with | .int i, .int j => some (decide (i ≤ j)) | _, _ => none
  | .gt => match x, y with | .int i, .int j => some (decide (j < i)) | _, _ => none
  | .ge => match x, y with | .int i, .int j => some (decide (j ≤ i)) | _, _ => none
  | .is => match y with | .non => some (isNon x) | _ => none
  | .isnot => match y with | .non => some (!isNon x) | _ => none
  | .inn => inV h x y
  | .notin => (inV h x y).map (!·)
def ixV (x y : D) (h : AH) : R D :=
  match y with
  | .int i => match x with
    | .str s => if s.length ≤ lim then match atI s.cps.toList i with | some c => .ok (.str ⟨#[c]⟩) h | none => .stuck else .stuck
    | x => match (asSeq h x).bind (atI · i) with | some d => .ok d h | none => .stuck
  | _ => .stuck
def cutD (xs : List D) (lo hi : Option Int) : List D := (xs.drop (HT.sIx xs.length 0 lo)).take (HT.sIx xs.length xs.length hi - HT.sIx xs.length 0 lo)
def slV (cell : Bool) (x : D) (lo hi : Option Int) (h : AH) : R D :=
  match x with
  | .tup xs => .ok (.tup (cutD xs lo hi)) h
  | .str s => if s.length ≤ lim then .ok (.str (Txt.slice s lo hi)) h else .stuck
  | x => match asLst h x with | some xs => mkL cell (cutD xs lo hi) h | none => .stuck
def truV (x : D) (h : AH) : Option Bool :=
  match x with
  | .non => some false
  | .bl b => some b
  | .int i => some (i != 0)
  | .tup ds => some (!ds.isEmpty)
  | x => (asLst h x).map fun ds => !ds.isEmpty
def blOf : D → Option Bool
  | .bl b => some b
  | _ => none
def setIx (ds : List D) (i : Int) (d : D) : Option (List D) := (ixN ds.length i).map fun k => ds.set k d
def isort : List Int → List Int
  | [] => []
  | x :: xs => ins x (isort xs)
where ins (x : Int) : List Int → List Int
  | [] => [x]
  | y :: ys => if x ≤ y then x :: y :: ys else y :: ins x ys
def maxI : List Int → Option Int
  | [] => none
  | x :: xs => some (xs.foldl (fun m y => if y > m then y else m) x)
def minI : List Int → Option Int
  | [] => none
  | x :: xs => some (xs.foldl (fun m y => if y < m then y else m) x)
def bifV (b : Bif) (xs : List D) (h : AH) : R D :=
  match b, xs with
  | .len, [.str s] => if s.length ≤ lim then .ok (.int s.length) h else .stuck
  | .len, [x] => match asSeq h x with | some ds => .ok (.int ds.length) h | none => .stuck
  | .abs, [.int i] => .ok (.int (if i < 0 then -i else i)) h
  | .int, [.int i] => .ok (.int i) h
  | .int, [.bl b] => .ok (.int (if b then 1 else 0)) h
  | .bool, [.int i] => .ok (.bl (i != 0)) h
  | .bool, [.bl b] => .ok (.bl b) h
  | .tuple, [.tup ds] => .ok (.tup ds) h
  | .tuple, [x] => match asLst h x with | some ds => .ok (.tup ds) h | none => .stuck
  | .sum, [x] => match (asLst h x).bind intsOf with | some ns => .ok (.int ns.sum) h | none => .stuck
  | .all, [x] => match (asLst h x).bind blsOf with | some ns => .ok (.bl (ns.all id)) h | none => .stuck
  | .max2, [.int i, .int j] => .ok (.int (if j > i then j else i)) h
  | .min2, [.int i, .int j] => .ok (.int (if j < i then j else i)) h
  | .max, [x] => match ((asLst h x).bind intsOf).bind maxI with | some m => .ok (.int m) h | none => .stuck
  | .min, [x] => match ((asLst h x).bind intsOf).bind minI with | some m => .ok (.int m) h | none => .stuck
  | .str, [.int i] => if i.natAbs < 2 ^ 64 then .ok (.str (toString i)) h else .stuck
  | _, _ => .stuck
def bifL (cell : Bool) (b : Bif) (xs : List D) (h : AH) : R D :=
  match b, xs with
  | .list, [x] => match asSeq h x with | some ds => mkL cell ds h | none => .stuck
  | .sorted, [x] => match (asLst h x).bind intsOf with | some ns => mkL cell ((isort ns).map .int) h | none => .stuck
  | b, xs => bifV b xs h
def isbV (t : Ty) (h : AH) : D → Option Bool
  | .non => some false
  | .bl _ => some (t == .bool || t == .int)
  | .int _ => some (t == .int)
  | .str _ => some (t == .str)
  | .tup _ => some (t == .tuple)
  | .lst _ => some (t == .list)
  | .obj _ _ => none
  | .ro _ => none
  | .ref n => match h[n]? with | some (.lst _) => some (t == .list) | _ => none

/-! ### what is walked -/
inductive Itr where
  | seq (d : D) | rng (lo c : Int) (n : Nat) | enum (d : D) | zip (d e : D) | rev (d : D)
def enumD : Nat → List D → List D
  | _, [] => []
  | k, d :: ds => .tup [.int k, d] :: enumD (k + 1) ds
def zipD : List D → List D → List D
  | d :: ds, e :: es => .tup [d, e] :: zipD ds es
  | _, _ => []
def roSeq (h : AH) : D → Option (List D)
  | .ro ds => some ds
  | d => asSeq h d
def zipI (h : AH) (d e : D) : Option (List D) := match d, e with
  | .tup xs, .tup ys => some (zipD xs ys)
  | d, e => match asLst h d, asLst h e with | some xs, some ys => some (zipD xs ys) | _, _ => none
/-- the items, as the things walked stand now -/
def Itr.items (h : AH) : Itr → Option (List D)
  | .seq d => roSeq h d
  | .rng lo c n => some ((List.range n).map fun (k : Nat) => .int (lo + k * c))
  | .enum d => (asSeq h d).map (enumD 0)
  | .zip d e => zipI h d e
  | .rev d => match d with | .lst ds => some ds.reverse | _ => none

def ckI (I : Itr) (h : AH) : R Itr := match I.items h with | some _ => .ok I h | none => .stuck
/-! ### expressions -/
structure Cs where
  fn : Nat → Fn
  con : Nat → Con
def tr (t : Bool) (r : R D) : R D := if t then r.bind fun d h => (match truV d h with | some b => .ok (.bl b) h | none => .stuck) else r
def bindT (tg : List Nat) (one : Bool) (d : D) (ρ : Env') : Option Env' :=
  match one, tg, d with
  | true, [i], d => some (ρ.set i (some d))
  | false, tg, .tup ds => if tg.length = ds.length then some ((tg.zip ds).foldl (fun ρ p => ρ.set p.1 (some p.2)) ρ) else none
  | _, _, _ => none
def wipeD (ρ : Env') : List Nat → Env'
  | [] => ρ
  | v :: vs => (wipeD ρ vs).set v none
open Classical in
/-- the turns of a comprehension: f gives an item or none -/
noncomputable def compGo (it : Itr) (all : List D) (f : D → AH → R (Option D)) : List D → List D → AH → R (List D)
  | [], acc, h => if it.items h = some all then .ok acc h else .stuck
  | d :: ds, acc, h => if it.items h = some all then
      (match f d h with
      | .ok none h => compGo it all f ds acc h
      | .ok (some y) h => if acc.length < lim then compGo it all f ds (acc ++ [y]) h else .stuck
      | _ => .stuck)
    else .stuck
mutual
noncomputable def ev (cs : Cs) : E → Bool → Env' → AH → R D
  | .var i, t, ρ, h => tr t (match ρ[i]? with | some (some d) => .ok d h | _ => .stuck)
  | .con c, t, ρ, h => tr t (.ok c.d h)
  | .glob f, t, ρ, h => tr t (.ok (cs.con f).d h)
  | .bin o a b, t, ρ, h => tr t ((ev cs a false ρ h).bind fun x h => (ev cs b false ρ h).bind fun y h => binV o x y h)
  | .neg a, t, ρ, h => tr t ((ev cs a false ρ h).bind fun x h => match x with | .int i => .ok (.int (-i)) h | _ => .stuck)
  | .cmp o a b, t, ρ, h => (ev cs a false ρ h).bind fun x h => (ev cs b false ρ h).bind fun y h => match cmpV o x y h with | some k => .ok (.bl k) h | none => .stuck
  | .chain o p a b c, t, ρ, h => (ev cs a false ρ h).bind fun x h => (ev cs b false ρ h).bind fun y h => match cmpV o x y h with
      | some true => (ev cs c false ρ h).bind fun z h => (match cmpV p y z h with | some k => .ok (.bl k) h | none => .stuck)
      | some false => .ok (.bl false) h
      | none => .stuck
  | .band es, t, ρ, h => evAnd cs es t ρ h
  | .bor es, t, ρ, h => evOr cs es t ρ h
  | .bnot a, t, ρ, h => (ev cs a t ρ h).bind fun x h => match (if t then blOf x else truV x h) with | some k => .ok (.bl (!k)) h | none => .stuck
  | .ite c a b, t, ρ, h => if t then .stuck else (ev cs c true ρ h).bind fun x h => match x with
      | .bl true => ev cs a false ρ h
      | .bl false => ev cs b false ρ h
      | _ => .stuck
  | .tup es, t, ρ, h => tr t ((evs cs es ρ h).bind fun ds h => mkT ds h)
  | .lst cell es, t, ρ, h => tr t ((evs cs es ρ h).bind fun ds h => mkL cell ds h)
  | .ix a i, t, ρ, h => tr t ((ev cs a false ρ h).bind fun x h => (ev cs i false ρ h).bind fun y h => ixV x y h)
  | .slice cell a lo hi, t, ρ, h => tr t ((ev cs a false ρ h).bind fun x h => (evo cs lo ρ h).bind fun l h => (evo cs hi ρ h).bind fun u h => slV cell x l u h)
  | .call f es, t, ρ, h => tr t ((evs cs es ρ h).bind fun ds h => cs.fn f ds h)
  | .cst f es, t, ρ, h => tr t ((evs cs es ρ h).bind fun ds h => cs.fn f ds h)
  | .sti f c a es, t, ρ, h => tr t ((ev cs a false ρ h).bind fun x h => match x with
      | .obj c' _ => if c' = c then (evs cs es ρ h).bind fun ds h => cs.fn f ds h else .stuck
      | _ => .stuck)
  | .ccon f, t, ρ, h => tr t (.ok (cs.con f).d h)
  | .bif b es, t, ρ, h => tr t ((evs cs es ρ h).bind fun ds h => bifL false b ds h)
  | .isb a y, t, ρ, h => tr t ((ev cs a false ρ h).bind fun x h => match isbV y h x with | some k => .ok (.bl k) h | none => .stuck)
  | .comp cell it tg one cond elt own, t, ρ, h => tr t ((evI cs it ρ h).bind fun I h => match I.items h with
      | none => .stuck
      | some all => (compGo I all (fun d h => match bindT tg one d (wipeD ρ (own.map (·.2))) with
          | none => .stuck
          | some ρ => (evc cs cond ρ h).bind fun k h => if k then (ev cs elt false ρ h).bind fun y h => .ok (some y) h else .ok none h) all [] h).bind fun ds h => mkL cell ds h)
  | .seq _, _, _, _ => .stuck
  | .rng _, _, _, _ => .stuck
  | .enum _, _, _, _ => .stuck
  | .zip _ _, _, _, _ => .stuck
  | .rev _, _, _, _ => .stuck
noncomputable def evs (cs : Cs) : List E → Env' → AH → R (List D)
  | [], _, h => .ok [] h
  | e :: es, ρ, h => (ev cs e false ρ h).bind fun d h => (evs cs es ρ h).bind fun ds h => .ok (d :: ds) h
noncomputable def evo (cs : Cs) : Option E → Env' → AH → R (Option Int)
  | none, _, h => .ok none h
  | some e, ρ, h => (ev cs e false ρ h).bind fun d h => match d with | .int i => .ok (some i) h | _ => .stuck
noncomputable def evc (cs : Cs) : Option E → Env' → AH → R Bool
  | none, _, h => .ok true h
  | some e, ρ, h => (ev cs e true ρ h).bind fun d h => match d with | .bl b => .ok b h | _ => .stuck
noncomputable def evAnd (cs : Cs) : List E → Bool → Env' → AH → R D
  | [], _, _, _ => .stuck
  | [e], t, ρ, h => ev cs e t ρ h
  | e :: f :: es, t, ρ, h => (ev cs e t ρ h).bind fun d h => match d with
      | .bl true => evAnd cs (f :: es) t ρ h
      | .bl false => .ok (.bl false) h
      | _ => .stuck
noncomputable def evOr (cs : Cs) : List E → Bool → Env' → AH → R D
  | [], _, _, _ => .stuck
  | [e], t, ρ, h => ev cs e t ρ h
  | e :: f :: es, t, ρ, h => (ev cs e t ρ h).bind fun d h => match d with
      | .bl true => .ok (.bl true) h
      | .bl false => evOr cs (f :: es) t ρ h
      | _ => .stuck
/-- what is walked -/
noncomputable def evI (cs : Cs) : E → Env' → AH → R Itr
  | .rng es, ρ, h => (evs cs es ρ h).bind fun ds h => match ds with
      | [.int j] => if -(2 ^ 60) ≤ j ∧ j < 2 ^ 60 then .ok (.rng 0 1 j.toNat) h else .stuck
      | [.int i, .int j] => if (-(2 ^ 60) ≤ i ∧ i < 2 ^ 60) ∧ (-(2 ^ 60) ≤ j ∧ j < 2 ^ 60) then .ok (.rng i 1 (j - i).toNat) h else .stuck
      | [.int i, .int j, .int c] => if (-(2 ^ 60) ≤ i ∧ i < 2 ^ 60) ∧ (-(2 ^ 60) ≤ j ∧ j < 2 ^ 60) ∧ c = -1 then .ok (.rng i (-1) (i - j).toNat) h else .stuck
      | _ => .stuck
  | .enum a, ρ, h => (ev cs a false ρ h).bind fun d h => ckI (.enum d) h
  | .zip a b, ρ, h => (ev cs a false ρ h).bind fun d h => (ev cs b false ρ h).bind fun e h => ckI (.zip d e) h
  | .rev a, ρ, h => (ev cs a false ρ h).bind fun d h => ckI (.rev d) h
  | .seq a, ρ, h => (ev cs a false ρ h).bind fun d h => ckI (.seq d) h
  | _, _, _ => .stuck
end

/-! ### statements -/
inductive SR where
  | nx (ρ : Env') (h : AH) | rt (d : D) (h : AH) | bk (ρ : Env') (h : AH) | ct (ρ : Env') (h : AH) | ex (x : Exn) (ρ : Env') (h : AH) | stuck
def R.sr {α : Type} (ρ : Env') : R α → (α → AH → SR) → SR
  | .ok a h, f => f a h
  | .ex x h, _ => .ex x ρ h
  | .stuck, _ => .stuck
@[simp] theorem R.sr_ok {α : Type} (ρ : Env') (a : α) (h : AH) (f : α → AH → SR) : (R.ok a h).sr ρ f = f a h := rfl
@[simp] theorem R.sr_stuck {α : Type} (ρ : Env') (f : α → AH → SR) : (R.stuck : R α).sr ρ f = .stuck := rfl
@[simp] theorem R.sr_ex {α : Type} (ρ : Env') (x : Exn) (h : AH) (f : α → AH → SR) : (R.ex x h : R α).sr ρ f = .ex x ρ h := rfl
def noEx {α : Type} : R α → R α
  | .ex _ _ => .stuck
  | r => r
def setV (x y d : D) (ρ : Env') (h : AH) : R Env' := match x, y with
      | .ref n, .int k => (match h[n]? with
        | some (.lst ds) => (match setIx ds k d with | some ds => .ok ρ (h.set n (.lst ds)) | none => .stuck)
        | _ => .stuck)
      | _, _ => .stuck
mutual
noncomputable def asG (cs : Cs) : G → D → Env' → AH → R Env'
  | .name i, d, ρ, h => .ok (ρ.set i (some d)) h
  | .tup gs, d, ρ, h => match d with | .tup ds => asGs cs gs ds ρ h | _ => .stuck
  | .sub o i, d, ρ, h => noEx ((ev cs o false ρ h).bind fun x h => (ev cs i false ρ h).bind fun y h => setV x y d ρ h)
noncomputable def asGs (cs : Cs) : List G → List D → Env' → AH → R Env'
  | [], [], ρ, h => .ok ρ h
  | g :: gs, d :: ds, ρ, h => match asG cs g d ρ h with | .ok ρ h => asGs cs gs ds ρ h | _ => .stuck
  | _, _, _, _ => .stuck
end
open Classical in
noncomputable def forGo (it : Itr) (all : List D) (f : D → Env' → AH → SR) : List D → Env' → AH → SR
  | [], ρ, h => if it.items h = some all then .nx ρ h else .stuck
  | d :: ds, ρ, h => if it.items h = some all then
      (match f d ρ h with
      | .nx ρ h => forGo it all f ds ρ h
      | .ct ρ h => forGo it all f ds ρ h
      | .bk ρ h => .nx ρ h
      | r => r)
    else .stuck
noncomputable def whlGo (c : Env' → AH → R D) (f : Env' → AH → SR) : Nat → Env' → AH → SR
  | 0, _, _ => .stuck
  | n + 1, ρ, h => (c ρ h).sr ρ fun d h => match d with
      | .bl true => (match f ρ h with
        | .nx ρ h => whlGo c f n ρ h
        | .ct ρ h => whlGo c f n ρ h
        | .bk ρ h => .nx ρ h
        | r => r)
      | .bl false => .nx ρ h
      | _ => .stuck
def appV (x d : D) (ρ : Env') (h : AH) : SR := match x with
      | .ref n => (match h[n]? with
        | some (.lst ds) => if ds.length < lim then .nx ρ (h.set n (.lst (ds ++ [d]))) else .stuck
        | _ => .stuck)
      | _ => .stuck
mutual
noncomputable def exS (cs : Cs) : S → Env' → AH → SR
  | .asg g e, ρ, h => (ev cs e false ρ h).sr ρ fun d h => (asG cs g d ρ h).sr ρ fun ρ h => .nx ρ h
  | .exp e, ρ, h => (ev cs e false ρ h).sr ρ fun _ h => .nx ρ h
  | .ret e, ρ, h => (ev cs e false ρ h).sr ρ fun d h => .rt d h
  | .retN, ρ, h => .rt .non h
  | .iff c a b, ρ, h => (ev cs c true ρ h).sr ρ fun d h => match d with
      | .bl true => exSs cs a ρ h
      | .bl false => exSs cs b ρ h
      | _ => .stuck
  | .for tg one it body, ρ, h => (evI cs it ρ h).sr ρ fun I h => match I.items h with
      | none => .stuck
      | some all => forGo I all (fun d ρ h => match bindT tg one d ρ with | some ρ => exSs cs body ρ h | none => .stuck) all ρ h
  | .whl n c body, ρ, h => whlGo (ev cs c true) (exSs cs body) n ρ h
  | .app o e, ρ, h => (ev cs o false ρ h).sr ρ fun x h => if (asLst h x).isSome then (ev cs e false ρ h).sr ρ fun d h => appV x d ρ h else .stuck
  | .pass, ρ, h => .nx ρ h
  | .cont, ρ, h => .ct ρ h
  | .brk, ρ, h => .bk ρ h
  | .never, _, _ => .stuck
noncomputable def exSs (cs : Cs) : List S → Env' → AH → SR
  | [], ρ, h => .nx ρ h
  | s :: ss, ρ, h => match exS cs s ρ h with
      | .nx ρ h => exSs cs ss ρ h
      | r => r
end
end Sm

/-! Each operation by values is sound. -/
namespace Sm
open PySem L2

theorem lim_le {n : Nat} (h : n ≤ lim) : n ≤ sizeLine := Nat.le_trans h (by decide)
theorem lim_lt {n : Nat} (h : n < lim) : n < sizeLine := Nat.lt_trans h (by decide)

section
variable {g : Gi} {a b : Vw} {h : AH} {d : D} {v : V} {ds es : List D}
theorem RepV.int_inv {i : Int} (r : RepV g a (.int i) v) : v = .int i := by simpa [RepV] using r
theorem RepV.bl_inv {i : Bool} (r : RepV g a (.bl i) v) : v = .bl i := by simpa [RepV] using r
theorem RepV.str_inv {i : Str} (r : RepV g a (.str i) v) : v = .str i := by simpa [RepV] using r
theorem RepV.non_inv (r : RepV g a .non v) : v = .non := by simpa [RepV] using r
theorem RepV.int (i : Int) : RepV g a (.int i) (.int i) := by simp [RepV]
theorem RepV.bl (i : Bool) : RepV g a (.bl i) (.bl i) := by simp [RepV]
theorem RepV.str (i : Str) : RepV g a (.str i) (.str i) := by simp [RepV]
theorem RepV.non : RepV g a .non .non := by simp [RepV]
theorem RepV.tup_inv (r : RepV g a (.tup ds) v) : ∃ p vs, v = .ref p ∧ ¬ a.M p ∧ a.H p = some (.tup vs) ∧ RepVs g a ds vs := by simpa [RepV] using r
theorem RepV.lst_inv (r : RepV g a (.lst ds) v) : ∃ p vs, v = .ref p ∧ ¬ a.M p ∧ a.H p = some (.lst vs) ∧ RepVs g a ds vs := by simpa [RepV] using r
theorem RepV.ro_inv (r : RepV g a (.ro ds) v) : ∃ p vs, v = .ref p ∧ ((¬ a.M p ∧ ∃ o, a.H p = some (.frz o (.lst vs))) ∨ g.kl p vs) ∧ RepVs g a ds vs := by simpa [RepV] using r
theorem RepV.ref_inv {n : Nat} (r : RepV g a (.ref n) v) : ∃ p, v = .ref p ∧ a.m[n]? = some p := by simpa [RepV] using r
theorem RepV.obj_inv {c : Nat} (r : RepV g a (.obj c ds) v) : ∃ p dx vs, v = .ref p ∧ ¬ a.M p ∧ Ins g a c p dx vs ∧ vs.length ≤ (g.fn c).length ∧ RepVs g a ds vs := by simpa [RepV] using r

/-- a list, frozen or a cell -/
theorem lst_rep (hr : HeapRel g a h) (r : RepV g a d v) (e : asLst h d = some ds) : ∃ p vs, v = .ref p ∧ a.H p = some (.lst vs) ∧ RepVs g a ds vs := by
  cases d with
  | lst xs =>
    simp [asLst] at e; subst e
    obtain ⟨p, vs, h1, _, h2, h3⟩ := r.lst_inv
    exact ⟨p, vs, h1, h2, h3⟩
  | ref n =>
    obtain ⟨p, rfl, hp⟩ := r.ref_inv
    simp only [asLst] at e
    split at e
    · rename_i xs q
      cases e
      obtain ⟨vs, h1, h2⟩ := hr.rep n _ p q hp
      exact ⟨p, vs, rfl, h1, h2⟩
    · cases e
  | non => simp [asLst] at e
  | bl _ => simp [asLst] at e
  | int _ => simp [asLst] at e
  | str _ => simp [asLst] at e
  | tup _ => simp [asLst] at e
  | obj _ _ => simp [asLst] at e
  | ro _ => simp [asLst] at e
theorem seq_rep (hr : HeapRel g a h) (r : RepV g a d v) (e : asSeq h d = some ds) : ∃ p vs, v = .ref p ∧ (a.H p = some (.lst vs) ∨ a.H p = some (.tup vs)) ∧ RepVs g a ds vs := by
  by_cases ht : ∃ xs, d = .tup xs
  · obtain ⟨xs, rfl⟩ := ht
    simp [asSeq] at e; subst e
    obtain ⟨p, vs, h1, _, h2, h3⟩ := r.tup_inv
    exact ⟨p, vs, h1, .inr h2, h3⟩
  · have e' : asLst h d = some ds := by
      cases d <;> first | exact e | exact absurd ⟨_, rfl⟩ ht
    obtain ⟨p, vs, h1, h2, h3⟩ := lst_rep hr r e'
    exact ⟨p, vs, h1, .inl h2, h3⟩
theorem RepV.add_lst (hr : HeapRel g a h) {p : Addr} {vs : List V} (e : a.H p = none) (r : RepVs g a ds vs) : RepV g (a.add p (.lst vs)) (.lst ds) (.ref p) := by
  simp only [RepV]
  obtain ⟨h1, h2⟩ := hr.new e
  exact ⟨p, vs, rfl, fun z => z.elim h1 h2, upd_same, r.mono (.add hr _ e)⟩
theorem RepV.add_tup (hr : HeapRel g a h) {p : Addr} {vs : List V} (e : a.H p = none) (r : RepVs g a ds vs) : RepV g (a.add p (.tup vs)) (.tup ds) (.ref p) := by
  simp only [RepV]
  obtain ⟨h1, h2⟩ := hr.new e
  exact ⟨p, vs, rfl, fun z => z.elim h1 h2, upd_same, r.mono (.add hr _ e)⟩
/-- a new list -/
theorem mkL_post {cell : Bool} {W : XW} {Q : VK} {vs : List V} (hr : HeapRel g a h) (r : RepVs g a ds vs) (p : Post g a (RepV g) W Q (mkL cell ds h)) : vs.length ≤ lim ∧ ∀ p, a.H p = none → Q (.ref p) (upd a.H p (.lst vs)) := by
  unfold mkL at p
  split at p
  · rename_i hl
    rw [r.length]
    refine ⟨hl, fun q hq => ?_⟩
    cases cell with
    | false => exact p (.ref q) (a.add q (.lst vs)) (.add hr _ hq) (.add hr _ hq) (.add_lst hr hq r)
    | true =>
      refine p (.ref q) (a.addC q (.lst vs)) (.addC hr _ hq) (.addC hr hq ⟨vs, rfl, r.mono (.addC hr _ hq)⟩) ?_
      simp only [RepV]
      refine ⟨q, rfl, ?_⟩
      show (a.m ++ [q])[h.length]? = some q
      rw [List.getElem?_append_right (by rw [hr.len]; exact Nat.le_refl _), hr.len]
      simp
  · exact p.elim
theorem mkT_post {W : XW} {Q : VK} {vs : List V} (hr : HeapRel g a h) (r : RepVs g a ds vs) (p : Post g a (RepV g) W Q (mkT ds h)) : vs.length ≤ lim ∧ ∀ p, a.H p = none → Q (.ref p) (upd a.H p (.tup vs)) := by
  unfold mkT at p
  split at p
  · rename_i hl
    rw [r.length]
    exact ⟨hl, fun q hq => p (.ref q) (a.add q (.tup vs)) (.add hr _ hq) (.add hr _ hq) (.add_tup hr hq r)⟩
  · exact p.elim
/-- a result as it is -/
theorem ok_post {W : XW} {Q : VK} (hr : HeapRel g a h) (r : RepV g a d v) (p : Post g a (RepV g) W Q (.ok d h)) : Q v a.H := p v a (.refl a) hr r
theorem ok_tup {W : XW} {Q : VK} {vs : List V} (hr : HeapRel g a h) (r : RepVs g a ds vs) (p : Post g a (RepV g) W Q (.ok (.tup ds) h)) : ∀ p, a.H p = none → Q (.ref p) (upd a.H p (.tup vs)) := fun q hq =>
  p (.ref q) (a.add q (.tup vs)) (.add hr _ hq) (.add hr _ hq) (.add_tup hr hq r)
theorem ok_lst {W : XW} {Q : VK} {vs : List V} (hr : HeapRel g a h) (r : RepVs g a ds vs) (p : Post g a (RepV g) W Q (.ok (.lst ds) h)) : ∀ p, a.H p = none → Q (.ref p) (upd a.H p (.lst vs)) := fun q hq =>
  p (.ref q) (a.add q (.lst vs)) (.add hr _ hq) (.add hr _ hq) (.add_lst hr hq r)
end

def opOf : Bop → Operator
  | .add => .Add | .sub => .Sub | .mul => .Mult | .fdiv => .FloorDiv | .mod => .Mod | .pow => .Pow | .shl => .LShift | .shr => .RShift | .and => .BitAnd | .or => .BitOr
def cmOf : Cop → CmpOp
  | .eq => .Eq | .ne => .NotEq | .lt => .Lt | .le => .LtE | .gt => .Gt | .ge => .GtE | .is => .Is | .isnot => .IsNot | .inn => .In | .notin => .NotIn

def W0 : XW := fun _ _ _ => False
theorem mulOk_ok {i j : Int} (h : mulOk i j = true) : CMulW i j := by
  unfold mulOk at h
  simp only [Bool.and_eq_true, decide_eq_true_eq] at h
  have bd : ∀ x : Int, x.natAbs < big → x.natAbs.log2 < 4000 := fun x hx => by
    by_cases h0 : x.natAbs = 0
    · rw [h0]; simp
    · exact (Nat.log2_lt h0).mpr (by unfold big at hx; exact hx)
  have h1 := bd i h.1
  have h2 := bd j h.2
  show i.natAbs.log2 + j.natAbs.log2 < 1000000
  omega
section
variable {X : Cx} {g : Gi}
/-- the operator's rule, read from what it does to data -/
def rBin (g : Gi) (o : Bop) : R2 := fun x y H Q => ∃ a h d e, a.H = H ∧ HeapRel g a h ∧ RepV g a d x ∧ RepV g a e y ∧ Post g a (RepV g) W0 Q (binV o d e h)
theorem binI_run {o : Bop} {i j k : Int} (e : binI o i j = some k) : ∀ (pins : List (Addr × Obj)) (s : Shared) (σ : L2.St) (H : Hp) (v u : Value) (Q : VK),
    Inv X pins σ H s → RelV (.int i) v → RelV (.int j) u → Q (.int k) H → wpAny (model X.prog X.w) X.A (binaryOp (opOf o) v u) (EP X pins σ Q) X.xe s := by
  intro pins s σ H v u Q I r1 r2 q
  cases o with
  | add => cases e; exact op_add pins s σ H _ _ v u Q I r1 r2 ⟨i, j, rfl, rfl, q⟩
  | sub => cases e; exact op_sub pins s σ H _ _ v u Q I r1 r2 ⟨i, j, rfl, rfl, q⟩
  | mul =>
    simp only [binI] at e
    split at e
    · rename_i hm; cases e; exact op_mulW pins s σ H _ _ v u Q I r1 r2 ⟨i, j, rfl, rfl, mulOk_ok hm, q⟩
    · cases e
  | fdiv =>
    simp only [binI] at e
    split at e
    · rename_i hm; cases e; exact op_fdivW pins s σ H _ _ v u Q I r1 r2 ⟨i, j, rfl, rfl, wide_div hm.1 (b := 4000) hm.2 (by decide) (by decide), q⟩
    · cases e
  | mod =>
    simp only [binI] at e
    split at e
    · rename_i hm; cases e; exact op_mod pins s σ H _ _ v u Q I r1 r2 ⟨i, j, rfl, rfl, hm, q⟩
    · cases e
  | pow =>
    simp only [binI] at e
    split at e
    · rename_i hm; cases e; exact op_pow pins s σ H _ _ v u Q I r1 r2 ⟨i, j, rfl, rfl, ⟨hm.1, by omega, hm.2.2⟩, q⟩
    · cases e
  | shl =>
    simp only [binI] at e
    split at e
    · rename_i hm; cases e; exact op_shl pins s σ H _ _ v u Q I r1 r2 ⟨i, j, rfl, rfl, ⟨hm.1, by omega, hm.2.2⟩, q⟩
    · cases e
  | shr =>
    simp only [binI] at e
    split at e
    · rename_i hm; cases e; exact op_shr pins s σ H _ _ v u Q I r1 r2 ⟨i, j, rfl, rfl, hm, q⟩
    · cases e
  | and => cases e; exact op_and pins s σ H _ _ v u Q I r1 r2 ⟨i, j, rfl, rfl, q⟩
  | or => cases e; exact op_or pins s σ H _ _ v u Q I r1 r2 ⟨i, j, rfl, rfl, q⟩
theorem flatten_rep_length {α : Type} (k : Nat) (xs : List α) : (List.replicate k xs).flatten.length = xs.length * k := by
  simp [Nat.mul_comm]
theorem opr_bin (o : Bop) : OpR X (binaryOp (opOf o)) (rBin g o) := by
  intro pins s σ H x y v u Q I r1 r2 hh
  obtain ⟨a, h, d, e, rfl, hr, rd, re, p⟩ := hh
  unfold binV at p
  split at p
  · rename_i i j
    cases rd.int_inv; cases re.int_inv
    split at p
    · rename_i k hk
      exact binI_run hk pins s σ _ v u Q I r1 r2 (ok_post hr (.int k) p)
    · exact p.elim
  · rename_i i j
    cases rd.str_inv; cases re.str_inv
    split at p
    · split at p
      · rename_i hl
        exact op_add_str pins s σ _ _ _ v u Q I r1 r2 ⟨i, j, rfl, rfl, lim_le hl, ok_post hr (.str _) p⟩
      · exact p.elim
    · exact p.elim
  · rename_i xs ys
    obtain ⟨q1, vs, rfl, m1, h1, s1⟩ := rd.tup_inv
    obtain ⟨q2, ws, rfl, m2, h2, s2⟩ := re.tup_inv
    split at p
    · split at p
      · rename_i hl
        refine op_catA pins s σ _ _ _ v u Q I r1 r2 ⟨q1, q2, vs, ws, rfl, rfl, SqT.of h1, SqT.of h2, by rw [s1.length, s2.length]; exact lim_le hl, fun z => ?_, fun z z2 => ?_, fun z z2 => ?_⟩
        · subst z
          have : xs = [] := by have := s1.length; simpa using this.symm
          subst this
          exact ok_post hr (by simpa using re) p
        · subst z2
          have : ys = [] := by have := s2.length; simpa using this.symm
          subst this
          exact ok_post hr (by simpa using rd) p
        · exact ok_tup hr (s1.append s2) p
      · exact p.elim
    · exact p.elim
  · rename_i n1 n2 n3
    clear n1 n2 n3
    unfold binL at p
    split at p
    · rename_i xs ys e1 e2
      obtain ⟨q1, vs, rfl, h1, s1⟩ := lst_rep hr rd e1
      obtain ⟨q2, ws, rfl, h2, s2⟩ := lst_rep hr re e2
      split at p
      · rename_i hl
        exact op_cat pins s σ _ _ _ v u Q I r1 r2 ⟨q1, q2, vs, ws, rfl, rfl, h1, h2, by rw [s1.length, s2.length]; exact lim_le hl, ok_lst hr (s1.append s2) p⟩
      · exact p.elim
    · rename_i xs k e1 e2
      obtain ⟨q1, vs, rfl, h1, s1⟩ := lst_rep hr rd e1
      cases re.int_inv
      split at p
      · rename_i hl
        obtain ⟨l1, l2, l3⟩ := hl
        exact op_rep pins s σ _ _ _ v u Q I r1 r2 ⟨q1, k, vs, rfl, rfl, h1, by omega, by omega, by rw [s1.length]; exact lim_le l3, ok_lst hr (s1.flatRep _) p⟩
      · exact p.elim
    · exact p.elim

theorem mapO_dp {f : D → Option PyData} {a : Vw} (hf : ∀ d v z, f d = some z → RepV g a d v → Dp X.K a.H v z) : ∀ {ds : List D} {vs : List V} {zs : List PyData}, mapO f ds = some zs → RepVs g a ds vs → DpAll X.K a.H vs zs
  | [], vs, zs, e, r => by
    simp only [mapO] at e; cases e
    simp only [RepVs] at r; subst r
    exact .nil
  | d :: ds, vs, zs, e, r => by
    simp only [mapO] at e
    simp only [RepVs] at r
    obtain ⟨v, r', rfl, h1, h2⟩ := r
    split at e
    · rename_i y ys e1 e2
      cases e
      exact .cons (hf _ _ _ e1 h1) (mapO_dp hf e2 h2)
    · cases e
theorem toPy_dp {a : Vw} {h : AH} (hr : HeapRel g a h) : ∀ {n : Nat} {d : D} {v : V} {z : PyData}, toPy h n d = some z → RepV g a d v → Dp X.K a.H v z
  | 0, _, _, _, e, _ => by simp [toPy] at e
  | n + 1, d, v, z, e, r => by
    have ih : ∀ d v z, toPy h n d = some z → RepV g a d v → Dp X.K a.H v z := fun d v z e r => toPy_dp hr e r
    cases d with
    | non => simp only [toPy] at e; cases e; cases r.non_inv; exact .non
    | bl b => simp only [toPy] at e; cases e; cases r.bl_inv; exact .bl b
    | int b => simp only [toPy] at e; cases e; cases r.int_inv; exact .int b
    | str b => simp only [toPy] at e; cases e; cases r.str_inv; exact .str b
    | tup ds =>
      simp only [toPy, Option.map_eq_some_iff] at e
      obtain ⟨zs, e1, rfl⟩ := e
      obtain ⟨p, vs, rfl, _, h1, h2⟩ := r.tup_inv
      exact .tup (SqT.of h1) (mapO_dp ih e1 h2)
    | lst ds =>
      simp only [toPy, Option.map_eq_some_iff] at e
      obtain ⟨zs, e1, rfl⟩ := e
      obtain ⟨p, vs, rfl, _, h1, h2⟩ := r.lst_inv
      exact .lst (SqL.of h1) (mapO_dp ih e1 h2)
    | ref k =>
      simp only [toPy] at e
      split at e
      · rename_i ds q
        simp only [Option.map_eq_some_iff] at e
        obtain ⟨zs, e1, rfl⟩ := e
        obtain ⟨p, rfl, hp⟩ := r.ref_inv
        obtain ⟨vs, h1, h2⟩ := hr.rep k _ p q hp
        exact .lst (SqL.of h1) (mapO_dp ih e1 h2)
      · cases e
    | obj _ _ => simp [toPy] at e
    | ro _ => simp [toPy] at e
def rCmp (g : Gi) (o : Cop) : R2 := fun x y H Q => ∃ a h d e k, a.H = H ∧ HeapRel g a h ∧ RepV g a d x ∧ RepV g a e y ∧ cmpV o d e h = some k ∧ Q (.bl k) H
theorem eqV_run {a : Vw} {h : AH} {d e : D} {k : Bool} (hu : X.A.units + 64 < cLine) (hr : HeapRel g a h) (ek : eqV h d e = some k) (neg : Bool) : ∀ (pins : List (Addr × Obj)) (s : Shared) (σ : L2.St) (x y : V) (v u : Value) (Q : VK),
    Inv X pins σ a.H s → RelV x v → RelV y u → RepV g a d x → RepV g a e y → Q (.bl (if neg then !k else k)) a.H → wpAny (model X.prog X.w) X.A (compareOp (if neg then .NotEq else .Eq) v u) (EP X pins σ Q) X.xe s := by
  intro pins s σ x y v u Q I r1 r2 rd re q
  have sc : ∀ (hs : scal x y = true) (hk : k = decide (x = y)), wpAny (model X.prog X.w) X.A (compareOp (if neg then .NotEq else .Eq) v u) (EP X pins σ Q) X.xe s := fun hs hk => by
    subst hk
    cases neg with
    | true => exact op_ne pins s σ _ x y v u Q I r1 r2 ⟨hs, q⟩
    | false => exact op_eq pins s σ _ x y v u Q I r1 r2 ⟨hs, q⟩
  unfold eqV at ek
  split at ek
  · cases rd.int_inv; cases re.int_inv; cases ek; exact sc rfl (by simp)
  · cases rd.bl_inv; cases re.bl_inv; cases ek; exact sc rfl (by simp)
  · cases rd.str_inv; cases re.str_inv; cases ek; exact sc rfl (by simp)
  · rename_i n1 n2 n3
    clear n1 n2 n3
    split at ek
    · rename_i zd ze h1 h2
      split at ek
      · rename_i hs
        cases ek
        simp only [Bool.and_eq_true] at hs
        have d1 := toPy_dp (X := X) hr h1 rd
        have d2 := toPy_dp (X := X) hr h2 re
        cases neg with
        | true => exact op_neD hu pins s σ _ x y v u Q I r1 r2 ⟨zd, ze, d1, d2, hs.1, hs.2, q⟩
        | false => exact op_eqD hu pins s σ _ x y v u Q I r1 r2 ⟨zd, ze, d1, d2, hs.1, hs.2, q⟩
      · cases ek
    · cases ek
theorem isNon_eq {a : Vw} {d : D} {x : V} (r : RepV g a d x) : isNon d = decide (x = .non) := by
  cases d with
  | non => cases r.non_inv; rfl
  | bl _ => cases r.bl_inv; rfl
  | int _ => cases r.int_inv; rfl
  | str _ => cases r.str_inv; rfl
  | tup _ => obtain ⟨p, _, rfl, _⟩ := r.tup_inv; rfl
  | lst _ => obtain ⟨p, _, rfl, _⟩ := r.lst_inv; rfl
  | obj _ _ => obtain ⟨p, _, _, rfl, _⟩ := r.obj_inv; rfl
  | ro _ => obtain ⟨p, _, rfl, _⟩ := r.ro_inv; rfl
  | ref _ => obtain ⟨p, rfl, _⟩ := r.ref_inv; rfl
theorem inV_run {a : Vw} {h : AH} {d e : D} {k : Bool} (hu : X.A.units + 65 < cLine) (hr : HeapRel g a h) (ek : inV h d e = some k) (neg : Bool) : ∀ (pins : List (Addr × Obj)) (s : Shared) (σ : L2.St) (x y : V) (v u : Value) (Q : VK),
    Inv X pins σ a.H s → RelV x v → RelV y u → RepV g a d x → RepV g a e y → Q (.bl (if neg then !k else k)) a.H → wpAny (model X.prog X.w) X.A (compareOp (if neg then .NotIn else .In) v u) (EP X pins σ Q) X.xe s := by
  intro pins s σ x y v u Q I r1 r2 rd re q
  unfold inV at ek
  split at ek
  · rename_i i j
    cases rd.str_inv; cases re.str_inv; cases ek
    cases neg with
    | true => exact op_notin_str pins s σ _ _ _ v u Q I r1 r2 ⟨i, j, rfl, rfl, q⟩
    | false => exact op_in_str pins s σ _ _ _ v u Q I r1 r2 ⟨i, j, rfl, rfl, q⟩
  · rename_i n1
    clear n1
    split at ek
    · rename_i zd zs h1 h2
      split at ek
      · rename_i hs
        cases ek
        simp only [Bool.and_eq_true] at hs
        simp only [Option.bind_eq_some_iff] at h2
        obtain ⟨ds, h2, h3⟩ := h2
        have d1 := toPy_dp (X := X) hr h1 rd
        obtain ⟨p, vs, rfl, hp, rs⟩ := seq_rep hr re h2
        have dl : DpAll X.K a.H vs zs := mapO_dp (fun d v z e r => toPy_dp hr e r) h3 rs
        have key : Dp X.K a.H (.ref p) (.list zs) → wpAny (model X.prog X.w) X.A (compareOp (if neg then .NotIn else .In) v u) (EP X pins σ Q) X.xe s := fun d2 => by
          cases neg with
          | true => exact op_notInD hu pins s σ _ x _ v u Q I r1 r2 ⟨zd, zs, d1, d2, hs.1, hs.2, q⟩
          | false => exact op_inD hu pins s σ _ x _ v u Q I r1 r2 ⟨zd, zs, d1, d2, hs.1, hs.2, q⟩
        rcases hp with hp | hp
        · exact key (.lst (SqL.of hp) dl)
        · have d2 : Dp X.K a.H (.ref p) (.tuple zs) := .tup (SqT.of hp) dl
          have sd := hs.1
          have se : SeqAt.shaped (.tuple zs) = true := by
            have := hs.2
            simp only [SeqAt.shaped, PyData.canLay0, PyData.depth] at this ⊢
            exact this
          obtain ⟨as, q1⟩ := Dp.reads I zd x v d1 r1
          obtain ⟨bs, q2⟩ := Dp.reads I (.tuple zs) _ u d2 r2
          have hu' := hu
          cases neg with
          | true => exact SeqAt.notIn_tuple_reads q2 q1 (SeqAt.canLay_of_shaped se) (SeqAt.canLay_of_shaped sd) (PyProof.Rows.room_in_shaped sd hu') ⟨.bl _, a.H, I, rfl, q⟩
          | false => exact SeqAt.in_tuple_reads q2 q1 (SeqAt.canLay_of_shaped se) (SeqAt.canLay_of_shaped sd) (PyProof.Rows.room_in_shaped sd hu') ⟨.bl _, a.H, I, rfl, q⟩
      · cases ek
    · cases ek

theorem opr_cmp (hu : X.A.units + 65 < cLine) (o : Cop) : OpR X (compareOp (cmOf o)) (rCmp g o) := by
  intro pins s σ H x y v u Q I r1 r2 hh
  obtain ⟨a, h, d, e, k, rfl, hr, rd, re, ek, q⟩ := hh
  have hu' : X.A.units + 64 < cLine := by omega
  cases o with
  | eq => exact eqV_run hu' hr ek false pins s σ x y v u Q I r1 r2 rd re q
  | ne =>
    simp only [cmpV, Option.map_eq_some_iff] at ek
    obtain ⟨k', e1, rfl⟩ := ek
    exact eqV_run hu' hr e1 true pins s σ x y v u Q I r1 r2 rd re q
  | lt =>
    simp only [cmpV] at ek
    split at ek
    · cases ek; cases rd.int_inv; cases re.int_inv
      exact op_lt pins s σ _ _ _ v u Q I r1 r2 ⟨_, _, rfl, rfl, q⟩
    · cases ek
  | le =>
    simp only [cmpV] at ek
    split at ek
    · cases ek; cases rd.int_inv; cases re.int_inv
      exact op_le pins s σ _ _ _ v u Q I r1 r2 ⟨_, _, rfl, rfl, q⟩
    · cases ek
  | gt =>
    simp only [cmpV] at ek
    split at ek
    · cases ek; cases rd.int_inv; cases re.int_inv
      exact op_gt pins s σ _ _ _ v u Q I r1 r2 ⟨_, _, rfl, rfl, q⟩
    · cases ek
  | ge =>
    simp only [cmpV] at ek
    split at ek
    · cases ek; cases rd.int_inv; cases re.int_inv
      exact op_ge pins s σ _ _ _ v u Q I r1 r2 ⟨_, _, rfl, rfl, q⟩
    · cases ek
  | is =>
    simp only [cmpV] at ek
    split at ek
    · cases ek; cases re.non_inv
      exact op_isN pins s σ _ _ _ v u Q I r1 r2 ⟨rfl, by rw [← isNon_eq rd]; exact q⟩
    · cases ek
  | isnot =>
    simp only [cmpV] at ek
    split at ek
    · cases ek; cases re.non_inv
      exact op_notN pins s σ _ _ _ v u Q I r1 r2 ⟨rfl, by rw [← isNon_eq rd]; exact q⟩
    · cases ek
  | inn => exact inV_run hu hr ek false pins s σ x y v u Q I r1 r2 rd re q
  | notin =>
    simp only [cmpV, Option.map_eq_some_iff] at ek
    obtain ⟨k', e1, rfl⟩ := ek
    exact inV_run hu hr e1 true pins s σ x y v u Q I r1 r2 rd re q
/-! ### subscripts -/
theorem atI_rep {a : Vw} {ds : List D} {vs : List V} {i : Int} {d : D} (r : RepVs g a ds vs) (e : atI ds i = some d) : ∃ v, atI vs i = some v ∧ RepV g a d v := by
  unfold atI at e ⊢
  rw [r.length]
  simp only [Option.bind_eq_some_iff] at e ⊢
  obtain ⟨j, e1, e2⟩ := e
  obtain ⟨v, h1, h2⟩ := r.get e2
  exact ⟨v, ⟨j, e1, h1⟩, h2⟩
def rIxD (g : Gi) : R2 := fun x y H Q => ∃ a h d e, a.H = H ∧ HeapRel g a h ∧ RepV g a d x ∧ RepV g a e y ∧ Post g a (RepV g) W0 Q (ixV d e h)
theorem ixr : IxR X (rIxD g) := by
  intro value slice pins s σ H x y v u Q I r1 r2 hh hs
  obtain ⟨a, h, d, e, rfl, hr, rd, re, p⟩ := hh
  unfold ixV at p
  split at p
  · rename_i i
    cases re.int_inv
    split at p
    · rename_i z
      cases rd.str_inv
      split at p
      · rename_i hl
        split at p
        · rename_i c hc
          exact ix_str value slice pins s σ _ _ _ v u Q I r1 r2 ⟨z, i, c, rfl, rfl, lim_le hl, hc, ok_post hr (.str _) p⟩ hs
        · exact p.elim
      · exact p.elim
    · split at p
      · rename_i dd hd
        simp only [Option.bind_eq_some_iff] at hd
        obtain ⟨ds, h1, h2⟩ := hd
        obtain ⟨q, vs, rfl, hp, rs⟩ := seq_rep hr rd h1
        obtain ⟨w, h3, h4⟩ := atI_rep rs h2
        have fin := ok_post hr h4 p
        rcases hp with hp | hp
        · exact ix_list value slice pins s σ _ _ _ v u Q I r1 r2 ⟨q, vs, i, w, rfl, rfl, SqL.of hp, h3, fin⟩ hs
        · exact ix_tup value slice pins s σ _ _ _ v u Q I r1 r2 ⟨q, vs, i, w, rfl, rfl, SqT.of hp, h3, fin⟩ hs
      · exact p.elim
  · exact p.elim
theorem cut_rep {a : Vw} {ds : List D} {vs : List V} {lo hi : Option Int} (r : RepVs g a ds vs) : RepVs g a (cutD ds lo hi) (cutV vs lo hi) := by
  unfold cutD cutV
  rw [r.length]
  exact (r.drop _).take _
def rSlD (g : Gi) (cell : Bool) : V → Option Int → Option Int → Hp → VK → Prop := fun x lo hi H Q => ∃ a h d, a.H = H ∧ HeapRel g a h ∧ RepV g a d x ∧ Post g a (RepV g) W0 Q (slV cell d lo hi h)
theorem slr (cell : Bool) : SlR X (rSlD g cell) := by
  intro pins s σ H x v vl vu lo hi sl Q I rx hs pl pu hh
  obtain ⟨a, h, d, rfl, hr, rd, p⟩ := hh
  unfold slV at p
  split at p
  · rename_i xs
    obtain ⟨q, vs, rfl, _, hp, rs⟩ := rd.tup_inv
    refine sl_tupA pins s σ _ _ v vl vu lo hi sl Q I rx hs pl pu ⟨q, vs, rfl, SqT.of hp, fun z => ?_, fun z => ?_⟩
    · have : cutD xs lo hi = xs := by
        unfold cutD
        rw [← rs.length, z.1, z.2, rs.length]
        simp
      rw [this] at p
      exact ok_post hr rd p
    · exact ok_tup hr (cut_rep rs) p
  · rename_i z
    cases rd.str_inv
    split at p
    · rename_i hl
      exact C8.sl_txt pins s σ _ _ v vl vu lo hi sl Q I rx hs pl pu ⟨z, rfl, lim_le hl, ok_post hr (.str _) p⟩
    · exact p.elim
  · split at p
    · rename_i xs e
      obtain ⟨q, vs, rfl, hp, rs⟩ := lst_rep hr rd e
      exact sl_list pins s σ _ _ v vl vu lo hi sl Q I rx hs pl pu ⟨q, vs, rfl, SqL.of hp, (mkL_post hr (cut_rep rs) p).2⟩
    · exact p.elim

/-! ### built-ins -/
theorem ins_perm (x : Int) : ∀ l, (isort.ins x l).Perm (x :: l)
  | [] => by simp [isort.ins]
  | y :: ys => by
    unfold isort.ins
    split
    · exact List.Perm.refl _
    · exact ((ins_perm x ys).cons y).trans (List.Perm.swap x y ys)
theorem isort_perm : ∀ l, (isort l).Perm l
  | [] => List.Perm.refl _
  | x :: xs => (ins_perm x _).trans ((isort_perm xs).cons x)
theorem ins_sorted (x : Int) : ∀ l : List Int, l.Pairwise (· ≤ ·) → (isort.ins x l).Pairwise (· ≤ ·)
  | [], _ => by simp [isort.ins]
  | y :: ys, h => by
    unfold isort.ins
    split
    · rename_i hxy
      refine List.pairwise_cons.mpr ⟨fun z hz => ?_, h⟩
      rcases List.mem_cons.mp hz with rfl | hz
      · exact hxy
      · exact Int.le_trans hxy ((List.pairwise_cons.mp h).1 z hz)
    · rename_i hxy
      refine List.pairwise_cons.mpr ⟨fun z hz => ?_, ins_sorted x ys (List.pairwise_cons.mp h).2⟩
      rcases List.mem_cons.mp ((ins_perm x ys).mem_iff.mp hz) with rfl | hz
      · omega
      · exact (List.pairwise_cons.mp h).1 z hz
theorem isort_sorted : ∀ l : List Int, (isort l).Pairwise (· ≤ ·)
  | [] => List.Pairwise.nil
  | x :: xs => ins_sorted x _ (isort_sorted xs)
theorem isort_uniq {l m : List Int} (p : m.Perm l) (s : m.Pairwise (· ≤ ·)) : m = isort l :=
  List.Perm.eq_of_pairwise (fun x y _ _ h1 h2 => Int.le_antisymm h1 h2) s (isort_sorted l) (p.trans (isort_perm l).symm)
theorem maxI_go : ∀ (l : List Int) (x : Int), (l.foldl (fun m y => if y > m then y else m) x) ∈ x :: l ∧ ∀ y ∈ x :: l, y ≤ l.foldl (fun m y => if y > m then y else m) x
  | [], x => by simp
  | z :: l, x => by
    obtain ⟨h1, h2⟩ := maxI_go l (if z > x then z else x)
    simp only [List.foldl_cons]
    have h3 := h2 _ List.mem_cons_self
    have hz : z ≤ (if z > x then z else x) := by split <;> omega
    have hx : x ≤ (if z > x then z else x) := by split <;> omega
    refine ⟨?_, fun y hy => ?_⟩
    · rcases List.mem_cons.mp h1 with q | q
      · rw [q]; split <;> simp
      · simp [q]
    · rcases List.mem_cons.mp hy with e | hy
      · rw [e]; exact Int.le_trans hx h3
      · rcases List.mem_cons.mp hy with e | hy
        · rw [e]; exact Int.le_trans hz h3
        · exact h2 y (List.mem_cons_of_mem _ hy)
theorem minI_go : ∀ (l : List Int) (x : Int), (l.foldl (fun m y => if y < m then y else m) x) ∈ x :: l ∧ ∀ y ∈ x :: l, l.foldl (fun m y => if y < m then y else m) x ≤ y
  | [], x => by simp
  | z :: l, x => by
    obtain ⟨h1, h2⟩ := minI_go l (if z < x then z else x)
    simp only [List.foldl_cons]
    have h3 := h2 _ List.mem_cons_self
    have hz : (if z < x then z else x) ≤ z := by split <;> omega
    have hx : (if z < x then z else x) ≤ x := by split <;> omega
    refine ⟨?_, fun y hy => ?_⟩
    · rcases List.mem_cons.mp h1 with q | q
      · rw [q]; split <;> simp
      · simp [q]
    · rcases List.mem_cons.mp hy with e | hy
      · rw [e]; exact Int.le_trans h3 hx
      · rcases List.mem_cons.mp hy with e | hy
        · rw [e]; exact Int.le_trans h3 hz
        · exact h2 y (List.mem_cons_of_mem _ hy)
theorem maxI_spec {l : List Int} {m : Int} (e : maxI l = some m) : m ∈ l ∧ ∀ y ∈ l, y ≤ m := by
  cases l with
  | nil => cases e
  | cons x xs => cases e; exact maxI_go xs x
theorem minI_spec {l : List Int} {m : Int} (e : minI l = some m) : m ∈ l ∧ ∀ y ∈ l, m ≤ y := by
  cases l with
  | nil => cases e
  | cons x xs => cases e; exact minI_go xs x
theorem intsOf_rep {a : Vw} : ∀ {ds : List D} {vs : List V} {ns : List Int}, intsOf ds = some ns → RepVs g a ds vs → vs = ns.map V.int
  | [], vs, ns, e, r => by
    simp only [intsOf] at e; cases e
    simp only [RepVs] at r; subst r; rfl
  | d :: ds, vs, ns, e, r => by
    simp only [RepVs] at r
    obtain ⟨v, r', rfl, h1, h2⟩ := r
    cases d with
    | int i =>
      simp only [intsOf, Option.map_eq_some_iff] at e
      obtain ⟨ms, e1, rfl⟩ := e
      cases h1.int_inv
      rw [intsOf_rep e1 h2]; rfl
    | _ => simp [intsOf] at e
theorem blsOf_rep {a : Vw} : ∀ {ds : List D} {vs : List V} {ns : List Bool}, blsOf ds = some ns → RepVs g a ds vs → vs = ns.map V.bl
  | [], vs, ns, e, r => by
    simp only [blsOf] at e; cases e
    simp only [RepVs] at r; subst r; rfl
  | d :: ds, vs, ns, e, r => by
    simp only [RepVs] at r
    obtain ⟨v, r', rfl, h1, h2⟩ := r
    cases d with
    | bl i =>
      simp only [blsOf, Option.map_eq_some_iff] at e
      obtain ⟨ms, e1, rfl⟩ := e
      cases h1.bl_inv
      rw [blsOf_rep e1 h2]; rfl
    | _ => simp [blsOf] at e
def bNm : Bif → Str
  | .len => "len" | .abs => "abs" | .int => "int" | .bool => "bool" | .list => "list" | .tuple => "tuple" | .sum => "sum" | .max2 => "max" | .min2 => "min" | .max => "max" | .min => "min" | .sorted => "sorted" | .all => "all" | .str => "str"
def bIsTy : Bif → Bool
  | .int => true | .bool => true | .list => true | .tuple => true | .str => true | _ => false
def bId : Bif → String
  | .len => "len" | .abs => "abs" | .int => "int" | .bool => "bool" | .list => "list" | .tuple => "tuple" | .sum => "sum" | .max2 => "max" | .min2 => "min" | .max => "max" | .min => "min" | .sorted => "sorted" | .all => "all" | .str => "str"
def bVal (b : Bif) : Value := if bIsTy b then .type (bId b) else .builtin (bId b)
theorem b_boot (b : Bif) : bootBuiltins (bNm b) = some (bVal b) := by cases b <;> decide +kernel
theorem b_name (b : Bif) : bNm b ≠ "__name__" := by cases b <;> decide +kernel
theorem b_debug (b : Bif) : (bNm b == ("__debug__" : Str)) = false := by cases b <;> decide +kernel
def rBif (g : Gi) (cell : Bool) (b : Bif) : List V → Hp → VK → Prop := fun vs H Q => ∃ a h ds, a.H = H ∧ HeapRel g a h ∧ RepVs g a ds vs ∧ Post g a (RepV g) W0 Q (bifL cell b ds h)
theorem RepVs.one {a : Vw} {d : D} {vs : List V} (r : RepVs g a [d] vs) : ∃ v, vs = [v] ∧ RepV g a d v := by
  simp only [RepVs] at r
  obtain ⟨v, r', rfl, h1, rfl⟩ := r
  exact ⟨v, rfl, h1⟩
theorem RepVs.two {a : Vw} {d e : D} {vs : List V} (r : RepVs g a [d, e] vs) : ∃ v w, vs = [v, w] ∧ RepV g a d v ∧ RepV g a e w := by
  simp only [RepVs] at r
  obtain ⟨v, r', rfl, h1, w, r2, rfl, h2, rfl⟩ := r
  exact ⟨v, w, rfl, h1, h2⟩
theorem callr_v (hc : X.calm = true) (b : Bif) : CallR X (bVal b) (fun vs H Q => ∃ a h ds, a.H = H ∧ HeapRel g a h ∧ RepVs g a ds vs ∧ Post g a (RepV g) W0 Q (bifV b ds h)) := by
  intro pins s σ H vs us Q I rv hh
  obtain ⟨a, h, ds, rfl, hr, rs, p⟩ := hh
  unfold bifV at p
  split at p
  · obtain ⟨v, rfl, r1⟩ := rs.one
    cases r1.str_inv
    split at p
    · rename_i hl
      exact call_len_str pins s σ _ _ us Q I rv ⟨_, rfl, lim_le hl, ok_post hr (.int _) p⟩
    · exact p.elim
  · obtain ⟨v, rfl, r1⟩ := rs.one
    split at p
    · rename_i ds e
      obtain ⟨q, ws, rfl, hp, r2⟩ := seq_rep hr r1 e
      have fin := ok_post hr (.int _) p
      rw [← r2.length] at fin
      exact call_len_seq pins s σ _ _ us Q I rv ⟨q, ws, rfl, hp.imp SqL.of SqT.of, fin⟩
    · exact p.elim
  · obtain ⟨v, rfl, r1⟩ := rs.one
    cases r1.int_inv
    exact call_abs pins s σ _ _ us Q I rv ⟨_, rfl, ok_post hr (.int _) p⟩
  · obtain ⟨v, rfl, r1⟩ := rs.one
    cases r1.int_inv
    exact call_int1 pins s σ _ _ us Q I rv (.inl ⟨_, rfl, ok_post hr (.int _) p⟩)
  · obtain ⟨v, rfl, r1⟩ := rs.one
    cases r1.bl_inv
    exact call_int1 pins s σ _ _ us Q I rv (.inr ⟨_, rfl, ok_post hr (.int _) p⟩)
  · obtain ⟨v, rfl, r1⟩ := rs.one
    cases r1.int_inv
    exact call_bool1 pins s σ _ _ us Q I rv (.inl ⟨_, rfl, ok_post hr (.bl _) p⟩)
  · obtain ⟨v, rfl, r1⟩ := rs.one
    cases r1.bl_inv
    exact call_bool1 pins s σ _ _ us Q I rv (.inr ⟨_, rfl, ok_post hr (.bl _) p⟩)
  · obtain ⟨v, rfl, r1⟩ := rs.one
    obtain ⟨q, ws, rfl, _, hp, r2⟩ := r1.tup_inv
    exact call_tuple_of pins s σ _ _ us Q I rv ⟨q, ws, rfl, .inr ⟨SqT.of hp, ok_post hr r1 p⟩⟩
  · obtain ⟨v, rfl, r1⟩ := rs.one
    split at p
    · rename_i ds e
      obtain ⟨q, ws, rfl, hp, r2⟩ := lst_rep hr r1 e
      exact call_tuple_of pins s σ _ _ us Q I rv ⟨q, ws, rfl, .inl ⟨SqL.of hp, ok_tup hr r2 p⟩⟩
    · exact p.elim
  · obtain ⟨v, rfl, r1⟩ := rs.one
    split at p
    · rename_i ns e
      simp only [Option.bind_eq_some_iff] at e
      obtain ⟨ds, e1, e2⟩ := e
      obtain ⟨q, ws, rfl, hp, r2⟩ := lst_rep hr r1 e1
      cases intsOf_rep e2 r2
      exact cr_sum hc pins s σ _ _ us Q I rv ⟨q, ns, rfl, SqL.of hp, ok_post hr (.int _) p⟩
    · exact p.elim
  · obtain ⟨v, rfl, r1⟩ := rs.one
    split at p
    · rename_i ns e
      simp only [Option.bind_eq_some_iff] at e
      obtain ⟨ds, e1, e2⟩ := e
      obtain ⟨q, ws, rfl, hp, r2⟩ := lst_rep hr r1 e1
      cases blsOf_rep e2 r2
      exact cr_all hc pins s σ _ _ us Q I rv ⟨q, ns, rfl, SqL.of hp, ok_post hr (.bl _) p⟩
    · exact p.elim
  · obtain ⟨v, w, rfl, r1, r2⟩ := rs.two
    cases r1.int_inv; cases r2.int_inv
    exact call_max2 hc pins s σ _ _ us Q I rv ⟨_, _, rfl, ok_post hr (.int _) p⟩
  · obtain ⟨v, w, rfl, r1, r2⟩ := rs.two
    cases r1.int_inv; cases r2.int_inv
    exact call_min2 hc pins s σ _ _ us Q I rv ⟨_, _, rfl, ok_post hr (.int _) p⟩
  · obtain ⟨v, rfl, r1⟩ := rs.one
    split at p
    · rename_i m e
      simp only [Option.bind_eq_some_iff] at e
      obtain ⟨ns, ⟨ds, e1, e2⟩, e3⟩ := e
      obtain ⟨q, ws, rfl, hp, r2⟩ := lst_rep hr r1 e1
      cases intsOf_rep e2 r2
      obtain ⟨m1, m2⟩ := maxI_spec e3
      have fin := ok_post hr (.int _) p
      exact cr_max hc pins s σ _ _ us Q I rv ⟨q, ns, rfl, SqL.of hp, List.length_pos_of_mem m1, fun k hk hk2 => by
        rw [Int.le_antisymm (m2 k hk) (hk2 m m1)]; exact fin⟩
    · exact p.elim
  · obtain ⟨v, rfl, r1⟩ := rs.one
    split at p
    · rename_i m e
      simp only [Option.bind_eq_some_iff] at e
      obtain ⟨ns, ⟨ds, e1, e2⟩, e3⟩ := e
      obtain ⟨q, ws, rfl, hp, r2⟩ := lst_rep hr r1 e1
      cases intsOf_rep e2 r2
      obtain ⟨m1, m2⟩ := minI_spec e3
      have fin := ok_post hr (.int _) p
      exact cr_min hc pins s σ _ _ us Q I rv ⟨q, ns, rfl, SqL.of hp, List.length_pos_of_mem m1, fun k hk hk2 => by
        rw [Int.le_antisymm (hk2 m m1) (m2 k hk)]; exact fin⟩
    · exact p.elim
  · obtain ⟨v, rfl, r1⟩ := rs.one
    cases r1.int_inv
    split at p
    · rename_i i hl
      refine call_str_int pins s σ _ _ us Q I rv ⟨i, rfl, ?_, ok_post hr (.str _) p⟩
      by_cases h0 : i.natAbs = 0
      · rw [h0]; decide
      · have := (Nat.log2_lt h0).mpr hl
        omega
    · exact p.elim
  · exact p.elim
theorem callr (hc : X.calm = true) (cell : Bool) (b : Bif) : CallR X (bVal b) (rBif g cell b) := by
  intro pins s σ H vs us Q I rv hh
  obtain ⟨a, h, ds, rfl, hr, rs, p⟩ := hh
  unfold bifL at p
  split at p
  · obtain ⟨v, rfl, r1⟩ := rs.one
    split at p
    · rename_i ds e
      obtain ⟨q, ws, rfl, hp, r2⟩ := seq_rep hr r1 e
      exact call_list_of pins s σ _ _ us Q I rv ⟨q, ws, rfl, hp.imp SqL.of SqT.of, (mkL_post hr r2 p).2⟩
    · exact p.elim
  · obtain ⟨v, rfl, r1⟩ := rs.one
    split at p
    · rename_i ns e
      simp only [Option.bind_eq_some_iff] at e
      obtain ⟨ds, e1, e2⟩ := e
      obtain ⟨q, ws, rfl, hp, r2⟩ := lst_rep hr r1 e1
      cases intsOf_rep e2 r2
      exact cr_sortedI pins s σ _ _ us Q I rv ⟨q, ns, rfl, SqL.of hp, fun ns' l hp' hs hl => by
        cases isort_uniq hp' hs
        exact (mkL_post hr (.of_ints _) p).2 l hl⟩
    · exact p.elim
  · exact callr_v hc b pins s σ _ vs us Q I rv ⟨a, h, ds, rfl, hr, rs, p⟩
/-! ### truth, isinstance -/
theorem emp_len {α β : Type} {l : List α} {m : List β} (h : l.length = m.length) : l.isEmpty = m.isEmpty := by
  cases l <;> cases m <;> first | rfl | (simp at h)
theorem tru_rep {a : Vw} {h : AH} {d : D} {v : V} {k : Bool} (hr : HeapRel g a h) (r : RepV g a d v) (e : truV d h = some k) : TruV X.K v a.H k := by
  unfold truV at e
  split at e
  · cases e; cases r.non_inv; rfl
  · cases e; cases r.bl_inv; rfl
  · cases e; cases r.int_inv; rfl
  · cases e
    obtain ⟨q, ws, rfl, _, hp, r2⟩ := r.tup_inv
    refine .inr (.inl ⟨ws, SqT.of hp, ?_⟩)
    exact congrArg (!·) (emp_len r2.length.symm)
  · simp only [Option.map_eq_some_iff] at e
    obtain ⟨ds, e1, rfl⟩ := e
    obtain ⟨q, ws, rfl, hp, r2⟩ := lst_rep hr r e1
    refine .inl ⟨ws, SqL.of hp, ?_⟩
    exact congrArg (!·) (emp_len r2.length.symm)
end
end Sm

/-! What is walked. -/
namespace PySem
open Sem (wp)
open AutoSeq1 (wpAny_loadPart')
theorem meets_enumerate_newT (l : Addr) (items : Array Value) (n : Nat) (dct : Option Addr) (sl : Array (Option Value)) :
    Meets (Builtin.«enumerate.__new__» ⟨[.type "enumerate", .ref l], []⟩) (fun _ R s => s.heap.get? l = some { cls := .type "tuple", dict := dct, data := .seq items n, slots := sl } ∧
      R (.ok (.ret (.ref (s.heap.push { cls := .type "tuple_iterator", data := .fields #[.ref l, .int 0 0] }).objs.size)))
        { s with heap := (s.heap.push { cls := .type "tuple_iterator", data := .fields #[.ref l, .int 0 0] }).push { cls := .type "enumerate", data := .fields #[.none, .bool false, .ref s.heap.objs.size, rawInt 0, .none, .none] } }) :=
  .of_wp fun prog w A R s h => by
    obtain ⟨hp, g, d, tk, os⟩ := s; obtain ⟨hl, h⟩ := h
    have hsub := sub_enumerate
    have hL : Heap.IsTuple (Shared.heap ⟨hp, g, d, tk, os⟩) l items := ⟨_, hl, rfl, n, rfl⟩
    wp_walk using wpAny_loadPart' hl
    refine wpAny_stack_any fun st => wpAny_pure ?_
    split
    · rename_i c _ _ _ _ _
      cases (c == Value.type "enumerate")
      · wp_walk using wpAny_loadPart' hl, wpAny_pyIter_tuple hL
        exact ⟨_, rfl, h⟩
      · wp_walk using wpAny_loadPart' hl, wpAny_pyIter_tuple hL
        exact ⟨_, rfl, h⟩
    · wp_walk using wpAny_loadPart' hl, wpAny_pyIter_tuple hL
      exact ⟨_, rfl, h⟩
section
variable {prog : Program} {w : World} {A : Around} {E : Value → Shared → Prop} {s : Shared}
theorem call_enumerate_tup {l : Addr} {items : Array Value} {Q : Value → Shared → Prop} (hL : s.heap.IsTuple l items)
    (h : ∀ h', IsEnum h' (s.heap.objs.size + 1) s.heap.objs.size 0 .none → h'.IsTupleIter s.heap.objs.size l 0 → h'.objs.size = s.heap.objs.size + 2 →
      (∀ b o, s.heap.get? b = some o → h'.get? b = some o) → Q (.ref (s.heap.objs.size + 1)) { s with heap := h' }) :
    wpAny (model prog w) A (call (.type "enumerate") [.ref l]) Q E s := by
  obtain ⟨⟨c, dct, dt, sl⟩, hl, hc, n, hd⟩ := hL
  replace hc : c = .type "tuple" := hc
  replace hd : dt = .seq items n := hd
  subst hc hd
  refine callType_new F.called_enumerate (by decide) (F.typeCall_enumerate_1 _) (F.newCall_enumerate_1 _) (fun obj => F.args_object_init_2 obj _) F.entry_enumerate_new
    (meets_enumerate_newT l items n dct sl) ⟨hl, ?_⟩
  have hz : (s.heap.push { cls := .type "tuple_iterator", data := .fields #[.ref l, .int 0 0] }).objs.size = s.heap.objs.size + 1 := Heap.size_push ..
  show _ ∧ _
  rw [hz]
  have he : IsEnum ((s.heap.push { cls := .type "tuple_iterator", data := .fields #[.ref l, .int 0 0] }).push
      { cls := .type "enumerate", data := .fields #[.none, .bool false, .ref s.heap.objs.size, rawInt 0, .none, .none] }) (s.heap.objs.size + 1) s.heap.objs.size 0 .none := by
    have := Heap.get?_push_size (s.heap.push { cls := .type "tuple_iterator", data := .fields #[.ref l, .int 0 0] })
      (o := { cls := .type "enumerate", data := .fields #[.none, .bool false, .ref s.heap.objs.size, rawInt 0, .none, .none] }) rfl
    rw [hz] at this; exact this
  refine ⟨⟨_, he, rfl⟩, h _ he ⟨_, Heap.get?_push_of_some _ (Heap.get?_push_size _ rfl), rfl, rfl⟩ (by rw [Heap.size_push, hz]) fun b o x => Heap.get?_push_of_some _ (Heap.get?_push_of_some _ x)⟩
end
end PySem

namespace Sm
open PySem PySem.Spec PyProof.Rows L2
/-! ### enumerate(tuple) -/
def IteT (K : PySem.W.Frag) (a : Addr) : It :=
  ⟨fun i H => ∃ (xs : List V) (x : V), SqT K H a xs ∧ xs[i]? = some x, fun i H v H' => ∃ T x, v = .ref T ∧ H T = none ∧ H' = upd H T (.tup [.int (i : Nat), x]) ∧ ∀ xs, SqT K H a xs → xs[i]? = some x, fun i H => ∃ xs : List V, SqT K H a xs ∧ xs.length ≤ i⟩
theorem turn_enumT {P : Program} {w : World} {K : PySem.W.Frag} {elts : List Expr} {kk : Nat} {tpos : Pos} (a e it : Addr) :
    Turn P w K (.Tuple elts kk tpos) (IteT K a) [e, it] e (fun i h => (∃ old, IsEnum h e it ((i : Nat) : Int) old) ∧ h.IsTupleIter it a i ∧ e ≠ it ∧ a ≠ it ∧ a ≠ e) where
  mem := by simp
  obj := fun i h st b hb => by
    obtain ⟨⟨old, he⟩, ⟨o, ho, hc, hd⟩, _⟩ := st
    have e' : b = e ∨ b = it := by simpa using hb
    rcases e' with z | z
    · rw [z]; exact ⟨_, he, fun v q => nomatch q⟩
    · rw [z]; exact ⟨o, ho, fun v q => by rw [hd] at q; cases q⟩
  keep := fun i h h' st k => let ⟨⟨old, he⟩, hi, hne⟩ := st; ⟨⟨old, k e (by simp) _ he⟩, hi.at fun o q => k it (by simp) o q, hne⟩
  item := by
    intro X hP hw hK hc i pins s σ H E I hf st hg
    subst hP hw hK
    obtain ⟨⟨old, he⟩, hit, hne, han, hae⟩ := st
    obtain ⟨xs, x, hq, hx⟩ := hg
    obtain ⟨its, rv, p, hz⟩ := I.tuple hq
    obtain ⟨u, hu, ru⟩ := rv.get hx
    have hel : e < s.heap.objs.size := Heap.lt_size he
    have hil : it < s.heap.objs.size := by obtain ⟨_, q, _⟩ := hit; exact Heap.lt_size q
    have hlt : i < its.toArray.size := by
      have := (List.getElem?_eq_some_iff.mp hu).1
      simpa using this
    refine wpAny_pyNext_enum_itemD (Draws.tuple (A := X.A.in1) (show X.A.in1.handled = none from I.ok.hd hc) it a han its.toArray) he ⟨hit, p⟩ hlt hne (by simp [hne, Ne.symm hae]) fun y h' tk hP ho hs' hT hsz hk => ?_
    have hy : y = u := by
      have hu' : its.toArray[i]? = some u := by simpa using hu
      rw [hu'] at hP; exact (Option.some.inj hP).symm
    subst hy
    refine ⟨_, rfl, wpAny_letOwnedTupleGo_enum (s := { s with heap := h', toks := tk + 1 }) ho fun h'' he' sb => ?_⟩
    have hT2 : h''.get? s.heap.objs.size = some { cls := .type "tuple", data := .seq #[.int i tk, y] } := (sb.2 _ (Nat.ne_of_gt hel)).trans hT
    have new : ObjOk X.prog X.w (upd H s.heap.objs.size (.tup [.int (i : Nat), x])) h'' s.heap.objs.size (.tup [.int (i : Nat), x]) :=
      ⟨by show 2 ≤ sizeLine; decide, [.int i tk, y], .cons ⟨_, rfl⟩ (.cons ru .nil), ⟨_, hT2, rfl, _, rfl⟩⟩
    have I1 : Inv X pins σ (upd H s.heap.objs.size (.tup [.int (i : Nat), x])) { s with heap := h'', toks := tk + 1 } :=
      I.turnedNew (ch := [e, it]) (fun b ob hb q => (sb.2 b (fun z => hb (by simp [z]))).trans (hk b ob (fun z => hb (by simp [z])) (fun z => hb (by simp [z])) q)) hf (Nat.le_refl _) new
    refine ⟨.ref s.heap.objs.size, _, I1, rfl, ⟨_, x, rfl, I.hok.fresh (Nat.le_refl _), rfl, fun ys hy => by rw [I.tuple_inj hy hq]; exact hx⟩, ⟨⟨y, ?_⟩, hs'.1.at fun o q => (sb.2 it (Ne.symm hne)).trans q, hne, han, hae⟩, fun b hb => ?_⟩
    · have e1 : ((i + 1 : Nat) : Int) = (i : Int) + 1 := by omega
      rw [e1]; exact he'
    · have hb' : b < s.heap.objs.size := by
        have e' : b = e ∨ b = it := by simpa using hb
        rcases e' with z | z
        · rw [z]; exact hel
        · rw [z]; exact hil
      rw [upd_ne (Nat.ne_of_lt hb')]
      exact (hf b hb).1
  done := by
    intro X hP hw hK hc i pins s σ H E I hf st hg
    subst hP hw hK
    obtain ⟨⟨old, he⟩, hit, hne, han, hae⟩ := st
    obtain ⟨xs, hq, hx⟩ := hg
    obtain ⟨its, rv, p, hz⟩ := I.tuple hq
    obtain ⟨f0, f1, f2, f3, f4, f5⟩ := hf it (by simp)
    have hl := rv.length
    have hT : s.TypeIs (.ref e) "enumerate" := ⟨_, he, rfl⟩
    unfold pyNext
    refine wpAny_bind (wpAny_attempt (wpAny_callSpecial?_slot (name := Str.ofString "__next__") hT F.slot_enumerate_next
      (wpAny_call_entry F.slot_enumerate_next hT F.entry_enumerate_next ?_ (F.args_enumerate_next_1 _))))
    show wpAny _ _ (field (.ref e) 2 >>= _) _ _ _
    refine wpAny_bind (wpAny_field he rfl (x := .ref it) rfl ?_)
    refine wpAny_bind (wpAny_nextOf_tuple_end (I.ok.hd hc) hit p (by simp; omega) fun h' x he' hx' => ?_)
    obtain ⟨o, ho, hc'⟩ := hx'
    refine wpAny_bind (wpAny_isInstance (T := "StopIteration") (b := true) ⟨o, ho, hc'⟩ isSubtype_stop ?_)
    exact wpAny_pure ⟨rfl, I.turned (t' := s.toks) (fun b o hb q => he' b o hb q) f0 f1 f3 f4 f5⟩
  self := fun A i s Q E st h => let ⟨⟨_, he⟩, _⟩ := st; wpAny_pyIter_enum he h
def iEnumA (K : PySem.W.Frag) (ta : TA) : TI := fun σ H R => ta σ H fun vs H1 => ∃ a xs, vs = [.ref a] ∧ ((SqL K H1 a xs ∧ R (Ite K a) H1) ∨ (SqT K H1 a xs ∧ R (IteT K a) H1))
theorem pi_enumA {X : Cx} {e : Expr} {ta : TA} {p pos tpos : Pos} {elts : List Expr} {kk : Nat} (hg : Gl X "enumerate") (hm : X.mg "enumerate" = none) (ha : PA X [e] ta) (hs : starEach [e] X.env = [(false, eval e X.env)]) :
    PI X (.Tuple elts kk tpos) (.Call (.Name "enumerate" p) [e] [] pos) (iEnumA X.K ta) := by
  refine ⟨fun pins s σ H R I h => ?_⟩
  refine Call_ (ld_blt I hg hm boot_enumerate (PyProof.Rows.callWith_type1 (thn (ha.run pos pins s σ H _ I h) fun us s1 ⟨vs, H1, I1, r1, q1⟩ => ?_) hs rfl))
  obtain ⟨a, xs, ex, q1⟩ := q1
  subst ex
  cases r1 with
  | cons r rr =>
    cases rr
    cases r
    have key : ∀ b, b = s1.heap.objs.size + 1 ∨ b = s1.heap.objs.size → FpOk X pins H1 b := fun b e' => by
      have hle : s1.heap.objs.size ≤ b := by
        rcases e' with z | z
        · rw [z]; exact Nat.le_add_right _ _
        · rw [z]; exact Nat.le_refl _
      exact I1.fpOk hle (I1.hok.fresh hle)
    rcases q1 with ⟨hq, q⟩ | ⟨hq, q⟩
    · obtain ⟨its, rv, p', hz⟩ := I1.list hq
      refine call_enumerate_list p'.isList fun h' he hit hsz hk => wpAny_pyIter_enum he ?_
      have I2 : Inv X pins σ H1 { s1 with heap := h' } := I1.kept (t' := s1.toks) hk
      exact ⟨s1.heap.objs.size + 1, [s1.heap.objs.size + 1, s1.heap.objs.size], _, _, H1, rfl, I2, turn_enum a (s1.heap.objs.size + 1) s1.heap.objs.size, ⟨⟨.none, he⟩, hit, Nat.succ_ne_self _⟩, fun b hb => key b (by simpa using hb), q⟩
    · obtain ⟨its, rv, p', hz⟩ := I1.tuple hq
      have hlt : a < s1.heap.objs.size := p'.lt
      refine call_enumerate_tup p' fun h' he hit hsz hk => wpAny_pyIter_enum he ?_
      have I2 : Inv X pins σ H1 { s1 with heap := h' } := I1.kept (t' := s1.toks) hk
      exact ⟨s1.heap.objs.size + 1, [s1.heap.objs.size + 1, s1.heap.objs.size], _, _, H1, rfl, I2, turn_enumT a (s1.heap.objs.size + 1) s1.heap.objs.size, ⟨⟨.none, he⟩, hit, Nat.succ_ne_self _, Nat.ne_of_lt hlt, Nat.ne_of_lt (Nat.lt_succ_of_lt hlt)⟩, fun b hb => key b (by simpa using hb), q⟩
theorem PI.or {X : Cx} {tg e : Expr} {w1 w2 : TI} (h1 : PI X tg e w1) (h2 : PI X tg e w2) : PI X tg e (fun σ H R => w1 σ H R ∨ w2 σ H R) :=
  ⟨fun pins s σ H R I h => h.elim (h1.run pins s σ H R I) (h2.run pins s σ H R I)⟩

section
variable {g : Gi} {K : PySem.W.Frag}
def ItOk (g : Gi) (b : Vw) (I : Itr) (J : It) : Prop := ∀ c h all, Mono b c → HeapRel g c h → I.items h = some all → ∀ i : Nat,
  (∀ d, all[i]? = some d → J.go i c.H ∧ ∀ x H', J.yld i c.H x H' → ∃ e, Mono c e ∧ e.H = H' ∧ HeapRel g e h ∧ RepV g e d x) ∧ (all.length ≤ i → J.stop i c.H)
theorem ItOk.mono {b c : Vw} {I : Itr} {J : It} (mo : Mono b c) (h : ItOk g b I J) : ItOk g c I J := fun e hh all m => h e hh all (mo.trans m)
theorem ro_rep {c : Vw} (hk : ∀ p vs H, g.kl p vs → SqL K H p vs) {h : AH} {d : D} {v : V} {ds : List D} (hr : HeapRel g c h) (r : RepV g c d v) (nt : asTup d = none) (e : roSeq h d = some ds) : ∃ p vs, v = .ref p ∧ SqL K c.H p vs ∧ RepVs g c ds vs := by
  cases d with
  | ro xs =>
    simp only [roSeq] at e; cases e
    obtain ⟨p, vs, rfl, h1, h2⟩ := r.ro_inv
    refine ⟨p, vs, rfl, ?_, h2⟩
    rcases h1 with ⟨_, o, h1⟩ | h1
    · exact .inl (.inr ⟨o, h1⟩)
    · exact hk p vs _ h1
  | tup xs => simp [asTup] at nt
  | lst xs =>
    obtain ⟨p, vs, e1, h1, h2⟩ := lst_rep hr r (show asLst h (.lst xs) = some ds from e)
    exact ⟨p, vs, e1, SqL.of h1, h2⟩
  | ref n =>
    obtain ⟨p, vs, e1, h1, h2⟩ := lst_rep hr r (show asLst h (.ref n) = some ds from e)
    exact ⟨p, vs, e1, SqL.of h1, h2⟩
  | non => simp [roSeq, asSeq, asLst] at e
  | bl _ => simp [roSeq, asSeq, asLst] at e
  | int _ => simp [roSeq, asSeq, asLst] at e
  | str _ => simp [roSeq, asSeq, asLst] at e
  | obj _ _ => simp [roSeq, asSeq, asLst] at e
theorem itok_list (hk : ∀ p vs H, g.kl p vs → SqL K H p vs) {b : Vw} {d : D} {p : Addr} (r : RepV g b d (.ref p)) (nt : asTup d = none) : ItOk g b (.seq d) (Itl K p) := by
  intro c h all mo hr e i
  obtain ⟨q, vs, e1, h1, h2⟩ := ro_rep (K := K) hk hr (r.mono mo) nt e
  cases e1
  refine ⟨fun x hx => ?_, fun hi => ⟨vs, h1, by rw [h2.length]; exact hi⟩⟩
  obtain ⟨v, hv, rv⟩ := h2.get hx
  refine ⟨⟨vs, v, h1, hv⟩, ?_⟩
  rintro y H' ⟨rfl, hy⟩
  have := hy vs h1
  rw [hv] at this; cases this
  exact ⟨c, .refl c, rfl, hr, rv⟩
theorem itok_tup {b : Vw} {ds : List D} {p : Addr} (r : RepV g b (.tup ds) (.ref p)) : ItOk g b (.seq (.tup ds)) (Itt K p) := by
  intro c h all mo hr e i
  obtain ⟨q, vs, e1, _, h1, h2⟩ := (r.mono mo).tup_inv
  cases e1
  have ea : all = ds := by simp [Itr.items, roSeq, asSeq] at e; exact e.symm
  subst ea
  refine ⟨fun x hx => ?_, fun hi => ⟨vs, SqT.of h1, by rw [h2.length]; exact hi⟩⟩
  obtain ⟨v, hv, rv⟩ := h2.get hx
  refine ⟨⟨vs, v, SqT.of h1, hv⟩, ?_⟩
  rintro y H' ⟨rfl, hy⟩
  have := hy vs (SqT.of h1)
  rw [hv] at this; cases this
  exact ⟨c, .refl c, rfl, hr, rv⟩
theorem itok_rng {b : Vw} {lo : Int} {n : Nat} : ItOk g b (.rng lo 1 n) (L2.Itr lo n) := by
  intro c h all mo hr e i
  simp only [Itr.items, Option.some.injEq] at e
  subst e
  refine ⟨fun x hx => ?_, fun hi => (show n ≤ i by simpa using hi)⟩
  rw [List.getElem?_map] at hx
  simp only [Option.map_eq_some_iff] at hx
  obtain ⟨k, hk, rfl⟩ := hx
  have hi : i < n := by have := (List.getElem?_eq_some_iff.mp hk).1; simpa using this
  rw [List.getElem?_range hi] at hk
  cases hk
  refine ⟨hi, ?_⟩
  rintro y H' ⟨rfl, rfl⟩
  exact ⟨c, .refl c, rfl, hr, by simp [RepV]⟩
theorem itok_rngC {b : Vw} {lo k : Int} {n : Nat} : ItOk g b (.rng lo k n) (Itc lo k n) := by
  intro c h all mo hr e i
  simp only [Itr.items, Option.some.injEq] at e
  subst e
  refine ⟨fun x hx => ?_, fun hi => (show n ≤ i by simpa using hi)⟩
  rw [List.getElem?_map] at hx
  simp only [Option.map_eq_some_iff] at hx
  obtain ⟨j, hk, rfl⟩ := hx
  have hi : i < n := by have := (List.getElem?_eq_some_iff.mp hk).1; simpa using this
  rw [List.getElem?_range hi] at hk
  cases hk
  refine ⟨hi, ?_⟩
  rintro y H' ⟨rfl, rfl⟩
  exact ⟨c, .refl c, rfl, hr, by simp [RepV]⟩
theorem enumD_get : ∀ {ds : List D} {k i : Nat} {x : D}, (enumD k ds)[i]? = some x → ∃ d, ds[i]? = some d ∧ x = .tup [.int ((k + i : Nat) : Int), d]
  | [], k, i, x, h => by simp [enumD] at h
  | d :: ds, k, 0, x, h => by simp [enumD] at h; exact ⟨d, rfl, h.symm⟩
  | d :: ds, k, i + 1, x, h => by
    simp only [enumD, List.getElem?_cons_succ] at h
    obtain ⟨e, h1, h2⟩ := enumD_get h
    exact ⟨e, by simpa using h1, by rw [h2]; congr 3; omega⟩
theorem enumD_length : ∀ (ds : List D) (k : Nat), (enumD k ds).length = ds.length
  | [], k => rfl
  | d :: ds, k => by simp [enumD, enumD_length ds]
/-- a new pair -/
theorem pair_ok {c : Vw} {h : AH} {x y : D} {v w : V} {T : Addr} (hr : HeapRel g c h) (hT : c.H T = none) (r1 : RepV g c x v) (r2 : RepV g c y w) :
    ∃ e, Mono c e ∧ e.H = upd c.H T (.tup [v, w]) ∧ HeapRel g e h ∧ RepV g e (.tup [x, y]) (.ref T) :=
  ⟨c.add T (.tup [v, w]), .add hr _ hT, rfl, .add hr _ hT, .add_tup hr hT (.cons r1 (.cons r2 .nil))⟩
theorem itok_enum {b : Vw} {d : D} {p : Addr} (r : RepV g b d (.ref p)) (nt : asTup d = none) : ItOk g b (.enum d) (Ite K p) := by
  intro c h all mo hr e i
  simp only [Itr.items, Option.map_eq_some_iff] at e
  obtain ⟨ds, e, rfl⟩ := e
  have e' : asLst h d = some ds := by cases d <;> first | exact e | simp [asTup] at nt
  obtain ⟨q, vs, e1, h1, h2⟩ := lst_rep hr (r.mono mo) e'
  cases e1
  refine ⟨fun x hx => ?_, fun hi => ⟨vs, SqL.of h1, by rw [h2.length]; rw [enumD_length] at hi; exact hi⟩⟩
  obtain ⟨y, hy, rfl⟩ := enumD_get hx
  obtain ⟨v, hv, rv⟩ := h2.get hy
  refine ⟨⟨vs, v, SqL.of h1, hv⟩, ?_⟩
  rintro z H' ⟨T, w, rfl, hT, rfl, hw⟩
  have := hw vs (SqL.of h1)
  rw [hv] at this; cases this
  rw [Nat.zero_add]
  exact pair_ok hr hT (.int _) rv
theorem itok_enumT {b : Vw} {ds : List D} {p : Addr} (r : RepV g b (.tup ds) (.ref p)) : ItOk g b (.enum (.tup ds)) (IteT K p) := by
  intro c h all mo hr e i
  simp only [Itr.items, asSeq, Option.map_some, Option.some.injEq] at e
  subst e
  obtain ⟨q, vs, e1, _, h1, h2⟩ := (r.mono mo).tup_inv
  cases e1
  refine ⟨fun x hx => ?_, fun hi => ⟨vs, SqT.of h1, by rw [h2.length]; rw [enumD_length] at hi; exact hi⟩⟩
  obtain ⟨y, hy, rfl⟩ := enumD_get hx
  obtain ⟨v, hv, rv⟩ := h2.get hy
  refine ⟨⟨vs, v, SqT.of h1, hv⟩, ?_⟩
  rintro z H' ⟨T, w, rfl, hT, rfl, hw⟩
  have := hw vs (SqT.of h1)
  rw [hv] at this; cases this
  rw [Nat.zero_add]
  exact pair_ok hr hT (.int _) rv
theorem zipD_get : ∀ {ds es : List D} {i : Nat} {x : D}, (zipD ds es)[i]? = some x → ∃ d e, ds[i]? = some d ∧ es[i]? = some e ∧ x = .tup [d, e]
  | [], _, i, x, h => by simp [zipD] at h
  | _ :: _, [], i, x, h => by simp [zipD] at h
  | d :: ds, e :: es, 0, x, h => by simp [zipD] at h; exact ⟨d, e, rfl, rfl, h.symm⟩
  | d :: ds, e :: es, i + 1, x, h => by
    simp only [zipD, List.getElem?_cons_succ] at h
    obtain ⟨d', e', h1, h2, h3⟩ := zipD_get h
    exact ⟨d', e', by simpa using h1, by simpa using h2, h3⟩
theorem zipD_length : ∀ (ds es : List D), (zipD ds es).length = min ds.length es.length
  | [], es => by simp [zipD]
  | _ :: _, [] => by simp [zipD]
  | d :: ds, e :: es => by simp only [zipD, List.length_cons, zipD_length ds es]; omega
theorem itok_zip {b : Vw} {d e : D} {p q : Addr} (r : RepV g b d (.ref p)) (r2 : RepV g b e (.ref q)) (n1 : asTup d = none) (n2 : asTup e = none) : ItOk g b (.zip d e) (Itz K p q) := by
  intro c h all mo hr ei i
  have ei : (match asLst h d, asLst h e with | some xs, some ys => some (zipD xs ys) | _, _ => none) = some all := by
    cases d <;> first | exact ei | simp [asTup] at n1
  split at ei
  · rename_i xs ys e1' e2'
    cases ei
    obtain ⟨_, vs, q1, h1, h2⟩ := lst_rep hr (r.mono mo) e1'
    obtain ⟨_, ws, q2, h3, h4⟩ := lst_rep hr (r2.mono mo) e2'
    cases q1; cases q2
    refine ⟨fun x hx => ?_, fun hi => ⟨vs, ws, SqL.of h1, SqL.of h3, by rw [h2.length, h4.length]; rw [zipD_length] at hi; omega⟩⟩
    obtain ⟨y, z, hy, hz, rfl⟩ := zipD_get hx
    obtain ⟨v, hv, rv⟩ := h2.get hy
    obtain ⟨w, hw, rw'⟩ := h4.get hz
    refine ⟨⟨vs, ws, v, w, SqL.of h1, SqL.of h3, hv, hw⟩, ?_⟩
    rintro zz H' ⟨T, a1, a2, rfl, hT, rfl, k1, k2⟩
    have j1 := k1 vs (SqL.of h1)
    have j2 := k2 ws (SqL.of h3)
    rw [hv] at j1; cases j1
    rw [hw] at j2; cases j2
    exact pair_ok hr hT rv rw'
  · cases ei
theorem itok_zipT {b : Vw} {ds es : List D} {p q : Addr} (r : RepV g b (.tup ds) (.ref p)) (r2 : RepV g b (.tup es) (.ref q)) : ItOk g b (.zip (.tup ds) (.tup es)) (RZ.ItzT K p q) := by
  intro c h all mo hr ei i
  simp only [Itr.items, zipI, Option.some.injEq] at ei
  subst ei
  obtain ⟨_, vs, q1, _, h1, h2⟩ := (r.mono mo).tup_inv
  obtain ⟨_, ws, q2, _, h3, h4⟩ := (r2.mono mo).tup_inv
  cases q1; cases q2
  refine ⟨fun x hx => ?_, fun hi => ⟨vs, ws, SqT.of h1, SqT.of h3, by rw [h2.length, h4.length]; rw [zipD_length] at hi; omega⟩⟩
  obtain ⟨y, z, hy, hz, rfl⟩ := zipD_get hx
  obtain ⟨v, hv, rv⟩ := h2.get hy
  obtain ⟨w, hw, rw'⟩ := h4.get hz
  refine ⟨⟨vs, ws, v, w, SqT.of h1, SqT.of h3, hv, hw⟩, ?_⟩
  rintro zz H' ⟨T, a1, a2, rfl, hT, rfl, k1, k2⟩
  have j1 := k1 vs (SqT.of h1)
  have j2 := k2 ws (SqT.of h3)
  rw [hv] at j1; cases j1
  rw [hw] at j2; cases j2
  exact pair_ok hr hT rv rw'
theorem itok_rev {b : Vw} {d : D} {p : Addr} {n : Nat} (r : RepV g b d (.ref p)) (nt : asTup d = none) (hn : ∀ c h ds, Mono b c → HeapRel g c h → asLst h d = some ds → ds.length = n) : ItOk g b (.rev d) (Itv K p n) := by
  intro c h all mo hr e i
  obtain ⟨ds, e', rfl⟩ : ∃ ds, asLst h d = some ds ∧ all = ds.reverse := by
    cases d with
    | lst xs => simp only [Itr.items, Option.some.injEq] at e; exact ⟨xs, rfl, e.symm⟩
    | _ => simp [Itr.items] at e
  obtain ⟨q, vs, e1, h1, h2⟩ := lst_rep hr (r.mono mo) e'
  cases e1
  have hl := hn c h ds mo hr e'
  refine ⟨fun x hx => ?_, fun hi => by rw [List.length_reverse, hl] at hi; exact hi⟩
  have hi : i < ds.length := by have := (List.getElem?_eq_some_iff.mp hx).1; simpa using this
  rw [List.getElem?_reverse hi] at hx
  obtain ⟨v, hv, rv⟩ := h2.get hx
  rw [hl] at hv
  refine ⟨⟨by omega, vs, v, SqL.of h1, hv⟩, ?_⟩
  rintro y H' ⟨rfl, hy⟩
  have := hy vs (SqL.of h1)
  rw [hv] at this; cases this
  exact ⟨c, .refl c, rfl, hr, rv⟩
end
end Sm

/-! The text against the small language; expressions are sound. -/
namespace Sm
open PySem PySem.Spec PyProof.Rows L2

inductive Ref where
  | no | fn (x : Str) (n : Nat) | st (C m : Str) (n : Nat) | cc (C f : Str) | gl (x : Str) | mk (x : Str) (n : Nat) | sti (c : Nat) (m : Str) (n : Nat)
  deriving DecidableEq
def spF (g : Gi) (F : Fn) (n : Nat) : Sp := fun vs H Q E => vs.length = n ∧ ∃ a h ds, a.H = H ∧ HeapRel g a h ∧ RepVs g a ds vs ∧ Post g a (RepV g) E Q (F ds h)

/-- what a class call promises: F of its arguments -/
def spN (g : Gi) (C : Addr) (F : Fn) (n : Nat) : Sp := fun vs H Q E => vs.length = n + 1 ∧ ∃ p dx ws a h ds, vs = .ref p :: ws ∧ H = upd (upd a.H dx (.own p)) p (.ins C dx []) ∧ a.H p = none ∧ a.H dx = none ∧ dx ≠ p ∧ HeapRel g a h ∧ RepVs g a ds ws ∧
  Post g a (RepV g) E (fun v H' => v = .ref p → Q .non H') (F ds h)

/-! ### the check -/
/-- no call without arguments (super()) -/
def plainB : Expr → Bool
  | .Call (.Name _ _) [] [] _ => false
  | _ => true
theorem plain_base {x : Expr} {m : Str} {env : Env} {whole : Sem Value} (h : plainB x = true) : attributeBase x m env whole = whole := by
  unfold attributeBase
  split
  · simp [plainB] at h
  · rfl
def visB (sc : Scope) (x : Str) : Bool := match sc.names.lookup x with
  | some .local => true | some .cell => true | some .free => true | _ => false
def locB (sc : Scope) (x : Str) : Bool := match sc.names.lookup x with
  | some .local => true | _ => false
def lcB (sc : Scope) (x : Str) : Bool := match sc.names.lookup x with
  | some .local => true | some .cell => true | _ => false
def glB (sc : Scope) (x : Str) : Bool := decide (sc.names.lookup x = some .globalImplicit) && !(x == ("__debug__" : Str)) && decide (x ≠ "__name__")
def okN (x : Str) : Bool := !(x == ("__debug__" : Str)) && !(x == ("__classdict__" : Str))
def chkC : Con → Const → Bool
  | .non, .none => true
  | .bl b, .bool c => b == c
  | .int i, .int j => i == j
  | .str s, .str t => s == t
  | _, _ => false
def conOk : Con → Bool
  | .str s => decide (s.length ≤ lim)
  | _ => true
def noStar : Expr → Bool
  | .Starred _ _ => false
  | _ => true
def isTupE : Expr → Bool
  | .Tuple _ _ _ => true
  | _ => false
theorem isTupE_of {e : Expr} (h : isTupE e = true) : ∃ a b c, e = .Tuple a b c := by
  cases e <;> first | exact ⟨_, _, _, rfl⟩ | (simp [isTupE] at h)
def notSet : Expr → Bool
  | .Set _ _ _ => false
  | _ => true
def tyNm : Ty → Str
  | .bool => "bool" | .int => "int" | .str => "str" | .list => "list" | .tuple => "tuple"
def tyId : Ty → String
  | .bool => "bool" | .int => "int" | .str => "str" | .list => "list" | .tuple => "tuple"
/-- a target of names: one or a tuple of them, with their slots -/
def chkNs (N : List Str) (sc : Scope) (fnB : Str → Bool) : List Nat → List Expr → Bool
  | [], [] => true
  | i :: is, .Name x _ :: xs => decide (N[i]? = some x) && lcB sc x && (locB sc x || fnB x) && chkNs N sc fnB is xs
  | _, _ => false
def chkT (N : List Str) (sc : Scope) (fnB : Str → Bool) (tg : List Nat) (one : Bool) (e : Expr) : Bool :=
  match one, tg, e with
  | true, [i], .Name x _ => decide (N[i]? = some x) && lcB sc x && (locB sc x || fnB x)
  | false, tg, .Tuple xs _ _ => chkNs N sc fnB tg xs
  | _, _, _ => false
mutual
def chk (tb : Nat → Ref) (N : List Str) (sc : Scope) : E → Expr → Bool
  | .var i, .Name x _ => decide (N[i]? = some x) && visB sc x && okN x
  | .con c, .Constant k _ _ => chkC c k
  | .bin o a b, .BinOp x p y _ => decide (p = opOf o) && chk tb N sc a x && chk tb N sc b y
  | .neg a, .UnaryOp .USub x _ => chk tb N sc a x
  | .cmp o a b, .Compare x [p] [y] _ => decide (p = cmOf o) && !behindInMarks p y && chk tb N sc a x && chk tb N sc b y
  | .chain o p a b c, .Compare x [q, r] [y, z] _ => decide (q = cmOf o) && decide (r = cmOf p) && !lastMarks [q, r] [y, z] && chk tb N sc a x && chk tb N sc b y && chk tb N sc c z
  | .band es, .BoolOp .And xs _ => chks tb N sc es xs
  | .bor es, .BoolOp .Or xs _ => chks tb N sc es xs
  | .bnot a, .UnaryOp .Not x _ => chk tb N sc a x
  | .ite c a b, .IfExp x y z _ => chk tb N sc c x && chk tb N sc a y && chk tb N sc b z
  | .tup es, .Tuple xs _ _ => chks tb N sc es xs
  | .lst _ es, .List xs _ => chks tb N sc es xs
  | .ix a i, .Subscript x y _ => chk tb N sc a x && chk tb N sc i y
  | .slice _ a lo hi, .Subscript x (.Slice l u none _) _ => chk tb N sc a x && chko tb N sc lo l && chko tb N sc hi u
  | .call f es, .Call (.Name x _) ys [] _ => (decide (tb f = .fn x es.length) || decide (tb f = .mk x es.length)) && glB sc x && chks tb N sc es ys
  | .glob f, .Name x _ => decide (tb f = .gl x) && glB sc x
  | .ccon f, .Attribute (.Name x _) m _ => decide (tb f = .cc x m) && glB sc x
  | .cst f es, .Call (.Attribute (.Name x _) m ap) ys [] pos => decide (tb f = .st x m es.length) && glB sc x && chks tb N sc es ys && decide (ap.endLine = pos.line) && decide (ys.length < 30) && !ys.isEmpty
  | .sti f c a es, .Call (.Attribute x m ap) ys [] pos => decide (tb f = .sti c m es.length) && plainB x && chk tb N sc a x && chks tb N sc es ys && decide (ap.endLine = pos.line) && decide (ys.length < 30) && !ys.isEmpty
  | .bif b es, .Call (.Name x _) ys [] _ => decide (x = bNm b) && glB sc x && chks tb N sc es ys && !ys.isEmpty
  | .isb a t, .Call (.Name x _) [y, .Name z _] [] _ => decide (x = "isinstance") && glB sc x && decide (z = tyNm t) && glB sc z && chk tb N sc a y && noStar y
  | .comp _ it tg one cond elt own, .ListComp el [⟨te, ie, ifs, k⟩] scope _ => decide (k = 0) && blkC N sc scope own && chkI tb N sc it ie te && chkT N (relS scope sc) (fun x => scope.names.lookup x == some .cell) tg one te && notSet ie && chkIfs tb N (relS scope sc) cond ifs && chk tb N (relS scope sc) elt el
      && decide (tg = own.map (·.2))
  | _, _ => false
def chks (tb : Nat → Ref) (N : List Str) (sc : Scope) : List E → List Expr → Bool
  | [], [] => true
  | e :: es, x :: xs => chk tb N sc e x && noStar x && chks tb N sc es xs
  | _, _ => false
def chko (tb : Nat → Ref) (N : List Str) (sc : Scope) : Option E → Option Expr → Bool
  | none, none => true
  | some e, some x => chk tb N sc e x
  | _, _ => false
def chkIfs (tb : Nat → Ref) (N : List Str) (sc : Scope) : Option E → List Expr → Bool
  | none, [] => true
  | some e, [x] => chk tb N sc e x
  | _, _ => false
def chkI (tb : Nat → Ref) (N : List Str) (sc : Scope) : E → Expr → Expr → Bool
  | .seq a, x, _ => chk tb N sc a x
  | .rng es, .Call (.Name x _) xs [] _, _ => decide (x = "range") && glB sc x && chks tb N sc es xs && decide (xs.length = 1 ∨ xs.length = 2 ∨ xs.length = 3)
  | .enum a, .Call (.Name x _) [y] [] _, tg => isTupE tg && decide (x = "enumerate") && glB sc x && chk tb N sc a y && noStar y
  | .zip a b, .Call (.Name x _) [y, z] [] _, tg => isTupE tg && decide (x = "zip") && glB sc x && chk tb N sc a y && noStar y && chk tb N sc b z && noStar z
  | .rev a, .Call (.Name x _) [y] [] _, _ => decide (x = "reversed") && glB sc x && chk tb N sc a y && noStar y
  | _, _, _ => false
end

/-! ### what is known around a body -/
def frees : List Str := ["len", "abs", "int", "bool", "list", "tuple", "sum", "max", "min", "sorted", "all", "str", "range", "enumerate", "zip", "reversed", "isinstance", "set", "iter", "next"]
/-- C.m is a static method: its record at p, its def at g -/
structure SMet (K : PySem.W.Frag) (C : Addr) (mc : Value) (m : Str) (p g : Addr) : Prop where
  at_ : PySem.W.findCls K (.ref C) mc m = some (.get (.builtin "staticmethod.__get__") (.ref p) .none (.ref C))
  rc : ∃ rest, PySem.W.recIn K p "staticmethod" = some (.ref g :: rest)
/-- .. reached through an instance with slots -/
structure SInst (K : PySem.W.Frag) (C : Addr) (m : Str) (p g : Addr) : Prop where
  pg : PySem.W.plainGet K C Str.empty = true
  ic : PySem.W.isClsIn K C = true
  at_ : PySem.W.findIn K (.ref C) m = some (some (.ref p))
  ty : PySem.W.typeIn K (.ref p) = some (.type "staticmethod")
  get : PySem.W.specialIn K (.ref p) "__get__" = some (some (.builtin "staticmethod.__get__"))
  tk : PySem.W.takesIn K (.ref p) = some false
  cp : PySem.W.copiedNames.contains m = false
  rc : ∃ rest, PySem.W.recIn K p "staticmethod" = some (.ref g :: rest)
theorem SInst.get' {K : PySem.W.Frag} {C : Addr} {m : Str} {p g : Addr} (k : SInst K C m p g) : PySem.W.plainGet K C m = true := k.pg
def RefOk (P : Program) (w : World) (K : PySem.W.Frag) (mg : Str → Option Value) (base : Heap) (g : Gi) (k : Nat) (cs : Cs) (f : Nat) : Ref → Prop
  | .no => True
  | .fn x n => ∃ fa fd ps, ps.length = n ∧ mg x = some (.ref fa) ∧ PySem.W.keepIn K (.ref fa) = true ∧ FnOk P w K mg base (L2.CX P w) k fa fd ps (spF g (cs.fn f) ps.length) ∧ Binds K fd ps []
  | .st C m n => ∃ Ca mc p fa fd ps, ps.length = n ∧ mg C = some (.ref Ca) ∧ ClX.CRead K Ca mc ∧ SMet K Ca mc m p fa ∧ PySem.W.keepIn K (.ref fa) = true ∧ FnOk P w K mg base (L2.CX P w) k fa fd ps (spF g (cs.fn f) ps.length) ∧ Binds K fd ps []
  | .cc C f' => ∃ Ca mc v u, mg C = some (.ref Ca) ∧ ClX.CRead K Ca mc ∧ ClX.CVal K Ca mc f' v u ∧ ∀ a, RepV g a (cs.con f).d v
  | .mk x n => ∃ C fi fd ps k0, ps.length = n + 1 ∧ mg x = some (.ref C) ∧ Mk K C fi ∧ k0 + 1 ≤ k ∧ FnOk P w K mg base (L2.CX P w) k0 fi fd ps (spN g C (cs.fn f) n) ∧ Binds K fd ps []
  | .sti c m n => ∃ p fa fd ps, ps.length = n ∧ g.sl c = true ∧ SInst K (g.ca c) m p fa ∧ PySem.W.keepIn K (.ref fa) = true ∧ FnOk P w K mg base (L2.CX P w) k fa fd ps (spF g (cs.fn f) ps.length) ∧ Binds K fd ps []
  | .gl x => ∃ u v, mg x = some u ∧ RelV v u ∧ ∀ a, RepV g a (cs.con f).d v
structure Kn (X : Cx) (g : Gi) (cs : Cs) (tb : Nat → Ref) (k : Nat) (N : List Str) (sc : Scope) : Prop where
  eN : X.N = N
  esc : X.env.scope = sc
  nd : N.Nodup
  calm : X.calm = true
  kl : ∀ p vs H, g.kl p vs → SqL X.K H p vs
  room : Room k X.A
  free : ∀ x ∈ frees, X.mg x = none
  refs : ∀ f, RefOk X.prog X.w X.K X.mg X.base g k cs f (tb f)

def Gd {α β : Type} (g : Gi) (W : WX) (rep : Vw → α → β → Prop) (t : L2.St → Hp → (β → Hp → Prop) → Prop) (f : Env' → AH → R α) : Prop :=
  ∀ a h ρ σ Q, HeapRel g a h → EnvR g a ρ σ → Post g a rep (fun c d H => W c d σ H) Q (f ρ h) → t σ a.H Q
def GdB (g : Gi) (W : WX) (t : TT) (f : Env' → AH → R D) : Prop :=
  ∀ a h ρ σ Q, HeapRel g a h → EnvR g a ρ σ → Post g a (RepV g) (fun c d H => W c d σ H) (fun v H => ∃ k, v = .bl k ∧ Q k H) (f ρ h) → t σ a.H Q
theorem Gd.use {α β γ δ : Type} {g : Gi} {W : WX} {rep : Vw → α → β → Prop} {rep' : Vw → γ → δ → Prop} {t : L2.St → Hp → (β → Hp → Prop) → Prop} {f : Env' → AH → R α} (ga : Gd g W rep t f)
    {a : Vw} {h : AH} {ρ : Env'} {σ : L2.St} (hr : HeapRel g a h) (er : EnvR g a ρ σ) {k : α → AH → R γ} {Q' : δ → Hp → Prop} (p : Post g a rep' (fun c d H => W c d σ H) Q' ((f ρ h).bind k)) {Q : β → Hp → Prop}
    (hk : ∀ d h1 v b, Mono a b → HeapRel g b h1 → EnvR g b ρ σ → rep b d v → Post g b rep' (fun c d H => W c d σ H) Q' (k d h1) → Q v b.H) : t σ a.H Q := by
  refine ga a h ρ σ Q hr er ?_
  cases e : f ρ h with
  | ok d h1 =>
    rw [e] at p
    exact fun v b m hb rv => hk d h1 v b m hb (er.mono m) rv (p.mono m)
  | ex x h1 => rw [e] at p; exact p
  | stuck => rw [e] at p; exact p.elim
theorem GdB.use {γ δ : Type} {g : Gi} {W : WX} {rep' : Vw → γ → δ → Prop} {t : TT} {f : Env' → AH → R D} (ga : GdB g W t f)
    {a : Vw} {h : AH} {ρ : Env'} {σ : L2.St} (hr : HeapRel g a h) (er : EnvR g a ρ σ) {k : D → AH → R γ} {Q' : δ → Hp → Prop} (p : Post g a rep' (fun c d H => W c d σ H) Q' ((f ρ h).bind k)) {Q : Bool → Hp → Prop}
    (hk : ∀ d h1 b, Mono a b → HeapRel g b h1 → EnvR g b ρ σ → Post g b rep' (fun c d H => W c d σ H) Q' (k d h1) → ∃ i, d = .bl i ∧ Q i b.H) : t σ a.H Q := by
  refine ga a h ρ σ Q hr er ?_
  cases e : f ρ h with
  | ok d h1 =>
    rw [e] at p
    intro v b m hb rv
    obtain ⟨i, rfl, q⟩ := hk d h1 b m hb (er.mono m) (p.mono m)
    cases rv.bl_inv
    exact ⟨i, rfl, q⟩
  | ex x h1 => rw [e] at p; exact p
  | stuck => rw [e] at p; exact p.elim
/-- an expression and its small text: as a value, as a test -/
def Snd (X : Cx) (g : Gi) (cs : Cs) (W : WX) (e : E) (x : Expr) : Prop :=
  (∃ te, PE X x te ∧ Gd g W (RepV g) te (ev cs e false)) ∧ (∃ tt, PT X x tt ∧ GdB g W tt (ev cs e true))
def NoTst (x : Expr) : Prop := ∀ (env : Env) (whole : Sem Value), isTrue x env whole = (do let v ← whole; standAt x.pos; holding [v] (truthy v))
section
variable {X : Cx} {g : Gi} {cs : Cs} {W : WX} {tb : Nat → Ref} {k : Nat} {N : List Str} {sc : Scope}
/-- a value's rule serves the test too -/
theorem Snd.of {e : E} {x : Expr} {te : TE} {F : Env' → AH → R D} (h : PE X x te) (gd : Gd g W (RepV g) te F) (ht : NoTst x) (he : ∀ t ρ h, ev cs e t ρ h = tr t (F ρ h)) : Snd X g cs W e x := by
  refine ⟨⟨te, h, ?_⟩, ⟨_, pt_truth h (ht X.env), ?_⟩⟩
  · have : ev cs e false = F := by funext ρ h; rw [he]; rfl
    rw [this]; exact gd
  · intro a h ρ σ Q hr er p
    rw [he] at p
    refine gd.use hr er p fun d h1 v b m hb eb rv p => ?_
    split at p
    · rename_i i hi
      obtain ⟨i', e1, q⟩ := ok_post hb (.bl i) p
      cases e1
      exact ⟨i, tru_rep hb rv hi, q⟩
    · exact p.elim
theorem snd_var (C : Kn X g cs tb k N sc) {i : Nat} {x : Expr} (hc : chk tb N sc (.var i) x = true) : Snd X g cs W (.var i) x := by
  cases x with
  | Name y p =>
    simp only [chk, Bool.and_eq_true, decide_eq_true_eq] at hc
    obtain ⟨⟨h1, h2⟩, h3⟩ := hc
    simp only [okN, Bool.and_eq_true, Bool.not_eq_true'] at h3
    have hv : Vis X.env.scope y := by
      rw [C.esc]
      unfold visB at h2
      split at h2 <;> first | exact .inl (by assumption) | exact .inr (.inl (by assumption)) | exact .inr (.inr (by assumption)) | cases h2
    refine Snd.of (pe_var (i := i) (by rw [C.eN]; exact h1) hv h3.1 h3.2) ?_ (fun _ _ => rfl) (F := fun ρ h => match ρ[i]? with | some (some d) => .ok d h | _ => .stuck) fun t ρ h => by simp only [ev] <;> rfl
    intro a h ρ σ Q hr er p
    dsimp only at p
    split at p
    · rename_i d hd
      obtain ⟨v, h4, h5⟩ := er.rep i d hd
      exact ⟨v, h4, ok_post hr h5 p⟩
    · exact p.elim
  | _ => simp [chk] at hc
theorem pe_of_var (C : Kn X g cs tb k N sc) {i : Nat} {y : Str} {p : Pos} (hc : chk tb N sc (.var i) (.Name y p) = true) : PE X (.Name y p) (tVar i) := by
  simp only [chk, Bool.and_eq_true, decide_eq_true_eq] at hc
  obtain ⟨⟨h1, h2⟩, h3⟩ := hc
  simp only [okN, Bool.and_eq_true, Bool.not_eq_true'] at h3
  refine pe_var (i := i) (by rw [C.eN]; exact h1) ?_ h3.1 h3.2
  rw [C.esc]
  unfold visB at h2
  split at h2 <;> first | exact .inl (by assumption) | exact .inr (.inl (by assumption)) | exact .inr (.inr (by assumption)) | cases h2
theorem con_rep {a : Vw} (c : Con) : ∃ v, RepV g a c.d v := by
  cases c with
  | non => exact ⟨_, .non⟩
  | bl b => exact ⟨_, .bl b⟩
  | int b => exact ⟨_, .int b⟩
  | str b => exact ⟨_, .str b⟩
theorem gd_con {v : V} {d : D} (hv : ∀ a, RepV g a d v) : Gd g W (RepV g) (tC v) (fun _ h => .ok d h) := fun a h ρ σ Q hr er p => ok_post hr (hv a) p
theorem snd_con (C : Kn X g cs tb k N sc) {c : Con} {x : Expr} (hc : chk tb N sc (.con c) x = true) : Snd X g cs W (.con c) x := by
  cases x with
  | Constant y j p =>
    simp only [chk] at hc
    have he : ∀ t ρ h, ev cs (.con c) t ρ h = tr t (.ok c.d h) := fun t ρ h => by simp only [ev] <;> rfl
    cases c <;> cases y <;> simp only [chkC, beq_iff_eq] at hc <;> first | cases hc | skip
    · exact Snd.of pe_non (gd_con fun a => .non) (fun _ _ => rfl) he
    · exact Snd.of pe_bl (gd_con fun a => .bl _) (fun _ _ => rfl) he
    · exact Snd.of pe_int (gd_con fun a => .int _) (fun _ _ => rfl) he
    · exact Snd.of pe_str (gd_con fun a => .str _) (fun _ _ => rfl) he
  | _ => simp [chk] at hc
theorem wimp {W' : XW} {a : Vw} {α β : Type} {rep : Vw → α → β → Prop} {Q : β → Hp → Prop} {r : R α} (hx : ∀ x h, r ≠ .ex x h) (p : Post g a rep W' Q r) (W2 : XW) : Post g a rep W2 Q r := by
  cases r with
  | ok d h => exact p
  | ex x h => exact absurd rfl (hx x h)
  | stuck => exact p
theorem binV_nx (o : Bop) (x y : D) (h : AH) : ∀ e h', binV o x y h ≠ .ex e h' := by
  intro e h'
  unfold binV
  split
  · split <;> simp
  · split
    · split <;> simp
    · simp
  · split
    · split <;> simp
    · simp
  · unfold binL
    split
    · split <;> simp
    · split <;> simp
    · simp
theorem ixV_nx (x y : D) (h : AH) : ∀ e h', ixV x y h ≠ .ex e h' := by
  intro e h'
  unfold ixV
  split
  · split
    · split
      · split <;> simp
      · simp
    · split <;> simp
  · simp
theorem mkL_nx (c : Bool) (x : List D) (h : AH) : ∀ e h', mkL c x h ≠ .ex e h' := by
  intro e h'
  unfold mkL
  split
  · split <;> simp
  · simp
theorem slV_nx (c : Bool) (x : D) (l u : Option Int) (h : AH) : ∀ e h', slV c x l u h ≠ .ex e h' := by
  intro e h'
  unfold slV
  split
  · simp
  · split <;> simp
  · split
    · exact mkL_nx _ _ _ _ _
    · simp
theorem bifV_nx (b : Bif) (x : List D) (h : AH) : ∀ e h', bifV b x h ≠ .ex e h' := by
  intro e h'
  unfold bifV
  split <;> first | (simp; done) | (split <;> simp)
theorem bifL_nx (c : Bool) (b : Bif) (x : List D) (h : AH) : ∀ e h', bifL c b x h ≠ .ex e h' := by
  intro e h'
  unfold bifL
  split
  · split
    · exact mkL_nx _ _ _ _ _
    · simp
  · split
    · exact mkL_nx _ _ _ _ _
    · simp
  · exact bifV_nx _ _ _ _ _
theorem snd_bin {o : Bop} {a b : E} {x y : Expr} {p : Pos} (ha : Snd X g cs W a x) (hb : Snd X g cs W b y) : Snd X g cs W (.bin o a b) (.BinOp x (opOf o) y p) := by
  obtain ⟨⟨ta, p1, g1⟩, _⟩ := ha
  obtain ⟨⟨tb', p2, g2⟩, _⟩ := hb
  refine Snd.of (pe_op (opr_bin (g := g) o) p1 p2) (F := fun ρ h => (ev cs a false ρ h).bind fun x h => (ev cs b false ρ h).bind fun y h => binV o x y h) ?_ (fun _ _ => rfl) fun t ρ h => by simp only [ev] <;> rfl
  intro a1 h ρ σ Q hr er p
  refine g1.use hr er p fun d h1 v b1 m1 hb1 eb1 rv p => ?_
  refine g2.use hb1 eb1 p fun d2 h2 v2 b2 m2 hb2 eb2 rv2 p => ?_
  exact ⟨b2, h2, d, d2, rfl, hb2, rv.mono m2, rv2, wimp (binV_nx _ _ _ _) p _⟩
theorem snd_neg {a : E} {x : Expr} {p : Pos} (ha : Snd X g cs W a x) : Snd X g cs W (.neg a) (.UnaryOp .USub x p) := by
  obtain ⟨⟨ta, p1, g1⟩, _⟩ := ha
  refine Snd.of (pe_un un_neg p1) (F := fun ρ h => (ev cs a false ρ h).bind fun x h => match x with | .int i => .ok (.int (-i)) h | _ => .stuck) ?_ (fun _ _ => rfl) fun t ρ h => by simp only [ev] <;> rfl
  intro a1 h ρ σ Q hr er p
  refine g1.use hr er p fun d h1 v b1 m1 hb1 eb1 rv p => ?_
  split at p
  · cases rv.int_inv
    exact ⟨_, rfl, ok_post hb1 (.int _) p⟩
  · exact p.elim
/-- a bool's rule, as value and test -/
theorem Snd.ofB {e : E} {x : Expr} {te : TE} (h : PE X x te) (ht : PT X x (tTest te)) {F : Env' → AH → R D} (gd : Gd g W (RepV g) te F) (he : ∀ t, ev cs e t = F) : Snd X g cs W e x := by
  refine ⟨⟨te, h, by rw [he]; exact gd⟩, ⟨_, ht, ?_⟩⟩
  intro a h ρ σ Q hr er p
  rw [he] at p
  exact gd a h ρ σ _ hr er p
theorem units (C : Kn X g cs tb k N sc) : X.A.units + 65 < cLine := by
  have := C.room.un
  omega
theorem snd_cmp (C : Kn X g cs tb k N sc) {o : Cop} {a b : E} {x y : Expr} {p : Pos} (hm : behindInMarks (cmOf o) y = false) (ha : Snd X g cs W a x) (hb : Snd X g cs W b y) : Snd X g cs W (.cmp o a b) (.Compare x [cmOf o] [y] p) := by
  obtain ⟨⟨ta, p1, g1⟩, _⟩ := ha
  obtain ⟨⟨tb', p2, g2⟩, _⟩ := hb
  have oc := opr_cmp (X := X) (g := g) (units C) o
  refine Snd.ofB (pe_cmpR oc p1 p2 hm) (pt_cmpR oc p1 p2 hm) (F := fun ρ h => (ev cs a false ρ h).bind fun x h => (ev cs b false ρ h).bind fun y h => match cmpV o x y h with | some k => .ok (.bl k) h | none => .stuck) ?_ fun t => by funext ρ h; simp only [ev] <;> rfl
  intro a1 h ρ σ Q hr er p
  refine g1.use hr er p fun d h1 v b1 m1 hb1 eb1 rv p => ?_
  refine g2.use hb1 eb1 p fun d2 h2 v2 b2 m2 hb2 eb2 rv2 p => ?_
  split at p
  · rename_i j hj
    exact ⟨b2, h2, d, d2, j, rfl, hb2, rv.mono m2, rv2, hj, ok_post hb2 (.bl _) p⟩
  · exact p.elim
theorem snd_chain (C : Kn X g cs tb k N sc) {o o2 : Cop} {a b c : E} {x y z : Expr} {p : Pos} (hm : lastMarks [cmOf o, cmOf o2] [y, z] = false) (ha : Snd X g cs W a x) (hb : Snd X g cs W b y) (hc : Snd X g cs W c z) :
    Snd X g cs W (.chain o o2 a b c) (.Compare x [cmOf o, cmOf o2] [y, z] p) := by
  obtain ⟨⟨ta, p1, g1⟩, _⟩ := ha
  obtain ⟨⟨tb', p2, g2⟩, _⟩ := hb
  obtain ⟨⟨tc, p3, g3⟩, _⟩ := hc
  have oc := opr_cmp (X := X) (g := g) (units C) o
  have oc2 := opr_cmp (X := X) (g := g) (units C) o2
  refine Snd.ofB (pe_chain oc oc2 p1 p2 p3 hm) (pt_chain oc oc2 p1 p2 p3 hm) (F := fun ρ h => (ev cs a false ρ h).bind fun x h => (ev cs b false ρ h).bind fun y h => match cmpV o x y h with
      | some true => (ev cs c false ρ h).bind fun z h => (match cmpV o2 y z h with | some k => .ok (.bl k) h | none => .stuck)
      | some false => .ok (.bl false) h
      | none => .stuck) ?_ fun t => by funext ρ h; simp only [ev] <;> rfl
  intro a1 h ρ σ Q hr er p
  refine g1.use hr er p fun d h1 v b1 m1 hb1 eb1 rv p => ?_
  refine g2.use hb1 eb1 p fun d2 h2 v2 b2 m2 hb2 eb2 rv2 p => ?_
  split at p
  · rename_i hj
    refine ⟨b2, h2, d, d2, true, rfl, hb2, rv.mono m2, rv2, hj, true, rfl, ?_⟩
    rw [if_pos rfl]
    refine g3.use hb2 eb2 p fun d3 h3 v3 b3 m3 hb3 eb3 rv3 p => ?_
    split at p
    · rename_i j hj2
      exact ⟨b3, h3, d2, d3, j, rfl, hb3, rv2.mono m3, rv3, hj2, ok_post hb3 (.bl _) p⟩
    · exact p.elim
  · rename_i hj
    refine ⟨b2, h2, d, d2, false, rfl, hb2, rv.mono m2, rv2, hj, false, rfl, ?_⟩
    rw [if_neg Bool.false_ne_true]
    exact ok_post hb2 (.bl _) p
  · exact p.elim
theorem snd_not {a : E} {x : Expr} {p : Pos} (ha : Snd X g cs W a x) : Snd X g cs W (.bnot a) (.UnaryOp .Not x p) := by
  obtain ⟨⟨ta, p1, g1⟩, ⟨tt, p2, g2⟩⟩ := ha
  refine ⟨⟨_, pe_notT p1, ?_⟩, ⟨_, pt_not p2, ?_⟩⟩
  · intro a1 h ρ σ Q hr er p
    simp only [ev] at p
    refine g1.use hr er p fun d h1 v b1 m1 hb1 eb1 rv p => ?_
    rw [if_neg Bool.false_ne_true] at p
    split at p
    · rename_i j hj
      exact ⟨j, tru_rep hb1 rv hj, ok_post hb1 (.bl _) p⟩
    · exact p.elim
  · intro a1 h ρ σ Q hr er p
    simp only [ev] at p
    refine g2.use hr er p fun d h1 b1 m1 hb1 eb1 p => ?_
    rw [if_pos trivial] at p
    split at p
    · rename_i j hj
      cases d <;> simp only [blOf] at hj <;> cases hj
      obtain ⟨i, e1, q⟩ := ok_post hb1 (.bl _) p
      cases e1
      exact ⟨_, rfl, q⟩
    · exact p.elim

/-! ### and, or, if-else -/
def SndBo (X : Cx) (g : Gi) (W : WX) (op : BoolOp) (xs : List Expr) (F : Bool → Env' → AH → R D) : Prop :=
  ∀ p, (∃ te, PE X (.BoolOp op xs p) te ∧ Gd g W (RepV g) te (F false)) ∧ (∃ tt, PW X (.BoolOp op xs p) tt ∧ GdB g W tt (F true))
theorem sndAnd_one {e : E} {x : Expr} (h : Snd X g cs W e x) : SndBo X g W .And [x] (evAnd cs [e]) := by
  intro p
  obtain ⟨⟨te, p1, g1⟩, ⟨tt, p2, g2⟩⟩ := h
  exact ⟨⟨te, pe_one p1, fun a h ρ σ Q hr er q => g1 a h ρ σ Q hr er (by simpa only [evAnd] using q)⟩, ⟨tt, pw_and1 p2, fun a h ρ σ Q hr er q => g2 a h ρ σ Q hr er (by simpa only [evAnd] using q)⟩⟩
theorem sndOr_one {e : E} {x : Expr} (h : Snd X g cs W e x) : SndBo X g W .Or [x] (evOr cs [e]) := by
  intro p
  obtain ⟨⟨te, p1, g1⟩, ⟨tt, p2, g2⟩⟩ := h
  exact ⟨⟨te, pe_one p1, fun a h ρ σ Q hr er q => g1 a h ρ σ Q hr er (by simpa only [evOr] using q)⟩, ⟨tt, pw_or1 p2, fun a h ρ σ Q hr er q => g2 a h ρ σ Q hr er (by simpa only [evOr] using q)⟩⟩
theorem sndAnd_cons {e f : E} {es : List E} {x y : Expr} {ys : List Expr} (h : Snd X g cs W e x) (t : SndBo X g W .And (y :: ys) (evAnd cs (f :: es))) : SndBo X g W .And (x :: y :: ys) (evAnd cs (e :: f :: es)) := by
  intro p
  obtain ⟨⟨te, p1, g1⟩, ⟨tt, p2, g2⟩⟩ := h
  obtain ⟨⟨te', p3, g3⟩, ⟨tt', p4, g4⟩⟩ := t p
  refine ⟨⟨_, pe_and p1 p3, ?_⟩, ⟨_, pw_and p2 p4, ?_⟩⟩
  · intro a h ρ σ Q hr er q
    simp only [evAnd] at q
    refine g1.use hr er q fun d h1 v b m hb eb rv q => ?_
    split at q
    · cases rv.bl_inv
      refine ⟨true, rfl, ?_⟩
      rw [if_pos rfl]
      exact g3 b h1 ρ σ Q hb eb q
    · cases rv.bl_inv
      refine ⟨false, rfl, ?_⟩
      rw [if_neg Bool.false_ne_true]
      exact ok_post hb (.bl _) q
    · exact q.elim
  · intro a h ρ σ Q hr er q
    simp only [evAnd] at q
    refine g2.use hr er q fun d h1 b m hb eb q => ?_
    split at q
    · refine ⟨true, rfl, ?_⟩
      rw [if_pos rfl]
      exact g4 b h1 ρ σ Q hb eb q
    · refine ⟨false, rfl, ?_⟩
      rw [if_neg Bool.false_ne_true]
      obtain ⟨i, e1, q⟩ := ok_post hb (.bl _) q
      cases e1
      exact q
    · exact q.elim
theorem sndOr_cons {e f : E} {es : List E} {x y : Expr} {ys : List Expr} (h : Snd X g cs W e x) (t : SndBo X g W .Or (y :: ys) (evOr cs (f :: es))) : SndBo X g W .Or (x :: y :: ys) (evOr cs (e :: f :: es)) := by
  intro p
  obtain ⟨⟨te, p1, g1⟩, ⟨tt, p2, g2⟩⟩ := h
  obtain ⟨⟨te', p3, g3⟩, ⟨tt', p4, g4⟩⟩ := t p
  refine ⟨⟨_, pe_or p1 p3, ?_⟩, ⟨_, pw_or p2 p4, ?_⟩⟩
  · intro a h ρ σ Q hr er q
    simp only [evOr] at q
    refine g1.use hr er q fun d h1 v b m hb eb rv q => ?_
    split at q
    · cases rv.bl_inv
      refine ⟨true, rfl, ?_⟩
      rw [if_pos rfl]
      exact ok_post hb (.bl _) q
    · cases rv.bl_inv
      refine ⟨false, rfl, ?_⟩
      rw [if_neg Bool.false_ne_true]
      exact g3 b h1 ρ σ Q hb eb q
    · exact q.elim
  · intro a h ρ σ Q hr er q
    simp only [evOr] at q
    refine g2.use hr er q fun d h1 b m hb eb q => ?_
    split at q
    · refine ⟨true, rfl, ?_⟩
      rw [if_pos rfl]
      obtain ⟨i, e1, q⟩ := ok_post hb (.bl _) q
      cases e1
      exact q
    · refine ⟨false, rfl, ?_⟩
      rw [if_neg Bool.false_ne_true]
      exact g4 b h1 ρ σ Q hb eb q
    · exact q.elim
theorem Snd.ofBo {op : BoolOp} {xs : List Expr} {F : Bool → Env' → AH → R D} {e : E} {p : Pos} (h : SndBo X g W op xs F) (he : ∀ t, ev cs e t = F t) : Snd X g cs W e (.BoolOp op xs p) := by
  obtain ⟨⟨te, p1, g1⟩, ⟨tt, p2, g2⟩⟩ := h p
  exact ⟨⟨te, p1, by rw [he]; exact g1⟩, ⟨tt, p2.pt, by rw [he]; exact g2⟩⟩
theorem snd_ite {c a b : E} {x y z : Expr} {p : Pos} (hc : Snd X g cs W c x) (ha : Snd X g cs W a y) (hb : Snd X g cs W b z) : Snd X g cs W (.ite c a b) (.IfExp x y z p) := by
  obtain ⟨_, ⟨tt, p1, g1⟩⟩ := hc
  obtain ⟨⟨ta, p2, g2⟩, _⟩ := ha
  obtain ⟨⟨tb', p3, g3⟩, _⟩ := hb
  refine ⟨⟨_, pe_ifExp p1 p2 p3, ?_⟩, ⟨fun _ _ _ => False, ⟨fun _ _ _ _ _ _ z => z.elim⟩, ?_⟩⟩
  · intro a1 h ρ σ Q hr er q
    simp only [ev, Bool.false_eq_true, if_false] at q
    refine g1.use hr er q fun d h1 b1 m hb eb q => ?_
    split at q
    · refine ⟨true, rfl, ?_⟩
      rw [if_pos rfl]
      exact g2 b1 h1 ρ σ Q hb eb q
    · refine ⟨false, rfl, ?_⟩
      rw [if_neg Bool.false_ne_true]
      exact g3 b1 h1 ρ σ Q hb eb q
    · exact q.elim
  · intro a1 h ρ σ Q hr er q
    simp only [ev, if_true] at q
    exact q.elim
/-! ### lists of expressions -/
def Snds (X : Cx) (g : Gi) (cs : Cs) (W : WX) (es : List E) (xs : List Expr) : Prop := ∃ ta, PA X xs ta ∧ Gd g W (RepVs g) ta (evs cs es)
theorem snds_nil : Snds X g cs W [] [] := ⟨_, pa_nil, fun a h ρ σ Q hr er q => by
  simp only [evs] at q
  exact q [] a (.refl a) hr .nil⟩
theorem star_cons {x : Expr} {xs : List Expr} {env : Env} (h : noStar x = true) : starEach (x :: xs) env = (false, eval x env) :: starEach xs env := by
  cases x <;> first | rfl | (simp [noStar] at h)
theorem snds_cons {e : E} {es : List E} {x : Expr} {xs : List Expr} (h : Snd X g cs W e x) (hs : noStar x = true) (t : Snds X g cs W es xs) : Snds X g cs W (e :: es) (x :: xs) := by
  obtain ⟨⟨te, p1, g1⟩, _⟩ := h
  obtain ⟨ta, p2, g2⟩ := t
  refine ⟨_, pa_cons p1 p2 (star_cons hs), ?_⟩
  intro a h ρ σ Q hr er q
  simp only [evs] at q
  refine g1.use hr er q fun d h1 v b m hb eb rv q => ?_
  refine g2.use hb eb q fun ds h2 vs c m2 hc ec rvs q => ?_
  exact q (v :: vs) c (.refl c) hc (.cons (rv.mono m2) rvs)
theorem snd_tup {es : List E} {xs : List Expr} {k' : Nat} {p : Pos} (h : Snds X g cs W es xs) : Snd X g cs W (.tup es) (.Tuple xs k' p) := by
  obtain ⟨ta, p1, g1⟩ := h
  refine Snd.of (pe_tup p1) (F := fun ρ h => (evs cs es ρ h).bind fun ds h => mkT ds h) ?_ (fun _ _ => rfl) fun t ρ h => by simp only [ev] <;> rfl
  intro a h ρ σ Q hr er q
  refine g1.use hr er q fun ds h1 vs b m hb eb rvs q => ?_
  obtain ⟨l, f⟩ := mkT_post hb rvs q
  exact ⟨lim_le l, f⟩
theorem snd_lst {cell : Bool} {es : List E} {xs : List Expr} {p : Pos} (h : Snds X g cs W es xs) : Snd X g cs W (.lst cell es) (.List xs p) := by
  obtain ⟨ta, p1, g1⟩ := h
  refine Snd.of (pe_lst p1) (F := fun ρ h => (evs cs es ρ h).bind fun ds h => mkL cell ds h) ?_ (fun _ _ => rfl) fun t ρ h => by simp only [ev] <;> rfl
  intro a h ρ σ Q hr er q
  refine g1.use hr er q fun ds h1 vs b m hb eb rvs q => ?_
  obtain ⟨l, f⟩ := mkL_post hb rvs q
  exact ⟨lim_le l, f⟩
theorem snd_ix {a i : E} {x y : Expr} {p : Pos} (hp : PlainIx y) (ha : Snd X g cs W a x) (hb : Snd X g cs W i y) : Snd X g cs W (.ix a i) (.Subscript x y p) := by
  obtain ⟨⟨ta, p1, g1⟩, _⟩ := ha
  obtain ⟨⟨tb', p2, g2⟩, _⟩ := hb
  refine Snd.of (pe_ix (ixr (g := g)) p1 p2 hp) (F := fun ρ h => (ev cs a false ρ h).bind fun x h => (ev cs i false ρ h).bind fun y h => ixV x y h) ?_ (fun _ _ => rfl) fun t ρ h => by simp only [ev] <;> rfl
  intro a1 h ρ σ Q hr er p
  refine g1.use hr er p fun d h1 v b1 m1 hb1 eb1 rv p => ?_
  refine g2.use hb1 eb1 p fun d2 h2 v2 b2 m2 hb2 eb2 rv2 p => ?_
  exact ⟨b2, h2, d, d2, rfl, hb2, rv.mono m2, rv2, wimp (ixV_nx _ _ _) p _⟩
def Sndo (X : Cx) (g : Gi) (cs : Cs) (W : WX) (o : Option E) (x : Option Expr) : Prop := ∃ to, PO X x to ∧ Gd g W (fun _ (a b : Option Int) => a = b) to (evo cs o)
theorem sndo_none : Sndo X g cs W none none := ⟨_, po_none, fun a h ρ σ Q hr er q => by
  simp only [evo] at q
  exact q none a (.refl a) hr rfl⟩
theorem sndo_some {e : E} {x : Expr} (h : Snd X g cs W e x) : Sndo X g cs W (some e) (some x) := by
  obtain ⟨⟨te, p1, g1⟩, _⟩ := h
  refine ⟨_, po_some p1, ?_⟩
  intro a h ρ σ Q hr er q
  simp only [evo] at q
  refine g1.use hr er q fun d h1 v b m hb eb rv q => ?_
  split at q
  · cases rv.int_inv
    exact ⟨_, rfl, q _ b (.refl b) hb rfl⟩
  · exact q.elim
theorem snd_slice {cell : Bool} {a : E} {lo hi : Option E} {x : Expr} {l u : Option Expr} {p p2 : Pos} (ha : Snd X g cs W a x) (hl : Sndo X g cs W lo l) (hu : Sndo X g cs W hi u) : Snd X g cs W (.slice cell a lo hi) (.Subscript x (.Slice l u none p2) p) := by
  obtain ⟨⟨ta, p1, g1⟩, _⟩ := ha
  obtain ⟨tl, p2', g2⟩ := hl
  obtain ⟨tu, p3, g3⟩ := hu
  refine Snd.of (pe_slice (slr (g := g) cell) p1 p2' p3) (F := fun ρ h => (ev cs a false ρ h).bind fun x h => (evo cs lo ρ h).bind fun l h => (evo cs hi ρ h).bind fun u h => slV cell x l u h) ?_ (fun _ _ => rfl) fun t ρ h => by simp only [ev] <;> rfl
  intro a1 h ρ σ Q hr er p
  refine g1.use hr er p fun d h1 v b1 m1 hb1 eb1 rv p => ?_
  refine g2.use hb1 eb1 p fun d2 h2 v2 b2 m2 hb2 eb2 rv2 p => ?_
  refine g3.use hb2 eb2 p fun d3 h3 v3 b3 m3 hb3 eb3 rv3 p => ?_
  subst rv2; subst rv3
  exact ⟨b3, h3, d, rfl, hb3, (rv.mono m2).mono m3, wimp (slV_nx _ _ _ _ _) p _⟩
/-! ### calls -/
theorem nostar_all : ∀ {es : List E} {xs : List Expr}, chks tb N sc es xs = true → ∀ env pos, (backTo pos (starEach xs env)).any (·.1) = false ∧ xs.length = es.length
  | [], [], _, env, pos => ⟨rfl, rfl⟩
  | e :: es, x :: xs, h, env, pos => by
    simp only [chks, Bool.and_eq_true] at h
    obtain ⟨h1, h2⟩ := nostar_all h.2 env pos
    rw [star_cons h.1.2]
    refine ⟨?_, by simp [h2]⟩
    show (false || (backTo pos (starEach xs env)).any (·.1)) = false
    rw [h1]; rfl
  | [], _ :: _, h, _, _ => by simp [chks] at h
  | _ :: _, [], h, _, _ => by simp [chks] at h
theorem gl_of (C : Kn X g cs tb k N sc) {x : Str} (h : glB sc x = true) : Gl X x ∧ (x == ("__debug__" : Str)) = false ∧ x ≠ "__name__" := by
  simp only [glB, Bool.and_eq_true, Bool.not_eq_true', decide_eq_true_eq] at h
  refine ⟨?_, h.1.2, h.2⟩
  show X.env.scope.names.lookup x = _
  rw [C.esc]; exact h.1.1
theorem evs_len : ∀ {es : List E} {ρ : Env'} {h h1 : AH} {ds : List D}, evs cs es ρ h = .ok ds h1 → ds.length = es.length
  | [], ρ, h, h1, ds, e => by simp only [evs, R.ok.injEq] at e; rw [← e.1]; rfl
  | x :: es, ρ, h, h1, ds, e => by
    simp only [evs] at e
    cases e1 : ev cs x false ρ h with
    | ok d h2 =>
      rw [e1, R.bind_ok] at e
      cases e2 : evs cs es ρ h2 with
      | ok ds2 h3 =>
        rw [e2, R.bind_ok] at e
        simp only [R.ok.injEq] at e
        rw [← e.1, List.length_cons, List.length_cons, evs_len e2]
      | ex _ _ => rw [e2] at e; cases e
      | stuck => rw [e2] at e; cases e
    | ex _ _ => rw [e1] at e; cases e
    | stuck => rw [e1] at e; cases e
theorem Gd.useE {α β γ δ : Type} {rep : Vw → α → β → Prop} {rep' : Vw → γ → δ → Prop} {t : L2.St → Hp → (β → Hp → Prop) → Prop} {f : Env' → AH → R α} (ga : Gd g W rep t f)
    {a : Vw} {h : AH} {ρ : Env'} {σ : L2.St} (hr : HeapRel g a h) (er : EnvR g a ρ σ) {k : α → AH → R γ} {Q' : δ → Hp → Prop} (p : Post g a rep' (fun c d H => W c d σ H) Q' ((f ρ h).bind k)) {Q : β → Hp → Prop}
    (hk : ∀ d h1 v b, f ρ h = .ok d h1 → Mono a b → HeapRel g b h1 → EnvR g b ρ σ → rep b d v → Post g b rep' (fun c d H => W c d σ H) Q' (k d h1) → Q v b.H) : t σ a.H Q := by
  refine ga a h ρ σ Q hr er ?_
  cases e : f ρ h with
  | ok d h1 =>
    rw [e] at p
    exact fun v b m hb rv => hk d h1 v b e m hb (er.mono m) rv (p.mono m)
  | ex x h1 => rw [e] at p; exact p
  | stuck => rw [e] at p; exact p.elim
/-- a call without arguments -/
theorem pe_call0S {CX : CXT} {k : Nat} {f : Addr} {fd : FuncData} {ps : List Str} {sp : Sp} {E : L2.St → XK} {x : Str} {p pos : Pos} (F : FnOk X.prog X.w X.K X.mg X.base CX k f fd ps sp) (hr : Room k X.A) (hg : Gl X x) (hm : X.mg x = some (.ref f)) (hk : PySem.W.keepIn X.K (.ref f) = true) (hb : Binds X.K fd ps []) (hx : ∀ σ, PassesAt CX X σ (E σ))
    (hdb : (x == ("__debug__" : Str)) = false) : PE X (.Call (.Name x p) [] [] pos) (tCallS sp E tNil) := by
  refine ⟨fun pins s σ H Q I h => ?_⟩
  refine wpAny_Call_Name_kw (ld_glob I hg hm ?_ hdb)
  exact PySem.W.callWith_K0 I.kIn hk (run_fnS (us := []) F hr hb (hx σ) I .nil h)
/-- a class call: a fresh object at the end of the heap, its __init__ run over it -/
theorem run_newS {X : Cx} {CX : CXT} {k : Nat} {Ca fi : Addr} {fd : FuncData} {ps : List Str} {sp : Sp} {E : XK} {pins : List (Addr × Obj)} {σ : L2.St} {H : Hp} {s : Shared} {Q : VK} {us : List Value} {vs : List V}
    (M : Mk X.K Ca fi) (G : FnOk X.prog X.w X.K X.mg X.base CX k fi fd ps sp) (rm : Room (k + 1) X.A) (bd : Binds X.K fd ps []) (px : PassesAt CX X σ E) (I0 : Inv X pins σ H s) (rl : Vals vs us)
    (ask : ∀ x dx, H x = none → H dx = none → dx ≠ x → sp (.ref x :: vs) (upd (upd H dx (.own x)) x (.ins Ca dx [])) (fun v H2 => v = .non ∧ Q (.ref x) H2) E) :
    wpAny (model X.prog X.w) X.A (call (.ref Ca) us) (EP X pins σ Q) X.xe s := by
  let p0 := s.heap.objs.size + 1
  have want := ask p0 s.heap.objs.size (I0.hok.fresh (Nat.le_succ _)) (I0.hok.fresh (Nat.le_refl _)) (Nat.ne_of_lt (Nat.lt_succ_self _))
  have J := Inv.made (C := Ca) I0
  have rl2 : Vals (V.ref p0 :: vs) (Value.ref p0 :: us) := .cons rfl rl
  have len2 : (Value.ref p0 :: us ++ []).length = ps.length := by
    have z := rl2.length
    rw [G.len _ _ _ _ want] at z
    simpa using z.symm
  have hb := bd _ (Value.ref p0 :: us) J.kIn len2
  rw [List.append_nil] at hb
  refine wpAny_call (make_map (f := fi) I0.kIn M.makes M.init (beq_iff_eq.mp M.fn) (codeAny_mono (G.run _ X.stack _ _ ⟨Value.ref p0 :: us, []⟩ (Value.ref p0 :: us) _ _ E (rm.make Ca us []) (J.env0.make Ca us []) hb rl2 want) fun r s' got => ?_))
  cases r with
  | ok fl =>
    cases fl with
    | ret u =>
      obtain ⟨v, H', J3, rv, rfl, q3⟩ := J.after got
      exact ⟨rv, V.ref p0, H', J3, rfl, q3⟩
    | next => exact got.elim
    | brk => exact got.elim
    | cont => exact got.elim
  | error e => exact px pins _ _ e s' J got
theorem snd_call (C : Kn X g cs tb k N sc) (tk : Takes X W) {f : Nat} {es : List E} {x : Str} {ys : List Expr} {p pos : Pos} (hr : tb f = .fn x es.length) (hg : glB sc x = true) (hc : chks tb N sc es ys = true) (hs : Snds X g cs W es ys) :
    Snd X g cs W (.call f es) (.Call (.Name x p) ys [] pos) := by
  obtain ⟨hg1, hg2, _⟩ := gl_of C hg
  have rf := C.refs f
  rw [hr] at rf
  obtain ⟨fa, fd, ps, hn, hm, hk, F, hb⟩ := rf
  obtain ⟨ta, p1, g1⟩ := hs
  have body : ∀ ta, Gd g W (RepVs g) ta (evs cs es) → Gd g W (RepV g) (tCallS (spF g (cs.fn f) ps.length) (WE W) ta) (fun ρ h => (evs cs es ρ h).bind fun ds h => cs.fn f ds h) := fun ta g1 => by
    intro a1 h ρ σ Q hr er q
    refine Gd.useE g1 hr er q fun ds h1 vs b he m hb eb rvs q => ?_
    exact ⟨by rw [rvs.length, evs_len he, hn], b, h1, ds, rfl, hb, rvs, q⟩
  have he : ∀ t ρ h, ev cs (.call f es) t ρ h = tr t ((evs cs es ρ h).bind fun ds h => cs.fn f ds h) := fun t ρ h => by simp only [ev] <;> rfl
  cases ys with
  | nil =>
    obtain rfl : es = [] := by cases es with
      | nil => rfl
      | cons _ _ => simp [chks] at hc
    exact Snd.of (pe_call0S F C.room hg1 hm hk hb (fun σ => passAt tk σ) hg2) (body tNil fun a h ρ σ Q hr er q => by
      simp only [evs] at q
      exact q [] a (.refl a) hr .nil) (fun _ _ => rfl) he
  | cons y ys =>
    cases es with
    | nil => simp [chks] at hc
    | cons e es =>
      simp only [chks, Bool.and_eq_true] at hc
      obtain ⟨nst, _⟩ := nostar_all hc.2 X.env pos
      exact Snd.of (pe_callS F C.room hg1 hm hk hb (fun σ => passAt tk σ) p1 hg2 (star_cons hc.1.2) nst) (body ta g1) (fun _ _ => rfl) he
theorem pe_newS {CX : CXT} {k : Nat} {Ca fi : Addr} {fd : FuncData} {ps : List Str} {sp : Sp} {E : L2.St → XK} {x : Str} {p pos : Pos} {t : TA} {ys : List Expr} (M : Mk X.K Ca fi) (G : FnOk X.prog X.w X.K X.mg X.base CX k fi fd ps sp) (rm : Room (k + 1) X.A) (hg : Gl X x) (hm : X.mg x = some (.ref Ca)) (bd : Binds X.K fd ps [])
    (px : ∀ σ, PassesAt CX X σ (E σ)) (ha : PA X ys t) (hdb : (x == ("__debug__" : Str)) = false) (he : ys = [] ∧ t = tNil ∨ ∃ y r, ys = y :: r ∧ starEach (y :: r) X.env = (false, eval y X.env) :: starEach r X.env ∧ (backTo pos (starEach r X.env)).any (·.1) = false) :
    PE X (.Call (.Name x p) ys [] pos) (fun σ H Q => t σ H fun vs H1 => ∀ x dx, H1 x = none → H1 dx = none → dx ≠ x → sp (.ref x :: vs) (upd (upd H1 dx (.own x)) x (.ins Ca dx [])) (fun v H2 => v = .non ∧ Q (.ref x) H2) (E σ)) := by
  refine ⟨fun pins s σ H Q I h => ?_⟩
  refine wpAny_Call_Name_kw (ld_glob I hg hm ?_ hdb)
  rcases he with ⟨rfl, rfl⟩ | ⟨y, r, rfl, h1, h2⟩
  · exact PySem.W.callWith_K0 I.kIn M.kp (run_newS (us := []) M G rm bd (px σ) I .nil h)
  · exact PySem.W.callWith_K (h₀ := X.base) I.ok.mod.kin M.kp (thn (ha.run pos pins s σ H _ I h) fun us s1 ⟨vs, H1, I1, r, q⟩ => ⟨I1.kIn, run_newS M G rm bd (px σ) I1 r q⟩) h1 h2
theorem snd_new (C : Kn X g cs tb k N sc) (tk : Takes X W) {f : Nat} {es : List E} {x : Str} {ys : List Expr} {p pos : Pos} (hr : tb f = .mk x es.length) (hg : glB sc x = true) (hc : chks tb N sc es ys = true) (hs : Snds X g cs W es ys) :
    Snd X g cs W (.call f es) (.Call (.Name x p) ys [] pos) := by
  obtain ⟨hg1, hg2, _⟩ := gl_of C hg
  have rf := C.refs f
  rw [hr] at rf
  obtain ⟨Ca, fi, fd, ps, k0, hn, hm, M, hk, F, hb⟩ := rf
  obtain ⟨ta, p1, g1⟩ := hs
  have he : ∀ t ρ h, ev cs (.call f es) t ρ h = tr t ((evs cs es ρ h).bind fun ds h => cs.fn f ds h) := fun t ρ h => by simp only [ev] <;> rfl
  have body : ∀ ta, Gd g W (RepVs g) ta (evs cs es) → Gd g W (RepV g) (fun σ H Q => ta σ H fun vs H1 => ∀ x dx, H1 x = none → H1 dx = none → dx ≠ x → spN g Ca (cs.fn f) es.length (.ref x :: vs) (upd (upd H1 dx (.own x)) x (.ins Ca dx [])) (fun v H2 => v = .non ∧ Q (.ref x) H2) (WE W σ)) (fun ρ h => (evs cs es ρ h).bind fun ds h => cs.fn f ds h) := by
    intro ta g1 a1 h ρ σ Q hr er q
    refine Gd.useE g1 hr er q fun ds h1 vs b he m hb eb rvs q => ?_
    intro x dx n1 n2 n3
    refine ⟨by rw [List.length_cons, rvs.length, evs_len he], x, dx, vs, b, h1, ds, rfl, rfl, n1, n2, n3, hb, rvs, ?_⟩
    exact q.imp fun v H z e => ⟨rfl, by rw [← e]; exact z⟩
  cases ys with
  | nil =>
    obtain rfl : es = [] := by cases es with
      | nil => rfl
      | cons _ _ => simp [chks] at hc
    exact Snd.of (pe_newS M F (C.room.mono hk) hg1 hm hb (fun σ => passAt tk σ) pa_nil hg2 (.inl ⟨rfl, rfl⟩)) (body tNil fun a h ρ σ Q hr er q => by
      simp only [evs] at q
      exact q [] a (.refl a) hr .nil) (fun _ _ => rfl) he
  | cons y ys =>
    cases es with
    | nil => simp [chks] at hc
    | cons e es =>
      have hc' := hc
      simp only [chks, Bool.and_eq_true] at hc'
      obtain ⟨nst, _⟩ := nostar_all hc'.2 X.env pos
      exact Snd.of (pe_newS M F (C.room.mono hk) hg1 hm hb (fun σ => passAt tk σ) p1 hg2 (.inr ⟨y, ys, rfl, star_cons hc'.1.2, nst⟩)) (body ta g1) (fun _ _ => rfl) he
theorem snd_glob (C : Kn X g cs tb k N sc) {f : Nat} {x : Str} {p : Pos} (hr : tb f = .gl x) (hg : glB sc x = true) : Snd X g cs W (.glob f) (.Name x p) := by
  obtain ⟨hg1, hg2, _⟩ := gl_of C hg
  have rf := C.refs f
  rw [hr] at rf
  obtain ⟨u, v, hm, r, hv⟩ := rf
  exact Snd.of (pe_glob hg1 hm r hg2) (gd_con hv) (fun _ _ => rfl) fun t ρ h => by simp only [ev] <;> rfl
theorem snd_ccon (C : Kn X g cs tb k N sc) {f : Nat} {x m : Str} {p pos : Pos} (hr : tb f = .cc x m) (hg : glB sc x = true) : Snd X g cs W (.ccon f) (.Attribute (.Name x p) m pos) := by
  obtain ⟨hg1, hg2, _⟩ := gl_of C hg
  have rf := C.refs f
  rw [hr] at rf
  obtain ⟨Ca, mc, v, u, hm, rd, cv, hv⟩ := rf
  refine Snd.of (ClX.pe_cval (pe_glob hg1 hm (v := .ref Ca) rfl hg2) rfl) (F := fun _ h => .ok (cs.con f).d h) ?_ (fun _ _ => rfl) fun t ρ h => by simp only [ev] <;> rfl
  intro a h ρ σ Q hr er q
  exact ⟨Ca, mc, v, u, rfl, rd, cv, ok_post hr (hv a) q⟩
theorem getsm_ok {mc : Value} {Ca p fa : Addr} {m : Str} {b : Bool} {pins : List (Addr × Obj)} {σ : L2.St} {H : Hp} {s : Shared} {A : Around} {E : Value → Shared → Prop} {Q : Value → Shared → Prop} (I : Inv X pins σ H s) (r : ClX.CRead X.K Ca mc) (k : SMet X.K Ca mc m p fa)
    (h : ∀ s', Inv X pins σ H s' → Q (.ref fa) s') : wpAny (model X.prog X.w) A (getAttr (.ref Ca) m b) Q E s := by
  obtain ⟨rest, hp⟩ := k.rc
  refine PySem.W.cls_bind I.kIn r.rd k.at_ ?_
  refine wpAny_call (PySem.W.sm_get (s := { s with toks := s.toks + 1 }) I.kIn hp (PySem.W.handed_on rfl ?_))
  exact h _ (I.tok _)
theorem nostar_all' : ∀ {es : List E} {xs : List Expr}, chks tb N sc es xs = true → ∀ env pos, (backTo pos (starEach xs env)).all (fun x => !x.1) = true
  | [], [], _, env, pos => rfl
  | e :: es, x :: xs, h, env, pos => by
    simp only [chks, Bool.and_eq_true] at h
    rw [star_cons h.1.2]
    show (true && (backTo pos (starEach xs env)).all fun x => !x.1) = true
    rw [nostar_all' h.2 env pos]; rfl
  | [], _ :: _, h, _, _ => by simp [chks] at h
  | _ :: _, [], h, _, _ => by simp [chks] at h
theorem form_ok {ys : List Expr} {env : Env} {pos : Pos} (h : (backTo pos (starEach ys env)).all (fun x => !x.1) = true) (hl : ys.length < 30) : methodCallForm (ys.length + ([] : List Keyword).length) (backTo pos (starEach ys env)) (backToKw pos (keywordEach [] env)) = true := by
  have e : backToKw pos (keywordEach [] env) = [] := rfl
  rw [e]
  simp [methodCallForm, h, hl]
theorem meth_eq {env : Env} {o : Expr} {m : Str} {ys : List Expr} {ap pos : Pos} (hb : attributeBase o m env (eval o env) = eval o env) (hl : ap.endLine = pos.line) (hf : methodCallForm (ys.length + ([] : List Keyword).length) (backTo pos (starEach ys env)) (backToKw pos (keywordEach [] env)) = true) :
    ∃ pl, eval (.Call (.Attribute o m ap) ys [] pos) env = (do
      let ov ← eval o env
      standAt ap.atName
      let (f, first) ← holding [ov] (getMethod ov m pl)
      callWith pos f first (backTo pos (starEach ys env)) (backToKw pos (keywordEach [] env))) := by
  refine ⟨do return (← importBound o env).getD true, ?_⟩
  rw [arm_eval_Call, hb]
  unfold methodCall
  rw [hf]
  have e : methodCallPos true o env ap pos = pure pos := by unfold methodCallPos; simp [hl]
  rw [e]
  rfl
theorem snd_cst (C : Kn X g cs tb k N sc) (tk : Takes X W) {f : Nat} {es : List E} {x m : Str} {ys : List Expr} {p ap pos : Pos} (hr : tb f = .st x m es.length) (hg : glB sc x = true) (hc : chks tb N sc es ys = true) (hl : ap.endLine = pos.line) (hlen : ys.length < 30) (hn : ys ≠ []) (hs : Snds X g cs W es ys) :
    Snd X g cs W (.cst f es) (.Call (.Attribute (.Name x p) m ap) ys [] pos) := by
  obtain ⟨hg1, hg2, _⟩ := gl_of C hg
  have rf := C.refs f
  rw [hr] at rf
  obtain ⟨Ca, mc, pp, fa, fd, ps, hln, hm, rd, sm, hk, F, hb⟩ := rf
  obtain ⟨ta, p1, g1⟩ := hs
  have he : ∀ t ρ h, ev cs (.cst f es) t ρ h = tr t ((evs cs es ρ h).bind fun ds h => cs.fn f ds h) := fun t ρ h => by simp only [ev] <;> rfl
  cases ys with
  | nil => exact absurd rfl hn
  | cons y ys =>
    cases es with
    | nil => simp [chks] at hc
    | cons e es =>
      have hc0 := hc
      simp only [chks, Bool.and_eq_true] at hc
      obtain ⟨nst, _⟩ := nostar_all hc.2 X.env pos
      have pn : PE X (.Name x p) (tC (.ref Ca)) := pe_glob hg1 hm (v := .ref Ca) rfl hg2
      have pe : PE X (.Call (.Attribute (.Name x p) m ap) (y :: ys) [] pos) (tCallS (spF g (cs.fn f) ps.length) (WE W) ta) := by
        refine ⟨fun pins s σ H Q I h => ?_⟩
        have ht := meth_eq (env := X.env) (o := .Name x p) (m := m) (ys := y :: ys) (ap := ap) (pos := pos) rfl hl (form_ok (nostar_all' hc0 X.env pos) hlen)
        obtain ⟨pl, ht⟩ := ht
        refine PySem.W.methodCall_KW (pl := pl) (thn (pn.run pins s σ H (fun v H' => v = .ref Ca ∧ H' = H) I ⟨rfl, rfl⟩) fun u s1 ⟨v, H1, I1, r1, ev1, eH⟩ => ?_) ht
        subst ev1; subst eH
        obtain rfl : u = Value.ref Ca := r1
        refine PySem.W.method_cls I1.kIn rd.ga (getsm_ok I1 rd sm fun s2 I2 => ?_)
        refine PySem.W.callWith_K (first := []) (h₀ := X.base) I.ok.mod.kin hk (thn (p1.run pos pins s2 σ _ _ I2 h) fun us s3 ⟨vs, H2, I3, r, q2⟩ => ⟨I3.kIn, ?_⟩) (star_cons hc.1.2) nst
        exact run_fnS F C.room hb (passAt tk σ) I3 r q2
      refine Snd.of pe (F := fun ρ h => (evs cs (e :: es) ρ h).bind fun ds h => cs.fn f ds h) ?_ (fun _ _ => rfl) he
      intro a1 h ρ σ Q hr er q
      refine Gd.useE g1 hr er q fun ds h1 vs b he m hb eb rvs q => ?_
      exact ⟨by rw [rvs.length, evs_len he, hln], b, h1, ds, rfl, hb, rvs, q⟩
theorem getmethist_ok {X : Cx} {pins : List (Addr × Obj)} {σ : L2.St} {H : Hp} {s : Shared} {A : Around} {E : Value → Shared → Prop} {a Ca p fa : Addr} {m : Str} {pl : Sem Bool} {ox od : Obj} {Q : Value × List Value → Shared → Prop} (I : Inv X pins σ H s) (J : PySem.W.InstAt s.heap a ox Ca (some od)) (hl : PySem.W.lookIn m od = some none) (k : SInst X.K Ca m p fa)
    (h : ∀ s', Inv X pins σ H s' → Q (.ref fa, []) s') : wpAny (model X.prog X.w) A (getMethod (.ref a) m pl) Q E s := by
  obtain ⟨rest, hp⟩ := k.rc
  have g1 := PySem.W.plainGet_of k.get'
  refine PySem.W.method_usual (r := some (.ref p)) I.kIn J g1.1 g1.2 k.at_ ?_ ?_
  · show ((PySem.W.typeIn X.K (.ref p)).any _) = true
    rw [k.ty]
    first
      | rfl
      | decide +kernel
  · refine PySem.W.get_bind I.kIn J g1.1 (ClX.find_cm k.ic k.at_ k.get k.tk k.cp hl) g1.2 ?_
    exact wpAny_call (PySem.W.sm_get (s := { s with toks := s.toks + 1 }) I.kIn hp (PySem.W.handed_on rfl (h _ (I.tok _))))
theorem snd_sti (C : Kn X g cs tb k N sc) (tk : Takes X W) {f c : Nat} {a : E} {es : List E} {o : Expr} {m : Str} {ys : List Expr} {ap pos : Pos} (hr : tb f = .sti c m es.length) (hpb : plainB o = true) (hc : chks tb N sc es ys = true) (hl : ap.endLine = pos.line) (hlen : ys.length < 30) (hn : ys ≠ []) (ha : Snd X g cs W a o) (hs : Snds X g cs W es ys) :
    Snd X g cs W (.sti f c a es) (.Call (.Attribute o m ap) ys [] pos) := by
  have rf := C.refs f
  rw [hr] at rf
  obtain ⟨pp, fa, fd, ps, hln, hsl, sm, hk, F, hb⟩ := rf
  obtain ⟨ta, p1, g1⟩ := hs
  obtain ⟨⟨to, po, go⟩, _⟩ := ha
  have he : ∀ t ρ h, ev cs (.sti f c a es) t ρ h = tr t ((ev cs a false ρ h).bind fun x h => match x with
      | .obj c' _ => if c' = c then (evs cs es ρ h).bind fun ds h => cs.fn f ds h else .stuck
      | _ => .stuck) := fun t ρ h => by simp only [ev] <;> rfl
  cases ys with
  | nil => exact absurd rfl hn
  | cons y ys =>
    cases es with
    | nil => simp [chks] at hc
    | cons e es =>
      have hc0 := hc
      simp only [chks, Bool.and_eq_true] at hc
      obtain ⟨nst, _⟩ := nostar_all hc.2 X.env pos
      have pe : PE X (.Call (.Attribute o m ap) (y :: ys) [] pos) (fun σ H Q => to σ H fun x H1 => ∃ a dx vs, x = .ref a ∧ SlX.Slt H1 a (g.ca c) dx vs ∧ tCallS (spF g (cs.fn f) ps.length) (WE W) ta σ H1 Q) := by
        refine ⟨fun pins s σ H Q I h => ?_⟩
        obtain ⟨pl, ht⟩ := meth_eq (env := X.env) (o := o) (m := m) (ys := y :: ys) (ap := ap) (pos := pos) (plain_base hpb) hl (form_ok (nostar_all' hc0 X.env pos) hlen)
        refine PySem.W.methodCall_KW (pl := pl) (thn (po.run pins s σ H _ I h) fun u s1 ⟨x, H1, I1, rx, a, dx, vs, ex, hsl, q⟩ => ?_) ht
        subst ex
        obtain rfl : u = Value.ref a := rx
        obtain ⟨sl, od, _, J, hl⟩ := SlX.slt_inst I1 hsl
        refine getmethist_ok I1 J (hl m) sm fun s2 I2 => ?_
        refine PySem.W.callWith_K (first := []) (h₀ := X.base) I2.ok.mod.kin hk (thn (p1.run pos pins s2 σ _ _ I2 q) fun us s3 ⟨vs, H2, I3, r, q2⟩ => ⟨I3.kIn, ?_⟩) (star_cons hc.1.2) nst
        exact run_fnS F C.room hb (passAt tk σ) I3 r q2
      refine Snd.of pe (F := fun ρ h => (ev cs a false ρ h).bind fun x h => match x with
      | .obj c' _ => if c' = c then (evs cs (e :: es) ρ h).bind fun ds h => cs.fn f ds h else .stuck
      | _ => .stuck) ?_ (fun _ _ => rfl) he
      intro a1 h ρ σ Q hr er q
      refine go.use hr er q fun d h1 v b1 m1 hb1 eb1 rv q2 => ?_
      clear q
      cases d with
      | obj c' fs =>
        by_cases hcc : c' = c
        · subst hcc
          simp only [if_pos] at q2
          obtain ⟨p, dx, vs, rfl, nM, hi, hvl, rvs⟩ := rv.obj_inv
          have hslt : SlX.Slt b1.H p (g.ca c') dx (vs.map some) := by
            rcases hi with ⟨z, _⟩ | ⟨_, h2, _, h4⟩
            · rw [hsl] at z; cases z
            · exact .inr ⟨h2, h4⟩
          refine ⟨p, dx, _, rfl, hslt, ?_⟩
          refine Gd.useE g1 hb1 eb1 q2 fun ds h1 vs b he m hb eb rvs q => ?_
          exact ⟨by rw [rvs.length, evs_len he, hln], b, h1, ds, rfl, hb, rvs, q⟩
        · simp only [if_neg hcc] at q2
          exact q2.elim
      | _ => exact q2.elim
theorem free_b (C : Kn X g cs tb k N sc) (b : Bif) : X.mg (bNm b) = none := C.free _ (by cases b <;> decide +kernel)
theorem snd_bif (C : Kn X g cs tb k N sc) {b : Bif} {es : List E} {x : Str} {ys : List Expr} {p pos : Pos} (hx : x = bNm b) (hg : glB sc x = true) (hc : chks tb N sc es ys = true) (hn : ys ≠ []) (hs : Snds X g cs W es ys) :
    Snd X g cs W (.bif b es) (.Call (.Name x p) ys [] pos) := by
  subst hx
  obtain ⟨hg1, hg2, hg3⟩ := gl_of C hg
  obtain ⟨ta, p1, g1⟩ := hs
  have he : ∀ t ρ h, ev cs (.bif b es) t ρ h = tr t ((evs cs es ρ h).bind fun ds h => bifL false b ds h) := fun t ρ h => by simp only [ev] <;> rfl
  have body : Gd g W (RepV g) (tCB (rBif g false b) ta) (fun ρ h => (evs cs es ρ h).bind fun ds h => bifL false b ds h) := by
    intro a1 h ρ σ Q hr er q
    refine g1.use hr er q fun ds h1 vs c m hb eb rvs q => ?_
    exact ⟨c, h1, ds, rfl, hb, rvs, wimp (bifL_nx _ _ _ _) q _⟩
  cases ys with
  | nil => exact absurd rfl hn
  | cons y ys =>
    cases es with
    | nil => simp [chks] at hc
    | cons e es =>
      simp only [chks, Bool.and_eq_true] at hc
      obtain ⟨nst, _⟩ := nostar_all hc.2 X.env pos
      have cr := callr (X := X) (g := g) C.calm false b
      have bv := b_boot b
      have fb := free_b C b
      unfold bVal at cr bv
      by_cases ht : bIsTy b = true
      · rw [if_pos ht] at cr bv
        exact Snd.of (pe_callTy cr hg1 fb bv p1 hg3 hg2 (star_cons hc.1.2) nst) body (fun _ _ => rfl) he
      · rw [if_neg ht] at cr bv
        exact Snd.of (pe_callB cr hg1 fb bv p1 hg3 hg2 (star_cons hc.1.2) nst) body (fun _ _ => rfl) he
theorem isb_rep {a : Vw} {h : AH} {d : D} {v : V} {t : Ty} {r : Bool} (hr : HeapRel g a h) (rv : RepV g a d v) (e : isbV t h d = some r) : ∃ T : String, TyX X.K a.H v (.type T) ∧ PySem.W.kitOne X.K (.type T) (.type (tyId t)) = some r := by
  unfold isbV at e
  split at e
  · cases rv.non_inv; cases e
    exact ⟨_, .base .non, kit_ty (by cases t <;> decide +kernel)⟩
  · cases rv.bl_inv; cases e
    exact ⟨_, .base (.bl _), kit_ty (by cases t <;> decide +kernel)⟩
  · cases rv.int_inv; cases e
    exact ⟨_, .base (.int _), kit_ty (by cases t <;> decide +kernel)⟩
  · cases rv.str_inv; cases e
    exact ⟨_, .base (.str _), kit_ty (by cases t <;> decide +kernel)⟩
  · obtain ⟨p, vs, rfl, _, h1, _⟩ := rv.tup_inv; cases e
    exact ⟨_, .base (.tup h1), kit_ty (by cases t <;> decide +kernel)⟩
  · obtain ⟨p, vs, rfl, _, h1, _⟩ := rv.lst_inv; cases e
    exact ⟨_, .base (.lst h1), kit_ty (by cases t <;> decide +kernel)⟩
  · cases e
  · cases e
  · rename_i n
    split at e
    · rename_i ds hd
      cases e
      obtain ⟨p, vs, rfl, h1, _⟩ := lst_rep hr rv (show asLst h (.ref n) = some ds by simp only [asLst, hd])
      exact ⟨_, .base (.lst h1), kit_ty (by cases t <;> decide +kernel)⟩
    · cases e
theorem ty_boot (t : Ty) : bootBuiltins (tyNm t) = some (.type (tyId t)) := by cases t <;> decide +kernel
theorem snd_isb (C : Kn X g cs tb k N sc) {a : E} {t : Ty} {y : Expr} {p p2 pos : Pos} (hg : glB sc "isinstance" = true) (hg2 : glB sc (tyNm t) = true) (hy : noStar y = true) (ha : Snd X g cs W a y) :
    Snd X g cs W (.isb a t) (.Call (.Name "isinstance" p) [y, .Name (tyNm t) p2] [] pos) := by
  obtain ⟨i1, i2, i3⟩ := gl_of C hg
  obtain ⟨j1, j2, j3⟩ := gl_of C hg2
  obtain ⟨⟨te, p1, g1⟩, _⟩ := ha
  have pt : PE X (.Name (tyNm t) p2) (tC (.ty (tyId t))) := pe_bltn j1 (C.free _ (by cases t <;> decide +kernel)) (ty_boot t) rfl j3 j2
  refine Snd.of (pe_callB call_isi i1 (C.free _ (by decide +kernel)) (by decide +kernel) (pa_cons p1 (pa_cons pt pa_nil rfl) (star_cons hy)) i3 i2 (star_cons hy) rfl)
    (F := fun ρ h => (ev cs a false ρ h).bind fun x h => match isbV t h x with | some k => .ok (.bl k) h | none => .stuck) ?_ (fun _ _ => rfl) fun t ρ h => by simp only [ev] <;> rfl
  intro a1 h ρ σ Q hr er q
  refine g1.use hr er q fun d h1 v b m hb eb rv q => ?_
  split at q
  · rename_i r hr2
    obtain ⟨T, t1, t2⟩ := isb_rep (X := X) hb rv hr2
    exact ⟨v, .ty (tyId t), _, _, r, rfl, .ty _, t1, t2, ok_post hb (.bl _) q⟩
  · exact q.elim
end
end Sm

/-! Targets, what is walked, comprehensions; every expression is sound. -/
namespace Sm
open PySem PySem.Spec PyProof.Rows L2

theorem noset_fold {e : Expr} (h : notSet e = true) (env : Env) : ∀ x, foldedSetIterable e env x = pure x := by
  intro x
  cases e <;> first | rfl | (simp [notSet] at h)

/-! ### targets of names -/
section
variable {X : Cx} {g : Gi} {cs : Cs} {W : WX} {tb : Nat → Ref} {k : Nat} {N : List Str} {sc : Scope} {fnB : Str → Bool}
/-- slots set one after another -/
def setsD (ρ : Env') : List Nat → List D → Env'
  | i :: is, d :: ds => setsD (ρ.set i (some d)) is ds
  | _, _ => ρ
theorem foldl_sets : ∀ (tg : List Nat) (ds : List D) (ρ : Env'), tg.length = ds.length → (tg.zip ds).foldl (fun ρ p => ρ.set p.1 (some p.2)) ρ = setsD ρ tg ds
  | [], [], ρ, _ => rfl
  | i :: is, d :: ds, ρ, h => by
    simp only [List.zip_cons_cons, List.foldl_cons, setsD]
    exact foldl_sets is ds _ (by simpa using h)
  | [], _ :: _, _, h => by simp at h
  | _ :: _, [], _, h => by simp at h
def GdTs (g : Gi) (tg : List Nat) (t : TGs) : Prop := ∀ a ds vs ρ σ Q, RepVs g a ds vs → EnvR g a ρ σ → ds.length = tg.length →
  (∀ σ', EnvR g a (setsD ρ tg ds) σ' → (∀ i, i ∉ tg → σ'[i]? = σ[i]?) → σ'.length = σ.length → Q σ' a.H) → t vs σ a.H Q
def GdT (g : Gi) (tg : List Nat) (one : Bool) (t : TG) : Prop := ∀ a d v ρ ρ' σ Q, RepV g a d v → EnvR g a ρ σ → bindT tg one d ρ = some ρ' →
  (∀ σ', EnvR g a ρ' σ' → (∀ i, i ∉ tg → σ'[i]? = σ[i]?) → σ'.length = σ.length → Q σ' a.H) → t v σ a.H Q
theorem loc_of (he : X.env.scope = sc) {x : Str} (h : lcB sc x = true) : Loc X.env.scope x := by
  rw [he]
  unfold lcB at h
  split at h <;> first | exact .inl (by assumption) | exact .inr (by assumption) | cases h
theorem fn_or (he : X.env.scope = sc) (hf : ∀ x, fnB x = true → X.fn x = true) {x : Str} (h : (locB sc x || fnB x) = true) : X.fn x = true ∨ X.env.scope.names.lookup x = some .local := by
  rw [Bool.or_eq_true] at h
  rcases h with h | h
  · rw [he]
    unfold locB at h
    split at h <;> first | exact .inr (by assumption) | cases h
  · exact .inl (hf x h)
theorem names_ok (eN : X.N = N) (nd : N.Nodup) (he : X.env.scope = sc) (hf : ∀ x, fnB x = true → X.fn x = true) : ∀ {tg : List Nat} {xs : List Expr}, chkNs N sc fnB tg xs = true →
    ∃ t, PGs X xs t ∧ GdTs g tg t ∧ (assignEach xs X.env).length = tg.length ∧ (assignEach xs X.env).findIdx? (·.1) = none
  | [], [], _ => by
    refine ⟨gNil, pgs_nil, ?_, rfl, rfl⟩
    intro a ds vs ρ σ Q r er hl q
    obtain rfl : ds = [] := by simpa using hl
    simp only [RepVs] at r; subst r
    exact ⟨rfl, q σ er (fun _ _ => rfl) rfl⟩
  | i :: is, x :: xs, h => by
    cases x with
    | Name y p =>
      simp only [chkNs, Bool.and_eq_true, decide_eq_true_eq] at h
      obtain ⟨⟨⟨h1, h2⟩, h3⟩, h4⟩ := h
      obtain ⟨t, p1, g1, l1, l2⟩ := names_ok eN nd he hf h4
      have pn : PG X (.Name y p) (gName i) := pg_name (by rw [eN]; exact nd) (by rw [eN]; exact h1) (loc_of he h2) (fn_or he hf h3)
      refine ⟨gCons (gName i) t, pgs_cons pn p1 rfl, ?_, ?_, ?_⟩
      · intro a ds vs ρ σ Q r er hl q
        cases ds with
        | nil => simp at hl
        | cons d ds =>
          simp only [RepVs] at r
          obtain ⟨v, r', rfl, r1, r2⟩ := r
          refine ⟨v, r', rfl, ?_⟩
          refine g1 a ds r' _ _ Q r2 (er.set r1) (by simpa using hl) fun σ' e1 e2 e3 => ?_
          refine q σ' (by simpa only [setsD] using e1) (fun j hj => ?_) (by simpa using e3)
          simp only [List.mem_cons, not_or] at hj
          rw [e2 j hj.2, List.getElem?_set_ne (Ne.symm hj.1)]
      · show (_ :: assignEach xs X.env).length = _
        simp [l1]
      · show ((false, _) :: assignEach xs X.env).findIdx? _ = none
        rw [List.findIdx?_cons]
        simp [l2]
    | _ => simp [chkNs] at h
  | [], _ :: _, h => by simp [chkNs] at h
  | _ :: _, [], h => by simp [chkNs] at h
theorem target_ok (eN : X.N = N) (nd : N.Nodup) (he : X.env.scope = sc) (hc : X.calm = true) (hf : ∀ x, fnB x = true → X.fn x = true) {tg : List Nat} {one : Bool} {x : Expr} (h : chkT N sc fnB tg one x = true) :
    ∃ t, PG X x t ∧ GdT g tg one t := by
  unfold chkT at h
  split at h
  · rename_i i y p
    simp only [Bool.and_eq_true, decide_eq_true_eq] at h
    obtain ⟨⟨h1, h2⟩, h3⟩ := h
    refine ⟨gName i, pg_name (by rw [eN]; exact nd) (by rw [eN]; exact h1) (loc_of he h2) (fn_or he hf h3), ?_⟩
    intro a d v ρ ρ' σ Q r er hb q
    simp only [bindT, Option.some.injEq] at hb
    subst hb
    exact q _ (er.set r) (fun j hj => by rw [List.getElem?_set_ne]; simpa using Ne.symm (by simpa using hj)) (by simp)
  · rename_i xs kk p
    obtain ⟨t, p1, g1, l1, l2⟩ := names_ok (g := g) eN nd he hf h
    refine ⟨gTup X.K tg.length t, pg_tup hc p1 l1 l2, ?_⟩
    intro a d v ρ ρ' σ Q r er hb q
    cases d with
    | tup ds =>
      have hb2 : (if tg.length = ds.length then some ((tg.zip ds).foldl (fun ρ p => ρ.set p.1 (some p.2)) ρ) else none) = some ρ' := by
        simpa only [bindT] using hb
      split at hb2
      · rename_i hl
        cases hb2
        obtain ⟨p, vs, rfl, _, h1, r2⟩ := r.tup_inv
        refine ⟨p, vs, rfl, SqT.of h1, by rw [r2.length, hl], ?_⟩
        refine g1 a ds vs ρ σ Q r2 er hl.symm fun σ' e1 e2 e3 => q σ' ?_ e2 e3
        rw [foldl_sets _ _ _ hl]; exact e1
      · cases hb2
    | _ => simp [bindT] at hb
  · cases h
end

/-! ### what is walked -/
section
variable {X : Cx} {g : Gi} {cs : Cs} {W : WX} {tb : Nat → Ref} {k : Nat} {N : List Str} {sc : Scope}
def SndI (X : Cx) (g : Gi) (cs : Cs) (W : WX) (e : E) (x tg : Expr) : Prop := ∃ wi, PI X tg x wi ∧ Gd g W (ItOk g) wi (evI cs e)
theorem ref_of {a : Vw} {h : AH} {d : D} {v : V} {ds : List D} (hr : HeapRel g a h) (r : RepV g a d v) (e : roSeq h d = some ds) : ∃ p, v = .ref p := by
  cases d with
  | tup xs => obtain ⟨p, _, rfl, _⟩ := r.tup_inv; exact ⟨p, rfl⟩
  | lst xs => obtain ⟨p, _, rfl, _⟩ := r.lst_inv; exact ⟨p, rfl⟩
  | ro xs => obtain ⟨p, _, rfl, _⟩ := r.ro_inv; exact ⟨p, rfl⟩
  | ref n => obtain ⟨p, rfl, _⟩ := r.ref_inv; exact ⟨p, rfl⟩
  | non => simp [roSeq, asSeq, asLst] at e
  | bl _ => simp [roSeq, asSeq, asLst] at e
  | int _ => simp [roSeq, asSeq, asLst] at e
  | str _ => simp [roSeq, asSeq, asLst] at e
  | obj _ _ => simp [roSeq, asSeq, asLst] at e

theorem snd_seq (C : Kn X g cs tb k N sc) {a : E} {x tg : Expr} (ha : Snd X g cs W a x) : SndI X g cs W (.seq a) x tg := by
  obtain ⟨⟨te, p1, g1⟩, _⟩ := ha
  refine ⟨_, PI.or (pi_list p1) (pi_tup p1), ?_⟩
  intro a1 h ρ σ Q hr er q
  simp only [evI] at q
  cases he : ev cs a false ρ h with
  | stuck => rw [he] at q; exact q.elim
  | ex y h1 =>
    rw [he] at q
    exact .inl (g1 a1 h ρ σ _ hr er (by rw [he]; exact q))
  | ok d h1 =>
    rw [he, R.bind_ok] at q
    unfold ckI at q
    split at q
    · rename_i all hi
      by_cases ht : ∃ ds, d = .tup ds
      · obtain ⟨ds, rfl⟩ := ht
        refine .inr (g1 a1 h ρ σ _ hr er ?_)
        rw [he]
        intro v b m hb rv
        obtain ⟨p, vs, rfl, _, h2, r2⟩ := rv.tup_inv
        exact ⟨p, rfl, ⟨vs, SqT.of h2⟩, q _ b m hb (itok_tup rv)⟩
      · have nt : asTup d = none := by cases d <;> first | rfl | exact absurd ⟨_, rfl⟩ ht
        refine .inl (g1 a1 h ρ σ _ hr er ?_)
        rw [he]
        intro v b m hb rv
        obtain ⟨p, vs, rfl, h2, r2⟩ := ro_rep (K := X.K) C.kl hb rv nt (show roSeq h1 d = some all from hi)
        exact ⟨p, rfl, ⟨vs, h2⟩, q _ b m hb (itok_list C.kl rv nt)⟩
    · exact q.elim
theorem snd_rng (C : Kn X g cs tb k N sc) {es : List E} {xs : List Expr} {tg : Expr} {p pos : Pos} (hg : glB sc "range" = true) (hc : chks tb N sc es xs = true) (hl : xs.length = 1 ∨ xs.length = 2 ∨ xs.length = 3) (hs : Snds X g cs W es xs) : SndI X g cs W (.rng es) (.Call (.Name "range" p) xs [] pos) tg := by
  obtain ⟨i1, _, _⟩ := gl_of C hg
  have fr : X.mg "range" = none := C.free _ (by decide +kernel)
  obtain ⟨ta, p1, g1⟩ := hs
  have len := (nostar_all hc X.env pos).2
  have two : (-(2 ^ 60) : Int) ≥ -(2 ^ 62) := by decide
  rcases hl with hl | hl | hl
  · obtain ⟨x, rfl⟩ : ∃ x, xs = [x] := by cases xs with | nil => simp at hl | cons x r => cases r with | nil => exact ⟨x, rfl⟩ | cons _ _ => simp at hl
    obtain ⟨e, rfl⟩ : ∃ e, es = [e] := by cases es with | nil => simp at len | cons x r => cases r with | nil => exact ⟨x, rfl⟩ | cons _ _ => simp at len
    simp only [chks, Bool.and_eq_true] at hc
    refine ⟨_, pi_range1 i1 fr p1 (star_cons hc.1.2), ?_⟩
    intro a1 h ρ σ Q hr er q
    simp only [evI] at q
    refine Gd.useE g1 hr er q fun ds h1 vs b he m hb eb rvs q => ?_
    have hl1 := evs_len he
    split at q
    · rename_i j
      split at q
      · rename_i hj
        obtain ⟨v, rfl, r1⟩ := rvs.one
        cases r1.int_inv
        exact ⟨j, rfl, by omega, by omega, q _ b (.refl b) hb itok_rng⟩
      · exact q.elim
    · simp at hl1
    · simp at hl1
    · exact q.elim
  · obtain ⟨x, y, rfl⟩ : ∃ x y, xs = [x, y] := by
      rcases xs with _ | ⟨x, _ | ⟨y, _ | ⟨z, r⟩⟩⟩ <;> simp at hl
      exact ⟨x, y, rfl⟩
    obtain ⟨e, f, rfl⟩ : ∃ x y, es = [x, y] := by
      rcases es with _ | ⟨x, _ | ⟨y, _ | ⟨z, r⟩⟩⟩ <;> simp at len
      exact ⟨x, y, rfl⟩
    simp only [chks, Bool.and_eq_true] at hc
    refine ⟨_, pi_range2 i1 fr p1 (by rw [star_cons hc.1.2, star_cons hc.2.1.2]; rfl) (by rw [star_cons hc.2.1.2]; rfl), ?_⟩
    intro a1 h ρ σ Q hr er q
    simp only [evI] at q
    refine Gd.useE g1 hr er q fun ds h1 vs b he m hb eb rvs q => ?_
    have hl1 := evs_len he
    split at q
    · simp at hl1
    · rename_i i j
      split at q
      · rename_i hj
        obtain ⟨v, w, rfl, r1, r2⟩ := rvs.two
        cases r1.int_inv; cases r2.int_inv
        exact ⟨i, j, rfl, ⟨by omega, by omega, by omega, by omega⟩, q _ b (.refl b) hb itok_rng⟩
      · exact q.elim
    · simp at hl1
    · exact q.elim
  · obtain ⟨x, y, z, rfl⟩ : ∃ x y z, xs = [x, y, z] := by
      rcases xs with _ | ⟨x, _ | ⟨y, _ | ⟨z, _ | ⟨_, r⟩⟩⟩⟩ <;> simp at hl
      exact ⟨x, y, z, rfl⟩
    obtain ⟨e, f, e3, rfl⟩ : ∃ x y z, es = [x, y, z] := by
      rcases es with _ | ⟨x, _ | ⟨y, _ | ⟨z, _ | ⟨_, r⟩⟩⟩⟩ <;> simp at len
      exact ⟨x, y, z, rfl⟩
    simp only [chks, Bool.and_eq_true] at hc
    refine ⟨_, pi_range3 i1 fr p1 (star_cons hc.1.2) (by rw [star_cons hc.2.1.2, star_cons hc.2.2.1.2]; rfl), ?_⟩
    intro a1 h ρ σ Q hr er q
    simp only [evI] at q
    refine Gd.useE g1 hr er q fun ds h1 vs b he m hb eb rvs q => ?_
    have hl1 := evs_len he
    split at q
    · simp at hl1
    · simp at hl1
    · rename_i i j c
      split at q
      · rename_i hj
        obtain ⟨hi, hj, rfl⟩ := hj
        simp only [RepVs] at rvs
        obtain ⟨v1, _, rfl, r1, v2, _, rfl, r2, v3, _, rfl, r3, rfl⟩ := rvs
        cases r1.int_inv; cases r2.int_inv; cases r3.int_inv
        exact ⟨i, j, -1, _, rfl, RgC.neg (by omega) (by omega) (by omega) (by omega), q _ b (.refl b) hb itok_rngC⟩
      · exact q.elim
    · exact q.elim
theorem snd_enum (C : Kn X g cs tb k N sc) {a : E} {x : Expr} {elts : List Expr} {kk : Nat} {tpos p pos : Pos} (hg : glB sc "enumerate" = true) (hx : noStar x = true) (ha : Snd X g cs W a x) : SndI X g cs W (.enum a) (.Call (.Name "enumerate" p) [x] [] pos) (.Tuple elts kk tpos) := by
  obtain ⟨i1, _, _⟩ := gl_of C hg
  have fr : X.mg "enumerate" = none := C.free _ (by decide +kernel)
  obtain ⟨⟨te, p1, g1⟩, _⟩ := ha
  refine ⟨_, pi_enumA i1 fr (pa_cons p1 pa_nil (star_cons hx)) (star_cons hx), ?_⟩
  intro a1 h ρ σ Q hr er q
  simp only [evI] at q
  refine g1.use hr er q fun d h1 v b m hb eb rv q => ?_
  unfold ckI at q
  split at q
  · rename_i all hi
    simp only [Itr.items, Option.map_eq_some_iff] at hi
    obtain ⟨ds, hi, rfl⟩ := hi
    by_cases ht : ∃ ds, d = .tup ds
    · obtain ⟨ds, rfl⟩ := ht
      obtain ⟨p, vs, rfl, _, h2, r2⟩ := rv.tup_inv
      exact ⟨p, vs, rfl, .inr ⟨SqT.of h2, q _ b (.refl b) hb (itok_enumT rv)⟩⟩
    · have nt : asTup d = none := by cases d <;> first | rfl | exact absurd ⟨_, rfl⟩ ht
      have hi' : asLst h1 d = some ds := by cases d <;> first | exact hi | simp [asTup] at nt
      obtain ⟨p, vs, rfl, h2, r2⟩ := lst_rep hb rv hi'
      exact ⟨p, vs, rfl, .inl ⟨SqL.of h2, q _ b (.refl b) hb (itok_enum rv nt)⟩⟩
  · exact q.elim
theorem snd_zip (C : Kn X g cs tb k N sc) {a c : E} {x y : Expr} {elts : List Expr} {kk : Nat} {tpos p pos : Pos} (hg : glB sc "zip" = true) (hx : noStar x = true) (hy : noStar y = true) (ha : Snd X g cs W a x) (hc : Snd X g cs W c y) :
    SndI X g cs W (.zip a c) (.Call (.Name "zip" p) [x, y] [] pos) (.Tuple elts kk tpos) := by
  obtain ⟨i1, _, _⟩ := gl_of C hg
  have fr : X.mg "zip" = none := C.free _ (by decide +kernel)
  obtain ⟨⟨te, p1, g1⟩, _⟩ := ha
  obtain ⟨⟨te', p2, g2⟩, _⟩ := hc
  refine ⟨_, RZ.pi_zipA i1 fr (pa_cons p1 (pa_cons p2 pa_nil (star_cons hy)) (star_cons hx)) (star_cons hx) (by rw [star_cons hy]; rfl), ?_⟩
  intro a1 h ρ σ Q hr er q
  simp only [evI] at q
  refine g1.use hr er q fun d h1 v b m hb eb rv q => ?_
  refine g2.use hb eb q fun e h2 w b2 m2 hb2 eb2 rw' q => ?_
  unfold ckI at q
  split at q
  · rename_i all hi
    have rv2 := rv.mono m2
    simp only [Itr.items] at hi
    unfold zipI at hi
    split at hi
    · obtain ⟨p, vs, rfl, _, k1, _⟩ := rv2.tup_inv
      obtain ⟨p', vs', rfl, _, k2, _⟩ := rw'.tup_inv
      exact ⟨p, p', vs, vs', rfl, .inr ⟨SqT.of k1, SqT.of k2, q _ b2 (.refl b2) hb2 (itok_zipT rv2 rw')⟩⟩
    · split at hi
      · rename_i xs ys e1' e2'
        have n1 : asTup d = none := by cases d <;> first | rfl | simp [asLst] at e1'
        have n2 : asTup e = none := by cases e <;> first | rfl | simp [asLst] at e2'
        obtain ⟨p, vs, rfl, k1, _⟩ := lst_rep hb2 rv2 e1'
        obtain ⟨p', vs', rfl, k2, _⟩ := lst_rep hb2 rw' e2'
        exact ⟨p, p', vs, vs', rfl, .inl ⟨SqL.of k1, SqL.of k2, q _ b2 (.refl b2) hb2 (itok_zip rv2 rw' n1 n2)⟩⟩
      · cases hi
  · exact q.elim
theorem snd_rev (C : Kn X g cs tb k N sc) {a : E} {x tg : Expr} {p pos : Pos} (hg : glB sc "reversed" = true) (hx : noStar x = true) (ha : Snd X g cs W a x) : SndI X g cs W (.rev a) (.Call (.Name "reversed" p) [x] [] pos) tg := by
  obtain ⟨i1, _, _⟩ := gl_of C hg
  have fr : X.mg "reversed" = none := C.free _ (by decide +kernel)
  obtain ⟨⟨te, p1, g1⟩, _⟩ := ha
  refine ⟨_, RT.pi_revA i1 fr p1 (star_cons hx), ?_⟩
  intro a1 h ρ σ Q hr er q
  simp only [evI] at q
  refine g1.use hr er q fun d h1 v b m hb eb rv q => ?_
  unfold ckI at q
  split at q
  · rename_i all hi
    cases d with
    | lst ds =>
      obtain ⟨p, vs, rfl, _, h2, r2⟩ := rv.lst_inv
      refine ⟨p, vs, rfl, .inl ⟨SqL.of h2, q _ b (.refl b) hb (itok_rev rv rfl fun c h ds' _ _ e => ?_)⟩⟩
      simp only [asLst, Option.some.injEq] at e
      rw [← e, r2.length]
    | _ => simp [Itr.items] at hi
  · exact q.elim
end
end Sm

/-! Comprehensions; every expression is sound. -/
namespace Sm
open PySem PySem.Spec PyProof.Rows L2
section
variable {X : Cx} {g : Gi} {cs : Cs} {W : WX} {tb : Nat → Ref} {k : Nat} {N : List Str} {sc : Scope}
abbrev WF : WX := fun _ _ _ _ => False
def GdC (g : Gi) (t : TT) (f : Env' → AH → R Bool) : Prop := ∀ a h ρ σ Q k h1, HeapRel g a h → EnvR g a ρ σ → f ρ h = .ok k h1 → (∀ b, Mono a b → HeapRel g b h1 → Q k b.H) → t σ a.H Q
theorem gdc_none : GdC g tYes (evc cs none) := by
  intro a h ρ σ Q k h1 hr er e q
  simp only [evc, R.ok.injEq] at e
  obtain ⟨rfl, rfl⟩ := e
  exact q a (.refl a) hr
theorem gdc_some {e : E} {tt : TT} (h : GdB g WF tt (ev cs e true)) : GdC g tt (evc cs (some e)) := by
  intro a h0 ρ σ Q k h1 hr er e1 q
  simp only [evc] at e1
  refine h a h0 ρ σ Q hr er ?_
  cases e2 : ev cs e true ρ h0 with
  | ok d h2 =>
    rw [e2, R.bind_ok] at e1
    intro v b m hb rv
    cases d with
    | bl i =>
      simp only [R.ok.injEq] at e1
      obtain ⟨rfl, rfl⟩ := e1
      cases rv.bl_inv
      exact ⟨_, rfl, q b m hb⟩
    | _ => simp at e1
  | ex _ _ => rw [e2] at e1; cases e1
  | stuck => rw [e2] at e1; cases e1
theorem wipe_get : ∀ (vs : List Nat) (σ : L2.St) (i : Nat), i ∉ vs → (wipe σ vs)[i]? = σ[i]?
  | [], σ, i, _ => rfl
  | v :: vs, σ, i, h => by
    simp only [List.mem_cons, not_or] at h
    show ((wipe σ vs).set v none)[i]? = _
    rw [List.getElem?_set_ne (Ne.symm h.1), wipe_get vs σ i h.2]
theorem wipe_in : ∀ (vs : List Nat) (σ : L2.St) (i : Nat), i ∈ vs → i < σ.length → (wipe σ vs)[i]? = some none
  | [], σ, i, h, _ => by simp at h
  | v :: vs, σ, i, h, hl => by
    show ((wipe σ vs).set v none)[i]? = _
    by_cases hv : i = v
    · subst hv
      rw [List.getElem?_set_self (by rw [L2.wipe_length]; exact hl)]
    · rw [List.getElem?_set_ne (Ne.symm hv)]
      exact wipe_in vs σ i ((List.mem_cons.mp h).resolve_left hv) hl
theorem wipe_eq {vs : List Nat} {σ σ' : L2.St} (hl : σ'.length = σ.length) (h : ∀ i, i ∉ vs → σ'[i]? = σ[i]?) : wipe σ' vs = wipe σ vs := by
  apply List.ext_getElem?
  intro i
  by_cases hi : i ∈ vs
  · by_cases hlt : i < σ.length
    · rw [wipe_in vs σ' i hi (by omega), wipe_in vs σ i hi hlt]
    · rw [List.getElem?_eq_none (by rw [L2.wipe_length]; omega), List.getElem?_eq_none (by rw [L2.wipe_length]; omega)]
  · rw [wipe_get vs σ' i hi, wipe_get vs σ i hi, h i hi]
theorem EnvR.wipe {a : Vw} {ρ : Env'} {σ : L2.St} (h : EnvR g a ρ σ) : ∀ vs, EnvR g a (wipeD ρ vs) (wipe σ vs)
  | [] => h
  | v :: vs => (EnvR.wipe h vs).unset
noncomputable def compF (cs : Cs) (tg : List Nat) (one : Bool) (cond : Option E) (elt : E) (vs : List Nat) (ρ : Env') : D → AH → R (Option D) := fun d h => match bindT tg one d (wipeD ρ vs) with
          | none => .stuck
          | some ρ => (evc cs cond ρ h).bind fun k h => if k then (ev cs elt false ρ h).bind fun y h => .ok (some y) h else .ok none h
noncomputable def compR (cs : Cs) (cell : Bool) (it : E) (tg : List Nat) (one : Bool) (cond : Option E) (elt : E) (vs : List Nat) (ρ : Env') (h : AH) : R D :=
  (evI cs it ρ h).bind fun I h => match I.items h with
      | none => .stuck
      | some all => (compGo I all (compF cs tg one cond elt vs ρ) all [] h).bind fun ds h => mkL cell ds h
open Classical in
theorem compGo_cons {it : Sm.Itr} {all : List D} {f : D → AH → R (Option D)} {d : D} {ds acc : List D} {h : AH} : compGo it all f (d :: ds) acc h = if it.items h = some all then
      (match f d h with
      | .ok none h => compGo it all f ds acc h
      | .ok (some y) h => if acc.length < lim then compGo it all f ds (acc ++ [y]) h else .stuck
      | _ => .stuck)
    else .stuck := by rw [compGo] <;> rfl
theorem comp_gd {cell : Bool} {it : E} {tg : List Nat} {one : Bool} {cond : Option E} {elt : E} {wi : TI} {gT : TG} {tt : TT} {te : TE} (gi : Gd g W (ItOk g) wi (evI cs it)) (gt : GdT g tg one gT) (gc : GdC g tt (evc cs cond)) (ge : Gd g WF (RepV g) te (ev cs elt false)) :
    Gd g W (RepV g) (tLc wi gT tt te tg) (compR cs cell it tg one cond elt tg) := by
  intro a h ρ σ Q hr er q
  unfold compR at q
  refine gi.use hr er q fun I h1 J b m hb eb hJ q => ?_
  split at q
  · exact q.elim
  rename_i all hall
  generalize hF : compF cs tg one cond elt tg ρ = F at q
  intro D hD
  refine ⟨fun i m H => m = all.length - i ∧ i ≤ all.length ∧ ∃ (c : Vw) (hc : AH) (acc : List Sm.D) (vacc : List V), c.H = H ∧ Mono b c ∧ HeapRel g c hc ∧ D ∉ c.m ∧ c.G D ∧ c.H D = some (.lst vacc) ∧ RepVs g c acc vacc ∧
    compGo I all F all [] h1 = compGo I all F (all.drop i) acc hc, ⟨all.length, by simp, Nat.zero_le _, ⟨b.m, fun p => b.G p ∨ p = D, upd b.H D (.lst [])⟩, h1, [], [], rfl, ?_, ?_, (hb.new hD).1, .inr rfl, upd_same, .nil, by simp⟩, ?_⟩
  · refine ⟨⟨[], by simp⟩, fun p o h2 h3 => ⟨h2, by show upd b.H D _ p = _; rw [upd_ne (ne_of_none h3 hD)]; exact h3, fun z y => y.elim z fun y => ne_of_none h3 hD y⟩, fun p z => .inl z⟩
  · refine ⟨hb.len, hb.nd, fun p hp => ?_, fun p hp z => ?_, fun n c p h2 h3 => ?_⟩
    · show upd b.H D _ p ≠ none
      by_cases hpD : p = D
      · subst hpD; rw [upd_same]; simp
      · rw [upd_ne hpD]; exact hb.live p (hp.resolve_right hpD)
    · rcases z with z | z
      · exact hb.apart p hp z
      · exact (hb.new hD).1 (z ▸ hp)
    · have hpD : p ≠ D := fun z => (hb.new hD).1 (z ▸ List.mem_of_getElem? h3)
      show CellRep g _ c (upd b.H D _ p)
      rw [upd_ne hpD]
      refine (hb.rep n c p h2 h3).mono0 ⟨⟨[], by simp⟩, fun p o h4 h5 => ?_⟩
      have hne := ne_of_none h5 hD
      exact ⟨fun z => z.elim (fun z => h4 (.inl z)) fun z => z.elim (fun z => h4 (.inr z)) hne, by show upd b.H D _ p = _; rw [upd_ne hne]; exact h5⟩
  · rintro i m H ⟨rfl, hi, c, hc, acc, vacc, rfl, mo, hrc, nD, gD, hD2, racc, eq⟩
    by_cases hlt : i < all.length
    · right
      have hdrop : all.drop i = all[i] :: all.drop (i + 1) := (List.drop_eq_getElem_cons hlt)
      rw [hdrop] at eq
      rw [eq] at q
      rw [compGo_cons] at q eq
      by_cases hit : I.items hc = some all
      · rw [if_pos hit] at q eq
        obtain ⟨go, hy⟩ := (hJ c hc all mo hrc hit i).1 all[i] (List.getElem?_eq_getElem hlt)
        refine ⟨go, fun H' => (all.length - (i + 1)) = all.length - (i + 1) ∧ i + 1 ≤ all.length ∧ ∃ (c : Vw) (hc : AH) (acc : List Sm.D) (vacc : List V), c.H = H' ∧ Mono b c ∧ HeapRel g c hc ∧ D ∉ c.m ∧ c.G D ∧ c.H D = some (.lst vacc) ∧ RepVs g c acc vacc ∧
          compGo I all F all [] h1 = compGo I all F (all.drop (i + 1)) acc hc, fun H' hN => ⟨_, by omega, hN⟩, ?_⟩
        intro x H' hx
        obtain ⟨e, me, rfl, hre, rx⟩ := hy x H' hx
        obtain ⟨nDe, hDe, _⟩ := me.all D _ nD hD2
        have gDe := me.gh D gD
        have ee : EnvR g e (wipeD ρ tg) (wipe σ tg) := ((eb.mono mo).mono me).wipe tg
        cases hbd : bindT tg one all[i] (wipeD ρ tg) with
        | none =>
          have : F all[i] hc = .stuck := by rw [← hF]; simp only [compF, hbd]
          rw [this] at q; exact q.elim
        | some ρ' =>
        have hFe : F all[i] hc = (evc cs cond ρ' hc).bind fun k h => if k then (ev cs elt false ρ' h).bind fun y h => .ok (some y) h else .ok none h := by rw [← hF]; simp only [compF, hbd]
        refine gt e all[i] x _ ρ' _ _ rx ee hbd fun σ2 e2 ag hl => ⟨?_, ?_⟩
        · rw [wipe_eq hl ag]
          exact wipe_eq (L2.wipe_length σ tg) fun i hi => wipe_get tg σ i hi
        · cases hce : evc cs cond ρ' hc with
          | stuck => rw [hFe, hce] at q; exact q.elim
          | ex y h2 => rw [hFe, hce] at q; exact q.elim
          | ok kk h2 =>
            rw [hce, R.bind_ok] at hFe
            refine gc e hc ρ' σ2 _ kk h2 hre e2 hce fun f mf hrf => ?_
            obtain ⟨nDf, hDf, _⟩ := mf.all D _ nDe hDe
            have gDf := mf.gh D gDe
            cases kk with
            | false =>
              rw [if_neg Bool.false_ne_true]
              rw [if_neg Bool.false_ne_true] at hFe
              rw [hFe] at eq
              exact ⟨rfl, hlt, f, h2, acc, vacc, rfl, (mo.trans me).trans mf, hrf, nDf, gDf, hDf, (racc.mono me).mono mf, eq⟩
            | true =>
              rw [if_pos rfl]
              rw [if_pos rfl] at hFe
              refine ge f h2 ρ' σ2 _ hrf (e2.mono mf) ?_
              cases hel : ev cs elt false ρ' h2 with
              | stuck => rw [hFe, hel] at q; exact q.elim
              | ex y h3 => rw [hFe, hel] at q; exact q.elim
              | ok y h3 =>
                rw [hel, R.bind_ok] at hFe
                rw [hFe] at q eq
                simp only at q eq
                intro v f2 mf2 hrf2 rv
                obtain ⟨nD2, hD3, _⟩ := mf2.all D _ nDf hDf
                have gD2 := mf2.gh D gDf
                have racc2 := ((racc.mono me).mono mf).mono mf2
                by_cases hll : acc.length < lim
                · rw [if_pos hll] at eq
                  refine ⟨vacc, hD3, by rw [racc2.length]; exact lim_lt hll, ?_⟩
                  have m0 : Mono0 f2 ⟨f2.m, f2.G, upd f2.H D (.lst (vacc ++ [v]))⟩ := ⟨⟨[], by simp⟩, fun p o h4 h5 => ⟨h4, by
                    have : p ≠ D := fun z => h4 (.inr (z ▸ gD2))
                    show upd f2.H D _ p = _
                    rw [upd_ne this]; exact h5⟩⟩
                  refine ⟨rfl, hlt, ⟨f2.m, f2.G, upd f2.H D (.lst (vacc ++ [v]))⟩, h3, acc ++ [y], vacc ++ [v], rfl, ?_, ?_, nD2, gD2, upd_same, (racc2.mono0 m0).append (.cons (rv.mono0 m0) .nil), eq⟩
                  · have mt := ((mo.trans me).trans mf).trans mf2
                    refine ⟨mt.pre, fun p o h4 h5 => ?_, mt.gh⟩
                    obtain ⟨k1, k2, k3⟩ := mt.all p o h4 h5
                    refine ⟨k1, ?_, k3⟩
                    show upd f2.H D _ p = _
                    rw [upd_ne (ne_of_none h5 hD)]; exact k2
                  · refine ⟨hrf2.len, hrf2.nd, fun p hp => ?_, hrf2.apart, fun n cc p h4 h5 => ?_⟩
                    · show upd f2.H D _ p ≠ none
                      by_cases hpD : p = D
                      · subst hpD; rw [upd_same]; simp
                      · rw [upd_ne hpD]; exact hrf2.live p hp
                    · have hpD : p ≠ D := fun z => nD2 (z ▸ List.mem_of_getElem? h5)
                      show CellRep g _ cc (upd f2.H D _ p)
                      rw [upd_ne hpD]
                      exact (hrf2.rep n cc p h4 h5).mono0 m0
                · rw [if_neg hll] at q; exact q.elim
      · rw [if_neg hit] at q; exact q.elim
    · left
      obtain rfl : i = all.length := by omega
      rw [List.drop_length] at eq
      rw [eq] at q
      unfold compGo at q
      by_cases hit : I.items hc = some all
      · rw [if_pos hit, R.bind_ok] at q
        refine ⟨(hJ c hc all mo hrc hit all.length).2 (Nat.le_refl _), ?_⟩
        -- the list leaves the making
        have md : Mono b ⟨c.m, fun p => c.G p ∧ p ≠ D, c.H⟩ := ⟨mo.pre, fun p o h4 h5 => let ⟨k1, k2, k3⟩ := mo.all p o h4 h5; ⟨k1, k2, fun z y => k3 z y.1⟩, fun p z => ⟨mo.gh p z, fun y => hb.live p z (y ▸ hD)⟩⟩
        have m0 : Mono0 c ⟨c.m, fun p => c.G p ∧ p ≠ D, c.H⟩ := ⟨⟨[], by simp⟩, fun p o h4 h5 => ⟨fun z => h4 (z.imp id And.left), h5⟩⟩
        have hrd : HeapRel g ⟨c.m, fun p => c.G p ∧ p ≠ D, c.H⟩ hc := ⟨hrc.len, hrc.nd, fun p hp => hrc.live p hp.1, fun p hp z => hrc.apart p hp z.1, fun n cc p h4 h5 => (hrc.rep n cc p h4 h5).mono0 m0⟩
        unfold mkL at q
        split at q
        · cases cell with
          | false =>
            refine q (.ref D) ⟨c.m, fun p => c.G p ∧ p ≠ D, c.H⟩ md hrd ?_
            simp only [RepV]
            exact ⟨D, vacc, rfl, fun z => z.elim nD fun z => z.2 rfl, hD2, racc.mono0 m0⟩
          | true =>
            have m1 : Mono0 c ⟨c.m ++ [D], fun p => c.G p ∧ p ≠ D, c.H⟩ := ⟨⟨[D], rfl⟩, fun p o h4 h5 => ⟨fun z => z.elim (fun z => by
              rcases List.mem_append.mp z with z | z
              · exact h4 (.inl z)
              · simp at z; exact h4 (.inr (z ▸ gD))) fun z => h4 (.inr z.1), h5⟩⟩
            refine q (.ref D) ⟨c.m ++ [D], fun p => c.G p ∧ p ≠ D, c.H⟩ ⟨?_, fun p o h4 h5 => ?_, md.gh⟩ ⟨by simp [hrc.len], ?_, fun p hp => hrc.live p hp.1, fun p hp z => ?_, fun n cc p h4 h5 => ?_⟩ ?_
            · obtain ⟨x, hx⟩ := mo.pre
              exact ⟨x ++ [D], by show c.m ++ [D] = _; rw [hx, List.append_assoc]⟩
            · obtain ⟨k1, k2, k3⟩ := md.all p o h4 h5
              refine ⟨fun z => ?_, k2, k3⟩
              rcases List.mem_append.mp z with z | z
              · exact k1 z
              · simp at z; exact ne_of_none h5 hD z
            · show (c.m ++ [D]).Nodup
              rw [List.nodup_append]
              exact ⟨hrc.nd, by simp, fun x hx y hy => by simp at hy; subst hy; exact fun z => nD (z ▸ hx)⟩
            · rcases List.mem_append.mp hp with hp | hp
              · exact hrc.apart p hp z.1
              · simp at hp; exact z.2 hp
            · have h5 : (c.m ++ [D])[n]? = some p := h5
              by_cases hn : n < hc.length
              · rw [List.getElem?_append_left hn] at h4
                rw [List.getElem?_append_left (by rw [hrc.len]; exact hn)] at h5
                exact (hrc.rep n cc p h4 h5).mono0 m1
              · have hn2 : n = hc.length := by
                  have := (List.getElem?_eq_some_iff.mp h4).1
                  simp at this; omega
                subst hn2
                rw [List.getElem?_append_right (by rw [hrc.len]; exact Nat.le_refl _), hrc.len] at h5
                simp at h4 h5
                subst h4 h5
                exact ⟨vacc, hD2, racc.mono0 m1⟩
            · simp only [RepV]
              refine ⟨D, rfl, ?_⟩
              show (c.m ++ [D])[hc.length]? = some D
              rw [List.getElem?_append_right (by rw [hrc.len]; exact Nat.le_refl _), hrc.len]
              simp
        · exact q.elim
      · rw [if_neg hit] at q; exact q.elim

/-! ### readings that hang on nothing but the small text -/
def cE (g : Gi) (W : WX) (F : Env' → AH → R D) : TE := fun σ H Q => ∃ a h ρ, a.H = H ∧ HeapRel g a h ∧ EnvR g a ρ σ ∧ Post g a (RepV g) (fun c d H => W c d σ H) Q (F ρ h)
def cB (g : Gi) (W : WX) (F : Env' → AH → R D) : TT := fun σ H Q => ∃ a h ρ, a.H = H ∧ HeapRel g a h ∧ EnvR g a ρ σ ∧ Post g a (RepV g) (fun c d H => W c d σ H) (fun v H => ∃ k, v = .bl k ∧ Q k H) (F ρ h)
theorem cE_pe {e : E} {x : Expr} (h : Snd X g cs W e x) : PE X x (cE g W (ev cs e false)) := by
  obtain ⟨⟨te, p1, g1⟩, _⟩ := h
  exact ⟨fun pins s σ H Q I ⟨a, hh, ρ, e, hr, er, p⟩ => p1.run pins s σ H Q I (e ▸ g1 a hh ρ σ Q hr er p)⟩
theorem cE_gd {F : Env' → AH → R D} : Gd g W (RepV g) (cE g W F) F := fun a h ρ σ Q hr er p => ⟨a, h, ρ, rfl, hr, er, p⟩
theorem cB_pt {e : E} {x : Expr} (h : Snd X g cs W e x) : PT X x (cB g W (ev cs e true)) := by
  obtain ⟨_, ⟨te, p1, g1⟩⟩ := h
  exact ⟨fun pins s σ H Q I ⟨a, hh, ρ, e, hr, er, p⟩ => p1.run pins s σ H Q I (e ▸ g1 a hh ρ σ Q hr er p)⟩
theorem cB_gd {F : Env' → AH → R D} : GdB g W (cB g W F) F := fun a h ρ σ Q hr er p => ⟨a, h, ρ, rfl, hr, er, p⟩
def cG (g : Gi) (tg : List Nat) (one : Bool) : TG := fun v σ H Q => ∃ a d ρ ρ', a.H = H ∧ RepV g a d v ∧ EnvR g a ρ σ ∧ bindT tg one d ρ = some ρ' ∧ ∀ σ', EnvR g a ρ' σ' → (∀ i, i ∉ tg → σ'[i]? = σ[i]?) → σ'.length = σ.length → Q σ' a.H
theorem cG_gd {tg : List Nat} {one : Bool} : GdT g tg one (cG g tg one) := fun a d v ρ ρ' σ Q r er hb q => ⟨a, d, ρ, ρ', rfl, r, er, hb, q⟩
theorem cG_pg {tg : List Nat} {one : Bool} {t : TG} {x : Expr} (h : PG X x t) (gt : GdT g tg one t) : PG X x (cG g tg one) :=
  ⟨fun pins s σ H v u Q I r ⟨a, d, ρ, ρ', e, rv, er, hb, q⟩ => h.run pins s σ H v u Q I r (e ▸ gt a d v ρ ρ' σ Q rv er hb q)⟩
def cC (g : Gi) (F : Env' → AH → R Bool) : TT := fun σ H Q => ∃ a h ρ k h1, a.H = H ∧ HeapRel g a h ∧ EnvR g a ρ σ ∧ F ρ h = .ok k h1 ∧ ∀ b, Mono a b → HeapRel g b h1 → Q k b.H
theorem cC_gd {F : Env' → AH → R Bool} : GdC g (cC g F) F := fun a h ρ σ Q k h1 hr er e q => ⟨a, h, ρ, k, h1, rfl, hr, er, e, q⟩
def SndC (X : Cx) (g : Gi) (cs : Cs) (o : Option E) (ifs : List Expr) : Prop := ∃ tt, PTs X ifs tt ∧ GdC g tt (evc cs o)
theorem cC_pt {o : Option E} {ifs : List Expr} (h : SndC X g cs o ifs) : PTs X ifs (cC g (evc cs o)) := by
  obtain ⟨tt, p1, g1⟩ := h
  exact ⟨fun pins s σ H Q I ⟨a, hh, ρ, k, h1, e, hr, er, e2, q⟩ => p1.run pins s σ H Q I (e ▸ g1 a hh ρ σ Q k h1 hr er e2 q)⟩
theorem sndc_none : SndC X g cs none [] := ⟨_, pts_nil, gdc_none⟩
theorem sndc_some {e : E} {x : Expr} (h : Snd X g cs WF e x) : SndC X g cs (some e) [x] := ⟨_, pts_one (cB_pt h), gdc_some cB_gd⟩
theorem Kn.blk (C : Kn X g cs tb k N sc) (s : Shared) (H : Hp) (scope : Scope) (C' : Addr) (cl : List (Str × Addr)) (fp : List Addr) : Kn (X.blk s H scope (compEnvC scope cl C' X.env) fp) g cs tb k N (relS scope sc) :=
  ⟨C.eN, by rw [← C.esc]; rfl, C.nd, C.calm, C.kl, C.room, C.free, C.refs⟩
/-- a comprehension, from its parts -/
structure CompP (X : Cx) (g : Gi) (cs : Cs) (W : WX) (it : E) (tg : List Nat) (one : Bool) (cond : Option E) (elt : E) (own : List (Str × Nat)) (el te ie : Expr) (ifs : List Expr) (scope : Scope) (wi : TI) : Prop where
  pi : PI X te ie wi
  ok : BlkOk X.N X.env.scope scope own
  hg : ∀ (s : Shared) (H : Hp) (C : Addr) (cl : List (Str × Addr)) (fp : List Addr), PG (X.blk s H scope (compEnvC scope cl C X.env) fp) te (cG g tg one)
  ht : ∀ (s : Shared) (H : Hp) (C : Addr) (cl : List (Str × Addr)) (fp : List Addr), PTs (X.blk s H scope (compEnvC scope cl C X.env) fp) ifs (cC g (evc cs cond))
  he : ∀ (s : Shared) (H : Hp) (C : Addr) (cl : List (Str × Addr)) (fp : List Addr), PE (X.blk s H scope (compEnvC scope cl C X.env) fp) el (cE g WF (ev cs elt false))
  gd : Gd g W (ItOk g) wi (evI cs it)
  ns : notSet ie = true
  tg : tg = own.map (·.2)
theorem ev_comp {cell : Bool} {it : E} {tg : List Nat} {one : Bool} {cond : Option E} {elt : E} {own : List (Str × Nat)} (t : Bool) (ρ : Env') (h : AH) :
    ev cs (.comp cell it tg one cond elt own) t ρ h = tr t (compR cs cell it tg one cond elt (own.map (·.2)) ρ h) := by
  simp only [ev, compR, compF] <;> rfl
theorem snd_comp (C : Kn X g cs tb k N sc) {cell : Bool} {it : E} {tg : List Nat} {one : Bool} {cond : Option E} {elt : E} {own : List (Str × Nat)} {el te ie : Expr} {ifs : List Expr} {scope : Scope} {pos : Pos} {wi : TI}
    (P : CompP X g cs W it tg one cond elt own el te ie ifs scope wi) : Snd X g cs W (.comp cell it tg one cond elt own) (.ListComp el [⟨te, ie, ifs, 0⟩] scope pos) := by
  refine Snd.of (pe_lc C.calm (by rw [C.eN]; exact C.nd) P.pi P.ok P.hg P.ht P.he (noset_fold P.ns _)) (F := compR cs cell it tg one cond elt (own.map (·.2))) ?_ (fun _ _ => rfl) ev_comp
  have := comp_gd (cell := cell) (one := one) (cond := cond) (elt := elt) P.gd (cG_gd (g := g) (tg := tg) (one := one)) (cC_gd (F := evc cs cond)) (cE_gd (W := WF) (F := ev cs elt false))
  rw [← P.tg]; exact this
end
section
variable {tb : Nat → Ref} {N : List Str} {sc : Scope} {x tg : Expr} {a b : E} {es : List E}
theorem chkI_inv {e : E} (h : chkI tb N sc e x tg = true) : (∃ a, e = .seq a ∧ chk tb N sc a x = true) ∨
    (∃ es p xs pos, e = .rng es ∧ x = .Call (.Name "range" p) xs [] pos ∧ glB sc "range" = true ∧ chks tb N sc es xs = true ∧ (xs.length = 1 ∨ xs.length = 2 ∨ xs.length = 3)) ∨
    (∃ a p y pos, e = .enum a ∧ x = .Call (.Name "enumerate" p) [y] [] pos ∧ isTupE tg = true ∧ glB sc "enumerate" = true ∧ chk tb N sc a y = true ∧ noStar y = true) ∨
    (∃ a b p y z pos, e = .zip a b ∧ x = .Call (.Name "zip" p) [y, z] [] pos ∧ isTupE tg = true ∧ glB sc "zip" = true ∧ chk tb N sc a y = true ∧ noStar y = true ∧ chk tb N sc b z = true ∧ noStar z = true) ∨
    (∃ a p y pos, e = .rev a ∧ x = .Call (.Name "reversed" p) [y] [] pos ∧ glB sc "reversed" = true ∧ chk tb N sc a y = true ∧ noStar y = true) := by
  unfold chkI at h
  split at h
  · exact .inl ⟨_, rfl, h⟩
  · simp only [Bool.and_eq_true, decide_eq_true_eq] at h
    obtain ⟨⟨⟨rfl, h1⟩, h2⟩, h3⟩ := h
    exact .inr (.inl ⟨_, _, _, _, rfl, rfl, h1, h2, h3⟩)
  · simp only [Bool.and_eq_true, decide_eq_true_eq] at h
    obtain ⟨⟨⟨⟨h0, rfl⟩, h1⟩, h2⟩, h3⟩ := h
    exact .inr (.inr (.inl ⟨_, _, _, _, rfl, rfl, h0, h1, h2, h3⟩))
  · simp only [Bool.and_eq_true, decide_eq_true_eq] at h
    obtain ⟨⟨⟨⟨⟨⟨h0, rfl⟩, h1⟩, h2⟩, h3⟩, h4⟩, h5⟩ := h
    exact .inr (.inr (.inr (.inl ⟨_, _, _, _, _, _, rfl, rfl, h0, h1, h2, h3, h4, h5⟩)))
  · simp only [Bool.and_eq_true, decide_eq_true_eq] at h
    obtain ⟨⟨⟨rfl, h1⟩, h2⟩, h3⟩ := h
    exact .inr (.inr (.inr (.inr ⟨_, _, _, _, rfl, rfl, h1, h2, h3⟩)))
  · cases h
end
mutual
theorem snd : ∀ (e : E) {X : Cx} {g : Gi} {cs : Cs} {W : WX} {tb : Nat → Ref} {k : Nat} {N : List Str} {sc : Scope}, Kn X g cs tb k N sc → Takes X W → ∀ (x : Expr), chk tb N sc e x = true → Snd X g cs W e x
  | .var i, X, g, cs, W, tb, k, N, sc, C, tk, x, h => snd_var C h
  | .con c, X, g, cs, W, tb, k, N, sc, C, tk, x, h => snd_con C h
  | .glob f, X, g, cs, W, tb, k, N, sc, C, tk, x, h => by
    cases x with
    | Name y p =>
      simp only [chk, Bool.and_eq_true, decide_eq_true_eq] at h
      exact snd_glob C h.1 h.2
    | _ => simp [chk] at h
  | .bin o a b, X, g, cs, W, tb, k, N, sc, C, tk, x, h => by
    cases x with
    | BinOp y p z pos =>
      simp only [chk, Bool.and_eq_true, decide_eq_true_eq] at h
      obtain ⟨⟨rfl, h1⟩, h2⟩ := h
      exact snd_bin (snd a C tk y h1) (snd b C tk z h2)
    | _ => simp [chk] at h
  | .neg a, X, g, cs, W, tb, k, N, sc, C, tk, x, h => by
    cases x with
    | UnaryOp o y pos =>
      cases o <;> simp only [chk] at h <;> first | cases h | exact snd_neg (snd a C tk y h)
    | _ => simp [chk] at h
  | .cmp o a b, X, g, cs, W, tb, k, N, sc, C, tk, x, h => by
    cases x with
    | Compare y ops zs pos =>
      rcases ops with _ | ⟨p, _ | ⟨_, _⟩⟩ <;> rcases zs with _ | ⟨z, _ | ⟨_, _⟩⟩ <;> simp only [chk] at h <;> first | cases h | skip
      simp only [Bool.and_eq_true, decide_eq_true_eq, Bool.not_eq_true'] at h
      obtain ⟨⟨⟨rfl, h1⟩, h2⟩, h3⟩ := h
      exact snd_cmp C h1 (snd a C tk y h2) (snd b C tk z h3)
    | _ => simp [chk] at h
  | .chain o o2 a b c, X, g, cs, W, tb, k, N, sc, C, tk, x, h => by
    cases x with
    | Compare y ops zs pos =>
      rcases ops with _ | ⟨p, _ | ⟨p2, _ | ⟨_, _⟩⟩⟩ <;> rcases zs with _ | ⟨z, _ | ⟨z2, _ | ⟨_, _⟩⟩⟩ <;> simp only [chk] at h <;> first | cases h | skip
      simp only [Bool.and_eq_true, decide_eq_true_eq, Bool.not_eq_true'] at h
      obtain ⟨⟨⟨⟨⟨rfl, rfl⟩, h1⟩, h2⟩, h3⟩, h4⟩ := h
      exact snd_chain C h1 (snd a C tk y h2) (snd b C tk z h3) (snd c C tk z2 h4)
    | _ => simp [chk] at h
  | .band es, X, g, cs, W, tb, k, N, sc, C, tk, x, h => by
    cases x with
    | BoolOp o ys pos =>
      cases o <;> simp only [chk] at h
      · by_cases hn : es = []
        · subst hn
          exact ⟨⟨_, ⟨fun _ _ _ _ _ _ z => False.elim z⟩, fun a h ρ σ Q hr er q => by simp only [ev, evAnd] at q; exact q⟩, ⟨_, ⟨fun _ _ _ _ _ _ z => False.elim z⟩, fun a h ρ σ Q hr er q => by simp only [ev, evAnd] at q; exact q⟩⟩
        · exact Snd.ofBo (sndAnd es C tk ys hn h) fun t => by funext ρ h; simp only [ev]
      · cases h
    | _ => simp [chk] at h
  | .bor es, X, g, cs, W, tb, k, N, sc, C, tk, x, h => by
    cases x with
    | BoolOp o ys pos =>
      cases o <;> simp only [chk] at h
      · cases h
      · by_cases hn : es = []
        · subst hn
          exact ⟨⟨_, ⟨fun _ _ _ _ _ _ z => False.elim z⟩, fun a h ρ σ Q hr er q => by simp only [ev, evOr] at q; exact q⟩, ⟨_, ⟨fun _ _ _ _ _ _ z => False.elim z⟩, fun a h ρ σ Q hr er q => by simp only [ev, evOr] at q; exact q⟩⟩
        · exact Snd.ofBo (sndOr es C tk ys hn h) fun t => by funext ρ h; simp only [ev]
    | _ => simp [chk] at h
  | .bnot a, X, g, cs, W, tb, k, N, sc, C, tk, x, h => by
    cases x with
    | UnaryOp o y pos =>
      cases o <;> simp only [chk] at h <;> first | cases h | exact snd_not (snd a C tk y h)
    | _ => simp [chk] at h
  | .ite c a b, X, g, cs, W, tb, k, N, sc, C, tk, x, h => by
    cases x with
    | IfExp y1 y2 y3 pos =>
      simp only [chk, Bool.and_eq_true] at h
      exact snd_ite (snd c C tk y1 h.1.1) (snd a C tk y2 h.1.2) (snd b C tk y3 h.2)
    | _ => simp [chk] at h
  | .tup es, X, g, cs, W, tb, k, N, sc, C, tk, x, h => by
    cases x with
    | Tuple ys kk pos => simp only [chk] at h; exact snd_tup (snds es C tk ys h)
    | _ => simp [chk] at h
  | .lst cell es, X, g, cs, W, tb, k, N, sc, C, tk, x, h => by
    cases x with
    | List ys pos => simp only [chk] at h; exact snd_lst (snds es C tk ys h)
    | _ => simp [chk] at h
  | .ix a i, X, g, cs, W, tb, k, N, sc, C, tk, x, h => by
    cases x with
    | Subscript y z pos =>
      simp only [chk, Bool.and_eq_true] at h
      have hp : PlainIx z := by
        cases z with
        | Slice l u st p =>
          have h2 := h.2
          cases i <;> simp [chk] at h2
        | _ => exact fun _ _ => rfl
      exact snd_ix hp (snd a C tk y h.1) (snd i C tk z h.2)
    | _ => simp [chk] at h
  | .slice cell a lo hi, X, g, cs, W, tb, k, N, sc, C, tk, x, h => by
    cases x with
    | Subscript y z pos =>
      cases z with
      | Slice l u st p =>
        cases st with
        | none =>
          simp only [chk, Bool.and_eq_true] at h
          exact snd_slice (snd a C tk y h.1.1) (sndo lo C tk l h.1.2) (sndo hi C tk u h.2)
        | some _ => simp [chk] at h
      | _ => simp [chk] at h
    | _ => simp [chk] at h
  | .call f es, X, g, cs, W, tb, k, N, sc, C, tk, x, h => by
    cases x with
    | Call fe ys kws pos =>
      cases fe with
      | Name y p =>
        cases kws with
        | nil =>
          simp only [chk, Bool.and_eq_true, Bool.or_eq_true, decide_eq_true_eq] at h
          rcases h.1.1 with hf | hf
          · exact snd_call C tk hf h.1.2 h.2 (snds es C tk ys h.2)
          · exact snd_new C tk hf h.1.2 h.2 (snds es C tk ys h.2)
        | cons _ _ => simp [chk] at h
      | _ => simp [chk] at h
    | _ => simp [chk] at h
  | .cst f es, X, g, cs, W, tb, k, N, sc, C, tk, x, h => by
    cases x with
    | Call fe ys kws pos =>
      cases fe with
      | Attribute o m ap =>
        cases o with
        | Name y p =>
          cases kws with
          | nil =>
            simp only [chk, Bool.and_eq_true, decide_eq_true_eq, Bool.not_eq_true'] at h
            exact snd_cst C tk h.1.1.1.1.1 h.1.1.1.1.2 h.1.1.1.2 h.1.1.2 h.1.2 (fun z => by rw [z] at h; simp at h) (snds es C tk ys h.1.1.1.2)
          | cons _ _ => simp [chk] at h
        | _ => simp [chk] at h
      | _ => simp [chk] at h
    | _ => simp [chk] at h
  | .sti f c a es, X, g, cs, W, tb, k, N, sc, C, tk, x, h => by
    cases x with
    | Call fe ys kws pos =>
      cases fe with
      | Attribute o m ap =>
        cases kws with
        | nil =>
          simp only [chk, Bool.and_eq_true, decide_eq_true_eq, Bool.not_eq_true'] at h
          exact snd_sti C tk h.1.1.1.1.1.1 h.1.1.1.1.1.2 h.1.1.1.2 h.1.1.2 h.1.2 (fun z => by rw [z] at h; simp at h) (snd a C tk o h.1.1.1.1.2) (snds es C tk ys h.1.1.1.2)
        | cons _ _ => simp [chk] at h
      | _ => simp [chk] at h
    | _ => simp [chk] at h
  | .ccon f, X, g, cs, W, tb, k, N, sc, C, tk, x, h => by
    cases x with
    | Attribute o m ap =>
      cases o with
      | Name y p =>
        simp only [chk, Bool.and_eq_true, decide_eq_true_eq] at h
        exact snd_ccon C h.1 h.2
      | _ => simp [chk] at h
    | _ => simp [chk] at h
  | .bif b es, X, g, cs, W, tb, k, N, sc, C, tk, x, h => by
    cases x with
    | Call fe ys kws pos =>
      cases fe with
      | Name y p =>
        cases kws with
        | nil =>
          simp only [chk, Bool.and_eq_true, decide_eq_true_eq, Bool.not_eq_true'] at h
          exact snd_bif C h.1.1.1 h.1.1.2 h.1.2 (fun z => by rw [z] at h; simp at h) (snds es C tk ys h.1.2)
        | cons _ _ => simp [chk] at h
      | _ => simp [chk] at h
    | _ => simp [chk] at h
  | .isb a t, X, g, cs, W, tb, k, N, sc, C, tk, x, h => by
    cases x with
    | Call fe ys kws pos =>
      cases fe with
      | Name y p =>
        cases kws with
        | nil =>
          rcases ys with _ | ⟨y1, _ | ⟨y2, _ | ⟨_, _⟩⟩⟩ <;> first | (simp [chk] at h; done) | skip
          cases y2 with
          | Name z p2 =>
            simp only [chk, Bool.and_eq_true, decide_eq_true_eq] at h
            obtain ⟨⟨⟨⟨⟨rfl, h1⟩, rfl⟩, h2⟩, h3⟩, h4⟩ := h
            exact snd_isb C h1 h2 h4 (snd a C tk y1 h3)
          | _ => simp [chk] at h
        | cons _ _ => simp [chk] at h
      | _ => simp [chk] at h
    | _ => simp [chk] at h
  | .comp cell it tg one cond elt own, X, g, cs, W, tb, k, N, sc, C, tk, x, h => by
    cases x with
    | ListComp el gens scope pos =>
      rcases gens with _ | ⟨⟨te, ie, ifs, kk⟩, _ | ⟨_, _⟩⟩ <;> first | (simp [chk] at h; done) | skip
      simp only [chk, Bool.and_eq_true, decide_eq_true_eq] at h
      obtain ⟨⟨⟨⟨⟨⟨⟨rfl, h1⟩, h2⟩, h3⟩, h4⟩, h5⟩, h6⟩, h7⟩ := h
      obtain ⟨wi, p1, g1⟩ := sndI it C tk ie te h2
      exact snd_comp C ⟨p1, by rw [C.eN, C.esc]; exact blkOk_by h1, fun s H C' cl fp => by
          obtain ⟨t, q1, q2⟩ := target_ok (g := g) (C.blk s H scope C' cl fp).eN C.nd (C.blk s H scope C' cl fp).esc C.calm (fnB := fun x => scope.names.lookup x == some .cell) (fun x hx => hx) h3
          exact cG_pg q1 q2,
        fun s H C' cl fp => cC_pt (sndIfs cond (C.blk s H scope C' cl fp) takes0 ifs h5),
        fun s H C' cl fp => cE_pe (snd elt (C.blk s H scope C' cl fp) takes0 el h6), g1, h4, h7⟩
    | _ => simp [chk] at h
  | .seq a, X, g, cs, W, tb, k, N, sc, C, tk, x, h => by cases x <;> simp [chk] at h
  | .rng es, X, g, cs, W, tb, k, N, sc, C, tk, x, h => by cases x <;> simp [chk] at h
  | .enum a, X, g, cs, W, tb, k, N, sc, C, tk, x, h => by cases x <;> simp [chk] at h
  | .zip a b, X, g, cs, W, tb, k, N, sc, C, tk, x, h => by cases x <;> simp [chk] at h
  | .rev a, X, g, cs, W, tb, k, N, sc, C, tk, x, h => by cases x <;> simp [chk] at h
termination_by e => sizeOf e
theorem snds : ∀ (es : List E) {X : Cx} {g : Gi} {cs : Cs} {W : WX} {tb : Nat → Ref} {k : Nat} {N : List Str} {sc : Scope}, Kn X g cs tb k N sc → Takes X W → ∀ (xs : List Expr), chks tb N sc es xs = true → Snds X g cs W es xs
  | [], X, g, cs, W, tb, k, N, sc, C, tk, xs, h => by
    cases xs with
    | nil => exact snds_nil
    | cons _ _ => simp [chks] at h
  | e :: es, X, g, cs, W, tb, k, N, sc, C, tk, xs, h => by
    cases xs with
    | nil => simp [chks] at h
    | cons x xs =>
      simp only [chks, Bool.and_eq_true] at h
      exact snds_cons (snd e C tk x h.1.1) h.1.2 (snds es C tk xs h.2)
termination_by e => sizeOf e
theorem sndo : ∀ (o : Option E) {X : Cx} {g : Gi} {cs : Cs} {W : WX} {tb : Nat → Ref} {k : Nat} {N : List Str} {sc : Scope}, Kn X g cs tb k N sc → Takes X W → ∀ (x : Option Expr), chko tb N sc o x = true → Sndo X g cs W o x
  | none, X, g, cs, W, tb, k, N, sc, C, tk, x, h => by
    cases x with
    | none => exact sndo_none
    | some _ => simp [chko] at h
  | some e, X, g, cs, W, tb, k, N, sc, C, tk, x, h => by
    cases x with
    | none => simp [chko] at h
    | some x => simp only [chko] at h; exact sndo_some (snd e C tk x h)
termination_by e => sizeOf e
theorem sndIfs : ∀ (o : Option E) {X : Cx} {g : Gi} {cs : Cs} {tb : Nat → Ref} {k : Nat} {N : List Str} {sc : Scope}, Kn X g cs tb k N sc → Takes X WF → ∀ (xs : List Expr), chkIfs tb N sc o xs = true → SndC X g cs o xs
  | none, X, g, cs, tb, k, N, sc, C, tk, xs, h => by
    cases xs with
    | nil => exact sndc_none
    | cons _ _ => simp [chkIfs] at h
  | some e, X, g, cs, tb, k, N, sc, C, tk, xs, h => by
    rcases xs with _ | ⟨x, _ | ⟨_, _⟩⟩ <;> first | (simp [chkIfs] at h; done) | skip
    simp only [chkIfs] at h
    exact sndc_some (snd e C tk x h)
termination_by e => sizeOf e
theorem sndAnd : ∀ (es : List E) {X : Cx} {g : Gi} {cs : Cs} {W : WX} {tb : Nat → Ref} {k : Nat} {N : List Str} {sc : Scope}, Kn X g cs tb k N sc → Takes X W → ∀ (xs : List Expr), es ≠ [] → chks tb N sc es xs = true → SndBo X g W .And xs (evAnd cs es)
  | [], X, g, cs, W, tb, k, N, sc, C, tk, xs, hn, h => absurd rfl hn
  | [e], X, g, cs, W, tb, k, N, sc, C, tk, xs, hn, h => by
    rcases xs with _ | ⟨x, _ | ⟨_, _⟩⟩ <;> first | (simp [chks] at h; done) | skip
    simp only [chks, Bool.and_eq_true] at h
    exact sndAnd_one (snd e C tk x h.1.1)
  | e :: f :: es, X, g, cs, W, tb, k, N, sc, C, tk, xs, hn, h => by
    rcases xs with _ | ⟨x, _ | ⟨y, ys⟩⟩ <;> first | (simp [chks] at h; done) | skip
    have h' := h
    simp only [chks, Bool.and_eq_true] at h'
    exact sndAnd_cons (snd e C tk x h'.1.1) (sndAnd (f :: es) C tk (y :: ys) (by simp) (by simp only [chks, Bool.and_eq_true]; exact h'.2))
termination_by e => sizeOf e
theorem sndOr : ∀ (es : List E) {X : Cx} {g : Gi} {cs : Cs} {W : WX} {tb : Nat → Ref} {k : Nat} {N : List Str} {sc : Scope}, Kn X g cs tb k N sc → Takes X W → ∀ (xs : List Expr), es ≠ [] → chks tb N sc es xs = true → SndBo X g W .Or xs (evOr cs es)
  | [], X, g, cs, W, tb, k, N, sc, C, tk, xs, hn, h => absurd rfl hn
  | [e], X, g, cs, W, tb, k, N, sc, C, tk, xs, hn, h => by
    rcases xs with _ | ⟨x, _ | ⟨_, _⟩⟩ <;> first | (simp [chks] at h; done) | skip
    simp only [chks, Bool.and_eq_true] at h
    exact sndOr_one (snd e C tk x h.1.1)
  | e :: f :: es, X, g, cs, W, tb, k, N, sc, C, tk, xs, hn, h => by
    rcases xs with _ | ⟨x, _ | ⟨y, ys⟩⟩ <;> first | (simp [chks] at h; done) | skip
    have h' := h
    simp only [chks, Bool.and_eq_true] at h'
    exact sndOr_cons (snd e C tk x h'.1.1) (sndOr (f :: es) C tk (y :: ys) (by simp) (by simp only [chks, Bool.and_eq_true]; exact h'.2))
termination_by e => sizeOf e
theorem sndI (e : E) {X : Cx} {g : Gi} {cs : Cs} {W : WX} {tb : Nat → Ref} {k : Nat} {N : List Str} {sc : Scope} (C : Kn X g cs tb k N sc) (tk : Takes X W) (x tg : Expr) (h : chkI tb N sc e x tg = true) : SndI X g cs W e x tg := by
  rcases chkI_inv h with ⟨a, he, h1⟩ | ⟨es, p, xs, pos, he, hx, h1, h2, h3⟩ | ⟨a, p, y, pos, he, hx, h0, h1, h2, h3⟩ | ⟨a, b, p, y, z, pos, he, hx, h0, h1, h2, h3, h4, h5⟩ | ⟨a, p, y, pos, he, hx, h1, h2, h3⟩
  · have := snd a C tk x h1
    rw [he]; exact snd_seq C this
  · have := snds es C tk xs h2
    rw [he, hx]; exact snd_rng C h1 h2 h3 this
  · have := snd a C tk y h2
    obtain ⟨_, _, _, h0⟩ := isTupE_of h0
    rw [he, hx, h0]; exact snd_enum C h1 h3 this
  · have r1 := snd a C tk y h2
    have r2 := snd b C tk z h4
    obtain ⟨_, _, _, h0⟩ := isTupE_of h0
    rw [he, hx, h0]; exact snd_zip C h1 h3 h5 r1 r2
  · have := snd a C tk y h2
    rw [he, hx]; exact snd_rev C h1 h3 this
termination_by sizeOf e
decreasing_by all_goals (subst he; simp <;> omega)
end
end Sm

/-! Statements are sound. -/
namespace Sm
open PySem PySem.Spec PyProof.Rows L2

/-! ### the check -/
def notComp : Expr → Bool
  | .ListComp _ _ _ _ => false
  | .SetComp _ _ _ _ => false
  | .DictComp _ _ _ _ _ => false
  | _ => true
def isNm : Expr → Bool
  | .Name _ _ => true
  | _ => false
/-- no pair of plain names is stored from a written pair -/
def swOk (t v : Expr) : Bool := match t, v with
  | .Tuple ts _ _, .Tuple _ _ _ => ts.all (fun e => !isNm e) && !ts.isEmpty
  | .List _ _, .Tuple _ _ _ => false
  | _, _ => true
def notCall : Expr → Bool
  | .Call _ _ _ _ => false
  | _ => true
def isTg : Expr → Bool
  | .Name _ _ => true
  | _ => false
mutual
def chkG (tb : Nat → Ref) (N : List Str) (sc : Scope) : G → Expr → Bool
  | .name i, .Name x _ => decide (N[i]? = some x) && lcB sc x
  | .tup gs, .Tuple xs _ _ => chkGs tb N sc gs xs
  | .sub o i, .Subscript x y _ => chk tb N sc o x && chk tb N sc i y
  | _, _ => false
def chkGs (tb : Nat → Ref) (N : List Str) (sc : Scope) : List G → List Expr → Bool
  | [], [] => true
  | g :: gs, x :: xs => chkG tb N sc g x && noStar x && chkGs tb N sc gs xs
  | _, _ => false
end
/-- a comprehension is stored at once -/
def swB (sc scope : Scope) (y : Str) (py pos : Pos) : Bool :=
  decide (sc.names.lookup y = some .local) && py.line == pos.line && !(scope.names.any fun (n, k) => n == y && (k == .local || k == .cell))
mutual
def chkS (tb : Nat → Ref) (N : List Str) (sc : Scope) : S → Stmt → Bool
  | .asg g e, .Assign [t] v _ => chkG tb N sc g t && chk tb N sc e v && swOk t v && noStar t
  | .exp e, .Expr v _ => chk tb N sc e v && notComp v
  | .ret e, .Return (some v) _ => chk tb N sc e v
  | .retN, .Return none _ => true
  | .iff c a b, .If x p q _ => chk tb N sc c x && chkSs tb N sc a p && chkSs tb N sc b q
  | .for tg one it body, .For t i p [] _ => chkT N sc (fun _ => true) tg one t && chkI tb N sc it i t && chkSs tb N sc body p && notSet i
  | .whl _ c body, .While x p [] _ => chk tb N sc c x && chkSs tb N sc body p
  | .app o e, .Expr (.Call (.Attribute x m ap) [y] [] cp) _ => decide (m = "append") && chk tb N sc o x && chk tb N sc e y && noStar y && decide (ap.endLine = cp.line) && notCall x
  | .pass, .Pass _ => true
  | .cont, .Continue _ => true
  | .brk, .Break _ => true
  | .never, _ => true
  | _, _ => false
def chkSs (tb : Nat → Ref) (N : List Str) (sc : Scope) : List S → List Stmt → Bool
  | [], [] => true
  | s :: ss, x :: xs => chkS tb N sc s x && chkSs tb N sc ss xs
  | _, _ => false
end

/-! ### what a statement asks -/
def SPost (g : Gi) (a : Vw) (W : WX) (D : Ends) : SR → Prop
  | .nx ρ h => ∀ σ b, Mono a b → HeapRel g b h → EnvR g b ρ σ → D.nx σ b.H
  | .rt d h => ∀ v b, Mono a b → HeapRel g b h → RepV g b d v → D.rt v b.H
  | .bk ρ h => ∀ σ b, Mono a b → HeapRel g b h → EnvR g b ρ σ → D.bk σ b.H
  | .ct ρ h => ∀ σ b, Mono a b → HeapRel g b h → EnvR g b ρ σ → D.ct σ b.H
  | .ex x ρ h => ∀ cls d σ b, Mono a b → HeapRel g b h → EnvR g b ρ σ → ExR g b x cls d → W cls d σ b.H
  | .stuck => False
theorem SPost.mono {g : Gi} {a b : Vw} {W : WX} {D : Ends} (mo : Mono a b) : ∀ {r : SR}, SPost g a W D r → SPost g b W D r
  | .nx ρ h, p => fun σ c m => p σ c (mo.trans m)
  | .rt ρ h, p => fun σ c m => p σ c (mo.trans m)
  | .bk ρ h, p => fun σ c m => p σ c (mo.trans m)
  | .ct ρ h, p => fun σ c m => p σ c (mo.trans m)
  | .ex x ρ h, p => fun cls d σ c m => p cls d σ c (mo.trans m)
  | .stuck, p => p
def GdS (g : Gi) (W : WX) (t : TS) (f : Env' → AH → SR) : Prop := ∀ a h ρ σ D, HeapRel g a h → EnvR g a ρ σ → SPost g a W D (f ρ h) → t D σ a.H
section
variable {X : Cx} {g : Gi} {cs : Cs} {W : WX} {tb : Nat → Ref} {k : Nat} {N : List Str} {sc : Scope}
theorem Gd.useS {α β : Type} {rep : Vw → α → β → Prop} {t : L2.St → Hp → (β → Hp → Prop) → Prop} {f : Env' → AH → R α} (ga : Gd g W rep t f)
    {a : Vw} {h : AH} {ρ : Env'} {σ : L2.St} (hr : HeapRel g a h) (er : EnvR g a ρ σ) {k : α → AH → SR} {D : Ends} (p : SPost g a W D ((f ρ h).sr ρ k)) {Q : β → Hp → Prop}
    (hk : ∀ d h1 v b, Mono a b → HeapRel g b h1 → EnvR g b ρ σ → rep b d v → SPost g b W D (k d h1) → Q v b.H) : t σ a.H Q := by
  refine ga a h ρ σ Q hr er ?_
  cases e : f ρ h with
  | ok d h1 =>
    rw [e] at p
    exact fun v b m hb rv => hk d h1 v b m hb (er.mono m) rv (p.mono m)
  | ex x h1 =>
    rw [e] at p
    exact fun cls d b m hb rx => p cls d σ b m hb (er.mono m) rx
  | stuck => rw [e] at p; exact p.elim
theorem GdB.useS {t : TT} {f : Env' → AH → R D} (ga : GdB g W t f)
    {a : Vw} {h : AH} {ρ : Env'} {σ : L2.St} (hr : HeapRel g a h) (er : EnvR g a ρ σ) {k : D → AH → SR} {D : Ends} (p : SPost g a W D ((f ρ h).sr ρ k)) {Q : Bool → Hp → Prop}
    (hk : ∀ d h1 b, Mono a b → HeapRel g b h1 → EnvR g b ρ σ → SPost g b W D (k d h1) → ∃ i, d = .bl i ∧ Q i b.H) : t σ a.H Q := by
  refine ga a h ρ σ Q hr er ?_
  cases e : f ρ h with
  | ok d h1 =>
    rw [e] at p
    intro v b m hb rv
    obtain ⟨i, rfl, q⟩ := hk d h1 b m hb (er.mono m) (p.mono m)
    cases rv.bl_inv
    exact ⟨i, rfl, q⟩
  | ex x h1 =>
    rw [e] at p
    exact fun cls d b m hb rx => p cls d σ b m hb (er.mono m) rx
  | stuck => rw [e] at p; exact p.elim
def SndS (X : Cx) (g : Gi) (cs : Cs) (W : WX) (s : S) (x : Stmt) : Prop := ∃ t, PS X x t ∧ GdS g W t (exS cs s)
def SndSs (X : Cx) (g : Gi) (cs : Cs) (W : WX) (s : List S) (x : List Stmt) : Prop := ∃ t, PSs X x t ∧ GdS g W t (exSs cs s)
/-! ### targets -/
def GdG (g : Gi) (W : WX) (t : TG) (f : D → Env' → AH → R Env') : Prop := ∀ a h d v ρ σ Q, HeapRel g a h → EnvR g a ρ σ → RepV g a d v → Post g a (fun b ρ σ => EnvR g b ρ σ) (fun c d H => W c d σ H) Q (f d ρ h) → t v σ a.H Q
def GdGs (g : Gi) (W : WX) (t : TGs) (f : List D → Env' → AH → R Env') : Prop := ∀ a h d v ρ σ Q, HeapRel g a h → EnvR g a ρ σ → RepVs g a d v → Post g a (fun b ρ σ => EnvR g b ρ σ) (fun c d H => W c d σ H) Q (f d ρ h) → t v σ a.H Q
theorem g_name (C : Kn X g cs tb k N sc) (hf : ∀ x, X.fn x = true) {i : Nat} {x : Expr} (h : chkG tb N sc (.name i) x = true) : ∃ t, PG X x t ∧ GdG g W t (asG cs (.name i)) := by
  cases x with
  | Name y p =>
    simp only [chkG, Bool.and_eq_true, decide_eq_true_eq] at h
    refine ⟨gName i, pg_name (by rw [C.eN]; exact C.nd) (by rw [C.eN]; exact h.1) (loc_of C.esc h.2) (.inl (hf y)), ?_⟩
    intro a hh d v ρ σ Q hr er rv q
    simp only [asG] at q
    exact q _ a (.refl a) hr (er.set rv)
  | _ => simp [chkG] at h
theorem noEx_post {a : Vw} {α β : Type} {rep : Vw → α → β → Prop} {W' : XW} {Q : β → Hp → Prop} {r : R α} (p : Post g a rep W' Q (noEx r)) : Post g a rep W' Q r := by
  cases r with
  | ok d h => exact p
  | ex x h => exact False.elim p
  | stuck => exact p
theorem g_sub {o i : E} {x y : Expr} {pos : Pos} (ho : Snd X g cs W o x) (hi : Snd X g cs W i y) (hy : chk tb N sc i y = true) : ∃ t, PG X (.Subscript x y pos) t ∧ GdG g W t (asG cs (.sub o i)) := by
  obtain ⟨⟨to, p1, g1⟩, _⟩ := ho
  obtain ⟨⟨ti, p2, g2⟩, _⟩ := hi
  have ha : ∀ v, assign (.Subscript x y pos) X.env v = (do
      let ov ← holding [v] (eval x X.env)
      let iv ← holding [v, ov] (eval y X.env)
      standAt pos
      holding [v, ov, iv] (setItem ov iv v)
      release [v, ov, iv] []) := by
    intro v
    cases y with
    | Slice l u st p => cases i <;> simp [chk] at hy
    | _ => rfl
  refine ⟨_, pg_sub p1 p2 set_list ha, ?_⟩
  intro a h d v ρ σ Q hr er rv q
  simp only [asG] at q
  refine g1.use hr er (noEx_post q) fun dx h1 vx b m hb eb rx q => ?_
  refine g2.use hb eb q fun di h2 vi c m2 hc ec ri q => ?_
  unfold setV at q
  split at q
  · rename_i n j
    obtain ⟨p, rfl, hp⟩ := (rx.mono m2).ref_inv
    cases ri.int_inv
    split at q
    · rename_i ds hds
      obtain ⟨vs, h3, h4⟩ := hc.rep _ _ p hds hp
      split at q
      · rename_i ds' hs
        simp only [Sm.setIx, Option.map_eq_some_iff] at hs
        obtain ⟨jj, hj, rfl⟩ := hs
        refine ⟨p, vs, _, jj, rfl, rfl, h3, by rw [h4.length]; exact hj, ?_⟩
        have mp : p ∈ c.m := List.mem_of_getElem? hp
        have mo := Mono.set (a := c) (.lst (vs.set jj v)) mp
        have rv2 := ((rv.mono m).mono m2)
        exact q _ (c.set p (.lst (vs.set jj v))) mo (.set hc hp ⟨_, rfl, (h4.set rv2).mono mo⟩) (ec.mono mo)
      · exact q.elim
    · exact q.elim
  · exact q.elim
theorem asGs_nx : ∀ (ts : List G) (ds : List D) (ρ : Env') (h : AH) (e : Exn) (h' : AH), asGs cs ts ds ρ h ≠ .ex e h'
  | [], [], ρ, h, e, h' => by simp [asGs]
  | [], _ :: _, ρ, h, e, h' => by simp [asGs]
  | _ :: _, [], ρ, h, e, h' => by simp [asGs]
  | t :: ts, d :: ds, ρ, h, e, h' => by
    simp only [asGs]
    split
    · exact asGs_nx ts ds _ _ e h'
    · simp
mutual
theorem sndG : ∀ (t : G) {X : Cx} {g : Gi} {cs : Cs} {W : WX} {tb : Nat → Ref} {k : Nat} {N : List Str} {sc : Scope}, Kn X g cs tb k N sc → Takes X W → (∀ x, X.fn x = true) → ∀ (x : Expr), chkG tb N sc t x = true → ∃ u, PG X x u ∧ GdG g W u (asG cs t)
  | .name i, X, g, cs, W, tb, k, N, sc, C, tk, hf, x, h => g_name C hf h
  | .sub o i, X, g, cs, W, tb, k, N, sc, C, tk, hf, x, h => by
    cases x with
    | Subscript y z p =>
      simp only [chkG, Bool.and_eq_true] at h
      exact g_sub (snd o C tk y h.1) (snd i C tk z h.2) h.2
    | _ => simp [chkG] at h
  | .tup gs, X, g, cs, W, tb, k, N, sc, C, tk, hf, x, h => by
    cases x with
    | Tuple ys kk p =>
      simp only [chkG] at h
      obtain ⟨t, p1, g1, l1, l2⟩ := sndGs gs C tk hf ys h
      refine ⟨_, pg_tup C.calm p1 l1 l2, ?_⟩
      intro a h d v ρ σ Q hr er rv q
      simp only [asG] at q
      split at q
      · rename_i ds
        obtain ⟨p, vs, rfl, _, h1, r2⟩ := rv.tup_inv
        refine ⟨p, vs, rfl, SqT.of h1, ?_, g1.1 a h ds vs ρ σ Q hr er r2 q⟩
        cases e : asGs cs gs ds ρ h with
        | ok _ _ => rw [r2.length]; exact g1.2 ds ρ h (by rw [e]; simp)
        | ex _ _ => rw [r2.length]; exact g1.2 ds ρ h (by rw [e]; simp)
        | stuck => rw [e] at q; exact q.elim
      · exact q.elim
    | _ => simp [chkG] at h
theorem sndGs : ∀ (t : List G) {X : Cx} {g : Gi} {cs : Cs} {W : WX} {tb : Nat → Ref} {k : Nat} {N : List Str} {sc : Scope}, Kn X g cs tb k N sc → Takes X W → (∀ x, X.fn x = true) → ∀ (xs : List Expr), chkGs tb N sc t xs = true →
    ∃ u, PGs X xs u ∧ (GdGs g W u (asGs cs t) ∧ ∀ ds ρ h, asGs cs t ds ρ h ≠ .stuck → ds.length = t.length) ∧ (assignEach xs X.env).length = t.length ∧ (assignEach xs X.env).findIdx? (·.1) = none
  | [], X, g, cs, W, tb, k, N, sc, C, tk, hf, xs, h => by
    cases xs with
    | nil =>
      refine ⟨gNil, pgs_nil, ⟨?_, fun ds ρ h z => ?_⟩, rfl, rfl⟩
      · intro a h d v ρ σ Q hr er rv q
        cases d with
        | nil =>
          simp only [RepVs] at rv; subst rv
          simp only [asGs] at q
          exact ⟨rfl, q σ a (.refl a) hr er⟩
        | cons _ _ => simp only [asGs] at q; exact q.elim
      · cases ds with
        | nil => rfl
        | cons _ _ => simp only [asGs] at z; exact absurd rfl z
    | cons _ _ => simp [chkGs] at h
  | t :: ts, X, g, cs, W, tb, k, N, sc, C, tk, hf, xs, h => by
    cases xs with
    | nil => simp [chkGs] at h
    | cons x xs =>
      simp only [chkGs, Bool.and_eq_true] at h
      obtain ⟨⟨hx, hs⟩, hxs⟩ := h
      obtain ⟨u, p1, g1⟩ := sndG t C tk hf x hx
      obtain ⟨us, p2, ⟨g2, gl⟩, l1, l2⟩ := sndGs ts C tk hf xs hxs
      have ha : assignEach (x :: xs) X.env = (false, assign x X.env) :: assignEach xs X.env := by
        cases x <;> first | rfl | (simp [noStar] at hs)
      refine ⟨gCons u us, pgs_cons p1 p2 (by rw [ha]; rfl), ⟨?_, fun ds ρ h z => ?_⟩, by rw [ha]; simp [l1], by rw [ha, List.findIdx?_cons]; simp [l2]⟩
      · intro a h d v ρ σ Q hr er rv q
        cases d with
        | nil => simp only [asGs] at q; exact q.elim
        | cons d ds =>
          simp only [RepVs] at rv
          obtain ⟨w, ws, rfl, r1, r2⟩ := rv
          refine ⟨w, ws, rfl, ?_⟩
          simp only [asGs] at q
          refine g1 a h d w ρ σ _ hr er r1 ?_
          cases e : asG cs t d ρ h with
          | ok ρ' h1 =>
            rw [e] at q
            intro σ' b m hb eb
            exact g2 b h1 ds ws ρ' σ' Q hb eb (r2.mono m) (wimp (asGs_nx ts ds ρ' h1) (q.mono m) _)
          | ex _ _ => rw [e] at q; exact q.elim
          | stuck => rw [e] at q; exact q.elim
      · cases ds with
        | nil => simp only [asGs] at z; exact absurd rfl z
        | cons d ds =>
          simp only [asGs] at z
          cases e : asG cs t d ρ h with
          | ok ρ' h1 => rw [e] at z; simp [gl ds ρ' h1 z]
          | ex _ _ => rw [e] at z; exact absurd rfl z
          | stuck => rw [e] at z; exact absurd rfl z
end
end
end Sm

/-! Statements are sound: the proof by the text. -/
namespace Sm
open PySem PySem.Spec PyProof.Rows L2
theorem swaps_no {t v : Expr} {l : Nat} {env : Env} (h : notComp v = true) : swapsWithSole [t] v l env = pure false := by
  cases v <;> first | rfl | (simp [notComp] at h)
theorem swaps_sub {t v : Expr} {l : Nat} {env : Env} (h : isTg t = false) : swapsWithSole [t] v l env = pure false := by
  show swapsWith v (some t) l env = pure false
  unfold swapsWith
  cases v <;> first | rfl | (cases t <;> first | rfl | (simp [isTg] at h))
theorem swaps_no2 {t : Option Expr} {v : Expr} {l : Nat} {env : Env} (h : notComp v = true) : swapsWith v t l env = pure false := by
  cases v <;> first | rfl | (simp [notComp] at h)
theorem swapped_no {t v : Expr} {env : Env} (h : swOk t v = true) : swappedStores [t] v env = pure none := by
  have two : ∀ ts vs k k2 p p2, t = .Tuple ts k p → v = .Tuple vs k2 p2 → swappedStores [t] v env = pure none := by
    rintro ts vs k k2 p p2 rfl rfl
    simp only [swOk, Bool.and_eq_true, Bool.not_eq_true'] at h
    obtain ⟨h1, h2⟩ := h
    unfold swappedStores
    dsimp only
    have fm : ∀ f : Expr → Option Str, (∀ e, isNm e = false → f e = none) → ts.filterMap f = [] := fun f hf => by
      rw [List.filterMap_eq_nil_iff]
      intro a ha
      have := List.all_eq_true.mp h1 a ha
      exact hf a (by simpa using this)
    rw [fm _ (fun e he => by cases e <;> first | rfl | (simp [isNm] at he))]
    have hl : (([] : List Str).length != ts.length) = true := by
      cases ts with
      | nil => simp at h2
      | cons _ _ => rfl
    split
    · rfl
    · split
      · rfl
      · rw [hl]; rfl
  cases t with
  | Tuple ts k p =>
    cases v with
    | Tuple vs k2 p2 => exact two _ _ _ _ _ _ rfl rfl
    | _ => rfl
  | List ts p =>
    cases v with
    | Tuple vs k2 p2 => simp [swOk] at h
    | _ => rfl
  | _ => rfl
theorem swaps_comp {elt : Expr} {gs : List Comprehension} {scope : Scope} {pos py : Pos} {y : Str} {l : Nat} {env : Env} (hk : env.scope.kind = .function) :
    swapsWith (.ListComp elt gs scope pos) (some (.Name y py)) l env = pure (swB env.scope scope y py pos) := by
  have hb : env.blockKind = .function := by unfold Env.blockKind; rw [hk]; rfl
  have e1 : (env.kindOf y == some NameKind.local) = decide (env.scope.names.lookup y = some .local) := by
    show (env.scope.names.lookup y == some NameKind.local) = _
    by_cases h : env.scope.names.lookup y = some .local
    · rw [h]; rfl
    · rw [decide_eq_false h]; simpa using h
  unfold swapsWith swB
  simp only [hb, e1, Expr.pos]
  rfl
section
variable {X : Cx} {g : Gi} {cs : Cs} {W : WX} {tb : Nat → Ref} {k : Nat} {N : List Str} {sc : Scope}
/-- what a body's statements lean on besides -/
structure Kb (X : Cx) : Prop where
  fn : ∀ x, X.fn x = true
  kind : X.env.scope.kind = .function
  po : PassesOwn (model X.prog X.w) X.A X.env X.xe
theorem comp_parts (C : Kn X g cs tb k N sc) (tk : Takes X W) {cell : Bool} {it : E} {tg : List Nat} {one : Bool} {cond : Option E} {elt : E} {own : List (Str × Nat)} {x : Expr} (h : chk tb N sc (.comp cell it tg one cond elt own) x = true) :
    ∃ el te ie ifs scope pos wi, x = .ListComp el [⟨te, ie, ifs, 0⟩] scope pos ∧ CompP X g cs W it tg one cond elt own el te ie ifs scope wi := by
  cases x with
  | ListComp el gens scope pos =>
    rcases gens with _ | ⟨⟨te, ie, ifs, kk⟩, _ | ⟨_, _⟩⟩ <;> first | (simp [chk] at h; done) | skip
    simp only [chk, Bool.and_eq_true, decide_eq_true_eq] at h
    obtain ⟨⟨⟨⟨⟨⟨⟨rfl, h1⟩, h2⟩, h3⟩, h4⟩, h5⟩, h6⟩, h7⟩ := h
    obtain ⟨wi, p1, g1⟩ := sndI it C tk ie te h2
    exact ⟨el, te, ie, ifs, scope, pos, wi, rfl, p1, by rw [C.eN, C.esc]; exact blkOk_by h1, fun s H C' cl fp => by
        obtain ⟨t, q1, q2⟩ := target_ok (g := g) (C.blk s H scope C' cl fp).eN C.nd (C.blk s H scope C' cl fp).esc C.calm (fnB := fun x => scope.names.lookup x == some .cell) (fun x hx => hx) h3
        exact cG_pg q1 q2,
      fun s H C' cl fp => cC_pt (sndIfs cond (C.blk s H scope C' cl fp) takes0 ifs h5),
      fun s H C' cl fp => cE_pe (snd elt (C.blk s H scope C' cl fp) takes0 el h6), g1, h4, h7⟩
  | _ => simp [chk] at h
theorem s_asg_comp (C : Kn X g cs tb k N sc) (B : Kb X) (tk : Takes X W) {i : Nat} {cell : Bool} {it : E} {tg : List Nat} {one : Bool} {cond : Option E} {elt : E} {own : List (Str × Nat)} {y : Str} {py pos : Pos} {v : Expr}
    (hg : chkG tb N sc (.name i) (.Name y py) = true) (hv : chk tb N sc (.comp cell it tg one cond elt own) v = true) : SndS X g cs W (.asg (.name i) (.comp cell it tg one cond elt own)) (.Assign [.Name y py] v pos) := by
  obtain ⟨el, te, ie, ifs, scope, cpos, wi, rfl, P⟩ := comp_parts C tk hv
  simp only [chkG, Bool.and_eq_true, decide_eq_true_eq] at hg
  have hN : X.N[i]? = some y := by rw [C.eN]; exact hg.1
  have nd : X.N.Nodup := by rw [C.eN]; exact C.nd
  have lo := loc_of C.esc hg.2
  have gd : GdS g W (tAsg (tLc wi (cG g tg one) (cC g (evc cs cond)) (cE g WF (ev cs elt false)) (own.map (·.2))) (gName i)) (exS cs (.asg (.name i) (.comp cell it tg one cond elt own))) := by
    have g1 := comp_gd (cell := cell) (one := one) (cond := cond) (elt := elt) P.gd (cG_gd (g := g) (tg := tg) (one := one)) (cC_gd (F := evc cs cond)) (cE_gd (W := WF) (F := ev cs elt false))
    rw [P.tg] at g1
    intro a h ρ σ D hr er q
    simp only [exS, ev_comp, tr, Bool.false_eq_true, if_false, asG, R.sr_ok] at q
    rw [← P.tg] at q
    rw [← P.tg] at g1
    rw [← P.tg]
    exact g1.useS hr er q fun d h1 v b m hb eb rv q => q _ b (.refl b) hb (eb.set rv)
  have sw := swaps_comp (elt := el) (gs := [⟨te, ie, ifs, 0⟩]) (scope := scope) (pos := cpos) (py := py) (y := y) (l := pos.line) B.kind
  cases hs : swB X.env.scope scope y py cpos with
  | true =>
    rw [hs] at sw
    have hl : X.env.scope.names.lookup y = some .local := by
      unfold swB at hs
      simp only [Bool.and_eq_true, decide_eq_true_eq] at hs
      exact hs.1.1
    exact ⟨_, ps_setLc C.calm nd hN hl sw P.pi P.ok P.hg P.ht P.he (noset_fold P.ns _), gd⟩
  | false =>
    rw [hs] at sw
    exact ⟨_, ps_set nd hN lo (pe_lc C.calm nd P.pi P.ok P.hg P.ht P.he (noset_fold P.ns _)) sw (.inl (B.fn y)), gd⟩
theorem s_asg (C : Kn X g cs tb k N sc) (B : Kb X) (tk : Takes X W) {t : G} {e : E} {x v : Expr} {pos : Pos} (h1 : chkG tb N sc t x = true) (h2 : chk tb N sc e v = true) (h3 : swOk x v = true) (h5 : noStar x = true) : SndS X g cs W (.asg t e) (.Assign [x] v pos) := by
  by_cases hc : notComp v = true ∨ isTg x = false
  · have hsw : swapsWithSole [x] v pos.line X.env = pure false := hc.elim swaps_no swaps_sub
    obtain ⟨u, p1, g1⟩ := sndG t C tk B.fn x h1
    obtain ⟨⟨te, p2, g2⟩, _⟩ := snd e C tk v h2
    have ha : (assignEach [x] X.env).map (·.2) = [assign x X.env] := by cases x <;> first | rfl | (simp [noStar] at h5)
    refine ⟨_, ps_asg p2 p1 hsw (swapped_no h3) ha, ?_⟩
    intro a h ρ σ D hr er q
    simp only [exS] at q
    refine g2.useS hr er q fun d h1 v b m hb eb rv q => ?_
    refine g1 b h1 d v ρ σ _ hb eb rv ?_
    cases e1 : asG cs t d ρ h1 with
    | ok ρ' h2 => rw [e1] at q; exact fun σ' c mc hc ec => q σ' c mc hc ec
    | ex _ _ => rw [e1] at q; exact fun cls d c mc hc rx => q cls d σ c mc hc (eb.mono mc) rx
    | stuck => rw [e1] at q; exact q.elim
  · have hn : isTg x = true := by cases h : isTg x with | true => rfl | false => exact absurd (.inr h) hc
    cases x with
    | Name y py =>
      cases t with
      | name i =>
        cases v with
        | ListComp el gens scope cpos =>
          cases e with
          | comp cell it tg one cond elt own => exact s_asg_comp C B tk h1 h2
          | _ => simp [chk] at h2
        | SetComp _ _ _ _ => cases e <;> simp [chk] at h2
        | DictComp _ _ _ _ _ => cases e <;> simp [chk] at h2
        | _ => exact absurd (.inl rfl) hc
      | _ => simp [chkG] at h1
    | _ => simp [isTg] at hn
theorem s_app (C : Kn X g cs tb k N sc) (tk : Takes X W) {o e : E} {x y : Expr} {ap cp pos : Pos} (h1 : chk tb N sc o x = true) (h2 : chk tb N sc e y = true) (hy : noStar y = true) (hl : ap.endLine = cp.line) (hn : notCall x = true) :
    SndS X g cs W (.app o e) (.Expr (.Call (.Attribute x "append" ap) [y] [] cp) pos) := by
  obtain ⟨⟨to, p1, g1⟩, _⟩ := snd o C tk x h1
  obtain ⟨⟨te, p2, g2⟩, _⟩ := snd e C tk y h2
  have hb : attributeBase x "append" X.env (eval x X.env) = eval x X.env := by cases x <;> first | rfl | (simp [notCall] at hn)
  refine ⟨_, ps_expr (pe_bm PySem.F.plainAttrs_list PySem.F.slot_list_append PySem.F.type_list_append mt_append p1 (pa_cons p2 pa_nil (star_cons hy)) hb (by rw [star_cons hy]; rfl) (by rw [hl]; simp) (star_cons hy) rfl) rfl, ?_⟩
  intro a h ρ σ D hr er q
  simp only [exS] at q
  refine g1.useS hr er q fun dx h1 vx b m hb eb rx q => ?_
  split at q
  · rename_i hs
    obtain ⟨ds0, hd0⟩ := Option.isSome_iff_exists.mp hs
    obtain ⟨p0, vs0, rfl, hp0, r0⟩ := lst_rep hb rx hd0
    refine ⟨.inl ⟨rfl, _, SqL.of hp0⟩, ?_⟩
    refine g2.useS hb eb q fun d h2 v c m2 hc ec rv q => ?_
    unfold appV at q
    split at q
    · obtain ⟨p, hpe, hp⟩ := (rx.mono m2).ref_inv
      cases hpe
      split at q
      · rename_i ds hds
        obtain ⟨vs, h3, h4⟩ := hc.rep _ _ p0 hds hp
        split at q
        · rename_i hlen
          have mp : p0 ∈ c.m := List.mem_of_getElem? hp
          have mo := Mono.set (a := c) (.lst (vs ++ [v])) mp
          exact ⟨p0, vs, v, rfl, rfl, h3, by rw [h4.length]; exact lim_lt hlen, q _ (c.set p0 (.lst (vs ++ [v]))) mo (.set hc hp ⟨_, rfl, (h4.append (.cons rv .nil)).mono mo⟩) (ec.mono mo)⟩
        · exact q.elim
      · exact q.elim
    · exact q.elim
  · exact q.elim
/-! ### blocks, tests, loops -/
theorem ss_nil : SndSs X g cs W [] [] := ⟨_, pss_nil, fun a h ρ σ D hr er q => by
  simp only [exSs] at q
  exact q σ a (.refl a) hr er⟩
theorem ss_cons {s : S} {ss : List S} {x : Stmt} {xs : List Stmt} (h1 : SndS X g cs W s x) (h2 : SndSs X g cs W ss xs) : SndSs X g cs W (s :: ss) (x :: xs) := by
  obtain ⟨t, p1, g1⟩ := h1
  obtain ⟨u, p2, g2⟩ := h2
  refine ⟨_, pss_cons p1 p2, ?_⟩
  intro a h ρ σ D hr er q
  simp only [exSs] at q
  refine g1 a h ρ σ _ hr er ?_
  cases e : exS cs s ρ h with
  | nx ρ' h' => rw [e] at q; exact fun σ' b m hb eb => g2 b h' ρ' σ' D hb eb (q.mono m)
  | rt d h' => rw [e] at q; exact q
  | bk ρ' h' => rw [e] at q; exact q
  | ct ρ' h' => rw [e] at q; exact q
  | ex x ρ' h' => rw [e] at q; exact q
  | stuck => rw [e] at q; exact q
theorem s_if {c : E} {a b : List S} {x : Expr} {p q : List Stmt} {pos : Pos} (hc : Snd X g cs W c x) (ha : SndSs X g cs W a p) (hb : SndSs X g cs W b q) : SndS X g cs W (.iff c a b) (.If x p q pos) := by
  obtain ⟨_, ⟨tc, p1, g1⟩⟩ := hc
  obtain ⟨t, p2, g2⟩ := ha
  obtain ⟨u, p3, g3⟩ := hb
  refine ⟨_, ps_if p1 p2 p3, ?_⟩
  intro a1 h ρ σ D hr er r
  simp only [exS] at r
  refine g1.useS hr er r fun d h1 b1 m hb eb r => ?_
  split at r
  · refine ⟨true, rfl, ?_⟩
    rw [if_pos rfl]
    exact g2 b1 h1 ρ σ D hb eb r
  · refine ⟨false, rfl, ?_⟩
    rw [if_neg Bool.false_ne_true]
    exact g3 b1 h1 ρ σ D hb eb r
  · exact r.elim
theorem whlGo_succ {c : Env' → AH → R D} {f : Env' → AH → SR} {n : Nat} {ρ : Env'} {h : AH} : whlGo c f (n + 1) ρ h = (c ρ h).sr ρ fun d h => match d with
      | .bl true => (match f ρ h with
        | .nx ρ h => whlGo c f n ρ h
        | .ct ρ h => whlGo c f n ρ h
        | .bk ρ h => .nx ρ h
        | r => r)
      | .bl false => .nx ρ h
      | _ => .stuck := by rw [whlGo] <;> rfl
theorem s_whl (B : Kb X) {n : Nat} {c : E} {body : List S} {x : Expr} {p : List Stmt} {pos : Pos} (hc : Snd X g cs W c x) (hb : SndSs X g cs W body p) : SndS X g cs W (.whl n c body) (.While x p [] pos) := by
  obtain ⟨_, ⟨tc, p1, g1⟩⟩ := hc
  obtain ⟨t, p2, g2⟩ := hb
  refine ⟨_, ps_while B.po p1 p2, ?_⟩
  intro a h ρ σ D hr er r
  simp only [exS] at r
  refine ⟨fun m σ H => ∃ b hh ρ, b.H = H ∧ HeapRel g b hh ∧ EnvR g b ρ σ ∧ SPost g b W { nx := D.nx, rt := D.rt, bk := D.bk, ct := D.ct } (whlGo (ev cs c true) (exSs cs body) m ρ hh), ⟨n, a, h, ρ, rfl, hr, er, r⟩, ?_⟩
  rintro m σ1 H1 ⟨b, hh, ρ1, rfl, hrb, erb, q⟩
  cases m with
  | zero => exact q.elim
  | succ m =>
    rw [whlGo_succ] at q
    refine g1.useS hrb erb q fun d h1 c1 m1 hc1 ec1 q => ?_
    split at q
    · refine ⟨true, rfl, ?_⟩
      rw [if_pos rfl]
      refine ⟨fun σ' H' => ∃ b hh ρ, b.H = H' ∧ HeapRel g b hh ∧ EnvR g b ρ σ' ∧ SPost g b W { nx := D.nx, rt := D.rt, bk := D.bk, ct := D.ct } (whlGo (ev cs c true) (exSs cs body) m ρ hh), fun σ' H' hw => ⟨m, Nat.lt_succ_self m, hw⟩, ?_⟩
      refine g2 c1 h1 ρ1 σ1 _ hc1 ec1 ?_
      cases e : exSs cs body ρ1 h1 with
      | nx ρ' h' => rw [e] at q; exact fun σ' b m hb eb => ⟨b, h', ρ', rfl, hb, eb, q.mono m⟩
      | ct ρ' h' => rw [e] at q; exact fun σ' b m hb eb => ⟨b, h', ρ', rfl, hb, eb, q.mono m⟩
      | rt d h' => rw [e] at q; exact q
      | bk ρ' h' => rw [e] at q; exact q
      | ex x ρ' h' => rw [e] at q; exact q
      | stuck => rw [e] at q; exact q
    · refine ⟨false, rfl, ?_⟩
      rw [if_neg Bool.false_ne_true]
      exact q _ c1 (.refl c1) hc1 ec1
    · exact q.elim
open Classical in
theorem forGo_cons {it : Sm.Itr} {all : List D} {f : D → Env' → AH → SR} {d : D} {ds : List D} {ρ : Env'} {h : AH} : forGo it all f (d :: ds) ρ h = if it.items h = some all then
      (match f d ρ h with
      | .nx ρ h => forGo it all f ds ρ h
      | .ct ρ h => forGo it all f ds ρ h
      | .bk ρ h => .nx ρ h
      | r => r)
    else .stuck := by rw [forGo] <;> rfl
open Classical in
theorem forGo_nil {it : Sm.Itr} {all : List D} {f : D → Env' → AH → SR} {ρ : Env'} {h : AH} : forGo it all f [] ρ h = if it.items h = some all then .nx ρ h else .stuck := by rw [forGo] <;> rfl
theorem s_for (C : Kn X g cs tb k N sc) (B : Kb X) (tk : Takes X W) {tg : List Nat} {one : Bool} {it : E} {body : List S} {t i : Expr} {p : List Stmt} {pos : Pos} (h1 : chkT N sc (fun _ => true) tg one t = true) (h2 : chkI tb N sc it i t = true) (h3 : notSet i = true) (hb : SndSs X g cs W body p) :
    SndS X g cs W (.for tg one it body) (.For t i p [] pos) := by
  obtain ⟨wi, p1, g1⟩ := sndI it C tk i t h2
  obtain ⟨gT, p2, g2⟩ := target_ok (g := g) C.eN C.nd C.esc C.calm (fun x _ => B.fn x) h1
  obtain ⟨tb', p3, g3⟩ := hb
  refine ⟨_, ps_for B.po C.calm p1 p2 p3 (noset_fold h3 _), ?_⟩
  intro a h ρ σ D hr er r
  simp only [exS] at r
  refine g1.useS hr er r fun I h1 J b m hb eb hJ q => ?_
  split at q
  · exact q.elim
  rename_i all hall
  generalize hF : (fun d ρ h => match bindT tg one d ρ with | some ρ => exSs cs body ρ h | none => SR.stuck) = F at q
  refine ⟨fun i m σ H => m = all.length - i ∧ i ≤ all.length ∧ ∃ c hh ρ, c.H = H ∧ Mono b c ∧ HeapRel g c hh ∧ EnvR g c ρ σ ∧ SPost g c W { nx := D.nx, rt := D.rt, bk := D.bk, ct := D.ct } (forGo I all F (all.drop i) ρ hh),
    ⟨all.length, by simp, Nat.zero_le _, b, h1, ρ, rfl, .refl b, hb, eb, by simpa using q⟩, ?_⟩
  rintro i m σ1 H1 ⟨rfl, hi, c, hh, ρ1, rfl, mo, hrc, erc, q⟩
  by_cases hlt : i < all.length
  · right
    rw [List.drop_eq_getElem_cons hlt, forGo_cons] at q
    by_cases hit : I.items hh = some all
    · rw [if_pos hit] at q
      obtain ⟨go, hy⟩ := (hJ c hh all mo hrc hit i).1 all[i] (List.getElem?_eq_getElem hlt)
      refine ⟨go, fun σ' H' => i + 1 ≤ all.length ∧ ∃ c hh ρ, c.H = H' ∧ Mono b c ∧ HeapRel g c hh ∧ EnvR g c ρ σ' ∧ SPost g c W { nx := D.nx, rt := D.rt, bk := D.bk, ct := D.ct } (forGo I all F (all.drop (i + 1)) ρ hh), fun σ' H' hN => ⟨all.length - (i + 1), by omega, rfl, hN⟩, ?_⟩
      intro x H' hx
      obtain ⟨e, me, rfl, hre, rx⟩ := hy x H' hx
      cases hbd : bindT tg one all[i] ρ1 with
      | none =>
        have : F all[i] ρ1 hh = .stuck := by rw [← hF]; simp only [hbd]
        rw [this] at q; exact q.elim
      | some ρ' =>
        have hFe : F all[i] ρ1 hh = exSs cs body ρ' hh := by rw [← hF]; simp only [hbd]
        refine g2 e all[i] x ρ1 ρ' σ1 _ rx (erc.mono me) hbd fun σ2 e2 _ _ => ?_
        refine g3 e hh ρ' σ2 _ hre e2 ?_
        rw [hFe] at q
        have q := q.mono me
        cases ex : exSs cs body ρ' hh with
        | nx ρ3 h3 => rw [ex] at q; exact fun σ' b1 m1 hb1 eb1 => ⟨hlt, b1, h3, ρ3, rfl, (mo.trans me).trans m1, hb1, eb1, q.mono m1⟩
        | ct ρ3 h3 => rw [ex] at q; exact fun σ' b1 m1 hb1 eb1 => ⟨hlt, b1, h3, ρ3, rfl, (mo.trans me).trans m1, hb1, eb1, q.mono m1⟩
        | rt d h' => rw [ex] at q; exact q
        | bk ρ' h' => rw [ex] at q; exact q
        | ex x ρ' h' => rw [ex] at q; exact q
        | stuck => rw [ex] at q; exact q
    · rw [if_neg hit] at q; exact q.elim
  · left
    obtain rfl : i = all.length := by omega
    rw [List.drop_length, forGo_nil] at q
    by_cases hit : I.items hh = some all
    · rw [if_pos hit] at q
      exact ⟨(hJ c hh all mo hrc hit all.length).2 (Nat.le_refl _), q σ1 c (.refl c) hrc erc⟩
    · rw [if_neg hit] at q; exact q.elim
end
mutual
theorem sndS : ∀ (s : S) {X : Cx} {g : Gi} {cs : Cs} {W : WX} {tb : Nat → Ref} {k : Nat} {N : List Str} {sc : Scope}, Kn X g cs tb k N sc → Kb X → Takes X W → ∀ (x : Stmt), chkS tb N sc s x = true → SndS X g cs W s x
  | .asg t e, X, g, cs, W, tb, k, N, sc, C, B, tk, x, h => by
    cases x with
    | Assign ts v pos =>
      rcases ts with _ | ⟨t1, _ | ⟨_, _⟩⟩ <;> first | (simp [chkS] at h; done) | skip
      simp only [chkS, Bool.and_eq_true] at h
      exact s_asg C B tk h.1.1.1 h.1.1.2 h.1.2 h.2
    | _ => simp [chkS] at h
  | .exp e, X, g, cs, W, tb, k, N, sc, C, B, tk, x, h => by
    cases x with
    | Expr v pos =>
      simp only [chkS, Bool.and_eq_true] at h
      obtain ⟨⟨te, p1, g1⟩, _⟩ := snd e C tk v h.1
      exact ⟨_, ps_expr p1 (swaps_no2 h.2), fun a hh ρ σ D hr er q => by
        simp only [exS] at q
        exact g1.useS hr er q fun d h1 v b m hb eb rv q => q σ b (.refl b) hb eb⟩
    | _ => simp [chkS] at h
  | .ret e, X, g, cs, W, tb, k, N, sc, C, B, tk, x, h => by
    cases x with
    | Return v pos =>
      cases v with
      | none => simp [chkS] at h
      | some v =>
        simp only [chkS] at h
        obtain ⟨⟨te, p1, g1⟩, _⟩ := snd e C tk v h
        exact ⟨_, ps_ret p1, fun a hh ρ σ D hr er q => by
          simp only [exS] at q
          exact g1.useS hr er q fun d h1 v b m hb eb rv q => q v b (.refl b) hb rv⟩
    | _ => simp [chkS] at h
  | .retN, X, g, cs, W, tb, k, N, sc, C, B, tk, x, h => by
    cases x with
    | Return v pos =>
      cases v with
      | none => exact ⟨_, ps_retN, fun a hh ρ σ D hr er q => by
          simp only [exS] at q
          exact q .non a (.refl a) hr .non⟩
      | some v => simp [chkS] at h
    | _ => simp [chkS] at h
  | .iff c a b, X, g, cs, W, tb, k, N, sc, C, B, tk, x, h => by
    cases x with
    | If y p q pos =>
      simp only [chkS, Bool.and_eq_true] at h
      exact s_if (snd c C tk y h.1.1) (sndSs a C B tk p h.1.2) (sndSs b C B tk q h.2)
    | _ => simp [chkS] at h
  | .for tg one it body, X, g, cs, W, tb, k, N, sc, C, B, tk, x, h => by
    cases x with
    | For t i p oe pos =>
      cases oe with
      | nil =>
        simp only [chkS, Bool.and_eq_true] at h
        exact s_for C B tk h.1.1.1 h.1.1.2 h.2 (sndSs body C B tk p h.1.2)
      | cons _ _ => simp [chkS] at h
    | _ => simp [chkS] at h
  | .whl n c body, X, g, cs, W, tb, k, N, sc, C, B, tk, x, h => by
    cases x with
    | While y p oe pos =>
      cases oe with
      | nil =>
        simp only [chkS, Bool.and_eq_true] at h
        exact s_whl B (snd c C tk y h.1) (sndSs body C B tk p h.2)
      | cons _ _ => simp [chkS] at h
    | _ => simp [chkS] at h
  | .app o e, X, g, cs, W, tb, k, N, sc, C, B, tk, x, h => by
    cases x with
    | Expr v pos =>
      cases v with
      | Call f ys kws cp =>
        cases f with
        | Attribute y m ap =>
          rcases ys with _ | ⟨z, _ | ⟨_, _⟩⟩ <;> rcases kws with _ | ⟨_, _⟩ <;> first | (simp [chkS] at h; done) | skip
          simp only [chkS, Bool.and_eq_true, decide_eq_true_eq] at h
          obtain ⟨⟨⟨⟨⟨rfl, h1⟩, h2⟩, h3⟩, h4⟩, h5⟩ := h
          exact s_app C tk h1 h2 h3 h4 h5
        | _ => simp [chkS] at h
      | _ => simp [chkS] at h
    | _ => simp [chkS] at h
  | .pass, X, g, cs, W, tb, k, N, sc, C, B, tk, x, h => by
    cases x with
    | Pass pos => exact ⟨_, ps_pass, fun a hh ρ σ D hr er q => by
        simp only [exS] at q
        exact q σ a (.refl a) hr er⟩
    | _ => simp [chkS] at h
  | .cont, X, g, cs, W, tb, k, N, sc, C, B, tk, x, h => by
    cases x with
    | Continue pos => exact ⟨_, ps_continue, fun a hh ρ σ D hr er q => by
        simp only [exS] at q
        exact q σ a (.refl a) hr er⟩
    | _ => simp [chkS] at h
  | .brk, X, g, cs, W, tb, k, N, sc, C, B, tk, x, h => by
    cases x with
    | Break pos => exact ⟨_, ps_break, fun a hh ρ σ D hr er q => by
        simp only [exS] at q
        exact q σ a (.refl a) hr er⟩
    | _ => simp [chkS] at h
  | .never, X, g, cs, W, tb, k, N, sc, C, B, tk, x, h => ⟨_, ps_never, fun a hh ρ σ D hr er q => by
      simp only [exS] at q
      exact q⟩
theorem sndSs : ∀ (s : List S) {X : Cx} {g : Gi} {cs : Cs} {W : WX} {tb : Nat → Ref} {k : Nat} {N : List Str} {sc : Scope}, Kn X g cs tb k N sc → Kb X → Takes X W → ∀ (x : List Stmt), chkSs tb N sc s x = true → SndSs X g cs W s x
  | [], X, g, cs, W, tb, k, N, sc, C, B, tk, x, h => by
    cases x with
    | nil => exact ss_nil
    | cons _ _ => simp [chkSs] at h
  | s :: ss, X, g, cs, W, tb, k, N, sc, C, B, tk, x, h => by
    cases x with
    | nil => simp [chkSs] at h
    | cons x xs =>
      simp only [chkSs, Bool.and_eq_true] at h
      exact ss_cons (sndS s C B tk x h.1) (sndSs ss C B tk xs h.2)
end
end Sm

/-! A def: its body run, what it leaves behind. -/
namespace Sm
open PySem PySem.Spec PyProof.Rows L2
mutual
def below (N : Nat) : D → Bool
  | .tup ds => belows N ds
  | .lst ds => belows N ds
  | .obj _ ds => belows N ds
  | .ro ds => belows N ds
  | .ref n => decide (n < N)
  | .non => true | .bl _ => true | .int _ => true | .str _ => true
def belows (N : Nat) : List D → Bool
  | [] => true
  | d :: ds => below N d && belows N ds
end
def belowC (N : Nat) : Cell → Bool
  | .lst ds => belows N ds
  | .ins _ fs => belows N fs
mutual
def mapR (g : Nat → Option D) : D → Option D
  | .non => some .non | .bl b => some (.bl b) | .int i => some (.int i) | .str s => some (.str s)
  | .tup ds => (mapRs g ds).map .tup
  | .lst ds => (mapRs g ds).map .lst
  | .obj c ds => (mapRs g ds).map (.obj c)
  | .ro ds => (mapRs g ds).map .ro
  | .ref n => g n
def mapRs (g : Nat → Option D) : List D → Option (List D)
  | [] => some []
  | d :: ds => match mapR g d, mapRs g ds with | some e, some es => some (e :: es) | _, _ => none
end
def fzRef (N : Nat) (ks : List Nat) (h : AH) (rec : D → Option D) (n : Nat) : Option D :=
  if n < N then some (.ref n) else match ks.idxOf? n with
    | some i => some (.ref (N + i))
    | none => match h[n]? with
      | some (.lst ds) => (mapO rec ds).map .lst
      | some (.ins c fs) => (mapO rec fs).map (.obj c)
      | none => none
def fz (N : Nat) (ks : List Nat) (h : AH) : Nat → D → Option D
  | 0 => mapR (fzRef N ks h fun _ => none)
  | f + 1 => mapR (fzRef N ks h (fz N ks h f))
def fzC (N : Nat) (ks : List Nat) (h : AH) : Cell → Option Cell
  | .lst ds => (mapO (fz N ks h 6) ds).map .lst
  | .ins c fs => (mapO (fz N ks h 6) fs).map (.ins c)
/-- the cells that stay -/
def keepOf (keep : Bool) (N : Nat) (L : Nat) : List D → List Nat
  | [.ref n] => if keep && decide (N ≤ n ∧ n < L) then [n] else []
  | _ => []
open Classical in
/-- what a def leaves behind: h the cells at its entry -/
noncomputable def compact (keep : Bool) (h : AH) (ds : List D) (h1 : AH) : Option (List D × AH) :=
  if h1.length = h.length then some (ds, h1) else
    let N := h.length
    let ks := keepOf keep N h1.length ds
    if h1.take N = h ∨ ∀ c ∈ h1.take N, belowC N c = true then
      match mapO (fz N ks h1 6) ds, mapO (fun k => match h1[k]? with | some c => fzC N ks h1 c | none => none) ks with
      | some es, some cs => some (es, h1.take N ++ cs)
      | _, _ => none
    else none
noncomputable def endF (keep : Bool) (h : AH) : SR → R D
  | .rt d h1 => match compact keep h [d] h1 with | some ([d], h2) => .ok d h2 | _ => .stuck
  | .nx _ h1 => match compact keep h [.non] h1 with | some ([d], h2) => .ok d h2 | _ => .stuck
  | .ex x _ h1 => match compact false h x.args h1 with | some (as, h2) => .ex ⟨x.c, as⟩ h2 | _ => .stuck
  | _ => .stuck
/-- a def as a function: nm names in all, np of them parameters -/
noncomputable def runF (cs : Cs) (nm : Nat) (keep : Bool) (body : List S) : Fn := fun ds h =>
  endF keep h (exSs cs body (ds.map some ++ List.replicate (nm - ds.length) none) h)

section
variable {g : Gi} {a b c : Vw}
mutual
theorem below_of : ∀ {d : D} {v : V}, RepV g a d v → below a.m.length d = true
  | .non, v, r => rfl
  | .bl _, v, r => rfl
  | .int _, v, r => rfl
  | .str _, v, r => rfl
  | .tup ds, v, r => by obtain ⟨_, _, _, _, _, r2⟩ := r.tup_inv; simp only [below]; exact belows_of r2
  | .lst ds, v, r => by obtain ⟨_, _, _, _, _, r2⟩ := r.lst_inv; simp only [below]; exact belows_of r2
  | .obj _ ds, v, r => by obtain ⟨_, _, _, _, _, _, _, r2⟩ := r.obj_inv; simp only [below]; exact belows_of r2
  | .ro ds, v, r => by obtain ⟨_, _, _, _, r2⟩ := r.ro_inv; simp only [below]; exact belows_of r2
  | .ref n, v, r => by
    obtain ⟨p, _, h⟩ := r.ref_inv
    simp only [below, decide_eq_true_eq]
    exact (List.getElem?_eq_some_iff.mp h).1
theorem belows_of : ∀ {ds : List D} {vs : List V}, RepVs g a ds vs → belows a.m.length ds = true
  | [], vs, r => rfl
  | d :: ds, vs, r => by
    simp only [RepVs] at r
    obtain ⟨v, r', rfl, h1, h2⟩ := r
    simp only [belows, Bool.and_eq_true]
    exact ⟨below_of h1, belows_of h2⟩
end
/-- fewer cells: what stood still stands still -/
structure Less (b c : Vw) (N : Nat) : Prop where
  pre : ∀ n, n < N → c.m[n]? = b.m[n]?
  keep : ∀ p o, ¬ b.M p → b.H p = some o → ¬ c.M p ∧ c.H p = some o
mutual
theorem RepV.less {N : Nat} (l : Less b c N) : ∀ {d : D} {v : V}, below N d = true → RepV g b d v → RepV g c d v
  | .non, v, k, r => by cases r.non_inv; exact .non
  | .bl _, v, k, r => by cases r.bl_inv; exact .bl _
  | .int _, v, k, r => by cases r.int_inv; exact .int _
  | .str _, v, k, r => by cases r.str_inv; exact .str _
  | .tup ds, v, k, r => by
    simp only [below] at k
    obtain ⟨p, vs, e, n, q, r2⟩ := r.tup_inv
    obtain ⟨n', q'⟩ := l.keep p _ n q
    simp only [RepV]
    exact ⟨p, vs, e, n', q', RepVs.less l k r2⟩
  | .lst ds, v, k, r => by
    simp only [below] at k
    obtain ⟨p, vs, e, n, q, r2⟩ := r.lst_inv
    obtain ⟨n', q'⟩ := l.keep p _ n q
    simp only [RepV]
    exact ⟨p, vs, e, n', q', RepVs.less l k r2⟩
  | .obj _ ds, v, k, r => by
    simp only [below] at k
    obtain ⟨p, dx, vs, e, n, q, hl, r2⟩ := r.obj_inv
    obtain ⟨n', q'⟩ := q.keep l.keep n
    simp only [RepV]
    exact ⟨p, dx, vs, e, n', q', hl, RepVs.less l k r2⟩
  | .ro ds, v, k, r => by
    simp only [below] at k
    obtain ⟨p, vs, e, n, r2⟩ := r.ro_inv
    simp only [RepV]
    refine ⟨p, vs, e, ?_, RepVs.less l k r2⟩
    rcases n with ⟨n, o, q⟩ | n
    · obtain ⟨n', q'⟩ := l.keep p _ n q
      exact .inl ⟨n', o, q'⟩
    · exact .inr n
  | .ref n, v, k, r => by
    simp only [below, decide_eq_true_eq] at k
    obtain ⟨p, e, h⟩ := r.ref_inv
    simp only [RepV]
    exact ⟨p, e, by rw [l.pre n k]; exact h⟩
theorem RepVs.less {N : Nat} (l : Less b c N) : ∀ {ds : List D} {vs : List V}, belows N ds = true → RepVs g b ds vs → RepVs g c ds vs
  | [], vs, k, r => by simp only [RepVs] at r; subst r; exact .nil
  | d :: ds, vs, k, r => by
    simp only [RepVs] at r
    obtain ⟨v, r', rfl, h1, h2⟩ := r
    simp only [belows, Bool.and_eq_true] at k
    exact .cons (RepV.less l k.1 h1) (RepVs.less l k.2 h2)
end
mutual
theorem mapR_rep {f : Nat → Option D} (keep : ∀ p o, ¬ b.M p → b.H p = some o → ¬ c.M p ∧ c.H p = some o) (hf : ∀ n e v, f n = some e → RepV g b (.ref n) v → RepV g c e v) : ∀ {d e : D} {v : V}, mapR f d = some e → RepV g b d v → RepV g c e v
  | .non, e, v, k, r => by simp only [mapR] at k; cases k; cases r.non_inv; exact .non
  | .bl _, e, v, k, r => by simp only [mapR] at k; cases k; cases r.bl_inv; exact .bl _
  | .int _, e, v, k, r => by simp only [mapR] at k; cases k; cases r.int_inv; exact .int _
  | .str _, e, v, k, r => by simp only [mapR] at k; cases k; cases r.str_inv; exact .str _
  | .tup ds, e, v, k, r => by
    simp only [mapR, Option.map_eq_some_iff] at k
    obtain ⟨es, k, rfl⟩ := k
    obtain ⟨p, vs, e, n, q, r2⟩ := r.tup_inv
    obtain ⟨n', q'⟩ := keep p _ n q
    simp only [RepV]
    exact ⟨p, vs, e, n', q', mapRs_rep keep hf k r2⟩
  | .lst ds, e, v, k, r => by
    simp only [mapR, Option.map_eq_some_iff] at k
    obtain ⟨es, k, rfl⟩ := k
    obtain ⟨p, vs, e, n, q, r2⟩ := r.lst_inv
    obtain ⟨n', q'⟩ := keep p _ n q
    simp only [RepV]
    exact ⟨p, vs, e, n', q', mapRs_rep keep hf k r2⟩
  | .obj _ ds, e, v, k, r => by
    simp only [mapR, Option.map_eq_some_iff] at k
    obtain ⟨es, k, rfl⟩ := k
    obtain ⟨p, dx, vs, e, n, q, hl, r2⟩ := r.obj_inv
    obtain ⟨n', q'⟩ := q.keep keep n
    simp only [RepV]
    exact ⟨p, dx, vs, e, n', q', hl, mapRs_rep keep hf k r2⟩
  | .ro ds, e, v, k, r => by
    simp only [mapR, Option.map_eq_some_iff] at k
    obtain ⟨es, k, rfl⟩ := k
    obtain ⟨p, vs, e, n, r2⟩ := r.ro_inv
    simp only [RepV]
    refine ⟨p, vs, e, ?_, mapRs_rep keep hf k r2⟩
    rcases n with ⟨n, o, q⟩ | n
    · obtain ⟨n', q'⟩ := keep p _ n q
      exact .inl ⟨n', o, q'⟩
    · exact .inr n
  | .ref n, e, v, k, r => by simp only [mapR] at k; exact hf n e v k r
theorem mapRs_rep {f : Nat → Option D} (keep : ∀ p o, ¬ b.M p → b.H p = some o → ¬ c.M p ∧ c.H p = some o) (hf : ∀ n e v, f n = some e → RepV g b (.ref n) v → RepV g c e v) : ∀ {ds es : List D} {vs : List V}, mapRs f ds = some es → RepVs g b ds vs → RepVs g c es vs
  | [], es, vs, k, r => by simp only [mapRs] at k; cases k; simp only [RepVs] at r; subst r; exact .nil
  | d :: ds, es, vs, k, r => by
    simp only [RepVs] at r
    obtain ⟨v, r', rfl, h1, h2⟩ := r
    simp only [mapRs] at k
    split at k
    · rename_i e1 es1 k1 k2
      cases k
      exact .cons (mapR_rep keep hf k1 h1) (mapRs_rep keep hf k2 h2)
    · cases k
end
theorem mapO_rep {f : D → Option D} (hf : ∀ d e v, f d = some e → RepV g b d v → RepV g c e v) : ∀ {ds es : List D} {vs : List V}, mapO f ds = some es → RepVs g b ds vs → RepVs g c es vs
  | [], es, vs, k, r => by simp only [mapO] at k; cases k; simp only [RepVs] at r; subst r; exact .nil
  | d :: ds, es, vs, k, r => by
    simp only [RepVs] at r
    obtain ⟨v, r', rfl, h1, h2⟩ := r
    simp only [mapO] at k
    split at k
    · rename_i e1 es1 k1 k2
      cases k
      exact .cons (hf _ _ _ k1 h1) (mapO_rep hf k2 h2)
    · cases k
/-- the view behind a def -/
def cutVw (b : Vw) (am : List Addr) (ks : List Nat) : Vw := ⟨am ++ ks.filterMap fun k => b.m[k]?, b.G, b.H⟩
theorem filterMap_get {ms : List Addr} : ∀ {ks : List Nat}, (∀ k ∈ ks, k < ms.length) → ∀ i : Nat, (ks.filterMap fun k => ms[k]?)[i]? = (ks[i]?).bind fun k => ms[k]?
  | [], _, i => by simp
  | k :: ks, h, i => by
    have hk : k < ms.length := h k List.mem_cons_self
    rw [List.filterMap_cons, List.getElem?_eq_getElem hk]
    cases i with
    | zero => simp [List.getElem?_eq_getElem hk]
    | succ i => simpa using filterMap_get (fun k hk => h k (List.mem_cons_of_mem _ hk)) i
section
variable {h h1 : AH} {ks : List Nat}
theorem cut_keep (ha : ∃ x, b.m = a.m ++ x) : ∀ p o, ¬ b.M p → b.H p = some o → ¬ (cutVw b a.m ks).M p ∧ (cutVw b a.m ks).H p = some o := fun p o n e => by
  refine ⟨fun z => ?_, e⟩
  obtain ⟨x, hx⟩ := ha
  rcases z with z | z
  · have z : p ∈ a.m ++ ks.filterMap fun k => b.m[k]? := z
    rcases List.mem_append.mp z with z | z
    · exact n (.inl (by rw [hx]; exact List.mem_append_left _ z))
    · obtain ⟨k, _, hk⟩ := List.mem_filterMap.mp z
      exact n (.inl (List.mem_of_getElem? hk))
  · exact n (.inr z)
theorem fzRef_rep (ha : ∃ x, b.m = a.m ++ x) (hb : HeapRel g b h1) (hks : ∀ k ∈ ks, k < h1.length) {rec : D → Option D} (hrec : ∀ d e v, rec d = some e → RepV g b d v → RepV g (cutVw b a.m ks) e v)
    (hn : ∀ n, n ∉ ks → a.m.length ≤ n → ∀ p, b.m[n]? = some p → p ∉ (cutVw b a.m ks).m) : ∀ n e v, fzRef a.m.length ks h1 rec n = some e → RepV g b (.ref n) v → RepV g (cutVw b a.m ks) e v := by
  intro n e v k r
  obtain ⟨p, rfl, hp⟩ := r.ref_inv
  obtain ⟨x, hx⟩ := ha
  unfold fzRef at k
  split at k
  · rename_i hlt
    cases k
    simp only [RepV]
    refine ⟨p, rfl, ?_⟩
    show (a.m ++ _)[n]? = _
    rw [List.getElem?_append_left hlt]
    rw [hx, List.getElem?_append_left hlt] at hp
    exact hp
  · rename_i hge
    split at k
    · rename_i i hi
      cases k
      simp only [RepV]
      refine ⟨p, rfl, ?_⟩
      show (a.m ++ _)[a.m.length + i]? = _
      rw [List.getElem?_append_right (Nat.le_add_right _ _), Nat.add_sub_cancel_left, filterMap_get (fun k hk => by rw [hb.len]; exact hks k hk)]
      have : ks[i]? = some n := by
        have h2 := List.idxOf?_eq_some_iff.mp hi
        obtain ⟨h3, h4, _⟩ := h2
        rw [List.getElem?_eq_getElem h3, h4]
      rw [this]
      exact hp
    · rename_i hi
      have hnk : n ∉ ks := List.idxOf?_eq_none_iff.mp hi
      have np := hn n hnk (by omega) p hp
      have ng := hb.apart p (List.mem_of_getElem? hp)
      have nM : ¬ (cutVw b a.m ks).M p := fun z => z.elim np ng
      split at k
      · rename_i ds hd
        simp only [Option.map_eq_some_iff] at k
        obtain ⟨es, k, rfl⟩ := k
        obtain ⟨vs, e1, r1⟩ := hb.rep n _ p hd hp
        simp only [RepV]
        exact ⟨p, vs, rfl, nM, e1, mapO_rep hrec k r1⟩
      · rename_i cc ds hd
        simp only [Option.map_eq_some_iff] at k
        obtain ⟨es, k, rfl⟩ := k
        obtain ⟨dx, vs, e1, l1, r1⟩ := hb.rep n _ p hd hp
        simp only [RepV]
        exact ⟨p, dx, vs, rfl, nM, .inl e1, l1, mapO_rep hrec k r1⟩
      · cases k
theorem fz_rep (ha : ∃ x, b.m = a.m ++ x) (hb : HeapRel g b h1) (hks : ∀ k ∈ ks, k < h1.length) (hn : ∀ n, n ∉ ks → a.m.length ≤ n → ∀ p, b.m[n]? = some p → p ∉ (cutVw b a.m ks).m) :
    ∀ (f : Nat) (d e : D) (v : V), fz a.m.length ks h1 f d = some e → RepV g b d v → RepV g (cutVw b a.m ks) e v
  | 0, d, e, v, k, r => mapR_rep (cut_keep ha) (fzRef_rep ha hb hks (fun d e v z => by cases z) hn) k r
  | f + 1, d, e, v, k, r => mapR_rep (cut_keep ha) (fzRef_rep ha hb hks (fz_rep ha hb hks hn f) hn) k r
end
theorem mapO_get {α β : Type} {f : α → Option β} : ∀ {xs : List α} {ys : List β}, mapO f xs = some ys → xs.length = ys.length ∧ ∀ (i : Nat) (x : α), xs[i]? = some x → ∃ y, ys[i]? = some y ∧ f x = some y
  | [], ys, e => by simp only [mapO] at e; cases e; exact ⟨rfl, fun i x h => by simp at h⟩
  | x :: xs, ys, e => by
    simp only [mapO] at e
    split at e
    · rename_i y ys' e1 e2
      cases e
      obtain ⟨l, k⟩ := mapO_get e2
      refine ⟨by simp [l], fun i z h => ?_⟩
      cases i with
      | zero => simp at h; subst h; exact ⟨y, rfl, e1⟩
      | succ i => simpa using k i z (by simpa using h)
    · cases e
theorem compact_ok {keep : Bool} {h h1 h2 : AH} {ds es : List D} {vs : List V} (hr : HeapRel g a h) (mo : Mono a b) (hb : HeapRel g b h1) (r : RepVs g b ds vs) (e : compact keep h ds h1 = some (es, h2)) :
    ∃ c, Mono a c ∧ c.H = b.H ∧ HeapRel g c h2 ∧ RepVs g c es vs ∧ ∀ p o, ¬ b.M p → b.H p = some o → ¬ c.M p := by
  unfold compact at e
  split at e
  · cases e
    exact ⟨b, mo, rfl, hb, r, fun p o n _ => n⟩
  rename_i hlen
  simp only at e
  generalize hks : keepOf keep h.length h1.length ds = ks at e
  have hN : a.m.length = h.length := hr.len
  have hk1 : ∀ k ∈ ks, h.length ≤ k ∧ k < h1.length := by
    rw [← hks]
    unfold keepOf
    intro k hk
    split at hk
    · split at hk
      · rename_i hc
        simp only [Bool.and_eq_true, decide_eq_true_eq] at hc
        simp at hk; subst hk; exact hc.2
      · simp at hk
    · simp at hk
  have hk2 : ks.Nodup := by
    rw [← hks]
    unfold keepOf
    split
    · split <;> simp
    · simp
  split at e
  · rename_i hold
    split at e
    · rename_i es' cs e1 e2
      cases e
      obtain ⟨x, hx⟩ := mo.pre
      have hbl := hb.len
      have inj : ∀ i j p, b.m[i]? = some p → b.m[j]? = some p → i = j := fun i j p h1 h2 => by
        obtain ⟨k1, e1⟩ := List.getElem?_eq_some_iff.mp h1
        obtain ⟨k2, e2⟩ := List.getElem?_eq_some_iff.mp h2
        exact (List.getElem_inj hb.nd).mp (e1.trans e2.symm)
      have amem : ∀ i : Nat, i < a.m.length → b.m[i]? = a.m[i]? := fun i hi => by rw [hx, List.getElem?_append_left hi]
      have hn : ∀ n, n ∉ ks → a.m.length ≤ n → ∀ p, b.m[n]? = some p → p ∉ (cutVw b a.m ks).m := by
        intro n hnk hge p hp hm
        have hm : p ∈ a.m ++ ks.filterMap fun k => b.m[k]? := hm
        rcases List.mem_append.mp hm with hm | hm
        · obtain ⟨i, hi, rfl⟩ := List.mem_iff_getElem.mp hm
          have := inj n i _ hp (by rw [amem i hi]; exact List.getElem?_eq_getElem hi)
          omega
        · obtain ⟨k, hk, hkp⟩ := List.mem_filterMap.mp hm
          have := inj n k _ hp hkp
          exact hnk (this ▸ hk)
      have fzr := fz_rep (g := g) (a := a) ⟨x, hx⟩ hb (ks := ks) (fun k hk => (hk1 k hk).2) hn
      rw [hN] at fzr
      have lss : Less b (cutVw b a.m ks) h.length := ⟨fun n hlt => by
        show (a.m ++ _)[n]? = _
        rw [List.getElem?_append_left (by rw [hN]; exact hlt), amem n (by rw [hN]; exact hlt)], cut_keep ⟨x, hx⟩⟩
      have hks' : ∀ k ∈ ks, k < b.m.length := fun k hk => by rw [hbl]; exact (hk1 k hk).2
      refine ⟨cutVw b a.m ks, ⟨⟨_, rfl⟩, fun p o h3 h4 => ?_, mo.gh⟩, rfl, ⟨?_, ?_, hb.live, fun p hp => ?_, fun n cc p h3 h4 => ?_⟩, mapO_rep (fzr 6) e1 r, fun p o n e => (cut_keep ⟨x, hx⟩ p o n e).1⟩
      · obtain ⟨q1, q2, q3⟩ := mo.all p o h3 h4
        refine ⟨fun z => ?_, q2, q3⟩
        have z : p ∈ a.m ++ ks.filterMap fun k => b.m[k]? := z
        rcases List.mem_append.mp z with z | z
        · exact h3 z
        · obtain ⟨k, _, hk⟩ := List.mem_filterMap.mp z
          exact q1 (List.mem_of_getElem? hk)
      · show (a.m ++ _).length = _
        have : (ks.filterMap fun k => b.m[k]?).length = ks.length := by
          clear e1 e2 fzr hn hk2 lss hks
          induction ks with
          | nil => rfl
          | cons k ks ih =>
            rw [List.filterMap_cons, List.getElem?_eq_getElem (hks' k List.mem_cons_self)]
            simp [ih (fun k hk => hk1 k (List.mem_cons_of_mem _ hk)) (fun k hk => hks' k (List.mem_cons_of_mem _ hk))]
        rw [List.length_append, List.length_append, this, (mapO_get e2).1, List.length_take, hN]
        have : h.length ≤ h1.length := by rw [← hN, ← hbl, hx]; simp
        omega
      · show (a.m ++ _).Nodup
        rw [List.nodup_append]
        refine ⟨hr.nd, ?_, fun p hp q hq z => ?_⟩
        · clear e1 e2 fzr hn lss hks
          induction ks with
          | nil => simp
          | cons k ks ih =>
            have hk := hks' k List.mem_cons_self
            rw [List.filterMap_cons, List.getElem?_eq_getElem hk]
            refine List.nodup_cons.mpr ⟨fun z => ?_, ih (fun k hk => hk1 k (List.mem_cons_of_mem _ hk)) (List.nodup_cons.mp hk2).2 (fun k hk => hks' k (List.mem_cons_of_mem _ hk))⟩
            obtain ⟨j, hj, hjp⟩ := List.mem_filterMap.mp z
            have := inj k j _ (List.getElem?_eq_getElem hk) hjp
            exact (List.nodup_cons.mp hk2).1 (this ▸ hj)
        · subst z
          obtain ⟨i, hi, rfl⟩ := List.mem_iff_getElem.mp hp
          obtain ⟨k, hk, hkp⟩ := List.mem_filterMap.mp hq
          have := inj k i _ hkp (by rw [amem i hi]; exact List.getElem?_eq_getElem hi)
          have := (hk1 k hk).1
          omega
      · have hp : p ∈ a.m ++ ks.filterMap fun k => b.m[k]? := hp
        rcases List.mem_append.mp hp with hp | hp
        · exact hb.apart p (by rw [hx]; exact List.mem_append_left _ hp)
        · obtain ⟨k, _, hk⟩ := List.mem_filterMap.mp hp
          exact hb.apart p (List.mem_of_getElem? hk)
      · have h4 : (a.m ++ ks.filterMap fun k => b.m[k]?)[n]? = some p := h4
        have hle : h.length ≤ h1.length := by rw [← hN, ← hbl, hx]; simp
        have htl : (h1.take h.length).length = h.length := by rw [List.length_take]; omega
        show CellRep g _ cc (b.H p)
        by_cases hlt : n < h.length
        · rw [List.getElem?_append_left (by rw [htl]; exact hlt)] at h3
          have h3' : h1[n]? = some cc := by rw [List.getElem?_take_of_lt hlt] at h3; exact h3
          rw [List.getElem?_append_left (by rw [hN]; exact hlt)] at h4
          have hp : b.m[n]? = some p := by rw [amem n (by rw [hN]; exact hlt)]; exact h4
          have cb := hb.rep n cc p h3' hp
          have bl : belowC h.length cc = true := by
            rcases hold with ho | ho
            · rw [ho] at h3
              have ca := hr.rep n cc p h3 h4
              cases cc with
              | lst xs => obtain ⟨vs', _, r'⟩ := ca; have := belows_of r'; rw [hN] at this; exact this
              | ins _ xs => obtain ⟨_, vs', _, _, r'⟩ := ca; have := belows_of r'; rw [hN] at this; exact this
            · exact ho cc (List.mem_of_getElem? h3)
          cases cc with
          | lst xs => obtain ⟨vs', e', r'⟩ := cb; exact ⟨vs', e', r'.less lss bl⟩
          | ins _ xs => obtain ⟨dx, vs', e', l', r'⟩ := cb; exact ⟨dx, vs', e', l', r'.less lss bl⟩
        · rw [List.getElem?_append_right (by rw [htl]; omega), htl] at h3
          rw [List.getElem?_append_right (by rw [hN]; omega), hN, filterMap_get hks'] at h4
          simp only [Option.bind_eq_some_iff] at h4
          obtain ⟨k, hk, hkp⟩ := h4
          obtain ⟨y, hy, hf⟩ := (mapO_get e2).2 _ k hk
          rw [hy] at h3; cases h3
          split at hf
          · rename_i c0 hc0
            have cb := hb.rep k c0 p hc0 hkp
            cases c0 with
            | lst xs =>
              simp only [fzC, Option.map_eq_some_iff] at hf
              obtain ⟨ys, hf, rfl⟩ := hf
              obtain ⟨vs', e', r'⟩ := cb
              exact ⟨vs', e', mapO_rep (fzr 6) hf r'⟩
            | ins _ xs =>
              simp only [fzC, Option.map_eq_some_iff] at hf
              obtain ⟨ys, hf, rfl⟩ := hf
              obtain ⟨dx, vs', e', l', r'⟩ := cb
              exact ⟨dx, vs', e', l', mapO_rep (fzr 6) hf r'⟩
          · cases hf
    · cases e
  · cases e
end
end Sm
namespace Sm
open PySem PySem.Spec PyProof.Rows L2
section
variable {P : Program} {w : World} {K : PySem.W.Frag} {mg : Str → Option Value} {base : Heap} {g : Gi} {cs : Cs} {tb : Nat → Ref} {k : Nat}
/-- a def of the text is what its small text says -/
theorem fn_sound {x qual : Str} {st : Stmt} {f : Addr} {fd : FuncData} {N ps : List Str} {keep : Bool} {body : List S} (F : Fun K x qual st f fd) (sc : FnScope N ps (defScope st)) (hc : chkSs tb N (defScope st) body (defBody st) = true)
    (kl : ∀ p vs H, g.kl p vs → SqL K H p vs) (free : ∀ x ∈ frees, mg x = none) (refs : ∀ i, RefOk P w K mg base g k cs i (tb i)) :
    FnOk P w K mg base (L2.CX P w) (k + 1) f fd ps (spF g (runF cs N.length keep body) ps.length) := by
  refine F.okX sc (fun vs H Q E h => h.1) fun cdv A outer s H vs Q E hr h => ?_
  obtain ⟨hl, a, h0, ds, rfl, hra, rds, p⟩ := h
  have C : Kn (cxOf (L2.CX P w) P w K mg base N qual (defScope st) f cdv A outer s a.H E) g cs tb k N (defScope st) := ⟨rfl, rfl, sc.nd, rfl, kl, hr, free, refs⟩
  have B : Kb (cxOf (L2.CX P w) P w K mg base N qual (defScope st) f cdv A outer s a.H E) := ⟨fun _ => rfl, sc.kind, passes_of rfl⟩
  have tk : Takes (cxOf (L2.CX P w) P w K mg base N qual (defScope st) f cdv A outer s a.H E) (fun cls d _ H => E cls d H) := takes_of rfl rfl rfl rfl
  obtain ⟨t, p1, g1⟩ := sndSs body C B tk (defBody st) hc
  refine ⟨t, p1, ?_⟩
  have npl : ps.length ≤ N.length := by have := congrArg List.length sc.pre; rw [List.length_take] at this; omega
  have er : EnvR g a (ds.map some ++ List.replicate (N.length - ds.length) none) (L2.start N vs) := by
    have hvd := rds.length
    refine ⟨by unfold L2.start; simp [hvd], fun i d hd => ?_⟩
    by_cases hi : i < ds.length
    · rw [List.getElem?_append_left (by simpa using hi), List.getElem?_map] at hd
      simp only [Option.map_eq_some_iff, Option.some.injEq] at hd
      obtain ⟨d', hd', rfl⟩ := hd
      obtain ⟨v, hv, rv⟩ := rds.get hd'
      refine ⟨v, ?_, rv⟩
      unfold L2.start
      rw [List.getElem?_append_left (by simp; omega), List.getElem?_map, hv]; rfl
    · rw [List.getElem?_append_right (by simpa using hi), List.getElem?_replicate] at hd
      split at hd <;> cases hd
  refine g1 a h0 _ _ _ hra er ?_
  unfold runF at p
  generalize exSs cs body _ h0 = r at p
  cases r with
  | nx ρ h1 =>
    intro σ b m hb eb
    simp only [endF] at p
    split at p
    · rename_i d h2 e
      obtain ⟨c, mc, hc, hrc, rc, _⟩ := compact_ok hra m hb (.cons .non .nil) e
      obtain ⟨v, hv, rv⟩ := rc.one
      cases hv
      have := p .non c mc hrc rv
      rw [hc] at this; exact this
    · exact p.elim
  | rt d0 h1 =>
    intro v0 b m hb rv0
    simp only [endF] at p
    split at p
    · rename_i d h2 e
      obtain ⟨c, mc, hc, hrc, rc, _⟩ := compact_ok hra m hb (.cons rv0 .nil) e
      obtain ⟨v, hv, rv⟩ := rc.one
      cases hv
      have := p v0 c mc hrc rv
      rw [hc] at this; exact this
    · exact p.elim
  | bk ρ h1 => exact p.elim
  | ct ρ h1 => exact p.elim
  | ex x ρ h1 =>
    intro cls d σ b m hb eb rx
    simp only [endF] at p
    split at p
    · rename_i as h2 e
      obtain ⟨rc, dx, vs', rd, nM, rH, rl, rr⟩ := rx
      obtain ⟨c, mc, hc, hrc, rc', nc⟩ := compact_ok hra m hb rr e
      have := p cls d c mc hrc ⟨rc, dx, vs', rd, ?_, by rw [hc]; exact rH, rl, rc'⟩
      · rw [hc] at this; exact this
      · exact nc dx _ nM rH
    · exact p.elim
  | stuck => exact p.elim
end
end Sm

/-! The head's facts, the chain of defs, the end of a law. -/
namespace Sm
open PySem PySem.Spec PyProof.Rows L2
abbrev DfA := He5.DefA
/-! ### the Hook: defs at their places, one Bool more -/
def obS (fn : List DfA) (ex : PySem.W.Frag → Bool) (K : PySem.W.Frag) : He.AlD := (ex K && fn.all fun d => d.ok K, fn.map fun d => He5.fnA K (d.at_ K))
def vaS (fn : List DfA) : He.AlD := (true, fn.map He5.DefA.val)
def SaysS (fn : List DfA) (ex : PySem.W.Frag → Bool) (K : PySem.W.Frag) : Prop := obS fn ex K = vaS fn
def obSG (n : Nat) (fn : List DfA) (ex : PySem.W.Frag → Bool) (g : Addr → Option Obj) : He.AlD := obS fn ex (He.frG g (He5.asA g n))
def hookS (n : Nat) (fn : List DfA) (ex : PySem.W.Frag → Bool) : PySem.W.Hook where
  α := He.AlD
  obs := fun s => obSG n fn ex s.heap.get?
  val := fun _ => vaS fn
  says := fun _ h => ∃ K : PySem.W.Frag, K.In h ∧ SaysS fn ex K
  of := fun _ _ e => ⟨_, He.frG_in, e⟩
  keeps := fun _ _ _ ⟨K, hK, c⟩ k => ⟨K, PySem.W.Frag.In.keeps hK k, c⟩
theorem obSG_eq {n : Nat} {fn : List DfA} {ex : PySem.W.Frag → Bool} {g : Addr → Option Obj} {s : Shared} (h : ∀ a, g a = s.heap.get? a) : obSG n fn ex g = (hookS n fn ex).obs s := by
  have e : g = s.heap.get? := funext h
  subst e; rfl
section
variable {fn : List DfA} {ex : PySem.W.Frag → Bool} {K : PySem.W.Frag}
theorem SaysS.more (c : SaysS fn ex K) : ex K = true := (Bool.and_eq_true_iff.mp (congrArg (fun z : He.AlD => z.1) c)).1
theorem SaysS.def_ (c : SaysS fn ex K) (i : Nat) {d : DfA} (h : fn[i]? = some d) : ∃ fd, L2.FunD K d.name d.qual d.params d.body d.scope (d.dvs K) (d.kws K) (d.at_ K) fd := by
  have c2 := (Bool.and_eq_true_iff.mp (congrArg (fun z : He.AlD => z.1) c)).2
  have e : fn.map (fun d => He5.fnA K (d.at_ K)) = fn.map He5.DefA.val := congrArg (fun z : He.AlD => z.2) c
  have e2 : (fn.map fun d => He5.fnA K (d.at_ K))[i]? = (fn.map He5.DefA.val)[i]? := by rw [e]
  rw [List.getElem?_map, List.getElem?_map, h] at e2
  exact He5.DefA.funD (Option.some.inj e2) (List.all_eq_true.mp c2 d (List.mem_of_getElem? h))
end
/-- a def without defaults -/
def dfa (at_ : PySem.W.Frag → Addr) (name qual : Str) (st : Stmt) : DfA := ⟨at_, name, qual, defArgs st, defBody st, defScope st, [], []⟩
/-- a global's def, a class's method, a class's static method -/
def pG (x : Str) (K : PySem.W.Frag) : Addr := He.ga K x
def pM (C m : Str) (K : PySem.W.Frag) : Addr := He.ma K (He.ga K C) m
def pS (C m : Str) (K : PySem.W.Frag) : Addr := He5.wf K (He.ga K C) "staticmethod" m
theorem SaysS.fun_ {fn : List DfA} {ex : PySem.W.Frag → Bool} {K : PySem.W.Frag} (c : SaysS fn ex K) (i : Nat) {at_ : PySem.W.Frag → Addr} {name qual : Str} {st : Stmt} (h : fn[i]? = some (dfa at_ name qual st)) : ∃ fd, Fun K name qual st (at_ K) fd ∧ L2.FunD K name qual (defArgs st) (defBody st) (defScope st) [] [] (at_ K) fd := by
  obtain ⟨fd, F⟩ := c.def_ i h
  exact ⟨fd, He5.fun_of F, F⟩
/-! ### facts, as Bools -/
def frB (K : PySem.W.Frag) : Bool := frees.all fun x => (He.Fa.free x).ok K
def gloB (xs : List Str) (K : PySem.W.Frag) : Bool := xs.all fun x => (He.Fa.glo x).ok K
def stB (C m : Str) (K : PySem.W.Frag) : Bool := PySem.W.readsIn K (He.ga K C) (.type "type") && (He.eqO (PySem.W.specialIn K (.ref (He.ga K C)) "__getattribute__") (some (some (.builtin "type.__getattribute__"))) && He5.wrapB K (He.ga K C) "staticmethod" "staticmethod.__get__" m)
def ccB (C f : Str) (i : Int) (K : PySem.W.Frag) : Bool := PySem.W.readsIn K (He.ga K C) (.type "type") && (He.eqO (PySem.W.specialIn K (.ref (He.ga K C)) "__getattribute__") (some (some (.builtin "type.__getattribute__"))) && (match PySem.W.findCls K (.ref (He.ga K C)) (.type "type") f with
  | some (.val (.int j _)) => decide (j = i)
  | _ => false))
/-! ### entries, references -/
structure En where
  fn : Fn
  con : Con
instance : Inhabited En := ⟨⟨fun _ _ => .stuck, .non⟩⟩
def csL (l : List En) : Cs := ⟨fun n => (l.getD n default).fn, fun n => (l.getD n default).con⟩
def tbL (l : List Ref) : Nat → Ref := fun n => l.getD n .no
section
variable {P : Program} {w : World} {K : PySem.W.Frag} {mg : Str → Option Value} {base : Heap} {g : Gi}
theorem RefOk.mono {k k' : Nat} {cs cs' : Cs} {f : Nat} {r : Ref} (h : RefOk P w K mg base g k cs f r) (hk : k ≤ k') (h1 : cs'.fn f = cs.fn f) (h2 : cs'.con f = cs.con f) : RefOk P w K mg base g k' cs' f r := by
  cases r with
  | no => trivial
  | fn x n =>
    obtain ⟨fa, fd, ps, a1, a2, a3, F, b⟩ := h
    exact ⟨fa, fd, ps, a1, a2, a3, by rw [h1]; exact F.mono hk, b⟩
  | st C m n =>
    obtain ⟨Ca, mc, p, fa, fd, ps, a1, a2, a3, a4, a5, F, b⟩ := h
    exact ⟨Ca, mc, p, fa, fd, ps, a1, a2, a3, a4, a5, by rw [h1]; exact F.mono hk, b⟩
  | cc C f' =>
    obtain ⟨Ca, mc, v, u, a1, a2, a3, a4⟩ := h
    exact ⟨Ca, mc, v, u, a1, a2, a3, fun a => by rw [h2]; exact a4 a⟩
  | mk x n =>
    obtain ⟨C, fi, fd, ps, k0, a1, a2, a3, a4, F, b⟩ := h
    exact ⟨C, fi, fd, ps, k0, a1, a2, a3, Nat.le_trans a4 hk, by rw [h1]; exact F, b⟩
  | sti c m n =>
    obtain ⟨p, fa, fd, ps, a1, a2, a3, a4, F, b⟩ := h
    exact ⟨p, fa, fd, ps, a1, a2, a3, a4, by rw [h1]; exact F.mono hk, b⟩
  | gl x =>
    obtain ⟨u, v, a1, a2, a4⟩ := h
    exact ⟨u, v, a1, a2, fun a => by rw [h2]; exact a4 a⟩
def Refs (P : Program) (w : World) (K : PySem.W.Frag) (mg : Str → Option Value) (base : Heap) (g : Gi) (k : Nat) (es : List En) (rs : List Ref) : Prop :=
  es.length = rs.length ∧ ∀ i, RefOk P w K mg base g k (csL es) i (tbL rs i)
theorem Refs.nil {k : Nat} : Refs P w K mg base g k [] [] := ⟨rfl, fun _ => trivial⟩
theorem Refs.snoc {k k' : Nat} {es : List En} {rs : List Ref} {e : En} {r : Ref} (R : Refs P w K mg base g k es rs) (hk : k ≤ k') (h : RefOk P w K mg base g k' ⟨fun _ => e.fn, fun _ => e.con⟩ 0 r) : Refs P w K mg base g k' (es ++ [e]) (rs ++ [r]) := by
  refine ⟨by simp [R.1], fun i => ?_⟩
  by_cases hi : i < rs.length
  · have e1 : tbL (rs ++ [r]) i = tbL rs i := by simp [tbL, List.getD_eq_getElem?_getD, List.getElem?_append_left hi]
    rw [e1]
    have hi2 : i < es.length := by rw [R.1]; exact hi
    exact (R.2 i).mono hk (by simp [csL, List.getD_eq_getElem?_getD, List.getElem?_append_left hi2]) (by simp [csL, List.getD_eq_getElem?_getD, List.getElem?_append_left hi2])
  · by_cases hi3 : i = rs.length
    · subst hi3
      have e1 : tbL (rs ++ [r]) rs.length = r := by simp [tbL, List.getD_eq_getElem?_getD]
      rw [e1]
      have e2 : (es ++ [e]).getD rs.length default = e := by rw [← R.1]; simp [List.getD_eq_getElem?_getD]
      have h' : RefOk P w K mg base g k' (csL (es ++ [e])) rs.length r := by
        cases r with
        | no => trivial
        | _ => unfold RefOk at h ⊢; simp only [csL, e2]; exact h
      exact h'
    · have e1 : tbL (rs ++ [r]) i = .no := by
        have : rs.length + 1 ≤ i := by omega
        simp [tbL, List.getD_eq_getElem?_getD, List.getElem?_eq_none (l := rs ++ [r]) (i := i) (by simp; omega)]
      rw [e1]; trivial
theorem Refs.le {k k' : Nat} {es : List En} {rs : List Ref} (R : Refs P w K mg base g k es rs) (hk : k ≤ k') : Refs P w K mg base g k' es rs := ⟨R.1, fun i => (R.2 i).mono hk rfl rfl⟩
/-- what holds all the way -/
structure Hd (K : PySem.W.Frag) (mg : Str → Option Value) (g : Gi) (h : Heap) : Prop where
  kin : K.In h
  ns : h.Ns mainGlobals mg
  fr : frB K = true
  kl : ∀ p vs H, g.kl p vs → SqL K H p vs
theorem Hd.free {h : Heap} (X : Hd K mg g h) : ∀ x ∈ frees, mg x = none := fun x hx => He.free_ok X.kin X.ns (List.all_eq_true.mp X.fr x hx)
theorem glo_at {h : Heap} (X : Hd K mg g h) {xs : List Str} (c : gloB xs K = true) {x : Str} (hx : x ∈ xs) : mg x = some (.ref (He.ga K x)) := He.glo_ok X.kin X.ns (List.all_eq_true.mp c x hx)
theorem stuck_fn {k : Nat} {f : Addr} {fd : FuncData} {ps : List Str} : FnOk P w K mg base (L2.CX P w) k f fd ps (spF g (fun _ _ => .stuck) ps.length) :=
  ⟨fun vs H Q E h => h.1, fun A outer s H args us vs Q E hr he hb hv hs => by obtain ⟨_, a, h, ds, _, _, _, p⟩ := hs; exact p.elim⟩
/-- a def's small text, with its calls -/
noncomputable def defF (es : List En) (nm : Nat) (keep : Bool) (body : List S) : Fn := runF (csL es) nm keep body
noncomputable def recF (es : List En) (nm : Nat) (keep : Bool) (body : List S) : Nat → Fn
  | 0 => fun _ _ => .stuck
  | d + 1 => defF (es ++ [⟨recF es nm keep body d, .non⟩]) nm keep body
theorem def_sound {h : Heap} (X : Hd K mg g h) {k : Nat} {es : List En} {rs : List Ref} (R : Refs P w K mg base g k es rs) {x qual : Str} {st : Stmt} {f : Addr} {fd : FuncData} {N ps : List Str} {keep : Bool} {body : List S} (F : Fun K x qual st f fd) (sc : FnScope N ps (defScope st))
    {n : Nat} (hn : N.length = n) (hc : chkSs (tbL rs) N (defScope st) body (defBody st) = true) : FnOk P w K mg base (L2.CX P w) (k + 1) f fd ps (spF g (defF es n keep body) ps.length) := by
  subst hn
  exact fn_sound F sc hc X.kl X.free R.2
theorem rec_sound {h : Heap} (X : Hd K mg g h) {k : Nat} {es : List En} {rs : List Ref} (R : Refs P w K mg base g k es rs) {x qual : Str} {st : Stmt} {f : Addr} {fd : FuncData} {N ps : List Str} {keep : Bool} {body : List S} (F : Fun K x qual st f fd) (sc : FnScope N ps (defScope st))
    {n : Nat} (hn : N.length = n) {r : Ref} (hr : ∀ k' F', FnOk P w K mg base (L2.CX P w) k' f fd ps (spF g F' ps.length) → RefOk P w K mg base g k' ⟨fun _ => F', fun _ => .non⟩ 0 r) (hc : chkSs (tbL (rs ++ [r])) N (defScope st) body (defBody st) = true) :
    ∀ d, FnOk P w K mg base (L2.CX P w) (k + d) f fd ps (spF g (recF es n keep body d) ps.length)
  | 0 => stuck_fn
  | d + 1 => by
    have ih := rec_sound (keep := keep) X R F sc hn hr hc d
    exact def_sound X (R.snoc (e := ⟨recF es n keep body d, .non⟩) (Nat.le_add_right k d) (hr _ _ ih)) F sc hn hc
/-- references from defs -/
theorem ref_fn {h : Heap} (X : Hd K mg g h) {k : Nat} {x : Str} {fd : FuncData} {ps : List Str} {F : Fn} {n : Nat} (hn : ps.length = n) (hg : mg x = some (.ref (pG x K))) (kp : PySem.W.keepIn K (.ref (pG x K)) = true) (b : Binds K fd ps [])
    (G : FnOk P w K mg base (L2.CX P w) k (pG x K) fd ps (spF g F ps.length)) : RefOk P w K mg base g k ⟨fun _ => F, fun _ => .non⟩ 0 (.fn x n) := ⟨_, fd, ps, hn, hg, kp, G, b⟩
theorem ref_st {h : Heap} (X : Hd K mg g h) {k : Nat} {C m : Str} {fd : FuncData} {ps : List Str} {F : Fn} {n : Nat} (hn : ps.length = n) (hg : mg C = some (.ref (He.ga K C))) (c : stB C m K = true) (kp : PySem.W.keepIn K (.ref (pS C m K)) = true) (b : Binds K fd ps [])
    (G : FnOk P w K mg base (L2.CX P w) k (pS C m K) fd ps (spF g F ps.length)) : RefOk P w K mg base g k ⟨fun _ => F, fun _ => .non⟩ 0 (.st C m n) := by
  obtain ⟨c1, c2⟩ := Bool.and_eq_true_iff.mp c
  obtain ⟨c2, c3⟩ := Bool.and_eq_true_iff.mp c2
  obtain ⟨w1, w2⟩ := He5.wrapB_ok c3
  exact ⟨_, .type "type", _, _, fd, ps, hn, hg, ⟨c1, He.eqO_ok c2⟩, ⟨w1, w2⟩, kp, G, b⟩
theorem ref_cc {h : Heap} (X : Hd K mg g h) {k : Nat} {C f : Str} {i : Int} (hg : mg C = some (.ref (He.ga K C))) (c : ccB C f i K = true) : RefOk P w K mg base g k ⟨fun _ _ _ => .stuck, fun _ => .int i⟩ 0 (.cc C f) := by
  obtain ⟨c1, c2⟩ := Bool.and_eq_true_iff.mp c
  obtain ⟨q2, c3⟩ := Bool.and_eq_true_iff.mp c2
  split at c3
  · rename_i j t e
    have hj := of_decide_eq_true c3
    subst hj
    exact ⟨_, .type "type", .int j, _, hg, ⟨c1, He.eqO_ok q2⟩, ⟨e, ⟨t, rfl⟩⟩, fun a => .int _⟩
  · cases c3
end
/-- the law's list -/
def klOf (K : PySem.W.Frag) (p : Addr) (vs : List V) : Prop := ∃ (o : Obj) (its : Array Value) (n : Nat), K.lookup p = some o ∧ o.cls = .type "list" ∧ o.dict = none ∧ o.data = .seq its n ∧ its.size ≤ sizeLine ∧ Vals vs its.toList
def giOf (K : PySem.W.Frag) (cl : Nat → Str) (fn : Nat → List Str) (sl : Nat → Bool) : Gi := ⟨fun c => He.ga K (cl c), fn, klOf K, sl⟩
theorem kl_of {K : PySem.W.Frag} {cl : Nat → Str} {fn : Nat → List Str} {sl : Nat → Bool} : ∀ p vs H, (giOf K cl fn sl).kl p vs → SqL K H p vs := fun p vs H h => .inr h
def LawT (F : Fn) (n : Nat) : Prop := ∀ ns : List Int, ns.length ≤ n → (∀ z ∈ ns, Builtin.Int.intBits z ≤ 1048576) → ∃ h, F [.ro (ns.map .int)] [] = .ok (.bl true) h
theorem law_sp {K : PySem.W.Frag} {cl : Nat → Str} {fn : Nat → List Str} {sl : Nat → Bool} {F : Fn} {n : Nat} (L : LawT F n) (H : Hp) (a : Addr) (ns : List Int) (hl : ns.length ≤ n) (hb : ∀ z ∈ ns, Builtin.Int.intBits z ≤ 1048576) (hO : Only H) (hS : SqL K H a (ns.map V.int)) :
    spF (giOf K cl fn sl) F 1 [.ref a] H (fun v _ => v = .bl true) fun _ _ _ => False := by
  obtain ⟨h, e⟩ := L ns hl hb
  refine ⟨rfl, ⟨[], fun _ => False, H⟩, [], [.ro (ns.map .int)], rfl, ⟨rfl, List.nodup_nil, fun p z => z.elim, (fun p z => by cases z), fun n c p z => by simp at z⟩, ?_, ?_⟩
  · refine .cons ?_ .nil
    simp only [RepV]
    refine ⟨a, ns.map V.int, rfl, ?_, .of_ints ns⟩
    rcases hS with hS | hS
    · left
      refine ⟨fun z => z.elim (fun z => by cases z) id, ?_⟩
      rcases hS with hS | ⟨o, hS⟩
      · rcases hO a with z | ⟨o, xs, z⟩
        · rw [hS] at z; cases z
        · rw [hS] at z; cases z
      · exact ⟨o, hS⟩
    · right; exact hS
  · rw [e]
    intro v b m hb rv
    exact rv.bl_inv
theorem cx_false {P : Program} {w : World} (H : Hp) (s : Shared) (e : Value) (s' : Shared) : L2.CX P w [] H s (fun _ _ _ => False) e s' → False := fun ⟨_, _, _, _, _, _, _, _, _, _, _, _, z⟩ => z
/-- the end: facts give the law's function -/
theorem walk_end {l : PySem.W.OpenLaw} {n k : Nat} {q : Program} {loose : List Str} {XP : (Str → Option Value) → Heap → Prop} {fn : List DfA} {ex : PySem.W.Frag → Bool} {d : DefRec} {x : Str} {m : Nat} {cl : Nat → Str} {fl : Nat → List Str} {sl : Nat → Bool} {F : Fn}
    (hn : l.most = some n) (hn2 : n ≤ sizeLine) (hdf : d.params.defaults = []) (hr : Room k callerA) (hnm : d.name = "law") (L : LawT F n)
    (G : ∀ (w : World) (K : PySem.W.Frag) (mg : Str → Option Value) (h : Heap), K.In h → h.Ns mainGlobals mg → SaysS fn ex K → mg "law" = some (.ref (pG "law" K)) ∧ ∃ fd, (∀ (s : Shared) (u : Value), BindsTo s fd ⟨[u], []⟩ [(x, u)]) ∧
      ∀ base : Heap, K.In base → base.Ns mainGlobals mg → FnOk l.prog w K mg base (L2.CX l.prog w) k (pG "law" K) fd [x] (spF (giOf K cl fl sl) F 1)) :
    PySem.W.WalkO q loose XP (hookS m fn ex).says l.row.toRowW d [] (fun f vs => PySem.call f vs) := by
  refine Att.attach_callB hn hdf fun w s₀ s₁ mg mb fa o pm cd doc a vs ns G' Y ho hd hcd hmg hobj hints hlen hbits hg => ?_
  obtain ⟨K, KX, c⟩ := Y
  obtain ⟨e1, fd, hb, hF⟩ := G w K mg _ KX G'.T.g c
  rw [hnm, e1] at hmg
  cases hmg
  exact law_call KX G'.T.g G'.T.b G'.T.builtins G'.T.nolimit hg hobj hints (Nat.le_trans hlen hn2) hr hF hb (fun H hO hS => law_sp L H a ns hlen hbits hO hS) fun H e s' => cx_false H s₁ e s'
end Sm

/-! A class with two slots, made. -/
namespace Sm
open PySem PySem.Spec PyProof.Rows L2
/-- a new number: the second argument passed by req, the first reduced; fields in the slots' order -/
noncomputable def num2F (req : Fn) (c : Nat) : Fn := fun ds h => match ds with
  | [.int v, .int p] => (req [.int p] h).bind fun _ h => if 0 < p then .ok (.obj c [.int p, .int (v % p)]) h else .stuck
  | _ => .stuck
section
variable {P : Program} {w : World} {K : PySem.W.Frag} {mg : Str → Option Value} {base : Heap} {g : Gi}
theorem slH_ghost {H : Hp} {p C dx q : Addr} {vs : List (Option V)} (h1 : q ≠ p) (h2 : q ≠ dx) : SlX.slH H p C dx vs q = H q := SlX.slH_ne h1 h2
theorem num_init {h : Heap} (X : Hd K mg g h) {k : Nat} {req : Fn} {x qual : Str} {st : Stmt} {f : Addr} {fd : FuncData} {c : Nat} {e1 e2 e3 : Expr} {p1 p2 p3 q1 q2 q3 q4 : Pos} {pv pp : Addr}
    (R : Refs P w K mg base g k [⟨req, .non⟩] [.fn "require_prime" 1])
    (F : Fun K x qual st f fd) (sc : FnScope ["self", "value", "prime"] ["self", "value", "prime"] (defScope st))
    (hb : defBody st = [.Expr e1 p1, .Assign [.Attribute (.Name "self" q1) "value" q2] e2 p2, .Assign [.Attribute (.Name "self" q3) "prime" q4] e3 p3])
    (c1 : chk (tbL [.fn "require_prime" 1]) ["self", "value", "prime"] (defScope st) (.call 0 [.var 2]) e1 = true) (n1 : notComp e1 = true)
    (c2 : chk (tbL [.fn "require_prime" 1]) ["self", "value", "prime"] (defScope st) (.bin .mod (.var 1) (.var 2)) e2 = true) (n2 : notComp e2 = true)
    (c3 : chk (tbL [.fn "require_prime" 1]) ["self", "value", "prime"] (defScope st) (.var 2) e3 = true) (n3 : notComp e3 = true)
    (cs1 : chk (tbL [.fn "require_prime" 1]) ["self", "value", "prime"] (defScope st) (.var 0) (.Name "self" q1) = true)
    (cs2 : chk (tbL [.fn "require_prime" 1]) ["self", "value", "prime"] (defScope st) (.var 0) (.Name "self" q3) = true)
    (hsl : g.sl c = true) (hfn : (g.fn c).length = 2) (cl : SlX.SCls K (g.ca c)) (sp : SlX.Slot1 K (g.ca c) "prime" pp 0) (sv : SlX.Slot1 K (g.ca c) "value" pv 1) :
    FnOk P w K mg base (L2.CX P w) (k + 1) f fd ["self", "value", "prime"] (spN g (g.ca c) (num2F req c) 2) := by
  refine F.okX sc (fun vs H Q E h => h.1) fun cdv A outer s H vs Q E hr h => ?_
  obtain ⟨hl, p, dx, ws, a, h0, ds, rfl, rfl, np, ndx, ne, hra, rds, post⟩ := h
  rw [hb]
  generalize hH0 : upd (upd a.H dx (.own p)) p (.ins (g.ca c) dx []) = H0 at hr ⊢
  have C : Kn (cxOf (L2.CX P w) P w K mg base ["self", "value", "prime"] qual (defScope st) f cdv A outer s H0 E) g (csL [⟨req, .non⟩]) (tbL [.fn "require_prime" 1]) k ["self", "value", "prime"] (defScope st) := ⟨rfl, rfl, sc.nd, rfl, X.kl, hr, X.free, R.2⟩
  have tk : Takes (cxOf (L2.CX P w) P w K mg base ["self", "value", "prime"] qual (defScope st) f cdv A outer s H0 E) (fun cls d _ H => E cls d H) := takes_of rfl rfl rfl rfl
  obtain ⟨⟨t1, pe1, g1⟩, _⟩ := snd _ C tk _ c1
  obtain ⟨⟨t2, pe2, g2⟩, _⟩ := snd _ C tk _ c2
  obtain ⟨⟨t3, pe3, g3⟩, _⟩ := snd _ C tk _ c3
  have pv1 := pe_of_var C cs1
  have pv2 := pe_of_var C cs2
  have sw : ∀ {e : Expr} {t : Expr} {l : Nat} {env : Env}, notComp e = true → swapsWith e (some t) l env = pure false := fun {e t l env} h => by
    cases e <;> first | rfl | (simp [notComp] at h)
  refine ⟨_, pss_cons (ps_expr pe1 (swaps_no2 n1)) (pss_cons (SlX.ps_sl pv1 pe2 (sw n2)) (pss_one (SlX.ps_sl pv2 pe3 (sw n3)))), ?_⟩
  -- the arguments
  have hds : ∃ v q, ds = [.int v, .int q] := by
    unfold num2F at post
    split at post
    · exact ⟨_, _, rfl⟩
    · exact post.elim
  obtain ⟨v, q, rfl⟩ := hds
  have hws : ws = [.int v, .int q] := by
    obtain ⟨w1, r1, rfl, h1, h2⟩ := (by simpa only [RepVs] using rds : ∃ v' r, ws = v' :: r ∧ RepV g a (.int v) v' ∧ RepVs g a [.int q] r)
    cases h1.int_inv
    obtain ⟨w2, r2, rfl, h3, h4⟩ := (by simpa only [RepVs] using h2 : ∃ v' r, r1 = v' :: r ∧ RepV g a (.int q) v' ∧ RepVs g a [] r)
    cases h3.int_inv
    simp only [RepVs] at h4
    rw [h4]
  subst hws
  -- a view in which the new thing is in the making
  let a1 : Vw := ⟨a.m, fun z => a.G z ∨ z = p ∨ z = dx, H0⟩
  have old : ∀ z o, a.H z = some o → z ≠ p ∧ z ≠ dx ∧ H0 z = some o := fun z o e => by
    have z1 : z ≠ p := ne_of_none e np
    have z2 : z ≠ dx := ne_of_none e ndx
    exact ⟨z1, z2, by rw [← hH0, upd_ne z1, upd_ne z2]; exact e⟩
  have m01 : Mono0 a a1 := ⟨⟨[], by simp [a1]⟩, fun z o nM e => by
    obtain ⟨z1, z2, e'⟩ := old z o e
    exact ⟨fun y => y.elim (fun y => nM (.inl y)) fun y => y.elim (fun y => nM (.inr y)) fun y => y.elim z1 z2, e'⟩⟩
  have pm : p ∉ a.m := fun y => hra.mem y np
  have dm : dx ∉ a.m := fun y => hra.mem y ndx
  have hH0p : H0 p = some (.ins (g.ca c) dx []) := by rw [← hH0]; exact upd_same
  have hH0d : H0 dx = some (.own p) := by rw [← hH0, upd_ne ne, upd_same]
  have hr1 : HeapRel g a1 h0 := by
    refine ⟨hra.len, hra.nd, fun z hz => ?_, fun z hz => ?_, fun n cc z e1 e2 => ?_⟩
    · rcases hz with y | rfl | rfl
      · cases e : a.H z with
        | none => exact absurd e (hra.live z y)
        | some o => show H0 z ≠ none; rw [(old z o e).2.2]; simp
      · show H0 z ≠ none; rw [hH0p]; simp
      · show H0 z ≠ none; rw [hH0d]; simp
    · rintro (y | rfl | rfl)
      · exact hra.apart z hz y
      · exact pm hz
      · exact dm hz
    · have cr := hra.rep n cc z e1 e2
      cases e : a.H z with
      | none => exact absurd e cr.some
      | some o =>
        rw [e] at cr
        show CellRep g a1 cc (H0 z)
        rw [(old z o e).2.2]
        exact cr.mono0 m01
  have er1 : EnvR g a1 [none, some (.int v), some (.int q)] (L2.start ["self", "value", "prime"] [.ref p, .int v, .int q]) := by
    refine ⟨rfl, fun i d e => ?_⟩
    match i, e with
    | 0, e => cases e
    | 1, e => cases e; exact ⟨.int v, rfl, .int v⟩
    | 2, e => cases e; exact ⟨.int q, rfl, .int q⟩
    | n + 3, e => cases e
  -- require_prime(prime)
  refine g1 a1 h0 _ _ _ hr1 er1 ?_
  have ev1 : ev (csL [⟨req, .non⟩]) (.call 0 [.var 2]) false [none, some (.int v), some (.int q)] h0 = req [.int q] h0 := by
    simp [ev, evs, tr, csL]
  rw [ev1]
  simp only [num2F] at post
  cases er : req [.int q] h0 with
  | stuck => rw [er] at post; exact post.elim
  | ex xx h1 =>
    rw [er] at post
    intro cls d b mb hrb rx
    refine post cls d b ?_ hrb rx
    exact ⟨mb.pre, fun z o nm e => by
      obtain ⟨z1, z2, e'⟩ := old z o e
      obtain ⟨y1, y2, y3⟩ := mb.all z o nm e'
      exact ⟨y1, y2, fun nG => y3 fun y => y.elim nG fun y => y.elim z1 z2⟩, fun z y => mb.gh z (.inl y)⟩
  | ok d1 h1 =>
    rw [er] at post
    simp only [Sm.R.bind_ok] at post
    split at post
    · rename_i hq
      intro u1 b mb hrb _
      have erb := er1.mono mb
      -- self.value = value % prime
      refine g2 b h1 _ _ _ hrb erb ?_
      have ev2 : ev (csL [⟨req, .non⟩]) (.bin .mod (.var 1) (.var 2)) false [none, some (.int v), some (.int q)] h1 = .ok (.int (v % q)) h1 := by
        simp [ev, tr, binV, binI, hq]
      rw [ev2]
      intro u2 b2 mb2 hrb2 ru2
      cases ru2.int_inv
      have m12 := mb.trans mb2
      have kp : p ∉ b2.m ∧ b2.H p = some (.ins (g.ca c) dx []) ∧ b2.G p := by
        obtain ⟨y1, y2, _⟩ := m12.all p _ pm hH0p
        exact ⟨y1, y2, m12.gh p (.inr (.inl rfl))⟩
      have kd : dx ∉ b2.m ∧ b2.G dx := by
        obtain ⟨y1, _, _⟩ := m12.all dx _ dm hH0d
        exact ⟨y1, m12.gh dx (.inr (.inr rfl))⟩
      refine ⟨.ref p, rfl, p, _, dx, pv, [], 1, rfl, .inl ⟨kp.2.1, rfl⟩, cl, sv, ?_⟩
      -- self.prime = prime
      let b3 : Vw := ⟨b2.m, b2.G, SlX.slH b2.H p (g.ca c) dx (SlX.putS 1 (.int (v % q)) [])⟩
      have m23 : Mono0 b2 b3 := ⟨⟨[], by simp [b3]⟩, fun z o nM e => by
        have z1 : z ≠ p := fun y => nM (.inr (by rw [y]; exact kp.2.2))
        have z2 : z ≠ dx := fun y => nM (.inr (by rw [y]; exact kd.2))
        exact ⟨nM, by show SlX.slH _ _ _ _ _ z = _; rw [slH_ghost z1 z2]; exact e⟩⟩
      have hr3 : HeapRel g b3 h1 := by
        refine ⟨hrb2.len, hrb2.nd, fun z hz => ?_, hrb2.apart, fun n cc z e1 e2 => ?_⟩
        · show SlX.slH _ _ _ _ _ z ≠ none
          by_cases z1 : z = p
          · subst z1; unfold SlX.slH; rw [upd_same]; simp
          · by_cases z2 : z = dx
            · subst z2; unfold SlX.slH; rw [upd_ne z1, upd_same]; simp
            · rw [slH_ghost z1 z2]; exact hrb2.live z hz
        · have z1 : z ≠ p := fun y => kp.1 (y ▸ List.mem_of_getElem? e2)
          have z2 : z ≠ dx := fun y => kd.1 (y ▸ List.mem_of_getElem? e2)
          show CellRep g b3 cc (SlX.slH _ _ _ _ _ z)
          rw [slH_ghost z1 z2]
          exact (hrb2.rep n cc z e1 e2).mono0 m23
      have er3 : EnvR g b3 [none, some (.int v), some (.int q)] (L2.start ["self", "value", "prime"] [.ref p, .int v, .int q]) :=
        ⟨erb.len, fun i d e => by
          obtain ⟨v', e1, r1⟩ := (erb.mono mb2).rep i d e
          exact ⟨v', e1, r1.mono0 m23⟩⟩
      refine g3 b3 h1 _ _ _ hr3 er3 ?_
      have ev3 : ev (csL [⟨req, .non⟩]) (.var 2) false [none, some (.int v), some (.int q)] h1 = .ok (.int q) h1 := by
        simp [ev, tr]
      rw [ev3]
      intro u3 b4 mb4 hrb4 ru3
      cases ru3.int_inv
      have kp4 : p ∉ b4.m ∧ b4.H p = some (SlX.SlO p (g.ca c) dx (SlX.putS 1 (.int (v % q)) [])) ∧ b4.G p := by
        obtain ⟨y1, y2, _⟩ := mb4.all p _ kp.1 (show b3.H p = some _ from upd_same)
        exact ⟨y1, y2, mb4.gh p kp.2.2⟩
      have kd4 : dx ∉ b4.m ∧ b4.H dx = some (.xd []) ∧ b4.G dx := by
        obtain ⟨y1, y2, _⟩ := mb4.all dx _ kd.1 (show b3.H dx = some (.xd []) from by show SlX.slH _ _ _ _ _ dx = _; unfold SlX.slH; rw [upd_ne ne, upd_same])
        exact ⟨y1, y2, mb4.gh dx kd.2⟩
      refine ⟨.ref p, rfl, p, _, dx, pp, _, 0, rfl, .inr ⟨kp4.2.1, kd4.2.1⟩, cl, sp, ?_⟩
      have hput : SlX.putS 0 (.int q) (SlX.putS 1 (.int (v % q)) []) = [some (.int q), some (.int (v % q))] := rfl
      rw [hput]
      -- what stands now
      let b5 : Vw := ⟨b4.m, fun z => b4.G z ∧ z ≠ p ∧ z ≠ dx, SlX.slH b4.H p (g.ca c) dx [some (.int q), some (.int (v % q))]⟩
      have h5p : b5.H p = some (SlX.SlO p (g.ca c) dx [some (.int q), some (.int (v % q))]) := upd_same
      have h5d : b5.H dx = some (.xd []) := by show SlX.slH _ _ _ _ _ dx = _; unfold SlX.slH; rw [upd_ne ne, upd_same]
      have m45 : Mono0 b4 b5 := ⟨⟨[], by simp [b5]⟩, fun z o nM e => by
        have z1 : z ≠ p := fun y => nM (.inr (by rw [y]; exact kp4.2.2))
        have z2 : z ≠ dx := fun y => nM (.inr (by rw [y]; exact kd4.2.2))
        exact ⟨fun y => nM (y.elim .inl fun y => .inr y.1), by show SlX.slH _ _ _ _ _ z = _; rw [slH_ghost z1 z2]; exact e⟩⟩
      have hr5 : HeapRel g b5 h1 := by
        refine ⟨hrb4.len, hrb4.nd, fun z hz => ?_, fun z hz y => hrb4.apart z hz y.1, fun n cc z e1 e2 => ?_⟩
        · show SlX.slH _ _ _ _ _ z ≠ none
          rw [slH_ghost hz.2.1 hz.2.2]; exact hrb4.live z hz.1
        · have z1 : z ≠ p := fun y => kp4.1 (y ▸ List.mem_of_getElem? e2)
          have z2 : z ≠ dx := fun y => kd4.1 (y ▸ List.mem_of_getElem? e2)
          show CellRep g b5 cc (SlX.slH _ _ _ _ _ z)
          rw [slH_ghost z1 z2]
          exact (hrb4.rep n cc z e1 e2).mono0 m45
      have mf : Mono a b5 := by
        obtain ⟨x1, hx1⟩ := m12.pre
        obtain ⟨x2, hx2⟩ := mb4.pre
        refine ⟨⟨x1 ++ x2, by show b4.m = _; rw [hx2]; show b2.m ++ x2 = _; rw [hx1]; simp [a1]⟩, fun z o nm e => ?_, fun z y => ?_⟩
        · obtain ⟨z1, z2, e'⟩ := old z o e
          obtain ⟨y1, y2, y3⟩ := m12.all z o nm e'
          have y4 : b3.H z = some o := by show SlX.slH _ _ _ _ _ z = _; rw [slH_ghost z1 z2]; exact y2
          obtain ⟨w1, w2, w3⟩ := mb4.all z o y1 y4
          exact ⟨w1, by show SlX.slH _ _ _ _ _ z = _; rw [slH_ghost z1 z2]; exact w2, fun nG y => w3 (y3 fun y => y.elim nG fun y => y.elim z1 z2) y.1⟩
        · have z0 : a.H z ≠ none := hra.live z y
          exact ⟨mb4.gh z (m12.gh z (.inl y)), fun y => z0 (y ▸ np), fun y => z0 (y ▸ ndx)⟩
      refine post (.ref p) b5 mf hr5 ?_ rfl
      have nMp : ¬ b5.M p := fun y => y.elim kp4.1 fun y => y.2.1 rfl
      have nMd : ¬ b5.M dx := fun y => y.elim kd4.1 fun y => y.2.2 rfl
      simp only [RepV]
      exact ⟨p, dx, [.int q, .int (v % q)], rfl, nMp, .inr ⟨hsl, h5p, nMd, h5d⟩, by rw [hfn]; exact Nat.le_refl _, .cons (.int q) (.cons (.int _) .nil)⟩
    · exact post.elim
end
end Sm
namespace Sm
open PySem PySem.Spec PyProof.Rows L2
/-! ### facts of such a class -/
def slotB (C f : Str) (i : Nat) (K : PySem.W.Frag) : Bool :=
  He.eqO (PySem.W.findIn K (.ref (He.ga K C)) f) (some (some (.ref (He.ma K (He.ga K C) f)))) && (He.eqO (PySem.W.specialIn K (.ref (He.ma K (He.ga K C) f)) "__get__") (some (some (.builtin "member_descriptor.__get__"))) &&
  (decide (PySem.W.takesIn K (.ref (He.ma K (He.ga K C) f)) = some true) && (decide (PySem.W.typeIn K (.ref (He.ma K (He.ga K C) f)) = some (.type "member_descriptor")) && decide (PySem.W.slotIn K (He.ma K (He.ga K C) f) (He.ga K C) = some i))))
theorem slotB_ok {C f : Str} {i : Nat} {K : PySem.W.Frag} (h : slotB C f i K = true) (hi : i < 1000) : SlX.Slot1 K (He.ga K C) f (He.ma K (He.ga K C) f) i := by
  obtain ⟨h1, h⟩ := Bool.and_eq_true_iff.mp h
  obtain ⟨h2, h⟩ := Bool.and_eq_true_iff.mp h
  obtain ⟨h3, h⟩ := Bool.and_eq_true_iff.mp h
  obtain ⟨h4, h5⟩ := Bool.and_eq_true_iff.mp h
  exact ⟨He.eqO_ok h1, He.eqO_ok h2, of_decide_eq_true h3, of_decide_eq_true h4, of_decide_eq_true h5, hi⟩
def sclB (C : Str) (K : PySem.W.Frag) : Bool := PySem.W.plainGet K (He.ga K C) Str.empty && (PySem.W.isClsIn K (He.ga K C) && (PySem.W.plainOver K (He.ga K C) && He.eqO (PySem.W.findIn K (.ref (He.ga K C)) "__setattr__") (some (some (.builtin "object.__setattr__")))))
theorem sclB_ok {C : Str} {K : PySem.W.Frag} (h : sclB C K = true) : SlX.SCls K (He.ga K C) := by
  obtain ⟨h1, h⟩ := Bool.and_eq_true_iff.mp h
  obtain ⟨h2, h⟩ := Bool.and_eq_true_iff.mp h
  obtain ⟨h3, h4⟩ := Bool.and_eq_true_iff.mp h
  exact ⟨h1, h2, h3, He.eqO_ok h4⟩
def mkrB (C : Str) (K : PySem.W.Frag) : Bool := (He.Fa.mkr C).ok K
theorem mkrB_ok {C : Str} {K : PySem.W.Frag} (h : mkrB C K = true) : Mk K (He.ga K C) (pM C "__init__" K) := by
  obtain ⟨h1, h⟩ := Bool.and_eq_true_iff.mp h
  obtain ⟨h2, h⟩ := Bool.and_eq_true_iff.mp h
  obtain ⟨h3, h4⟩ := Bool.and_eq_true_iff.mp h
  exact ⟨h1, He.eqO_ok h2, h3, h4⟩
def siB (C m : Str) (K : PySem.W.Frag) : Bool := PySem.W.plainGet K (He.ga K C) Str.empty && (PySem.W.isClsIn K (He.ga K C) && (He.eqO (PySem.W.findIn K (.ref (He.ga K C)) m) (some (some (.ref (He.ma K (He.ga K C) m)))) && (decide (PySem.W.typeIn K (.ref (He.ma K (He.ga K C) m)) = some (.type "staticmethod")) &&
  (He.eqO (PySem.W.specialIn K (.ref (He.ma K (He.ga K C) m)) "__get__") (some (some (.builtin "staticmethod.__get__"))) && (decide (PySem.W.takesIn K (.ref (He.ma K (He.ga K C) m)) = some false) && (!PySem.W.copiedNames.contains m && (match PySem.W.recIn K (He.ma K (He.ga K C) m) "staticmethod" with
    | some (.ref _ :: _) => true
    | _ => false)))))))
theorem siB_ok {C m : Str} {K : PySem.W.Frag} (h : siB C m K = true) : SInst K (He.ga K C) m (He.ma K (He.ga K C) m) (pS C m K) := by
  obtain ⟨h1, h⟩ := Bool.and_eq_true_iff.mp h
  obtain ⟨h2, h⟩ := Bool.and_eq_true_iff.mp h
  obtain ⟨h3, h⟩ := Bool.and_eq_true_iff.mp h
  obtain ⟨h4, h⟩ := Bool.and_eq_true_iff.mp h
  obtain ⟨h5, h⟩ := Bool.and_eq_true_iff.mp h
  obtain ⟨h6, h⟩ := Bool.and_eq_true_iff.mp h
  obtain ⟨h7, h8⟩ := Bool.and_eq_true_iff.mp h
  refine ⟨h1, h2, He.eqO_ok h3, of_decide_eq_true h4, He.eqO_ok h5, of_decide_eq_true h6, by simpa using h7, ?_⟩
  split at h8
  · rename_i f r e
    refine ⟨r, ?_⟩
    rw [e]
    unfold pS He5.wf
    rw [e]
  · cases h8
section
variable {P : Program} {w : World} {K : PySem.W.Frag} {mg : Str → Option Value} {base : Heap} {cl : Nat → Str} {fn : Nat → List Str} {sl : Nat → Bool}
theorem ref_sti {k : Nat} {c : Nat} {C m : Str} {fd : FuncData} {ps : List Str} {F : Fn} {n : Nat} (hc : cl c = C) (hs : sl c = true) (hn : ps.length = n) (b : siB C m K = true) (kp : PySem.W.keepIn K (.ref (pS C m K)) = true) (bi : Binds K fd ps [])
    (G : FnOk P w K mg base (L2.CX P w) k (pS C m K) fd ps (spF (giOf K cl fn sl) F ps.length)) : RefOk P w K mg base (giOf K cl fn sl) k ⟨fun _ => F, fun _ => .non⟩ 0 (.sti c m n) := by
  refine ⟨He.ma K (He.ga K C) m, pS C m K, fd, ps, hn, hs, ?_, kp, G, bi⟩
  show SInst K (He.ga K (cl c)) m _ _
  rw [hc]
  exact siB_ok b
theorem ref_mk {k k' : Nat} {C : Str} {fd : FuncData} {ps : List Str} {F : Fn} {n : Nat} (hn : ps.length = n + 1) (hg : mg C = some (.ref (He.ga K C))) (b : mkrB C K = true) (hk : k + 1 ≤ k') (bi : Binds K fd ps []) {g : Gi} {Ca : Addr} (hca : Ca = He.ga K C)
    (G : FnOk P w K mg base (L2.CX P w) k (pM C "__init__" K) fd ps (spN g Ca F n)) : RefOk P w K mg base g k' ⟨fun _ => F, fun _ => .non⟩ 0 (.mk C n) := by
  subst hca
  exact ⟨_, _, fd, ps, k, hn, hg, mkrB_ok b, hk, G, bi⟩
end
end Sm

/-! Tools for plain laws. -/
namespace Sm
open PySem L2
theorem lt_big {n : Nat} (h : n < 2 ^ 64) : n < big := Nat.lt_of_lt_of_le h (Nat.pow_le_pow_right (by decide) (by decide))
theorem mulOk_of {i j : Int} (h1 : i.natAbs < 2 ^ 64) (h2 : j.natAbs < 2 ^ 64) : mulOk i j = true := by
  unfold mulOk; rw [decide_eq_true (lt_big h1), decide_eq_true (lt_big h2)]; rfl
theorem binI_mul {i j : Int} (h1 : i.natAbs < 2 ^ 64) (h2 : j.natAbs < 2 ^ 64) : binI .mul i j = some (i * j) := by
  simp only [binI]; rw [mulOk_of h1 h2]; rfl
@[simp] theorem binI_add (i j : Int) : binI .add i j = some (i + j) := rfl
@[simp] theorem binI_sub (i j : Int) : binI .sub i j = some (i - j) := rfl
theorem binI_mod {i j : Int} (h : 0 < j) : binI .mod i j = some (i % j) := by simp only [binI]; rw [if_pos h]
theorem binI_fdiv {i j : Int} (h : 0 < j) (h2 : j.natAbs < 2 ^ 64) : binI .fdiv i j = some (i / j) := by simp only [binI]; rw [if_pos ⟨h, lt_big h2⟩]
theorem binI_pow {i j : Int} (h : 0 ≤ j ∧ j ≤ 1000 ∧ i.natAbs < 2 ^ 64) : binI .pow i j = some (i ^ j.toNat) := by simp only [binI]; rw [if_pos h]
theorem binV_int {o : Bop} {i j k : Int} {h : AH} (e : binI o i j = some k) : binV o (.int i) (.int j) h = .ok (.int k) h := by
  simp only [binV, e]
@[simp] theorem binV_add (i j : Int) (h : AH) : binV .add (.int i) (.int j) h = .ok (.int (i + j)) h := rfl
@[simp] theorem binV_sub (i j : Int) (h : AH) : binV .sub (.int i) (.int j) h = .ok (.int (i - j)) h := rfl
theorem binV_mul {i j : Int} (h1 : i.natAbs < 2 ^ 64) (h2 : j.natAbs < 2 ^ 64) (h : AH) : binV .mul (.int i) (.int j) h = .ok (.int (i * j)) h := binV_int (binI_mul h1 h2)
theorem binV_mod {i j : Int} (h0 : 0 < j) (h : AH) : binV .mod (.int i) (.int j) h = .ok (.int (i % j)) h := binV_int (binI_mod h0)
theorem binV_fdiv {i j : Int} (h0 : 0 < j) (h2 : j.natAbs < 2 ^ 64) (h : AH) : binV .fdiv (.int i) (.int j) h = .ok (.int (i / j)) h := binV_int (binI_fdiv h0 h2)
theorem compact_same {keep : Bool} {h h1 : AH} {ds : List D} (e : h1.length = h.length) : compact keep h ds h1 = some (ds, h1) := by
  unfold compact; rw [if_pos e]
theorem endF_rt {keep : Bool} {h h1 : AH} {d : D} (e : h1.length = h.length) : endF keep h (.rt d h1) = .ok d h1 := by
  simp only [endF, compact_same e]
theorem endF_nx {keep : Bool} {h h1 : AH} {ρ : Env'} (e : h1.length = h.length) : endF keep h (.nx ρ h1) = .ok .non h1 := by
  simp only [endF, compact_same e]
/-! ### the equations, for simp: from the left, nothing under a binder -/
noncomputable def seqE (cs : Cs) (ss : List S) (r : SR) : SR := match r with | .nx ρ h => exSs cs ss ρ h | r => r
@[simp] theorem seqE_nx (cs : Cs) (ss : List S) (ρ : Env') (h : AH) : seqE cs ss (.nx ρ h) = exSs cs ss ρ h := rfl
@[simp] theorem seqE_rt (cs : Cs) (ss : List S) (d : D) (h : AH) : seqE cs ss (.rt d h) = .rt d h := rfl
@[simp] theorem seqE_bk (cs : Cs) (ss : List S) (ρ : Env') (h : AH) : seqE cs ss (.bk ρ h) = .bk ρ h := rfl
@[simp] theorem seqE_ct (cs : Cs) (ss : List S) (ρ : Env') (h : AH) : seqE cs ss (.ct ρ h) = .ct ρ h := rfl
@[simp] theorem seqE_ex (cs : Cs) (ss : List S) (x : Exn) (ρ : Env') (h : AH) : seqE cs ss (.ex x ρ h) = .ex x ρ h := rfl
@[simp] theorem seqE_stuck (cs : Cs) (ss : List S) : seqE cs ss .stuck = .stuck := rfl
section
variable (cs : Cs) (ρ : Env') (h : AH)
@[simp] theorem q_nil : exSs cs [] ρ h = .nx ρ h := by simp only [exSs] <;> rfl
@[simp] theorem q_cons (s : S) (ss : List S) : exSs cs (s :: ss) ρ h = seqE cs ss (exS cs s ρ h) := by simp only [exSs] <;> rfl
@[simp] theorem q_asgn (i : Nat) (e : E) : exS cs (.asg (.name i) e) ρ h = (ev cs e false ρ h).sr ρ fun d h => .nx (ρ.set i (some d)) h := by simp only [exS, asG, R.sr_ok]
@[simp] theorem q_asgs (o i e : E) : exS cs (.asg (.sub o i) e) ρ h = (ev cs e false ρ h).sr ρ fun d h => (noEx ((ev cs o false ρ h).bind fun x h => (ev cs i false ρ h).bind fun y h => setV x y d ρ h)).sr ρ fun ρ h => .nx ρ h := by simp only [exS, asG]
@[simp] theorem q_asgt (gs : List G) (e : E) : exS cs (.asg (.tup gs) e) ρ h = (ev cs e false ρ h).sr ρ fun d h => (match d with | .tup ds => asGs cs gs ds ρ h | _ => .stuck).sr ρ fun ρ h => .nx ρ h := by simp only [exS, asG] <;> rfl
@[simp] theorem q_exp (e : E) : exS cs (.exp e) ρ h = (ev cs e false ρ h).sr ρ fun _ h => .nx ρ h := by simp only [exS] <;> rfl
@[simp] theorem q_ret (e : E) : exS cs (.ret e) ρ h = (ev cs e false ρ h).sr ρ fun d h => .rt d h := by simp only [exS] <;> rfl
@[simp] theorem q_iff (c : E) (a b : List S) : exS cs (.iff c a b) ρ h = (ev cs c true ρ h).sr ρ fun d h => match d with
      | .bl true => exSs cs a ρ h
      | .bl false => exSs cs b ρ h
      | _ => .stuck := by simp only [exS] <;> rfl
@[simp] theorem q_cont : exS cs .cont ρ h = .ct ρ h := by simp only [exS] <;> rfl
@[simp] theorem q_brk : exS cs .brk ρ h = .bk ρ h := by simp only [exS] <;> rfl
@[simp] theorem q_pass : exS cs .pass ρ h = .nx ρ h := by simp only [exS] <;> rfl
@[simp] theorem q_never : exS cs .never ρ h = .stuck := by simp only [exS] <;> rfl
@[simp] theorem tr_false (r : R D) : tr false r = r := rfl
@[simp] theorem tr_true (r : R D) : tr true r = r.bind fun d h => (match truV d h with | some b => .ok (.bl b) h | none => .stuck) := rfl
@[simp] theorem q_var (i : Nat) (t : Bool) : ev cs (.var i) t ρ h = tr t (match ρ[i]? with | some (some d) => .ok d h | _ => .stuck) := by simp only [ev] <;> rfl
@[simp] theorem q_con (c : Con) (t : Bool) : ev cs (.con c) t ρ h = tr t (.ok c.d h) := by simp only [ev] <;> rfl
@[simp] theorem q_ccon (f : Nat) (t : Bool) : ev cs (.ccon f) t ρ h = tr t (.ok (cs.con f).d h) := by simp only [ev] <;> rfl
@[simp] theorem q_bin (o : Bop) (a b : E) (t : Bool) : ev cs (.bin o a b) t ρ h = tr t ((ev cs a false ρ h).bind fun x h => (ev cs b false ρ h).bind fun y h => binV o x y h) := by simp only [ev] <;> rfl
@[simp] theorem q_neg (a : E) (t : Bool) : ev cs (.neg a) t ρ h = tr t ((ev cs a false ρ h).bind fun x h => match x with | .int i => .ok (.int (-i)) h | _ => .stuck) := by simp only [ev] <;> rfl
@[simp] theorem q_cmp (o : Cop) (a b : E) (t : Bool) : ev cs (.cmp o a b) t ρ h = (ev cs a false ρ h).bind fun x h => (ev cs b false ρ h).bind fun y h => match cmpV o x y h with | some k => .ok (.bl k) h | none => .stuck := by simp only [ev] <;> rfl
@[simp] theorem q_chain (o p : Cop) (a b c : E) (t : Bool) : ev cs (.chain o p a b c) t ρ h = (ev cs a false ρ h).bind fun x h => (ev cs b false ρ h).bind fun y h => match cmpV o x y h with
      | some true => (ev cs c false ρ h).bind fun z h => (match cmpV p y z h with | some k => .ok (.bl k) h | none => .stuck)
      | some false => .ok (.bl false) h
      | none => .stuck := by simp only [ev] <;> rfl
@[simp] theorem q_band (es : List E) (t : Bool) : ev cs (.band es) t ρ h = evAnd cs es t ρ h := by simp only [ev] <;> rfl
@[simp] theorem q_bor (es : List E) (t : Bool) : ev cs (.bor es) t ρ h = evOr cs es t ρ h := by simp only [ev] <;> rfl
@[simp] theorem q_and1 (e : E) (t : Bool) : evAnd cs [e] t ρ h = ev cs e t ρ h := by simp only [evAnd] <;> rfl
@[simp] theorem q_and2 (e f : E) (es : List E) (t : Bool) : evAnd cs (e :: f :: es) t ρ h = (ev cs e t ρ h).bind fun d h => match d with
      | .bl true => evAnd cs (f :: es) t ρ h
      | .bl false => .ok (.bl false) h
      | _ => .stuck := by simp only [evAnd] <;> rfl
@[simp] theorem q_or1 (e : E) (t : Bool) : evOr cs [e] t ρ h = ev cs e t ρ h := by simp only [evOr] <;> rfl
@[simp] theorem q_or2 (e f : E) (es : List E) (t : Bool) : evOr cs (e :: f :: es) t ρ h = (ev cs e t ρ h).bind fun d h => match d with
      | .bl true => .ok (.bl true) h
      | .bl false => evOr cs (f :: es) t ρ h
      | _ => .stuck := by simp only [evOr] <;> rfl
@[simp] theorem q_bnot (a : E) (t : Bool) : ev cs (.bnot a) t ρ h = (ev cs a t ρ h).bind fun x h => match (if t then blOf x else truV x h) with | some k => .ok (.bl (!k)) h | none => .stuck := by simp only [ev] <;> rfl
@[simp] theorem q_ite (c a b : E) : ev cs (.ite c a b) false ρ h = (ev cs c true ρ h).bind fun x h => match x with
      | .bl true => ev cs a false ρ h
      | .bl false => ev cs b false ρ h
      | _ => .stuck := by simp only [ev] <;> rfl
@[simp] theorem q_tup (es : List E) (t : Bool) : ev cs (.tup es) t ρ h = tr t ((evs cs es ρ h).bind fun ds h => mkT ds h) := by simp only [ev] <;> rfl
@[simp] theorem q_lst (c : Bool) (es : List E) (t : Bool) : ev cs (.lst c es) t ρ h = tr t ((evs cs es ρ h).bind fun ds h => mkL c ds h) := by simp only [ev] <;> rfl
@[simp] theorem q_ix (a i : E) (t : Bool) : ev cs (.ix a i) t ρ h = tr t ((ev cs a false ρ h).bind fun x h => (ev cs i false ρ h).bind fun y h => ixV x y h) := by simp only [ev] <;> rfl
@[simp] theorem q_slice (c : Bool) (a : E) (lo hi : Option E) (t : Bool) : ev cs (.slice c a lo hi) t ρ h = tr t ((ev cs a false ρ h).bind fun x h => (evo cs lo ρ h).bind fun l h => (evo cs hi ρ h).bind fun u h => slV c x l u h) := by simp only [ev] <;> rfl
@[simp] theorem q_call (f : Nat) (es : List E) (t : Bool) : ev cs (.call f es) t ρ h = tr t ((evs cs es ρ h).bind fun ds h => cs.fn f ds h) := by simp only [ev] <;> rfl
@[simp] theorem q_cst (f : Nat) (es : List E) (t : Bool) : ev cs (.cst f es) t ρ h = tr t ((evs cs es ρ h).bind fun ds h => cs.fn f ds h) := by simp only [ev] <;> rfl
@[simp] theorem q_sti (f c : Nat) (a : E) (es : List E) (t : Bool) : ev cs (.sti f c a es) t ρ h = tr t ((ev cs a false ρ h).bind fun x h => match x with
      | .obj c' _ => if c' = c then (evs cs es ρ h).bind fun ds h => cs.fn f ds h else .stuck
      | _ => .stuck) := by simp only [ev] <;> rfl
@[simp] theorem q_bif (b : Bif) (es : List E) (t : Bool) : ev cs (.bif b es) t ρ h = tr t ((evs cs es ρ h).bind fun ds h => bifL false b ds h) := by simp only [ev] <;> rfl
@[simp] theorem q_isb (a : E) (y : Ty) (t : Bool) : ev cs (.isb a y) t ρ h = tr t ((ev cs a false ρ h).bind fun x h => match isbV y h x with | some k => .ok (.bl k) h | none => .stuck) := by simp only [ev] <;> rfl
@[simp] theorem q_snil : evs cs [] ρ h = .ok [] h := by simp only [evs] <;> rfl
@[simp] theorem q_scons (e : E) (es : List E) : evs cs (e :: es) ρ h = (ev cs e false ρ h).bind fun d h => (evs cs es ρ h).bind fun ds h => .ok (d :: ds) h := by simp only [evs] <;> rfl
@[simp] theorem q_onone : evo cs none ρ h = .ok none h := by simp only [evo] <;> rfl
@[simp] theorem q_osome (e : E) : evo cs (some e) ρ h = (ev cs e false ρ h).bind fun d h => match d with | .int i => .ok (some i) h | _ => .stuck := by simp only [evo] <;> rfl
theorem q_for (tg : List Nat) (one : Bool) (it : E) (body : List S) : exS cs (.for tg one it body) ρ h = (evI cs it ρ h).sr ρ fun I h => match I.items h with
      | none => .stuck
      | some all => forGo I all (fun d ρ h => match bindT tg one d ρ with | some ρ => exSs cs body ρ h | none => .stuck) all ρ h := by simp only [exS] <;> rfl
theorem q_whl (n : Nat) (c : E) (body : List S) : exS cs (.whl n c body) ρ h = whlGo (ev cs c true) (exSs cs body) n ρ h := by simp only [exS] <;> rfl
@[simp] theorem q_rng (es : List E) : evI cs (.rng es) ρ h = (evs cs es ρ h).bind fun ds h => match ds with
      | [.int j] => if -(2 ^ 60) ≤ j ∧ j < 2 ^ 60 then .ok (.rng 0 1 j.toNat) h else .stuck
      | [.int i, .int j] => if (-(2 ^ 60) ≤ i ∧ i < 2 ^ 60) ∧ (-(2 ^ 60) ≤ j ∧ j < 2 ^ 60) then .ok (.rng i 1 (j - i).toNat) h else .stuck
      | [.int i, .int j, .int c] => if (-(2 ^ 60) ≤ i ∧ i < 2 ^ 60) ∧ (-(2 ^ 60) ≤ j ∧ j < 2 ^ 60) ∧ c = -1 then .ok (.rng i (-1) (i - j).toNat) h else .stuck
      | _ => .stuck := by simp only [evI] <;> rfl
@[simp] theorem q_seq (a : E) : evI cs (.seq a) ρ h = (ev cs a false ρ h).bind fun d h => ckI (.seq d) h := by simp only [evI] <;> rfl
@[simp] theorem q_enum (a : E) : evI cs (.enum a) ρ h = (ev cs a false ρ h).bind fun d h => ckI (.enum d) h := by simp only [evI] <;> rfl
@[simp] theorem q_zip (a b : E) : evI cs (.zip a b) ρ h = (ev cs a false ρ h).bind fun d h => (ev cs b false ρ h).bind fun e h => ckI (.zip d e) h := by simp only [evI] <;> rfl
end
@[simp] theorem d_int (i : Int) : Con.d (.int i) = .int i := rfl
@[simp] theorem d_bl (i : Bool) : Con.d (.bl i) = .bl i := rfl
@[simp] theorem d_str (i : Str) : Con.d (.str i) = .str i := rfl
@[simp] theorem d_non : Con.d .non = .non := rfl
@[simp] theorem ix_int (x : D) (i : Int) (h : AH) (hx : ∀ s, x ≠ .str s) : ixV x (.int i) h = (match (asSeq h x).bind (atI · i) with | some d => .ok d h | none => .stuck) := by
  unfold ixV
  cases x <;> first | rfl | exact absurd rfl (hx _)
@[simp] theorem seq_ref (h : AH) (n : Nat) : asSeq h (.ref n) = match h[n]? with | some (.lst ds) => some ds | _ => none := rfl
@[simp] theorem seq_lst (h : AH) (ds : List D) : asSeq h (.lst ds) = some ds := rfl
@[simp] theorem seq_tup (h : AH) (ds : List D) : asSeq h (.tup ds) = some ds := rfl
@[simp] theorem lst_ref (h : AH) (n : Nat) : asLst h (.ref n) = match h[n]? with | some (.lst ds) => some ds | _ => none := rfl
@[simp] theorem lst_lst (h : AH) (ds : List D) : asLst h (.lst ds) = some ds := rfl
@[simp] theorem cmp_lt (i j : Int) (h : AH) : cmpV .lt (.int i) (.int j) h = some (decide (i < j)) := rfl
@[simp] theorem cmp_le (i j : Int) (h : AH) : cmpV .le (.int i) (.int j) h = some (decide (i ≤ j)) := rfl
@[simp] theorem cmp_gt (i j : Int) (h : AH) : cmpV .gt (.int i) (.int j) h = some (decide (j < i)) := rfl
@[simp] theorem cmp_ge (i j : Int) (h : AH) : cmpV .ge (.int i) (.int j) h = some (decide (j ≤ i)) := rfl
@[simp] theorem cmp_eq (i j : Int) (h : AH) : cmpV .eq (.int i) (.int j) h = some (decide (i = j)) := rfl
@[simp] theorem cmp_ne (i j : Int) (h : AH) : cmpV .ne (.int i) (.int j) h = some (!decide (i = j)) := rfl
@[simp] theorem cmp_beq (i j : Bool) (h : AH) : cmpV .eq (.bl i) (.bl j) h = some (decide (i = j)) := rfl
@[simp] theorem b_int (i : Int) (h : AH) : bifL false .int [.int i] h = .ok (.int i) h := rfl
@[simp] theorem b_intb (b : Bool) (h : AH) : bifL false .int [.bl b] h = .ok (.int (if b then 1 else 0)) h := rfl
@[simp] theorem b_abs (i : Int) (h : AH) : bifL false .abs [.int i] h = .ok (.int (if i < 0 then -i else i)) h := rfl
theorem b_len {x : D} {h : AH} {ds : List D} (hx : ∀ s, x ≠ .str s) (e : asSeq h x = some ds) : bifL false .len [x] h = .ok (.int ds.length) h := by
  unfold bifL bifV
  cases x <;> first | (simp only [e]; done) | exact absurd rfl (hx _) | (simp only [asSeq, asLst] at e; cases e)
@[simp] theorem b_lenl (ds : List D) (h : AH) : bifL false .len [.lst ds] h = .ok (.int ds.length) h := b_len (by simp) rfl
@[simp] theorem b_lent (ds : List D) (h : AH) : bifL false .len [.tup ds] h = .ok (.int ds.length) h := b_len (by simp) rfl
@[simp] theorem sr_rt {α : Type} (ρ : Env') (a : α) (h : AH) (f : α → AH → SR) : (R.ok a h).sr ρ f = f a h := rfl
@[simp] theorem noEx_ok {α : Type} (a : α) (h : AH) : noEx (R.ok a h) = R.ok a h := rfl
@[simp] theorem setV_ref (n : Nat) (k : Int) (d : D) (ρ : Env') (h : AH) : setV (.ref n) (.int k) d ρ h = (match h[n]? with
        | some (.lst ds) => (match setIx ds k d with | some ds => .ok ρ (h.set n (.lst ds)) | none => .stuck)
        | _ => .stuck) := rfl
theorem ixN_nat {n k : Nat} (h : k < n) : ixN n (k : Int) = some k := by
  unfold ixN; rw [if_pos (Int.natCast_nonneg k), if_pos (by omega)]; simp
theorem atI_nat {α : Type} {xs : List α} {k : Nat} {i : Int} (hi : i = k) (h : k < xs.length) : atI xs i = some xs[k] := by
  subst hi; unfold atI; rw [ixN_nat h]; simp [h]
theorem atI_lt {α : Type} {xs : List α} {i : Int} (h0 : 0 ≤ i) (h : i < xs.length) : atI xs i = xs[i.toNat]? := by
  unfold atI ixN; rw [if_pos h0, if_pos h]; rfl
end Sm
namespace Sm
open PySem L2
/-! ### loops -/
theorem forGo_wp {it : Itr} {all : List D} {f : D → Env' → AH → SR} {Q : SR → Prop} {Inv : Nat → Env' → AH → Prop} (hI : ∀ k ρ h, Inv k ρ h → it.items h = some all)
    (step : ∀ k d ρ h, all[k]? = some d → Inv k ρ h → match f d ρ h with
      | .nx ρ h => Inv (k + 1) ρ h
      | .ct ρ h => Inv (k + 1) ρ h
      | .bk ρ h => Q (.nx ρ h)
      | r => Q r)
    (fin : ∀ ρ h, Inv all.length ρ h → Q (.nx ρ h)) : ∀ {k : Nat} {ρ : Env'} {h : AH}, k ≤ all.length → Inv k ρ h → Q (forGo it all f (all.drop k) ρ h) := by
  intro k ρ h hk hi
  by_cases hlt : k < all.length
  · rw [List.drop_eq_getElem_cons hlt]
    have s := step k _ ρ h (List.getElem?_eq_getElem hlt) hi
    simp only [forGo, hI k ρ h hi, if_true]
    revert s
    cases f all[k] ρ h with
    | nx ρ' h' => exact fun s => forGo_wp hI step fin (k := k + 1) hlt s
    | ct ρ' h' => exact fun s => forGo_wp hI step fin (k := k + 1) hlt s
    | bk ρ' h' => exact fun s => s
    | rt d h' => exact fun s => s
    | ex x ρ' h' => exact fun s => s
    | stuck => exact fun s => s
  · have : k = all.length := by omega
    subst this
    rw [List.drop_length]
    simp only [forGo, hI _ ρ h hi, if_true]
    exact fin ρ h hi
termination_by k => all.length - k
theorem forGo_all {it : Itr} {all : List D} {f : D → Env' → AH → SR} {Q : SR → Prop} (Inv : Nat → Env' → AH → Prop) {ρ : Env'} {h : AH} (h0 : Inv 0 ρ h) (hI : ∀ k ρ h, Inv k ρ h → it.items h = some all)
    (step : ∀ k d ρ h, all[k]? = some d → Inv k ρ h → match f d ρ h with
      | .nx ρ h => Inv (k + 1) ρ h
      | .ct ρ h => Inv (k + 1) ρ h
      | .bk ρ h => Q (.nx ρ h)
      | r => Q r)
    (fin : ∀ ρ h, Inv all.length ρ h → Q (.nx ρ h)) : Q (forGo it all f all ρ h) := by
  have := forGo_wp (f := f) (Q := Q) (k := 0) hI step fin (Nat.zero_le _) h0
  rwa [List.drop_zero] at this
theorem whlGo_wp {c : Env' → AH → R D} {f : Env' → AH → SR} {Q : SR → Prop} {Inv : Nat → Env' → AH → Prop}
    (step : ∀ n ρ h, Inv n ρ h → ∃ b, ∃ h', c ρ h = .ok (.bl b) h' ∧ if b then (∃ m, n = m + 1 ∧ match f ρ h' with
      | .nx ρ h => Inv m ρ h
      | .ct ρ h => Inv m ρ h
      | .bk ρ h => Q (.nx ρ h)
      | r => Q r) else Q (.nx ρ h')) : ∀ {n N : Nat} {ρ : Env'} {h : AH}, n < N → Inv n ρ h → Q (whlGo c f N ρ h) := by
  intro n
  induction n with
  | zero =>
    intro N ρ h hN hi
    obtain ⟨N, rfl⟩ : ∃ M, N = M + 1 := ⟨N - 1, by omega⟩
    obtain ⟨b, h', e, q⟩ := step _ ρ h hi
    simp only [whlGo, e, R.sr_ok]
    cases b with
    | false => exact q
    | true => obtain ⟨m, hm, _⟩ := q; omega
  | succ n ih =>
    intro N ρ h hN hi
    obtain ⟨N, rfl⟩ : ∃ M, N = M + 1 := ⟨N - 1, by omega⟩
    obtain ⟨b, h', e, q⟩ := step _ ρ h hi
    simp only [whlGo, e, R.sr_ok]
    cases b with
    | false => exact q
    | true =>
      obtain ⟨m, hm, s⟩ := q
      obtain rfl : n = m := by omega
      dsimp only
      revert s
      cases f ρ h' with
      | nx ρ' h' => exact fun s => ih (by omega) s
      | ct ρ' h' => exact fun s => ih (by omega) s
      | bk ρ' h' => exact fun s => s
      | rt d h' => exact fun s => s
      | ex x ρ' h' => exact fun s => s
      | stuck => exact fun s => s
theorem compGo_map {it : Itr} {all : List D} {f : D → AH → R (Option D)} {g : D → D} {h : AH} (hI : it.items h = some all) : ∀ {ds acc : List D}, (∀ d ∈ ds, f d h = .ok (some (g d)) h) → acc.length + ds.length ≤ lim → compGo it all f ds acc h = .ok (acc ++ ds.map g) h
  | [], acc, _, _ => by simp only [compGo, hI, if_true]; simp
  | d :: ds, acc, hf, hl => by
    have hl' : acc.length < lim := by simp only [List.length_cons] at hl; omega
    have e := hf d List.mem_cons_self
    simp only [compGo, hI, if_true, e, if_pos hl']
    rw [compGo_map hI (fun d hd => hf d (List.mem_cons_of_mem _ hd)) (by simp only [List.length_append, List.length_cons, List.length_nil] at hl ⊢; omega)]
    simp
theorem compGo_fil {it : Itr} {all : List D} {f : D → AH → R (Option D)} {g : D → Option D} {h : AH} (hI : it.items h = some all) : ∀ {ds acc : List D}, (∀ d ∈ ds, f d h = .ok (g d) h) → acc.length + ds.length ≤ lim → compGo it all f ds acc h = .ok (acc ++ ds.filterMap g) h
  | [], acc, _, _ => by simp only [compGo, hI, if_true]; simp
  | d :: ds, acc, hf, hl => by
    have hl' : acc.length < lim := by simp only [List.length_cons] at hl; omega
    have e := hf d List.mem_cons_self
    simp only [compGo, hI, if_true, e]
    cases hg : g d with
    | none => 
      simp only [hg]
      rw [compGo_fil hI (fun d hd => hf d (List.mem_cons_of_mem _ hd)) (by simp only [List.length_cons] at hl; omega)]
      simp [hg]
    | some y =>
      simp only [hg, if_pos hl']
      rw [compGo_fil hI (fun d hd => hf d (List.mem_cons_of_mem _ hd)) (by simp only [List.length_append, List.length_cons, List.length_nil] at hl ⊢; omega)]
      simp [hg]
/-- each turn gives an item; Inv (turns done, items so far, heap) -/
theorem compGo_inv {it : Itr} {all : List D} {f : D → AH → R (Option D)} (Inv : Nat → List D → AH → Prop) (hI : ∀ k acc h, Inv k acc h → it.items h = some all)
    (step : ∀ k d acc h, all[k]? = some d → Inv k acc h → ∃ y h', f d h = .ok (some y) h' ∧ Inv (k + 1) (acc ++ [y]) h') (hl : all.length ≤ lim) (hlen : ∀ k acc h, Inv k acc h → acc.length = k) :
    ∀ {k : Nat} {acc : List D} {h : AH}, k ≤ all.length → Inv k acc h → ∃ ys h', compGo it all f (all.drop k) acc h = .ok ys h' ∧ Inv all.length ys h' := by
  intro k acc h hk hi
  by_cases hlt : k < all.length
  · rw [List.drop_eq_getElem_cons hlt]
    obtain ⟨y, h', e, s⟩ := step k _ acc h (List.getElem?_eq_getElem hlt) hi
    have hl' : acc.length < lim := by rw [hlen _ _ _ hi]; omega
    simp only [compGo, hI k acc h hi, if_true, e, if_pos hl']
    exact compGo_inv Inv hI step hl hlen (k := k + 1) hlt s
  · have : k = all.length := by omega
    subst this
    rw [List.drop_length]
    simp only [compGo, hI _ acc h hi, if_true]
    exact ⟨acc, h, rfl, hi⟩
termination_by k => all.length - k
theorem q_comp (cs : Cs) (ρ : Env') (h : AH) (cell : Bool) (it : E) (tg : List Nat) (one : Bool) (cond : Option E) (elt : E) (own : List (Str × Nat)) (t : Bool) : ev cs (.comp cell it tg one cond elt own) t ρ h = tr t ((evI cs it ρ h).bind fun I h => match I.items h with
      | none => .stuck
      | some all => (compGo I all (fun d h => match bindT tg one d (wipeD ρ (own.map (·.2))) with
          | none => .stuck
          | some ρ => (evc cs cond ρ h).bind fun k h => if k then (ev cs elt false ρ h).bind fun y h => .ok (some y) h else .ok none h) all [] h).bind fun ds h => mkL cell ds h) := by simp only [ev] <;> rfl
@[simp] theorem q_cnone (cs : Cs) (ρ : Env') (h : AH) : evc cs none ρ h = .ok true h := by simp only [evc]
@[simp] theorem q_csome (cs : Cs) (ρ : Env') (h : AH) (e : E) : evc cs (some e) ρ h = (ev cs e true ρ h).bind fun d h => match d with | .bl b => .ok b h | _ => .stuck := by simp only [evc] <;> rfl
theorem mkL_f {ds : List D} {h : AH} (hl : ds.length ≤ lim) : mkL false ds h = .ok (.lst ds) h := by unfold mkL; rw [if_pos hl]; rfl
theorem mkL_t {ds : List D} {h : AH} (hl : ds.length ≤ lim) : mkL true ds h = .ok (.ref h.length) (h ++ [.lst ds]) := by unfold mkL; rw [if_pos hl]; rfl
theorem mkT_ok {ds : List D} {h : AH} (hl : ds.length ≤ lim) : mkT ds h = .ok (.tup ds) h := by unfold mkT; rw [if_pos hl]
@[simp] theorem bind1 (i : Nat) (d : D) (ρ : Env') : bindT [i] true d ρ = some (ρ.set i (some d)) := rfl
@[simp] theorem wipe0 (ρ : Env') : wipeD ρ [] = ρ := rfl
@[simp] theorem wipe1 (ρ : Env') (v : Nat) (vs : List Nat) : wipeD ρ (v :: vs) = (wipeD ρ vs).set v none := rfl
@[simp] theorem it_rng (h : AH) (lo c : Int) (n : Nat) : Itr.items h (.rng lo c n) = some ((List.range n).map fun (k : Nat) => D.int (lo + k * c)) := rfl
@[simp] theorem it_seq (h : AH) (d : D) : Itr.items h (.seq d) = roSeq h d := rfl
@[simp] theorem ro_ro (h : AH) (ds : List D) : roSeq h (.ro ds) = some ds := rfl
@[simp] theorem ro_lst (h : AH) (ds : List D) : roSeq h (.lst ds) = some ds := rfl
@[simp] theorem ro_tup (h : AH) (ds : List D) : roSeq h (.tup ds) = some ds := rfl
theorem ckI_ok {I : Itr} {h : AH} {all : List D} (e : I.items h = some all) : ckI I h = .ok I h := by unfold ckI; rw [e]
end Sm
namespace Sm
open PySem L2
theorem mapRs_ints (f : Nat → Option D) : ∀ ns : List Int, mapRs f (ns.map D.int) = some (ns.map D.int)
  | [] => by simp [mapRs]
  | n :: ns => by simp [mapRs, mapR, mapRs_ints f ns]
/-- a new cell of still things is kept -/
theorem compact_keep {h : AH} {ds es : List D} (hf : ∀ f, mapO (fz h.length [h.length] (h ++ [Cell.lst ds]) f) ds = some es) : compact true h [.ref h.length] (h ++ [.lst ds]) = some ([.ref h.length], h ++ [.lst es]) := by
  unfold compact
  rw [if_neg (by simp)]
  have hk : keepOf true h.length (h ++ [Cell.lst ds]).length [.ref h.length] = [h.length] := by
    simp [keepOf]
  simp only [hk]
  rw [if_pos (.inl (by simp))]
  have e1 : mapO (fz h.length [h.length] (h ++ [Cell.lst ds]) 6) [D.ref h.length] = some [.ref h.length] := by
    simp [mapO, fz, mapR, fzRef, List.idxOf?_cons]
  rw [e1]
  simp [mapO, fzC, hf]
end Sm
namespace Sm
open PySem L2
/-! ### loops as statements -/
def LpQ (P B : Env' → AH → Prop) (Q : SR → Prop) : SR → Prop
  | .nx ρ h => P ρ h
  | .ct ρ h => P ρ h
  | .bk ρ h => B ρ h
  | r => Q r
section
variable {P B : Env' → AH → Prop} {Q : SR → Prop}
@[simp] theorem lpQ_nx (ρ : Env') (h : AH) : LpQ P B Q (.nx ρ h) = P ρ h := rfl
@[simp] theorem lpQ_ct (ρ : Env') (h : AH) : LpQ P B Q (.ct ρ h) = P ρ h := rfl
@[simp] theorem lpQ_bk (ρ : Env') (h : AH) : LpQ P B Q (.bk ρ h) = B ρ h := rfl
@[simp] theorem lpQ_rt (d : D) (h : AH) : LpQ P B Q (.rt d h) = Q (.rt d h) := rfl
@[simp] theorem lpQ_ex (x : Exn) (ρ : Env') (h : AH) : LpQ P B Q (.ex x ρ h) = Q (.ex x ρ h) := rfl
@[simp] theorem lpQ_stuck : LpQ P B Q .stuck = Q .stuck := rfl
variable {cs : Cs} {tg : List Nat} {one : Bool} {it : E} {body rest : List S} {ρ : Env'} {h : AH} {I : Itr} {all : List D}
theorem seq_for (hit : evI cs it ρ h = .ok I h) (Inv : Nat → Env' → AH → Prop) (h0 : Inv 0 ρ h) (hI : ∀ k ρ h, Inv k ρ h → I.items h = some all)
    (step : ∀ k d ρ h, all[k]? = some d → Inv k ρ h → ∃ ρ1, bindT tg one d ρ = some ρ1 ∧ LpQ (Inv (k + 1)) (fun ρ h => Q (exSs cs rest ρ h)) Q (exSs cs body ρ1 h))
    (fin : ∀ ρ h, Inv all.length ρ h → Q (exSs cs rest ρ h)) : Q (seqE cs rest (exS cs (.for tg one it body) ρ h)) := by
  rw [q_for, hit]
  simp only [R.sr_ok, hI _ _ _ h0]
  refine forGo_all (Q := fun r => Q (seqE cs rest r)) Inv h0 hI (fun k d ρ h hk hi => ?_) fun ρ h hi => fin ρ h hi
  obtain ⟨ρ1, e, s⟩ := step k d ρ h hk hi
  simp only [e]
  revert s
  cases exSs cs body ρ1 h <;> exact fun s => s
theorem seq_whl {n N : Nat} {c : E} (Inv : Nat → Env' → AH → Prop) (hN : n < N) (h0 : Inv n ρ h)
    (step : ∀ n ρ h, Inv n ρ h → ∃ b, ∃ h', ev cs c true ρ h = .ok (.bl b) h' ∧ if b then (∃ m, n = m + 1 ∧ LpQ (Inv m) (fun ρ h => Q (exSs cs rest ρ h)) Q (exSs cs body ρ h')) else Q (exSs cs rest ρ h')) : Q (seqE cs rest (exS cs (.whl N c body) ρ h)) := by
  rw [q_whl]
  refine whlGo_wp (Q := fun r => Q (seqE cs rest r)) (Inv := Inv) (fun n ρ h hi => ?_) hN h0
  obtain ⟨b, h', e, s⟩ := step n ρ h hi
  refine ⟨b, h', e, ?_⟩
  cases b with
  | false => exact s
  | true =>
    obtain ⟨m, hm, s⟩ := s
    refine ⟨m, hm, ?_⟩
    revert s
    cases exSs cs body ρ h' <;> exact fun s => s
theorem comp_map {cell : Bool} {elt : E} {own : List (Str × Nat)} {i : Nat} (g : D → D) (hit : evI cs it ρ h = .ok I h) (hI : I.items h = some all) (hl : all.length ≤ lim)
    (he : ∀ d ∈ all, ev cs elt false ((wipeD ρ (own.map (·.2))).set i (some d)) h = .ok (g d) h) : ev cs (.comp cell it [i] true none elt own) false ρ h = mkL cell (all.map g) h := by
  rw [q_comp, hit]
  simp only [tr_false, R.bind_ok, hI]
  rw [compGo_map (g := g) hI (fun d hd => ?_) (by simpa using hl)]
  · simp
  · simp only [bind1, q_cnone, R.bind_ok, he d hd]; rfl
theorem comp_fil {cell : Bool} {elt c : E} {own : List (Str × Nat)} {i : Nat} (g : D → D) (p : D → Bool) (hit : evI cs it ρ h = .ok I h) (hI : I.items h = some all) (hl : all.length ≤ lim)
    (hc : ∀ d ∈ all, ev cs c true ((wipeD ρ (own.map (·.2))).set i (some d)) h = .ok (.bl (p d)) h)
    (he : ∀ d ∈ all, p d = true → ev cs elt false ((wipeD ρ (own.map (·.2))).set i (some d)) h = .ok (g d) h) : ev cs (.comp cell it [i] true (some c) elt own) false ρ h = mkL cell ((all.filter p).map g) h := by
  rw [q_comp, hit]
  simp only [tr_false, R.bind_ok, hI]
  rw [compGo_fil (g := fun d => if p d then some (g d) else none) hI (fun d hd => ?_) (by simpa using hl)]
  · have : all.filterMap (fun d => if p d = true then some (g d) else none) = (all.filter p).map g := by
      clear hI hl hc he hit
      induction all with
      | nil => rfl
      | cons x xs ih => by_cases hx : p x = true <;> simp [List.filter_cons, hx, ih]
    simp [this]
  · simp only [bind1, q_csome, hc d hd, R.bind_ok]
    by_cases hp : p d = true
    · simp [hp, he d hd hp]
    · simp [hp]
end
end Sm

namespace K03
open Sm PySem PySem.Spec PyProof.Rows L2
def N_l_pool : List Str := ["_law_script", "_law_cell"]
def b_l_pool : List S := [
  .ret (.lst true [(.comp false (.seq (.var 0)) [1] true none (.bif .abs [(.var 1)]) [("_law_cell", 1)]), (.con (.int 0)), (.con (.int 0)), (.con (.int 0)), (.con (.int 0))])]
noncomputable def F_l_pool : Fn := defF [] 2 true b_l_pool
def N_l_take : List Str := ["_law_pool_here", "_law_many", "_law_once", "_law_digit", "_law_cell"]
def b_l_take : List S := [
  .iff (.cmp .gt (.ix (.var 0) (.con (.int 2))) (.con (.int 0))) [
    .asg (.name 3) (.bin .mod (.bif .int [(.ix (.var 0) (.con (.int 2)))]) (.var 1)),
    .asg (.sub (.var 0) (.con (.int 2))) (.bin .fdiv (.bif .int [(.ix (.var 0) (.con (.int 2)))]) (.var 1)),
    .ret (.var 3)] [],
  .iff (.cmp .lt (.ix (.var 0) (.con (.int 1))) (.bif .len [(.ix (.var 0) (.con (.int 0)))])) [
    .asg (.name 4) (.ix (.ix (.var 0) (.con (.int 0))) (.ix (.var 0) (.con (.int 1)))),
    .asg (.sub (.var 0) (.con (.int 1))) (.bin .add (.ix (.var 0) (.con (.int 1))) (.con (.int 1))),
    .iff (.cmp .ge (.var 4) (.bin .pow (.con (.int 10)) (.con (.int 18)))) [
      .asg (.sub (.var 0) (.con (.int 2))) (.bin .fdiv (.bif .int [(.var 4)]) (.var 1)),
      .ret (.bin .mod (.bif .int [(.var 4)]) (.var 1))] [],
    .asg (.sub (.var 0) (.con (.int 3))) (.bin .mod (.bif .int [(.bin .add (.bin .mul (.ix (.var 0) (.con (.int 3))) (.con (.int 10))) (.var 4))]) (.con (.int 9973)))] [],
  .asg (.sub (.var 0) (.con (.int 4))) (.bin .add (.ix (.var 0) (.con (.int 4))) (.con (.int 1))),
  .asg (.name 2) (.bin .mod (.bif .int [(.bin .mul (.bin .add (.ix (.var 0) (.con (.int 3))) (.con (.int 31))) (.ix (.var 0) (.con (.int 4))))]) (.con (.int 10007))),
  .ret (.bin .mod (.bin .mod (.bif .int [(.bin .add (.var 2) (.bin .mul (.bin .mul (.ix (.var 0) (.con (.int 3))) (.var 2)) (.var 2)))]) (.con (.int 9973))) (.var 1))]
noncomputable def F_l_take : Fn := defF [] 5 false b_l_take
def N_Num_is_prime : List Str := ["number", "divisor"]
def b_Num_is_prime : List S := [
  .iff (.cmp .lt (.var 0) (.con (.int 2))) [
    .ret (.con (.bl false))] [],
  .asg (.name 1) (.con (.int 2)),
  .whl 400 (.cmp .le (.bin .mul (.var 1) (.var 1)) (.var 0)) [
    .iff (.cmp .eq (.bin .mod (.var 0) (.var 1)) (.con (.int 0))) [
      .ret (.con (.bl false))] [],
    .asg (.name 1) (.bin .add (.var 1) (.con (.int 1)))],
  .ret (.con (.bl true))]
noncomputable def F_Num_is_prime : Fn := defF [] 2 false b_Num_is_prime
def N_require_prime : List Str := ["prime"]
def b_require_prime : List S := [
  .iff (.bor [(.cmp .gt (.var 0) (.ccon 0)), (.bnot (.cst 1 [(.var 0)]))]) [
    .never] []]
noncomputable def F_require_prime : Fn := defF [⟨fun _ _ => .stuck, .int 199⟩, ⟨F_Num_is_prime, .non⟩] 1 false b_require_prime
noncomputable def F_mk_Num : Fn := num2F F_require_prime 0
def N_l_truth : List Str := ["_law_x", "_law_due"]
def b_l_truth : List S := [
  .ret (.band [(.isb (.var 0) .bool), (.cmp .eq (.var 0) (.var 1))])]
noncomputable def F_l_truth : Fn := defF [] 2 false b_l_truth
def N_l_prime : List Str := ["_law_number", "_law_divisor"]
def b_l_prime : List S := [
  .for [1] true (.rng [(.con (.int 2)), (.con (.int 317))]) [
    .iff (.band [(.cmp .le (.bin .mul (.var 1) (.var 1)) (.var 0)), (.cmp .eq (.bin .mod (.bif .int [(.var 0)]) (.var 1)) (.con (.int 0)))]) [
      .ret (.con (.bl false))] []],
  .ret (.cmp .ge (.var 0) (.con (.int 2)))]
noncomputable def F_l_prime : Fn := defF [] 2 false b_l_prime
def N_law : List Str := ["_law_script", "_law_pool_here", "_law_kind", "_law_number", "_law_back"]
def b_law : List S := [
  .asg (.name 1) (.call 0 [(.var 0)]),
  .asg (.name 2) (.call 1 [(.var 1), (.con (.int 4))]),
  .asg (.name 3) (.bin .sub (.call 1 [(.var 1), (.con (.int 200001))]) (.con (.int 100000))),
  .iff (.cmp .eq (.var 2) (.con (.int 1))) [
    .asg (.name 3) (.bin .sub (.call 1 [(.var 1), (.con (.int 421))]) (.con (.int 20)))] [],
  .iff (.cmp .eq (.var 2) (.con (.int 2))) [
    .asg (.name 3) (.bin .mul (.bin .add (.con (.int 2)) (.call 1 [(.var 1), (.con (.int 315))])) (.bin .add (.con (.int 2)) (.call 1 [(.var 1), (.con (.int 315))])))] [],
  .iff (.cmp .eq (.var 2) (.con (.int 3))) [
    .asg (.name 3) (.ix (.lst false [(.con (.int 341)), (.con (.int 561)), (.con (.int 1105)), (.con (.int 1729)), (.con (.int 2047)), (.con (.int 3277)), (.con (.int 6601)), (.con (.int 8911)), (.con (.int 29341)), (.con (.int 99856))]) (.call 1 [(.var 1), (.con (.int 10))]))] [],
  .iff (.cmp .gt (.var 3) (.con (.int 100000))) [
    .asg (.name 3) (.con (.int 100000))] [],
  .for [4] true (.seq (.lst false [(.cst 2 [(.var 3)]), (.cst 2 [(.var 3)]), (.sti 3 0 (.call 4 [(.con (.int 1)), (.con (.int 5))]) [(.var 3)])])) [
    .iff (.bnot (.call 5 [(.var 4), (.call 6 [(.var 3)])])) [
      .ret (.con (.bl false))] []],
  .ret (.con (.bl true))]
noncomputable def F_law : Fn := defF [⟨F_l_pool, .non⟩, ⟨F_l_take, .non⟩, ⟨F_Num_is_prime, .non⟩, ⟨F_Num_is_prime, .non⟩, ⟨F_mk_Num, .non⟩, ⟨F_l_truth, .non⟩, ⟨F_l_prime, .non⟩] 5 false b_law
end K03

namespace K03
open Sm PySem PySem.Spec PyProof.Rows L2
abbrev R : PySem.W.OpenRow := PySem.W.OpenLaw.row PySem.Challenge.rw_shelfmixes_k03_prime_numbers
def top (i : Nat) : Stmt := PySem.Challenge.pw_shelfmixes_k03_prime_numbers.main.body.getD i (.Pass ⟨0, 0, 0, 0⟩)
theorem sc_l_pool : FnScope N_l_pool ["_law_script"] (defScope (top 11)) := ⟨rfl, rfl, rfl, by decide +kernel, rfl, by decide +kernel, by decide +kernel⟩
theorem ck_l_pool : chkSs (tbL []) N_l_pool (defScope (top 11)) b_l_pool (defBody (top 11)) = true := by decide +kernel
theorem sc_l_take : FnScope N_l_take ["_law_pool_here", "_law_many"] (defScope (top 12)) := ⟨rfl, rfl, rfl, by decide +kernel, rfl, by decide +kernel, by decide +kernel⟩
theorem ck_l_take : chkSs (tbL []) N_l_take (defScope (top 12)) b_l_take (defBody (top 12)) = true := by decide +kernel
theorem sc_Num_is_prime : FnScope N_Num_is_prime ["number"] (defScope (inClass (top 9) 3)) := ⟨rfl, rfl, rfl, by decide +kernel, rfl, by decide +kernel, by decide +kernel⟩
theorem ck_Num_is_prime : chkSs (tbL []) N_Num_is_prime (defScope (inClass (top 9) 3)) b_Num_is_prime (defBody (inClass (top 9) 3)) = true := by decide +kernel
theorem sc_require_prime : FnScope N_require_prime ["prime"] (defScope (top 8)) := ⟨rfl, rfl, rfl, by decide +kernel, rfl, by decide +kernel, by decide +kernel⟩
theorem ck_require_prime : chkSs (tbL [(.cc "Num" "MOST_PRIME"), (.st "Num" "is_prime" 1)]) N_require_prime (defScope (top 8)) b_require_prime (defBody (top 8)) = true := by decide +kernel
theorem sc_mk_Num : FnScope ["self", "value", "prime"] ["self", "value", "prime"] (defScope (inClass (top 9) 2)) := ⟨rfl, rfl, rfl, by decide +kernel, rfl, by decide +kernel, by decide +kernel⟩
theorem sc_l_truth : FnScope N_l_truth ["_law_x", "_law_due"] (defScope (top 13)) := ⟨rfl, rfl, rfl, by decide +kernel, rfl, by decide +kernel, by decide +kernel⟩
theorem ck_l_truth : chkSs (tbL []) N_l_truth (defScope (top 13)) b_l_truth (defBody (top 13)) = true := by decide +kernel
theorem sc_l_prime : FnScope N_l_prime ["_law_number"] (defScope (top 14)) := ⟨rfl, rfl, rfl, by decide +kernel, rfl, by decide +kernel, by decide +kernel⟩
theorem ck_l_prime : chkSs (tbL []) N_l_prime (defScope (top 14)) b_l_prime (defBody (top 14)) = true := by decide +kernel
theorem sc_law : FnScope N_law ["_law_script"] (defScope (top 15)) := ⟨rfl, rfl, rfl, by decide +kernel, rfl, by decide +kernel, by decide +kernel⟩
theorem ck_law : chkSs (tbL [(.fn "_law_pool" 1), (.fn "_law_take" 2), (.st "Num" "is_prime" 1), (.sti 0 "is_prime" 1), (.mk "Num" 2), (.fn "_law_truth" 2), (.fn "_law_prime" 1)]) N_law (defScope (top 15)) b_law (defBody (top 15)) = true := by decide +kernel
def cl (n : Nat) : Str := (["Num"] : List Str).getD n ""
def fl (n : Nat) : List Str := ([["prime", "value"]] : List (List Str)).getD n []
def sl (n : Nat) : Bool := [true].getD n false
def fn : List DfA := [dfa (pG "_law_pool") "_law_pool" "_law_pool" (top 11),
  dfa (pG "_law_take") "_law_take" "_law_take" (top 12),
  dfa (pS "Num" "is_prime") "is_prime" "Num.is_prime" (inClass (top 9) 3),
  dfa (pG "require_prime") "require_prime" "require_prime" (top 8),
  dfa (pM "Num" "__init__") "__init__" "Num.__init__" (inClass (top 9) 2),
  dfa (pG "_law_truth") "_law_truth" "_law_truth" (top 13),
  dfa (pG "_law_prime") "_law_prime" "_law_prime" (top 14),
  dfa (pG "law") "law" "law" (top 15)]
def glos : List Str := ["_law_pool", "_law_take", "Num", "require_prime", "_law_truth", "_law_prime", "law"]
def ex (K : PySem.W.Frag) : Bool := (frB K && (gloB glos K && (stB "Num" "is_prime" K && (siB "Num" "is_prime" K && (ccB "Num" "MOST_PRIME" 199 K && (mkrB "Num" K && (sclB "Num" K && (slotB "Num" "prime" 0 K && (slotB "Num" "value" 1 K && true)))))))))
abbrev hk : PySem.W.Hook := hookS 6 fn ex
def ob (s : PySem.W.SharedT) : He.AlD := obSG 6 fn ex (HandSHeadRun.getT s)
theorem ob_eq (s : PySem.W.SharedT) : ob s = hk.obs s.abs := obSG_eq (HandSHeadRun.getT_eq s)
def lo0 : List PySem.Str := ["__name__", "MixError", "NotPrime", "MixedPrimes", "NoInverse", "power", "inverse_of", "require_prime", "Num", "_law_pool", "_law_take", "_law_truth", "_law_prime"]
def loose : List PySem.Str := lo0
theorem run (w : World) : HandSHeadRun.RunEq R (PySem.W.view R.prog [15]) hk ob 9000 loose w := by
  intro os
  kernel_rfl
theorem facts (w : World) (K : PySem.W.Frag) (mg : Str → Option Value) (h : Heap) (X : K.In h) (G : h.Ns mainGlobals mg) (c : SaysS fn ex K) :
    mg "law" = some (.ref (pG "law" K)) ∧ ∃ fd, (∀ (s : Shared) (u : Value), BindsTo s fd ⟨[u], []⟩ [("_law_script", u)]) ∧ ∀ base : Heap, K.In base → base.Ns mainGlobals mg → FnOk PySem.Challenge.rw_shelfmixes_k03_prime_numbers.prog w K mg base (L2.CX PySem.Challenge.rw_shelfmixes_k03_prime_numbers.prog w) 5 (pG "law" K) fd ["_law_script"] (spF (giOf K cl fl sl) F_law 1) := by
  have c0 := c.more
  unfold ex at c0
  obtain ⟨x0, c0⟩ := Bool.and_eq_true_iff.mp c0
  obtain ⟨x1, c0⟩ := Bool.and_eq_true_iff.mp c0
  obtain ⟨x2, c0⟩ := Bool.and_eq_true_iff.mp c0
  obtain ⟨x3, c0⟩ := Bool.and_eq_true_iff.mp c0
  obtain ⟨x4, c0⟩ := Bool.and_eq_true_iff.mp c0
  obtain ⟨x5, c0⟩ := Bool.and_eq_true_iff.mp c0
  obtain ⟨x6, c0⟩ := Bool.and_eq_true_iff.mp c0
  obtain ⟨x7, c0⟩ := Bool.and_eq_true_iff.mp c0
  obtain ⟨x8, c0⟩ := Bool.and_eq_true_iff.mp c0
  have Y : Hd K mg (giOf K cl fl sl) h := ⟨X, G, x0, kl_of⟩
  obtain ⟨d_l_pool, f_l_pool, u_l_pool⟩ := c.fun_ 0 (at_ := (pG "_law_pool")) (name := "_law_pool") (qual := "_law_pool") (st := (top 11)) rfl
  have i_l_pool : Binds K d_l_pool ["_law_script"] [] := u_l_pool.bindsN fun _ _ _ _ _ _ us hl => match us, hl with | [_], _ => rfl
  obtain ⟨d_l_take, f_l_take, u_l_take⟩ := c.fun_ 1 (at_ := (pG "_law_take")) (name := "_law_take") (qual := "_law_take") (st := (top 12)) rfl
  have i_l_take : Binds K d_l_take ["_law_pool_here", "_law_many"] [] := u_l_take.bindsN fun _ _ _ _ _ _ us hl => match us, hl with | [_, _], _ => rfl
  obtain ⟨d_Num_is_prime, f_Num_is_prime, u_Num_is_prime⟩ := c.fun_ 2 (at_ := (pS "Num" "is_prime")) (name := "is_prime") (qual := "Num.is_prime") (st := (inClass (top 9) 3)) rfl
  have i_Num_is_prime : Binds K d_Num_is_prime ["number"] [] := u_Num_is_prime.bindsN fun _ _ _ _ _ _ us hl => match us, hl with | [_], _ => rfl
  obtain ⟨d_require_prime, f_require_prime, u_require_prime⟩ := c.fun_ 3 (at_ := (pG "require_prime")) (name := "require_prime") (qual := "require_prime") (st := (top 8)) rfl
  have i_require_prime : Binds K d_require_prime ["prime"] [] := u_require_prime.bindsN fun _ _ _ _ _ _ us hl => match us, hl with | [_], _ => rfl
  obtain ⟨d_l_truth, f_l_truth, u_l_truth⟩ := c.fun_ 5 (at_ := (pG "_law_truth")) (name := "_law_truth") (qual := "_law_truth") (st := (top 13)) rfl
  have i_l_truth : Binds K d_l_truth ["_law_x", "_law_due"] [] := u_l_truth.bindsN fun _ _ _ _ _ _ us hl => match us, hl with | [_, _], _ => rfl
  obtain ⟨d_l_prime, f_l_prime, u_l_prime⟩ := c.fun_ 6 (at_ := (pG "_law_prime")) (name := "_law_prime") (qual := "_law_prime") (st := (top 14)) rfl
  have i_l_prime : Binds K d_l_prime ["_law_number"] [] := u_l_prime.bindsN fun _ _ _ _ _ _ us hl => match us, hl with | [_], _ => rfl
  obtain ⟨d_law, f_law, u_law⟩ := c.fun_ 7 (at_ := (pG "law")) (name := "law") (qual := "law") (st := (top 15)) rfl
  have i_law : Binds K d_law ["_law_script"] [] := u_law.bindsN fun _ _ _ _ _ _ us hl => match us, hl with | [_], _ => rfl
  refine ⟨glo_at Y x1 (by decide +kernel), d_law, fun s v => (FunD.bindsA (ps := ["_law_script"]) u_law fun _ _ _ _ _ _ us hl => match us, hl with | [_], _ => rfl) s [v] rfl, fun base _ _ => ?_⟩
  have k_l_pool : FnOk PySem.Challenge.rw_shelfmixes_k03_prime_numbers.prog w K mg base (L2.CX PySem.Challenge.rw_shelfmixes_k03_prime_numbers.prog w) 1 (pG "_law_pool" K) d_l_pool ["_law_script"] (spF (giOf K cl fl sl) F_l_pool 1) := def_sound Y (Refs.nil (k := 0)) f_l_pool sc_l_pool rfl ck_l_pool
  have h_l_pool : RefOk PySem.Challenge.rw_shelfmixes_k03_prime_numbers.prog w K mg base (giOf K cl fl sl) 1 ⟨fun _ => F_l_pool, fun _ => .non⟩ 0 (.fn "_law_pool" 1) := ref_fn (x := "_law_pool") Y rfl (glo_at Y x1 (by decide +kernel)) u_l_pool.kp i_l_pool k_l_pool
  have k_l_take : FnOk PySem.Challenge.rw_shelfmixes_k03_prime_numbers.prog w K mg base (L2.CX PySem.Challenge.rw_shelfmixes_k03_prime_numbers.prog w) 1 (pG "_law_take" K) d_l_take ["_law_pool_here", "_law_many"] (spF (giOf K cl fl sl) F_l_take 2) := def_sound Y (Refs.nil (k := 0)) f_l_take sc_l_take rfl ck_l_take
  have h_l_take : RefOk PySem.Challenge.rw_shelfmixes_k03_prime_numbers.prog w K mg base (giOf K cl fl sl) 1 ⟨fun _ => F_l_take, fun _ => .non⟩ 0 (.fn "_law_take" 2) := ref_fn (x := "_law_take") Y rfl (glo_at Y x1 (by decide +kernel)) u_l_take.kp i_l_take k_l_take
  have k_Num_is_prime : FnOk PySem.Challenge.rw_shelfmixes_k03_prime_numbers.prog w K mg base (L2.CX PySem.Challenge.rw_shelfmixes_k03_prime_numbers.prog w) 1 (pS "Num" "is_prime" K) d_Num_is_prime ["number"] (spF (giOf K cl fl sl) F_Num_is_prime 1) := def_sound Y (Refs.nil (k := 0)) f_Num_is_prime sc_Num_is_prime rfl ck_Num_is_prime
  have h_Num_is_prime : RefOk PySem.Challenge.rw_shelfmixes_k03_prime_numbers.prog w K mg base (giOf K cl fl sl) 1 ⟨fun _ => F_Num_is_prime, fun _ => .non⟩ 0 (.st "Num" "is_prime" 1) := ref_st (C := "Num") (m := "is_prime") Y rfl (glo_at Y x1 (by decide +kernel)) x2 u_Num_is_prime.kp i_Num_is_prime k_Num_is_prime
  have h_i_Num_is_prime : RefOk PySem.Challenge.rw_shelfmixes_k03_prime_numbers.prog w K mg base (giOf K cl fl sl) 1 ⟨fun _ => F_Num_is_prime, fun _ => .non⟩ 0 (.sti 0 "is_prime" 1) := ref_sti (C := "Num") rfl rfl rfl x3 u_Num_is_prime.kp i_Num_is_prime k_Num_is_prime
  have h_c_Num_MOST_PRIME : RefOk PySem.Challenge.rw_shelfmixes_k03_prime_numbers.prog w K mg base (giOf K cl fl sl) 0 ⟨fun _ _ _ => .stuck, fun _ => .int 199⟩ 0 (.cc "Num" "MOST_PRIME") := ref_cc Y (glo_at Y x1 (by decide +kernel)) x4
  have k_require_prime : FnOk PySem.Challenge.rw_shelfmixes_k03_prime_numbers.prog w K mg base (L2.CX PySem.Challenge.rw_shelfmixes_k03_prime_numbers.prog w) 2 (pG "require_prime" K) d_require_prime ["prime"] (spF (giOf K cl fl sl) F_require_prime 1) := def_sound Y (Refs.snoc (e := ⟨F_Num_is_prime, .non⟩) (Refs.snoc (e := ⟨fun _ _ => .stuck, .int 199⟩) (Refs.nil (k := 1)) (Nat.le_refl _) (h_c_Num_MOST_PRIME.mono (by decide) rfl rfl)) (Nat.le_refl _) (h_Num_is_prime.mono (by decide) rfl rfl)) f_require_prime sc_require_prime rfl ck_require_prime
  have h_require_prime : RefOk PySem.Challenge.rw_shelfmixes_k03_prime_numbers.prog w K mg base (giOf K cl fl sl) 2 ⟨fun _ => F_require_prime, fun _ => .non⟩ 0 (.fn "require_prime" 1) := ref_fn (x := "require_prime") Y rfl (glo_at Y x1 (by decide +kernel)) u_require_prime.kp i_require_prime k_require_prime
  obtain ⟨d_mk_Num, f_mk_Num, u_mk_Num⟩ := c.fun_ 4 (at_ := (pM "Num" "__init__")) (name := "__init__") (qual := "Num.__init__") (st := (inClass (top 9) 2)) rfl
  have i_mk_Num : Binds K d_mk_Num ["self", "value", "prime"] [] := u_mk_Num.bindsN fun _ _ _ _ _ _ us hl => match us, hl with | [_, _, _], _ => rfl
  have k_mk_Num : FnOk PySem.Challenge.rw_shelfmixes_k03_prime_numbers.prog w K mg base (L2.CX PySem.Challenge.rw_shelfmixes_k03_prime_numbers.prog w) 3 (pM "Num" "__init__" K) d_mk_Num ["self", "value", "prime"] (spN (giOf K cl fl sl) ((giOf K cl fl sl).ca 0) F_mk_Num 2) := num_init Y (Refs.snoc (e := ⟨F_require_prime, .non⟩) (Refs.nil (k := 2)) (Nat.le_refl _) (h_require_prime.mono (by decide) rfl rfl)) f_mk_Num sc_mk_Num rfl (by decide +kernel) (by decide +kernel) (by decide +kernel) (by decide +kernel) (by decide +kernel) (by decide +kernel) (by decide +kernel) (by decide +kernel) rfl rfl (sclB_ok x6) (slotB_ok x7 (by decide)) (slotB_ok x8 (by decide))
  have h_mk_Num : RefOk PySem.Challenge.rw_shelfmixes_k03_prime_numbers.prog w K mg base (giOf K cl fl sl) 4 ⟨fun _ => F_mk_Num, fun _ => .non⟩ 0 (.mk "Num" 2) := ref_mk (k := 3) rfl (glo_at Y x1 (by decide +kernel)) x5 (by decide) i_mk_Num rfl k_mk_Num
  have k_l_truth : FnOk PySem.Challenge.rw_shelfmixes_k03_prime_numbers.prog w K mg base (L2.CX PySem.Challenge.rw_shelfmixes_k03_prime_numbers.prog w) 1 (pG "_law_truth" K) d_l_truth ["_law_x", "_law_due"] (spF (giOf K cl fl sl) F_l_truth 2) := def_sound Y (Refs.nil (k := 0)) f_l_truth sc_l_truth rfl ck_l_truth
  have h_l_truth : RefOk PySem.Challenge.rw_shelfmixes_k03_prime_numbers.prog w K mg base (giOf K cl fl sl) 1 ⟨fun _ => F_l_truth, fun _ => .non⟩ 0 (.fn "_law_truth" 2) := ref_fn (x := "_law_truth") Y rfl (glo_at Y x1 (by decide +kernel)) u_l_truth.kp i_l_truth k_l_truth
  have k_l_prime : FnOk PySem.Challenge.rw_shelfmixes_k03_prime_numbers.prog w K mg base (L2.CX PySem.Challenge.rw_shelfmixes_k03_prime_numbers.prog w) 1 (pG "_law_prime" K) d_l_prime ["_law_number"] (spF (giOf K cl fl sl) F_l_prime 1) := def_sound Y (Refs.nil (k := 0)) f_l_prime sc_l_prime rfl ck_l_prime
  have h_l_prime : RefOk PySem.Challenge.rw_shelfmixes_k03_prime_numbers.prog w K mg base (giOf K cl fl sl) 1 ⟨fun _ => F_l_prime, fun _ => .non⟩ 0 (.fn "_law_prime" 1) := ref_fn (x := "_law_prime") Y rfl (glo_at Y x1 (by decide +kernel)) u_l_prime.kp i_l_prime k_l_prime
  have k_law : FnOk PySem.Challenge.rw_shelfmixes_k03_prime_numbers.prog w K mg base (L2.CX PySem.Challenge.rw_shelfmixes_k03_prime_numbers.prog w) 5 (pG "law" K) d_law ["_law_script"] (spF (giOf K cl fl sl) F_law 1) := def_sound Y (Refs.snoc (e := ⟨F_l_prime, .non⟩) (Refs.snoc (e := ⟨F_l_truth, .non⟩) (Refs.snoc (e := ⟨F_mk_Num, .non⟩) (Refs.snoc (e := ⟨F_Num_is_prime, .non⟩) (Refs.snoc (e := ⟨F_Num_is_prime, .non⟩) (Refs.snoc (e := ⟨F_l_take, .non⟩) (Refs.snoc (e := ⟨F_l_pool, .non⟩) (Refs.nil (k := 4)) (Nat.le_refl _) (h_l_pool.mono (by decide) rfl rfl)) (Nat.le_refl _) (h_l_take.mono (by decide) rfl rfl)) (Nat.le_refl _) (h_Num_is_prime.mono (by decide) rfl rfl)) (Nat.le_refl _) (h_i_Num_is_prime.mono (by decide) rfl rfl)) (Nat.le_refl _) (h_mk_Num.mono (by decide) rfl rfl)) (Nat.le_refl _) (h_l_truth.mono (by decide) rfl rfl)) (Nat.le_refl _) (h_l_prime.mono (by decide) rfl rfl)) f_law sc_law rfl ck_law
  exact k_law
end K03

namespace K03
open Sm PySem L2
/-- the pool at i: its numbers, place, digits, two counters -/
def PoolAt (m : Nat) (h : AH) (i : Nat) : Prop := ∃ (cells : List Int) (pos dig c3 c4 : Int), h[i]? = some (.lst [.lst (cells.map .int), .int pos, .int dig, .int c3, .int c4]) ∧ (∀ z ∈ cells, 0 ≤ z) ∧ 0 ≤ pos ∧ 0 ≤ dig ∧ 0 ≤ c3 ∧ c3 < 9973 ∧ 0 ≤ c4 ∧ c4 ≤ m
theorem at0 {a b c d e : D} : atI [a, b, c, d, e] 0 = some a := rfl
theorem at1 {a b c d e : D} : atI [a, b, c, d, e] 1 = some b := rfl
theorem at2 {a b c d e : D} : atI [a, b, c, d, e] 2 = some c := rfl
theorem at3 {a b c d e : D} : atI [a, b, c, d, e] 3 = some d := rfl
theorem at4 {a b c d e : D} : atI [a, b, c, d, e] 4 = some e := rfl
theorem st1 {a b c d e x : D} : setIx [a, b, c, d, e] 1 x = some [a, x, c, d, e] := rfl
theorem st2 {a b c d e x : D} : setIx [a, b, c, d, e] 2 x = some [a, b, x, d, e] := rfl
theorem st3 {a b c d e x : D} : setIx [a, b, c, d, e] 3 x = some [a, b, c, x, e] := rfl
theorem st4 {a b c d e x : D} : setIx [a, b, c, d, e] 4 x = some [a, b, c, d, x] := rfl
theorem take_ok {m : Nat} {h : AH} {i : Nat} {many : Int} (hp : PoolAt m h i) (hm : m < 2 ^ 40) (h0 : 0 < many) (hb : many.natAbs < 2 ^ 64) :
    ∃ d h', F_l_take [.ref i, .int many] h = .ok (.int d) h' ∧ 0 ≤ d ∧ d < many ∧ PoolAt (m + 1) h' i ∧ h'.length = h.length ∧ ∀ j, j ≠ i → h'[j]? = h[j]? := by
  obtain ⟨cells, pos, dig, c3, c4, e, hc, hpos, hdig, h30, h31, h40, h4m⟩ := hp
  have hi : i < h.length := (List.getElem?_eq_some_iff.mp e).1
  have fd : ∀ (x : Int) h, binV .fdiv (.int x) (.int many) h = .ok (.int (x / many)) h := fun x h => binV_fdiv h0 hb h
  have md : ∀ (x : Int) h, binV .mod (.int x) (.int many) h = .ok (.int (x % many)) h := fun x h => binV_mod h0 h
  have md1 : ∀ (x : Int) h, binV .mod (.int x) (.int 9973) h = .ok (.int (x % 9973)) h := fun x h => binV_mod (by decide) h
  have md2 : ∀ (x : Int) h, binV .mod (.int x) (.int 10007) h = .ok (.int (x % 10007)) h := fun x h => binV_mod (by decide) h
  have pw : ∀ h, binV .pow (.int 10) (.int 18) h = .ok (.int 1000000000000000000) h := fun h => binV_int (binI_pow (by decide))
  have gs : ∀ (c : Cell), (h.set i c)[i]? = some c := fun c => by simp [hi]
  -- the last rows
  have tail : ∀ (h2 : AH) (pos dig c3 : Int), h2.length = h.length → (∀ j, j ≠ i → h2[j]? = h[j]?) → h2[i]? = some (.lst [.lst (cells.map .int), .int pos, .int dig, .int c3, .int c4]) → 0 ≤ pos → 0 ≤ dig → 0 ≤ c3 → c3 < 9973 → ∀ (ρ2 ρ3 ρ4 : Option D),
      ∃ d h', endF false h (exSs (csL []) (b_l_take.drop 2) [some (.ref i), some (.int many), ρ2, ρ3, ρ4] h2) = .ok (.int d) h' ∧ 0 ≤ d ∧ d < many ∧ PoolAt (m + 1) h' i ∧ h'.length = h.length ∧ ∀ j, j ≠ i → h'[j]? = h[j]? := by
    intro h2 pos dig c3 hl2 hj2 e2 hpos hdig h30 h31 ρ2 ρ3 ρ4
    have hi2 : i < h2.length := by omega
    have gs2 : ∀ (c : Cell), (h2.set i c)[i]? = some c := fun c => by simp [hi2]
    have b1 : (c3 + 31).natAbs < 2 ^ 64 := by omega
    have b2 : (c4 + 1).natAbs < 2 ^ 64 := by omega
    have o1 : 0 ≤ (c3 + 31) * (c4 + 1) % 10007 := Int.emod_nonneg _ (by decide)
    have o2 : (c3 + 31) * (c4 + 1) % 10007 < 10007 := Int.emod_lt_of_pos _ (by decide)
    generalize ho : (c3 + 31) * (c4 + 1) % 10007 = on at o1 o2
    have b3 : (c3 * on).natAbs < 2 ^ 64 := by
      rw [Int.natAbs_mul]
      exact Nat.lt_of_le_of_lt (Nat.mul_le_mul (show c3.natAbs ≤ 9973 by omega) (show on.natAbs ≤ 10007 by omega)) (by decide)
    refine ⟨(on + c3 * on * on) % 9973 % many, h2.set i (.lst [.lst (cells.map .int), .int pos, .int dig, .int c3, .int (c4 + 1)]), ?_, Int.emod_nonneg _ (by omega), Int.emod_lt_of_pos _ h0, ⟨cells, pos, dig, c3, c4 + 1, gs2 _, hc, hpos, hdig, h30, h31, by omega, by omega⟩, by simp [hl2], fun j hj => by rw [List.getElem?_set_ne (Ne.symm hj)]; exact hj2 j hj⟩
    have ml1 : ∀ h, binV .mul (.int (c3 + 31)) (.int (c4 + 1)) h = .ok (.int ((c3 + 31) * (c4 + 1))) h := fun h => binV_mul b1 b2 h
    have ml2 : ∀ h, binV .mul (.int c3) (.int on) h = .ok (.int (c3 * on)) h := fun h => binV_mul (by omega) (by omega) h
    have ml3 : ∀ h, binV .mul (.int (c3 * on)) (.int on) h = .ok (.int (c3 * on * on)) h := fun h => binV_mul b3 (by omega) h
    simp [b_l_take, e2, at3, at4, st4, gs2, ml1, md2, ho, ml2, ml3, md1, md]
    rw [endF_rt (by simp [hl2])]
  unfold F_l_take defF runF
  by_cases hd : 0 < dig
  · refine ⟨dig % many, h.set i (.lst [.lst (cells.map .int), .int pos, .int (dig / many), .int c3, .int c4]), ?_, Int.emod_nonneg _ (by omega), Int.emod_lt_of_pos _ h0, ⟨cells, pos, dig / many, c3, c4, gs _, hc, hpos, Int.ediv_nonneg hdig (by omega), h30, h31, h40, by omega⟩, by simp, fun j hj => by rw [List.getElem?_set_ne (Ne.symm hj)]⟩
    simp [b_l_take, e, at2, st2, hd, md, fd]
    rw [endF_rt (by simp)]
  · have hd0 : dig = 0 := by omega
    subst hd0
    by_cases hq : pos < cells.length
    · have hat : atI (cells.map D.int) pos = some (.int cells[pos.toNat]) := by
        rw [atI_lt hpos (by simpa using hq)]; simp
      have hcell := hc _ (List.getElem_mem (l := cells) (n := pos.toNat) (by omega))
      generalize cells[pos.toNat] = cell at hat hcell
      have hlen : ∀ h, bifL false .len [.lst (cells.map .int)] h = .ok (.int cells.length) h := fun h => by simp
      have ss : ∀ c c' : Cell, (h.set i c).set i c' = h.set i c' := fun c c' => by simp
      by_cases hbig : 1000000000000000000 ≤ cell
      · refine ⟨cell % many, h.set i (.lst [.lst (cells.map .int), .int (pos + 1), .int (cell / many), .int c3, .int c4]), ?_, Int.emod_nonneg _ (by omega), Int.emod_lt_of_pos _ h0, ⟨cells, pos + 1, cell / many, c3, c4, gs _, hc, by omega, Int.ediv_nonneg hcell (by omega), h30, h31, h40, by omega⟩, by simp, fun j hj => by rw [List.getElem?_set_ne (Ne.symm hj)]⟩
        simp [b_l_take, e, at0, at1, at2, st1, st2, hd, md, fd, hq, hat, gs, ss, pw, hbig]
        rw [endF_rt (by simp)]
      · have ml : ∀ h, binV .mul (.int c3) (.int 10) h = .ok (.int (c3 * 10)) h := fun h => binV_mul (by omega) (by decide) h
        obtain ⟨d, h', t1, t2⟩ := tail (h.set i (.lst [.lst (cells.map .int), .int (pos + 1), .int 0, .int ((c3 * 10 + cell) % 9973), .int c4])) (pos + 1) 0 ((c3 * 10 + cell) % 9973) (by simp) (fun j hj => by rw [List.getElem?_set_ne (Ne.symm hj)]) (gs _) (by omega) (by omega) (Int.emod_nonneg _ (by decide)) (Int.emod_lt_of_pos _ (by decide)) none none (some (.int cell))
        refine ⟨d, h', ?_, t2⟩
        rw [← t1]
        simp [b_l_take, e, at0, at1, at2, at3, st1, st3, hd, hq, hat, gs, ss, pw, hbig, ml, md1]
    · obtain ⟨d, h', t1, t2⟩ := tail h pos 0 c3 rfl (fun _ _ => rfl) e hpos (by omega) h30 h31 none none none
      refine ⟨d, h', ?_, t2⟩
      rw [← t1]
      simp [b_l_take, e, at0, at1, at2, hd, hq]
end K03

namespace K03
open Sm PySem L2
def isP (n : Int) : Prop := 2 ≤ n ∧ ∀ d : Int, 2 ≤ d → d * d ≤ n → n % d ≠ 0
theorem pool_ok (ns : List Int) (h : AH) (hl : ns.length ≤ 63) : ∃ h', F_l_pool [.ro (ns.map .int)] h = .ok (.ref h.length) h' ∧ PoolAt 0 h' h.length ∧ h'.length = h.length + 1 := by
  refine ⟨h ++ [.lst [.lst ((ns.map fun i => if i < 0 then -i else i).map .int), .int 0, .int 0, .int 0, .int 0]], ?_, ⟨ns.map fun i => if i < 0 then -i else i, 0, 0, 0, 0, by simp, ?_, by decide, by decide, by decide, by decide, by decide, by decide⟩, by simp⟩
  · unfold F_l_pool defF runF
    have lm : ns.length ≤ lim := Nat.le_trans hl (by decide)
    have hc : ∀ ρ : Env', ρ.length = 2 → ρ[0]? = some (some (D.ro (ns.map .int))) → ev (csL []) (.comp false (.seq (.var 0)) [1] true none (.bif .abs [(.var 1)]) [("_law_cell", 1)]) false ρ h = .ok (.lst ((ns.map fun i => if i < 0 then -i else i).map .int)) h := fun ρ hρ h0 => by
      rw [comp_map (I := .seq (.ro (ns.map .int))) (all := ns.map .int) (fun d => match d with | .int i => D.int (if i < 0 then -i else i) | d => d) (by simp [h0, ckI_ok]) (by simp) (by simpa using lm) fun d hd => ?_]
      · rw [mkL_f (by simpa using lm)]; simp
      · obtain ⟨i, _, rfl⟩ := List.mem_map.mp hd
        simp [hρ]
    have h5 : ∀ a b c d e : D, [a, b, c, d, e].length ≤ lim := fun a b c d e => by show 5 ≤ lim; decide
    simp [b_l_pool, hc, mkL_t (h5 _ _ _ _ _)]
    simp only [endF]
    rw [compact_keep (es := [.lst ((ns.map fun i => if i < 0 then -i else i).map .int), .int 0, .int 0, .int 0, .int 0])]
    · simp
    intro f
    rw [show List.map (D.int ∘ fun i => if i < 0 then -i else i) ns = (ns.map fun i => if i < 0 then -i else i).map D.int by simp]
    cases f with
    | zero => simp only [mapO, fz, mapR, mapRs_ints, Option.map_some]
    | succ f => simp only [mapO, fz, mapR, mapRs_ints, Option.map_some]
  · intro z hz
    obtain ⟨i, _, rfl⟩ := List.mem_map.mp hz
    split <;> omega
theorem prime_ok {n : Int} (hn : n ≤ 100000) (h : AH) : ∃ b, F_Num_is_prime [.int n] h = .ok (.bl b) h ∧ (b = true ↔ isP n) := by
  unfold F_Num_is_prime defF runF
  let Q : SR → Prop := fun r => ∃ b, endF false h r = .ok (.bl b) h ∧ (b = true ↔ isP n)
  show Q _
  by_cases h2 : n < 2
  · refine ⟨false, ?_, by simp [isP]; omega⟩
    simp [b_Num_is_prime, h2]
    rw [endF_rt rfl]
  · unfold b_Num_is_prime
    simp [h2]
    refine seq_whl (Q := Q) (n := 315) (N := 400) (fun k ρ h' => h' = h ∧ ∃ d : Int, ρ = [some (.int n), some (.int d)] ∧ 2 ≤ d ∧ d ≤ 317 ∧ (k : Int) = 317 - d ∧ ∀ e : Int, 2 ≤ e → e < d → n % e ≠ 0) (by decide) ⟨rfl, 2, rfl, by decide, by decide, by decide, fun e h1 h2 => by omega⟩ ?_
    rintro k ρ h' ⟨rfl, d, rfl, d2, d3, hk, hd⟩
    have ml : binV .mul (.int d) (.int d) h' = .ok (.int (d * d)) h' := binV_mul (by omega) (by omega) h'
    have md : ∀ h, binV .mod (.int n) (.int d) h = .ok (.int (n % d)) h := fun h => binV_mod (by omega) h
    refine ⟨decide (d * d ≤ n), h', by simp [ml], ?_⟩
    by_cases hle : d * d ≤ n
    · rw [if_pos (by simpa using hle)]
      have d4 : d ≤ 316 := by
        rcases Int.lt_or_le 316 d with hlt | hle'
        · have : (317 : Int) * 317 ≤ d * d := Int.mul_le_mul (by omega) (by omega) (by omega) (by omega)
          omega
        · exact hle'
      refine ⟨(316 - d).toNat, by omega, ?_⟩
      by_cases hz : n % d = 0
      · simp [md, hz]
        exact ⟨false, by rw [endF_rt rfl], by simp; exact fun ⟨_, h⟩ => h d d2 hle hz⟩
      · simp [md, hz]
        refine ⟨by omega, by omega, by omega, fun e e1 e2 => ?_⟩
        rcases Int.lt_or_le e d with h | h
        · exact hd e e1 h
        · obtain rfl : e = d := by omega
          exact hz
    · rw [if_neg (by simpa using hle)]
      refine ⟨true, by simp [endF_rt], ?_⟩
      simp only [true_iff]
      refine ⟨by omega, fun e e1 e2 => hd e e1 ?_⟩
      rcases Int.lt_or_le e d with h | h
      · exact h
      · have := Int.mul_le_mul h h (by omega) (by omega)
        omega
theorem lprime_ok {n : Int} (hn : n ≤ 100000) (h : AH) : ∃ b, F_l_prime [.int n] h = .ok (.bl b) h ∧ (b = true ↔ isP n) := by
  unfold F_l_prime defF runF
  let Q : SR → Prop := fun r => ∃ b, endF false h r = .ok (.bl b) h ∧ (b = true ↔ isP n)
  show Q _
  unfold b_l_prime
  rw [q_cons]
  refine seq_for (Q := Q) (I := .rng 2 1 315) (all := (List.range 315).map fun (k : Nat) => D.int (2 + k)) (by simp) (fun k ρ h' => h' = h ∧ ∃ x, ρ = [some (.int n), x] ∧ ∀ d : Int, 2 ≤ d → d < 2 + k → ¬ (d * d ≤ n ∧ n % d = 0)) ⟨rfl, none, rfl, fun d h1 h2 => by omega⟩ (fun k ρ h' _ => by simp) ?_ ?_
  · rintro k d ρ h' hk ⟨rfl, x, rfl, hd⟩
    rw [List.getElem?_map] at hk
    simp only [Option.map_eq_some_iff] at hk
    obtain ⟨k', hk', rfl⟩ := hk
    obtain ⟨hk1, hk2⟩ := List.getElem?_eq_some_iff.mp hk'
    simp at hk1 hk2
    subst hk2
    refine ⟨_, rfl, ?_⟩
    have ml : ∀ h, binV .mul (.int (2 + (k : Int))) (.int (2 + (k : Int))) h = .ok (.int ((2 + k) * (2 + k))) h := fun h => binV_mul (by omega) (by omega) h
    have md : ∀ h, binV .mod (.int n) (.int (2 + (k : Int))) h = .ok (.int (n % (2 + k))) h := fun h => binV_mod (by omega) h
    have next : ¬ ((2 + (k : Int)) * (2 + k) ≤ n ∧ n % (2 + (k : Int)) = 0) → ∀ d : Int, 2 ≤ d → d < 2 + (k + 1 : Nat) → ¬ (d * d ≤ n ∧ n % d = 0) := fun hnot d d1 d2 => by
      by_cases d4 : d < 2 + k
      · exact hd d d1 d4
      · obtain rfl : d = 2 + k := by omega
        exact hnot
    by_cases hle : (2 + (k : Int)) * (2 + k) ≤ n
    · by_cases hz : n % (2 + (k : Int)) = 0
      · simp [ml, md, hle, hz]
        exact ⟨false, by rw [endF_rt rfl], by simp; exact fun ⟨_, q⟩ => q (2 + k) (by omega) hle hz⟩
      · simp [ml, md, hle, hz]
        simpa using next fun y => hz y.2
    · simp [ml, md, hle]
      simpa using next fun y => hle y.1
  · rintro ρ h' ⟨rfl, x, rfl, hd⟩
    refine ⟨decide (2 ≤ n), by simp [endF_rt], ?_⟩
    simp [isP]
    intro h2 d d1 d2 d3
    refine hd d d1 ?_ ⟨d2, d3⟩
    rcases Int.lt_or_le d 317 with h | h
    · simp; omega
    · have : (317 : Int) * 317 ≤ d * d := Int.mul_le_mul h h (by omega) (by omega)
      omega
theorem truth_ok (a b : Bool) (h : AH) : F_l_truth [.bl a, .bl b] h = .ok (.bl (decide (a = b))) h := by
  unfold F_l_truth defF runF
  simp [b_l_truth, isbV, endF_rt]
theorem req_ok {p : Int} (hp : isP p) (h199 : p ≤ 199) (h : AH) : F_require_prime [.int p] h = .ok .non h := by
  obtain ⟨b, e, hb⟩ := prime_ok (n := p) (by omega) h
  have : b = true := hb.mpr hp
  subst this
  unfold F_require_prime defF runF
  have e1 : ¬ (199 < p) := by omega
  simp [b_require_prime, csL, e, e1, truV, blOf, endF_nx]
theorem five : isP 5 := ⟨by decide, fun d h1 h2 => by
  have h3 : d < 3 := by
    rcases Int.lt_or_le d 3 with h | h
    · exact h
    · have : (3 : Int) * 3 ≤ d * d := Int.mul_le_mul h h (by omega) (by omega)
      omega
  obtain rfl : d = 2 := by omega
  decide⟩
theorem num_ok (h : AH) : F_mk_Num [.int 1, .int 5] h = .ok (.obj 0 [.int 5, .int 1]) h := by
  unfold F_mk_Num num2F
  simp [req_ok five (by decide)]
end K03

namespace K03
open Sm PySem L2
noncomputable abbrev es : List En := [⟨F_l_pool, .non⟩, ⟨F_l_take, .non⟩, ⟨F_Num_is_prime, .non⟩, ⟨F_Num_is_prime, .non⟩, ⟨F_mk_Num, .non⟩, ⟨F_l_truth, .non⟩, ⟨F_l_prime, .non⟩]
@[simp] theorem es0 : (csL es).fn 0 = F_l_pool := rfl
@[simp] theorem es1 : (csL es).fn 1 = F_l_take := rfl
@[simp] theorem es2 : (csL es).fn 2 = F_Num_is_prime := rfl
@[simp] theorem es3 : (csL es).fn 3 = F_Num_is_prime := rfl
@[simp] theorem es4 : (csL es).fn 4 = F_mk_Num := rfl
@[simp] theorem es5 : (csL es).fn 5 = F_l_truth := rfl
@[simp] theorem es6 : (csL es).fn 6 = F_l_prime := rfl
def RT (h0 : AH) (r : SR) : Prop := ∃ h', h'.length = h0.length + 1 ∧ r = .rt (.bl true) h'
/-- the last rows, whatever number was drawn -/
theorem end_ok {h0 : AH} {n : Int} (hn : n ≤ 100000) (x0 ρ1 ρ2 ρ4 : Option D) (h : AH) (hl : h.length = h0.length + 1) : RT h0 (exSs (csL es) (b_law.drop 7) [x0, ρ1, ρ2, some (.int n), ρ4] h) := by
  obtain ⟨b, e1, hb⟩ := prime_ok hn h
  obtain ⟨b', e2, hb'⟩ := lprime_ok hn h
  obtain rfl : b = b' := by
    have := hb.trans hb'.symm
    cases b <;> cases b' <;> simp_all
  have hit : ∀ x0 ρ1 ρ2 ρ4 : Option D, evI (csL es) (.seq (.lst false [(.cst 2 [(.var 3)]), (.cst 2 [(.var 3)]), (.sti 3 0 (.call 4 [(.con (.int 1)), (.con (.int 5))]) [(.var 3)])])) [x0, ρ1, ρ2, some (.int n), ρ4] h = .ok (.seq (.lst [.bl b, .bl b, .bl b])) h := fun x0 ρ1 ρ2 ρ4 => by
    simp [e1, num_ok]
    rw [mkL_f (ds := [.bl b, .bl b, .bl b]) (by show (3 : Nat) ≤ lim; decide)]
    simp [ckI_ok]
  unfold b_law
  simp only [List.drop]
  rw [q_cons]
  refine seq_for (Q := RT h0) (I := .seq (.lst [.bl b, .bl b, .bl b])) (all := [.bl b, .bl b, .bl b]) (hit _ _ _ _) (fun k ρ h' => h' = h ∧ ∃ ρ4, ρ = [x0, ρ1, ρ2, some (.int n), ρ4]) ⟨rfl, _, rfl⟩ (fun k ρ h' _ => by simp) ?_ ?_
  · rintro k d ρ h' hk ⟨rfl, ρ4, rfl⟩
    have : d = .bl b := by
      have := List.mem_of_getElem? hk
      simpa using this
    subst this
    refine ⟨_, rfl, ?_⟩
    simp [e2, truth_ok, blOf, truV]
  · rintro ρ h' ⟨rfl, ρ4, rfl⟩
    exact ⟨h', hl, by simp⟩
theorem law_true : LawT F_law 63 := by
  intro ns hl _
  obtain ⟨h1, e1, p1, l1⟩ := pool_ok ns [] hl
  obtain ⟨k, h2, e2, k0, k1, p2, l2, _⟩ := take_ok (many := 4) p1 (by decide) (by decide) (by decide)
  obtain ⟨n, h3, e3, n0, n1, p3, l3, _⟩ := take_ok (many := 200001) p2 (by decide) (by decide) (by decide)
  unfold F_law defF runF
  have fin : ∀ r, RT [] r → ∃ h, endF false [] r = .ok (.bl true) h := by
    rintro r ⟨h', hl, rfl⟩
    refine ⟨[], ?_⟩
    simp [endF, compact, hl, keepOf, mapO, fz, mapR]
  refine fin _ ?_
  -- the clamp and what follows
  have cut : ∀ (n : Int) (x0 ρ1 ρ2 ρ4 : Option D) (h : AH), h.length = 1 → RT [] (exSs (csL es) (b_law.drop 6) [x0, ρ1, ρ2, some (.int n), ρ4] h) := fun n x0 ρ1 ρ2 ρ4 h hl => by
    by_cases hn : n ≤ 100000
    · have := end_ok (h0 := []) hn x0 ρ1 ρ2 ρ4 h hl
      have e : exSs (csL es) (b_law.drop 6) [x0, ρ1, ρ2, some (.int n), ρ4] h = exSs (csL es) (b_law.drop 7) [x0, ρ1, ρ2, some (.int n), ρ4] h := by
        have hn' : ¬ 100000 < n := by omega
        conv => lhs; unfold b_law
        simp only [List.drop]
        rw [q_cons]
        simp only [q_iff, q_cmp, q_var, q_con, tr_false, d_int]
        simp [hn', b_law]
      rw [e]; exact this
    · have := end_ok (h0 := []) (n := 100000) (by decide) x0 ρ1 ρ2 ρ4 h hl
      have e : exSs (csL es) (b_law.drop 6) [x0, ρ1, ρ2, some (.int n), ρ4] h = exSs (csL es) (b_law.drop 7) [x0, ρ1, ρ2, some (.int 100000), ρ4] h := by
        have hn' : 100000 < n := by omega
        conv => lhs; unfold b_law
        simp only [List.drop]
        rw [q_cons]
        simp only [q_iff, q_cmp, q_var, q_con, tr_false, d_int]
        simp [hn', b_law]
      rw [e]; exact this
  have k03 : k = 0 ∨ k = 1 ∨ k = 2 ∨ k = 3 := by omega
  have p0 : p1 = p1 := rfl
  simp only [List.length_nil] at e1 e2 e3 p2 p3
  have start : exSs (csL es) b_law ((List.map some [D.ro (ns.map D.int)]) ++ List.replicate (5 - [D.ro (ns.map D.int)].length) none) [] = exSs (csL es) (b_law.drop 3) [some (.ro (ns.map .int)), some (.ref 0), some (.int k), some (.int (n - 100000)), none] h3 := by
    simp [e1, e2, e3, b_law]
  rw [start]
  have hl3 : h3.length = 1 := by rw [l3, l2, l1]; rfl
  rcases k03 with rfl | rfl | rfl | rfl
  · have e : exSs (csL es) (b_law.drop 3) [some (.ro (ns.map .int)), some (.ref 0), some (.int 0), some (.int (n - 100000)), none] h3 = exSs (csL es) (b_law.drop 6) [some (.ro (ns.map .int)), some (.ref 0), some (.int 0), some (.int (n - 100000)), none] h3 := by
      conv => lhs; unfold b_law
      simp only [List.drop]
      rw [q_cons]
      simp [b_law]
    rw [e]
    exact cut _ _ _ _ _ _ hl3
  · obtain ⟨d, h4, e4, d0, d1, p4, l4, _⟩ := take_ok (many := 421) p3 (by decide) (by decide) (by decide)
    have e : exSs (csL es) (b_law.drop 3) [some (.ro (ns.map .int)), some (.ref 0), some (.int 1), some (.int (n - 100000)), none] h3 = exSs (csL es) (b_law.drop 6) [some (.ro (ns.map .int)), some (.ref 0), some (.int 1), some (.int (d - 20)), none] h4 := by
      conv => lhs; unfold b_law
      simp only [List.drop]
      rw [q_cons]
      simp [b_law, e4]
    rw [e]
    exact cut _ _ _ _ _ _ (by omega)
  · obtain ⟨a, h4, e4, a0, a1, p4, l4, _⟩ := take_ok (many := 315) p3 (by decide) (by decide) (by decide)
    obtain ⟨b, h5, e5, b0, b1, p5, l5, _⟩ := take_ok (many := 315) p4 (by decide) (by decide) (by decide)
    have ml : ∀ h, binV .mul (.int (2 + a)) (.int (2 + b)) h = .ok (.int ((2 + a) * (2 + b))) h := fun h => binV_mul (by omega) (by omega) h
    have e : exSs (csL es) (b_law.drop 3) [some (.ro (ns.map .int)), some (.ref 0), some (.int 2), some (.int (n - 100000)), none] h3 = exSs (csL es) (b_law.drop 6) [some (.ro (ns.map .int)), some (.ref 0), some (.int 2), some (.int ((2 + a) * (2 + b))), none] h5 := by
      conv => lhs; unfold b_law
      simp only [List.drop]
      rw [q_cons]
      simp [b_law, e4, e5, ml]
    rw [e]
    exact cut _ _ _ _ _ _ (by omega)
  · obtain ⟨d, h4, e4, d0, d1, p4, l4, _⟩ := take_ok (many := 10) p3 (by decide) (by decide) (by decide)
    have pick : ∃ z : Int, atI [D.int 341, D.int 561, D.int 1105, D.int 1729, D.int 2047, D.int 3277, D.int 6601, D.int 8911, D.int 29341, D.int 99856] d = some (.int z) := by
      have : d = 0 ∨ d = 1 ∨ d = 2 ∨ d = 3 ∨ d = 4 ∨ d = 5 ∨ d = 6 ∨ d = 7 ∨ d = 8 ∨ d = 9 := by omega
      rcases this with rfl | rfl | rfl | rfl | rfl | rfl | rfl | rfl | rfl | rfl <;> exact ⟨_, rfl⟩
    obtain ⟨z, hz⟩ := pick
    have hL : ∀ h, mkL false [D.int 341, D.int 561, D.int 1105, D.int 1729, D.int 2047, D.int 3277, D.int 6601, D.int 8911, D.int 29341, D.int 99856] h = .ok (.lst [D.int 341, D.int 561, D.int 1105, D.int 1729, D.int 2047, D.int 3277, D.int 6601, D.int 8911, D.int 29341, D.int 99856]) h := fun h => mkL_f (by show (10 : Nat) ≤ lim; decide)
    have e : exSs (csL es) (b_law.drop 3) [some (.ro (ns.map .int)), some (.ref 0), some (.int 3), some (.int (n - 100000)), none] h3 = exSs (csL es) (b_law.drop 6) [some (.ro (ns.map .int)), some (.ref 0), some (.int 3), some (.int z), none] h4 := by
      conv => lhs; unfold b_law
      simp only [List.drop]
      rw [q_cons]
      simp [b_law, e4, hL, hz]
    rw [e]
    exact cut _ _ _ _ _ _ (by omega)
end K03

open PySem PySem.W PySem.Calls PyProof.Rows
theorem PySem.Challenge.cw_shelfmixes_k03_prime_numbers_holds : PySem.Challenge.rw_shelfmixes_k03_prime_numbers.Holds := by
  w_on; o_law
  refine HandSHeadRun.head_any (r := OpenLaw.row PySem.Challenge.rw_shelfmixes_k03_prime_numbers) (q := view (OpenLaw.row PySem.Challenge.rw_shelfmixes_k03_prime_numbers).prog [15]) (H := K03.hk) (ob := K03.ob) (M := 9000) (loose := K03.loose) (d := HandSHeadRun.topDef (OpenLaw.row PySem.Challenge.rw_shelfmixes_k03_prime_numbers).prog 15) (kwd := []) K03.ob_eq
    (by kernel_rfl) (fun s => by kernel_rfl) K03.run (by kernel_rfl) (by kernel_rfl) (by kernel_rfl) (by rfl) (by first | assumption | decide +kernel) (by decide +kernel) ⟨rfl, rfl, rfl, rfl, rfl, by decide +kernel⟩ ?hw ?hc
  case hw => w_witness2
  case hc => exact Sm.walk_end (l := PySem.Challenge.rw_shelfmixes_k03_prime_numbers) (n := 63) (k := 5) (x := "_law_script") rfl (by decide) (by kernel_rfl) ⟨rfl, by decide, by decide⟩ (by kernel_rfl) K03.law_true K03.facts

