import PyProof.Rows.All
import Wide.All
import OpenK.AllK
import Wide.FinOn
import HandS.ForMost
import HandS.ForExc
import HandS.ExcInit
import HandS.MakeKw
import HandS.EndBits
import HandS.IsInst
import HandS.TryMany
import PyProof.ReprNest
import HandS.ExcSuper
import HandS.Wide
import PyProof.ReprRoads
import HandS.TupAny
import HandS.TupMul
import HandS.Gcd
import HandS.SortInts
import HandS.Style
import OpenK.KOps
import HandS.ExcField
import PyProof.InstNe
import OpenK.KOwn
import OpenK.KLine
import PyProof.FitsInt
import PyProof.ReprReads
import PyProof.Rows.RegStrFacts
import HandS.Conv
import HandS.SetFor
import HandS.Strs
import PySem.Challenge.RW_grainhouse_k75_whole_moves_joined_and_se
set_option Elab.async false
set_option linter.all false
set_option maxRecDepth 100000
set_option maxHeartbeats 4000000
/-! A layer of plain data over the hand layer: values as trees (D), lists and instances that change as numbered owned things (HD). -/
namespace Gh
open PySem L2
/-- a value as data: what is shared and stays is a tree; ref i: the i-th owned thing -/
inductive D where
  | non | bl (b : Bool) | int (i : Int) | str (x : Str) | lst (ds : List D) | tup (ds : List D) | obj (c : Nat) (fs : List (Str × D)) | ref (i : Nat)
/-- an owned thing: a list that may change, an instance in its making -/
inductive HD where
  | lst (ds : List D) | ins (c : Nat) (fs : List (Str × D))
/-- the ground: the written part, the classes by number -/
structure G where
  K : PySem.W.Frag
  cl : Nat → Addr
  n : Nat := 0
mutual
def VD (g : G) (Hb : Hp) (m : List Addr) : D → V → Prop
  | .non, v => v = .non
  | .bl b, v => v = .bl b
  | .int i, v => v = .int i
  | .str x, v => v = .str x
  | .lst ds, v => ∃ a vs, v = .ref a ∧ Rd Hb a (.lst vs) ∧ VDs g Hb m ds vs
  | .tup ds, v => ∃ a vs, v = .ref a ∧ SqT g.K Hb a vs ∧ VDs g Hb m ds vs
  | .obj c fs, v => ∃ a dx ws, v = .ref a ∧ Hb a = some (.ins (g.cl c) dx ws) ∧ VDf g Hb m fs ws
  | .ref i, v => ∃ a, v = .ref a ∧ m[i]? = some a
def VDs (g : G) (Hb : Hp) (m : List Addr) : List D → List V → Prop
  | [], vs => vs = []
  | d :: ds, vs => ∃ v r, vs = v :: r ∧ VD g Hb m d v ∧ VDs g Hb m ds r
def VDf (g : G) (Hb : Hp) (m : List Addr) : List (Str × D) → List (Str × V) → Prop
  | [], ws => ws = []
  | (f, d) :: r, ws => ∃ v q, ws = (f, v) :: q ∧ VD g Hb m d v ∧ VDf g Hb m r q
end
/-- pure part and places grow -/
structure Gr (Hb : Hp) (m : List Addr) (Hb' : Hp) (m' : List Addr) : Prop where
  h : Same Hb Hb'
  m : ∀ (i : Nat) (a : Addr), m[i]? = some a → m'[i]? = some a
theorem Gr.refl {Hb : Hp} {m : List Addr} : Gr Hb m Hb m := ⟨Same.refl _, fun _ _ h => h⟩
theorem Gr.trans {Hb H1 H2 : Hp} {m m1 m2 : List Addr} (a : Gr Hb m H1 m1) (b : Gr H1 m1 H2 m2) : Gr Hb m H2 m2 := ⟨a.h.trans b.h, fun i x h => b.m i x (a.m i x h)⟩
theorem Same.rd {H H' : Hp} {a : Addr} {u : HO} (e : Same H H') (h : Rd H a u) : Rd H' a u := by
  rcases h with h | ⟨o, h⟩
  · exact .inl (e _ _ h)
  · exact .inr ⟨o, e _ _ h⟩
theorem Same.tup {K : PySem.W.Frag} {H H' : Hp} {a : Addr} {xs : List V} (e : Same H H') (h : SqT K H a xs) : SqT K H' a xs := by
  rcases h with h | h
  · exact .inl (Gh.Same.rd e h)
  · exact .inr h
section
variable {g : G} {Hb Hb' : Hp} {m m' : List Addr}
mutual
theorem VD.mono (e : Gr Hb m Hb' m') : ∀ (d : D) (v : V), VD g Hb m d v → VD g Hb' m' d v
  | .non, _, h => h
  | .bl _, _, h => h
  | .int _, _, h => h
  | .str _, _, h => h
  | .lst ds, v, ⟨a, vs, h1, h2, h3⟩ => ⟨a, vs, h1, Gh.Same.rd e.h h2, VDs.mono e ds vs h3⟩
  | .tup ds, v, ⟨a, vs, h1, h2, h3⟩ => ⟨a, vs, h1, Gh.Same.tup e.h h2, VDs.mono e ds vs h3⟩
  | .obj c fs, v, ⟨a, dx, ws, h1, h2, h3⟩ => ⟨a, dx, ws, h1, e.h _ _ h2, VDf.mono e fs ws h3⟩
  | .ref i, v, ⟨a, h1, h2⟩ => ⟨a, h1, e.m _ _ h2⟩
theorem VDs.mono (e : Gr Hb m Hb' m') : ∀ (ds : List D) (vs : List V), VDs g Hb m ds vs → VDs g Hb' m' ds vs
  | [], _, h => h
  | d :: ds, vs, ⟨v, r, h1, h2, h3⟩ => ⟨v, r, h1, VD.mono e d v h2, VDs.mono e ds r h3⟩
theorem VDf.mono (e : Gr Hb m Hb' m') : ∀ (fs : List (Str × D)) (ws : List (Str × V)), VDf g Hb m fs ws → VDf g Hb' m' fs ws
  | [], _, h => h
  | (f, d) :: r, ws, ⟨v, q, h1, h2, h3⟩ => ⟨v, q, h1, VD.mono e d v h2, VDf.mono e r q h3⟩
end
theorem VDs.length : ∀ {ds : List D} {vs : List V}, VDs g Hb m ds vs → ds.length = vs.length
  | [], vs, h => by subst h; rfl
  | d :: ds, vs, ⟨v, r, h1, _, h3⟩ => by subst h1; simp [VDs.length h3]
theorem VDs.get : ∀ {ds : List D} {vs : List V} {i : Nat} {d : D}, VDs g Hb m ds vs → ds[i]? = some d → ∃ v, vs[i]? = some v ∧ VD g Hb m d v
  | [], _, _, _, _, e => by simp at e
  | d :: ds, vs, 0, x, ⟨v, r, h1, h2, _⟩, e => by
    subst h1
    have e' : d = x := by simpa using e
    subst e'
    exact ⟨v, rfl, h2⟩
  | d :: ds, vs, i + 1, x, ⟨v, r, h1, _, h3⟩, e => by
    subst h1
    obtain ⟨u, e1, e2⟩ := VDs.get (i := i) h3 (by simpa using e)
    exact ⟨u, by simpa using e1, e2⟩
theorem VDs.append : ∀ {ds es : List D} {vs us : List V}, VDs g Hb m ds vs → VDs g Hb m es us → VDs g Hb m (ds ++ es) (vs ++ us)
  | [], _, vs, _, h, h' => by subst h; exact h'
  | d :: ds, _, vs, _, ⟨v, r, h1, h2, h3⟩, h' => by subst h1; exact ⟨v, _, rfl, h2, VDs.append h3 h'⟩
theorem VDs.snoc {ds : List D} {vs : List V} {d : D} {v : V} (h : VDs g Hb m ds vs) (h' : VD g Hb m d v) : VDs g Hb m (ds ++ [d]) (vs ++ [v]) := h.append ⟨v, [], rfl, h', rfl⟩
theorem VDs.set : ∀ {ds : List D} {vs : List V} (i : Nat) {d : D} {v : V}, VDs g Hb m ds vs → VD g Hb m d v → VDs g Hb m (ds.set i d) (vs.set i v)
  | [], _, _, _, _, h, _ => by subst h; rfl
  | _ :: ds, vs, 0, d, v, ⟨_, r, h1, _, h3⟩, h' => by subst h1; exact ⟨v, r, rfl, h', h3⟩
  | _ :: ds, vs, i + 1, d, v, ⟨u, r, h1, h2, h3⟩, h' => by subst h1; exact ⟨u, _, rfl, h2, VDs.set i h3 h'⟩
theorem VDs.take : ∀ {ds : List D} {vs : List V} (n : Nat), VDs g Hb m ds vs → VDs g Hb m (ds.take n) (vs.take n)
  | ds, vs, 0, _ => by simp; rfl
  | [], vs, n + 1, h => by subst h; rfl
  | d :: ds, vs, n + 1, ⟨v, r, h1, h2, h3⟩ => by subst h1; exact ⟨v, _, rfl, h2, VDs.take n h3⟩
theorem VDs.drop : ∀ {ds : List D} {vs : List V} (n : Nat), VDs g Hb m ds vs → VDs g Hb m (ds.drop n) (vs.drop n)
  | ds, vs, 0, h => by simpa using h
  | [], vs, n + 1, h => by subst h; rfl
  | d :: ds, vs, n + 1, ⟨v, r, h1, h2, h3⟩ => by subst h1; exact VDs.drop n h3
end
/-- what stands at an owned address -/
def OwnAt (g : G) (Hb : Hp) (m : List Addr) (H : Hp) (a : Addr) : HD → Prop
  | .lst ds => ∃ vs, H a = some (.lst vs) ∧ VDs g Hb m ds vs
  | .ins c fs => ∃ dx ws, H a = some (.ins (g.cl c) dx ws) ∧ VDf g Hb m fs ws
/-- the heap is the pure part Hb and the owned things eta, at m; F: what stands beside both and stays -/
structure RelH (g : G) (F : Hp) (Hb : Hp) (m : List Addr) (eta : List HD) (H : Hp) : Prop where
  fr : ∀ a o, F a = some o → H a = some o ∧ Hb a = none ∧ a ∉ m
  ex : Same Hb H
  len : m.length = eta.length
  nd : m.Nodup
  out : ∀ a ∈ m, Hb a = none
  own : ∀ (i : Nat) (a : Addr) (o : HD), m[i]? = some a → eta[i]? = some o → OwnAt g Hb m H a o
/-- an error as it lies: its class, its own dict -/
def XD (g : G) (Hb : Hp) (m : List Addr) (x : Nat) (fs : List (Str × D)) (cls : Value) (dd : Option Addr) : Prop :=
  cls = .ref (g.cl x) ∧ ((fs = [] ∧ dd = none) ∨ ∃ a ws, dd = some a ∧ Hb a = some (.xd ws) ∧ VDf g Hb m fs ws)
theorem XD.mono {g : G} {Hb Hb' : Hp} {m m' : List Addr} {x : Nat} {fs : List (Str × D)} {cls : Value} {dd : Option Addr} (e : Gr Hb m Hb' m') (h : XD g Hb m x fs cls dd) : XD g Hb' m' x fs cls dd := by
  obtain ⟨h1, h2 | ⟨a, ws, h2, h3, h4⟩⟩ := h
  · exact ⟨h1, .inl h2⟩
  · exact ⟨h1, .inr ⟨a, ws, h2, e.h _ _ h3, VDf.mono e _ _ h4⟩⟩
/-- the error that a suite holds: its slot, its place, class, dict; as data its class's number and its attributes -/
structure XC where
  i : Nat
  a : Addr
  cls : Value
  d : Option Addr
  x : Nat
  fs : List (Str × D)
  /-- or: a list of ints that is handed in -/
  pr : Option (List Int) := none
/-- what is wanted of errors, and the one that is held -/
structure WE where
  w : L2.WX
  xc : Option XC
/-- the slots -/
structure RelS (g : G) (xc : Option XC) (Hb : Hp) (m : List Addr) (rho : List (Option D)) (σ : L2.St) : Prop where
  len : rho.length = σ.length
  at_ : ∀ (i : Nat) (d : D), rho[i]? = some (some d) → ∃ v, σ[i]? = some (some v) ∧ VD g Hb m d v
  xc : ∀ q, xc = some q → σ[q.i]? = some (some (.ref q.a)) ∧ XD g Hb m q.x q.fs q.cls q.d ∧ ∀ ns, q.pr = some ns → SqL g.K Hb q.a (ns.map V.int)
section
variable {g : G} {xc : Option XC} {Hb Hb' : Hp} {m m' : List Addr} {rho : List (Option D)} {σ : L2.St}
theorem RelS.mono (e : Gr Hb m Hb' m') (h : RelS g xc Hb m rho σ) : RelS g xc Hb' m' rho σ :=
  ⟨h.len, fun i d q => let ⟨v, a, b⟩ := h.at_ i d q; ⟨v, a, VD.mono e d v b⟩, fun q hq => ⟨(h.xc q hq).1, (h.xc q hq).2.1.mono e, fun ns hn => ((h.xc q hq).2.2 ns hn).imp (fun z => Gh.Same.rd e.h z) id⟩⟩
theorem RelS.put (h : RelS g xc Hb m rho σ) (i : Nat) {o : Option D} {u : Option V} (hn : ∀ q, xc = some q → q.i ≠ i) (r : ∀ d, o = some d → ∃ v, u = some v ∧ VD g Hb m d v) : RelS g xc Hb m (rho.set i o) (σ.set i u) := by
  refine ⟨by simp [h.len], fun j e q => ?_, fun q hq => ⟨?_, (h.xc q hq).2⟩⟩
  · by_cases hj : i = j
    · subst hj
      rw [List.getElem?_set] at q
      rw [List.getElem?_set]
      by_cases hl : i < rho.length
      · simp only [if_true, hl] at q
        obtain ⟨v, hv, k⟩ := r e (by simpa using q)
        exact ⟨v, by simp [← h.len, hl, hv], k⟩
      · simp [hl] at q
    · rw [List.getElem?_set_ne hj] at q
      obtain ⟨u, a, b⟩ := h.at_ j e q
      exact ⟨u, by rw [List.getElem?_set_ne hj]; exact a, b⟩
  · rw [List.getElem?_set_ne (Ne.symm (hn q hq))]
    exact (h.xc q hq).1
theorem RelS.set (h : RelS g xc Hb m rho σ) (i : Nat) {d : D} {v : V} (hn : ∀ q, xc = some q → q.i ≠ i) (r : VD g Hb m d v) : RelS g xc Hb m (rho.set i (some d)) (σ.set i (some v)) :=
  h.put i hn fun e he => by cases he; exact ⟨v, rfl, r⟩
theorem RelS.wipe (h : RelS g xc Hb m rho σ) (i : Nat) (hn : ∀ q, xc = some q → q.i ≠ i) : RelS g xc Hb m (rho.set i none) (σ.set i none) :=
  h.put i hn fun e he => by cases he
end
section
variable {g : G} {F : Hp} {Hb : Hp} {m : List Addr} {eta : List HD} {H : Hp}
/-- a new object beside all that is tracked, made pure -/
theorem RelH.pure (r : RelH g F Hb m eta H) {p : Addr} {o : HO} (hp : H p = none) : RelH g F (upd Hb p o) m eta (upd H p o) ∧ Gr Hb m (upd Hb p o) m := by
  have nb : Hb p = none := r.ex.free hp
  have s1 : Same Hb (upd Hb p o) := fun b u e => by rw [upd_ne (ne_of_none e nb)]; exact e
  have np : ∀ (i : Nat) (a : Addr) (u : HD), m[i]? = some a → eta[i]? = some u → a ≠ p := fun i a u h1 h2 => by
    have z := r.own i a u h1 h2
    cases u with
    | lst ds => obtain ⟨vs, z, _⟩ := z; exact ne_of_none z hp
    | ins c fs => obtain ⟨dx, ws, z, _⟩ := z; exact ne_of_none z hp
  refine ⟨⟨fun a u e => ?_, fun b u e => ?_, r.len, r.nd, fun a ha => ?_, fun i a u h1 h2 => ?_⟩, ⟨s1, fun _ _ h => h⟩⟩
  · obtain ⟨f1, f2, f3⟩ := r.fr a u e
    have ne := ne_of_none f1 hp
    exact ⟨by rw [upd_ne ne]; exact f1, by rw [upd_ne ne]; exact f2, f3⟩
  · by_cases hb : b = p
    · subst hb; rw [upd_same] at e ⊢; exact e
    · rw [upd_ne hb] at e ⊢; exact r.ex _ _ e
  · obtain ⟨i, hi, rfl⟩ := List.getElem_of_mem ha
    have hl : i < eta.length := by rw [← r.len]; exact hi
    have z := np i m[i] eta[i] (List.getElem?_eq_getElem hi) (List.getElem?_eq_getElem hl)
    rw [upd_ne z]
    exact r.out _ ha
  · have z := r.own i a u h1 h2
    have ne := np i a u h1 h2
    cases u with
    | lst ds => obtain ⟨vs, z1, z2⟩ := z; exact ⟨vs, by rw [upd_ne ne]; exact z1, VDs.mono ⟨s1, fun _ _ h => h⟩ _ _ z2⟩
    | ins c fs => obtain ⟨dx, ws, z1, z2⟩ := z; exact ⟨dx, ws, by rw [upd_ne ne]; exact z1, VDf.mono ⟨s1, fun _ _ h => h⟩ _ _ z2⟩
theorem RelH.notin (r : RelH g F Hb m eta H) {p : Addr} (hp : H p = none) : p ∉ m := fun hm => by
  obtain ⟨i, hi, rfl⟩ := List.getElem_of_mem hm
  have hl : i < eta.length := by rw [← r.len]; exact hi
  have z := r.own i m[i] eta[i] (List.getElem?_eq_getElem hi) (List.getElem?_eq_getElem hl)
  cases q : eta[i] with
  | lst ds => rw [q] at z; obtain ⟨vs, z, _⟩ := z; rw [hp] at z; cases z
  | ins c fs => rw [q] at z; obtain ⟨dx, ws, z, _⟩ := z; rw [hp] at z; cases z
theorem OwnAt.mono {Hb' : Hp} {m' : List Addr} {H' : Hp} {a : Addr} {o : HD} (e : Gr Hb m Hb' m') (ha : H' a = H a) (h : OwnAt g Hb m H a o) : OwnAt g Hb' m' H' a o := by
  cases o with
  | lst ds => obtain ⟨vs, z1, z2⟩ := h; exact ⟨vs, ha.trans z1, VDs.mono e _ _ z2⟩
  | ins c fs => obtain ⟨dx, ws, z1, z2⟩ := h; exact ⟨dx, ws, ha.trans z1, VDf.mono e _ _ z2⟩
/-- a new object beside all, owned -/
theorem RelH.fresh (r : RelH g F Hb m eta H) {p : Addr} {o : HO} {u : HD} (hp : H p = none) (hu : OwnAt g Hb (m ++ [p]) (upd H p o) p u) : RelH g F Hb (m ++ [p]) (eta ++ [u]) (upd H p o) ∧ Gr Hb m Hb (m ++ [p]) := by
  have nm := r.notin hp
  have gr : Gr Hb m Hb (m ++ [p]) := ⟨Same.refl _, fun i a h => by
    rw [List.getElem?_append_left (List.getElem?_eq_some_iff.mp h).1]; exact h⟩
  refine ⟨⟨fun a u e => ?_, fun b v e => ?_, by simp [r.len], ?_, fun a ha => ?_, fun i a v h1 h2 => ?_⟩, gr⟩
  · obtain ⟨f1, f2, f3⟩ := r.fr a u e
    have ne := ne_of_none f1 hp
    exact ⟨by rw [upd_ne ne]; exact f1, f2, by simp [f3, ne]⟩
  · rw [upd_ne (ne_of_none (r.ex _ _ e) hp)]; exact r.ex _ _ e
  · refine List.nodup_append.mpr ⟨r.nd, by simp, fun a ha b hb => ?_⟩
    rintro rfl
    have : a = p := by simpa using hb
    subst this
    exact nm ha
  · rcases List.mem_append.mp ha with ha | ha
    · exact r.out _ ha
    · have : a = p := by simpa using ha
      subst this
      exact r.ex.free hp
  · by_cases hi : i < m.length
    · rw [List.getElem?_append_left hi] at h1
      rw [List.getElem?_append_left (by rw [← r.len]; exact hi)] at h2
      have ne : a ≠ p := fun z => nm (z ▸ List.mem_of_getElem? h1)
      exact (r.own i a v h1 h2).mono gr (upd_ne ne)
    · have hi' : i = m.length := by
        have := (List.getElem?_eq_some_iff.mp h1).1
        simp at this; omega
      subst hi'
      rw [List.getElem?_append_right (Nat.le_refl _)] at h1
      rw [List.getElem?_append_right (by rw [r.len]; exact Nat.le_refl _)] at h2
      have e1 : p = a := by simpa using h1
      have e2 : u = v := by simpa [r.len] using h2
      subst e1; subst e2
      exact hu
/-- an owned thing is written -/
theorem RelH.write (r : RelH g F Hb m eta H) {i : Nat} {p : Addr} {o : HO} {u : HD} (hi : m[i]? = some p) (hu : OwnAt g Hb m (upd H p o) p u) : RelH g F Hb m (eta.set i u) (upd H p o) := by
  have nb := r.out p (List.mem_of_getElem? hi)
  refine ⟨fun a u e => ?_, fun b v e => ?_, by simp [r.len], r.nd, r.out, fun j a v h1 h2 => ?_⟩
  · obtain ⟨f1, f2, f3⟩ := r.fr a u e
    have ne : a ≠ p := fun z => f3 (z ▸ List.mem_of_getElem? hi)
    exact ⟨by rw [upd_ne ne]; exact f1, f2, f3⟩
  · rw [upd_ne (ne_of_none e nb)]; exact r.ex _ _ e
  · by_cases hj : i = j
    · subst hj
      rw [hi] at h1; cases h1
      have hl : i < eta.length := by rw [← r.len]; exact (List.getElem?_eq_some_iff.mp hi).1
      rw [List.getElem?_set_self hl] at h2; cases h2
      exact hu
    · rw [List.getElem?_set_ne hj] at h2
      have ne : a ≠ p := fun z => by
        subst z
        obtain ⟨l1, e1⟩ := List.getElem?_eq_some_iff.mp hi
        obtain ⟨l2, e2⟩ := List.getElem?_eq_some_iff.mp h1
        exact hj ((List.getElem_inj r.nd).mp (e1.trans e2.symm))
      exact (r.own j a v h1 h2).mono Gr.refl (upd_ne ne)
end
end Gh
/-! Calls where no repr is under way (A.guards = some []): FnG beside the hand layer's FnOk; its body, its calls, its end. -/
namespace Gh
open PySem PySem.Spec PyProof.Rows L2
/-- room, and no repr under way -/
structure Rm (k : Nat) (A : Around) : Prop where
  r : Room k A
  gd : A.guards = some []
theorem Rm.mono {j k : Nat} {A : Around} (h : Rm k A) (l : j ≤ k) : Rm j A := ⟨h.r.mono l, h.gd⟩
theorem Rm.deeper {k : Nat} {A : Around} (h : Rm (k + 1) A) (env : Env) : Rm k (A.deeper env) := ⟨h.r.deeper env, h.gd⟩
theorem Rm.make {k : Nat} {A : Around} (h : Rm (k + 1) A) (C : Addr) (us : List Value) (kw : List (Str × Value)) : Rm k (A.under (.builtin "type.__call__" ⟨.ref C :: us, kw⟩)) := by
  refine ⟨h.r.make C us kw, ?_⟩
  have e : (Code.builtin "type.__call__" ⟨.ref C :: us, kw⟩).guards = [] := by
    have z : (Code.builtin "type.__call__" ⟨.ref C :: us, kw⟩).isGuard = false := by
      show guardIds.contains "type.__call__" = false
      decide +kernel
    unfold Code.guards
    rw [z]
    rfl
  simp only [Around.under, e, pushGuards, h.gd]
/-- a def's promise, no repr under way -/
structure FnG (P : Program) (w : World) (K : PySem.W.Frag) (mg : Str → Option Value) (base : Heap) (k : Nat) (f : Addr) (fd : FuncData) (ps : List Str) (sp : Sp) : Prop where
  len : ∀ vs H Q E, sp vs H Q E → vs.length = ps.length
  run : ∀ (A : Around) (outer : List Env) (s : Shared) (H : Hp) (args : Args) (us : List Value) (vs : List V) (Q : VK) (E : XK), Rm k A → Env0 P w K mg base A outer s H → BindsTo s fd args (ps.zip us) → Vals vs us → sp vs H Q E →
    codeAny (model P w) A (.call (.ref f) args) (CR (L2.CX P w) outer P w H s Q E) s
section
variable {P : Program} {w : World} {K : PySem.W.Frag} {mg : Str → Option Value} {base : Heap}
theorem FnG.mono {j k : Nat} {f : Addr} {fd : FuncData} {ps : List Str} {sp : Sp} (F : FnG P w K mg base j f fd ps sp) (h : j ≤ k) : FnG P w K mg base k f fd ps sp :=
  ⟨F.len, fun A outer s H args us vs Q E hr => F.run A outer s H args us vs Q E (hr.mono h)⟩
/-- the rule for a def's body -/
theorem fng_of {k : Nat} {f : Addr} {name qual : Str} {params : Arguments} {body : List Stmt} {scope : Scope} {dV kV doc pm cdv ct oc : Value} {an od : Option Addr} {osl : Array (Option Value)} {N ps : List Str} {sp : Sp}
    (lk : K.lookup f = some ⟨oc, od, .func (PySem.W.fnOf name qual params body scope dV kV doc pm an cdv ct), osl⟩) (hcd : PySem.W.codeIn K cdv qual = true) (S : FnScope N ps scope)
    (len : ∀ vs H Q E, sp vs H Q E → vs.length = ps.length)
    (hbody : ∀ (A : Around) (outer : List Env) (s : Shared) (H : Hp) (vs : List V) (Q : VK) (E : XK), Rm k (A.deeper (envOfC qual scope s.heap.objs.size f cdv)) → sp vs H Q E →
      ∃ t, PSs (cxOf (L2.CX P w) P w K mg base N qual scope f cdv A outer s H E) body t ∧ t { nx := fun _ H' => Q .non H', rt := Q } (start N vs) H) :
    FnG P w K mg base (k + 1) f (PySem.W.fnOf name qual params body scope dV kV doc pm an cdv ct) ps sp := by
  constructor
  · exact len
  intro A outer s H args us vs Q E hr e0 hb r hsp
  have hl := len _ _ _ _ hsp
  have inK : K.In s.heap := e0.mod.kin.keeps (fun b o e => (e0.bs b o e).1)
  have noLim : s.heap.NoLimit := e0.mod.nolimit.keeps (fun b o e => (e0.bs b o e).1)
  have kinds : ∀ y ∈ ps.zip us, scope.names.lookup y.1 = some .local ∨ (scope.names.lookup y.1 = some .cell ∧ ((cellsFrom (s.heap.objs.size + 1) scope.names []).lookup y.1).isSome = true) := by
    rintro ⟨n, v⟩ hy
    rcases S.par n (List.of_mem_zip hy).1 with q | q
    · exact Or.inl q
    · exact Or.inr ⟨q, PySem.W.cellsFrom_some _ _ _ (Or.inl q)⟩
  refine codeAny_call_function hr.r.depth (inK _ _ lk) rfl S.co S.gen rfl (PySem.W.codeRec_of inK hcd) (hb _ _ _ _ ?_)
  refine wpAny_newFunctionEnv_cells S.kind kinds (fun env he s1 x => ?_)
  subst he
  refine ⟨noLim.keeps x.toInCall.keep, codeAny_func ?_⟩
  obtain ⟨t, ht, hq⟩ := hbody A outer s H vs Q E (hr.deeper _) hsp
  have I := inv_start (CX := L2.CX P w) (E := E) S hr.r.hd e0 hl r x
  refine wpAny_mono (ht.run [] s1 (start N vs) H _ I hq) (fun fl s' hs => ?_) (fun e s' hs => hs)
  cases fl with
  | ret u => obtain ⟨v, σ', H', J, rv, q⟩ := hs; exact ⟨v, H', J.os, J.bare, J.base, J.hok, rv, q⟩
  | next => obtain ⟨σ', H', J, q⟩ := hs; exact ⟨.non, H', J.os, J.bare, J.base, J.hok, rfl, q⟩
  | brk => obtain ⟨_, _, _, q⟩ := hs; exact q.elim
  | cont => obtain ⟨_, _, _, q⟩ := hs; exact q.elim
end
section
variable {X : Cx} {k n : Nat} {f C : Addr} {fd : FuncData} {ps ks : List Str} {sp : Sp} {E : XK} {g : List Value → List Value → List Value} {gV : List V → List V → List V}
variable {pins : List (Addr × Obj)} {σ : L2.St} {H : Hp} {s : Shared} {Q : VK} {us ws : List Value} {vs zs : List V}
/-- the callee runs: n values and keywords ks -/
theorem run_g (F : FnG X.prog X.w X.K X.mg X.base k f fd ps sp) (hr : Rm k X.A) (hb : KBn X.K fd ps n ks g gV) (hx : Passes (L2.CX X.prog X.w) X E) (I : Inv X pins σ H s) (r : Vals vs us) (rz : Vals zs ws) (l1 : vs.length = n) (l2 : zs.length = ks.length)
    (h : sp (gV vs zs) H Q E) : wpAny (model X.prog X.w) X.A (call (.ref f) us (ks.zip ws)) (EP X pins σ Q) X.xe s := by
  refine wpAny_call (codeAny_mono (F.run X.A X.stack s H ⟨us, ks.zip ws⟩ (g us ws) (gV vs zs) Q E hr I.env0 (hb.to s us ws I.kIn (r.length.symm.trans l1) (rz.length.symm.trans l2)) (hb.rel r rz) h) (fun r s' hq => ?_))
  cases r with
  | error e => exact hx pins σ H s e s' I hq
  | ok fl => cases fl with
    | ret u => exact I.after hq
    | next => exact hq.elim
    | brk => exact hq.elim
    | cont => exact hq.elim
/-- a new instance, then its __init__ -/
theorem run_gm (M : Mk X.K C f) (F : FnG X.prog X.w X.K X.mg X.base k f fd ps sp) (hr : Rm (k + 1) X.A) (hb : KBn X.K fd ps (n + 1) ks g gV) (hx : Passes (L2.CX X.prog X.w) X E) (I : Inv X pins σ H s) (r : Vals vs us) (rz : Vals zs ws) (l1 : vs.length = n) (l2 : zs.length = ks.length)
    (h : ∀ x dx, H x = none → H dx = none → dx ≠ x → sp (gV (.ref x :: vs) zs) (upd (upd H dx (.own x)) x (.ins C dx [])) (fun v H2 => v = .non ∧ Q (.ref x) H2) E) :
    wpAny (model X.prog X.w) X.A (call (.ref C) us (ks.zip ws)) (EP X pins σ Q) X.xe s := by
  have a1 := I.hok.fresh (Nat.le_succ s.heap.objs.size)
  have a2 := I.hok.fresh (Nat.le_refl s.heap.objs.size)
  have hq := h (s.heap.objs.size + 1) s.heap.objs.size a1 a2 (Nat.ne_of_lt (Nat.lt_succ_self _))
  have I2 := Inv.made (C := C) I
  have rs : Vals (V.ref (s.heap.objs.size + 1) :: vs) (Value.ref (s.heap.objs.size + 1) :: us) := Paired.cons rfl r
  refine wpAny_call (make_map (f := f) I.kIn M.makes M.init (beq_iff_eq.mp M.fn) (codeAny_mono (F.run _ X.stack _ _ ⟨Value.ref (s.heap.objs.size + 1) :: us, ks.zip ws⟩ (g (Value.ref (s.heap.objs.size + 1) :: us) ws) _ _ E (hr.make C us (ks.zip ws))
    (I2.env0.make C us (ks.zip ws)) (hb.to _ _ ws I2.kIn (rs.length.symm.trans (congrArg Nat.succ l1)) (rz.length.symm.trans l2)) (hb.rel rs rz) hq) (fun r s' hq' => ?_)))
  cases r with
  | error e => exact hx pins σ _ _ e s' I2 hq'
  | ok fl => cases fl with
    | ret u =>
      obtain ⟨v, H', I3, rv, ev, q3⟩ := I2.after hq'
      subst ev
      exact ⟨rv, V.ref (s.heap.objs.size + 1), H', I3, rfl, q3⟩
    | next => exact hq'.elim
    | brk => exact hq'.elim
    | cont => exact hq'.elim
end
/-! ### the calls as expressions -/
/-- the arguments of a call, values then keywords -/
structure PAK (X : Cx) (pos : Pos) (es : List Expr) (kws : List Keyword) (ks : List Str) (t tk : TA) : Prop where
  go : ∀ (pins : List (Addr × Obj)) (s : Shared) (σ : L2.St) (H : Hp) (u : Value) (first : List Value) (Q : Value → Shared → Prop) (R : List V → List V → Hp → Prop), PySem.W.keepIn X.K u = true → Inv X pins σ H s →
    (t σ H fun vs H1 => tk σ H1 fun zs H2 => R vs zs H2) → (∀ (vs zs : List V) (H2 : Hp) (us ws : List Value) (s2 : Shared), R vs zs H2 → Inv X pins σ H2 s2 → Vals vs us → Vals zs ws → wpAny (model X.prog X.w) X.A (call u (first ++ us) (ks.zip ws)) Q X.xe s2) →
    wpAny (model X.prog X.w) X.A (callWith pos u first (backTo pos (starEach es X.env)) (backToKw pos (keywordEach kws X.env))) Q X.xe s
section
variable {X : Cx} {pos : Pos} {e : Expr} {es : List Expr} {kw : Keyword} {kws : List Keyword} {ks : List Str} {t tk : TA}
/-- values, no keywords -/
theorem pak_v (ha : PA X (e :: es) t) (he : starEach (e :: es) X.env = (false, eval e X.env) :: starEach es X.env := by rfl) (hpl : (backTo pos (starEach es X.env)).any (·.1) = false := by rfl) : PAK X pos (e :: es) [] [] t tNil := by
  refine ⟨fun pins s σ H u first Q R hk I h go => ?_⟩
  refine PySem.W.callWith_K (h₀ := X.base) I.ok.mod.kin hk (thn (ha.run pos pins s σ H _ I h) fun us s1 ⟨vs, H1, I1, r, q⟩ => ⟨I1.kIn, ?_⟩) he hpl
  exact go vs [] H1 us [] s1 q I1 r .nil
theorem pak_0 : PAK X pos [] [] [] tNil tNil := by
  refine ⟨fun pins s σ H u first Q R hk I h go => ?_⟩
  exact PySem.W.callWith_K0 I.kIn hk (go [] [] H [] [] s h I .nil .nil)
theorem pak_vk (ha : PA X (e :: es) t) (hkw : PK X kws tk) (hall : (backToKw pos (keywordEach kws X.env)).all (·.1.isSome) = true := by rfl) (hks : (backToKw pos (keywordEach kws X.env)).filterMap (·.1) = ks := by rfl)
    (he : starEach (e :: es) X.env = (false, eval e X.env) :: starEach es X.env := by rfl) (hpl : ((backTo pos (starEach (e :: es) X.env)).any (·.1) || (backToKw pos (keywordEach kws X.env)).any (·.1.isNone)) = false := by rfl) : PAK X pos (e :: es) kws ks t tk := by
  refine ⟨fun pins s σ H u first Q R hk I h go => ?_⟩
  refine PySem.W.callWith_KW (h₀ := X.base) I.ok.mod.kin hk hall (thn (ha.run pos pins s σ H _ I h) fun us s1 ⟨vs, H1, I1, r, q⟩ => thn (hkw.run pos pins s1 σ H1 _ I1 q) fun ws s2 ⟨zs, H2, I2, rz, q2⟩ => ⟨I2.kIn, ?_⟩) hpl he
  rw [hks]
  exact go vs zs H2 us ws s2 q2 I2 r rz
theorem pak_k (hkw : PK X (kw :: kws) tk) (hall : (backToKw pos (keywordEach (kw :: kws) X.env)).all (·.1.isSome) = true := by rfl) (hks : (backToKw pos (keywordEach (kw :: kws) X.env)).filterMap (·.1) = ks := by rfl)
    (hpl : ((backTo pos (starEach [] X.env)).any (·.1) || (backToKw pos (keywordEach (kw :: kws) X.env)).any (·.1.isNone)) = false := by rfl) : PAK X pos [] (kw :: kws) ks tNil tk := by
  refine ⟨fun pins s σ H u first Q R hk I h go => ?_⟩
  refine PySem.W.callWith_KW0 (h₀ := X.base) I.ok.mod.kin hk hall (thn (hkw.run pos pins s σ H _ I h) fun ws s2 ⟨zs, H2, I2, rz, q2⟩ => ⟨I2.kIn, ?_⟩) hpl
  rw [hks]
  exact go [] zs H2 [] ws s2 q2 I2 .nil rz
end
section
variable {X : Cx} {k n : Nat} {f C : Addr} {fd : FuncData} {ps ks : List Str} {sp : Sp} {E : XK} {g : List Value → List Value → List Value} {gV : List V → List V → List V} {x m : Str} {p pos apos : Pos} {o : Expr} {es : List Expr} {kws : List Keyword} {ta : TE} {t tk : TA}
/-- f(e, .., k = v, ..), the wish by the slots -/
def tCallG (n m : Nat) (sp : Sp) (gV : List V → List V → List V) (E : L2.St → XK) (t tk : TA) : TE := fun σ H Q => t σ H fun vs H1 => tk σ H1 fun zs H2 => vs.length = n ∧ zs.length = m ∧ sp (gV vs zs) H2 Q (E σ)
/-- what a callee lets out is taken, by the slots -/
def PassS (X : Cx) (E : L2.St → XK) : Prop := ∀ (pins : List (Addr × Obj)) (σ : L2.St) (H : Hp) (s : Shared) (e : Value) (s' : Shared), Inv X pins σ H s → L2.CX X.prog X.w X.stack H s (E σ) e s' → X.xe e s'
theorem pass_s {W : WX} (tk : Takes X W) : PassS X (fun σ cls d H => W cls d σ H) := fun pins σ H s e s' I c => tk e s' (XE.of_call I (fun _ _ _ h => h) c)
theorem run_gS {E : L2.St → XK} {pins : List (Addr × Obj)} {σ : L2.St} {H : Hp} {s : Shared} {Q : VK} {us ws : List Value} {vs zs : List V} (F : FnG X.prog X.w X.K X.mg X.base k f fd ps sp) (hr : Rm k X.A) (hb : KBn X.K fd ps n ks g gV) (hx : PassS X E) (I : Inv X pins σ H s) (r : Vals vs us) (rz : Vals zs ws) (l1 : vs.length = n) (l2 : zs.length = ks.length)
    (h : sp (gV vs zs) H Q (E σ)) : wpAny (model X.prog X.w) X.A (call (.ref f) us (ks.zip ws)) (EP X pins σ Q) X.xe s := by
  refine wpAny_call (codeAny_mono (F.run X.A X.stack s H ⟨us, ks.zip ws⟩ (g us ws) (gV vs zs) Q (E σ) hr I.env0 (hb.to s us ws I.kIn (r.length.symm.trans l1) (rz.length.symm.trans l2)) (hb.rel r rz) h) (fun r s' hq => ?_))
  cases r with
  | error e => exact hx pins σ H s e s' I hq
  | ok fl => cases fl with
    | ret u => exact I.after hq
    | next => exact hq.elim
    | brk => exact hq.elim
    | cont => exact hq.elim
theorem run_gmS {E : L2.St → XK} {pins : List (Addr × Obj)} {σ : L2.St} {H : Hp} {s : Shared} {Q : VK} {us ws : List Value} {vs zs : List V} (M : Mk X.K C f) (F : FnG X.prog X.w X.K X.mg X.base k f fd ps sp) (hr : Rm (k + 1) X.A) (hb : KBn X.K fd ps (n + 1) ks g gV) (hx : PassS X E) (I : Inv X pins σ H s) (r : Vals vs us) (rz : Vals zs ws) (l1 : vs.length = n) (l2 : zs.length = ks.length)
    (h : ∀ x dx, H x = none → H dx = none → dx ≠ x → sp (gV (.ref x :: vs) zs) (upd (upd H dx (.own x)) x (.ins C dx [])) (fun v H2 => v = .non ∧ Q (.ref x) H2) (E σ)) :
    wpAny (model X.prog X.w) X.A (call (.ref C) us (ks.zip ws)) (EP X pins σ Q) X.xe s := by
  have a1 := I.hok.fresh (Nat.le_succ s.heap.objs.size)
  have a2 := I.hok.fresh (Nat.le_refl s.heap.objs.size)
  have hq := h (s.heap.objs.size + 1) s.heap.objs.size a1 a2 (Nat.ne_of_lt (Nat.lt_succ_self _))
  have I2 := Inv.made (C := C) I
  have rs : Vals (V.ref (s.heap.objs.size + 1) :: vs) (Value.ref (s.heap.objs.size + 1) :: us) := Paired.cons rfl r
  refine wpAny_call (make_map (f := f) I.kIn M.makes M.init (beq_iff_eq.mp M.fn) (codeAny_mono (F.run _ X.stack _ _ ⟨Value.ref (s.heap.objs.size + 1) :: us, ks.zip ws⟩ (g (Value.ref (s.heap.objs.size + 1) :: us) ws) _ _ (E σ) (hr.make C us (ks.zip ws))
    (I2.env0.make C us (ks.zip ws)) (hb.to _ _ ws I2.kIn (rs.length.symm.trans (congrArg Nat.succ l1)) (rz.length.symm.trans l2)) (hb.rel rs rz) hq) (fun r s' hq' => ?_)))
  cases r with
  | error e => exact hx pins σ _ _ e s' I2 hq'
  | ok fl => cases fl with
    | ret u =>
      obtain ⟨v, H', I3, rv, ev, q3⟩ := I2.after hq'
      subst ev
      exact ⟨rv, V.ref (s.heap.objs.size + 1), H', I3, rfl, q3⟩
    | next => exact hq'.elim
    | brk => exact hq'.elim
    | cont => exact hq'.elim
theorem pe_g {E : L2.St → XK} (F : FnG X.prog X.w X.K X.mg X.base k f fd ps sp) (hr : Rm k X.A) (hg : Gl X x) (hm : X.mg x = some (.ref f)) (hk : PySem.W.keepIn X.K (.ref f) = true) (hb : KBn X.K fd ps n ks g gV) (hx : PassS X E) (ha : PAK X pos es kws ks t tk)
    (hdb : (x == ("__debug__" : Str)) = false := by decide) : PE X (.Call (.Name x p) es kws pos) (tCallG n ks.length sp gV E t tk) := by
  refine ⟨fun pins s σ H Q I h => ?_⟩
  refine wpAny_Call_Name_kw (ld_glob I hg hm ?_ hdb)
  exact ha.go pins s σ H (.ref f) [] _ _ hk I h fun vs zs H2 us ws s2 ⟨l1, l2, q⟩ I2 r rz => run_gS F hr hb hx I2 r rz l1 l2 q
/-- o.m(e, .., k = v, ..), m a method of the class at C -/
def tMethG (C : Addr) (m : Str) (n m' : Nat) (sp : Sp) (gV : List V → List V → List V) (E : L2.St → XK) (ta : TE) (t tk : TA) : TE := fun σ H Q => ta σ H fun x H1 => ∃ a dx fs, x = .ref a ∧ H1 a = some (.ins C dx fs) ∧ fs.lookup m = none ∧
  t σ H1 fun vs H2 => tk σ H2 fun zs H3 => vs.length = n ∧ zs.length = m' ∧ sp (gV (x :: vs) zs) H3 Q (E σ)
theorem pe_gm {E : L2.St → XK} {pl : Sem Bool} (he : PE X o ta) (c : Cls X.K C) (hm : Meth X.K C m f) (F : FnG X.prog X.w X.K X.mg X.base k f fd ps sp) (hr : Rm k X.A) (hb : KBn X.K fd ps (n + 1) ks g gV) (hx : PassS X E) (ha : PAK X pos es kws ks t tk)
    (ht : eval (.Call (.Attribute o m apos) es kws pos) X.env = (do
      let ov ← eval o X.env
      standAt apos.atName
      let (f, first) ← holding [ov] (getMethod ov m pl)
      callWith pos f first (backTo pos (starEach es X.env)) (backToKw pos (keywordEach kws X.env))) := by rfl) :
    PE X (.Call (.Attribute o m apos) es kws pos) (tMethG C m n ks.length sp gV E ta t tk) := by
  refine ⟨fun pins s σ H Q I h => ?_⟩
  refine PySem.W.methodCall_KW (pl := pl) (thn (he.run pins s σ H _ I h) fun u s1 ⟨x, H1, I1, rx, a, dx, fs, ex, ea, l, q⟩ => ?_) ht
  subst ex
  obtain rfl : u = Value.ref a := rx
  refine getmeth_ok I1 ea c hm l ?_
  exact ha.go pins s1 σ H1 (.ref f) [.ref a] _ _ hm.kp I1 q fun vs zs H2 us ws s2 ⟨l1, l2, q2⟩ I2 r rz => run_gS F hr hb hx I2 (Paired.cons (show RelV (V.ref a) (Value.ref a) from rfl) r) rz (congrArg Nat.succ l1) l2 q2
/-- C(e, .., k = v, ..) -/
def tMakeG (C : Addr) (n m : Nat) (sp : Sp) (gV : List V → List V → List V) (E : L2.St → XK) (t tk : TA) : TE := fun σ H Q => t σ H fun vs H1 => tk σ H1 fun zs H2 => vs.length = n ∧ zs.length = m ∧
  ∀ x dx, H2 x = none → H2 dx = none → dx ≠ x → sp (gV (.ref x :: vs) zs) (upd (upd H2 dx (.own x)) x (.ins C dx [])) (fun v H3 => v = .non ∧ Q (.ref x) H3) (E σ)
theorem pe_gmk {E : L2.St → XK} (M : Mk X.K C f) (F : FnG X.prog X.w X.K X.mg X.base k f fd ps sp) (hr : Rm (k + 1) X.A) (hg : Gl X x) (hm : X.mg x = some (.ref C)) (hb : KBn X.K fd ps (n + 1) ks g gV) (hx : PassS X E) (ha : PAK X pos es kws ks t tk)
    (hdb : (x == ("__debug__" : Str)) = false := by decide) : PE X (.Call (.Name x p) es kws pos) (tMakeG C n ks.length sp gV E t tk) := by
  refine ⟨fun pins s σ H Q I h => ?_⟩
  refine wpAny_Call_Name_kw (ld_glob I hg hm ?_ hdb)
  exact ha.go pins s σ H (.ref C) [] _ _ M.kp I h fun vs zs H2 us ws s2 ⟨l1, l2, q⟩ I2 r rz => run_gmS M F hr hb hx I2 r rz l1 l2 q
end
end Gh
/-! Errors whose classes stand below Exception by own classes, each with an own __init__ that calls its parent's by the parent's name. -/
namespace Gh
open PySem PySem.Spec PyProof.Rows L2
abbrev tailE : List Value := [.type "Exception", .type "BaseException", .type "object"]
/-- own classes, then those of Exception -/
def ownE : List Value → Bool
  | .ref _ :: r => ownE r
  | l => l == tailE
theorem ownE_split (a : Value) (r : List Value) (h : ownE (a :: r) = true) : (∃ c, a = .ref c ∧ ownE r = true) ∨ a :: r = tailE := by
  cases a with
  | ref c => exact .inl ⟨c, rfl, h⟩
  | none => exact .inr (beq_iff_eq.mp h)
  | ellipsis => exact .inr (beq_iff_eq.mp h)
  | notImplemented => exact .inr (beq_iff_eq.mp h)
  | bool _ => exact .inr (beq_iff_eq.mp h)
  | int _ _ => exact .inr (beq_iff_eq.mp h)
  | float _ _ => exact .inr (beq_iff_eq.mp h)
  | str _ _ => exact .inr (beq_iff_eq.mp h)
  | bytes _ _ => exact .inr (beq_iff_eq.mp h)
  | type _ => exact .inr (beq_iff_eq.mp h)
  | builtin _ => exact .inr (beq_iff_eq.mp h)
theorem ownE_pass (u : Value) : ∀ l : List Value, ownE l = true → refuseLoop u "__setattr__" l = pure ()
  | [], h => absurd h (by decide)
  | a :: r, h => by
    rcases ownE_split a r h with ⟨c, e, h'⟩ | e
    · subst e; rw [refuseLoop_ref]; exact ownE_pass u r h'
    · rw [e]; exact PySem.F.store_Exception.passes u
theorem ownE_has (x : String) : ∀ l : List Value, ownE l = true → l.contains (.type x) = tailE.contains (.type x)
  | [], h => absurd h (by decide)
  | a :: r, h => by
    rcases ownE_split a r h with ⟨c, e, h'⟩ | e
    · subst e; rw [List.contains_cons, ownE_has x r h']; rfl
    · rw [e]
theorem ownE_full {l : List Value} (h : ownE l = true) : l.isEmpty = false := by
  cases l with
  | nil => exact absurd h (by decide)
  | cons a r => rfl
/-- what the written part says of such a class -/
structure ErrC (K : PySem.W.Frag) (C : Addr) : Prop where
  cls : ∃ nm q N bs bm sn sub ab col dd k0 k1 k2 k3 k5, K.lookup C = some (excClassObj nm q C N bs bm true sn sub ab col dd k0 k1 k2 k3 k5 "Exception.__new__") ∧ ownE bm = true
  sa : PySem.W.findIn K (.ref C) "__setattr__" = some (some (.builtin "object.__setattr__"))
  ga : PySem.W.findIn K (.ref C) "__getattribute__" = some (some (.builtin "BaseException.__getattribute__"))
  gg : PySem.W.findIn K (.ref C) "__getattr__" = some none
  ex : PySem.W.subIn K (.ref C) (.type "BaseException") = some true
  ty : PySem.W.typeIn K (.ref C) = some (.type "type")
  kp : PySem.W.keepIn K (.ref C) = true
  hd : PySem.W.hasDictIn K C = true
section
open Builtin Builtin.ObjectAttr
variable {prog : Program} {w : World} {A : Around} {E : Value → Shared → Prop} {R : Result → Shared → Prop} {hp : Heap} {gs : Array GenState} {dr : Drawn} {tk0 : Nat} {os : OsState} {K : W.Frag} {C x : Addr}
/-- object.__setattr__ on such an instance comes to the store in its own dict -/
theorem err_osa {nm : Str} {tk : Tok} {v : Value} {ox : Obj} {od : Option Obj} {cd : ClassData} (X : K.In hp) (I : W.InstAt hp x ox C od) (hcd : W.clsIn K C = some cd) (hm : ownE cd.mro = true) (ha : W.findIn K (.ref C) nm = some none)
    (hq : wpAny (model prog w) A.in1 (storeInOwnDict (.ref x) (.ref C) (.str nm tk) nm v false)
      (fun fin s' => match fin with | .done f => R (.ok f) s' | .again c' => c'.quiet = true ∧ codeAny (model prog w) A c' R s') (fun e s' => R (.error e) s') ⟨hp, gs, dr, tk0, os⟩) :
    codeAny (model prog w) A (.call (.builtin "object.__setattr__") ⟨[.ref x, .str nm tk, v], []⟩) R ⟨hp, gs, dr, tk0, os⟩ := by
  have fo := PySem.F.store_object
  have isObj : W.Looks (model prog w) hp (isInstance (.ref x) (.type "object")) true := by
    refine I.type.andThen (W.looks_mroIn X ?_)
    unfold W.mroIn
    rw [hcd, Option.bind_some, if_neg (by rw [ownE_full hm]; decide), ownE_has "object" _ hm]
    decide +kernel
  refine codeAny_call_builtin fo.slot.plain fo.entry (@W.check_slot (model prog w) _ _ ⟨hp, gs, dr, tk0, os⟩ "object.__setattr__" "object" "__setattr__" (.ref x) [.str nm tk, v] [] _ fo.kind fo.split isObj (fo.args (.ref x) (.str nm tk) v) ?_)
  have mro : W.Looks (model prog w) hp (mroOf (.ref C)) cd.mro := (W.looks_clsIn X hcd).andThen .now
  have noTaker : W.Looks (model prog w) hp (storeTaker? none) none := .now
  rw [W.osa_eq, refuse_eq]
  refine wpAny_bind (wpAny_bind (I.type.at (wpAny_bind (mro.at ?_))))
  rw [ownE_pass _ _ hm]
  exact wpAny_pure (wpAny_bind (I.type.at (wpAny_bind ((W.looks_findIn X ha).at (wpAny_bind (noTaker.at hq))))))
/-- the first field: a dict is laid -/
theorem err_first {nm : Str} {tk : Tok} {v : Value} {fv : Array Value} {cd : ClassData} (X : K.In hp) (hx : hp.get? x = some { cls := .ref C, data := .fields fv }) (hcd : W.clsIn K C = some cd) (hm : ownE cd.mro = true) (hh : cd.hasDict = true) (ha : W.findIn K (.ref C) nm = some none)
    (hq : ∀ h' tk' dx, (∀ b o, b ≠ x → hp.get? b = some o → h'.get? b = some o) → hp.objs.size ≤ dx → dx ≠ x → h'.get? x = some { cls := .ref C, dict := some dx, data := .fields fv } → h'.Ns1 dx (fun y => if y = nm then some v else none) → R (.ok (.ret .none)) ⟨h', gs, dr, tk', os⟩) :
    codeAny (model prog w) A (.call (.builtin "object.__setattr__") ⟨[.ref x, .str nm tk, v], []⟩) R ⟨hp, gs, dr, tk0, os⟩ := by
  have I : W.InstAt hp x { cls := .ref C, data := .fields fv } C none := ⟨hx, rfl, rfl, trivial⟩
  have xlt : x ≠ hp.objs.size := Nat.ne_of_lt (Heap.lt_size hx)
  have clsL : W.Looks (model prog w) hp (classData C) cd := W.looks_clsIn X hcd
  refine err_osa X I hcd hm ha ?_
  obtain ⟨a1, a2, a3, a4, a5, a6, a7, a8, a9, b1, b2⟩ := cd
  dsimp only at hh
  subst hh
  unfold storeInOwnDict ownDictForStores
  repeat (first | with_reducible refine PySem.HandSPX.store_in_new ?_ ?_ | with_reducible refine wpAny_loadPart_at hx ?_ | with_reducible refine clsL.at ?_ | wp_step)
  · exact ⟨_, #[], _, (Heap.get?_update_ne _ _ _ _ xlt.symm).trans (Heap.get?_push_at rfl rfl), rfl, (fun e he => absurd he (by simp)), fun _ => rfl⟩
  · intro h' tk' ns sb
    have x1 : (hp.push { cls := .type "dict", data := .dict #[] }).get? x = some { cls := .ref C, data := .fields fv } := Heap.get?_push_of_some _ hx
    refine hq h' tk' hp.objs.size (fun b o hb ho => ?_) (Nat.le_refl _) xlt.symm ((sb.2 x xlt).trans (Heap.get?_update_self _ x1 rfl)) ns
    exact (sb.2 b (Nat.ne_of_lt (Heap.lt_size ho))).trans ((Heap.get?_update_ne _ _ _ _ hb).trans (Heap.get?_push_of_some _ ho))
/-- a further field -/
theorem err_next {nm : Str} {tk : Tok} {v : Value} {dx : Addr} {fv : Array Value} {cd : ClassData} {m0 : Str → Option Value} {nl : List Str} (X : K.In hp) (hx : hp.get? x = some { cls := .ref C, dict := some dx, data := .fields fv }) (hns : hp.Ns1 dx m0) (hw : Within m0 nl) (hz : nl.length ≤ 1000)
    (hcd : W.clsIn K C = some cd) (hm : ownE cd.mro = true) (hh : cd.hasDict = true) (ha : W.findIn K (.ref C) nm = some none)
    (hq : ∀ h' tk', (∀ b o, b ≠ dx → hp.get? b = some o → h'.get? b = some o) → h'.Ns1 dx (fun y => if y = nm then some v else m0 y) → R (.ok (.ret .none)) ⟨h', gs, dr, tk', os⟩) :
    codeAny (model prog w) A (.call (.builtin "object.__setattr__") ⟨[.ref x, .str nm tk, v], []⟩) R ⟨hp, gs, dr, tk0, os⟩ := by
  obtain ⟨oD, _, _, hoD, _, _⟩ := hns.count hw
  have I : W.InstAt hp x { cls := .ref C, dict := some dx, data := .fields fv } C (some oD) := ⟨hx, rfl, rfl, hoD⟩
  have clsL : W.Looks (model prog w) hp (classData C) cd := W.looks_clsIn X hcd
  refine err_osa X I hcd hm ha ?_
  obtain ⟨a1, a2, a3, a4, a5, a6, a7, a8, a9, b1, b2⟩ := cd
  dsimp only at hh
  subst hh
  unfold storeInOwnDict ownDictForStores
  repeat (first | with_reducible refine PySem.OEX.store_in_old hns hw hz ?_ | with_reducible refine wpAny_loadPart_at hx ?_ | with_reducible refine clsL.at ?_ | wp_step)
  intro h' tk' ns sb
  exact hq h' tk' (fun b o hb ho => (sb.2 b hb).trans ho) ns
end
section
variable {X : Cx} {pins : List (Addr × Obj)} {σ : L2.St} {H : Hp} {s : Shared} {a C dx : Addr} {f : Str} {y : V} {u : Value} {fs : List (Str × V)} {Q : Unit → Shared → Prop} {E : Value → Shared → Prop} {A : Around}
theorem ErrC.cd {K : PySem.W.Frag} (T : ErrC K C) : ∃ cd, PySem.W.clsIn K C = some cd ∧ ownE cd.mro = true ∧ cd.hasDict = true := by
  obtain ⟨nm, q, N, bs, bm, sn, sub, ab, col, dd, k0, k1, k2, k3, k5, hC, hb⟩ := T.cls
  refine ⟨{ name := nm, bases := bs, mro := .ref C :: bm, ns := N, qualname := q, hasDict := true, slotNames := sn, subclasses := sub, abstract := ab, collection := col, hasDel := false }, ?_, hb, rfl⟩
  unfold PySem.W.clsIn
  rw [hC] <;> rfl
theorem est_first (T : ErrC X.K C) (I : Inv X pins σ H s) (e : H a = some (exo a C none)) (hno : PySem.W.findIn X.K (.ref C) f = some none) (ry : RelV y u)
    (h : ∀ dx s', H dx = none → dx ≠ a → Inv X pins σ (upd (upd H dx (exd dx [(f, y)])) a (exo a C (some dx))) s' → Q () s') : wpAny (model X.prog X.w) A (setAttr (.ref a) f u) Q E s := by
  obtain ⟨cd, hcd, hm, hh⟩ := T.cd
  obtain ⟨t1, ho⟩ := exo_at I.hok e
  obtain ⟨hp, g, d, t, os⟩ := s
  refine PySem.W.set_plain I.kIn (ox := { cls := .ref C, dict := none, data := .fields #[.ref t1, .none, .none, .none, .bool false, .none] }) (od := none) ⟨ho, rfl, rfl, trivial⟩ T.sa ?_
  refine err_first I.kIn ho hcd hm hh hno (fun h' tk' dx k dn dne hx hn => ?_)
  have fresh : H dx = none := I.hok.fresh dn
  have ndx : ∀ {b : Addr} {o : Obj}, hp.get? b = some o → b ≠ dx := fun {b o} q => Nat.ne_of_lt (Nat.lt_of_lt_of_le (Heap.lt_size q) dn)
  have nea : ∀ {b : Addr}, H b = none → b ≠ a := fun {b} n z => by rw [z, e] at n; cases n
  have U : Un X.fs [] H (upd (upd H dx (exd dx [(f, y)])) a (exo a C (some dx))) hp h' := by
    refine ⟨fun b o q n _ _ => k b o (nea n) q, fun b o q n _ _ => ⟨o.slots, k b o (nea n) q⟩, fun b o q n _ => ?_, fun b o q _ => ?_, fun b xs q => ?_, fun b o v q => ?_, fun b ps q => ⟨#[], ?_⟩⟩
    · rw [upd_ne (nea n), upd_ne (ndx q)]; exact n
    · by_cases hb : b = a
      · exact ⟨_, by rw [hb]; exact hx⟩
      · exact ⟨o, k b o hb q⟩
    · rw [upd_ne (at_ne e q exo_tup), upd_ne (ne_of_none q fresh)]; exact q
    · rw [upd_ne (at_ne e q exo_frz), upd_ne (ne_of_none q fresh)]; exact q
    · rw [upd_ne (at_ne e q exo_tbl), upd_ne (ne_of_none q fresh), q]; simp
  refine h dx _ fresh dne (I.un (t' := tk') U (fun b o q => ?_))
  by_cases hb : b = a
  · subst hb; rw [upd_same] at q; cases q; exact exo_ok hx
  · rw [upd_ne hb] at q
    by_cases hd : b = dx
    · subst hd; rw [upd_same] at q; cases q; exact exd_ok hn (relO_put (fs := []) ry (fun g => True.intro))
    · rw [upd_ne hd] at q
      refine (I.hok b o q).stay (fun c v hc z => k c v ?_ z) (fun c hc => ?_) (fun c xs hc => ?_)
      · rcases hc with hc | hc
        · rw [hc]; exact hb
        · exact at_ne e hc exo_own
      · rw [upd_ne (at_ne e hc exo_own), upd_ne (ne_of_none hc fresh)]; exact hc
      · rw [upd_ne (at_ne e hc exo_tup), upd_ne (ne_of_none hc fresh)]; exact hc
theorem est_next (T : ErrC X.K C) (I : Inv X pins σ H s) (e : H a = some (exo a C (some dx))) (ed : H dx = some (exd dx fs)) (hl : fs.length ≤ 900) (hno : PySem.W.findIn X.K (.ref C) f = some none) (ry : RelV y u)
    (h : ∀ s', Inv X pins σ (upd H dx (exd dx ((f, y) :: fs))) s' → Q () s') : wpAny (model X.prog X.w) A (setAttr (.ref a) f u) Q E s := by
  obtain ⟨cd, hcd, hm, hh⟩ := T.cd
  obtain ⟨t1, ho⟩ := exo_at I.hok e
  obtain ⟨mA, hns, rel⟩ := exd_at I.hok ed
  have hw := within_of rel
  obtain ⟨hp, g, d, t, os⟩ := s
  obtain ⟨oD, _, _, hoD, _, _⟩ := hns.count hw
  refine PySem.W.set_plain I.kIn (ox := { cls := .ref C, dict := some dx, data := .fields #[.ref t1, .none, .none, .none, .bool false, .none] }) (od := some oD) ⟨ho, rfl, rfl, hoD⟩ T.sa ?_
  refine err_next I.kIn ho hns hw (by rw [List.length_map]; omega) hcd hm hh hno (fun h' tk' k hn => ?_)
  have there : ∃ o, h'.get? dx = some o := by
    obtain ⟨o, _, _, e', _⟩ := hn
    exact ⟨o, e'⟩
  exact h _ (I.write (t' := tk') (x := dx) (e := dx) (o := exd dx ((f, y) :: fs)) (by rw [ed]; exact True.intro) (.inl rfl) k there (exd_ok hn (relO_put ry rel)))
/-- Exception.__init__(e, ..) -/
theorem einit_ok {us : List Value} {Q : Value → Shared → Prop} (T : ErrC X.K C) (I : Inv X pins σ H s) (e : H a = some (exo a C none)) (hl : us.length ≤ sizeLine) (h : ∀ s', Inv X pins σ H s' → Q .none s') :
    wpAny (model X.prog X.w) A (call (.builtin "Exception.__init__") (.ref a :: us)) Q E s := by
  obtain ⟨nm, q, N, bs, bm, sn, sub, ab, col, dd, k0, k1, k2, k3, k5, hC, hbm⟩ := T.cls
  obtain ⟨t1, ho⟩ := exo_at I.hok e
  obtain ⟨hp, g, d, t, os⟩ := s
  refine wpAny_call (PySem.HandSPX.init_base PySem.F.excBase_Exception (fun Y => ownE_has Y bm hbm) (I.kIn _ _ hC) ho hl (fun h' t2 k hx => ?_))
  have J := I.write (t' := t) (x := a) (e := a) (o := exo a C none) (by rw [e]; exact True.intro) (.inl rfl) k ⟨_, hx⟩ (exo_ok hx)
  have same : upd H a (exo a C none) = H := by
    funext b
    by_cases hb : b = a
    · rw [hb, upd_same, e]
    · rw [upd_ne hb]
  rw [same] at J
  exact h _ J
end
/-! ### the body of such an __init__ -/
/-- P.__init__(self, ..), P the parent at G -/
structure ParC (K : PySem.W.Frag) (mg : Str → Option Value) (x : Str) (Gx : Addr) : Prop where
  gl : mg x = some (.ref Gx)
  sp : PySem.W.specialIn K (.ref Gx) "__getattribute__" = some (some (.builtin "type.__getattribute__"))
  rd : ∃ mc, PySem.W.readsIn K Gx mc = true ∧ PySem.W.findCls K (.ref Gx) mc "__init__" = some (.val (.builtin "Exception.__init__"))
def tPar (K : PySem.W.Frag) (ta : TA) : TE := fun σ H Q => ta σ H fun vs H1 => ∃ (a C : Addr) (ws : List V), vs = .ref a :: ws ∧ ws.length ≤ 1000 ∧ ErrC K C ∧ H1 a = some (exo a C none) ∧ Q .non H1
def tEst (K : PySem.W.Frag) (f : Str) (to te : TE) : TS := fun D σ H => te σ H fun y H1 => to σ H1 fun x H2 => ∃ a C : Addr, x = .ref a ∧ ErrC K C ∧ PySem.W.findIn K (.ref C) f = some none ∧
  ((H2 a = some (exo a C none) ∧ ∀ dx, H2 dx = none → dx ≠ a → D.nx σ (upd (upd H2 dx (exd dx [(f, y)])) a (exo a C (some dx)))) ∨
    ∃ (dx : Addr) (fs : List (Str × V)), H2 a = some (exo a C (some dx)) ∧ H2 dx = some (exd dx fs) ∧ fs.length ≤ 900 ∧ D.nx σ (upd H2 dx (exd dx ((f, y) :: fs))))
section
variable {X : Cx} {o e : Expr} {es : List Expr} {to te : TE} {ta : TA} {f x : Str} {p p' p1 p2 pos : Pos} {Gx : Addr}
theorem pe_par {pl : Sem Bool} (hg : Gl X x) (T : ParC X.K X.mg x Gx) (ha : PA X (e :: es) ta) (hdb : (x == ("__debug__" : Str)) = false := by decide)
    (hc : eval (.Call (.Attribute (.Name x p1) "__init__" p2) (e :: es) [] pos) X.env = (do
      let ov ← eval (.Name x p1) X.env
      standAt p2.atName
      let (f, first) ← holding [ov] (getMethod ov "__init__" pl)
      callWith pos f first (backTo pos (starEach (e :: es) X.env)) (backToKw pos (keywordEach [] X.env))) := by rfl)
    (he : starEach (e :: es) X.env = (false, eval e X.env) :: starEach es X.env := by rfl) (hpl : (backTo pos (starEach es X.env)).any (·.1) = false := by rfl) :
    PE X (.Call (.Attribute (.Name x p1) "__init__" p2) (e :: es) [] pos) (tPar X.K ta) := by
  refine ⟨fun pins s σ H Q I h => ?_⟩
  refine PySem.W.methodCall_KW (ld_glob I hg T.gl ?_ hdb) hc
  obtain ⟨mc, rd, fc⟩ := T.rd
  refine PySem.W.method_cls I.kIn T.sp (PySem.W.cls_value I.kIn rd fc rfl ?_)
  show wpAny _ _ (callWith pos (Value.builtin "Exception.__init__") [] (backTo pos (starEach (e :: es) X.env)) []) _ _ _
  refine PyProof.Rows.callWith_method1 (thn (ha.run pos pins _ σ H _ (I.tok _) h) (fun us s1 ⟨vs, H1, I1, r1, a, C, ws, ev, hl, T, ea, q⟩ => ?_)) he hpl
  subst ev
  cases r1 with
  | @cons _ u0 _ ur ra rw' =>
    obtain rfl : u0 = Value.ref a := ra
    exact einit_ok T I1 ea (by rw [← Paired.length rw', sizeLine_eq]; omega) (fun s' J => ⟨.non, H1, J, rfl, q⟩)
theorem ps_est (ho : PE X o to) (he : PE X e te) (hs : swapsWith e (some (.Attribute o f p')) pos.line X.env = pure false := by rfl) : PS X (.Assign [.Attribute o f p'] e pos) (tEst X.K f to te) := by
  refine ⟨fun pins s σ H D I h => ?_⟩
  refine plainObj_wpAny_Assign_Attribute (thn (he.run pins s σ H _ I h) (fun v s1 ⟨y, H1, I1, r1, q1⟩ => thn (ho.run pins s1 σ H1 _ I1 q1) (fun u s2 ⟨x, H2, I2, r2, a, C, ex, T, hno, q⟩ => ?_))) hs
  subst ex
  obtain rfl : u = Value.ref a := r2
  rcases q with ⟨ea, q⟩ | ⟨dx, fs, ea, ed, hl, q⟩
  · exact est_first T I2 ea hno r1 (fun dx s' n ne J => ⟨σ, _, J, q dx n ne⟩)
  · exact est_next T I2 ea ed hl hno r1 (fun s' J => ⟨σ, _, J, q⟩)
end
/-! ### making one, for a raise -/
section
variable {X : Cx} {x : Str} {C fI : Addr} {k n : Nat} {fd : FuncData} {ps ks : List Str} {sp : Sp} {g : List Value → List Value → List Value} {gV : List V → List V → List V} {es : List Expr} {kws : List Keyword} {t tk : TA} {p pos : Pos}
/-- C(e, .., k = v, ..) for a raise; C's own __init__ keeps sp -/
def tErr (C : Addr) (n m : Nat) (sp : Sp) (gV : List V → List V → List V) (t tk : TA) : L2.St → Hp → XK → Prop := fun σ H Q => t σ H fun vs H1 => tk σ H1 fun zs H2 => vs.length = n ∧ zs.length = m ∧ n ≤ 1000 ∧ ∀ a, H2 a = none → sp (gV (.ref a :: vs) zs) (upd H2 a (exo a C none))
  (fun v H3 => v = .non ∧ ∃ (d : Addr) (fs : List (Str × V)), H3 a = some (exo a C (some d)) ∧ H3 d = some (exd d fs) ∧ H2 d = none ∧ Q (.ref C) (some d) (upd (del H3 a) d (.xd fs))) (fun _ _ _ => False)
theorem pmk_err (T : ErrC X.K C) (iC : PySem.W.findIn X.K (.ref C) "__init__" = some (some (.ref fI))) (tI : PySem.W.typeIn X.K (.ref fI) = some (.type "function"))
    (F1 : FnG X.prog X.w X.K X.mg X.base k fI fd ps sp) (hr : Rm (k + 1) X.A) (hb : KBn X.K fd ps (n + 1) [] g gV) (hg : Gl X x) (hm : X.mg x = some (.ref C)) (ha : PAK X pos es [] [] t tk)
    (hdb : (x == ("__debug__" : Str)) = false := by decide) :
    PMk X (.Call (.Name x p) es [] pos) (tErr C n 0 sp gV t tk) := by
  intro pins s σ H Q I h
  obtain ⟨nm, q, N, bs, bm, sn, sub, ab, col, dd, k0, k1, k2, k3, k5, hC, hbm⟩ := T.cls
  refine wpAny_Call_Name_kw (ld_glob I hg hm ?_ hdb)
  refine ha.go pins s σ H (.ref C) [] _ _ T.kp I h (fun vs zs H1 us ws s1 ⟨l1, l2, l3, q1⟩ I1 r1 rz => ?_)
  show wpAny _ _ (call (.ref C) us []) _ _ _
  have ez : zs = [] := List.length_eq_zero_iff.mp l2
  subst ez
  obtain ⟨hp, gs, dr, tk0, os⟩ := s1
  have hsz : hp.objs.size ≤ hp.objs.size + 1 := Nat.le_succ _
  have hq := q1 (hp.objs.size + 1) (I1.hok.fresh hsz)
  have kk : ∀ b o, hp.get? b = some o → ((hp.push (PySem.W.kdv_tup us)).push (PySem.HandSPX.excO C hp.objs.size)).get? b = some o := fun b o e => Heap.get?_push_of_some _ (Heap.get?_push_of_some _ e)
  have hget : ((hp.push (PySem.W.kdv_tup us)).push (PySem.HandSPX.excO C hp.objs.size)).get? (hp.objs.size + 1) = some (PySem.HandSPX.excO C hp.objs.size) := by heap_get
  have I2 : Inv X pins σ (upd H1 (hp.objs.size + 1) (exo (hp.objs.size + 1) C none)) ⟨(hp.push (PySem.W.kdv_tup us)).push (PySem.HandSPX.excO C hp.objs.size), gs, dr, tk0, os⟩ :=
    I1.laid (t' := tk0) (a := hp.objs.size + 1) (o := exo (hp.objs.size + 1) C none) (h' := (hp.push (PySem.W.kdv_tup us)).push (PySem.HandSPX.excO C hp.objs.size)) kk hsz (exo_ok hget)
  have r2 : Vals (V.ref (hp.objs.size + 1) :: vs) (Value.ref (hp.objs.size + 1) :: us) := Paired.cons rfl r1
  have hus : us.length ≤ sizeLine := by
    rw [← Paired.length r1, sizeLine_eq]
    omega
  refine wpAny_call (PySem.HandSPX.call_own PySem.F.excBase_Exception (fun Y => ownE_has Y bm hbm) (I1.kIn _ _ hC) (PySem.W.looks_findIn I1.kIn iC) (fun self => PySem.W.bind_fn I1.kIn self tI) hus
    (codeAny_mono (F1.run _ X.stack _ _ ⟨Value.ref (hp.objs.size + 1) :: us, []⟩ (g (Value.ref (hp.objs.size + 1) :: us) []) _ _ (fun _ _ _ => False) (hr.make C us []) (I2.env0.make C us []) (hb.to _ (Value.ref (hp.objs.size + 1) :: us) [] I2.kIn (r2.length.symm.trans (congrArg Nat.succ l1)) rfl) (hb.rel r2 .nil) hq) (fun r s' hq' => ?_)))
  cases r with
  | error er =>
    obtain ⟨_, _, _, _, _, _, _, _, _, _, _, _, z⟩ := hq'
    exact z.elim
  | ok fl => cases fl with
    | ret u =>
      obtain ⟨v, H2, os2, bare2, un2, hok2, rv, ev, d, fs, ea, ed, hd1, q2⟩ := hq'
      subst ev
      obtain ⟨h2, g2, d2, t2, os'⟩ := s'
      exact ⟨rv, mk_end (raises_own T.ex T.ty) I1 hsz kk un2 hok2 os2 bare2 ea ed hd1 q2⟩
    | next => exact hq'.elim
    | brk => exact hq'.elim
    | cont => exact hq'.elim
end
end Gh
/-! What a piece of the text evaluates to, as data; each rule of the hand layer, read so. -/
namespace Gh
open PySem PySem.Spec PyProof.Rows L2
abbrev Rho := List (Option D)
abbrev Eta := List HD
/-- an end: a value, an error (its class's number, its attributes, the last stored first), or none that this layer tells -/
inductive Out (α : Type) where
  | ok (a : α) (eta : Eta)
  | exc (x : Nat) (fs : List (Str × D)) (eta : Eta)
  | stuck
/-- a statement's end -/
inductive OutS where
  | nx (rho : Rho) (eta : Eta)
  | ret (d : D) (eta : Eta)
  | bk (rho : Rho) (eta : Eta)
  | ct (rho : Rho) (eta : Eta)
  | exc (x : Nat) (fs : List (Str × D)) (rho : Rho) (eta : Eta)
  | stuck
abbrev CE := Rho → Eta → Out D
abbrev CA := Rho → Eta → Out (List D)
abbrev CT := Rho → Eta → Out Bool
abbrev CS := Rho → Eta → OutS
/-- one after another -/
def cb {α β : Type} (c : Rho → Eta → Out α) (k : α → Rho → Eta → Out β) : Rho → Eta → Out β := fun rho eta =>
  match c rho eta with
  | .ok a eta1 => k a rho eta1
  | .exc x fs eta1 => .exc x fs eta1
  | .stuck => .stuck
section
variable (g : G) (W : WE)
def Post {α β : Type} (rel : Hp → List Addr → α → β → Prop) (F : Hp) (σ : L2.St) (Hb : Hp) (m : List Addr) (o : Out α) (Q : β → Hp → Prop) : Prop :=
  match o with
  | .ok a eta => ∀ v H Hb' m', RelH g F Hb' m' eta H → Gr Hb m Hb' m' → rel Hb' m' a v → Q v H
  | .exc x fs eta => ∀ cls dd H Hb' m', RelH g F Hb' m' eta H → Gr Hb m Hb' m' → XD g Hb' m' x fs cls dd → W.w cls dd σ H
  | .stuck => False
def tG {α β : Type} (rel : Hp → List Addr → α → β → Prop) (c : Rho → Eta → Out α) : L2.St → Hp → (β → Hp → Prop) → Prop := fun σ H Q =>
  ∃ rho eta F Hb m, RelH g F Hb m eta H ∧ RelS g W.xc Hb m rho σ ∧ Post g W rel F σ Hb m (c rho eta) Q
def relD : Hp → List Addr → D → V → Prop := fun Hb m d v => VD g Hb m d v
def relA : Hp → List Addr → List D → List V → Prop := fun Hb m d v => VDs g Hb m d v
def relB : Hp → List Addr → Bool → Bool → Prop := fun _ _ a b => a = b
def tD (c : CE) : TE := tG g W (relD g) c
def tA (c : CA) : TA := tG g W (relA g) c
def tB (c : CT) : TT := tG g W relB c
def PostS (F : Hp) (Hb : Hp) (m : List Addr) (o : OutS) (D : Ends) : Prop :=
  match o with
  | .nx rho eta => ∀ σ H Hb' m', RelH g F Hb' m' eta H → RelS g W.xc Hb' m' rho σ → Gr Hb m Hb' m' → D.nx σ H
  | .ret d eta => ∀ v H Hb' m', RelH g F Hb' m' eta H → Gr Hb m Hb' m' → VD g Hb' m' d v → D.rt v H
  | .bk rho eta => ∀ σ H Hb' m', RelH g F Hb' m' eta H → RelS g W.xc Hb' m' rho σ → Gr Hb m Hb' m' → D.bk σ H
  | .ct rho eta => ∀ σ H Hb' m', RelH g F Hb' m' eta H → RelS g W.xc Hb' m' rho σ → Gr Hb m Hb' m' → D.ct σ H
  | .exc x fs rho eta => ∀ cls dd σ H Hb' m', RelH g F Hb' m' eta H → RelS g W.xc Hb' m' rho σ → Gr Hb m Hb' m' → XD g Hb' m' x fs cls dd → W.w cls dd σ H
  | .stuck => False
def tS (c : CS) : TS := fun D σ H => ∃ rho eta F Hb m, RelH g F Hb m eta H ∧ RelS g W.xc Hb m rho σ ∧ PostS g W F Hb m (c rho eta) D
end
section
variable {g : G} {W : WE} {α β γ δ : Type} {rel : Hp → List Addr → α → β → Prop} {rel' : Hp → List Addr → γ → δ → Prop} {σ : L2.St} {F Hb Hb' : Hp} {m m' : List Addr}
theorem Post.grow {o : Out α} {Q : β → Hp → Prop} (e : Gr Hb m Hb' m') (h : Post g W rel F σ Hb m o Q) : Post g W rel F σ Hb' m' o Q := by
  cases o with
  | ok a eta => exact fun v H H2 m2 r1 r2 r3 => h v H H2 m2 r1 (e.trans r2) r3
  | exc x fs eta => exact fun cls dd H H2 m2 r1 r2 r3 => h cls dd H H2 m2 r1 (e.trans r2) r3
  | stuck => exact h
theorem Post.imp {o : Out α} {Q Q' : β → Hp → Prop} (h : Post g W rel F σ Hb m o Q) (q : ∀ v H, Q v H → Q' v H) : Post g W rel F σ Hb m o Q' := by
  cases o with
  | ok a eta => exact fun v H H2 m2 r1 r2 r3 => q _ _ (h v H H2 m2 r1 r2 r3)
  | exc x fs eta => exact h
  | stuck => exact h
theorem Post.bind {rho : Rho} {eta : Eta} {c : Rho → Eta → Out α} {k : α → Rho → Eta → Out γ} {Q : δ → Hp → Prop} {Q1 : β → Hp → Prop} (h : Post g W rel' F σ Hb m (cb c k rho eta) Q)
    (q : ∀ a eta1 v H1 Hb1 m1, c rho eta = .ok a eta1 → RelH g F Hb1 m1 eta1 H1 → Gr Hb m Hb1 m1 → rel Hb1 m1 a v → Post g W rel' F σ Hb1 m1 (k a rho eta1) Q → Q1 v H1) : Post g W rel F σ Hb m (c rho eta) Q1 := by
  unfold cb at h
  cases e : c rho eta with
  | ok a eta1 =>
    rw [e] at h
    exact fun v H1 Hb1 m1 r1 r2 r3 => q a eta1 v H1 Hb1 m1 e r1 r2 r3 (h.grow r2)
  | exc x fs eta1 => rw [e] at h; exact h
  | stuck => rw [e] at h; exact h
theorem PostS.grow {o : OutS} {D : Ends} (e : Gr Hb m Hb' m') (h : PostS g W F Hb m o D) : PostS g W F Hb' m' o D := by
  cases o with
  | nx rho eta => exact fun a b c d r1 r2 r3 => h a b c d r1 r2 (e.trans r3)
  | ret d eta => exact fun a b c d r1 r2 r3 => h a b c d r1 (e.trans r2) r3
  | bk rho eta => exact fun a b c d r1 r2 r3 => h a b c d r1 r2 (e.trans r3)
  | ct rho eta => exact fun a b c d r1 r2 r3 => h a b c d r1 r2 (e.trans r3)
  | exc x fs rho eta => exact fun a b c d e1 f r1 r2 r3 r4 => h a b c d e1 f r1 r2 (e.trans r3) r4
  | stuck => exact h
end
theorem pe_weak {X : Cx} {e : Expr} {t t' : TE} (h : PE X e t) (w : ∀ σ H Q, t' σ H Q → t σ H Q) : PE X e t' := ⟨fun pins s σ H Q I q => h.run pins s σ H Q I (w σ H Q q)⟩
theorem pt_weak {X : Cx} {e : Expr} {t t' : TT} (h : PT X e t) (w : ∀ σ H Q, t' σ H Q → t σ H Q) : PT X e t' := ⟨fun pins s σ H Q I q => h.run pins s σ H Q I (w σ H Q q)⟩
theorem pw_weak {X : Cx} {e : Expr} {t t' : TT} (h : PW X e t) (w : ∀ σ H Q, t' σ H Q → t σ H Q) : PW X e t' := ⟨fun wh pins s σ H Q I q => h.run wh pins s σ H Q I (w σ H Q q)⟩
theorem pa_weak {X : Cx} {e : List Expr} {t t' : TA} (h : PA X e t) (w : ∀ σ H Q, t' σ H Q → t σ H Q) : PA X e t' := ⟨fun p pins s σ H Q I q => h.run p pins s σ H Q I (w σ H Q q)⟩
theorem pk_weak {X : Cx} {e : List Keyword} {t t' : TA} (h : PK X e t) (w : ∀ σ H Q, t' σ H Q → t σ H Q) : PK X e t' := ⟨fun p pins s σ H Q I q => h.run p pins s σ H Q I (w σ H Q q)⟩
theorem ps_weak {X : Cx} {e : Stmt} {t t' : TS} (h : PS X e t) (w : ∀ D σ H, t' D σ H → t D σ H) : PS X e t' := ⟨fun pins s σ H D I q => h.run pins s σ H D I (w D σ H q)⟩
theorem pss_weak {X : Cx} {e : List Stmt} {t t' : TS} (h : PSs X e t) (w : ∀ D σ H, t' D σ H → t D σ H) : PSs X e t' := ⟨fun pins s σ H D I q => h.run pins s σ H D I (w D σ H q)⟩
/-! ### names, constants -/
def cVar (i : Nat) : CE := fun rho eta => match rho[i]? with | some (some d) => .ok d eta | _ => .stuck
def cC (d : D) : CE := fun _ eta => .ok d eta
/-- a constant as data -/
def VC (g : G) (d : D) (v : V) : Prop := ∀ Hb m, VD g Hb m d v
section
variable {g : G} {W : WE} {X : Cx} {a b c : Expr} {pos : Pos} {ca cb' : CE}
theorem d_var (i : Nat) {x : Str} (hN : X.N[i]? = some x := by rfl) (hv : Vis X.env.scope x := by first | exact Or.inl rfl | exact Or.inr (Or.inl rfl) | exact Or.inr (Or.inr rfl)) (hd : (x == ("__debug__" : Str)) = false := by decide)
    (hcd : (x == ("__classdict__" : Str)) = false := by decide) : PE X (.Name x pos) (tD g W (cVar i)) := by
  refine pe_weak (pe_var hN hv hd hcd) fun σ H Q ⟨rho, eta, F, Hb, m, rh, rs, po⟩ => ?_
  unfold cVar at po
  split at po
  · rename_i d e
    obtain ⟨v, e1, r⟩ := rs.at_ i d e
    exact ⟨v, e1, po v H Hb m rh Gr.refl r⟩
  · exact po.elim
theorem d_const {e : Expr} {d : D} {v : V} (h : PE X e (tC v)) (r : VC g d v) : PE X e (tD g W (cC d)) :=
  pe_weak h fun σ H Q ⟨rho, eta, F, Hb, m, rh, rs, po⟩ => po v H Hb m rh Gr.refl (r Hb m)
theorem d_int {i j} : PE X (.Constant (.int i) j pos) (tD g W (cC (.int i))) := d_const pe_int fun _ _ => rfl
theorem d_bl {k j} : PE X (.Constant (.bool k) j pos) (tD g W (cC (.bl k))) := d_const pe_bl fun _ _ => rfl
theorem d_non {j} : PE X (.Constant .none j pos) (tD g W (cC .non)) := d_const pe_non fun _ _ => rfl
theorem d_str {x j} : PE X (.Constant (.str x) j pos) (tD g W (cC (.str x))) := d_const pe_str fun _ _ => rfl
end
/-! ### an operation on two values -/
/-- what a rule on values does, as data: f tells the answer (the owned things as they are) -/
def OpD (g : G) (W : WE) (r : R2) (f : D → D → Eta → Option D) : Prop := ∀ (x y z : D) (v u : V) (eta : Eta) (F Hb : Hp) (m : List Addr) (H : Hp) (Q : VK), f x y eta = some z → RelH g F Hb m eta H → VD g Hb m x v → VD g Hb m y u →
  (∀ w H' Hb', RelH g F Hb' m eta H' → Gr Hb m Hb' m → VD g Hb' m z w → Q w H') → r v u H Q
def cOp (f : D → D → Eta → Option D) (ca cb' : CE) : CE := cb ca fun x => cb cb' fun y _ eta => match f x y eta with | some z => .ok z eta | none => .stuck
section
variable {g : G} {W : WE} {X : Cx} {a b c : Expr} {pos : Pos} {ca cb' cc : CE} {op : Operator} {r r' : R2} {f f' : D → D → Eta → Option D}
theorem op_run (hr : OpD g W r f) {σ : L2.St} {H : Hp} {Q : VK} (h : tD g W (cOp f ca cb') σ H Q) : tOp r (tD g W ca) (tD g W cb') σ H Q := by
  obtain ⟨rho, eta, F, Hb, m, rh, rs, po⟩ := h
  refine ⟨rho, eta, F, Hb, m, rh, rs, Post.bind po fun x eta1 v H1 Hb1 m1 _ rh1 g1 vx po1 => ?_⟩
  refine ⟨rho, eta1, F, Hb1, m1, rh1, rs.mono g1, Post.bind po1 fun y eta2 u H2 Hb2 m2 _ rh2 g2 vy po2 => ?_⟩
  revert po2
  cases e : f x y eta2 with
  | none => exact fun z => z.elim
  | some z => exact fun po2 => hr x y z v u eta2 F Hb2 m2 H2 Q e rh2 (VD.mono g2 _ _ vx) vy fun w H' Hb' r1 r2 r3 => po2 w H' Hb' m2 r1 r2 r3
theorem d_op (ho : OpR X (binaryOp op) r) (hr : OpD g W r f) (ha : PE X a (tD g W ca)) (hb : PE X b (tD g W cb')) : PE X (.BinOp a op b pos) (tD g W (cOp f ca cb')) :=
  pe_weak (pe_op ho ha hb) fun σ H Q h => op_run hr h
theorem d_cmp {o : CmpOp} (ho : OpR X (compareOp o) r) (hr : OpD g W r f) (ha : PE X a (tD g W ca)) (hb : PE X b (tD g W cb')) (hm : behindInMarks o b = false := by first | exact nomark _ | rfl) : PE X (.Compare a [o] [b] pos) (tD g W (cOp f ca cb')) :=
  pe_weak (pe_cmpR ho ha hb hm) fun σ H Q h => op_run hr h
end
/-- ints in, under a condition, an int or a bool out -/
def fI (P : Int → Int → Bool) (h : Int → Int → D) : D → D → Eta → Option D := fun x y _ => match x, y with | .int i, .int j => if P i j then some (h i j) else none | _, _ => none
theorem fI_some {P : Int → Int → Bool} {h : Int → Int → D} {x y z : D} {eta : Eta} (e : fI P h x y eta = some z) : ∃ i j, x = .int i ∧ y = .int j ∧ P i j = true ∧ z = h i j := by
  unfold fI at e
  split at e
  · rename_i i j
    split at e
    · rename_i hp
      exact ⟨i, j, rfl, rfl, hp, (Option.some.inj e).symm⟩
    · cases e
  · cases e
section
variable {g : G} {W : WE}
theorem opd_I0 {k : Int → Int → V} {h : Int → Int → D} (hk : ∀ i j, VC g (h i j) (k i j)) : OpD g W (rI0 k) (fI (fun _ _ => true) h) := by
  intro x y z v u eta F Hb m H Q e rh vx vy q
  obtain ⟨i, j, rfl, rfl, _, rfl⟩ := fI_some e
  exact ⟨i, j, vx, vy, q _ _ Hb rh Gr.refl (hk i j Hb m)⟩
theorem opd_I {C : Int → Int → Prop} {P : Int → Int → Bool} (hP : ∀ i j, P i j = true → C i j) {k : Int → Int → V} {h : Int → Int → D} (hk : ∀ i j, VC g (h i j) (k i j)) : OpD g W (rI C k) (fI P h) := by
  intro x y z v u eta F Hb m H Q e rh vx vy q
  obtain ⟨i, j, rfl, rfl, hp, rfl⟩ := fI_some e
  exact ⟨i, j, vx, vy, hP i j hp, q _ _ Hb rh Gr.refl (hk i j Hb m)⟩
theorem vc_int (i : Int) : VC g (.int i) (.int i) := fun _ _ => rfl
theorem vc_bl (b : Bool) : VC g (.bl b) (.bl b) := fun _ _ => rfl
end
def fAdd := fI (fun _ _ => true) fun i j => .int (i + j)
def fSub := fI (fun _ _ => true) fun i j => .int (i - j)
def fLt := fI (fun _ _ => true) fun i j => .bl (decide (i < j))
def fLe := fI (fun _ _ => true) fun i j => .bl (decide (i ≤ j))
def fGt := fI (fun _ _ => true) fun i j => .bl (decide (j < i))
def fGe := fI (fun _ _ => true) fun i j => .bl (decide (j ≤ i))
/-- one factor within 64 bits -/
def okMul (i j : Int) : Bool := (decide (-18446744073709551616 < i) && decide (i < 18446744073709551616)) || (decide (-18446744073709551616 < j) && decide (j < 18446744073709551616))
def fMul := fI okMul fun i j => .int (i * j)
def fDiv := fI (fun _ j => decide (0 < j) && decide (j < 1073741824)) fun i j => .int (i / j)
def fMod := fI (fun _ j => decide (0 < j)) fun i j => .int (i % j)
def fPow := fI (fun i j => decide (0 ≤ j) && decide (j ≤ 1000000) && decide (i.natAbs < 18446744073709551616)) fun i j => .int (i ^ j.toNat)
section
variable {g : G} {W : WE} {X : Cx} {a b : Expr} {pos : Pos} {ca cb' : CE}
theorem d_add (ha : PE X a (tD g W ca)) (hb : PE X b (tD g W cb')) : PE X (.BinOp a .Add b pos) (tD g W (cOp fAdd ca cb')) := d_op op_add (opd_I0 fun _ _ => vc_int _) ha hb
theorem d_sub (ha : PE X a (tD g W ca)) (hb : PE X b (tD g W cb')) : PE X (.BinOp a .Sub b pos) (tD g W (cOp fSub ca cb')) := d_op op_sub (opd_I0 fun _ _ => vc_int _) ha hb
theorem okMul_ok {i j : Int} (h : okMul i j = true) : CMul i j := by
  unfold okMul at h
  simp only [Bool.or_eq_true, Bool.and_eq_true, decide_eq_true_eq] at h
  unfold CMul
  have e : (2 : Int) ^ 64 = 18446744073709551616 := by decide
  rw [e]
  exact h
theorem d_mul (ha : PE X a (tD g W ca)) (hb : PE X b (tD g W cb')) : PE X (.BinOp a .Mult b pos) (tD g W (cOp fMul ca cb')) := d_op op_mul (opd_I (fun _ _ h => okMul_ok h) fun _ _ => vc_int _) ha hb
theorem d_div (ha : PE X a (tD g W ca)) (hb : PE X b (tD g W cb')) : PE X (.BinOp a .FloorDiv b pos) (tD g W (cOp fDiv ca cb')) :=
  d_op op_fdiv (opd_I (fun i j h => by simpa [CDiv] using h) fun _ _ => vc_int _) ha hb
theorem d_mod (ha : PE X a (tD g W ca)) (hb : PE X b (tD g W cb')) : PE X (.BinOp a .Mod b pos) (tD g W (cOp fMod ca cb')) :=
  d_op op_mod (opd_I (fun i j h => by simpa using h) fun _ _ => vc_int _) ha hb
theorem d_pow (ha : PE X a (tD g W ca)) (hb : PE X b (tD g W cb')) : PE X (.BinOp a .Pow b pos) (tD g W (cOp fPow ca cb')) :=
  d_op op_pow (opd_I (fun i j h => by
    simp only [Bool.and_eq_true, decide_eq_true_eq] at h
    unfold CPow
    have e : (2 : Nat) ^ 64 = 18446744073709551616 := by decide
    rw [e]
    exact ⟨h.1.1, h.1.2, h.2⟩) fun _ _ => vc_int _) ha hb
theorem d_lt (ha : PE X a (tD g W ca)) (hb : PE X b (tD g W cb')) : PE X (.Compare a [.Lt] [b] pos) (tD g W (cOp fLt ca cb')) := d_cmp op_lt (opd_I0 fun _ _ => vc_bl _) ha hb
theorem d_le (ha : PE X a (tD g W ca)) (hb : PE X b (tD g W cb')) : PE X (.Compare a [.LtE] [b] pos) (tD g W (cOp fLe ca cb')) := d_cmp op_le (opd_I0 fun _ _ => vc_bl _) ha hb
theorem d_gt (ha : PE X a (tD g W ca)) (hb : PE X b (tD g W cb')) : PE X (.Compare a [.Gt] [b] pos) (tD g W (cOp fGt ca cb')) := d_cmp op_gt (opd_I0 fun _ _ => vc_bl _) ha hb
theorem d_ge (ha : PE X a (tD g W ca)) (hb : PE X b (tD g W cb')) : PE X (.Compare a [.GtE] [b] pos) (tD g W (cOp fGe ca cb')) := d_cmp op_ge (opd_I0 fun _ _ => vc_bl _) ha hb
end
end Gh
namespace Gh
open PySem PySem.Spec PyProof.Rows L2
/-! ### sequences as data -/
def seqL (eta : Eta) : D → Option (List D)
  | .lst ds => some ds
  | .ref i => match eta[i]? with | some (.lst ds) => some ds | _ => none
  | _ => none
def seqT : D → Option (List D)
  | .tup ds => some ds
  | _ => none
/-- a list or a tuple -/
def seqA (eta : Eta) : D → Option (List D)
  | .lst ds => some ds
  | .tup ds => some ds
  | .ref i => match eta[i]? with | some (.lst ds) => some ds | _ => none
  | _ => none
section
variable {g : G} {F Hb : Hp} {m : List Addr} {eta : Eta} {H : Hp} {d : D} {ds : List D} {v : V}
theorem seqL_ok (h : seqL eta d = some ds) (r : RelH g F Hb m eta H) (k : VD g Hb m d v) : ∃ a vs, v = .ref a ∧ Rd H a (.lst vs) ∧ VDs g Hb m ds vs := by
  cases d with
  | lst es =>
    obtain rfl : es = ds := Option.some.inj h
    obtain ⟨a, vs, e, h1, h2⟩ := k
    exact ⟨a, vs, e, Gh.Same.rd r.ex h1, h2⟩
  | ref i =>
    obtain ⟨a, e, hm⟩ := k
    simp only [seqL] at h
    split at h
    · rename_i es e2
      obtain rfl : es = ds := Option.some.inj h
      obtain ⟨vs, h1, h2⟩ := r.own i a _ hm e2
      exact ⟨a, vs, e, .inl h1, h2⟩
    · cases h
  | non => cases h
  | bl _ => cases h
  | int _ => cases h
  | str _ => cases h
  | tup _ => cases h
  | obj _ _ => cases h
theorem seqT_ok (h : seqT d = some ds) (r : RelH g F Hb m eta H) (k : VD g Hb m d v) : ∃ a vs, v = .ref a ∧ SqT g.K H a vs ∧ VDs g Hb m ds vs := by
  cases d with
  | tup es =>
    obtain rfl : es = ds := Option.some.inj h
    obtain ⟨a, vs, e, h1, h2⟩ := k
    exact ⟨a, vs, e, Gh.Same.tup r.ex h1, h2⟩
  | non => cases h
  | bl _ => cases h
  | int _ => cases h
  | str _ => cases h
  | lst _ => cases h
  | obj _ _ => cases h
  | ref _ => cases h
theorem seqA_ok (h : seqA eta d = some ds) (r : RelH g F Hb m eta H) (k : VD g Hb m d v) : ∃ a vs, v = .ref a ∧ (SqL g.K H a vs ∨ SqT g.K H a vs) ∧ VDs g Hb m ds vs := by
  cases d with
  | lst es =>
    obtain ⟨a, vs, e, h1, h2⟩ := seqL_ok (d := .lst es) (ds := ds) h r k
    exact ⟨a, vs, e, .inl (.inl h1), h2⟩
  | ref i =>
    obtain ⟨a, vs, e, h1, h2⟩ := seqL_ok (d := .ref i) (ds := ds) h r k
    exact ⟨a, vs, e, .inl (.inl h1), h2⟩
  | tup es =>
    obtain ⟨a, vs, e, h1, h2⟩ := seqT_ok (d := .tup es) (ds := ds) h r k
    exact ⟨a, vs, e, .inr h1, h2⟩
  | non => cases h
  | bl _ => cases h
  | int _ => cases h
  | str _ => cases h
  | obj _ _ => cases h
end
/-! ### data of the model -/
mutual
def pyD (f : Nat → Option PyData) : D → Option PyData
  | .non => some .none
  | .bl b => some (.bool b)
  | .int i => some (.int i)
  | .str x => some (.str x)
  | .lst ds => (pyDs f ds).map .list
  | .tup ds => (pyDs f ds).map .tuple
  | .obj _ _ => none
  | .ref i => f i
def pyDs (f : Nat → Option PyData) : List D → Option (List PyData)
  | [] => some []
  | d :: ds => match pyD f d, pyDs f ds with | some p, some ps => some (p :: ps) | _, _ => none
end
def pyR : Nat → Eta → Nat → Option PyData
  | 0, _, _ => none
  | n + 1, eta, i => match eta[i]? with | some (.lst ds) => (pyDs (pyR n eta) ds).map .list | _ => none
def py (eta : Eta) (d : D) : Option PyData := pyD (pyR 3 eta) d
section
variable {g : G} {F Hb : Hp} {m : List Addr} {eta : Eta} {H : Hp}
mutual
theorem pyD_ok (r : RelH g F Hb m eta H) {f : Nat → Option PyData} (hf : ∀ i p a, f i = some p → m[i]? = some a → Dp g.K H (.ref a) p) : ∀ (d : D) (p : PyData) (v : V), pyD f d = some p → VD g Hb m d v → Dp g.K H v p
  | .non, p, v, h, k => by cases h; subst k; exact .non
  | .bl b, p, v, h, k => by cases h; subst k; exact .bl b
  | .int i, p, v, h, k => by cases h; subst k; exact .int i
  | .str x, p, v, h, k => by cases h; subst k; exact .str x
  | .lst ds, p, v, h, ⟨a, vs, e, h1, h2⟩ => by
    obtain ⟨ps, e1, e2⟩ := Option.map_eq_some_iff.mp h
    subst e e2
    exact .lst (.inl (Gh.Same.rd r.ex h1)) (pyDs_ok r hf ds ps vs e1 h2)
  | .tup ds, p, v, h, ⟨a, vs, e, h1, h2⟩ => by
    obtain ⟨ps, e1, e2⟩ := Option.map_eq_some_iff.mp h
    subst e e2
    exact .tup (Gh.Same.tup r.ex h1) (pyDs_ok r hf ds ps vs e1 h2)
  | .obj _ _, p, v, h, _ => by cases h
  | .ref i, p, v, h, ⟨a, e, hm⟩ => by subst e; exact hf i p a h hm
theorem pyDs_ok (r : RelH g F Hb m eta H) {f : Nat → Option PyData} (hf : ∀ i p a, f i = some p → m[i]? = some a → Dp g.K H (.ref a) p) : ∀ (ds : List D) (ps : List PyData) (vs : List V), pyDs f ds = some ps → VDs g Hb m ds vs → DpAll g.K H vs ps
  | [], ps, vs, h, k => by cases h; subst k; exact .nil
  | d :: ds, ps, vs, h, ⟨v, q, e, h1, h2⟩ => by
    unfold pyDs at h
    split at h
    · rename_i p qs e1 e2
      cases h
      subst e
      exact .cons (pyD_ok r hf d p v e1 h1) (pyDs_ok r hf ds qs q e2 h2)
    · cases h
end
theorem pyR_ok (r : RelH g F Hb m eta H) : ∀ (n i : Nat) (p : PyData) (a : Addr), pyR n eta i = some p → m[i]? = some a → Dp g.K H (.ref a) p
  | 0, _, _, _, h, _ => by cases h
  | n + 1, i, p, a, h, hm => by
    unfold pyR at h
    split at h
    · rename_i ds e
      obtain ⟨ps, e1, e2⟩ := Option.map_eq_some_iff.mp h
      subst e2
      obtain ⟨vs, h1, h2⟩ := r.own i a _ hm e
      exact .lst (.inl (.inl h1)) (pyDs_ok r (pyR_ok r n) ds ps vs e1 h2)
    · cases h
theorem py_ok (r : RelH g F Hb m eta H) {d : D} {p : PyData} {v : V} (h : py eta d = some p) (k : VD g Hb m d v) : Dp g.K H v p := pyD_ok r (pyR_ok r 3) d p v h k
end
/-- the rule's wants: flat things, or data -/
def rEq2 (K : PySem.W.Frag) : R2 := fun x y H Q => rEq x y H Q ∨ rEqD K x y H Q
def rNe2 (K : PySem.W.Frag) : R2 := fun x y H Q => rNe x y H Q ∨ rNeD K x y H Q
def eqGen (x y : D) (eta : Eta) : Option D := match py eta x, py eta y with | some p, some q => if SeqAt.shaped p && SeqAt.shaped q then some (.bl (PyData.eqv p q)) else none | _, _ => none
theorem eqGen_some {x y z : D} {eta : Eta} (e : eqGen x y eta = some z) : ∃ p q, py eta x = some p ∧ py eta y = some q ∧ SeqAt.shaped p = true ∧ SeqAt.shaped q = true ∧ z = .bl (PyData.eqv p q) := by
  unfold eqGen at e
  split at e
  · rename_i p q e1 e2
    split at e
    · rename_i hs
      rw [Bool.and_eq_true] at hs
      exact ⟨p, q, e1, e2, hs.1, hs.2, (Option.some.inj e).symm⟩
    · cases e
  · cases e
def fEq (x y : D) (eta : Eta) : Option D := match x, y with
  | .int i, .int j => some (.bl (decide (i = j)))
  | .str i, .str j => some (.bl (decide (i = j)))
  | .bl i, .bl j => some (.bl (decide (i = j)))
  | x, y => eqGen x y eta
def fNe (x y : D) (eta : Eta) : Option D := match fEq x y eta with | some (.bl b) => some (.bl !b) | _ => none
theorem fEq_run {g : G} {F Hb H : Hp} {m : List Addr} {eta : Eta} {x y z : D} {v u : V} (e : fEq x y eta = some z) (rh : RelH g F Hb m eta H) (vx : VD g Hb m x v) (vy : VD g Hb m y u) :
    ∃ b, z = .bl b ∧ ((scal v u = true ∧ decide (v = u) = b) ∨ ∃ p q, Dp g.K H v p ∧ Dp g.K H u q ∧ SeqAt.shaped p = true ∧ SeqAt.shaped q = true ∧ b = PyData.eqv p q) := by
  unfold fEq at e
  split at e
  · rename_i i j
    cases e
    subst vx vy
    refine ⟨_, rfl, .inl ⟨rfl, ?_⟩⟩
    by_cases h : i = j
    · subst h; simp
    · rw [decide_eq_false h, decide_eq_false (fun q => h (V.int.inj q))]
  · rename_i i j
    cases e
    subst vx vy
    refine ⟨_, rfl, .inl ⟨rfl, ?_⟩⟩
    by_cases h : i = j
    · subst h; simp
    · rw [decide_eq_false h, decide_eq_false (fun q => h (V.str.inj q))]
  · rename_i i j
    cases e
    subst vx vy
    refine ⟨_, rfl, .inl ⟨rfl, ?_⟩⟩
    by_cases h : i = j
    · subst h; simp
    · rw [decide_eq_false h, decide_eq_false (fun q => h (V.bl.inj q))]
  · obtain ⟨p, q, e1, e2, s1, s2, ez⟩ := eqGen_some e
    exact ⟨_, ez, .inr ⟨p, q, py_ok rh e1 vx, py_ok rh e2 vy, s1, s2, rfl⟩⟩
section
variable {g : G} {W : WE} {X : Cx} {a b : Expr} {pos : Pos} {ca cb' : CE}
theorem opd_eq : OpD g W (rEq2 g.K) fEq := by
  intro x y z v u eta F Hb m H Q e rh vx vy q
  obtain ⟨b, rfl, ⟨h1, h2⟩ | ⟨p, p', h1, h2, h3, h4, rfl⟩⟩ := fEq_run e rh vx vy
  · exact .inl ⟨h1, q _ _ Hb rh Gr.refl (by rw [h2]; rfl)⟩
  · exact .inr ⟨p, p', h1, h2, h3, h4, q _ _ Hb rh Gr.refl rfl⟩
theorem opd_ne : OpD g W (rNe2 g.K) fNe := by
  intro x y z v u eta F Hb m H Q e rh vx vy q
  unfold fNe at e
  split at e
  · rename_i c ec
    cases e
    obtain ⟨b, eb, h⟩ := fEq_run ec rh vx vy
    obtain rfl : c = b := D.bl.inj eb
    rcases h with ⟨h1, h2⟩ | ⟨p, p', h1, h2, h3, h4, rfl⟩
    · exact .inl ⟨h1, q _ _ Hb rh Gr.refl (by rw [h2]; rfl)⟩
    · exact .inr ⟨p, p', h1, h2, h3, h4, q _ _ Hb rh Gr.refl rfl⟩
  · cases e
end
/-- what every rule may use: nothing is handled, room, no repr under way, what is let out is taken -/
structure Cz (g : G) (X : Cx) (W : WE) (k : Nat) : Prop where
  tk : Takes X W.w
  calm : X.calm = true
  rm : Rm k X.A
  K : X.K = g.K
  nd : X.N.Nodup
  po : PassesOwn (model X.prog X.w) X.A X.env X.xe
section
variable {g : G} {W : WE} {X : Cx} {k : Nat} {a b c : Expr} {pos : Pos} {ca cb' cc : CE}
theorem d_eq (z : Cz g X W k) (ha : PE X a (tD g W ca)) (hb : PE X b (tD g W cb')) : PE X (.Compare a [.Eq] [b] pos) (tD g W (cOp fEq ca cb')) :=
  d_cmp (op_eq.or (op_eqD z.rm.r.units)) (by rw [z.K]; exact opd_eq) ha hb
theorem d_ne (z : Cz g X W k) (ha : PE X a (tD g W ca)) (hb : PE X b (tD g W cb')) : PE X (.Compare a [.NotEq] [b] pos) (tD g W (cOp fNe ca cb')) :=
  d_cmp (op_ne.or (op_neD z.rm.r.units)) (by rw [z.K]; exact opd_ne) ha hb
end
/-! ### lists and tuples by operators -/
def rCatR : R2 := fun x y H Q => ∃ l b xs zs, x = .ref l ∧ y = .ref b ∧ Rd H l (.lst xs) ∧ Rd H b (.lst zs) ∧ xs.length + zs.length ≤ sizeLine ∧ ∀ p, H p = none → Q (.ref p) (upd H p (.lst (xs ++ zs)))
theorem rd_lst {X : Cx} {pins : List (Addr × Obj)} {σ : L2.St} {H : Hp} {s : Shared} {l : Addr} {xs : List V} (I : Inv X pins σ H s) (h : Rd H l (.lst xs)) :
    ∃ (its : List Value) (n : Nat), Vals xs its ∧ xs.length = its.length ∧ s.heap.get? l = some { cls := .type "list", data := .seq its.toArray n } := by
  obtain ⟨_, its, n, r, e⟩ := h.ok I.hok
  exact ⟨its, n, r, r.length, e⟩
theorem op_catR {X : Cx} : OpR X (binaryOp .Add) rCatR := by
  intro pins s σ H x y v u Q I rx ry ⟨l, b, xs, zs, e1, e2, hl, hb, hz, q⟩
  subst e1 e2
  cases rx
  cases ry
  obtain ⟨i1, n1, r1, l1, o1⟩ := rd_lst I hl
  obtain ⟨i2, n2, r2, l2, o2⟩ := rd_lst I hb
  refine PySem.P.add_list o1 o2 ?_ (by rw [List.size_toArray, List.size_toArray]; omega)
  have both : i1.toArray ++ i2.toArray = (i1 ++ i2).toArray := by simp
  rw [both]
  exact ⟨.ref _, _, I.lnew (t' := s.toks) (r1.append r2) (by rw [List.length_append]; omega), rfl, q _ I.fresh⟩
def lineB : Nat := 16777216
theorem lineB_ok {n : Nat} (h : n ≤ lineB) : n ≤ sizeLine := by rw [sizeLine_eq]; exact h
/-- + of ints, of lists, of tuples, of texts -/
def fPlus (x y : D) (eta : Eta) : Option D := match x, y with
  | .int i, .int j => some (.int (i + j))
  | .str i, .str j => if i.length + j.length ≤ lineB then some (.str (i ++ j)) else none
  | .tup i, .tup j => if i.length + j.length ≤ lineB then some (.tup (i ++ j)) else none
  | x, y => match seqL eta x, seqL eta y with | some i, some j => if i.length + j.length ≤ lineB then some (.lst (i ++ j)) else none | _, _ => none
def rPlus (K : PySem.W.Frag) : R2 := fun x y H Q => rI0 (fun i j => .int (i + j)) x y H Q ∨ ((fun x y H Q => ∃ i j, x = .str i ∧ y = .str j ∧ i.length + j.length ≤ sizeLine ∧ Q (.str (i ++ j)) H : R2) x y H Q ∨ (rCatA K x y H Q ∨ rCatR x y H Q))
section
variable {g : G} {W : WE} {X : Cx} {k : Nat} {a b c : Expr} {pos : Pos} {ca cb' cc : CE}
theorem opd_plus : OpD g W (rPlus g.K) fPlus := by
  intro x y z v u eta F Hb m H Q e rh vx vy q
  have gen : ∀ (i j : List D), seqL eta x = some i → seqL eta y = some j → i.length + j.length ≤ lineB → z = .lst (i ++ j) → rPlus g.K v u H Q := by
    intro i j e1 e2 hl ez
    obtain ⟨p, vs, rfl, h1, k1⟩ := seqL_ok e1 rh vx
    obtain ⟨p', us, rfl, h2, k2⟩ := seqL_ok e2 rh vy
    refine .inr (.inr (.inr ⟨p, p', vs, us, rfl, rfl, h1, h2, by rw [← k1.length, ← k2.length]; exact lineB_ok hl, fun pp hp => ?_⟩))
    obtain ⟨rh', gr⟩ := rh.pure (o := .lst (vs ++ us)) hp
    refine q _ _ _ rh' gr ?_
    subst ez
    exact ⟨pp, _, rfl, .inl upd_same, (VDs.mono gr _ _ k1).append (VDs.mono gr _ _ k2)⟩
  unfold fPlus at e
  split at e
  · rename_i i j
    cases e
    exact .inl ⟨i, j, vx, vy, q _ _ Hb rh Gr.refl rfl⟩
  · rename_i i j
    split at e
    · rename_i hl
      cases e
      exact .inr (.inl ⟨i, j, vx, vy, lineB_ok hl, q _ _ Hb rh Gr.refl rfl⟩)
    · cases e
  · rename_i i j
    split at e
    · rename_i hl
      cases e
      obtain ⟨p, vs, rfl, h1, k1⟩ := seqT_ok (d := .tup i) rfl rh vx
      obtain ⟨p', us, rfl, h2, k2⟩ := seqT_ok (d := .tup j) rfl rh vy
      refine .inr (.inr (.inl ⟨p, p', vs, us, rfl, rfl, h1, h2, by rw [← k1.length, ← k2.length]; exact lineB_ok hl, fun ev => ?_, fun _ eu => ?_, fun _ _ pp hp => ?_⟩))
      · subst ev
        have ei : i = [] := List.length_eq_zero_iff.mp k1.length
        subst ei
        exact q _ _ Hb rh Gr.refl vy
      · subst eu
        have ej : j = [] := List.length_eq_zero_iff.mp k2.length
        subst ej
        rw [List.append_nil] at q
        exact q _ _ Hb rh Gr.refl vx
      · obtain ⟨rh', gr⟩ := rh.pure (o := .tup (vs ++ us)) hp
        exact q _ _ _ rh' gr ⟨pp, _, rfl, .inl (.inl upd_same), (VDs.mono gr _ _ k1).append (VDs.mono gr _ _ k2)⟩
    · cases e
  · split at e
    · rename_i i j e1 e2
      split at e
      · rename_i hl
        cases e
        exact gen i j e1 e2 hl rfl
      · cases e
    · cases e
theorem d_plus (z : Cz g X W k) (ha : PE X a (tD g W ca)) (hb : PE X b (tD g W cb')) : PE X (.BinOp a .Add b pos) (tD g W (cOp fPlus ca cb')) :=
  d_op (op_add.or (op_add_str.or (op_catA.or op_catR))) (by rw [z.K]; exact opd_plus) ha hb
end
/-! ### tests -/
def cBl (c : CE) : CT := cb c fun d _ eta => match d with | .bl b => .ok b eta | _ => .stuck
def truD (eta : Eta) : D → Option Bool
  | .non => some false
  | .bl b => some b
  | .int i => some (i != 0)
  | .str x => if x.length ≤ lineB then some ((x.length : Int) != 0) else none
  | d => match seqA eta d with | some ds => some (!ds.isEmpty) | none => none
def cTru (c : CE) : CT := cb c fun d _ eta => match truD eta d with | some b => .ok b eta | none => .stuck
theorem VDs.empty {g : G} {Hb : Hp} {m : List Addr} {ds : List D} {vs : List V} (h : VDs g Hb m ds vs) : (!vs.isEmpty) = !ds.isEmpty := by
  have l := h.length
  cases ds <;> cases vs <;> first | rfl | simp at l
section
variable {g : G} {W : WE} {X : Cx} {k : Nat} {a b c : Expr} {pos : Pos} {ca cb' cc : CE}
theorem truD_ok {F Hb H : Hp} {m : List Addr} {eta : Eta} {d : D} {b : Bool} {v : V} (h : truD eta d = some b) (rh : RelH g F Hb m eta H) (kv : VD g Hb m d v) : TruV g.K v H b := by
  have seq : ∀ ds, seqA eta d = some ds → b = !ds.isEmpty → TruV g.K v H b := by
    intro ds e eb
    obtain ⟨a, vs, rfl, h1, k1⟩ := seqA_ok e rh kv
    rcases h1 with h1 | h1
    · exact .inl ⟨vs, h1, by rw [eb, k1.empty]⟩
    · exact .inr (.inl ⟨vs, h1, by rw [eb, k1.empty]⟩)
  unfold truD at h
  split at h
  · cases h; subst kv; rfl
  · cases h; subst kv; rfl
  · cases h; subst kv; rfl
  · split at h
    · rename_i hl
      cases h; subst kv; exact ⟨lineB_ok hl, rfl⟩
    · cases h
  · split at h
    · rename_i ds e
      cases h
      exact seq ds e rfl
    · cases h
/-- any expression but and, or, not, a comparison, as a test -/
theorem t_tru (z : Cz g X W k) (ha : PE X a (tD g W ca)) (he : ∀ whole, isTrue a X.env whole = (do let v ← whole; standAt a.pos; holding [v] (truthy v)) := by intro _; rfl) : PT X a (tB g W (cTru ca)) :=
  pt_weak (pt_truth ha he) fun σ H Q ⟨rho, eta, F, Hb, m, rh, rs, po⟩ => ⟨rho, eta, F, Hb, m, rh, rs, Post.bind po fun d eta1 v H1 Hb1 m1 _ rh1 g1 vd po1 => by
    revert po1
    cases e : truD eta1 d with
    | none => exact fun h => h.elim
    | some b =>
      intro po1
      exact ⟨b, z.K ▸ truD_ok e rh1 vd, po1 b H1 Hb1 m1 rh1 Gr.refl rfl⟩⟩
/-- a comparison as a test, from its value -/
theorem bl_run {t : TE} (w : ∀ σ H Q, tD g W ca σ H Q → t σ H Q) {σ : L2.St} {H : Hp} {Q : Bool → Hp → Prop} (h : tB g W (cBl ca) σ H Q) : tTest t σ H Q := by
  obtain ⟨rho, eta, F, Hb, m, rh, rs, po⟩ := h
  refine w _ _ _ ⟨rho, eta, F, Hb, m, rh, rs, Post.bind po fun d eta1 v H1 Hb1 m1 _ rh1 g1 vd po1 => ?_⟩
  cases d with
  | bl b => exact ⟨b, vd, po1 b H1 Hb1 m1 rh1 Gr.refl rfl⟩
  | non => exact po1.elim
  | int _ => exact po1.elim
  | str _ => exact po1.elim
  | lst _ => exact po1.elim
  | tup _ => exact po1.elim
  | obj _ _ => exact po1.elim
  | ref _ => exact po1.elim
theorem t_cmp {o : CmpOp} {r : R2} {f : D → D → Eta → Option D} (ho : OpR X (compareOp o) r) (hr : OpD g W r f) (ha : PE X a (tD g W ca)) (hb : PE X b (tD g W cb')) (hm : behindInMarks o b = false := by first | exact nomark _ | rfl) : PT X (.Compare a [o] [b] pos) (tB g W (cBl (cOp f ca cb'))) :=
  pt_weak (pt_cmpR ho ha hb hm) fun σ H Q h => bl_run (fun _ _ _ h => op_run hr h) h
theorem t_lt (ha : PE X a (tD g W ca)) (hb : PE X b (tD g W cb')) : PT X (.Compare a [.Lt] [b] pos) (tB g W (cBl (cOp fLt ca cb'))) := t_cmp op_lt (opd_I0 fun _ _ => vc_bl _) ha hb
theorem t_le (ha : PE X a (tD g W ca)) (hb : PE X b (tD g W cb')) : PT X (.Compare a [.LtE] [b] pos) (tB g W (cBl (cOp fLe ca cb'))) := t_cmp op_le (opd_I0 fun _ _ => vc_bl _) ha hb
theorem t_gt (ha : PE X a (tD g W ca)) (hb : PE X b (tD g W cb')) : PT X (.Compare a [.Gt] [b] pos) (tB g W (cBl (cOp fGt ca cb'))) := t_cmp op_gt (opd_I0 fun _ _ => vc_bl _) ha hb
theorem t_ge (ha : PE X a (tD g W ca)) (hb : PE X b (tD g W cb')) : PT X (.Compare a [.GtE] [b] pos) (tB g W (cBl (cOp fGe ca cb'))) := t_cmp op_ge (opd_I0 fun _ _ => vc_bl _) ha hb
theorem t_eq (z : Cz g X W k) (ha : PE X a (tD g W ca)) (hb : PE X b (tD g W cb')) : PT X (.Compare a [.Eq] [b] pos) (tB g W (cBl (cOp fEq ca cb'))) := t_cmp (op_eq.or (op_eqD z.rm.r.units)) (by rw [z.K]; exact opd_eq) ha hb
theorem t_ne (z : Cz g X W k) (ha : PE X a (tD g W ca)) (hb : PE X b (tD g W cb')) : PT X (.Compare a [.NotEq] [b] pos) (tB g W (cBl (cOp fNe ca cb'))) := t_cmp (op_ne.or (op_neD z.rm.r.units)) (by rw [z.K]; exact opd_ne) ha hb
end
/-- is None, is not None -/
def isNonD : D → Bool
  | .non => true
  | _ => false
def fIsN (x y : D) (_ : Eta) : Option D := match y with | .non => some (.bl (isNonD x)) | _ => none
def fNotN (x y : D) (_ : Eta) : Option D := match y with | .non => some (.bl !(isNonD x)) | _ => none
theorem isNonD_ok {g : G} {Hb : Hp} {m : List Addr} {d : D} {v : V} (k : VD g Hb m d v) : decide (v = .non) = isNonD d := by
  cases d with
  | non => subst k; rfl
  | bl b => subst k; rfl
  | int b => subst k; rfl
  | str b => subst k; rfl
  | lst _ => obtain ⟨a, vs, e, _⟩ := k; subst e; rfl
  | tup _ => obtain ⟨a, vs, e, _⟩ := k; subst e; rfl
  | obj _ _ => obtain ⟨a, vs, _, e, _⟩ := k; subst e; rfl
  | ref _ => obtain ⟨a, e, _⟩ := k; subst e; rfl
section
variable {g : G} {W : WE} {X : Cx} {k : Nat} {a b c : Expr} {pos : Pos} {ca cb' cc : CE}
theorem opd_isN : OpD g W (fun x y H Q => y = .non ∧ Q (.bl (decide (x = .non))) H) fIsN := by
  intro x y z v u eta F Hb m H Q e rh vx vy q
  unfold fIsN at e
  split at e
  · cases e
    exact ⟨vy, by rw [isNonD_ok vx]; exact q _ _ Hb rh Gr.refl rfl⟩
  · cases e
theorem opd_notN : OpD g W (fun x y H Q => y = .non ∧ Q (.bl (!decide (x = .non))) H) fNotN := by
  intro x y z v u eta F Hb m H Q e rh vx vy q
  unfold fNotN at e
  split at e
  · cases e
    exact ⟨vy, by rw [isNonD_ok vx]; exact q _ _ Hb rh Gr.refl rfl⟩
  · cases e
theorem d_isN (ha : PE X a (tD g W ca)) (hb : PE X b (tD g W cb')) : PE X (.Compare a [.Is] [b] pos) (tD g W (cOp fIsN ca cb')) := d_cmp op_isN opd_isN ha hb
theorem d_notN (ha : PE X a (tD g W ca)) (hb : PE X b (tD g W cb')) : PE X (.Compare a [.IsNot] [b] pos) (tD g W (cOp fNotN ca cb')) := d_cmp op_notN opd_notN ha hb
theorem t_isN (ha : PE X a (tD g W ca)) (hb : PE X b (tD g W cb')) : PT X (.Compare a [.Is] [b] pos) (tB g W (cBl (cOp fIsN ca cb'))) := t_cmp op_isN opd_isN ha hb
theorem t_notN (ha : PE X a (tD g W ca)) (hb : PE X b (tD g W cb')) : PT X (.Compare a [.IsNot] [b] pos) (tB g W (cBl (cOp fNotN ca cb'))) := t_cmp op_notN opd_notN ha hb
end
/-! ### a chain of two comparisons -/
def cChain (f f' : D → D → Eta → Option D) (ca cb' cc : CE) : CE := cb ca fun x => cb cb' fun y rho eta => match f x y eta with
  | some (.bl true) => cb cc (fun w _ eta1 => match f' y w eta1 with | some z => .ok z eta1 | none => .stuck) rho eta
  | some (.bl false) => .ok (.bl false) eta
  | _ => .stuck
section
variable {g : G} {W : WE} {X : Cx} {k : Nat} {a b c : Expr} {pos : Pos} {ca cb' cc : CE} {r r' : R2} {f f' : D → D → Eta → Option D} {o o' : CmpOp}
theorem chain_run (hr : OpD g W r f) (hr' : OpD g W r' f') {σ : L2.St} {H : Hp} {Q : VK} (h : tD g W (cChain f f' ca cb' cc) σ H Q) : tChain r r' (tD g W ca) (tD g W cb') (tD g W cc) σ H Q := by
  obtain ⟨rho, eta, F, Hb, m, rh, rs, po⟩ := h
  refine ⟨rho, eta, F, Hb, m, rh, rs, Post.bind po fun x eta1 v H1 Hb1 m1 _ rh1 g1 vx po1 => ?_⟩
  refine ⟨rho, eta1, F, Hb1, m1, rh1, rs.mono g1, Post.bind po1 fun y eta2 u H2 Hb2 m2 _ rh2 g2 vy po2 => ?_⟩
  revert po2
  cases e : f x y eta2 with
  | none => exact fun z => z.elim
  | some z =>
    cases z with
    | bl q =>
      intro po2
      refine hr x y (.bl q) v u eta2 F Hb2 m2 H2 _ e rh2 (VD.mono g2 _ _ vx) vy fun w H3 Hb3 rh3 g3 vw => ?_
      obtain rfl : w = V.bl q := vw
      refine ⟨q, rfl, ?_⟩
      have rs3 := ((rs.mono g1).mono g2).mono g3
      cases q with
      | false => exact iteF (po2 _ _ _ _ rh3 g3 rfl)
      | true =>
        refine iteT ⟨rho, eta2, F, Hb3, m2, rh3, rs3, Post.bind (po2.grow g3) fun d eta4 w H4 Hb4 m4 _ rh4 g4 vd po4 => ?_⟩
        revert po4
        cases e4 : f' y d eta4 with
        | none => exact fun z => z.elim
        | some z => exact fun po4 => hr' y d z u w eta4 F Hb4 m4 H4 Q e4 rh4 (VD.mono (g3.trans g4) _ _ vy) vd fun w' H' Hb' r1 r2 r3 => po4 w' H' Hb' m4 r1 r2 r3
    | non => exact fun z => z.elim
    | int _ => exact fun z => z.elim
    | str _ => exact fun z => z.elim
    | lst _ => exact fun z => z.elim
    | tup _ => exact fun z => z.elim
    | obj _ _ => exact fun z => z.elim
    | ref _ => exact fun z => z.elim
theorem d_chain (ho : OpR X (compareOp o) r) (ho' : OpR X (compareOp o') r') (hr : OpD g W r f) (hr' : OpD g W r' f') (ha : PE X a (tD g W ca)) (hb : PE X b (tD g W cb')) (hc : PE X c (tD g W cc))
    (hm : lastMarks [o, o'] [b, c] = false := by with_unfolding_all rfl) : PE X (.Compare a [o, o'] [b, c] pos) (tD g W (cChain f f' ca cb' cc)) := pe_weak (pe_chain ho ho' ha hb hc hm) fun σ H Q h => chain_run hr hr' h
theorem t_chain (ho : OpR X (compareOp o) r) (ho' : OpR X (compareOp o') r') (hr : OpD g W r f) (hr' : OpD g W r' f') (ha : PE X a (tD g W ca)) (hb : PE X b (tD g W cb')) (hc : PE X c (tD g W cc))
    (hm : lastMarks [o, o'] [b, c] = false := by with_unfolding_all rfl) : PT X (.Compare a [o, o'] [b, c] pos) (tB g W (cBl (cChain f f' ca cb' cc))) := pt_weak (pt_chain ho ho' ha hb hc hm) fun σ H Q h => bl_run (fun _ _ _ h => chain_run hr hr' h) h
end
/-! ### and, or, not; if-else -/
def cAnd (c d : CT) : CT := cb c fun b rho eta => match b with | true => d rho eta | false => .ok false eta
def cOr (c d : CT) : CT := cb c fun b rho eta => match b with | true => .ok true eta | false => d rho eta
def cNot (c : CT) : CT := cb c fun b _ eta => .ok (!b) eta
def cAndV (c d : CE) : CE := cb c fun x rho eta => match x with | .bl true => d rho eta | .bl false => .ok (.bl false) eta | _ => .stuck
def cOrV (c d : CE) : CE := cb c fun x rho eta => match x with | .bl true => .ok (.bl true) eta | .bl false => d rho eta | _ => .stuck
def cNotV (c : CE) : CE := cb c fun x _ eta => match x with | .bl b => .ok (.bl !b) eta | _ => .stuck
def cIf {α : Type} (t : CT) (c d : Rho → Eta → Out α) : Rho → Eta → Out α := cb t fun b rho eta => match b with | true => c rho eta | false => d rho eta
section
variable {g : G} {W : WE} {X : Cx} {k : Nat} {a b c : Expr} {rest : List Expr} {pos : Pos} {ca cb' cc : CE} {ct cu : CT}
theorem w_and (ha : PT X a (tB g W ct)) (hb : PW X (.BoolOp .And (b :: rest) pos) (tB g W cu)) : PW X (.BoolOp .And (a :: b :: rest) pos) (tB g W (cAnd ct cu)) :=
  pw_weak (pw_and ha hb) fun σ H Q ⟨rho, eta, F, Hb, m, rh, rs, po⟩ => ⟨rho, eta, F, Hb, m, rh, rs, Post.bind po fun p eta1 q H1 Hb1 m1 _ rh1 g1 e po1 => by
    obtain rfl : p = q := e
    cases p with
    | true => exact iteT ⟨rho, eta1, F, Hb1, m1, rh1, rs.mono g1, po1⟩
    | false => exact iteF (po1 false H1 Hb1 m1 rh1 Gr.refl rfl)⟩
theorem w_or (ha : PT X a (tB g W ct)) (hb : PW X (.BoolOp .Or (b :: rest) pos) (tB g W cu)) : PW X (.BoolOp .Or (a :: b :: rest) pos) (tB g W (cOr ct cu)) :=
  pw_weak (pw_or ha hb) fun σ H Q ⟨rho, eta, F, Hb, m, rh, rs, po⟩ => ⟨rho, eta, F, Hb, m, rh, rs, Post.bind po fun p eta1 q H1 Hb1 m1 _ rh1 g1 e po1 => by
    obtain rfl : p = q := e
    cases p with
    | true => exact iteT (po1 true H1 Hb1 m1 rh1 Gr.refl rfl)
    | false => exact iteF ⟨rho, eta1, F, Hb1, m1, rh1, rs.mono g1, po1⟩⟩
theorem t_not (ha : PT X a (tB g W ct)) : PT X (.UnaryOp .Not a pos) (tB g W (cNot ct)) :=
  pt_weak (pt_not ha) fun σ H Q ⟨rho, eta, F, Hb, m, rh, rs, po⟩ => ⟨rho, eta, F, Hb, m, rh, rs, Post.bind po fun p eta1 q H1 Hb1 m1 _ rh1 g1 e po1 => by
    obtain rfl : p = q := e
    exact po1 (!p) H1 Hb1 m1 rh1 Gr.refl rfl⟩
theorem bl_cases {g : G} {Hb : Hp} {m : List Addr} {d : D} {v : V} (k : VD g Hb m d v) {P : Prop} (h : ∀ b, d = .bl b → v = .bl b → P) (n : (∀ b, d ≠ .bl b) → P) : P := by
  cases d with
  | bl b => exact h b rfl k
  | non => exact n fun _ z => nomatch z
  | int _ => exact n fun _ z => nomatch z
  | str _ => exact n fun _ z => nomatch z
  | lst _ => exact n fun _ z => nomatch z
  | tup _ => exact n fun _ z => nomatch z
  | obj _ _ => exact n fun _ z => nomatch z
  | ref _ => exact n fun _ z => nomatch z
theorem d_and (ha : PE X a (tD g W ca)) (hb : PE X (.BoolOp .And (b :: rest) pos) (tD g W cb')) : PE X (.BoolOp .And (a :: b :: rest) pos) (tD g W (cAndV ca cb')) :=
  pe_weak (pe_and ha hb) fun σ H Q ⟨rho, eta, F, Hb, m, rh, rs, po⟩ => ⟨rho, eta, F, Hb, m, rh, rs, Post.bind po fun d eta1 v H1 Hb1 m1 _ rh1 g1 vd po1 => by
    cases d with
    | bl p =>
      refine ⟨p, vd, ?_⟩
      cases p with
      | true => exact iteT ⟨rho, eta1, F, Hb1, m1, rh1, rs.mono g1, po1⟩
      | false => exact iteF (po1 (.bl false) H1 Hb1 m1 rh1 Gr.refl rfl)
    | non => exact po1.elim
    | int _ => exact po1.elim
    | str _ => exact po1.elim
    | lst _ => exact po1.elim
    | tup _ => exact po1.elim
    | obj _ _ => exact po1.elim
    | ref _ => exact po1.elim⟩
theorem d_or (ha : PE X a (tD g W ca)) (hb : PE X (.BoolOp .Or (b :: rest) pos) (tD g W cb')) : PE X (.BoolOp .Or (a :: b :: rest) pos) (tD g W (cOrV ca cb')) :=
  pe_weak (pe_or ha hb) fun σ H Q ⟨rho, eta, F, Hb, m, rh, rs, po⟩ => ⟨rho, eta, F, Hb, m, rh, rs, Post.bind po fun d eta1 v H1 Hb1 m1 _ rh1 g1 vd po1 => by
    cases d with
    | bl p =>
      refine ⟨p, vd, ?_⟩
      cases p with
      | true => exact iteT (po1 (.bl true) H1 Hb1 m1 rh1 Gr.refl rfl)
      | false => exact iteF ⟨rho, eta1, F, Hb1, m1, rh1, rs.mono g1, po1⟩
    | non => exact po1.elim
    | int _ => exact po1.elim
    | str _ => exact po1.elim
    | lst _ => exact po1.elim
    | tup _ => exact po1.elim
    | obj _ _ => exact po1.elim
    | ref _ => exact po1.elim⟩
theorem d_not (ha : PE X a (tD g W ca)) : PE X (.UnaryOp .Not a pos) (tD g W (cNotV ca)) :=
  pe_weak (pe_not ha) fun σ H Q ⟨rho, eta, F, Hb, m, rh, rs, po⟩ => ⟨rho, eta, F, Hb, m, rh, rs, Post.bind po fun d eta1 v H1 Hb1 m1 _ rh1 g1 vd po1 => by
    cases d with
    | bl p => exact ⟨p, vd, po1 (.bl !p) H1 Hb1 m1 rh1 Gr.refl rfl⟩
    | non => exact po1.elim
    | int _ => exact po1.elim
    | str _ => exact po1.elim
    | lst _ => exact po1.elim
    | tup _ => exact po1.elim
    | obj _ _ => exact po1.elim
    | ref _ => exact po1.elim⟩
theorem d_if (hc : PT X c (tB g W ct)) (ha : PE X a (tD g W ca)) (hb : PE X b (tD g W cb')) : PE X (.IfExp c a b pos) (tD g W (cIf ct ca cb')) :=
  pe_weak (pe_ifExp hc ha hb) fun σ H Q ⟨rho, eta, F, Hb, m, rh, rs, po⟩ => ⟨rho, eta, F, Hb, m, rh, rs, Post.bind po fun p eta1 q H1 Hb1 m1 _ rh1 g1 e po1 => by
    obtain rfl : p = q := e
    cases p with
    | true => exact iteT ⟨rho, eta1, F, Hb1, m1, rh1, rs.mono g1, po1⟩
    | false => exact iteF ⟨rho, eta1, F, Hb1, m1, rh1, rs.mono g1, po1⟩⟩
end
/-! ### displays -/
def cNil : CA := fun _ eta => .ok [] eta
def cCons (c : CE) (r : CA) : CA := cb c fun d => cb r fun ds _ eta => .ok (d :: ds) eta
def cTup (c : CA) : CE := cb c fun ds _ eta => if ds.length ≤ lineB then .ok (.tup ds) eta else .stuck
def cLst (c : CA) : CE := cb c fun ds _ eta => if ds.length ≤ lineB then .ok (.lst ds) eta else .stuck
/-- a list of the caller's own, that may change -/
def cNew (c : CA) : CE := cb c fun ds _ eta => if ds.length ≤ lineB then .ok (.ref eta.length) (eta ++ [.lst ds]) else .stuck
section
variable {g : G} {W : WE} {X : Cx} {k : Nat} {e : Expr} {es : List Expr} {pos : Pos} {ca : CE} {cs : CA} {kws : List Keyword} {nm : Option Str} {kpos : Pos}
theorem run_nil {σ : L2.St} {H : Hp} {Q : List V → Hp → Prop} (h : tA g W cNil σ H Q) : tNil σ H Q := by
  obtain ⟨rho, eta, F, Hb, m, rh, rs, po⟩ := h
  exact po [] H Hb m rh Gr.refl rfl
theorem run_cons {σ : L2.St} {H : Hp} {Q : List V → Hp → Prop} (h : tA g W (cCons ca cs) σ H Q) : tCons (tD g W ca) (tA g W cs) σ H Q := by
  obtain ⟨rho, eta, F, Hb, m, rh, rs, po⟩ := h
  refine ⟨rho, eta, F, Hb, m, rh, rs, Post.bind po fun d eta1 v H1 Hb1 m1 _ rh1 g1 vd po1 => ?_⟩
  refine ⟨rho, eta1, F, Hb1, m1, rh1, rs.mono g1, Post.bind po1 fun ds eta2 vs H2 Hb2 m2 _ rh2 g2 vds po2 => ?_⟩
  exact po2 (v :: vs) H2 Hb2 m2 rh2 Gr.refl ⟨v, vs, rfl, VD.mono g2 _ _ vd, vds⟩
theorem a_nil : PA X [] (tA g W cNil) := pa_weak pa_nil fun _ _ _ h => run_nil h
theorem a_cons (ha : PE X e (tD g W ca)) (hr : PA X es (tA g W cs)) (hs : starEach (e :: es) X.env = (false, eval e X.env) :: starEach es X.env := by rfl) : PA X (e :: es) (tA g W (cCons ca cs)) := pa_weak (pa_cons ha hr hs) fun _ _ _ h => run_cons h
theorem k_nil : PK X [] (tA g W cNil) := pk_weak pk_nil fun _ _ _ h => run_nil h
theorem k_cons (ha : PE X e (tD g W ca)) (hr : PK X kws (tA g W cs)) : PK X (⟨nm, e, kpos⟩ :: kws) (tA g W (cCons ca cs)) := pk_weak (pk_cons ha hr) fun _ _ _ h => run_cons h
theorem d_tup {x1} (h : PA X es (tA g W cs)) : PE X (.Tuple es x1 pos) (tD g W (cTup cs)) :=
  pe_weak (pe_tup h) fun σ H Q ⟨rho, eta, F, Hb, m, rh, rs, po⟩ => ⟨rho, eta, F, Hb, m, rh, rs, Post.bind po fun ds eta1 vs H1 Hb1 m1 _ rh1 g1 vd po1 => by
    revert po1
    split
    · rename_i hl
      intro po1
      refine ⟨by rw [← vd.length]; exact lineB_ok hl, fun p hp => ?_⟩
      obtain ⟨rh2, g2⟩ := rh1.pure (o := .tup vs) hp
      exact po1 _ _ _ _ rh2 g2 ⟨p, vs, rfl, .inl (.inl upd_same), VDs.mono g2 _ _ vd⟩
    · exact fun z => z.elim⟩
theorem d_lst (h : PA X es (tA g W cs)) : PE X (.List es pos) (tD g W (cLst cs)) :=
  pe_weak (pe_lst h) fun σ H Q ⟨rho, eta, F, Hb, m, rh, rs, po⟩ => ⟨rho, eta, F, Hb, m, rh, rs, Post.bind po fun ds eta1 vs H1 Hb1 m1 _ rh1 g1 vd po1 => by
    revert po1
    split
    · rename_i hl
      intro po1
      refine ⟨by rw [← vd.length]; exact lineB_ok hl, fun p hp => ?_⟩
      obtain ⟨rh2, g2⟩ := rh1.pure (o := .lst vs) hp
      exact po1 _ _ _ _ rh2 g2 ⟨p, vs, rfl, .inl upd_same, VDs.mono g2 _ _ vd⟩
    · exact fun z => z.elim⟩
theorem RelH.own_new {F Hb H : Hp} {m : List Addr} {eta : Eta} (r : RelH g F Hb m eta H) {p : Addr} {ds : List D} {vs : List V} (hp : H p = none) (vd : VDs g Hb m ds vs) : RelH g F Hb (m ++ [p]) (eta ++ [.lst ds]) (upd H p (.lst vs)) ∧ Gr Hb m Hb (m ++ [p]) ∧ VD g Hb (m ++ [p]) (.ref eta.length) (.ref p) := by
  have gr : Gr Hb m Hb (m ++ [p]) := ⟨Same.refl _, fun i a h => by rw [List.getElem?_append_left (List.getElem?_eq_some_iff.mp h).1]; exact h⟩
  obtain ⟨r1, r2⟩ := r.fresh (o := .lst vs) (u := .lst ds) hp ⟨vs, upd_same, VDs.mono gr _ _ vd⟩
  refine ⟨r1, r2, p, rfl, ?_⟩
  rw [← r.len, List.getElem?_append_right (Nat.le_refl _)]
  simp
theorem d_new (h : PA X es (tA g W cs)) : PE X (.List es pos) (tD g W (cNew cs)) :=
  pe_weak (pe_lst h) fun σ H Q ⟨rho, eta, F, Hb, m, rh, rs, po⟩ => ⟨rho, eta, F, Hb, m, rh, rs, Post.bind po fun ds eta1 vs H1 Hb1 m1 _ rh1 g1 vd po1 => by
    revert po1
    split
    · rename_i hl
      intro po1
      refine ⟨by rw [← vd.length]; exact lineB_ok hl, fun p hp => ?_⟩
      obtain ⟨rh2, g2, k2⟩ := rh1.own_new hp vd
      exact po1 _ _ _ _ rh2 g2 k2
    · exact fun z => z.elim⟩
end
end Gh
namespace Gh
open PySem PySem.Spec PyProof.Rows L2
theorem VDs.at {g : G} {Hb : Hp} {m : List Addr} {ds : List D} {vs : List V} {i : Int} {d : D} (h : VDs g Hb m ds vs) (e : atI ds i = some d) : ∃ v, atI vs i = some v ∧ VD g Hb m d v := by
  unfold atI at e ⊢
  rw [← h.length]
  cases q : ixN ds.length i with
  | none => rw [q] at e; cases e
  | some j =>
    rw [q] at e
    obtain ⟨v, e1, e2⟩ := h.get (i := j) e
    exact ⟨v, e1, e2⟩
/-! ### subscripts -/
def fIx (x y : D) (eta : Eta) : Option D := match y with
  | .int i => (match x with
    | .str s => if s.length ≤ lineB then (atI s.cps.toList i).map (fun c => .str ⟨#[c]⟩) else none
    | x => (seqA eta x).bind fun ds => atI ds i)
  | _ => none
section
variable {g : G} {W : WE} {X : Cx} {k : Nat} {a b : Expr} {pos p2 : Pos} {ca cb' : CE}
theorem opd_ix : OpD g W (rIx g.K) fIx := by
  intro x y z v u eta F Hb m H Q e rh vx vy q
  have gen : ∀ i ds, seqA eta x = some ds → atI ds i = some z → u = .int i → rIx g.K v u H Q := by
    intro i ds e1 e2 eu
    subst eu
    obtain ⟨p, vs, rfl, h1, k1⟩ := seqA_ok e1 rh vx
    obtain ⟨w, ew, kw⟩ := k1.at e2
    rcases h1 with h1 | h1
    · exact .inl ⟨p, vs, i, w, rfl, rfl, h1, ew, q _ _ Hb rh Gr.refl kw⟩
    · exact .inr (.inl ⟨p, vs, i, w, rfl, rfl, h1, ew, q _ _ Hb rh Gr.refl kw⟩)
  unfold fIx at e
  split at e
  · rename_i i
    split at e
    · rename_i s
      split at e
      · rename_i hl
        obtain ⟨c, e1, rfl⟩ := Option.map_eq_some_iff.mp e
        subst vx
        exact .inr (.inr ⟨s, i, c, rfl, vy, lineB_ok hl, e1, q _ _ Hb rh Gr.refl rfl⟩)
      · cases e
    · obtain ⟨ds, e1, e2⟩ := Option.bind_eq_some_iff.mp e
      exact gen i ds e1 e2 vy
  · cases e
theorem d_ix (z : Cz g X W k) (ha : PE X a (tD g W ca)) (hb : PE X b (tD g W cb')) (hs : PlainIx b := by intro _ _; rfl) : PE X (.Subscript a b pos) (tD g W (cOp fIx ca cb')) :=
  pe_weak (pe_ix ix_seq ha hb hs) fun σ H Q h => op_run (by rw [z.K]; exact opd_ix) h
end
/-! ### slices -/
abbrev CO := Rho → Eta → Out (Option Int)
def relO : Hp → List Addr → Option Int → Option Int → Prop := fun _ _ a b => a = b
def tO' (g : G) (W : WE) (c : CO) : TO := tG g W relO c
def cNo : CO := fun _ eta => .ok none eta
def cSo (c : CE) : CO := cb c fun d _ eta => match d with | .int i => .ok (some i) eta | _ => .stuck
def cutD (ds : List D) (lo hi : Option Int) : List D := (ds.drop (HT.sIx ds.length 0 lo)).take (HT.sIx ds.length ds.length hi - HT.sIx ds.length 0 lo)
def cSl (c : CE) (l h : CO) : CE := cb c fun d => cb l fun lo => cb h fun hi _ eta => match d with
  | .tup ds => .ok (.tup (cutD ds lo hi)) eta
  | d => match seqL eta d with | some ds => .ok (.lst (cutD ds lo hi)) eta | none => .stuck
theorem po_weak {X : Cx} {e : Option Expr} {t t' : TO} (h : PO X e t) (w : ∀ σ H Q, t' σ H Q → t σ H Q) : PO X e t' := ⟨fun pins s σ H Q I q => h.run pins s σ H Q I (w σ H Q q)⟩
theorem cutD_ok {g : G} {Hb : Hp} {m : List Addr} {ds : List D} {vs : List V} {lo hi : Option Int} (h : VDs g Hb m ds vs) : VDs g Hb m (cutD ds lo hi) (cutV vs lo hi) := by
  unfold cutD cutV
  rw [h.length]
  exact (h.drop _).take _
def rSlD (K : PySem.W.Frag) : V → Option Int → Option Int → Hp → VK → Prop := fun x lo hi H Q => rSlL K x lo hi H Q ∨ rSlA K x lo hi H Q
section
variable {g : G} {W : WE} {X : Cx} {k : Nat} {a e : Expr} {lo hi : Option Expr} {pos p2 : Pos} {ca : CE} {cl ch : CO}
theorem sl_both : SlR X (rSlD X.K) := by
  intro pins s σ H x v vl vu l h sl Q I rx hs pl pu hh
  rcases hh with hh | hh
  · exact sl_list pins s σ H x v vl vu l h sl Q I rx hs pl pu hh
  · exact sl_tupA pins s σ H x v vl vu l h sl Q I rx hs pl pu hh
theorem o_no : PO X none (tO' g W cNo) := po_weak po_none fun σ H Q ⟨rho, eta, F, Hb, m, rh, rs, po⟩ => po none H Hb m rh Gr.refl rfl
theorem o_so (h : PE X e (tD g W ca)) : PO X (some e) (tO' g W (cSo ca)) := po_weak (po_some h) fun σ H Q ⟨rho, eta, F, Hb, m, rh, rs, po⟩ => ⟨rho, eta, F, Hb, m, rh, rs, Post.bind po fun d eta1 v H1 Hb1 m1 _ rh1 g1 vd po1 => by
  cases d with
  | int i => exact ⟨i, vd, po1 (some i) H1 Hb1 m1 rh1 Gr.refl rfl⟩
  | bl _ => exact po1.elim
  | non => exact po1.elim
  | str _ => exact po1.elim
  | lst _ => exact po1.elim
  | tup _ => exact po1.elim
  | obj _ _ => exact po1.elim
  | ref _ => exact po1.elim⟩
theorem d_sl (z : Cz g X W k) (ha : PE X a (tD g W ca)) (hl : PO X lo (tO' g W cl)) (hh : PO X hi (tO' g W ch)) : PE X (.Subscript a (.Slice lo hi none p2) pos) (tD g W (cSl ca cl ch)) :=
  pe_weak (pe_slice sl_both ha hl hh) fun σ H Q ⟨rho, eta, F, Hb, m, rh, rs, po⟩ => ⟨rho, eta, F, Hb, m, rh, rs, Post.bind po fun d eta1 v H1 Hb1 m1 _ rh1 g1 vd po1 =>
    ⟨rho, eta1, F, Hb1, m1, rh1, rs.mono g1, Post.bind po1 fun l eta2 l' H2 Hb2 m2 _ rh2 g2 el po2 =>
      ⟨rho, eta2, F, Hb2, m2, rh2, (rs.mono g1).mono g2, Post.bind po2 fun h eta3 h' H3 Hb3 m3 _ rh3 g3 eh po3 => by
        obtain rfl : l = l' := el
        obtain rfl : h = h' := eh
        have vd3 := VD.mono (g2.trans g3) _ _ vd
        have lists : ∀ ds, seqL eta3 d = some ds → Post g W (relD g) F σ Hb3 m3 (.ok (.lst (cutD ds l h)) eta3) Q → rSlD X.K v l h H3 Q := by
          intro ds e po4
          obtain ⟨p, vs, rfl, h1, k1⟩ := seqL_ok e rh3 vd3
          refine .inl ⟨p, vs, rfl, .inl h1, fun pp hp => ?_⟩
          obtain ⟨rh', gr⟩ := rh3.pure (o := .lst (cutV vs l h)) hp
          exact po4 _ _ _ _ rh' gr ⟨pp, _, rfl, .inl upd_same, VDs.mono gr _ _ (cutD_ok k1)⟩
        revert po3
        split
        · rename_i ds _
          intro po3
          obtain ⟨p, vs, rfl, h1, k1⟩ := seqT_ok (d := .tup ds) rfl rh3 vd3
          refine .inr ⟨p, vs, rfl, z.K ▸ h1, fun hw => ?_, fun _ pp hp => ?_⟩
          · have e : cutD ds l h = ds := by
              unfold cutD
              rw [k1.length, hw.1, hw.2, List.drop_zero, Nat.sub_zero, ← k1.length, List.take_length]
            rw [e] at po3
            exact po3 _ _ _ _ rh3 Gr.refl vd3
          · obtain ⟨rh', gr⟩ := rh3.pure (o := .tup (cutV vs l h)) hp
            exact po3 _ _ _ _ rh' gr ⟨pp, _, rfl, .inl (.inl upd_same), VDs.mono gr _ _ (cutD_ok k1)⟩
        · split
          · rename_i ds e
            exact lists ds e
          · exact fun h => h.elim⟩⟩⟩
end
/-! ### built-in functions on values -/
def CallD (g : G) (W : WE) (r : List V → Hp → VK → Prop) (f : List D → Eta → Option D) : Prop := ∀ (ds : List D) (z : D) (vs : List V) (eta : Eta) (F Hb : Hp) (m : List Addr) (H : Hp) (Q : VK), f ds eta = some z → RelH g F Hb m eta H → VDs g Hb m ds vs →
  (∀ w H' Hb', RelH g F Hb' m eta H' → Gr Hb m Hb' m → VD g Hb' m z w → Q w H') → r vs H Q
def cCall (f : List D → Eta → Option D) (cs : CA) : CE := cb cs fun ds _ eta => match f ds eta with | some z => .ok z eta | none => .stuck
section
variable {g : G} {W : WE} {X : Cx} {k : Nat} {x : Str} {p pos : Pos} {e : Expr} {es : List Expr} {cs : CA} {id T : String} {r : List V → Hp → VK → Prop} {f : List D → Eta → Option D}
theorem call_run (hr : CallD g W r f) {σ : L2.St} {H : Hp} {Q : VK} (h : tD g W (cCall f cs) σ H Q) : tCB r (tA g W cs) σ H Q := by
  obtain ⟨rho, eta, F, Hb, m, rh, rs, po⟩ := h
  refine ⟨rho, eta, F, Hb, m, rh, rs, Post.bind po fun ds eta1 vs H1 Hb1 m1 _ rh1 g1 vd po1 => ?_⟩
  revert po1
  cases q : f ds eta1 with
  | none => exact fun z => z.elim
  | some z => exact fun po1 => hr ds z vs eta1 F Hb1 m1 H1 Q q rh1 vd fun w H' Hb' r1 r2 r3 => po1 w H' Hb' m1 r1 r2 r3
theorem d_callB (hc : CallR X (.builtin id) r) (hr : CallD g W r f) (hm : X.mg x = none) (hv : bootBuiltins x = some (.builtin id)) (ha : PA X (e :: es) (tA g W cs)) (hg : Gl X x := by rfl) (hn : x ≠ "__name__" := by decide) (hdb : (x == ("__debug__" : Str)) = false := by decide)
    (he : starEach (e :: es) X.env = (false, eval e X.env) :: starEach es X.env := by rfl) (hpl : (backTo pos (starEach es X.env)).any (·.1) = false := by rfl) : PE X (.Call (.Name x p) (e :: es) [] pos) (tD g W (cCall f cs)) :=
  pe_weak (pe_callB hc hg hm hv ha hn hdb he hpl) fun σ H Q h => call_run hr h
theorem d_callT (hc : CallR X (.type T) r) (hr : CallD g W r f) (hm : X.mg x = none) (hv : bootBuiltins x = some (.type T)) (ha : PA X (e :: es) (tA g W cs)) (hg : Gl X x := by rfl) (hn : x ≠ "__name__" := by decide) (hdb : (x == ("__debug__" : Str)) = false := by decide)
    (he : starEach (e :: es) X.env = (false, eval e X.env) :: starEach es X.env := by rfl) (hpl : (backTo pos (starEach es X.env)).any (·.1) = false := by rfl) : PE X (.Call (.Name x p) (e :: es) [] pos) (tD g W (cCall f cs)) :=
  pe_weak (pe_callTy hc hg hm hv ha hn hdb he hpl) fun σ H Q h => call_run hr h
theorem d_callM (hc : CallR X (.builtin id) r) (hr : CallD g W r f) (hm : X.mg x = some (.builtin id)) (ha : PA X (e :: es) (tA g W cs)) (hg : Gl X x := by rfl) (hdb : (x == ("__debug__" : Str)) = false := by decide)
    (he : starEach (e :: es) X.env = (false, eval e X.env) :: starEach es X.env := by rfl) (hpl : (backTo pos (starEach es X.env)).any (·.1) = false := by rfl) : PE X (.Call (.Name x p) (e :: es) [] pos) (tD g W (cCall f cs)) :=
  pe_weak (pe_callBfun hc hg hm ha hdb he hpl) fun σ H Q h => call_run hr h
end
def bLen (ds : List D) (eta : Eta) : Option D := match ds with
  | [.str s] => if s.length ≤ lineB then some (.int s.length) else none
  | [d] => (seqA eta d).map fun ds => .int ds.length
  | _ => none
def bAbs (ds : List D) (_ : Eta) : Option D := match ds with | [.int i] => some (.int (if i < 0 then -i else i)) | _ => none
def bInt (ds : List D) (_ : Eta) : Option D := match ds with | [.int i] => some (.int i) | [.bl b] => some (.int (if b then 1 else 0)) | _ => none
def bMax2 (ds : List D) (_ : Eta) : Option D := match ds with | [.int i, .int j] => some (.int (if j > i then j else i)) | _ => none
def bMin2 (ds : List D) (_ : Eta) : Option D := match ds with | [.int i, .int j] => some (.int (if j < i then j else i)) | _ => none
def bGcd (ds : List D) (_ : Eta) : Option D := match ds with | [.int i, .int j] => some (.int (Nat.gcd i.natAbs j.natAbs : Nat)) | _ => none
def intsD : List D → Option (List Int)
  | [] => some []
  | .int i :: r => (intsD r).map (i :: ·)
  | _ => none
def blsD : List D → Option (List Bool)
  | [] => some []
  | .bl i :: r => (blsD r).map (i :: ·)
  | _ => none
theorem intsD_ok {g : G} {Hb : Hp} {m : List Addr} : ∀ {ds : List D} {ns : List Int} {vs : List V}, intsD ds = some ns → VDs g Hb m ds vs → vs = ns.map V.int
  | [], ns, vs, h, k => by cases h; subst k; rfl
  | .int i :: r, ns, vs, h, ⟨v, q, e, h1, h2⟩ => by
    obtain ⟨ms, e1, e2⟩ := Option.map_eq_some_iff.mp h
    subst e2 e h1
    rw [intsD_ok e1 h2]
    rfl
  | .non :: r, _, _, h, _ => by cases h
  | .bl _ :: r, _, _, h, _ => by cases h
  | .str _ :: r, _, _, h, _ => by cases h
  | .lst _ :: r, _, _, h, _ => by cases h
  | .tup _ :: r, _, _, h, _ => by cases h
  | .obj _ _ :: r, _, _, h, _ => by cases h
  | .ref _ :: r, _, _, h, _ => by cases h
theorem blsD_ok {g : G} {Hb : Hp} {m : List Addr} : ∀ {ds : List D} {ns : List Bool} {vs : List V}, blsD ds = some ns → VDs g Hb m ds vs → vs = ns.map V.bl
  | [], ns, vs, h, k => by cases h; subst k; rfl
  | .bl i :: r, ns, vs, h, ⟨v, q, e, h1, h2⟩ => by
    obtain ⟨ms, e1, e2⟩ := Option.map_eq_some_iff.mp h
    subst e2 e h1
    rw [blsD_ok e1 h2]
    rfl
  | .non :: r, _, _, h, _ => by cases h
  | .int _ :: r, _, _, h, _ => by cases h
  | .str _ :: r, _, _, h, _ => by cases h
  | .lst _ :: r, _, _, h, _ => by cases h
  | .tup _ :: r, _, _, h, _ => by cases h
  | .obj _ _ :: r, _, _, h, _ => by cases h
  | .ref _ :: r, _, _, h, _ => by cases h
/-- the least, the greatest of ints -/
def leastI : Int → List Int → Int
  | a, [] => a
  | a, b :: r => leastI (if b < a then b else a) r
def mostI : Int → List Int → Int
  | a, [] => a
  | a, b :: r => mostI (if a < b then b else a) r
theorem leastI_spec : ∀ (r : List Int) (a : Int), leastI a r ∈ a :: r ∧ ∀ y ∈ a :: r, leastI a r ≤ y
  | [], a => ⟨by simp [leastI], by simp [leastI]⟩
  | b :: r, a => by
    obtain ⟨h1, h2⟩ := leastI_spec r (if b < a then b else a)
    unfold leastI
    by_cases c : b < a
    · rw [if_pos c] at h1 h2 ⊢
      refine ⟨List.mem_cons_of_mem _ h1, fun y hy => ?_⟩
      rcases List.mem_cons.mp hy with e | hy
      · have := h2 b List.mem_cons_self; omega
      · exact h2 y hy
    · rw [if_neg c] at h1 h2 ⊢
      refine ⟨?_, fun y hy => ?_⟩
      · rcases List.mem_cons.mp h1 with e | h
        · rw [e]; exact List.mem_cons_self
        · exact List.mem_cons_of_mem _ (List.mem_cons_of_mem _ h)
      · rcases List.mem_cons.mp hy with e | hy
        · rw [e]; exact h2 a List.mem_cons_self
        · rcases List.mem_cons.mp hy with e | hy
          · have := h2 a List.mem_cons_self; omega
          · exact h2 y (List.mem_cons_of_mem _ hy)
theorem mostI_spec : ∀ (r : List Int) (a : Int), mostI a r ∈ a :: r ∧ ∀ y ∈ a :: r, y ≤ mostI a r
  | [], a => ⟨by simp [mostI], by simp [mostI]⟩
  | b :: r, a => by
    obtain ⟨h1, h2⟩ := mostI_spec r (if a < b then b else a)
    unfold mostI
    by_cases c : a < b
    · rw [if_pos c] at h1 h2 ⊢
      refine ⟨List.mem_cons_of_mem _ h1, fun y hy => ?_⟩
      rcases List.mem_cons.mp hy with e | hy
      · have := h2 b List.mem_cons_self; omega
      · exact h2 y hy
    · rw [if_neg c] at h1 h2 ⊢
      refine ⟨?_, fun y hy => ?_⟩
      · rcases List.mem_cons.mp h1 with e | h
        · rw [e]; exact List.mem_cons_self
        · exact List.mem_cons_of_mem _ (List.mem_cons_of_mem _ h)
      · rcases List.mem_cons.mp hy with e | hy
        · rw [e]; exact h2 a List.mem_cons_self
        · rcases List.mem_cons.mp hy with e | hy
          · have := h2 a List.mem_cons_self; omega
          · exact h2 y (List.mem_cons_of_mem _ hy)
def pickMin : List Int → Option D
  | [] => none
  | a :: r => some (.int (leastI a r))
def bMinL (ds : List D) (eta : Eta) : Option D := match ds with | [d] => (seqL eta d).bind fun es => (intsD es).bind pickMin | _ => none
def pickMax : List Int → Option D
  | [] => none
  | a :: r => some (.int (mostI a r))
def bMaxL (ds : List D) (eta : Eta) : Option D := match ds with | [d] => (seqL eta d).bind fun es => (intsD es).bind pickMax | _ => none
def bSum (ds : List D) (eta : Eta) : Option D := match ds with | [d] => (seqL eta d).bind fun es => (intsD es).map fun ns => .int ns.sum | _ => none
def bAll (ds : List D) (eta : Eta) : Option D := match ds with | [d] => (seqL eta d).bind fun es => (blsD es).map fun ns => .bl (ns.all id) | _ => none
def bAny (ds : List D) (eta : Eta) : Option D := match ds with | [d] => (seqL eta d).bind fun es => (blsD es).map fun ns => .bl (ns.any id) | _ => none
def bList (ds : List D) (eta : Eta) : Option D := match ds with | [d] => (seqA eta d).map .lst | _ => none
def bTuple (ds : List D) (eta : Eta) : Option D := match ds with | [.tup ds] => some (.tup ds) | [d] => (seqL eta d).map .tup | _ => none
def okShow (p : PyData) : Bool := p.showable && !p.hasDict && decide (p.depth ≤ 60) && decide (p.shown.length ≤ lineB)
def bRepr (ds : List D) (eta : Eta) : Option D := match ds with | [d] => (py eta d).bind fun p => if okShow p then some (.str p.shown) else none | _ => none
theorem VDs.one {g : G} {Hb : Hp} {m : List Addr} {d : D} {vs : List V} (h : VDs g Hb m [d] vs) : ∃ v, vs = [v] ∧ VD g Hb m d v := by
  obtain ⟨v, r, e, h1, h2⟩ := h
  subst h2
  exact ⟨v, e, h1⟩
theorem VDs.two {g : G} {Hb : Hp} {m : List Addr} {d e : D} {vs : List V} (h : VDs g Hb m [d, e] vs) : ∃ v u, vs = [v, u] ∧ VD g Hb m d v ∧ VD g Hb m e u := by
  obtain ⟨v, r, e1, h1, h2⟩ := h
  obtain ⟨u, e2, h3⟩ := h2.one
  subst e2
  exact ⟨v, u, e1, h1, h3⟩
section
variable {g : G} {W : WE}
theorem cd_len : CallD g W (fun xs H Q => ∃ x n, xs = [x] ∧ LenV g.K x H n ∧ Q (.int n) H) bLen := by
  intro ds z vs eta F Hb m H Q e rh vd q
  unfold bLen at e
  split at e
  · rename_i s
    split at e
    · rename_i hl
      cases e
      obtain ⟨v, rfl, k⟩ := vd.one
      subst k
      exact ⟨.str s, s.length, rfl, ⟨lineB_ok hl, rfl⟩, q _ _ Hb rh Gr.refl rfl⟩
    · cases e
  · obtain ⟨es, e1, rfl⟩ := Option.map_eq_some_iff.mp e
    obtain ⟨v, rfl, k⟩ := vd.one
    obtain ⟨a, us, rfl, h1, k1⟩ := seqA_ok e1 rh k
    refine ⟨.ref a, us.length, rfl, ?_, q _ _ Hb rh Gr.refl (by rw [k1.length]; rfl)⟩
    rcases h1 with h1 | h1
    · exact .inl ⟨us, h1, rfl⟩
    · exact .inr ⟨us, h1, rfl⟩
  · cases e
theorem cd_abs : CallD g W (fun xs H Q => ∃ i, xs = [.int i] ∧ Q (.int (if i < 0 then -i else i)) H) bAbs := by
  intro ds z vs eta F Hb m H Q e rh vd q
  unfold bAbs at e
  split at e
  · rename_i i
    cases e
    obtain ⟨v, rfl, k⟩ := vd.one
    subst k
    exact ⟨i, rfl, q _ _ Hb rh Gr.refl rfl⟩
  · cases e
theorem cd_int : CallD g W (fun xs H Q => (∃ i, xs = [.int i] ∧ Q (.int i) H) ∨ ∃ k, xs = [.bl k] ∧ Q (.int (if k then 1 else 0)) H) bInt := by
  intro ds z vs eta F Hb m H Q e rh vd q
  unfold bInt at e
  split at e
  · rename_i i
    cases e
    obtain ⟨v, rfl, k⟩ := vd.one
    subst k
    exact .inl ⟨i, rfl, q _ _ Hb rh Gr.refl rfl⟩
  · rename_i i
    cases e
    obtain ⟨v, rfl, k⟩ := vd.one
    subst k
    exact .inr ⟨i, rfl, q _ _ Hb rh Gr.refl rfl⟩
  · cases e
theorem cd_max2 : CallD g W (fun xs H Q => ∃ i j, xs = [.int i, .int j] ∧ Q (.int (if j > i then j else i)) H) bMax2 := by
  intro ds z vs eta F Hb m H Q e rh vd q
  unfold bMax2 at e
  split at e
  · rename_i i j
    cases e
    obtain ⟨v, u, rfl, k1, k2⟩ := vd.two
    subst k1 k2
    exact ⟨i, j, rfl, q _ _ Hb rh Gr.refl rfl⟩
  · cases e
theorem cd_min2 : CallD g W (fun xs H Q => ∃ i j, xs = [.int i, .int j] ∧ Q (.int (if j < i then j else i)) H) bMin2 := by
  intro ds z vs eta F Hb m H Q e rh vd q
  unfold bMin2 at e
  split at e
  · rename_i i j
    cases e
    obtain ⟨v, u, rfl, k1, k2⟩ := vd.two
    subst k1 k2
    exact ⟨i, j, rfl, q _ _ Hb rh Gr.refl rfl⟩
  · cases e
theorem cd_gcd : CallD g W rGcd bGcd := by
  intro ds z vs eta F Hb m H Q e rh vd q
  unfold bGcd at e
  split at e
  · rename_i i j
    cases e
    obtain ⟨v, u, rfl, k1, k2⟩ := vd.two
    subst k1 k2
    exact ⟨i, j, rfl, q _ _ Hb rh Gr.refl rfl⟩
  · cases e
theorem cd_minL : CallD g W (rMin g.K) bMinL := by
  intro ds z vs eta F Hb m H Q e rh vd q
  unfold bMinL at e
  split at e
  · obtain ⟨es, e1, e⟩ := Option.bind_eq_some_iff.mp e
    obtain ⟨ns, e2, e⟩ := Option.bind_eq_some_iff.mp e
    obtain ⟨v, rfl, k⟩ := vd.one
    obtain ⟨a, us, rfl, h1, k1⟩ := seqL_ok e1 rh k
    cases ns with
    | nil => cases e
    | cons b r =>
      cases e
      have eu := intsD_ok e2 k1
      subst eu
      refine ⟨a, b :: r, rfl, .inl h1, by simp, fun mm hm hle => ?_⟩
      obtain ⟨l1, l2⟩ := leastI_spec r b
      have e3 : mm = leastI b r := by
        have x1 := hle _ l1
        have x2 := l2 _ hm
        omega
      rw [e3]
      exact q _ _ Hb rh Gr.refl rfl
  · cases e
theorem cd_maxL : CallD g W (rMax g.K) bMaxL := by
  intro ds z vs eta F Hb m H Q e rh vd q
  unfold bMaxL at e
  split at e
  · obtain ⟨es, e1, e⟩ := Option.bind_eq_some_iff.mp e
    obtain ⟨ns, e2, e⟩ := Option.bind_eq_some_iff.mp e
    obtain ⟨v, rfl, k⟩ := vd.one
    obtain ⟨a, us, rfl, h1, k1⟩ := seqL_ok e1 rh k
    cases ns with
    | nil => cases e
    | cons b r =>
      cases e
      have eu := intsD_ok e2 k1
      subst eu
      refine ⟨a, b :: r, rfl, .inl h1, by simp, fun mm hm hle => ?_⟩
      obtain ⟨l1, l2⟩ := mostI_spec r b
      have e3 : mm = mostI b r := by
        have x1 := hle _ l1
        have x2 := l2 _ hm
        omega
      rw [e3]
      exact q _ _ Hb rh Gr.refl rfl
  · cases e
theorem cd_sum : CallD g W (rSum g.K) bSum := by
  intro ds z vs eta F Hb m H Q e rh vd q
  unfold bSum at e
  split at e
  · obtain ⟨es, e1, e⟩ := Option.bind_eq_some_iff.mp e
    obtain ⟨ns, e2, rfl⟩ := Option.map_eq_some_iff.mp e
    obtain ⟨v, rfl, k⟩ := vd.one
    obtain ⟨a, us, rfl, h1, k1⟩ := seqL_ok e1 rh k
    have eu := intsD_ok e2 k1
    subst eu
    exact ⟨a, ns, rfl, .inl h1, q _ _ Hb rh Gr.refl rfl⟩
  · cases e
theorem cd_all : CallD g W (rAll g.K) bAll := by
  intro ds z vs eta F Hb m H Q e rh vd q
  unfold bAll at e
  split at e
  · obtain ⟨es, e1, e⟩ := Option.bind_eq_some_iff.mp e
    obtain ⟨ns, e2, rfl⟩ := Option.map_eq_some_iff.mp e
    obtain ⟨v, rfl, k⟩ := vd.one
    obtain ⟨a, us, rfl, h1, k1⟩ := seqL_ok e1 rh k
    have eu := blsD_ok e2 k1
    subst eu
    exact ⟨a, ns, rfl, .inl h1, q _ _ Hb rh Gr.refl rfl⟩
  · cases e
theorem cd_any : CallD g W (rAny g.K) bAny := by
  intro ds z vs eta F Hb m H Q e rh vd q
  unfold bAny at e
  split at e
  · obtain ⟨es, e1, e⟩ := Option.bind_eq_some_iff.mp e
    obtain ⟨ns, e2, rfl⟩ := Option.map_eq_some_iff.mp e
    obtain ⟨v, rfl, k⟩ := vd.one
    obtain ⟨a, us, rfl, h1, k1⟩ := seqL_ok e1 rh k
    have eu := blsD_ok e2 k1
    subst eu
    exact ⟨a, ns, rfl, .inl h1, q _ _ Hb rh Gr.refl rfl⟩
  · cases e
theorem cd_list : CallD g W (fun xs H Q => ∃ p ys, xs = [.ref p] ∧ (SqL g.K H p ys ∨ SqT g.K H p ys) ∧ ∀ l, H l = none → Q (.ref l) (upd H l (.lst ys))) bList := by
  intro ds z vs eta F Hb m H Q e rh vd q
  unfold bList at e
  split at e
  · obtain ⟨es, e1, rfl⟩ := Option.map_eq_some_iff.mp e
    obtain ⟨v, rfl, k⟩ := vd.one
    obtain ⟨a, us, rfl, h1, k1⟩ := seqA_ok e1 rh k
    refine ⟨a, us, rfl, h1, fun l hl => ?_⟩
    obtain ⟨rh', gr⟩ := rh.pure (o := .lst us) hl
    exact q _ _ _ rh' gr ⟨l, us, rfl, .inl upd_same, VDs.mono gr _ _ k1⟩
  · cases e
theorem cd_tuple : CallD g W (fun xs H Q => ∃ p ys, xs = [.ref p] ∧ ((SqL g.K H p ys ∧ ∀ l, H l = none → Q (.ref l) (upd H l (.tup ys))) ∨ (SqT g.K H p ys ∧ Q (.ref p) H))) bTuple := by
  intro ds z vs eta F Hb m H Q e rh vd q
  unfold bTuple at e
  split at e
  · rename_i es
    cases e
    obtain ⟨v, rfl, k⟩ := vd.one
    obtain ⟨a, us, rfl, h1, k1⟩ := seqT_ok (d := .tup es) rfl rh k
    exact ⟨a, us, rfl, .inr ⟨h1, q _ _ Hb rh Gr.refl k⟩⟩
  · obtain ⟨es, e1, rfl⟩ := Option.map_eq_some_iff.mp e
    obtain ⟨v, rfl, k⟩ := vd.one
    obtain ⟨a, us, rfl, h1, k1⟩ := seqL_ok e1 rh k
    refine ⟨a, us, rfl, .inl ⟨.inl h1, fun l hl => ?_⟩⟩
    obtain ⟨rh', gr⟩ := rh.pure (o := .tup us) hl
    exact q _ _ _ rh' gr ⟨l, us, rfl, .inl (.inl upd_same), VDs.mono gr _ _ k1⟩
  · cases e
/-- repr -/
def rRepr (K : PySem.W.Frag) : List V → Hp → VK → Prop := fun vs H Q => ∃ v p, vs = [v] ∧ Dp K H v p ∧ okShow p = true ∧ Q (.str p.shown) H
theorem cd_repr : CallD g W (rRepr g.K) bRepr := by
  intro ds z vs eta F Hb m H Q e rh vd q
  unfold bRepr at e
  split at e
  · obtain ⟨p, e1, e⟩ := Option.bind_eq_some_iff.mp e
    split at e
    · rename_i ho
      cases e
      obtain ⟨v, rfl, k⟩ := vd.one
      exact ⟨v, p, rfl, py_ok rh e1 k, ho, q _ _ Hb rh Gr.refl rfl⟩
    · cases e
  · cases e
end
theorem cr_repr {X : Cx} (units : X.A.units + 64 < cLine) (gd : X.A.guards = some []) : CallR X (.builtin "repr") (rRepr X.K) := by
  intro pins s σ H vs us Q I r ⟨v, p, ev, hd, ho, q⟩
  subst ev
  obtain ⟨u, rfl, ru⟩ := vals1 r
  unfold okShow at ho
  simp only [Bool.and_eq_true, Bool.not_eq_true', decide_eq_true_eq] at ho
  obtain ⟨⟨⟨h1, h2⟩, h3⟩, h4⟩ := ho
  have h4' := lineB_ok h4
  obtain ⟨as, rd⟩ := Dp.reads I p v u hd ru
  have go : ∀ a : Addr, u = .ref a → wpAny (model X.prog X.w) X.A (call (.builtin "repr") [u]) (EP X pins σ Q) X.xe s := by
    intro a eu
    subst eu
    refine repr_of_reads' rd h1 (fun hx => by rw [h2] at hx; cases hx) gd (by omega) (fun _ _ e => e) (fun h' uu tk hk => ?_) h4'
    exact ⟨.str p.shown, H, I.kept (t' := tk) hk, ⟨uu, rfl⟩, q⟩
  cases hd with
  | non => cases ru; exact PySem.P.repr_of_none ⟨.str _, H, I.tok _, ⟨_, rfl⟩, q⟩
  | bl b =>
    cases ru
    refine PySem.P.repr_of_bool ⟨.str _, H, I.tok _, ⟨_, rfl⟩, ?_⟩
    cases b <;> exact q
  | int i =>
    obtain ⟨t, rfl⟩ := ru
    exact PySem.P.repr_of_int (by simpa [PyData.showable] using h1) ⟨.str _, H, I.tok _, ⟨_, rfl⟩, q⟩
  | str x =>
    obtain ⟨t, rfl⟩ := ru
    exact PySem.P.repr_of_str ⟨.str _, H, I.tok _, ⟨_, rfl⟩, q⟩ h4'
  | lst _ _ => exact go _ ru
  | tup _ _ => exact go _ ru
end Gh
namespace Gh
open PySem PySem.Spec PyProof.Rows L2
/-! ### statements -/
/-- the slot is not the held error's -/
def okSlot (W : WE) (i : Nat) : Prop := ∀ q, W.xc = some q → q.i ≠ i
def cSkip : CS := fun rho eta => .nx rho eta
def cSeq (c d : CS) : CS := fun rho eta => match c rho eta with | .nx r e => d r e | o => o
/-- a value, then -/
def sE {α : Type} (c : Rho → Eta → Out α) (k : α → Rho → Eta → OutS) : CS := fun rho eta => match c rho eta with | .ok d e => k d rho e | .exc x fs e => .exc x fs rho e | .stuck => .stuck
theorem PostS.bindE {g : G} {W : WE} {α β : Type} {rel : Hp → List Addr → α → β → Prop} {F Hb : Hp} {m : List Addr} {rho : Rho} {eta : Eta} {σ : L2.St} {c : Rho → Eta → Out α} {k : α → Rho → Eta → OutS} {D : Ends} {Q : β → Hp → Prop} (h : PostS g W F Hb m (sE c k rho eta) D) (rs : RelS g W.xc Hb m rho σ)
    (q : ∀ a eta1 v H1 Hb1 m1, c rho eta = .ok a eta1 → RelH g F Hb1 m1 eta1 H1 → Gr Hb m Hb1 m1 → RelS g W.xc Hb1 m1 rho σ → rel Hb1 m1 a v → PostS g W F Hb1 m1 (k a rho eta1) D → Q v H1) : Post g W rel F σ Hb m (c rho eta) Q := by
  unfold sE at h
  cases e : c rho eta with
  | ok a eta1 =>
    rw [e] at h
    exact fun v H1 Hb1 m1 r1 r2 r3 => q a eta1 v H1 Hb1 m1 e r1 r2 (rs.mono r2) r3 (h.grow r2)
  | exc x fs eta1 =>
    rw [e] at h
    exact fun cls dd H Hb' m' r1 r2 r3 => h cls dd σ H Hb' m' r1 (rs.mono r2) r2 r3
  | stuck => rw [e] at h; exact h
/-- other ends -/
theorem PostS.imp {g : G} {W : WE} {F Hb : Hp} {m : List Addr} {o : OutS} {D D' : Ends} (h : PostS g W F Hb m o D) (n : ∀ σ H, D.nx σ H → D'.nx σ H) (r : ∀ v H, D.rt v H → D'.rt v H) (b : ∀ σ H, D.bk σ H → D'.bk σ H) (c : ∀ σ H, D.ct σ H → D'.ct σ H) : PostS g W F Hb m o D' := by
  cases o with
  | nx rho eta => exact fun σ H H2 m2 r1 r2 r3 => n _ _ (h σ H H2 m2 r1 r2 r3)
  | ret d eta => exact fun σ H H2 m2 r1 r2 r3 => r _ _ (h σ H H2 m2 r1 r2 r3)
  | bk rho eta => exact fun σ H H2 m2 r1 r2 r3 => b _ _ (h σ H H2 m2 r1 r2 r3)
  | ct rho eta => exact fun σ H H2 m2 r1 r2 r3 => c _ _ (h σ H H2 m2 r1 r2 r3)
  | exc x fs rho eta => exact h
  | stuck => exact h
/-- the next statement -/
theorem PostS.seq {g : G} {W : WE} {F Hb : Hp} {m : List Addr} {o : OutS} {D : Ends} {d : CS} (h : PostS g W F Hb m (match o with | .nx r e => d r e | o => o) D) : PostS g W F Hb m o { D with nx := tS g W d D } := by
  cases o with
  | nx rho eta => exact fun σ H H2 m2 r1 r2 r3 => ⟨rho, eta, F, H2, m2, r1, r2, PostS.grow r3 h⟩
  | ret d eta => exact h
  | bk rho eta => exact h
  | ct rho eta => exact h
  | exc x fs rho eta => exact h
  | stuck => exact h
section
variable {g : G} {W : WE} {X : Cx} {k : Nat} {st : Stmt} {rest : List Stmt} {e : Expr} {pos pos' : Pos} {c : CE} {cs ds : CS} {ct : CT}
theorem s_nil : PSs X [] (tS g W cSkip) := pss_weak pss_nil fun D σ H ⟨rho, eta, F, Hb, m, rh, rs, po⟩ => po σ H Hb m rh rs Gr.refl
theorem s_cons (h1 : PS X st (tS g W cs)) (h2 : PSs X rest (tS g W ds)) : PSs X (st :: rest) (tS g W (cSeq cs ds)) :=
  pss_weak (pss_cons h1 h2) fun D σ H ⟨rho, eta, F, Hb, m, rh, rs, po⟩ => ⟨rho, eta, F, Hb, m, rh, rs, PostS.seq po⟩
theorem s_one (h1 : PS X st (tS g W cs)) : PSs X [st] (tS g W cs) := pss_one h1
theorem s_pass : PS X (.Pass pos) (tS g W cSkip) := ps_weak ps_pass fun D σ H ⟨rho, eta, F, Hb, m, rh, rs, po⟩ => po σ H Hb m rh rs Gr.refl
theorem s_doc {x j} : PS X (.Expr (.Constant (.str x) j pos) pos') (tS g W cSkip) := ps_weak ps_doc fun D σ H ⟨rho, eta, F, Hb, m, rh, rs, po⟩ => po σ H Hb m rh rs Gr.refl
def cBk : CS := fun rho eta => .bk rho eta
def cCt : CS := fun rho eta => .ct rho eta
theorem s_break : PS X (.Break pos) (tS g W cBk) := ps_weak ps_break fun D σ H ⟨rho, eta, F, Hb, m, rh, rs, po⟩ => po σ H Hb m rh rs Gr.refl
theorem s_cont : PS X (.Continue pos) (tS g W cCt) := ps_weak ps_continue fun D σ H ⟨rho, eta, F, Hb, m, rh, rs, po⟩ => po σ H Hb m rh rs Gr.refl
/-- an expression, its value dropped -/
def cDrop (c : CE) : CS := sE c fun _ rho eta => .nx rho eta
theorem s_expr (he : PE X e (tD g W c)) (hs : swapsWith e none pos.line X.env = pure false := by rfl) : PS X (.Expr e pos) (tS g W (cDrop c)) :=
  ps_weak (ps_expr he hs) fun D σ H ⟨rho, eta, F, Hb, m, rh, rs, po⟩ => ⟨rho, eta, F, Hb, m, rh, rs, PostS.bindE po rs fun d eta1 v H1 Hb1 m1 _ rh1 g1 rs1 vd po1 => po1 σ H1 Hb1 m1 rh1 rs1 Gr.refl⟩
def cRet (c : CE) : CS := sE c fun d _ eta => .ret d eta
theorem s_ret (he : PE X e (tD g W c)) : PS X (.Return (some e) pos) (tS g W (cRet c)) :=
  ps_weak (ps_ret he) fun D σ H ⟨rho, eta, F, Hb, m, rh, rs, po⟩ => ⟨rho, eta, F, Hb, m, rh, rs, PostS.bindE po rs fun d eta1 v H1 Hb1 m1 _ rh1 g1 rs1 vd po1 => po1 v H1 Hb1 m1 rh1 Gr.refl vd⟩
def cRetN : CS := fun _ eta => .ret .non eta
theorem s_retN : PS X (.Return none pos) (tS g W cRetN) := ps_weak ps_retN fun D σ H ⟨rho, eta, F, Hb, m, rh, rs, po⟩ => po .non H Hb m rh Gr.refl rfl
def cIfS (t : CT) (a b : CS) : CS := sE t fun p rho eta => match p with | true => a rho eta | false => b rho eta
theorem s_if {cd : Expr} {a b : List Stmt} (hc : PT X cd (tB g W ct)) (ha : PSs X a (tS g W cs)) (hb : PSs X b (tS g W ds)) : PS X (.If cd a b pos) (tS g W (cIfS ct cs ds)) :=
  ps_weak (ps_if hc ha hb) fun D σ H ⟨rho, eta, F, Hb, m, rh, rs, po⟩ => ⟨rho, eta, F, Hb, m, rh, rs, PostS.bindE po rs fun p eta1 q H1 Hb1 m1 _ rh1 g1 rs1 e po1 => by
    obtain rfl : p = q := e
    cases p with
    | true => exact iteT ⟨rho, eta1, F, Hb1, m1, rh1, rs1, po1⟩
    | false => exact iteF ⟨rho, eta1, F, Hb1, m1, rh1, rs1, po1⟩⟩
/-- name = value -/
def cSet (i : Nat) (c : CE) : CS := sE c fun d rho eta => .nx (rho.set i (some d)) eta
theorem s_set (i : Nat) {x : Str} (ho : okSlot W i) (hN : X.N.Nodup) (he : PE X e (tD g W c)) (hi : X.N[i]? = some x := by rfl) (hx : Loc X.env.scope x := by first | exact Or.inl rfl | exact Or.inr rfl) (hs : swapsWith e (some (.Name x pos')) pos.line X.env = pure false := by rfl) (hf : X.fn x = true ∨ X.env.scope.names.lookup x = some .local := by first | exact .inl rfl | exact .inr rfl) :
    PS X (.Assign [.Name x pos'] e pos) (tS g W (cSet i c)) :=
  ps_weak (ps_set hN hi hx he hs hf) fun D σ H ⟨rho, eta, F, Hb, m, rh, rs, po⟩ => ⟨rho, eta, F, Hb, m, rh, rs, PostS.bindE po rs fun d eta1 v H1 Hb1 m1 _ rh1 g1 rs1 vd po1 => po1 _ H1 Hb1 m1 rh1 (rs1.set i ho vd) Gr.refl⟩
end
/-! ### targets -/
inductive Tgt where
  | nm (i : Nat) | tup (ts : List Tgt)
mutual
def kT : Tgt → D → Rho → Option Rho
  | .nm i, d, rho => some (rho.set i (some d))
  | .tup ts, d, rho => match d with | .tup ds => kTs ts ds rho | _ => none
def kTs : List Tgt → List D → Rho → Option Rho
  | [], ds, rho => match ds with | [] => some rho | _ => none
  | t :: ts, ds, rho => match ds with | d :: r => (kT t d rho).bind fun rho1 => kTs ts r rho1 | _ => none
end
def gD (g : G) (W : WE) (sl : List Nat) (k : D → Rho → Option Rho) : TG := fun v σ H Q => ∃ d rho eta F Hb m rho', RelH g F Hb m eta H ∧ RelS g W.xc Hb m rho σ ∧ VD g Hb m d v ∧ k d rho = some rho' ∧
  ∀ σ', RelS g W.xc Hb m rho' σ' → (∀ vs : List Nat, (∀ i ∈ sl, i ∈ vs) → wipe σ' vs = wipe σ vs) → Q σ' H
def gsD (g : G) (W : WE) (sl : List Nat) (k : List D → Rho → Option Rho) : TGs := fun v σ H Q => ∃ d rho eta F Hb m rho', RelH g F Hb m eta H ∧ RelS g W.xc Hb m rho σ ∧ VDs g Hb m d v ∧ k d rho = some rho' ∧
  ∀ σ', RelS g W.xc Hb m rho' σ' → (∀ vs : List Nat, (∀ i ∈ sl, i ∈ vs) → wipe σ' vs = wipe σ vs) → Q σ' H
theorem wipe_put {σ : L2.St} {i : Nat} {u : Option V} : ∀ {vs : List Nat}, i ∈ vs → wipe (σ.set i u) vs = wipe σ vs
  | [], h => by cases h
  | v :: vs, h => by
    unfold wipe
    by_cases hv : i = v
    · subst hv
      by_cases hm : i ∈ vs
      · rw [wipe_put hm]
      · have z : ∀ {ws : List Nat}, i ∉ ws → wipe (σ.set i u) ws = (wipe σ ws).set i u := by
          intro ws
          induction ws with
          | nil => intro _; rfl
          | cons w ws ih =>
            intro hn
            simp only [List.mem_cons, not_or] at hn
            unfold wipe
            rw [ih hn.2, List.set_comm _ _ hn.1]
        rw [z hm, List.set_set]
    · rw [wipe_put (by rcases List.mem_cons.mp h with h | h; exact absurd h hv; exact h)]
theorem pg_weak {X : Cx} {e : Expr} {t t' : TG} (h : PG X e t) (w : ∀ v σ H Q, t' v σ H Q → t v σ H Q) : PG X e t' := ⟨fun pins s σ H v u Q I r q => h.run pins s σ H v u Q I r (w v σ H Q q)⟩
theorem pgs_weak {X : Cx} {e : List Expr} {t t' : TGs} (h : PGs X e t) (w : ∀ v σ H Q, t' v σ H Q → t v σ H Q) : PGs X e t' := ⟨fun pins s σ H v u Q I r q => h.run pins s σ H v u Q I r (w v σ H Q q)⟩
section
variable {g : G} {W : WE} {X : Cx} {k : Nat} {e : Expr} {es : List Expr} {pos : Pos} {t : Tgt} {ts : List Tgt} {s1 s2 : List Nat}
theorem g_name (i : Nat) {x : Str} (ho : okSlot W i) (hN : X.N.Nodup) (hi : X.N[i]? = some x := by rfl) (hx : Loc X.env.scope x := by first | exact Or.inl rfl | exact Or.inr rfl) (hf : X.fn x = true ∨ X.env.scope.names.lookup x = some .local := by first | exact .inl rfl | exact .inr rfl) :
    PG X (.Name x pos) (gD g W [i] (kT (.nm i))) :=
  pg_weak (pg_name hN hi hx hf) fun v σ H Q ⟨d, rho, eta, F, Hb, m, rho', rh, rs, vd, ek, q⟩ => by
    unfold kT at ek
    cases ek
    exact q _ (rs.set i ho vd) fun vs h => wipe_put (h i (by simp))
theorem gs_nil : PGs X [] (gsD g W [] (kTs [])) := pgs_weak pgs_nil fun v σ H Q ⟨d, rho, eta, F, Hb, m, rho', rh, rs, vd, ek, q⟩ => by
  unfold kTs at ek
  cases d with
  | nil => cases ek; exact ⟨vd, q σ rs fun _ _ => rfl⟩
  | cons _ _ => cases ek
theorem gs_cons (h1 : PG X e (gD g W s1 (kT t))) (h2 : PGs X es (gsD g W s2 (kTs ts))) (hs : (assignEach (e :: es) X.env).map (·.2) = assign e X.env :: (assignEach es X.env).map (·.2) := by rfl) : PGs X (e :: es) (gsD g W (s1 ++ s2) (kTs (t :: ts))) :=
  pgs_weak (pgs_cons h1 h2 hs) fun v σ H Q ⟨d, rho, eta, F, Hb, m, rho', rh, rs, vd, ek, q⟩ => by
    unfold kTs at ek
    cases d with
    | nil => cases ek
    | cons d ds =>
      obtain ⟨rho1, e1, e2⟩ := Option.bind_eq_some_iff.mp ek
      obtain ⟨v, r, rfl, k1, k2⟩ := vd
      refine ⟨v, r, rfl, d, rho, eta, F, Hb, m, rho1, rh, rs, k1, e1, fun σ1 rs1 w1 => ⟨ds, rho1, eta, F, Hb, m, rho', rh, rs1, k2, e2, fun σ2 rs2 w2 => q σ2 rs2 fun vs h => ?_⟩⟩
      rw [w2 vs fun i hi => h i (List.mem_append_right _ hi), w1 vs fun i hi => h i (List.mem_append_left _ hi)]
theorem kTs_len : ∀ {ts : List Tgt} {ds : List D} {rho rho' : Rho}, kTs ts ds rho = some rho' → ds.length = ts.length
  | [], [], _, _, _ => rfl
  | [], _ :: _, _, _, e => by unfold kTs at e; cases e
  | _ :: _, [], _, _, e => by unfold kTs at e; cases e
  | t :: ts, d :: ds, rho, rho', e => by
    unfold kTs at e
    obtain ⟨rho1, e1, e2⟩ := Option.bind_eq_some_iff.mp e
    simp [kTs_len e2]
theorem g_tup {kk : Nat} {n : Nat} (z : Cz g X W k) (h : PGs X es (gsD g W s1 (kTs ts))) (hl : ts.length = n := by rfl) (hn : (assignEach es X.env).length = n := by rfl) (hst : (assignEach es X.env).findIdx? (·.1) = none := by rfl) : PG X (.Tuple es kk pos) (gD g W s1 (kT (.tup ts))) :=
  pg_weak (pg_tup z.calm h hn hst) fun v σ H Q ⟨d, rho, eta, F, Hb, m, rho', rh, rs, vd, ek, q⟩ => by
    unfold kT at ek
    cases d with
    | tup ds =>
      obtain ⟨a, vs, rfl, h1, k1⟩ := seqT_ok (d := .tup ds) rfl rh vd
      exact ⟨a, vs, rfl, z.K ▸ h1, by rw [← k1.length, kTs_len ek, hl], ds, rho, eta, F, Hb, m, rho', rh, rs, k1, ek, q⟩
    | non => cases ek
    | bl _ => cases ek
    | int _ => cases ek
    | str _ => cases ek
    | lst _ => cases ek
    | obj _ _ => cases ek
    | ref _ => cases ek
/-- target = value -/
def cAsg (t : Tgt) (c : CE) : CS := sE c fun d rho eta => match kT t d rho with | some r => .nx r eta | none => .stuck
theorem s_asg {c : CE} {tg : Expr} (he : PE X e (tD g W c)) (hg : PG X tg (gD g W s1 (kT t))) (hs : swapsWithSole [tg] e pos.line X.env = pure false := by rfl) (hw : swappedStores [tg] e X.env = pure none := by rfl)
    (h1 : (assignEach [tg] X.env).map (·.2) = [assign tg X.env] := by rfl) : PS X (.Assign [tg] e pos) (tS g W (cAsg t c)) :=
  ps_weak (ps_asg he hg hs hw h1) fun D σ H ⟨rho, eta, F, Hb, m, rh, rs, po⟩ => ⟨rho, eta, F, Hb, m, rh, rs, PostS.bindE po rs fun d eta1 v H1 Hb1 m1 _ rh1 g1 rs1 vd po1 => by
    revert po1
    split
    · rename_i rho' ek
      exact fun po1 => ⟨d, rho, eta1, F, Hb1, m1, rho', rh1, rs1, vd, ek, fun σ' rs' _ => po1 σ' H1 Hb1 m1 rh1 rs' Gr.refl⟩
    · exact fun z => z.elim⟩
/-- a, b = x, y; a, b, c = x, y, z with plain local names -/
def cPar (i j : Nat) (c : CA) : CS := sE c fun ds rho eta => match ds with | [d, e] => .nx ((rho.set i (some d)).set j (some e)) eta | _ => .stuck
def cPar3 (i j l : Nat) (c : CA) : CS := sE c fun ds rho eta => match ds with | [d, e, f] => .nx (((rho.set i (some d)).set j (some e)).set l (some f)) eta | _ => .stuck
theorem s_par (i j : Nat) {x y : Str} {a b : Expr} {ca : CA} {px py pt : Pos} {kt k2 pt2} (z : Cz g X W k) (hoi : okSlot W i) (hoj : okSlot W j) (hN : X.N.Nodup) (ha : PA X [a, b] (tA g W ca)) (hi : X.N[i]? = some x := by rfl) (hj : X.N[j]? = some y := by rfl) (hij : i ≠ j := by decide)
    (hx : X.env.scope.names.lookup x = some .local := by rfl) (hy : X.env.scope.names.lookup y = some .local := by rfl)
    (hw : swappedStores [.Tuple [.Name x px, .Name y py] kt pt] (.Tuple [a, b] k2 pt2) X.env = pure (some [x, y]) := by rfl)
    (hs : swapsWithSole [.Tuple [.Name x px, .Name y py] kt pt] (.Tuple [a, b] k2 pt2) pos.line X.env = pure false := by rfl) :
    PS X (.Assign [.Tuple [.Name x px, .Name y py] kt pt] (.Tuple [a, b] k2 pt2) pos) (tS g W (cPar i j ca)) :=
  ps_weak (ps_par z.calm hN hi hj hij hx hy ha hw hs) fun D σ H ⟨rho, eta, F, Hb, m, rh, rs, po⟩ => ⟨rho, eta, F, Hb, m, rh, rs, PostS.bindE po rs fun ds eta1 vs H1 Hb1 m1 _ rh1 g1 rs1 vd po1 => by
    revert po1
    split
    · intro po1
      obtain ⟨v, u, rfl, k1, k2⟩ := vd.two
      exact ⟨v, u, rfl, po1 _ H1 Hb1 m1 rh1 ((rs1.set i hoi k1).set j hoj k2) Gr.refl⟩
    · exact fun z => z.elim⟩
theorem VDs.three {g : G} {Hb : Hp} {m : List Addr} {d e f : D} {vs : List V} (h : VDs g Hb m [d, e, f] vs) : ∃ v u w, vs = [v, u, w] ∧ VD g Hb m d v ∧ VD g Hb m e u ∧ VD g Hb m f w := by
  obtain ⟨v, r, e1, h1, h2⟩ := h
  obtain ⟨u, w, e2, h3, h4⟩ := h2.two
  subst e2
  exact ⟨v, u, w, e1, h1, h3, h4⟩
theorem s_par3 (i j l : Nat) {x y z : Str} {a b c : Expr} {ca : CA} {px py pz pt : Pos} {kt k2 pt2} (zz : Cz g X W k) (hoi : okSlot W i) (hoj : okSlot W j) (hol : okSlot W l) (hN : X.N.Nodup) (ha : PA X [a, b, c] (tA g W ca)) (hi : X.N[i]? = some x := by rfl) (hj : X.N[j]? = some y := by rfl) (hl : X.N[l]? = some z := by rfl)
    (hij : i ≠ j := by decide) (hil : i ≠ l := by decide) (hjl : j ≠ l := by decide)
    (hx : X.env.scope.names.lookup x = some .local := by rfl) (hy : X.env.scope.names.lookup y = some .local := by rfl) (hz : X.env.scope.names.lookup z = some .local := by rfl)
    (hw : swappedStores [.Tuple [.Name x px, .Name y py, .Name z pz] kt pt] (.Tuple [a, b, c] k2 pt2) X.env = pure (some [x, y, z]) := by rfl)
    (hs : swapsWithSole [.Tuple [.Name x px, .Name y py, .Name z pz] kt pt] (.Tuple [a, b, c] k2 pt2) pos.line X.env = pure false := by rfl) :
    PS X (.Assign [.Tuple [.Name x px, .Name y py, .Name z pz] kt pt] (.Tuple [a, b, c] k2 pt2) pos) (tS g W (cPar3 i j l ca)) :=
  ps_weak (ps_par3 zz.calm hN hi hj hl hij hil hjl hx hy hz ha hw hs) fun D σ H ⟨rho, eta, F, Hb, m, rh, rs, po⟩ => ⟨rho, eta, F, Hb, m, rh, rs, PostS.bindE po rs fun ds eta1 vs H1 Hb1 m1 _ rh1 g1 rs1 vd po1 => by
    revert po1
    split
    · intro po1
      obtain ⟨v, u, w, rfl, k1, k2, k3⟩ := vd.three
      exact ⟨v, u, w, rfl, po1 _ H1 Hb1 m1 rh1 (((rs1.set i hoi k1).set j hoj k2).set l hol k3) Gr.refl⟩
    · exact fun z => z.elim⟩
end
/-! ### owned lists change -/
/-- o[i] = value, o an owned list -/
def putD (eta : Eta) (o i d : D) : Option Eta := match o, i with
  | .ref a, .int k => match eta[a]? with
    | some (.lst ds) => (ixN ds.length k).map fun j => eta.set a (.lst (ds.set j d))
    | _ => none
  | _, _ => none
def cPut (c co ci : CE) : CS := sE (cb c fun d => cb co fun o => cb ci fun i _ eta => .ok (d, o, i) eta) fun (d, o, i) rho eta => match putD eta o i d with | some e => .nx rho e | none => .stuck
theorem own_lst {g : G} {F Hb : Hp} {m : List Addr} {eta : Eta} {H : Hp} {a : Nat} {p : Addr} {ds : List D} (rh : RelH g F Hb m eta H) (e : eta[a]? = some (.lst ds)) (hm : m[a]? = some p) : ∃ vs, H p = some (.lst vs) ∧ VDs g Hb m ds vs := rh.own a p (.lst ds) hm e
theorem put_ok {g : G} {F Hb : Hp} {m : List Addr} {eta eta' : Eta} {H : Hp} {o i d : D} {ov iv v : V} (rh : RelH g F Hb m eta H) (ho : VD g Hb m o ov) (hi : VD g Hb m i iv) (hd : VD g Hb m d v) (e : putD eta o i d = some eta') : ∃ p xs k j, ov = .ref p ∧ iv = .int k ∧ H p = some (.lst xs) ∧ ixN xs.length k = some j ∧ RelH g F Hb m eta' (upd H p (.lst (xs.set j v))) := by
  unfold putD at e
  split at e
  · rename_i a k
    split at e
    · rename_i ds e1
      obtain ⟨j, e2, rfl⟩ := Option.map_eq_some_iff.mp e
      obtain ⟨p, rfl, hm⟩ := ho
      obtain ⟨vs, hv, kv⟩ := own_lst rh e1 hm
      refine ⟨p, vs, k, j, rfl, hi, hv, by rw [← kv.length]; exact e2, rh.write hm ⟨vs.set j v, upd_same, kv.set j hd⟩⟩
    · cases e
  · cases e
section
variable {g : G} {W : WE} {X : Cx} {k : Nat} {e o i : Expr} {pos pos' : Pos} {c co ci : CE}
theorem s_put (he : PE X e (tD g W c)) (ho : PE X o (tD g W co)) (hi : PE X i (tD g W ci)) (hs : swapsWithSole [.Subscript o i pos'] e pos.line X.env = pure false := by rfl) (hw : swappedStores [.Subscript o i pos'] e X.env = pure none := by rfl)
    (h1 : (assignEach [.Subscript o i pos'] X.env).map (·.2) = [assign (.Subscript o i pos') X.env] := by rfl)
    (ha : ∀ v, assign (.Subscript o i pos') X.env v = (do
      let ov ← holding [v] (eval o X.env)
      let iv ← holding [v, ov] (eval i X.env)
      standAt pos'
      holding [v, ov, iv] (setItem ov iv v)
      release [v, ov, iv] []) := by intro _; rfl) : PS X (.Assign [.Subscript o i pos'] e pos) (tS g W (cPut c co ci)) :=
  ps_weak (ps_asg he (pg_sub ho hi set_list ha) hs hw h1) fun DD σ H ⟨rho, eta, F, Hb, m, rh, rs, po⟩ => by
    refine ⟨rho, eta, F, Hb, m, rh, rs, ?_⟩
    have p0 : Post g W (fun Hb m (x : D × D × D) (y : V × V × V) => VD g Hb m x.1 y.1 ∧ VD g Hb m x.2.1 y.2.1 ∧ VD g Hb m x.2.2 y.2.2) F σ Hb m ((cb c fun d => cb co fun o => cb ci fun i _ eta => .ok (d, o, i) eta) rho eta) (fun y H3 => rSetL y.2.1 y.2.2 y.1 H3 fun H4 => DD.nx σ H4) :=
      PostS.bindE po rs fun x eta1 y H1 Hb1 m1 _ rh1 g1 rs1 vd po1 => by
        obtain ⟨d, o, i⟩ := x
        obtain ⟨v, ov, iv⟩ := y
        obtain ⟨k1, k2, k3⟩ := vd
        revert po1
        show PostS g W F Hb1 m1 (match putD eta1 o i d with | some e => .nx rho e | none => .stuck) DD → _
        split
        · rename_i e1 ep
          intro po1
          obtain ⟨p, xs, k, j, e1, e2, hp, hj, r4⟩ := put_ok rh1 k2 k3 k1 ep
          exact ⟨p, xs, k, j, e1, e2, hp, hj, po1 σ _ Hb1 m1 r4 rs1 Gr.refl⟩
        · exact fun z => z.elim
    refine Post.bind (Q := fun (y : V × V × V) H3 => rSetL y.2.1 y.2.2 y.1 H3 fun H4 => DD.nx σ H4) p0 fun d eta1 v H1 Hb1 m1 _ rh1 g1 vd po1 => ⟨rho, eta1, F, Hb1, m1, rh1, rs.mono g1, Post.bind po1 fun o eta2 ov H2 Hb2 m2 _ rh2 g2 vo po2 => ⟨rho, eta2, F, Hb2, m2, rh2, (rs.mono g1).mono g2, Post.bind po2 fun i eta3 iv H3 Hb3 m3 _ rh3 g3 vi po3 => ?_⟩⟩
    exact po3 (v, ov, iv) H3 Hb3 m3 rh3 Gr.refl ⟨VD.mono (g2.trans g3) _ _ vd, VD.mono g3 _ _ vo, vi⟩
end
end Gh
namespace Gh
open PySem PySem.Spec PyProof.Rows L2
/-! ### while -/
def cW : Nat → CT → CS → CS
  | 0, _, _ => fun _ _ => .stuck
  | n + 1, t, b => sE t fun p rho eta => match p with
    | false => .nx rho eta
    | true => match b rho eta with
      | .nx r e => cW n t b r e
      | .ct r e => cW n t b r e
      | .bk r e => .nx r e
      | o => o
theorem cW_up : ∀ (n : Nat) (t : CT) (b : CS) (rho : Rho) (eta : Eta), cW n t b rho eta ≠ .stuck → cW (n + 1) t b rho eta = cW n t b rho eta
  | 0, t, b, rho, eta, h => absurd rfl h
  | n + 1, t, b, rho, eta, h => by
    have ih := cW_up n t b
    revert h
    unfold cW
    unfold sE
    cases t rho eta with
    | ok p e =>
      cases p with
      | false => intro _; rfl
      | true =>
        dsimp only
        cases b rho e with
        | nx r e => exact fun h => ih _ _ h
        | ct r e => exact fun h => ih _ _ h
        | bk r e => intro _; rfl
        | ret d e => intro _; rfl
        | exc x fs r e => intro _; rfl
        | stuck => intro _; rfl
    | exc x fs e => intro _; rfl
    | stuck => intro _; rfl
theorem cW_le {n m : Nat} {t : CT} {b : CS} {rho : Rho} {eta : Eta} (h : cW n t b rho eta ≠ .stuck) (hm : n ≤ m) : cW m t b rho eta = cW n t b rho eta := by
  induction m with
  | zero => obtain rfl : n = 0 := by omega
            rfl
  | succ m ih =>
    by_cases e : n = m + 1
    · rw [e]
    · have := ih (by omega)
      rw [cW_up m t b rho eta (by rw [this]; exact h), this]
open Classical in
noncomputable def cWhile (t : CT) (b : CS) : CS := fun rho eta => if h : ∃ n, cW n t b rho eta ≠ .stuck then cW (choose h) t b rho eta else .stuck
theorem cWhile_of {n : Nat} {t : CT} {b : CS} {rho : Rho} {eta : Eta} {o : OutS} (h : cW n t b rho eta = o) (hn : o ≠ .stuck) : cWhile t b rho eta = o := by
  unfold cWhile
  have hx : ∃ n, cW n t b rho eta ≠ .stuck := ⟨n, by rw [h]; exact hn⟩
  rw [dif_pos hx]
  have hc := Classical.choose_spec hx
  rcases Nat.le_total n (Classical.choose hx) with l | l
  · rw [cW_le (by rw [h]; exact hn) l, h]
  · rw [← cW_le hc l, h]
/-- one turn -/
theorem cWhile_step {t : CT} {b : CS} {rho : Rho} {eta : Eta} : cWhile t b rho eta = sE t (fun p rho eta => match p with
    | false => .nx rho eta
    | true => match b rho eta with
      | .nx r e => cWhile t b r e
      | .ct r e => cWhile t b r e
      | .bk r e => .nx r e
      | o => o) rho eta := by
  by_cases hx : ∃ n, cW n t b rho eta ≠ .stuck
  · obtain ⟨n, hn⟩ := hx
    cases n with
    | zero => exact absurd rfl hn
    | succ n =>
      rw [cWhile_of rfl hn]
      revert hn
      unfold cW sE
      cases t rho eta with
      | ok p e =>
        cases p with
        | false => intro _; rfl
        | true =>
          dsimp only
          cases b rho e with
          | nx r e => exact fun h => (cWhile_of rfl h).symm
          | ct r e => exact fun h => (cWhile_of rfl h).symm
          | bk r e => intro _; rfl
          | ret d e => intro _; rfl
          | exc x fs r e => intro _; rfl
          | stuck => intro _; rfl
      | exc x fs e => intro _; rfl
      | stuck => intro _; rfl
  · have e0 : cWhile t b rho eta = .stuck := by unfold cWhile; rw [dif_neg hx]
    rw [e0]
    have h1 : ∀ n, cW n t b rho eta = .stuck := fun n => Classical.byContradiction fun z => hx ⟨n, z⟩
    have h2 : ∀ n, cW (n + 1) t b rho eta = .stuck := fun n => h1 _
    unfold cW sE at h2
    unfold sE
    revert h2
    have go : ∀ r e, (∀ n, cW n t b r e = .stuck) → cWhile t b r e = .stuck := fun r e h => by
      unfold cWhile
      rw [dif_neg (fun ⟨n, hn⟩ => hn (h n))]
    cases t rho eta with
    | ok p e =>
      cases p with
      | false => exact fun h => (h 0).symm
      | true =>
        dsimp only
        cases b rho e with
        | nx r e => exact fun h => (go r e h).symm
        | ct r e => exact fun h => (go r e h).symm
        | bk r e => exact fun h => (h 0).symm
        | ret d e => exact fun h => (h 0).symm
        | exc x fs r e => exact fun h => (h 0).symm
        | stuck => intro _; rfl
    | exc x fs e => exact fun h => (h 0).symm
    | stuck => intro _; rfl
section
variable {g : G} {W : WE} {X : Cx} {k : Nat} {e : Expr} {body : List Stmt} {pos : Pos} {ct : CT} {cs : CS}
theorem s_while {c : Expr} (z : Cz g X W k) (hc : PT X c (tB g W ct)) (hb : PSs X body (tS g W cs)) : PS X (.While c body [] pos) (tS g W (cWhile ct cs)) :=
  ps_weak (ps_while z.po hc hb) fun D σ H ⟨rho, eta, F, Hb, m, rh, rs, po⟩ => by
    have hx : ∃ n, cW n ct cs rho eta ≠ .stuck := by
      by_cases hx : ∃ n, cW n ct cs rho eta ≠ .stuck
      · exact hx
      · unfold cWhile at po
        rw [dif_neg hx] at po
        exact po.elim
    obtain ⟨n0, hn0⟩ := hx
    rw [cWhile_of rfl hn0] at po
    refine ⟨fun n σ H => ∃ rho eta Hb' m', RelH g F Hb' m' eta H ∧ RelS g W.xc Hb' m' rho σ ∧ Gr Hb m Hb' m' ∧ PostS g W F Hb' m' (cW n ct cs rho eta) D, ⟨n0, rho, eta, Hb, m, rh, rs, Gr.refl, po⟩, ?_⟩
    rintro n σ1 H1 ⟨rho1, eta1, Hb1, m1, rh1, rs1, g1, po1⟩
    cases n with
    | zero => exact po1.elim
    | succ n =>
      refine ⟨rho1, eta1, F, Hb1, m1, rh1, rs1, PostS.bindE po1 rs1 fun p eta2 q H2 Hb2 m2 _ rh2 g2 rs2 e po2 => ?_⟩
      obtain rfl : p = q := e
      cases p with
      | false => exact iteF (po2 σ1 H2 Hb2 m2 rh2 rs2 Gr.refl)
      | true =>
        refine iteT ⟨fun σ' H' => ∃ rho eta Hb' m', RelH g F Hb' m' eta H' ∧ RelS g W.xc Hb' m' rho σ' ∧ Gr Hb m Hb' m' ∧ PostS g W F Hb' m' (cW n ct cs rho eta) D, fun σ' H' h => ⟨n, Nat.lt_succ_self _, h⟩, rho1, eta2, F, Hb2, m2, rh2, rs2, ?_⟩
        revert po2
        show PostS g W F Hb2 m2 (match cs rho1 eta2 with | .nx r e => cW n ct cs r e | .ct r e => cW n ct cs r e | .bk r e => .nx r e | o => o) D → _
        cases cs rho1 eta2 with
        | nx r e => exact fun po3 σ' H' Hb' m' r1 r2 r3 => ⟨r, e, Hb', m', r1, r2, (g1.trans g2).trans r3, po3.grow r3⟩
        | ct r e => exact fun po3 σ' H' Hb' m' r1 r2 r3 => ⟨r, e, Hb', m', r1, r2, (g1.trans g2).trans r3, po3.grow r3⟩
        | bk r e => exact fun po3 => po3
        | ret d e => exact fun po3 => po3
        | exc x fs r e => exact fun po3 => po3
        | stuck => exact fun po3 => po3
end
/-! ### what is walked -/
def WalkD (g : G) (C : Eta → Prop) (J : It) (Hb0 : Hp) (m0 : List Addr) (ds : List D) : Prop := ∀ F Hb m eta H, RelH g F Hb m eta H → Gr Hb0 m0 Hb m → C eta →
  (∀ i d, ds[i]? = some d → J.go i H ∧ ∀ x H', J.yld i H x H' → ∃ Hb', RelH g F Hb' m eta H' ∧ Gr Hb m Hb' m ∧ VD g Hb' m d x) ∧ (∀ i, ds.length ≤ i → J.stop i H)
abbrev CI := Rho → Eta → Out (List D × (Eta → Prop))
def relI (g : G) : Hp → List Addr → (List D × (Eta → Prop)) → It → Prop := fun Hb m a J => WalkD g a.2 J Hb m a.1
def tI (g : G) (W : WE) (c : CI) : TI := tG g W (relI g) c
theorem pi_weak {X : Cx} {tg e : Expr} {t t' : TI} (h : PI X tg e t) (w : ∀ σ H R, t' σ H R → t σ H R) : PI X tg e t' := ⟨fun pins s σ H R I q => h.run pins s σ H R I (w σ H R q)⟩
theorem WalkD.grow {g : G} {C : Eta → Prop} {J : It} {Hb0 Hb1 : Hp} {m0 m1 : List Addr} {ds : List D} (h : WalkD g C J Hb0 m0 ds) (e : Gr Hb0 m0 Hb1 m1) : WalkD g C J Hb1 m1 ds := fun F Hb m eta H rh gr c => h F Hb m eta H rh (e.trans gr) c
/-- a list or a tuple -/
def cSeqI (d : D) (eta : Eta) : Option (List D × (Eta → Prop)) := match d with
  | .tup ds => some (ds, fun _ => True)
  | .lst ds => some (ds, fun _ => True)
  | .ref i => match eta[i]? with
    | some (.lst ds) => some (ds, fun e => e[i]? = some (.lst ds))
    | _ => none
  | _ => none
def cIt (c : CE) : CI := cb c fun d _ eta => match cSeqI d eta with | some a => .ok a eta | none => .stuck
def iSeq (K : PySem.W.Frag) (tl : TE) : TI := fun σ H R => tl σ H fun x H1 => ∃ a, x = .ref a ∧ (((∃ xs, SqL K H1 a xs) ∧ R (Itl K a) H1) ∨ ((∃ xs, SqT K H1 a xs) ∧ R (Itt K a) H1))
section
variable {g : G} {W : WE} {X : Cx} {k : Nat} {tg e l : Expr} {pos : Pos} {c : CE}
theorem pi_seq {tl : TE} (hl : PE X l tl) : PI X tg l (iSeq X.K tl) := by
  refine ⟨fun pins s σ H R I h => ?_⟩
  refine thn (hl.run pins s σ H _ I h) fun v s1 ⟨x, H1, I1, r1, q1⟩ => ?_
  obtain ⟨a, e, q1⟩ := q1
  subst e
  cases r1
  rcases q1 with ⟨⟨xs, hq⟩, q⟩ | ⟨⟨xs, hq⟩, q⟩
  · obtain ⟨its, rv, p, hz⟩ := I1.list hq
    refine wpAny_pyIter_list p.isList ?_
    refine ⟨s1.heap.objs.size, [s1.heap.objs.size], _, _, H1, rfl, I1.kept (t' := s1.toks) fun b o e => Heap.get?_push_of_some _ e, turn_list a _, ⟨_, Heap.get?_push_size _ rfl, rfl, rfl⟩, fun b hb => ?_, q⟩
    have e : b = s1.heap.objs.size := by simpa using hb
    subst e
    exact I1.fpOk (Nat.le_refl _) (I1.hok.fresh (Nat.le_refl _))
  · obtain ⟨its, rv, p, hz⟩ := I1.tuple hq
    refine wpAny_pyIter_tuple (show s1.heap.IsTuple a its.toArray from p) ?_
    refine ⟨s1.heap.objs.size, [s1.heap.objs.size], _, _, H1, rfl, I1.kept (t' := s1.toks) fun b o e => Heap.get?_push_of_some _ e, turn_tuple a _, ⟨_, Heap.get?_push_size _ rfl, rfl, rfl⟩, fun b hb => ?_, q⟩
    have e : b = s1.heap.objs.size := by simpa using hb
    subst e
    exact I1.fpOk (Nat.le_refl _) (I1.hok.fresh (Nat.le_refl _))
theorem VDs.back {Hb : Hp} {m : List Addr} : ∀ {ds : List D} {vs : List V} {i : Nat}, VDs g Hb m ds vs → ds.length ≤ i → vs[i]? = none := fun h hi => List.getElem?_eq_none (by rw [← h.length]; exact hi)
theorem walk_l {Hb : Hp} {m : List Addr} {a : Addr} {ds : List D} {vs : List V} {C : Eta → Prop} (h : ∀ F Hb1 m1 eta H, RelH g F Hb1 m1 eta H → Gr Hb m Hb1 m1 → C eta → ∃ vs, SqL g.K H a vs ∧ VDs g Hb1 m1 ds vs) : WalkD g C (Itl g.K a) Hb m ds := by
  intro F Hb1 m1 eta H rh gr c
  obtain ⟨vs, hq, kv⟩ := h F Hb1 m1 eta H rh gr c
  refine ⟨fun i d e => ?_, fun i hi => ⟨vs, hq, by rw [← kv.length]; exact hi⟩⟩
  obtain ⟨v, ev, kd⟩ := kv.get e
  refine ⟨⟨vs, v, hq, ev⟩, fun x H' ⟨e1, e2⟩ => ?_⟩
  subst e1
  have := e2 vs hq
  rw [ev] at this
  cases this
  exact ⟨Hb1, rh, Gr.refl, kd⟩
theorem walk_t {Hb : Hp} {m : List Addr} {a : Addr} {ds : List D} {vs : List V} (ht : SqT g.K Hb a vs) (kv0 : VDs g Hb m ds vs) : WalkD g (fun _ => True) (Itt g.K a) Hb m ds := by
  intro F Hb1 m1 eta H rh gr c
  have kv := VDs.mono gr _ _ kv0
  have hq : SqT g.K H a vs := Gh.Same.tup (gr.h.trans rh.ex) ht
  refine ⟨fun i d e => ?_, fun i hi => ⟨vs, hq, by rw [← kv.length]; exact hi⟩⟩
  obtain ⟨v, ev, kd⟩ := kv.get e
  refine ⟨⟨vs, v, hq, ev⟩, fun x H' ⟨e1, e2⟩ => ?_⟩
  subst e1
  have := e2 vs hq
  rw [ev] at this
  cases this
  exact ⟨Hb1, rh, Gr.refl, kd⟩
/-- the parts of a list, owned or not -/
theorem seqI_ok {F Hb : Hp} {m : List Addr} {eta : Eta} {H : Hp} {d : D} {v : V} {a : List D × (Eta → Prop)} (rh : RelH g F Hb m eta H) (vd : VD g Hb m d v) (e : cSeqI d eta = some a) : ∃ p, v = .ref p ∧
    (((∃ xs, SqL g.K H p xs) ∧ WalkD g a.2 (Itl g.K p) Hb m a.1) ∨ ((∃ xs, SqT g.K H p xs) ∧ WalkD g a.2 (Itt g.K p) Hb m a.1)) := by
  cases d with
  | tup ds =>
    cases e
    obtain ⟨p, vs, rfl, h1, k1⟩ := vd
    exact ⟨p, rfl, .inr ⟨⟨vs, Gh.Same.tup rh.ex h1⟩, walk_t h1 k1⟩⟩
  | lst ds =>
    cases e
    obtain ⟨p, vs, rfl, h1, k1⟩ := vd
    exact ⟨p, rfl, .inl ⟨⟨vs, .inl (Gh.Same.rd rh.ex h1)⟩, walk_l (vs := vs) fun F Hb1 m1 eta H rh gr c => ⟨vs, .inl (Gh.Same.rd (gr.h.trans rh.ex) h1), VDs.mono gr _ _ k1⟩⟩⟩
  | ref i =>
    unfold cSeqI at e
    dsimp only at e
    split at e
    · rename_i ds e1
      cases e
      obtain ⟨p, rfl, hm⟩ := vd
      obtain ⟨vs, hv, kv⟩ := own_lst rh e1 hm
      refine ⟨p, rfl, .inl ⟨⟨vs, .inl (.inl hv)⟩, walk_l (vs := vs) fun F Hb1 m1 eta1 H1 rh1 gr c => ?_⟩⟩
      obtain ⟨us, hu, ku⟩ := own_lst rh1 c (gr.m _ _ hm)
      exact ⟨us, .inl (.inl hu), ku⟩
    · cases e
  | non => cases e
  | bl _ => cases e
  | int _ => cases e
  | str _ => cases e
  | obj _ _ => cases e
theorem i_seq (z : Cz g X W k) (he : PE X e (tD g W c)) : PI X tg e (tI g W (cIt c)) :=
  pi_weak (pi_seq he) fun σ H R ⟨rho, eta, F, Hb, m, rh, rs, po⟩ => ⟨rho, eta, F, Hb, m, rh, rs, Post.bind po fun d eta1 v H1 Hb1 m1 _ rh1 g1 vd po1 => by
    revert po1
    cases q : cSeqI d eta1 with
    | none => exact fun z => z.elim
    | some a =>
      intro po1
      obtain ⟨p, rfl, h⟩ := seqI_ok rh1 vd q
      rw [z.K]
      refine ⟨p, rfl, h.imp (fun h => ⟨h.1, po1 _ _ _ _ rh1 Gr.refl h.2⟩) (fun h => ⟨h.1, po1 _ _ _ _ rh1 Gr.refl h.2⟩)⟩⟩
/-- lo, lo + 1, .. -/
def rngD (lo : Int) (n : Nat) : List D := (List.range n).map fun (i : Nat) => .int (lo + i)
theorem walk_r {Hb : Hp} {m : List Addr} {lo : Int} {n : Nat} : WalkD g (fun _ => True) (Itr lo n) Hb m (rngD lo n) := by
  intro F Hb1 m1 eta H rh gr c
  refine ⟨fun i d e => ?_, fun i hi => ?_⟩
  · unfold rngD at e
    rw [List.getElem?_map] at e
    obtain ⟨j, e1, rfl⟩ := Option.map_eq_some_iff.mp e
    obtain ⟨hl, e2⟩ := List.getElem?_eq_some_iff.mp e1
    have hl' : i < n := by simpa using hl
    have ej : j = i := by simpa using e2.symm
    subst ej
    exact ⟨hl', fun x H' ⟨e1, e2⟩ => ⟨Hb1, by rw [e1]; exact rh, Gr.refl, e2⟩⟩
  · have : n ≤ i := by simpa [rngD] using hi
    exact this
def okRg (i : Int) : Bool := decide (-4611686018427387904 ≤ i) && decide (i < 4611686018427387904)
theorem okRg_ok {i : Int} (h : okRg i = true) : -(2 ^ 62) ≤ i ∧ i < 2 ^ 62 := by
  unfold okRg at h
  simp only [Bool.and_eq_true, decide_eq_true_eq] at h
  omega
def rg1 (ds : List D) : Option (List D × (Eta → Prop)) := match ds with | [.int j] => if okRg j then some (rngD 0 j.toNat, fun _ => True) else none | _ => none
def rg2 (ds : List D) : Option (List D × (Eta → Prop)) := match ds with | [.int i, .int j] => if okRg i && okRg j then some (rngD i (j - i).toNat, fun _ => True) else none | _ => none
def cRg (f : List D → Option (List D × (Eta → Prop))) (c : CA) : CI := cb c fun ds _ eta => match f ds with | some a => .ok a eta | none => .stuck
theorem i_rg1 {a : Expr} {ca : CA} {p : Pos} (hg : Gl X "range") (hm : X.mg "range" = none) (ha : PA X [a] (tA g W ca)) (hs : starEach [a] X.env = [(false, eval a X.env)] := by rfl) : PI X tg (.Call (.Name "range" p) [a] [] pos) (tI g W (cRg rg1 ca)) :=
  pi_weak (pi_range1 hg hm ha hs) fun σ H R ⟨rho, eta, F, Hb, m, rh, rs, po⟩ => ⟨rho, eta, F, Hb, m, rh, rs, Post.bind po fun ds eta1 vs H1 Hb1 m1 _ rh1 g1 vd po1 => by
    revert po1
    cases q : rg1 ds with
    | none => exact fun z => z.elim
    | some a =>
      intro po1
      unfold rg1 at q
      split at q
      · rename_i j _
        split at q
        · rename_i hj
          cases q
          obtain ⟨v, rfl, k1⟩ := vd.one
          subst k1
          obtain ⟨h1, h2⟩ := okRg_ok hj
          exact ⟨j, rfl, h1, h2, po1 _ _ _ _ rh1 Gr.refl walk_r⟩
        · cases q
      · cases q⟩
theorem i_rg2 {a b : Expr} {ca : CA} {p : Pos} (hg : Gl X "range") (hm : X.mg "range" = none) (ha : PA X [a, b] (tA g W ca)) (hs : starEach [a, b] X.env = [(false, eval a X.env), (false, eval b X.env)] := by rfl) (hs2 : starEach [b] X.env = [(false, eval b X.env)] := by rfl) :
    PI X tg (.Call (.Name "range" p) [a, b] [] pos) (tI g W (cRg rg2 ca)) :=
  pi_weak (pi_range2 hg hm ha hs hs2) fun σ H R ⟨rho, eta, F, Hb, m, rh, rs, po⟩ => ⟨rho, eta, F, Hb, m, rh, rs, Post.bind po fun ds eta1 vs H1 Hb1 m1 _ rh1 g1 vd po1 => by
    revert po1
    cases q : rg2 ds with
    | none => exact fun z => z.elim
    | some a =>
      intro po1
      unfold rg2 at q
      split at q
      · rename_i i j _
        split at q
        · rename_i hj
          cases q
          obtain ⟨v, u, rfl, k1, k2⟩ := vd.two
          subst k1 k2
          obtain ⟨hj1, hj2⟩ := Bool.and_eq_true_iff.mp hj
          obtain ⟨h1, h2⟩ := okRg_ok hj1
          obtain ⟨h3, h4⟩ := okRg_ok hj2
          exact ⟨i, j, rfl, ⟨h1, h2, h3, h4⟩, po1 _ _ _ _ rh1 Gr.refl walk_r⟩
        · cases q
      · cases q⟩
/-- enumerate(a list) -/
def enumD : Nat → List D → List D
  | _, [] => []
  | n, d :: ds => .tup [.int (n : Nat), d] :: enumD (n + 1) ds
theorem enumD_get : ∀ {ds : List D} {n i : Nat} {d : D}, (enumD n ds)[i]? = some d → ∃ x, ds[i]? = some x ∧ d = .tup [.int ((n + i : Nat) : Int), x]
  | [], n, i, d, h => by simp [enumD] at h
  | x :: ds, n, 0, d, h => by
    simp only [enumD, List.getElem?_cons_zero, Option.some.injEq] at h
    exact ⟨x, rfl, h.symm⟩
  | x :: ds, n, i + 1, d, h => by
    simp only [enumD, List.getElem?_cons_succ] at h
    obtain ⟨y, e1, e2⟩ := enumD_get h
    exact ⟨y, by simpa using e1, by rw [e2]; congr 3; omega⟩
theorem enumD_length : ∀ {ds : List D} {n : Nat}, (enumD n ds).length = ds.length
  | [], _ => rfl
  | _ :: ds, n => by simp [enumD, enumD_length (ds := ds)]
def enI (ds : List D) (eta : Eta) : Option (List D × (Eta → Prop)) := match ds with | [.lst es] => some (enumD 0 es, fun _ => True) | _ => none
def cEn (c : CA) : CI := cb c fun ds _ eta => match enI ds eta with | some a => .ok a eta | none => .stuck
theorem walk_e {Hb : Hp} {m : List Addr} {a : Addr} {ds : List D} {vs : List V} (h1 : Rd Hb a (.lst vs)) (kv0 : VDs g Hb m ds vs) : WalkD g (fun _ => True) (Ite g.K a) Hb m (enumD 0 ds) := by
  intro F Hb1 m1 eta H rh gr c
  have kv := VDs.mono gr _ _ kv0
  have hq : SqL g.K H a vs := .inl (Gh.Same.rd (gr.h.trans rh.ex) h1)
  refine ⟨fun i d e => ?_, fun i hi => ⟨vs, hq, by rw [← kv.length, ← enumD_length (ds := ds) (n := 0)]; exact hi⟩⟩
  obtain ⟨x, e1, rfl⟩ := enumD_get e
  obtain ⟨v, ev, kd⟩ := kv.get e1
  refine ⟨⟨vs, v, hq, ev⟩, fun y H' ⟨T, x', ey, hT, eH, e2⟩ => ?_⟩
  have := e2 vs hq
  rw [ev] at this
  cases this
  subst eH ey
  obtain ⟨rh', gr'⟩ := rh.pure (o := .tup [.int (i : Nat), v]) hT
  refine ⟨_, rh', gr', T, [.int (i : Nat), v], rfl, .inl (.inl upd_same), .int (i : Nat), [v], rfl, ?_, v, [], rfl, VD.mono gr' _ _ kd, rfl⟩
  show V.int _ = V.int _
  simp
theorem i_enum {a : Expr} {ca : CA} {p tpos : Pos} {elts : List Expr} {kk : Nat} (z : Cz g X W k) (hg : Gl X "enumerate") (hm : X.mg "enumerate" = none) (ha : PA X [a] (tA g W ca)) (hs : starEach [a] X.env = (false, eval a X.env) :: starEach [] X.env := by rfl) : PI X (.Tuple elts kk tpos) (.Call (.Name "enumerate" p) [a] [] pos) (tI g W (cEn ca)) :=
  pi_weak (pi_enum hg hm ha hs) fun σ H R ⟨rho, eta, F, Hb, m, rh, rs, po⟩ => ⟨rho, eta, F, Hb, m, rh, rs, Post.bind po fun ds eta1 vs H1 Hb1 m1 _ rh1 g1 vd po1 => by
    revert po1
    cases q : enI ds eta1 with
    | none => exact fun z => z.elim
    | some a =>
      intro po1
      unfold enI at q
      split at q
      · rename_i es
        cases q
        obtain ⟨v, rfl, k1⟩ := vd.one
        obtain ⟨p, us, rfl, h1, kv⟩ := k1
        rw [z.K]
        exact ⟨p, us, rfl, .inl (Gh.Same.rd rh1.ex h1), po1 _ _ _ _ rh1 Gr.refl (walk_e h1 kv)⟩
      · cases q⟩
end
/-! ### for -/
open Classical in
noncomputable def forD (t : Tgt) (b : CS) (C : Eta → Prop) : List D → CS
  | [] => fun rho eta => if C eta then .nx rho eta else .stuck
  | d :: ds => fun rho eta => if C eta then (match kT t d rho with
    | none => .stuck
    | some r1 => match b r1 eta with
      | .nx r e => forD t b C ds r e
      | .ct r e => forD t b C ds r e
      | .bk r e => .nx r e
      | o => o) else .stuck
noncomputable def cFor (t : Tgt) (ci : CI) (b : CS) : CS := sE ci fun a rho eta => forD t b a.2 a.1 rho eta
section
variable {g : G} {W : WE} {X : Cx} {k : Nat} {tg iter : Expr} {body : List Stmt} {pos : Pos} {ci : CI} {cs : CS} {t : Tgt} {s1 : List Nat}
theorem s_for (z : Cz g X W k) (hi : PI X tg iter (tI g W ci)) (hg : PG X tg (gD g W s1 (kT t))) (hb : PSs X body (tS g W cs)) (hs : ∀ x, foldedSetIterable iter X.env x = pure x := by intro _; rfl) : PS X (.For tg iter body [] pos) (tS g W (cFor t ci cs)) :=
  ps_weak (ps_for z.po z.calm hi hg hb hs) fun D σ H ⟨rho, eta, F, Hb, m, rh, rs, po⟩ => ⟨rho, eta, F, Hb, m, rh, rs, PostS.bindE po rs fun a eta1 J H1 Hb1 m1 _ rh1 g1 rs1 wk po1 => by
    obtain ⟨ds, C⟩ := a
    have wk : WalkD g C J Hb1 m1 ds := wk
    have po1 : PostS g W F Hb1 m1 (forD t cs C ds rho eta1) D := po1
    refine ⟨fun i n σ H => ∃ rho eta Hb' m', RelH g F Hb' m' eta H ∧ RelS g W.xc Hb' m' rho σ ∧ Gr Hb1 m1 Hb' m' ∧ i + n = ds.length ∧ PostS g W F Hb' m' (forD t cs C (ds.drop i) rho eta) D, ⟨ds.length, rho, eta1, Hb1, m1, rh1, rs1, Gr.refl, by simp, by simpa using po1⟩, ?_⟩
    rintro i n σ2 H2 ⟨rho2, eta2, Hb2, m2, rh2, rs2, g2, hn, po2⟩
    by_cases hC : C eta2
    · obtain ⟨w1, w2⟩ := wk F Hb2 m2 eta2 H2 rh2 g2 hC
      cases n with
      | zero =>
        refine .inl ⟨w2 i (by omega), ?_⟩
        have : ds.drop i = [] := List.drop_eq_nil_of_le (by omega)
        rw [this] at po2
        unfold forD at po2
        rw [if_pos hC] at po2
        exact po2 σ2 H2 Hb2 m2 rh2 rs2 Gr.refl
      | succ n =>
        have hl : i < ds.length := by omega
        have e0 : ds[i]? = some ds[i] := List.getElem?_eq_getElem hl
        obtain ⟨w3, w4⟩ := w1 i _ e0
        rw [List.drop_eq_getElem_cons hl] at po2
        unfold forD at po2
        rw [if_pos hC] at po2
        refine .inr ⟨w3, fun σ H => ∃ rho eta Hb' m', RelH g F Hb' m' eta H ∧ RelS g W.xc Hb' m' rho σ ∧ Gr Hb1 m1 Hb' m' ∧ (i + 1) + n = ds.length ∧ PostS g W F Hb' m' (forD t cs C (ds.drop (i + 1)) rho eta) D, fun σ' H' h => ⟨n, Nat.lt_succ_self _, h⟩, fun x H' y => ?_⟩
        obtain ⟨Hb3, rh3, g3, vx⟩ := w4 x H' y
        revert po2
        cases ek : kT t ds[i] rho2 with
        | none => exact fun z => z.elim
        | some rho3 =>
          dsimp only
          intro po2
          refine ⟨ds[i], rho2, eta2, F, Hb3, m2, rho3, rh3, rs2.mono g3, vx, ek, fun σ3 rs3 _ => ⟨rho3, eta2, F, Hb3, m2, rh3, rs3, ?_⟩⟩
          have po3 := po2.grow g3
          revert po3
          cases cs rho3 eta2 with
          | nx r e => exact fun po3 σ' H' Hb' m' r1 r2 r3 => ⟨r, e, Hb', m', r1, r2, (g2.trans g3).trans r3, by omega, po3.grow r3⟩
          | ct r e => exact fun po3 σ' H' Hb' m' r1 r2 r3 => ⟨r, e, Hb', m', r1, r2, (g2.trans g3).trans r3, by omega, po3.grow r3⟩
          | bk r e => exact fun po3 => po3
          | ret d e => exact fun po3 => po3
          | exc x fs r e => exact fun po3 => po3
          | stuck => exact fun po3 => po3
    · exfalso
      revert po2
      cases ds.drop i with
      | nil => unfold forD; rw [if_neg hC]; exact fun z => z
      | cons d r => unfold forD; rw [if_neg hC]; exact fun z => z⟩
end
end Gh
namespace Gh
open PySem PySem.Spec PyProof.Rows L2
/-! ### owned things put in, or given other numbers -/
mutual
def subD (s : Nat → Option D) : D → Option D
  | .ref i => s i
  | .lst ds => (subDs s ds).map .lst
  | .tup ds => (subDs s ds).map .tup
  | .obj c fs => (subDf s fs).map (.obj c)
  | .non => some .non
  | .bl b => some (.bl b)
  | .int i => some (.int i)
  | .str x => some (.str x)
def subDs (s : Nat → Option D) : List D → Option (List D)
  | [] => some []
  | d :: r => (subD s d).bind fun d' => (subDs s r).map fun r' => d' :: r'
def subDf (s : Nat → Option D) : List (Str × D) → Option (List (Str × D))
  | [] => some []
  | (f, d) :: r => (subD s d).bind fun d' => (subDf s r).map fun r' => (f, d') :: r'
end
def subH (s : Nat → Option D) : HD → Option HD
  | .lst ds => (subDs s ds).map .lst
  | .ins c fs => (subDf s fs).map (.ins c)
def subHs (s : Nat → Option D) : List HD → Option (List HD)
  | [] => some []
  | h :: r => (subH s h).bind fun h' => (subHs s r).map fun r' => h' :: r'
section
variable {g : G} {Hb Hb2 : Hp} {m m2 : List Addr} {s : Nat → Option D}
mutual
theorem VD.sub (sm : Same Hb Hb2) (hs : ∀ i d' a, s i = some d' → m[i]? = some a → VD g Hb2 m2 d' (.ref a)) : ∀ (d d' : D) (v : V), subD s d = some d' → VD g Hb m d v → VD g Hb2 m2 d' v
  | .ref i, d', v, e, ⟨a, ev, ha⟩ => by subst ev; exact hs i d' a e ha
  | .lst ds, d', v, e, ⟨a, vs, h1, h2, h3⟩ => by
    unfold subD at e
    obtain ⟨ds', e1, rfl⟩ := Option.map_eq_some_iff.mp e
    exact ⟨a, vs, h1, Gh.Same.rd sm h2, VDs.sub sm hs ds ds' vs e1 h3⟩
  | .tup ds, d', v, e, ⟨a, vs, h1, h2, h3⟩ => by
    unfold subD at e
    obtain ⟨ds', e1, rfl⟩ := Option.map_eq_some_iff.mp e
    exact ⟨a, vs, h1, Gh.Same.tup sm h2, VDs.sub sm hs ds ds' vs e1 h3⟩
  | .obj c fs, d', v, e, ⟨a, dx, ws, h1, h2, h3⟩ => by
    unfold subD at e
    obtain ⟨fs', e1, rfl⟩ := Option.map_eq_some_iff.mp e
    exact ⟨a, dx, ws, h1, sm _ _ h2, VDf.sub sm hs fs fs' ws e1 h3⟩
  | .non, d', v, e, h => by unfold subD at e; cases e; exact h
  | .bl _, d', v, e, h => by unfold subD at e; cases e; exact h
  | .int _, d', v, e, h => by unfold subD at e; cases e; exact h
  | .str _, d', v, e, h => by unfold subD at e; cases e; exact h
theorem VDs.sub (sm : Same Hb Hb2) (hs : ∀ i d' a, s i = some d' → m[i]? = some a → VD g Hb2 m2 d' (.ref a)) : ∀ (ds ds' : List D) (vs : List V), subDs s ds = some ds' → VDs g Hb m ds vs → VDs g Hb2 m2 ds' vs
  | [], ds', vs, e, h => by unfold subDs at e; cases e; exact h
  | d :: r, ds', vs, e, ⟨v, q, h1, h2, h3⟩ => by
    unfold subDs at e
    obtain ⟨d', e1, e⟩ := Option.bind_eq_some_iff.mp e
    obtain ⟨r', e2, rfl⟩ := Option.map_eq_some_iff.mp e
    exact ⟨v, q, h1, VD.sub sm hs d d' v e1 h2, VDs.sub sm hs r r' q e2 h3⟩
theorem VDf.sub (sm : Same Hb Hb2) (hs : ∀ i d' a, s i = some d' → m[i]? = some a → VD g Hb2 m2 d' (.ref a)) : ∀ (fs fs' : List (Str × D)) (ws : List (Str × V)), subDf s fs = some fs' → VDf g Hb m fs ws → VDf g Hb2 m2 fs' ws
  | [], fs', ws, e, h => by unfold subDf at e; cases e; exact h
  | (f, d) :: r, fs', ws, e, ⟨v, q, h1, h2, h3⟩ => by
    unfold subDf at e
    obtain ⟨d', e1, e⟩ := Option.bind_eq_some_iff.mp e
    obtain ⟨r', e2, rfl⟩ := Option.map_eq_some_iff.mp e
    exact ⟨v, q, h1, VD.sub sm hs d d' v e1 h2, VDf.sub sm hs r r' q e2 h3⟩
end
theorem OwnAt.sub (sm : Same Hb Hb2) (hs : ∀ i d' a, s i = some d' → m[i]? = some a → VD g Hb2 m2 d' (.ref a)) {H H' : Hp} {a : Addr} {o o' : HD} (e : subH s o = some o') (ha : H' a = H a) (h : OwnAt g Hb m H a o) : OwnAt g Hb2 m2 H' a o' := by
  cases o with
  | lst ds =>
    unfold subH at e
    obtain ⟨ds', e1, rfl⟩ := Option.map_eq_some_iff.mp e
    obtain ⟨vs, z1, z2⟩ := h
    exact ⟨vs, ha.trans z1, VDs.sub sm hs _ _ _ e1 z2⟩
  | ins c fs =>
    unfold subH at e
    obtain ⟨fs', e1, rfl⟩ := Option.map_eq_some_iff.mp e
    obtain ⟨dx, ws, z1, z2⟩ := h
    exact ⟨dx, ws, ha.trans z1, VDf.sub sm hs _ _ _ e1 z2⟩
theorem subHs_get : ∀ {es es' : List HD} {i : Nat} {o' : HD}, subHs s es = some es' → es'[i]? = some o' → ∃ o, es[i]? = some o ∧ subH s o = some o'
  | [], es', i, o', e, h => by unfold subHs at e; cases e; simp at h
  | x :: es, es', i, o', e, h => by
    unfold subHs at e
    obtain ⟨h', e1, e⟩ := Option.bind_eq_some_iff.mp e
    obtain ⟨r', e2, rfl⟩ := Option.map_eq_some_iff.mp e
    cases i with
    | zero =>
      have : h' = o' := by simpa using h
      subst this
      exact ⟨x, rfl, e1⟩
    | succ i =>
      obtain ⟨o, e3, e4⟩ := subHs_get (i := i) e2 (by simpa using h)
      exact ⟨o, by simpa using e3, e4⟩
theorem subHs_length : ∀ {es es' : List HD}, subHs s es = some es' → es'.length = es.length
  | [], es', e => by unfold subHs at e; cases e; rfl
  | x :: es, es', e => by
    unfold subHs at e
    obtain ⟨h', e1, e⟩ := Option.bind_eq_some_iff.mp e
    obtain ⟨r', e2, rfl⟩ := Option.map_eq_some_iff.mp e
    simp [subHs_length e2]
end
/-! ### what is owned above n becomes pure -/
def frzS (n : Nat) (eta : Eta) : Nat → Nat → Option D
  | 0, i => if i < n then some (.ref i) else none
  | k + 1, i => if i < n then some (.ref i) else match eta[i]? with
    | some (.lst ds) => (subDs (frzS n eta k) ds).map .lst
    | some (.ins c fs) => (subDf (frzS n eta k) fs).map (.obj c)
    | none => none
def frz (n : Nat) (eta : Eta) (d : D) : Option (D × Eta) := if eta.length ≤ n then some (d, eta) else (subD (frzS n eta 4) d).bind fun d' => (subHs (frzS n eta 4) (eta.take n)).map fun e' => (d', e')
def frzX (n : Nat) (eta : Eta) (fs : List (Str × D)) : Option (List (Str × D) × Eta) := if eta.length ≤ n then some (fs, eta) else (subDf (frzS n eta 4) fs).bind fun d' => (subHs (frzS n eta 4) (eta.take n)).map fun e' => (d', e')
open Classical in
noncomputable def frzHp (m : List Addr) (n : Nat) (H Hb : Hp) : Hp := fun a => if a ∈ m.drop n then H a else Hb a
section
variable {g : G} {F Hb H : Hp} {m : List Addr} {eta : Eta} {n : Nat}
theorem frzHp_in {a : Addr} (h : a ∈ m.drop n) : frzHp m n H Hb a = H a := if_pos h
theorem frzHp_out {a : Addr} (h : a ∉ m.drop n) : frzHp m n H Hb a = Hb a := if_neg h
theorem drop_sub {a : Addr} (h : a ∈ m.drop n) : a ∈ m := List.mem_of_mem_drop h
theorem take_drop_no {m : List Addr} {n : Nat} {a : Addr} (nd : m.Nodup) (h1 : a ∈ m.take n) (h2 : a ∈ m.drop n) : False := by
  have := nd
  rw [← List.take_append_drop n m] at this
  exact (List.nodup_append.mp this).2.2 a h1 a h2 rfl
theorem mem_drop_of {m : List Addr} {n i : Nat} {a : Addr} (h : m[i]? = some a) (hi : ¬ i < n) : a ∈ m.drop n := by
  have : (m.drop n)[i - n]? = some a := by rw [List.getElem?_drop]; rw [show n + (i - n) = i by omega]; exact h
  exact List.mem_of_getElem? this
theorem frz_same (rh : RelH g F Hb m eta H) : Same Hb (frzHp m n H Hb) := fun a o e => by
  have : a ∉ m.drop n := fun h => by rw [rh.out a (drop_sub h)] at e; cases e
  rw [frzHp_out this]; exact e
theorem frz_ref (rh : RelH g F Hb m eta H) : ∀ (k i : Nat) (d' : D) (a : Addr), frzS n eta k i = some d' → m[i]? = some a → VD g (frzHp m n H Hb) (m.take n) d' (.ref a)
  | 0, i, d', a, e, h => by
    unfold frzS at e
    split at e
    · rename_i hi
      cases e
      exact ⟨a, rfl, by rw [List.getElem?_take, if_pos hi]; exact h⟩
    · cases e
  | k + 1, i, d', a, e, h => by
    unfold frzS at e
    split at e
    · rename_i hi
      cases e
      exact ⟨a, rfl, by rw [List.getElem?_take, if_pos hi]; exact h⟩
    · rename_i hi
      have hd := mem_drop_of h hi
      split at e
      · rename_i ds e1
        obtain ⟨ds', e2, rfl⟩ := Option.map_eq_some_iff.mp e
        obtain ⟨vs, z1, z2⟩ := own_lst rh e1 h
        exact ⟨a, vs, rfl, .inl (by rw [frzHp_in hd]; exact z1), VDs.sub (frz_same rh) (frz_ref rh k) _ _ _ e2 z2⟩
      · rename_i c fs e1
        obtain ⟨fs', e2, rfl⟩ := Option.map_eq_some_iff.mp e
        obtain ⟨dx, ws, z1, z2⟩ := (show OwnAt g Hb m H a (.ins c fs) from rh.own i a _ h e1)
        exact ⟨a, dx, ws, rfl, by rw [frzHp_in hd]; exact z1, VDf.sub (frz_same rh) (frz_ref rh k) _ _ _ e2 z2⟩
      · cases e
theorem frz_rel (rh : RelH g F Hb m eta H) (hn : n ≤ m.length) {e' : Eta} (e : subHs (frzS n eta 4) (eta.take n) = some e') : RelH g F (frzHp m n H Hb) (m.take n) e' H := by
  refine ⟨fun a o h => ?_, fun a o h => ?_, ?_, rh.nd.sublist (List.take_sublist _ _), fun a h => ?_, fun i a o h1 h2 => ?_⟩
  · obtain ⟨f1, f2, f3⟩ := rh.fr a o h
    exact ⟨f1, by rw [frzHp_out fun z => f3 (drop_sub z)]; exact f2, fun z => f3 (List.mem_of_mem_take z)⟩
  · by_cases hd : a ∈ m.drop n
    · rw [frzHp_in hd] at h; exact h
    · rw [frzHp_out hd] at h; exact rh.ex _ _ h
  · rw [subHs_length e, List.length_take, List.length_take, rh.len]
  · rw [frzHp_out fun z => take_drop_no rh.nd h z]
    exact rh.out a (List.mem_of_mem_take h)
  · obtain ⟨o0, e1, e2⟩ := subHs_get e h2
    rw [List.getElem?_take] at h1 e1
    split at h1
    · rename_i hi
      rw [if_pos hi] at e1
      exact (rh.own i a o0 h1 e1).sub (frz_same rh) (frz_ref rh 4) e2 rfl
    · cases h1
end
/-! ### a def's promise -/
abbrev Fd := List D → Eta → Out D
def W0 (E : XK) : WE := ⟨fun c d _ H => E c d H, none⟩
def spD (g : G) (n : Nat) (f : Fd) : Sp := fun vs H Q E => vs.length = n ∧ ∃ ds eta F Hb m, RelH g F Hb m eta H ∧ VDs g Hb m ds vs ∧ Post g (W0 E) (relD g) F [] Hb m (f ds eta) Q
def startD (n : Nat) (ds : List D) : Rho := ds.map some ++ List.replicate (n - ds.length) none
def endF (o : OutS) : Out D := match o with
  | .nx _ e => .ok .non e
  | .ret d e => .ok d e
  | .exc x fs _ e => .exc x fs e
  | _ => .stuck
def bodyF (n : Nat) (c : CS) : Fd := fun ds eta => endF (c (startD n ds) eta)
/-- all that was laid within becomes pure -/
def fzO (n : Nat) (o : Out D) : Out D := match o with
  | .ok d e => (match frz n e d with | some (d', e') => .ok d' e' | none => .stuck)
  | .exc x fs e => (match frzX n e fs with | some (fs', e') => .exc x fs' e' | none => .stuck)
  | .stuck => .stuck
def fz (f : Fd) : Fd := fun ds eta => fzO eta.length (f ds eta)
section
variable {g : G} {W : WE} {F Hb H : Hp} {m : List Addr} {σ : L2.St} {Q : VK}
theorem Gr.take {Hb1 : Hp} {m1 : List Addr} (h : Gr Hb m Hb1 m1) : m1.take m.length = m := by
  refine List.ext_getElem? fun i => ?_
  rw [List.getElem?_take]
  split
  · rename_i hi
    rw [List.getElem?_eq_getElem hi]
    exact h.m i _ (List.getElem?_eq_getElem hi)
  · rw [List.getElem?_eq_none (by omega)]
theorem Gr.len {Hb1 : Hp} {m1 : List Addr} (h : Gr Hb m Hb1 m1) : m.length ≤ m1.length := by
  have := congrArg List.length h.take
  rw [List.length_take] at this
  omega
theorem XD.sub {Hb2 : Hp} {m2 : List Addr} {s : Nat → Option D} (sm : Same Hb Hb2) (hs : ∀ i d' a, s i = some d' → m[i]? = some a → VD g Hb2 m2 d' (.ref a)) {x : Nat} {fs fs' : List (Str × D)} {cls : Value} {dd : Option Addr} (e : subDf s fs = some fs') (h : XD g Hb m x fs cls dd) : XD g Hb2 m2 x fs' cls dd := by
  obtain ⟨h1, ⟨h2, h3⟩ | ⟨a, ws, h2, h3, h4⟩⟩ := h
  · subst h2
    unfold subDf at e
    cases e
    exact ⟨h1, .inl ⟨rfl, h3⟩⟩
  · exact ⟨h1, .inr ⟨a, ws, h2, sm _ _ h3, VDf.sub sm hs _ _ _ e h4⟩⟩
theorem Post.fz {o : Out D} (h : Post g W (relD g) F σ Hb m (fzO m.length o) Q) : Post g W (relD g) F σ Hb m o Q := by
  cases o with
  | ok d e =>
    intro v H1 Hb1 m1 rh g1 vd
    revert h
    show Post g W (relD g) F σ Hb m (match frz m.length e d with | some (d', e') => .ok d' e' | none => .stuck) Q → _
    cases q : frz m.length e d with
    | none => exact fun z => z.elim
    | some r =>
      obtain ⟨d', e'⟩ := r
      intro h
      unfold frz at q
      split at q
      · cases q
        exact h v H1 Hb1 m1 rh g1 vd
      · obtain ⟨d2, q1, q⟩ := Option.bind_eq_some_iff.mp q
        obtain ⟨e2, q2, q3⟩ := Option.map_eq_some_iff.mp q
        cases q3
        have rh2 := frz_rel rh g1.len q2
        have vd2 := VD.sub (frz_same (n := m.length) rh) (frz_ref rh 4) _ _ _ q1 vd
        rw [g1.take] at rh2 vd2
        exact h v H1 _ m rh2 ⟨g1.h.trans (frz_same rh), fun _ _ h => h⟩ vd2
  | exc x fs e =>
    intro cls dd H1 Hb1 m1 rh g1 xd
    revert h
    show Post g W (relD g) F σ Hb m (match frzX m.length e fs with | some (fs', e') => .exc x fs' e' | none => .stuck) Q → _
    cases q : frzX m.length e fs with
    | none => exact fun z => z.elim
    | some r =>
      obtain ⟨d', e'⟩ := r
      intro h
      unfold frzX at q
      split at q
      · cases q
        exact h cls dd H1 Hb1 m1 rh g1 xd
      · obtain ⟨d2, q1, q⟩ := Option.bind_eq_some_iff.mp q
        obtain ⟨e2, q2, q3⟩ := Option.map_eq_some_iff.mp q
        cases q3
        have rh2 := frz_rel rh g1.len q2
        have vd2 := XD.sub (frz_same (n := m.length) rh) (frz_ref rh 4) q1 xd
        rw [g1.take] at rh2 vd2
        exact h cls dd H1 _ m rh2 ⟨g1.h.trans (frz_same rh), fun _ _ h => h⟩ vd2
  | stuck => exact h
theorem spD_fz {n : Nat} {f : Fd} {vs : List V} {E : XK} (h : spD g n (fz f) vs H Q E) : spD g n f vs H Q E := by
  obtain ⟨h0, ds, eta, F, Hb, m, rh, vd, po⟩ := h
  refine ⟨h0, ds, eta, F, Hb, m, rh, vd, ?_⟩
  unfold fz at po
  rw [← rh.len] at po
  exact Post.fz po
/-- the same with other σ -/
theorem Post.sig {E : XK} {o : Out D} {σ' : L2.St} (h : Post g (W0 E) (relD g) F σ Hb m o Q) : Post g (W0 E) (relD g) F σ' Hb m o Q := by
  cases o with
  | ok _ _ => exact h
  | exc _ _ _ => exact h
  | stuck => exact h
end
/-! ### the focus: a call sees the first p owned things alone -/
def lowS (p : Nat) (i : Nat) : Option D := if i < p then some (.ref i) else none
def upS (p n : Nat) (i : Nat) : Option D := if i < p then some (.ref i) else some (.ref (i - p + n))
def backD (p : Nat) (eta : Eta) (d : D) (e1 : Eta) : Out D :=
  if e1.length = p then .ok d (e1 ++ eta.drop p)
  else match subD (upS p eta.length) d, subHs (upS p eta.length) (e1.take p), subHs (upS p eta.length) (e1.drop p) with
    | some d', some a, some b => .ok d' (a ++ eta.drop p ++ b)
    | _, _, _ => .stuck
def backO (p : Nat) (eta : Eta) (o : Out D) : Out D := match o with
  | .ok d e1 => backD p eta d e1
  | .exc x fs e1 => if e1.length = p then .exc x fs (e1 ++ eta.drop p) else .stuck
  | .stuck => .stuck
def callD (p : Nat) (f : Fd) (as : List D) (eta : Eta) : Out D := if p ≤ eta.length then (match subDs (lowS p) as, subHs (lowS p) (eta.take p) with | some as', some e0 => backO p eta (f as' e0) | _, _ => .stuck) else .stuck
open Classical in
noncomputable def fcHp (m : List Addr) (p : Nat) (H F : Hp) : Hp := fun a => if a ∈ m.drop p then H a else F a
section
variable {g : G} {W : WE} {F Hb H : Hp} {m : List Addr} {eta : Eta} {p : Nat} {σ : L2.St} {Q : VK}
theorem fcHp_in {a : Addr} (h : a ∈ m.drop p) : fcHp m p H F a = H a := if_pos h
theorem fcHp_out {a : Addr} (h : a ∉ m.drop p) : fcHp m p H F a = F a := if_neg h
theorem own_some (rh : RelH g F Hb m eta H) {a : Addr} (h : a ∈ m) : ∃ o, H a = some o := by
  obtain ⟨i, hi, rfl⟩ := List.getElem_of_mem h
  have hl : i < eta.length := by rw [← rh.len]; exact hi
  have z := rh.own i m[i] eta[i] (List.getElem?_eq_getElem hi) (List.getElem?_eq_getElem hl)
  cases q : eta[i] with
  | lst ds => rw [q] at z; obtain ⟨vs, z, _⟩ := z; exact ⟨_, z⟩
  | ins c fs => rw [q] at z; obtain ⟨dx, ws, z, _⟩ := z; exact ⟨_, z⟩
theorem RelH.focus {e0 : Eta} (rh : RelH g F Hb m eta H) (hq : subHs (lowS p) (eta.take p) = some e0) : RelH g (fcHp m p H F) Hb (m.take p) e0 H := by
  have sm : Same Hb Hb := Same.refl _
  have hs : ∀ i d' a, lowS p i = some d' → m[i]? = some a → VD g Hb (m.take p) d' (.ref a) := fun i d' a e h => by
    unfold lowS at e
    split at e
    · rename_i hi
      cases e
      exact ⟨a, rfl, by rw [List.getElem?_take, if_pos hi]; exact h⟩
    · cases e
  refine ⟨fun a o h => ?_, rh.ex, by rw [subHs_length hq, List.length_take, List.length_take, rh.len], rh.nd.sublist (List.take_sublist _ _), fun a h => rh.out a (List.mem_of_mem_take h), fun i a o h1 h2 => ?_⟩
  · by_cases hd : a ∈ m.drop p
    · rw [fcHp_in hd] at h
      exact ⟨h, rh.out a (drop_sub hd), fun z => take_drop_no rh.nd z hd⟩
    · rw [fcHp_out hd] at h
      obtain ⟨f1, f2, f3⟩ := rh.fr a o h
      exact ⟨f1, f2, fun z => f3 (List.mem_of_mem_take z)⟩
  · obtain ⟨o', e1, e2⟩ := subHs_get hq h2
    rw [List.getElem?_take] at h1 e1
    split at h1
    · rename_i hi
      rw [if_pos hi] at e1
      exact (rh.own i a o' h1 e1).sub sm hs e2 rfl
    · cases h1
theorem low_args {as as' : List D} {vs : List V} (e : subDs (lowS p) as = some as') (h : VDs g Hb m as vs) : VDs g Hb (m.take p) as' vs :=
  VDs.sub (Same.refl _) (fun i d' a e h => by
    unfold lowS at e
    split at e
    · rename_i hi
      cases e
      exact ⟨a, rfl, by rw [List.getElem?_take, if_pos hi]; exact h⟩
    · cases e) _ _ _ e h
/-- behind the call: the caller's own things stand -/
theorem RelH.unfocus {F0 Hb1 H1 : Hp} {m1 mE : List Addr} {eA eB : Eta} (rh : RelH g F Hb m eta H) (hp : p ≤ m.length) (g1 : Gr Hb (m.take p) Hb1 m1) (fr : ∀ a o, fcHp m p H F a = some o → H1 a = some o ∧ Hb1 a = none ∧ a ∉ m1) (ex : Same Hb1 H1) (nd : m1.Nodup) (out : ∀ a ∈ m1, Hb1 a = none)
    (lA : eA.length = p) (lB : eB.length = m1.length - p)
    (hA : ∀ (i : Nat) (a : Addr) (o : HD), m1[i]? = some a → eA[i]? = some o → OwnAt g Hb1 (m1.take p ++ m.drop p ++ m1.drop p) H1 a o)
    (hB : ∀ (i : Nat) (a : Addr) (o : HD), (m1.drop p)[i]? = some a → eB[i]? = some o → OwnAt g Hb1 (m1.take p ++ m.drop p ++ m1.drop p) H1 a o) :
    RelH g F Hb1 (m1.take p ++ m.drop p ++ m1.drop p) (eA ++ eta.drop p ++ eB) H1 ∧ Gr Hb m Hb1 (m1.take p ++ m.drop p ++ m1.drop p) := by
  have tp : (m.take p).length = p := by rw [List.length_take]; omega
  have tk : m1.take p = m.take p := by rw [← tp]; rw [tp]; have := g1.take; rw [tp] at this; exact this
  have lp : p ≤ m1.length := by have := g1.len; rw [tp] at this; exact this
  have gr : Gr Hb m Hb1 (m1.take p ++ m.drop p ++ m1.drop p) := ⟨g1.h, fun i a h => by
    rw [tk, List.take_append_drop, List.getElem?_append_left (List.getElem?_eq_some_iff.mp h).1]
    exact h⟩
  have disj : ∀ a, a ∈ m.drop p → a ∉ m1 := fun a h => by
    obtain ⟨o, e⟩ := own_some rh (drop_sub h)
    exact (fr a o (by rw [fcHp_in h]; exact e)).2.2
  refine ⟨⟨fun a o h => ?_, ex, ?_, ?_, fun a h => ?_, fun i a o h1 h2 => ?_⟩, gr⟩
  · obtain ⟨f1, f2, f3⟩ := rh.fr a o h
    have nd' : a ∉ m.drop p := fun z => f3 (drop_sub z)
    obtain ⟨k1, k2, k3⟩ := fr a o (by rw [fcHp_out nd']; exact h)
    refine ⟨k1, k2, fun z => ?_⟩
    rcases List.mem_append.mp z with z | z
    · rcases List.mem_append.mp z with z | z
      · exact k3 (List.mem_of_mem_take z)
      · exact nd' z
    · exact k3 (drop_sub z)
  · simp only [List.length_append, List.length_take, List.length_drop, lA, lB, rh.len]
    omega
  · refine List.nodup_append.mpr ⟨List.nodup_append.mpr ⟨nd.sublist (List.take_sublist _ _), rh.nd.sublist (List.drop_sublist _ _), fun a h1 b h2 e => disj b h2 (e ▸ List.mem_of_mem_take h1)⟩, nd.sublist (List.drop_sublist _ _), fun a h1 b h2 e => ?_⟩
    subst e
    rcases List.mem_append.mp h1 with h1 | h1
    · exact take_drop_no nd h1 h2
    · exact disj a h1 (drop_sub h2)
  · rcases List.mem_append.mp h with z | z
    · rcases List.mem_append.mp z with z | z
      · exact out a (List.mem_of_mem_take z)
      · obtain ⟨o, e⟩ := own_some rh (drop_sub z)
        exact (fr a o (by rw [fcHp_in z]; exact e)).2.1
    · exact out a (drop_sub z)
  · have l1 : (m1.take p).length = p := by rw [List.length_take]; omega
    have l2 : (m1.take p ++ m.drop p).length = m.length := by rw [List.length_append, l1, List.length_drop]; omega
    have l3 : (eA ++ eta.drop p).length = m.length := by rw [List.length_append, lA, List.length_drop, rh.len]; have := rh.len; omega
    by_cases hi : i < m.length
    · rw [List.getElem?_append_left (by rw [l2]; exact hi)] at h1
      rw [List.getElem?_append_left (by rw [l3]; exact hi)] at h2
      by_cases hj : i < p
      · rw [List.getElem?_append_left (by rw [l1]; exact hj), List.getElem?_take, if_pos hj] at h1
        rw [List.getElem?_append_left (by rw [lA]; exact hj)] at h2
        exact hA i a o h1 h2
      · rw [List.getElem?_append_right (by rw [l1]; omega), l1, List.getElem?_drop] at h1
        rw [List.getElem?_append_right (by rw [lA]; omega), lA, List.getElem?_drop] at h2
        have e1 : p + (i - p) = i := by omega
        rw [e1] at h1 h2
        have hd := mem_drop_of h1 hj
        obtain ⟨o1, e2⟩ := own_some rh (drop_sub hd)
        exact (rh.own i a o h1 h2).mono gr ((fr a o1 (by rw [fcHp_in hd]; exact e2)).1.trans e2.symm)
    · rw [List.getElem?_append_right (by rw [l2]; omega), l2] at h1
      rw [List.getElem?_append_right (by rw [l3]; omega), l3] at h2
      exact hB _ a o h1 h2
theorem back_ok {o : Out D} (rh : RelH g F Hb m eta H) (hp : p ≤ m.length) (h : Post g W (relD g) F σ Hb m (backO p eta o) Q) : Post g W (relD g) (fcHp m p H F) σ Hb (m.take p) o Q := by
  have tp : (m.take p).length = p := by rw [List.length_take]; omega
  cases o with
  | ok d e1 =>
    intro v H1 Hb1 m1 rh1 g1 vd
    have lp : p ≤ m1.length := by have := g1.len; rw [tp] at this; exact this
    have l1 : (m1.take p).length = p := by rw [List.length_take]; omega
    have l2 : (m1.take p ++ m.drop p).length = m.length := by rw [List.length_append, l1, List.length_drop]; omega
    revert h
    show Post g W (relD g) F σ Hb m (backD p eta d e1) Q → _
    unfold backD
    split
    · rename_i le
      intro h
      have lm : m1.length = p := by rw [rh1.len]; exact le
      have gE : Gr Hb1 m1 Hb1 (m1.take p ++ m.drop p ++ m1.drop p) := ⟨Same.refl _, fun i a h => by
        have hl := (List.getElem?_eq_some_iff.mp h).1
        rw [List.getElem?_append_left (by rw [l2]; omega), List.getElem?_append_left (by rw [l1]; omega), List.getElem?_take, if_pos (by omega)]
        exact h⟩
      obtain ⟨r, gr⟩ := rh.unfocus (F0 := F) (mE := []) (eA := e1) (eB := []) hp g1 rh1.fr rh1.ex rh1.nd rh1.out le (by simp [lm]) (fun i a o h1 h2 => (rh1.own i a o h1 h2).mono gE rfl) (fun i a o h1 h2 => by simp at h2)
      rw [List.append_nil] at r
      exact h v H1 Hb1 _ r gr (VD.mono gE _ _ vd)
    · rename_i le
      split
      · rename_i d' eA eB q1 q2 q3
        intro h
        have hs : ∀ i d' a, upS p eta.length i = some d' → m1[i]? = some a → VD g Hb1 (m1.take p ++ m.drop p ++ m1.drop p) d' (.ref a) := fun i d' a e h => by
          unfold upS at e
          split at e
          · rename_i hi
            cases e
            refine ⟨a, rfl, ?_⟩
            rw [List.getElem?_append_left (by rw [l2]; omega), List.getElem?_append_left (by rw [l1]; omega), List.getElem?_take, if_pos hi]
            exact h
          · rename_i hi
            cases e
            refine ⟨a, rfl, ?_⟩
            rw [← rh.len, List.getElem?_append_right (by rw [l2]; omega), l2, List.getElem?_drop]
            have e1 : p + (i - p + m.length - m.length) = i := by omega
            rw [e1]
            exact h
        have lA : eA.length = p := by rw [subHs_length q2, List.length_take, ← rh1.len]; omega
        obtain ⟨r, gr⟩ := rh.unfocus (F0 := F) (mE := []) (eA := eA) (eB := eB) hp g1 rh1.fr rh1.ex rh1.nd rh1.out lA (by rw [subHs_length q3, List.length_drop, rh1.len]) (fun i a o h1 h2 => by
          obtain ⟨o', k1, k2⟩ := subHs_get q2 h2
          rw [List.getElem?_take] at k1
          split at k1
          · exact (rh1.own i a o' h1 k1).sub (Same.refl _) hs k2 rfl
          · cases k1) (fun i a o h1 h2 => by
          obtain ⟨o', k1, k2⟩ := subHs_get q3 h2
          rw [List.getElem?_drop] at k1 h1
          exact (rh1.own _ a o' h1 k1).sub (Same.refl _) hs k2 rfl)
        exact h v H1 Hb1 _ r gr (VD.sub (Same.refl _) hs _ _ _ q1 vd)
      · exact fun z => z.elim
  | exc x fs e1 =>
    intro cls dd H1 Hb1 m1 rh1 g1 xd
    have lp : p ≤ m1.length := by have := g1.len; rw [tp] at this; exact this
    have l1 : (m1.take p).length = p := by rw [List.length_take]; omega
    have l2 : (m1.take p ++ m.drop p).length = m.length := by rw [List.length_append, l1, List.length_drop]; omega
    revert h
    show Post g W (relD g) F σ Hb m (if e1.length = p then .exc x fs (e1 ++ eta.drop p) else .stuck) Q → _
    split
    · rename_i le
      intro h
      have lm : m1.length = p := by rw [rh1.len]; exact le
      have gE : Gr Hb1 m1 Hb1 (m1.take p ++ m.drop p ++ m1.drop p) := ⟨Same.refl _, fun i a h => by
        have hl := (List.getElem?_eq_some_iff.mp h).1
        rw [List.getElem?_append_left (by rw [l2]; omega), List.getElem?_append_left (by rw [l1]; omega), List.getElem?_take, if_pos (by omega)]
        exact h⟩
      obtain ⟨r, gr⟩ := rh.unfocus (F0 := F) (mE := []) (eA := e1) (eB := []) hp g1 rh1.fr rh1.ex rh1.nd rh1.out le (by simp [lm]) (fun i a o h1 h2 => (rh1.own i a o h1 h2).mono gE rfl) (fun i a o h1 h2 => by simp at h2)
      rw [List.append_nil] at r
      exact h cls dd H1 Hb1 _ r gr (xd.mono gE)
    · exact fun z => z.elim
  | stuck => exact h
end
end Gh
namespace Gh
open PySem PySem.Spec PyProof.Rows L2
/-- the order of a call's values, as data -/
def ArrD (g : G) (n nk N : Nat) (gD : List D → List D → List D) (gV : List V → List V → List V) : Prop := ∀ (Hb : Hp) (m : List Addr) (ds es : List D) (vs zs : List V), ds.length = n → es.length = nk → VDs g Hb m ds vs → VDs g Hb m es zs → VDs g Hb m (gD ds es) (gV vs zs) ∧ (gV vs zs).length = N
/-- values by place alone -/
theorem arr_v (g : G) (n : Nat) : ArrD g n 0 n (fun ds _ => ds) (fun vs _ => vs) := fun Hb m ds es vs zs h1 _ k1 _ => ⟨k1, by rw [← k1.length]; exact h1⟩
def cFn (p : Nat) (f : Fd) (n nk : Nat) (gD : List D → List D → List D) (ca ck : CA) : CE := cb ca fun ds => cb ck fun es _ eta => if ds.length = n ∧ es.length = nk then callD p f (gD ds es) eta else .stuck
section
variable {g : G} {W : WE} {F Hb H : Hp} {m : List Addr} {eta : Eta} {p : Nat} {σ : L2.St} {Q : VK}
theorem Post.toW0 {o : Out D} (h : Post g W (relD g) F σ Hb m o Q) {σ' : L2.St} : Post g (W0 fun c d H => W.w c d σ H) (relD g) F σ' Hb m o Q := by
  cases o with
  | ok _ _ => exact h
  | exc _ _ _ => exact h
  | stuck => exact h
theorem call_ok {f : Fd} {as : List D} {vs : List V} {N : Nat} (rh : RelH g F Hb m eta H) (hl : vs.length = N) (vd : VDs g Hb m as vs) (h : Post g W (relD g) F σ Hb m (callD p f as eta) Q) : spD g N f vs H Q (fun c d H => W.w c d σ H) := by
  unfold callD at h
  split at h
  · rename_i hp
    rw [← rh.len] at hp
    split at h
    · rename_i as' e0 q1 q2
      exact ⟨hl, as', e0, _, Hb, m.take p, rh.focus q2, low_args q1 vd, (back_ok rh hp h).toW0⟩
    · exact h.elim
  · exact h.elim
end
section
variable {g : G} {W : WE} {X : Cx} {kk k n N : Nat} {f C : Addr} {fd : FuncData} {ps ks : List Str} {fD : Fd} {gg : List Value → List Value → List Value} {gV : List V → List V → List V} {gD : List D → List D → List D} {x m : Str} {p0 pos apos : Pos} {o : Expr} {es : List Expr} {kws : List Keyword} {ca ck : CA} {co : CE}
theorem d_call (p : Nat) (z : Cz g X W kk) (F : FnG X.prog X.w X.K X.mg X.base k f fd ps (spD g N fD)) (hk : k ≤ kk) (hm : X.mg x = some (.ref f)) (hkp : PySem.W.keepIn X.K (.ref f) = true) (hb : KBn X.K fd ps n ks gg gV) (hG : ArrD g n ks.length N gD gV) (ha : PAK X pos es kws ks (tA g W ca) (tA g W ck)) (hg : Gl X x := by rfl)
    (hdb : (x == ("__debug__" : Str)) = false := by decide) : PE X (.Call (.Name x p0) es kws pos) (tD g W (cFn p fD n ks.length gD ca ck)) :=
  pe_weak (pe_g (E := fun σ cls d H => W.w cls d σ H) F (z.rm.mono hk) hg hm hkp hb (pass_s z.tk) ha hdb) fun σ H Q ⟨rho, eta, F0, Hb, m, rh, rs, po⟩ => ⟨rho, eta, F0, Hb, m, rh, rs, Post.bind po fun ds eta1 vs H1 Hb1 m1 _ rh1 g1 vd po1 =>
    ⟨rho, eta1, F0, Hb1, m1, rh1, rs.mono g1, Post.bind po1 fun es eta2 zs H2 Hb2 m2 _ rh2 g2 ve po2 => by
      revert po2
      split
      · rename_i hl
        intro po2
        obtain ⟨k1, k2⟩ := hG Hb2 m2 ds es vs zs hl.1 hl.2 (VDs.mono g2 _ _ vd) ve
        exact ⟨by rw [← vd.length]; exact hl.1, by rw [← ve.length]; exact hl.2, call_ok rh2 k2 k1 po2⟩
      · exact fun z => z.elim⟩⟩
/-- an instance's class, its attributes -/
def insOf (eta : Eta) : D → Option (Nat × List (Str × D))
  | .obj c fs => some (c, fs)
  | .ref i => match eta[i]? with | some (.ins c fs) => some (c, fs) | _ => none
  | _ => none
theorem insOf_ok {F Hb H : Hp} {m : List Addr} {eta : Eta} {d : D} {v : V} {c : Nat} {fs : List (Str × D)} (rh : RelH g F Hb m eta H) (vd : VD g Hb m d v) (e : insOf eta d = some (c, fs)) : ∃ a dx ws, v = .ref a ∧ H a = some (.ins (g.cl c) dx ws) ∧ VDf g Hb m fs ws := by
  cases d with
  | obj c' fs' =>
    unfold insOf at e
    cases e
    obtain ⟨a, dx, ws, rfl, h1, h2⟩ := vd
    exact ⟨a, dx, ws, rfl, rh.ex _ _ h1, h2⟩
  | ref i =>
    unfold insOf at e
    dsimp only at e
    split at e
    · rename_i c' fs' e1
      cases e
      obtain ⟨a, rfl, hm⟩ := vd
      obtain ⟨dx, ws, z1, z2⟩ := (show OwnAt g Hb m H a (.ins c fs) from rh.own i a _ hm e1)
      exact ⟨a, dx, ws, rfl, z1, z2⟩
    · cases e
  | non => cases e
  | bl _ => cases e
  | int _ => cases e
  | str _ => cases e
  | lst _ => cases e
  | tup _ => cases e
theorem VDf.get {Hb : Hp} {m : List Addr} {f : Str} : ∀ {fs : List (Str × D)} {ws : List (Str × V)} {d : D}, VDf g Hb m fs ws → fs.lookup f = some d → ∃ v, ws.lookup f = some v ∧ VD g Hb m d v
  | [], ws, d, h, e => by cases e
  | (f', d') :: r, ws, d, ⟨v, q, h1, h2, h3⟩, e => by
    subst h1
    by_cases hf : f == f'
    · simp only [List.lookup, hf] at e ⊢
      cases e
      exact ⟨v, rfl, h2⟩
    · simp only [List.lookup, hf] at e ⊢
      exact VDf.get h3 e
theorem VDf.none {Hb : Hp} {m : List Addr} {f : Str} : ∀ {fs : List (Str × D)} {ws : List (Str × V)}, VDf g Hb m fs ws → fs.lookup f = Option.none → ws.lookup f = Option.none
  | [], ws, h, e => by
    have h : ws = [] := h
    subst h; rfl
  | (f', d') :: r, ws, ⟨v, q, h1, h2, h3⟩, e => by
    subst h1
    by_cases hf : f == f'
    · simp only [List.lookup, hf] at e; cases e
    · simp only [List.lookup, hf] at e ⊢
      exact VDf.none h3 e
/-- o.m(e, .., k = v, ..), m a method of class c -/
def cMeth (c : Nat) (mm : Str) (p : Nat) (f : Fd) (n nk : Nat) (gD : List D → List D → List D) (co : CE) (ca ck : CA) : CE := cb co fun o rho eta => match insOf eta o with
  | some (c', fs) => if c' = c ∧ fs.lookup mm = none then cb ca (fun ds => cb ck fun es _ eta => if ds.length = n ∧ es.length = nk then callD p f (gD (o :: ds) es) eta else .stuck) rho eta else .stuck
  | none => .stuck
theorem d_meth (p c : Nat) {pl : Sem Bool} (z : Cz g X W kk) (hC : Cls X.K (g.cl c)) (hM : Meth X.K (g.cl c) m f) (F : FnG X.prog X.w X.K X.mg X.base k f fd ps (spD g N fD)) (hk : k ≤ kk) (hb : KBn X.K fd ps (n + 1) ks gg gV) (hG : ArrD g (n + 1) ks.length N gD gV) (ho : PE X o (tD g W co)) (ha : PAK X pos es kws ks (tA g W ca) (tA g W ck))
    (ht : eval (.Call (.Attribute o m apos) es kws pos) X.env = (do
      let ov ← eval o X.env
      standAt apos.atName
      let (f, first) ← holding [ov] (getMethod ov m pl)
      callWith pos f first (backTo pos (starEach es X.env)) (backToKw pos (keywordEach kws X.env))) := by rfl) :
    PE X (.Call (.Attribute o m apos) es kws pos) (tD g W (cMeth c m p fD n ks.length gD co ca ck)) :=
  pe_weak (pe_gm (E := fun σ cls d H => W.w cls d σ H) ho hC hM F (z.rm.mono hk) hb (pass_s z.tk) ha ht) fun σ H Q ⟨rho, eta, F0, Hb, mA, rh, rs, po⟩ => ⟨rho, eta, F0, Hb, mA, rh, rs, Post.bind po fun d eta0 v H0 Hb0 m0 _ rh0 g0 vo po0 => by
    revert po0
    cases q : insOf eta0 d with
    | none => exact fun z => z.elim
    | some r =>
      obtain ⟨c', fs⟩ := r
      dsimp only
      split
      · rename_i hc
        obtain ⟨rfl, hl⟩ := hc
        intro po0
        obtain ⟨a, dx, ws, rfl, h1, h2⟩ := insOf_ok rh0 vo q
        exact ⟨a, dx, ws, rfl, h1, h2.none hl, rho, eta0, F0, Hb0, m0, rh0, rs.mono g0, Post.bind po0 fun ds eta1 vs H1 Hb1 m1 _ rh1 g1 vd po1 =>
          ⟨rho, eta1, F0, Hb1, m1, rh1, (rs.mono g0).mono g1, Post.bind po1 fun es eta2 zs H2 Hb2 m2 _ rh2 g2 ve po2 => by
            revert po2
            split
            · rename_i hl
              intro po2
              obtain ⟨k1, k2⟩ := hG Hb2 m2 (d :: ds) es (.ref a :: vs) zs (by simp [hl.1]) hl.2 ⟨.ref a, vs, rfl, VD.mono (g1.trans g2) _ _ vo, VDs.mono g2 _ _ vd⟩ ve
              exact ⟨by rw [← vd.length]; exact hl.1, by rw [← ve.length]; exact hl.2, call_ok rh2 k2 k1 po2⟩
            · exact fun z => z.elim⟩⟩
      · exact fun z => z.elim⟩
/-! ### an instance is made -/
def makeO (p : Nat) (eta : Eta) (o : Out D) : Out D := match o with
  | .ok .non e1 => (match frz p e1 (.ref p) with | some (d, e2) => .ok d (e2 ++ eta.drop p) | none => .stuck)
  | .exc x fs e1 => (match frzX p e1 fs with | some (fs', e2) => .exc x fs' (e2 ++ eta.drop p) | none => .stuck)
  | _ => .stuck
def makeD (c p : Nat) (f : Fd) (gD : List D → List D → List D) (ds es : List D) (eta : Eta) : Out D := if p ≤ eta.length then (match subDs (lowS p) ds, subDs (lowS p) es, subHs (lowS p) (eta.take p) with
  | some ds', some es', some e0 => makeO p eta (f (gD (.ref p :: ds') es') (e0 ++ [.ins c []]))
  | _, _, _ => .stuck) else .stuck
def cMake (c p : Nat) (f : Fd) (n nk : Nat) (gD : List D → List D → List D) (ca ck : CA) : CE := cb ca fun ds => cb ck fun es _ eta => if ds.length = n ∧ es.length = nk then makeD c p f gD ds es eta else .stuck
theorem RelH.made {F Hb H : Hp} {mA : List Addr} {eta : Eta} {c : Nat} (rh : RelH g F Hb mA eta H) {x dx : Addr} (hx : H x = none) (hd : H dx = none) (ne : dx ≠ x) :
    ∃ Hb1, RelH g F Hb1 (mA ++ [x]) (eta ++ [.ins c []]) (upd (upd H dx (.own x)) x (.ins (g.cl c) dx [])) ∧ Gr Hb mA Hb1 (mA ++ [x]) := by
  obtain ⟨r1, g1⟩ := rh.pure (o := .own x) hd
  obtain ⟨r2, g2⟩ := r1.fresh (o := .ins (g.cl c) dx []) (u := .ins c []) (p := x) (by rw [upd_ne (Ne.symm ne)]; exact hx) ⟨dx, [], upd_same, rfl⟩
  exact ⟨_, r2, g1.trans g2⟩
theorem make_ok {F Hb H : Hp} {mA : List Addr} {eta : Eta} {σ : L2.St} {Q : VK} {c p : Nat} {ds es : List D} {vs zs : List V} (rh : RelH g F Hb mA eta H) (hG : ArrD g (n + 1) nk N gD gV) (h1 : ds.length = n) (h2 : es.length = nk) (vd : VDs g Hb mA ds vs) (ve : VDs g Hb mA es zs)
    (h : Post g W (relD g) F σ Hb mA (makeD c p fD gD ds es eta) Q) {x dx : Addr} (hx : H x = none) (hd : H dx = none) (ne : dx ≠ x) :
    spD g N fD (gV (.ref x :: vs) zs) (upd (upd H dx (.own x)) x (.ins (g.cl c) dx [])) (fun v H3 => v = .non ∧ Q (.ref x) H3) (fun cls d H => W.w cls d σ H) := by
  unfold makeD at h
  split at h
  · rename_i hp
    rw [← rh.len] at hp
    split at h
    · rename_i ds' es' e0 q1 q2 q3
      have rf := rh.focus (p := p) q3
      obtain ⟨Hb1, r1, gr1⟩ := rf.made (c := c) hx hd ne
      have tp : (mA.take p).length = p := by rw [List.length_take]; omega
      have vx : VD g Hb1 (mA.take p ++ [x]) (.ref p) (.ref x) := ⟨x, rfl, by rw [List.getElem?_append_right (by omega), tp]; simp⟩
      have la : ∀ {as as' : List D} {ws : List V}, subDs (lowS p) as = some as' → VDs g Hb mA as ws → VDs g Hb1 (mA.take p ++ [x]) as' ws := fun e k => VDs.mono gr1 _ _ (low_args e k)
      have ld' : ds'.length = n := by
        have : ∀ {as as' : List D}, subDs (lowS p) as = some as' → as'.length = as.length := by
          intro as
          induction as with
          | nil => intro as' e; unfold subDs at e; cases e; rfl
          | cons d r ih =>
            intro as' e
            unfold subDs at e
            obtain ⟨d', e1, e⟩ := Option.bind_eq_some_iff.mp e
            obtain ⟨r', e2, rfl⟩ := Option.map_eq_some_iff.mp e
            simp [ih e2]
        rw [this q1]; exact h1
      have le' : es'.length = nk := by
        rw [(la q2 ve).length, ← ve.length]; exact h2
      obtain ⟨k1, k2⟩ := hG Hb1 _ (.ref p :: ds') es' (.ref x :: vs) zs (by simp [ld']) le' ⟨.ref x, vs, rfl, vx, la q1 vd⟩ (la q2 ve)
      refine ⟨k2, _, _, _, Hb1, _, r1, k1, ?_⟩
      -- behind __init__
      revert h
      cases fD (gD (.ref p :: ds') es') (e0 ++ [.ins c []]) with
      | stuck => exact fun z => z
      | ok d e1 =>
        cases d with
        | non =>
          show Post g W (relD g) F σ Hb mA (match frz p e1 (.ref p) with | some (d, e2) => .ok d (e2 ++ eta.drop p) | none => .stuck) Q → _
          cases qf : frz p e1 (.ref p) with
          | none => exact fun z => z.elim
          | some r =>
            obtain ⟨d', e2⟩ := r
            intro h v H3 Hb3 m3 r3 g3 vd3
            refine ⟨vd3, ?_⟩
            have g13 := gr1.trans g3
            have vx3 : VD g Hb3 m3 (.ref p) (.ref x) := VD.mono g3 _ _ vx
            have tk : m3.take p = mA.take p := by
              have := g13.take
              rw [tp] at this
              exact this
            have lp3 : p < m3.length := by
              obtain ⟨a, ea, hm⟩ := vx3
              exact (List.getElem?_eq_some_iff.mp hm).1
            unfold frz at qf
            rw [if_neg (by rw [← r3.len]; omega)] at qf
            obtain ⟨d2, f1, qf⟩ := Option.bind_eq_some_iff.mp qf
            obtain ⟨e3, f2, f3⟩ := Option.map_eq_some_iff.mp qf
            cases f3
            have r4 := frz_rel r3 (Nat.le_of_lt lp3) f2
            have vx4 := VD.sub (frz_same (n := p) r3) (frz_ref r3 4) _ _ _ f1 vx3
            have g4 : Gr Hb (mA.take p) (frzHp m3 p H3 Hb3) (m3.take p) := ⟨g13.h.trans (frz_same r3), fun i a h => by rw [tk]; exact h⟩
            have l4 : (m3.take p).length = p := by rw [List.length_take]; omega
            obtain ⟨r5, g5⟩ := rh.unfocus (F0 := F) (mE := []) (eA := e2) (eB := []) hp g4 r4.fr r4.ex r4.nd r4.out (by rw [← r4.len]; exact l4) (by rw [l4]; simp) (fun i a o h1 h2 => by
              have gE : Gr (frzHp m3 p H3 Hb3) (m3.take p) (frzHp m3 p H3 Hb3) ((m3.take p).take p ++ mA.drop p ++ (m3.take p).drop p) := ⟨Same.refl _, fun i a h => by
                have hl := (List.getElem?_eq_some_iff.mp h).1
                rw [List.append_assoc, List.getElem?_append_left (by rw [List.length_take]; omega), List.getElem?_take, if_pos (by omega)]
                exact h⟩
              exact (r4.own i a o h1 h2).mono gE rfl) (fun i a o h1 h2 => by simp at h2)
            rw [List.append_nil] at r5
            have gE : Gr (frzHp m3 p H3 Hb3) (m3.take p) (frzHp m3 p H3 Hb3) ((m3.take p).take p ++ mA.drop p ++ (m3.take p).drop p) := ⟨Same.refl _, fun i a h => by
              have hl := (List.getElem?_eq_some_iff.mp h).1
              rw [List.append_assoc, List.getElem?_append_left (by rw [List.length_take]; omega), List.getElem?_take, if_pos (by omega)]
              exact h⟩
            exact h (.ref x) H3 _ _ r5 g5 (VD.mono gE _ _ vx4)
        | bl _ => exact fun z => z.elim
        | int _ => exact fun z => z.elim
        | str _ => exact fun z => z.elim
        | lst _ => exact fun z => z.elim
        | tup _ => exact fun z => z.elim
        | obj _ _ => exact fun z => z.elim
        | ref _ => exact fun z => z.elim
      | exc xx fs e1 =>
        show Post g W (relD g) F σ Hb mA (match frzX p e1 fs with | some (fs', e2) => .exc xx fs' (e2 ++ eta.drop p) | none => .stuck) Q → _
        cases qf : frzX p e1 fs with
        | none => exact fun z => z.elim
        | some r =>
          obtain ⟨fs', e2⟩ := r
          intro h cls dd H3 Hb3 m3 r3 g3 xd3
          have g13 := gr1.trans g3
          have tk : m3.take p = mA.take p := by
            have := g13.take
            rw [tp] at this
            exact this
          have lp3 : p < m3.length := by
            obtain ⟨a, ea, hm⟩ := VD.mono g3 _ _ vx
            exact (List.getElem?_eq_some_iff.mp hm).1
          unfold frzX at qf
          rw [if_neg (by rw [← r3.len]; omega)] at qf
          obtain ⟨d2, f1, qf⟩ := Option.bind_eq_some_iff.mp qf
          obtain ⟨e3, f2, f3⟩ := Option.map_eq_some_iff.mp qf
          cases f3
          have r4 := frz_rel r3 (Nat.le_of_lt lp3) f2
          have xd4 := XD.sub (frz_same (n := p) r3) (frz_ref r3 4) f1 xd3
          have g4 : Gr Hb (mA.take p) (frzHp m3 p H3 Hb3) (m3.take p) := ⟨g13.h.trans (frz_same r3), fun i a h => by rw [tk]; exact h⟩
          have l4 : (m3.take p).length = p := by rw [List.length_take]; omega
          have gE : Gr (frzHp m3 p H3 Hb3) (m3.take p) (frzHp m3 p H3 Hb3) ((m3.take p).take p ++ mA.drop p ++ (m3.take p).drop p) := ⟨Same.refl _, fun i a h => by
            have hl := (List.getElem?_eq_some_iff.mp h).1
            rw [List.append_assoc, List.getElem?_append_left (by rw [List.length_take]; omega), List.getElem?_take, if_pos (by omega)]
            exact h⟩
          obtain ⟨r5, g5⟩ := rh.unfocus (F0 := F) (mE := []) (eA := e2) (eB := []) hp g4 r4.fr r4.ex r4.nd r4.out (by rw [← r4.len]; exact l4) (by rw [l4]; simp) (fun i a o h1 h2 => (r4.own i a o h1 h2).mono gE rfl) (fun i a o h1 h2 => by simp at h2)
          rw [List.append_nil] at r5
          exact h cls dd H3 _ _ r5 g5 (xd4.mono gE)
    · exact h.elim
  · exact h.elim
theorem d_make (p c : Nat) (z : Cz g X W kk) (M : Mk X.K (g.cl c) f) (F : FnG X.prog X.w X.K X.mg X.base k f fd ps (spD g N fD)) (hk : k + 1 ≤ kk) (hm : X.mg x = some (.ref (g.cl c))) (hb : KBn X.K fd ps (n + 1) ks gg gV) (hG : ArrD g (n + 1) ks.length N gD gV) (ha : PAK X pos es kws ks (tA g W ca) (tA g W ck)) (hg : Gl X x := by rfl)
    (hdb : (x == ("__debug__" : Str)) = false := by decide) : PE X (.Call (.Name x p0) es kws pos) (tD g W (cMake c p fD n ks.length gD ca ck)) :=
  pe_weak (pe_gmk (E := fun σ cls d H => W.w cls d σ H) M F (z.rm.mono hk) hg hm hb (pass_s z.tk) ha hdb) fun σ H Q ⟨rho, eta, F0, Hb, mA, rh, rs, po⟩ => ⟨rho, eta, F0, Hb, mA, rh, rs, Post.bind po fun ds eta1 vs H1 Hb1 m1 _ rh1 g1 vd po1 =>
    ⟨rho, eta1, F0, Hb1, m1, rh1, rs.mono g1, Post.bind po1 fun es eta2 zs H2 Hb2 m2 _ rh2 g2 ve po2 => by
      revert po2
      split
      · rename_i hl
        intro po2
        exact ⟨by rw [← vd.length]; exact hl.1, by rw [← ve.length]; exact hl.2, fun x dx hx hd ne => make_ok rh2 hG hl.1 hl.2 (VDs.mono g2 _ _ vd) ve po2 hx hd ne⟩
      · exact fun z => z.elim⟩⟩
end
/-! ### attributes -/
def cFld (c : Nat) (f : Str) (co : CE) : CE := cb co fun o _ eta => match insOf eta o with
  | some (c', fs) => if c' = c then (match fs.lookup f with | some d => .ok d eta | none => .stuck) else .stuck
  | none => .stuck
def putFd (f : Str) (d : D) : List (Str × D) → List (Str × D)
  | [] => [(f, d)]
  | (g, x) :: r => if g = f then (g, d) :: r else (g, x) :: putFd f d r
section
variable {g : G} {W : WE} {X : Cx} {k : Nat} {o e : Expr} {f : Str} {pos pos' : Pos} {co ce : CE}
theorem d_fld (c : Nat) (z : Cz g X W k) (hC : Cls X.K (g.cl c)) (hN : NoAttr X.K (g.cl c) f) (ho : PE X o (tD g W co)) (hb : attributeBase o f X.env (eval o X.env) = eval o X.env := by rfl) : PE X (.Attribute o f pos) (tD g W (cFld c f co)) :=
  pe_weak (pe_fld ho hb) fun σ H Q ⟨rho, eta, F, Hb, m, rh, rs, po⟩ => ⟨rho, eta, F, Hb, m, rh, rs, Post.bind po fun d eta1 v H1 Hb1 m1 _ rh1 g1 vd po1 => by
    revert po1
    cases q : insOf eta1 d with
    | none => exact fun z => z.elim
    | some r =>
      obtain ⟨c', fs⟩ := r
      dsimp only
      split
      · rename_i hc
        subst hc
        cases ql : fs.lookup f with
        | none => exact fun z => z.elim
        | some y =>
          intro po1
          obtain ⟨a, dx, ws, rfl, h1, h2⟩ := insOf_ok rh1 vd q
          obtain ⟨u, l1, l2⟩ := h2.get ql
          exact ⟨a, _, dx, ws, u, rfl, h1, hC, hN, l1, po1 u H1 Hb1 m1 rh1 Gr.refl l2⟩
      · exact fun z => z.elim⟩
theorem VDf.put {Hb : Hp} {m : List Addr} {d : D} {v : V} (vd : VD g Hb m d v) : ∀ {fs : List (Str × D)} {ws : List (Str × V)}, VDf g Hb m fs ws → VDf g Hb m (putFd f d fs) (putF f v ws)
  | [], ws, h => by
    have h : ws = [] := h
    subst h
    exact ⟨v, [], rfl, vd, rfl⟩
  | (f', d') :: r, ws, ⟨u, q, h1, h2, h3⟩ => by
    subst h1
    unfold putFd putF
    by_cases hf : f' = f
    · rw [if_pos hf, if_pos hf]
      exact ⟨v, q, rfl, vd, h3⟩
    · rw [if_neg hf, if_neg hf]
      exact ⟨u, _, rfl, h2, VDf.put vd h3⟩
theorem VDf.length {Hb : Hp} {m : List Addr} : ∀ {fs : List (Str × D)} {ws : List (Str × V)}, VDf g Hb m fs ws → fs.length = ws.length
  | [], ws, h => by
    have h : ws = [] := h
    subst h; rfl
  | (f', d') :: r, ws, ⟨u, q, h1, h2, h3⟩ => by subst h1; simp [VDf.length h3]
/-- self.f = e, self in its making -/
def stF (eta : Eta) (c : Nat) (f : Str) (o d : D) : Option Eta := match o with
  | .ref i => match eta[i]? with
    | some (.ins c' fs) => if c' = c ∧ fs.length < 900 then some (eta.set i (.ins c (putFd f d fs))) else none
    | _ => none
  | _ => none
def cStF (c : Nat) (f : Str) (ce co : CE) : CS := sE (cb ce fun d => cb co fun o _ eta => .ok (d, o) eta) fun (d, o) rho eta => match stF eta c f o d with | some e => .nx rho e | none => .stuck
theorem s_fld (c : Nat) (z : Cz g X W k) (hC : Cls X.K (g.cl c)) (hN : NoAttr X.K (g.cl c) f) (ho : PE X o (tD g W co)) (he : PE X e (tD g W ce)) (hs : swapsWith e (some (.Attribute o f pos')) pos.line X.env = pure false := by rfl) : PS X (.Assign [.Attribute o f pos'] e pos) (tS g W (cStF c f ce co)) :=
  ps_weak (ps_fld ho he hs) fun DD σ H ⟨rho, eta, F, Hb, m, rh, rs, po⟩ => by
    refine ⟨rho, eta, F, Hb, m, rh, rs, ?_⟩
    have p0 : Post g W (fun Hb m (x : D × D) (y : V × V) => VD g Hb m x.1 y.1 ∧ VD g Hb m x.2 y.2) F σ Hb m ((cb ce fun d => cb co fun o _ eta => .ok (d, o) eta) rho eta) (fun y H2 => ∃ a C dx fs, y.2 = .ref a ∧ H2 a = some (.ins C dx fs) ∧ Cls X.K C ∧ NoAttr X.K C f ∧ fs.length < 1000 ∧ DD.nx σ (upd H2 a (.ins C dx (putF f y.1 fs)))) :=
      PostS.bindE po rs fun x eta1 y H1 Hb1 m1 _ rh1 g1 rs1 vd po1 => by
        obtain ⟨d, o⟩ := x
        obtain ⟨v, ov⟩ := y
        obtain ⟨k1, k2⟩ := vd
        revert po1
        show PostS g W F Hb1 m1 (match stF eta1 c f o d with | some e => .nx rho e | none => .stuck) DD → _
        cases q : stF eta1 c f o d with
        | none => exact fun z => z.elim
        | some e1 =>
          intro po1
          unfold stF at q
          split at q
          · rename_i i _
            split at q
            · rename_i c' fs e2
              split at q
              · rename_i hc
                obtain ⟨rfl, hl⟩ := hc
                cases q
                obtain ⟨a, ea, hm⟩ := k2
                obtain ⟨dx, ws, z1, z2⟩ := (show OwnAt g Hb1 m1 H1 a (.ins c' fs) from rh1.own i a _ hm e2)
                refine ⟨a, _, dx, ws, ea, z1, hC, hN, by rw [← z2.length]; omega, po1 σ _ Hb1 m1 (rh1.write hm ⟨dx, _, upd_same, z2.put k1⟩) rs1 Gr.refl⟩
              · cases q
            · cases q
          · cases q
    exact Post.bind (Q := fun (y : V × V) H2 => ∃ a C dx fs, y.2 = .ref a ∧ H2 a = some (.ins C dx fs) ∧ Cls X.K C ∧ NoAttr X.K C f ∧ fs.length < 1000 ∧ DD.nx σ (upd H2 a (.ins C dx (putF f y.1 fs)))) p0 fun d eta1 v H1 Hb1 m1 _ rh1 g1 vd po1 =>
      ⟨rho, eta1, F, Hb1, m1, rh1, rs.mono g1, Post.bind po1 fun o eta2 ov H2 Hb2 m2 _ rh2 g2 vo po2 => po2 (v, ov) H2 Hb2 m2 rh2 Gr.refl ⟨VD.mono g2 _ _ vd, vo⟩⟩
end
end Gh
namespace Gh
open PySem PySem.Spec PyProof.Rows L2
/-! ### comprehensions -/
def wipeR (rho : Rho) : List Nat → Rho
  | [] => rho
  | v :: vs => (wipeR rho vs).set v none
def Wn : WE := ⟨fun _ _ _ _ => False, none⟩
theorem wipe_wipe (σ : L2.St) : ∀ vs : List Nat, L2.wipe (L2.wipe σ vs) vs = L2.wipe σ vs := by
  intro vs
  refine List.ext_getElem? fun i => ?_
  by_cases h : i ∈ vs
  · have z : ∀ τ : L2.St, (L2.wipe τ vs)[i]? = some none ∨ (L2.wipe τ vs)[i]? = none := fun τ => by
      cases e : (L2.wipe τ vs)[i]? with
      | none => exact .inr rfl
      | some o => cases o with
        | none => exact .inl rfl
        | some v => exact absurd h (wipe_some e).2
    have l : (L2.wipe (L2.wipe σ vs) vs).length = (L2.wipe σ vs).length := wipe_length _ _
    rcases z (L2.wipe σ vs) with a | a <;> rcases z σ with b | b
    · rw [a, b]
    · have := (List.getElem?_eq_some_iff.mp a).1
      rw [l] at this
      rw [List.getElem?_eq_getElem this] at b; cases b
    · have := (List.getElem?_eq_some_iff.mp b).1
      rw [← l] at this
      rw [List.getElem?_eq_getElem this] at a; cases a
    · rw [a, b]
  · rw [wipe_out h]
theorem RelS.wipes {g : G} {Hb : Hp} {m : List Addr} {rho : Rho} {σ : L2.St} (h : RelS g none Hb m rho σ) : ∀ vs : List Nat, RelS g none Hb m (wipeR rho vs) (L2.wipe σ vs)
  | [] => h
  | v :: vs => RelS.wipe (RelS.wipes h vs) v fun _ q => nomatch q
open Classical in
noncomputable def goL (t : Tgt) (ct : CT) (ce : CE) (C : Eta → Prop) (rho0 : Rho) : List D → List D → Eta → Out (List D)
  | [], acc, eta => if C eta then .ok acc eta else .stuck
  | d :: ds, acc, eta => if C eta then (match kT t d rho0 with
    | none => .stuck
    | some r1 => match ct r1 eta with
      | .ok true e1 => (match ce r1 e1 with
        | .ok y e2 => goL t ct ce C rho0 ds (acc ++ [y]) e2
        | _ => .stuck)
      | .ok false e1 => goL t ct ce C rho0 ds acc e1
      | _ => .stuck) else .stuck
noncomputable def cLc (own : List Nat) (t : Tgt) (ci : CI) (ct : CT) (ce : CE) : CE := cb ci fun a rho eta => if a.1.length ≤ lineB then (match goL t ct ce a.2 (wipeR rho own) a.1 [] eta with | .ok acc e => .ok (.lst acc) e | _ => .stuck) else .stuck
section
variable {g : G} {F Hb H : Hp} {m : List Addr} {eta : Eta}
/-- a list in the frame becomes pure -/
theorem RelH.adopt {p : Addr} {us : List V} (hF : F p = none) (r : RelH g (upd F p (.lst us)) Hb m eta H) : RelH g F (upd Hb p (.lst us)) m eta H ∧ Gr Hb m (upd Hb p (.lst us)) m := by
  obtain ⟨f1, f2, f3⟩ := r.fr p _ upd_same
  have s1 : Same Hb (upd Hb p (.lst us)) := fun b u e => by rw [upd_ne (ne_of_none e f2)]; exact e
  have gr : Gr Hb m (upd Hb p (.lst us)) m := ⟨s1, fun _ _ h => h⟩
  refine ⟨⟨fun a o h => ?_, fun a o h => ?_, r.len, r.nd, fun a h => ?_, fun i a o h1 h2 => (r.own i a o h1 h2).mono gr rfl⟩, gr⟩
  · have ne : a ≠ p := fun z => by rw [z, hF] at h; cases h
    obtain ⟨k1, k2, k3⟩ := r.fr a o (by rw [upd_ne ne]; exact h)
    exact ⟨k1, by rw [upd_ne ne]; exact k2, k3⟩
  · by_cases e : a = p
    · subst e; rw [upd_same] at h; rw [f1]; exact h
    · rw [upd_ne e] at h; exact r.ex _ _ h
  · have ne : a ≠ p := fun z => f3 (z ▸ h)
    rw [upd_ne ne]; exact r.out a h
theorem RelH.frNew {p : Addr} {o : HO} (r : RelH g F Hb m eta H) (hp : H p = none) : RelH g (upd F p o) Hb m eta (upd H p o) := by
  have nm := r.notin hp
  refine ⟨fun a u h => ?_, fun a u h => ?_, r.len, r.nd, r.out, fun i a u h1 h2 => (r.own i a u h1 h2).mono Gr.refl (upd_ne fun z => nm (z ▸ List.mem_of_getElem? h1))⟩
  · by_cases e : a = p
    · subst e; rw [upd_same] at h ⊢; exact ⟨h, r.ex.free hp, nm⟩
    · rw [upd_ne e] at h ⊢; exact r.fr a u h
  · rw [upd_ne (ne_of_none (r.ex _ _ h) hp)]; exact r.ex _ _ h
theorem RelH.frSet {p : Addr} {o o' : HO} (r : RelH g (upd F p o) Hb m eta H) : RelH g (upd F p o') Hb m eta (upd H p o') := by
  obtain ⟨f1, f2, f3⟩ := r.fr p _ upd_same
  refine ⟨fun a u h => ?_, fun a u h => ?_, r.len, r.nd, r.out, fun i a u h1 h2 => (r.own i a u h1 h2).mono Gr.refl (upd_ne fun z => f3 (z ▸ List.mem_of_getElem? h1))⟩
  · by_cases e : a = p
    · subst e; rw [upd_same] at h ⊢; exact ⟨h, f2, f3⟩
    · rw [upd_ne e] at h ⊢; exact r.fr a u (by rw [upd_ne e]; exact h)
  · rw [upd_ne (fun z => by rw [z, f2] at h; cases h)]; exact r.ex _ _ h
end
def cYes : CT := fun _ eta => .ok true eta
section
variable {g : G} {W : WE} {X : Cx} {k : Nat} {elt tg iter e : Expr} {ifs : List Expr} {scope : Scope} {own : List (Str × Nat)} {pos : Pos} {ci : CI} {ct : CT} {ce : CE} {t : Tgt} {s1 : List Nat}
theorem ts_nil : PTs X [] (tB g W cYes) := ⟨fun pins s σ H Q I ⟨rho, eta, F, Hb, m, rh, rs, po⟩ => pts_nil.run pins s σ H Q I (po true H Hb m rh Gr.refl rfl)⟩
theorem ts_one (h : PT X e (tB g W ct)) : PTs X [e] (tB g W ct) := pts_one h
theorem lc_run (hw : W.xc = none) (hsl : ∀ i ∈ s1, i ∈ own.map (·.2)) {σ : L2.St} {H : Hp} {Q : VK} (h : tD g W (cLc (own.map (·.2)) t ci ct ce) σ H Q) : tLc (tI g W ci) (gD g Wn s1 (kT t)) (tB g Wn ct) (tD g Wn ce) (own.map (·.2)) σ H Q := by
  obtain ⟨rho, eta, F, Hb, m, rh, rs, po⟩ := h
  refine ⟨rho, eta, F, Hb, m, rh, rs, Post.bind po fun a eta1 J H1 Hb1 m1 _ rh1 g1 wk po1 => ?_⟩
  obtain ⟨ds, C⟩ := a
  have wk : WalkD g C J Hb1 m1 ds := wk
  intro Dd hD
  revert po1
  dsimp only
  split
  · rename_i hlen
    intro po1
    have hF : F Dd = none := by
      cases e : F Dd with
      | none => rfl
      | some o => rw [(rh1.fr Dd o e).1] at hD; cases hD
    rw [hw] at rs
    have rs1 := RelS.wipes (rs.mono g1) (own.map (·.2))
    refine ⟨fun i n H => ∃ acc eta Hb' m' us, RelH g (upd F Dd (.lst us)) Hb' m' eta H ∧ Gr Hb1 m1 Hb' m' ∧ VDs g Hb' m' acc us ∧ acc.length ≤ i ∧ i + n = ds.length ∧ Post g W (relD g) F σ Hb' m' (match goL t ct ce C (wipeR rho (own.map (·.2))) (ds.drop i) acc eta with | .ok acc e => .ok (.lst acc) e | _ => .stuck) Q,
      ⟨ds.length, [], eta1, Hb1, m1, [], rh1.frNew hD, Gr.refl, rfl, Nat.le_refl _, by simp, by simpa using po1⟩, ?_⟩
    rintro i n H2 ⟨acc, eta2, Hb2, m2, us, rh2, g2, va, hai, hn, po2⟩
    by_cases hC : C eta2
    · obtain ⟨w1, w2⟩ := wk _ Hb2 m2 eta2 H2 rh2 g2 hC
      cases n with
      | zero =>
        refine .inl ⟨w2 i (by omega), ?_⟩
        have : ds.drop i = [] := List.drop_eq_nil_of_le (by omega)
        rw [this] at po2
        unfold goL at po2
        rw [if_pos hC] at po2
        obtain ⟨r3, g3⟩ := rh2.adopt hF
        exact po2 (.ref Dd) H2 _ m2 r3 g3 ⟨Dd, us, rfl, .inl upd_same, VDs.mono g3 _ _ va⟩
      | succ n =>
        have hl : i < ds.length := by omega
        obtain ⟨w3, w4⟩ := w1 i _ (List.getElem?_eq_getElem hl)
        rw [List.drop_eq_getElem_cons hl] at po2
        unfold goL at po2
        rw [if_pos hC] at po2
        refine .inr ⟨w3, fun H => ∃ acc eta Hb' m' us, RelH g (upd F Dd (.lst us)) Hb' m' eta H ∧ Gr Hb1 m1 Hb' m' ∧ VDs g Hb' m' acc us ∧ acc.length ≤ i + 1 ∧ (i + 1) + n = ds.length ∧ Post g W (relD g) F σ Hb' m' (match goL t ct ce C (wipeR rho (own.map (·.2))) (ds.drop (i + 1)) acc eta with | .ok acc e => .ok (.lst acc) e | _ => .stuck) Q, fun H' h => ⟨n, Nat.lt_succ_self _, h⟩, fun x H' y => ?_⟩
        obtain ⟨Hb3, rh3, g3, vx⟩ := w4 x H' y
        have rs3 : RelS g Wn.xc Hb3 m2 (wipeR rho (own.map (·.2))) (L2.wipe σ (own.map (·.2))) := rs1.mono (g2.trans g3)
        revert po2
        cases ek : kT t ds[i] (wipeR rho (own.map (·.2))) with
        | none => exact fun z => z.elim
        | some r1 =>
          dsimp only
          intro po2
          have po3 := po2.grow g3
          refine ⟨ds[i], _, eta2, _, Hb3, m2, r1, rh3, rs3, vx, ek, fun σ4 rs4 w4 => ⟨by rw [w4 _ hsl]; exact wipe_wipe σ _, ?_⟩⟩
          refine ⟨r1, eta2, _, Hb3, m2, rh3, rs4, ?_⟩
          revert po3
          cases e1 : ct r1 eta2 with
          | ok b eta5 =>
            intro po3 b' H5 Hb5 m5 rh5 g5 eb
            obtain rfl : b = b' := eb
            cases b with
            | false => exact iteF ⟨acc, eta5, Hb5, m5, us, rh5, (g2.trans g3).trans g5, VDs.mono (g3.trans g5) _ _ va, by omega, by omega, po3.grow g5⟩
            | true =>
              refine iteT ⟨r1, eta5, _, Hb5, m5, rh5, rs4.mono g5, ?_⟩
              have po4 := po3.grow g5
              revert po4
              dsimp only
              cases e2 : ce r1 eta5 with
              | ok yv eta6 =>
                intro po4 v6 H6 Hb6 m6 rh6 g6 vy
                have hD6 := (rh6.fr Dd _ upd_same).1
                have gg := (g2.trans g3).trans (g5.trans g6)
                have va6 := VDs.mono ((g3.trans g5).trans g6) _ _ va
                refine ⟨us, hD6, ?_, acc ++ [yv], eta6, Hb6, m6, us ++ [v6], rh6.frSet, gg, va6.snoc vy, by simp; omega, by omega, po4.grow g6⟩
                rw [← va.length]
                have h1 := lineB_ok hlen
                have h1 : ds.length ≤ sizeLine := h1
                omega
              | exc x fs e => exact fun z => z.elim
              | stuck => exact fun z => z.elim
          | exc x fs e => exact fun z => z.elim
          | stuck => exact fun z => z.elim
    · exfalso
      revert po2
      cases ds.drop i with
      | nil => unfold goL; rw [if_neg hC]; exact fun z => z
      | cons d r => unfold goL; rw [if_neg hC]; exact fun z => z
  · exact fun z => z.elim
end
end Gh
namespace Gh
open PySem PySem.Spec PyProof.Rows L2
section
variable {g : G} {W : WE} {X : Cx} {k : Nat} {elt tg iter e : Expr} {ifs : List Expr} {scope : Scope} {own : List (Str × Nat)} {pos : Pos} {ci : CI} {ct : CT} {ce : CE} {t : Tgt} {s1 : List Nat}
/-- the context of a comprehension's block -/
abbrev InBlk (X : Cx) (scope : Scope) (P : Cx → Prop) : Prop := ∀ (s : Shared) (H : Hp) (C : Addr) (cl : List (Str × Addr)) (fp : List Addr), P (X.blk s H scope (compEnvC scope cl C X.env) fp)
theorem takes_n {X : Cx} : Takes X Wn.w := fun _ _ ⟨_, _, _, _, _, _, _, _, _, _, _, _, _, _, _, _, w⟩ => w.elim
theorem Cz.blk (z : Cz g X W k) (s : Shared) (H : Hp) (scope : Scope) (ce : Env) (fp : List Addr) : Cz g (X.blk s H scope ce fp) Wn k := ⟨takes_n, z.calm, z.rm, z.K, z.nd, PassesOwn.never⟩
theorem d_lc (z : Cz g X W k) (hw : W.xc = none) (ok : BlkOk X.N X.env.scope scope own) (hsl : ∀ i ∈ s1, i ∈ own.map (·.2)) (hi : PI X tg iter (tI g W ci)) (hg : InBlk X scope fun Y => PG Y tg (gD g Wn s1 (kT t))) (ht : InBlk X scope fun Y => PTs Y ifs (tB g Wn ct)) (he : InBlk X scope fun Y => PE Y elt (tD g Wn ce))
    (hs : ∀ x, foldedSetIterable iter X.env x = pure x := by intro _; rfl) : PE X (.ListComp elt [⟨tg, iter, ifs, 0⟩] scope pos) (tD g W (cLc (own.map (·.2)) t ci ct ce)) :=
  pe_weak (pe_lc z.calm z.nd hi ok hg ht he hs) fun σ H Q h => lc_run hw hsl h
theorem s_setLc (i : Nat) {y : Str} {py spos : Pos} (z : Cz g X W k) (hw : W.xc = none) (ok : BlkOk X.N X.env.scope scope own) (hsl : ∀ i ∈ s1, i ∈ own.map (·.2)) (hi : PI X tg iter (tI g W ci)) (hg : InBlk X scope fun Y => PG Y tg (gD g Wn s1 (kT t))) (ht : InBlk X scope fun Y => PTs Y ifs (tB g Wn ct)) (he : InBlk X scope fun Y => PE Y elt (tD g Wn ce))
    (hy : X.N[i]? = some y := by rfl) (hyl : X.env.scope.names.lookup y = some .local := by rfl) (hsw : swapsWith (.ListComp elt [⟨tg, iter, ifs, 0⟩] scope pos) (some (.Name y py)) spos.line X.env = pure true := by exact sw_true rfl rfl rfl rfl)
    (hs : ∀ x, foldedSetIterable iter X.env x = pure x := by intro _; rfl) : PS X (.Assign [.Name y py] (.ListComp elt [⟨tg, iter, ifs, 0⟩] scope pos) spos) (tS g W (cSet i (cLc (own.map (·.2)) t ci ct ce))) :=
  ps_weak (ps_setLc z.calm z.nd hy hyl hsw hi ok hg ht he hs) fun D σ H ⟨rho, eta, F, Hb, m, rh, rs, po⟩ =>
    lc_run hw hsl ⟨rho, eta, F, Hb, m, rh, rs, PostS.bindE po rs fun d eta1 v H1 Hb1 m1 _ rh1 g1 rs1 vd po1 => po1 _ H1 Hb1 m1 rh1 (rs1.set i (fun q hq => by rw [hw] at hq; cases hq) vd) Gr.refl⟩
end
/-! ### methods of lists that are owned -/
def mApp (o : D) (ds : List D) (eta : Eta) : Option (D × Eta) := match o, ds with
  | .ref i, [d] => (match eta[i]? with | some (.lst es) => if es.length < lineB then some (.non, eta.set i (.lst (es ++ [d]))) else none | _ => none)
  | _, _ => none
def mPop (o : D) (ds : List D) (eta : Eta) : Option (D × Eta) := match o, ds with
  | .ref i, [] => (match eta[i]? with | some (.lst es) => (es[es.length - 1]?).map fun d => (d, eta.set i (.lst es.dropLast)) | _ => none)
  | _, _ => none
def MtD (g : G) (T : String) (r : V → List V → Hp → VK → Prop) (f : D → List D → Eta → Option (D × Eta)) : Prop := ∀ (o z : D) (ds : List D) (v : V) (vs : List V) (eta eta' : Eta) (F Hb : Hp) (m : List Addr) (H : Hp) (Q : VK), f o ds eta = some (z, eta') → RelH g F Hb m eta H → VD g Hb m o v → VDs g Hb m ds vs →
  (∀ w H' Hb', RelH g F Hb' m eta' H' → Gr Hb m Hb' m → VD g Hb' m z w → Q w H') → r v vs H Q
section
variable {g : G} {W : WE} {X : Cx} {k : Nat} {o e : Expr} {es : List Expr} {apos pos : Pos} {co : CE} {ca : CA} {name : Str} {T id : String} {r : V → List V → Hp → VK → Prop} {f : D → List D → Eta → Option (D × Eta)}
/-- of which kind a value is -/
inductive Kd where
  | non | bl | int | str | lst | tup | obj (c : Nat)
deriving DecidableEq
def kdOf (eta : Eta) : D → Option Kd
  | .non => some .non
  | .bl _ => some .bl
  | .int _ => some .int
  | .str _ => some .str
  | .lst _ => some .lst
  | .tup _ => some .tup
  | .obj c _ => some (.obj c)
  | .ref i => match eta[i]? with
    | some (.lst _) => some .lst
    | some (.ins c _) => some (.obj c)
    | none => none
def isRef : D → Bool
  | .ref _ => true
  | _ => false
theorem ty_list {F Hb H : Hp} {m : List Addr} {eta : Eta} {d : D} {v : V} (rh : RelH g F Hb m eta H) (vd : VD g Hb m d v) (hk : kdOf eta d = some .lst) : tyV g.K "list" v H := by
  cases d with
  | lst ds =>
    obtain ⟨a, vs, rfl, h1, _⟩ := vd
    exact .inl ⟨rfl, vs, .inl (Gh.Same.rd rh.ex h1)⟩
  | ref i =>
    unfold kdOf at hk
    dsimp only at hk
    split at hk
    · rename_i ds e1
      obtain ⟨a, rfl, hm⟩ := vd
      obtain ⟨vs, hv, _⟩ := own_lst rh e1 hm
      exact .inl ⟨rfl, vs, .inl (.inl hv)⟩
    · cases hk
    · cases hk
  | non => cases hk
  | bl _ => cases hk
  | int _ => cases hk
  | str _ => cases hk
  | tup _ => cases hk
  | obj _ _ => cases hk

def cMt (f : D → List D → Eta → Option (D × Eta)) (co : CE) (ca : CA) : CE := cb co fun o rho eta => if kdOf eta o = some .lst then cb ca (fun ds _ eta => match f o ds eta with | some (d, e) => .ok d e | none => .stuck) rho eta else .stuck
theorem mt_run (hr : MtD g "list" r f) {σ : L2.St} {H : Hp} {Q : VK} (h : tD g W (cMt f co ca) σ H Q) : tBM g.K "list" r (tD g W co) (tA g W ca) σ H Q := by
  obtain ⟨rho, eta, F, Hb, m, rh, rs, po⟩ := h
  refine ⟨rho, eta, F, Hb, m, rh, rs, Post.bind po fun o eta1 v H1 Hb1 m1 _ rh1 g1 vo po1 => ?_⟩
  revert po1
  split
  · rename_i hk
    intro po1
    refine ⟨ty_list rh1 vo hk, rho, eta1, F, Hb1, m1, rh1, rs.mono g1, Post.bind po1 fun ds eta2 vs H2 Hb2 m2 _ rh2 g2 vd po2 => ?_⟩
    revert po2
    cases q : f o ds eta2 with
    | none => exact fun z => z.elim
    | some p =>
      obtain ⟨z, e'⟩ := p
      exact fun po2 => hr o z ds v vs eta2 e' F Hb2 m2 H2 Q q rh2 (VD.mono g2 _ _ vo) vd fun w H' Hb' r1 r2 r3 => po2 w H' Hb' m2 r1 r2 r3
  · exact fun z => z.elim
theorem md_app : MtD g "list" rAppend mApp := by
  intro o z ds v vs eta eta' F Hb m H Q e rh vo vd q
  unfold mApp at e
  split at e
  · rename_i i d
    split at e
    · rename_i es e1
      split at e
      · rename_i hl
        cases e
        obtain ⟨a, rfl, hm⟩ := vo
        obtain ⟨u, rfl, k1⟩ := vd.one
        obtain ⟨us, hu, ku⟩ := own_lst rh e1 hm
        have z1 : es.length + 1 ≤ sizeLine := lineB_ok (n := es.length + 1) (by omega)
        exact ⟨a, us, u, rfl, rfl, hu, by rw [← ku.length]; omega, q _ _ Hb (rh.write hm ⟨_, upd_same, ku.snoc k1⟩) Gr.refl rfl⟩
      · cases e
    · cases e
  · cases e
theorem VDs.dropLast {Hb : Hp} {m : List Addr} {ds : List D} {vs : List V} (h : VDs g Hb m ds vs) : VDs g Hb m ds.dropLast vs.dropLast := by
  rw [List.dropLast_eq_take, List.dropLast_eq_take, h.length]
  exact h.take _
theorem md_pop : MtD g "list" rPop mPop := by
  intro o z ds v vs eta eta' F Hb m H Q e rh vo vd q
  unfold mPop at e
  split at e
  · rename_i i
    split at e
    · rename_i es e1
      obtain ⟨d, e2, e3⟩ := Option.map_eq_some_iff.mp e
      cases e3
      obtain ⟨a, rfl, hm⟩ := vo
      obtain ⟨us, hu, ku⟩ := own_lst rh e1 hm
      obtain ⟨y, hy, ky⟩ := ku.get e2
      have vd : vs = [] := vd
      exact ⟨a, us, y, rfl, vd, hu, by rw [← ku.length]; exact hy, q _ _ Hb (rh.write hm ⟨_, upd_same, ku.dropLast⟩) Gr.refl ky⟩
    · cases e
  · cases e
theorem d_app (z : Cz g X W k) (ho : PE X o (tD g W co)) (ha : PA X (e :: es) (tA g W ca))
    (hbase : attributeBase o "append" X.env (eval o X.env) = eval o X.env := by rfl)
    (hfew : ((backTo pos (starEach (e :: es) X.env)).all (fun x => !x.1) && (backToKw pos (keywordEach [] X.env)).all (fun x => x.1.isSome)
      && decide ((e :: es).length + ([] : List Keyword).length + (if ([] : List Keyword).isEmpty then 0 else 1) < 30)) = true := by rfl)
    (hline : (apos.endLine == pos.line) = true := by rfl) (hs : starEach (e :: es) X.env = (false, eval e X.env) :: starEach es X.env := by rfl) (hplain : (backTo pos (starEach es X.env)).any (·.1) = false := by rfl) :
    PE X (.Call (.Attribute o "append" apos) (e :: es) [] pos) (tD g W (cMt mApp co ca)) :=
  pe_weak (pe_bm PySem.F.plainAttrs_list PySem.F.slot_list_append PySem.F.type_list_append mt_append ho ha hbase hfew hline hs hplain) fun σ H Q h => by rw [z.K]; exact mt_run md_app h
theorem d_pop (z : Cz g X W k) (ho : PE X o (tD g W co)) (hbase : attributeBase o "pop" X.env (eval o X.env) = eval o X.env := by rfl) (hline : (apos.endLine == pos.line) = true := by rfl) :
    PE X (.Call (.Attribute o "pop" apos) [] [] pos) (tD g W (cMt mPop co cNil)) :=
  pe_weak (pe_bm0 PySem.F.plainAttrs_list PySem.F.slot_list_pop PySem.F.type_list_pop mt_pop ho hbase hline) fun σ H Q h => by
    rw [z.K]
    have := mt_run md_pop h
    obtain ⟨rho, eta, F, Hb, m, rh, rs, po⟩ := this
    exact ⟨rho, eta, F, Hb, m, rh, rs, po.imp fun v H1 ⟨h1, h2⟩ => ⟨h1, run_nil h2⟩⟩
/-! ### isinstance -/
def kdV (g : G) : Kd → Value
  | .non => .type "NoneType"
  | .bl => .type "bool"
  | .int => .type "int"
  | .str => .type "str"
  | .lst => .type "list"
  | .tup => .type "tuple"
  | .obj c => .ref (g.cl c)
/-- what is asked of an own class for isinstance -/
structure IsC (K : PySem.W.Frag) (C : Addr) : Prop where
  cl : Cls K C
  ha : PySem.W.findIn K (.ref C) "__class__" = some (some (.builtin "object.__class__"))
  hn : PySem.W.specialIn K (.builtin "object.__class__") "__get__" = some (some (.builtin "getset_descriptor.__get__"))
  htk : PySem.W.takesIn K (.builtin "object.__class__") = some true
  hm : PySem.W.mroIn K C (.type "object") = some true
/-- a table of answers, by kind -/
structure TbOk (g : G) (T : List (Kd × Bool)) (us : List Value) : Prop where
  k : ∀ kd b, T.lookup kd = some b → PySem.W.kitAny g.K (kdV g kd) us = some b
  c : ∀ c b, T.lookup (.obj c) = some b → IsC g.K (g.cl c)
def fIsi (T : List (Kd × Bool)) (d : D) (eta : Eta) : Option D := (kdOf eta d).bind fun kd => (T.lookup kd).map .bl
def cIsi (T : List (Kd × Bool)) (ce : CE) : CE := cb ce fun d _ eta => match fIsi T d eta with | some z => .ok z eta | none => .stuck
theorem tyx_of {F Hb H : Hp} {m : List Addr} {eta : Eta} {d : D} {v : V} {kd : Kd} (rh : RelH g F Hb m eta H) (vd : VD g Hb m d v) (hk : kdOf eta d = some kd) (hc : ∀ c, kd = .obj c → IsC g.K (g.cl c)) : TyX g.K H v (kdV g kd) := by
  have lst : ∀ {H : Hp} {a : Addr} {vs : List V}, Rd H a (.lst vs) → TyX g.K H (.ref a) (.type "list") := fun h => by
    rcases h with h | ⟨o, h⟩
    · exact .base (.lst h)
    · exact .base (.frz h)
  cases d with
  | non => cases hk; subst vd; exact .base .non
  | bl b => cases hk; subst vd; exact .base (.bl _)
  | int b => cases hk; subst vd; exact .base (.int _)
  | str b => cases hk; subst vd; exact .base (.str _)
  | lst ds =>
    cases hk
    obtain ⟨a, vs, rfl, h1, _⟩ := vd
    exact lst (Gh.Same.rd rh.ex h1)
  | tup ds =>
    cases hk
    obtain ⟨a, vs, rfl, h1, _⟩ := vd
    rcases Gh.Same.tup rh.ex h1 with (h | ⟨o, h⟩) | ⟨o, its, n, h1, h2, _⟩
    · exact .base (.tup h)
    · exact .fTuple h
    · exact .kTuple h1 h2
  | obj c fs =>
    cases hk
    obtain ⟨a, dx, ws, rfl, h1, _⟩ := vd
    have z := hc c rfl
    exact .base (.ins (rh.ex _ _ h1) z.cl z.ha z.hn z.htk z.hm)
  | ref i =>
    obtain ⟨a, rfl, hm⟩ := vd
    unfold kdOf at hk
    dsimp only at hk
    split at hk
    · rename_i ds e1
      cases hk
      obtain ⟨vs, hv, _⟩ := own_lst rh e1 hm
      exact lst (.inl hv)
    · rename_i c fs e1
      cases hk
      obtain ⟨dx, ws, z1, _⟩ := (show OwnAt g Hb m H a (.ins c fs) from rh.own i a _ hm e1)
      have z := hc c rfl
      exact .base (.ins z1 z.cl z.ha z.hn z.htk z.hm)
    · cases hk
theorem TbOk.at {T : List (Kd × Bool)} {us : List Value} (t : TbOk g T us) {F Hb H : Hp} {m : List Addr} {eta : Eta} {d z : D} {v : V} (rh : RelH g F Hb m eta H) (vd : VD g Hb m d v) (e : fIsi T d eta = some z) : ∃ kd b, z = .bl b ∧ TyX g.K H v (kdV g kd) ∧ PySem.W.kitAny g.K (kdV g kd) us = some b := by
  unfold fIsi at e
  obtain ⟨kd, e1, e⟩ := Option.bind_eq_some_iff.mp e
  obtain ⟨b, e2, rfl⟩ := Option.map_eq_some_iff.mp e
  exact ⟨kd, b, rfl, tyx_of rh vd e1 fun c hc => t.c c b (hc ▸ e2), t.k kd b e2⟩
theorem kit_one {K : PySem.W.Frag} {t u : Value} {b : Bool} (h : PySem.W.kitAny K t [u] = some b) : PySem.W.kitOne K t u = some b := by
  unfold PySem.W.kitAny at h
  cases q : PySem.W.kitOne K t u with
  | none => rw [q] at h; cases h
  | some c =>
    rw [q] at h
    cases c with
    | true => exact h
    | false => exact h
/-- isinstance(e, c) -/
theorem d_isi {T : List (Kd × Bool)} {c : Expr} {p : Pos} {v : V} {u : Value} (z : Cz g X W k) (t : TbOk g T [u]) (hm : X.mg "isinstance" = none) (he : PE X e (tD g W co)) (hc : PE X c (tC v)) (hv : ClsV v u) (hg : Gl X "isinstance" := by rfl)
    (h1 : starEach (e :: [c]) X.env = (false, eval e X.env) :: starEach [c] X.env := by rfl) (h2 : starEach (c :: []) X.env = (false, eval c X.env) :: starEach [] X.env := by rfl) (hpl : (backTo pos (starEach [c] X.env)).any (·.1) = false := by rfl) : PE X (.Call (.Name "isinstance" p) [e, c] [] pos) (tD g W (cIsi T co)) :=
  pe_weak (pe_callB call_isi hg hm PyProof.Rows.boot_isinstance (pa_cons he (pa_cons hc pa_nil h2) h1) (by decide) (by decide) h1 hpl) fun σ H Q ⟨rho, eta, F, Hb, m, rh, rs, po⟩ => ⟨rho, eta, F, Hb, m, rh, rs, Post.bind po fun d eta1 w H1 Hb1 m1 _ rh1 g1 vd po1 => by
    revert po1
    cases q : fIsi T d eta1 with
    | none => exact fun z => z.elim
    | some r =>
      intro po1
      obtain ⟨kd, b, rfl, ty, kk⟩ := t.at rh1 vd q
      rw [z.K]
      exact ⟨w, v, _, u, b, rfl, hv, ty, kit_one kk, po1 _ _ _ _ rh1 Gr.refl rfl⟩⟩
/-- isinstance(e, (c1, c2)), built-in classes -/
theorem d_isi2 {T : List (Kd × Bool)} {c1 c2 : Expr} {p p2 : Pos} {kt : Nat} {n1 n2 : String} (z : Cz g X W k) (t : TbOk g T [.type n1, .type n2]) (hm : X.mg "isinstance" = none) (he : PE X e (tD g W co)) (hc1 : PE X c1 (tC (.ty n1))) (hc2 : PE X c2 (tC (.ty n2))) (hg : Gl X "isinstance" := by rfl)
    (h1 : starEach (e :: [.Tuple [c1, c2] kt p2]) X.env = (false, eval e X.env) :: starEach [.Tuple [c1, c2] kt p2] X.env := by rfl) (h2 : starEach (.Tuple [c1, c2] kt p2 :: []) X.env = (false, eval (.Tuple [c1, c2] kt p2) X.env) :: starEach [] X.env := by rfl) (hpl : (backTo pos (starEach [.Tuple [c1, c2] kt p2] X.env)).any (·.1) = false := by rfl)
    (h3 : starEach (c1 :: [c2]) X.env = (false, eval c1 X.env) :: starEach [c2] X.env := by rfl) (h4 : starEach (c2 :: []) X.env = (false, eval c2 X.env) :: starEach [] X.env := by rfl) : PE X (.Call (.Name "isinstance" p) [e, .Tuple [c1, c2] kt p2] [] pos) (tD g W (cIsi T co)) :=
  pe_weak (pe_callB call_isiT hg hm PyProof.Rows.boot_isinstance (pa_cons he (pa_cons (pe_tup (pa_cons hc1 (pa_cons hc2 pa_nil h4) h3)) pa_nil h2) h1) (by decide) (by decide) h1 hpl) fun σ H Q ⟨rho, eta, F, Hb, m, rh, rs, po⟩ => ⟨rho, eta, F, Hb, m, rh, rs, Post.bind po fun d eta1 w H1 Hb1 m1 _ rh1 g1 vd po1 => by
    revert po1
    cases q : fIsi T d eta1 with
    | none => exact fun z => z.elim
    | some r =>
      intro po1
      refine ⟨show 2 ≤ sizeLine by decide, fun tp hp => ?_⟩
      obtain ⟨rh2, g2⟩ := rh1.pure (o := .tup [.ty n1, .ty n2]) hp
      obtain ⟨kd, b, rfl, ty, kk⟩ := t.at rh2 (VD.mono g2 _ _ vd) q
      rw [z.K]
      exact ⟨w, tp, _, _, _, b, rfl, upd_same, .cons (.ty n1) (.cons (.ty n2) .nil), ty, kk, po1 _ _ _ _ rh2 g2 rfl⟩⟩
end
end Gh
namespace Gh
open PySem PySem.Spec PyProof.Rows L2
/-! ### errors are made and raised -/
/-- the attributes, the last stored first: which parameter each holds -/
def fldV (fl : List (Str × Nat)) (us : List V) : List (Str × V) := fl.reverse.map fun q => (q.1, us.getD q.2 .non)
def fldD (fl : List (Str × Nat)) (us : List D) : List (Str × D) := fl.reverse.map fun q => (q.1, us.getD q.2 .non)
def spErr (C : Addr) (n : Nat) (fl : List (Str × Nat)) : Sp := fun vs H Q _ => ∃ a us, vs = .ref a :: us ∧ us.length = n ∧ H a = some (exo a C none) ∧
  ∀ dx H3, dx ≠ a → H dx = none → H3 a = some (exo a C (some dx)) → H3 dx = some (exd dx (fldV fl us)) → (∀ b, b ≠ a → b ≠ dx → H3 b = H b) → Q .non H3
theorem VDs.getD {g : G} {Hb : Hp} {m : List Addr} {ds : List D} {vs : List V} (h : VDs g Hb m ds vs) (i : Nat) : VD g Hb m (ds.getD i .non) (vs.getD i .non) := by
  rw [List.getD_eq_getElem?_getD, List.getD_eq_getElem?_getD]
  cases e : ds[i]? with
  | some d =>
    obtain ⟨v, e1, k⟩ := h.get e
    rw [e1]; exact k
  | none =>
    have : vs[i]? = none := List.getElem?_eq_none (by rw [← h.length]; exact List.getElem?_eq_none_iff.mp e)
    rw [this]; rfl
theorem fld_ok {g : G} {Hb : Hp} {m : List Addr} {ds : List D} {vs : List V} (h : VDs g Hb m ds vs) (fl : List (Str × Nat)) : VDf g Hb m (fldD fl ds) (fldV fl vs) := by
  unfold fldD fldV
  induction fl.reverse with
  | nil => rfl
  | cons q r ih => exact ⟨_, _, rfl, h.getD q.2, ih⟩
def cRaise (x n : Nat) (fl : List (Str × Nat)) (ca : CA) : CS := sE ca fun ds rho eta => if ds.length = n then .exc x (fldD fl ds) rho eta else .stuck
section
variable {g : G} {W : WE} {X : Cx} {kk k n : Nat} {fI : Addr} {fd : FuncData} {ps : List Str} {nm : Str} {p pos pos' : Pos} {es : List Expr} {ca : CA} {fl : List (Str × Nat)} {gg : List Value → List Value → List Value} {gV : List V → List V → List V}
theorem s_raise (x : Nat) (z : Cz g X W kk) (T : ErrC X.K (g.cl x)) (iC : PySem.W.findIn X.K (.ref (g.cl x)) "__init__" = some (some (.ref fI))) (tI : PySem.W.typeIn X.K (.ref fI) = some (.type "function"))
    (F1 : FnG X.prog X.w X.K X.mg X.base k fI fd ps (spErr (g.cl x) n fl)) (hk : k + 1 ≤ kk) (hn : n ≤ 1000) (hb : KBn X.K fd ps (n + 1) [] gg gV) (hG : ∀ vs, gV vs [] = vs) (hm : X.mg nm = some (.ref (g.cl x))) (ha : PAK X pos es [] [] (tA g W ca) tNil) (hg : Gl X nm := by rfl)
    (hdb : (nm == ("__debug__" : Str)) = false := by decide) : PS X (.Raise (some (.Call (.Name nm p) es [] pos)) none pos') (tS g W (cRaise x n fl ca)) :=
  ps_weak (ps_raise z.calm z.tk (pmk_err T iC tI F1 (z.rm.mono hk) hb hg hm ha hdb)) fun DD σ H ⟨rho, eta, F, Hb, m, rh, rs, po⟩ => ⟨rho, eta, F, Hb, m, rh, rs, PostS.bindE po rs fun ds eta1 vs H1 Hb1 m1 _ rh1 g1 rs1 vd po1 => by
    revert po1
    split
    · rename_i hl
      intro po1
      refine ⟨by rw [← vd.length]; exact hl, rfl, hn, fun a ha0 => ?_⟩
      rw [hG]
      refine ⟨a, vs, rfl, by rw [← vd.length]; exact hl, upd_same, fun dx H3 ne hdx h1 h2 h3 => ⟨rfl, dx, _, h1, h2, ?_, ?_⟩⟩
      · rw [upd_ne ne] at hdx; exact hdx
      · have hdx' : H1 dx = none := by rw [upd_ne ne] at hdx; exact hdx
        have same : upd (del H3 a) dx (.xd (fldV fl vs)) = upd H1 dx (.xd (fldV fl vs)) := by
          funext b
          by_cases hb : b = dx
          · rw [hb, upd_same, upd_same]
          · rw [upd_ne hb, upd_ne hb]
            by_cases hba : b = a
            · rw [hba, ha0]
              simp [del]
            · have : del H3 a b = H3 b := by simp [del, hba]
              rw [this, h3 b hba hb, upd_ne hba]
        rw [same]
        obtain ⟨r2, g2⟩ := rh1.pure (o := .xd (fldV fl vs)) hdx'
        exact po1 _ _ σ _ _ _ r2 (rs1.mono g2) g2 ⟨rfl, .inr ⟨dx, _, rfl, upd_same, VDf.mono g2 _ _ (fld_ok vd fl)⟩⟩
    · exact fun z => z.elim⟩
end
/-- __init__(self, x): the parent's, then one field -/
theorem err_read1 {K : PySem.W.Frag} {C : Addr} {f : Str} {txt : Str} {N : List Str} {vs : List V} {H : Hp} {Q : VK} {E : XK} (T : ErrC K C) (hno : PySem.W.findIn K (.ref C) f = some none) (h : spErr C 1 [(f, 0)] vs H Q E) :
    tSeq (tDrop (tPar K (tCons (tVar 0) (tCons (tC (.str txt)) tNil)))) (tEst K f (tVar 0) (tVar 1)) { nx := fun _ H' => Q .non H', rt := Q } (start N vs) H := by
  obtain ⟨a, us, rfl, hl, ha, k⟩ := h
  obtain ⟨u, rfl⟩ : ∃ u, us = [u] := by
    cases us with
    | nil => cases hl
    | cons u r => cases r with
      | nil => exact ⟨u, rfl⟩
      | cons _ _ => cases hl
  refine ⟨.ref a, rfl, ?_⟩
  refine ⟨a, C, [.str txt], rfl, by simp, T, ha, ?_⟩
  refine ⟨u, rfl, .ref a, rfl, a, C, rfl, T, hno, .inl ⟨ha, fun dx hd ne => ?_⟩⟩
  exact k dx _ ne hd upd_same (by rw [upd_ne ne, upd_same]; rfl) fun b hb1 hb2 => by rw [upd_ne hb1, upd_ne hb2]
/-- .. two fields -/
theorem err_read2 {K : PySem.W.Frag} {C : Addr} {f f2 : Str} {txt : Str} {N : List Str} {vs : List V} {H : Hp} {Q : VK} {E : XK} (T : ErrC K C) (hno : PySem.W.findIn K (.ref C) f = some none) (hno2 : PySem.W.findIn K (.ref C) f2 = some none) (h : spErr C 2 [(f, 0), (f2, 1)] vs H Q E) :
    tSeq (tDrop (tPar K (tCons (tVar 0) (tCons (tC (.str txt)) tNil)))) (tSeq (tEst K f (tVar 0) (tVar 1)) (tEst K f2 (tVar 0) (tVar 2))) { nx := fun _ H' => Q .non H', rt := Q } (start N vs) H := by
  obtain ⟨a, us, rfl, hl, ha, k⟩ := h
  obtain ⟨u, u2, rfl⟩ : ∃ u u2, us = [u, u2] := by
    cases us with
    | nil => cases hl
    | cons u r => cases r with
      | nil => cases hl
      | cons u2 r => cases r with
        | nil => exact ⟨u, u2, rfl⟩
        | cons _ _ => cases hl
  refine ⟨.ref a, rfl, ?_⟩
  refine ⟨a, C, [.str txt], rfl, by simp, T, ha, ?_⟩
  refine ⟨u, rfl, .ref a, rfl, a, C, rfl, T, hno, .inl ⟨ha, fun dx hd ne => ?_⟩⟩
  refine ⟨u2, rfl, .ref a, rfl, a, C, rfl, T, hno2, .inr ⟨dx, [(f, u)], upd_same, by rw [upd_ne ne, upd_same], by simp, ?_⟩⟩
  exact k dx _ ne hd (by rw [upd_ne (Ne.symm ne), upd_same]) (by rw [upd_same]; rfl) fun b hb1 hb2 => by rw [upd_ne hb2, upd_ne hb1, upd_ne hb2]
/-! ### len of an own class's instance -/
def fLenO (c p : Nat) (f : Fd) (ds : List D) (eta : Eta) : Out D := match ds with
  | [d] => (match insOf eta d with
    | some (c', _) => if c' = c then (match callD p f [d] eta with
      | .ok (.int n) e => if 0 ≤ n ∧ n < 9223372036854775808 then .ok (.int n) e else .stuck
      | .exc x fs e => .exc x fs e
      | _ => .stuck) else .stuck
    | none => .stuck)
  | _ => .stuck
def cLenO (c p : Nat) (f : Fd) (ce : CE) : CE := cb ce fun d _ eta => fLenO c p f [d] eta
/-- len(o), o of the class at C: by the own __len__ at f -/
def rLenO (C : Addr) (sp : Sp) (E : L2.St → XK) : L2.St → List V → Hp → VK → Prop := fun σ vs H Q => ∃ a dx ws, vs = [.ref a] ∧ H a = some (.ins C dx ws) ∧ sp [.ref a] H (fun v H' => ∃ n : Int, v = .int n ∧ 0 ≤ n ∧ n < 2 ^ 63 ∧ Q (.int n) H') (E σ)
section
variable {g : G} {W : WE} {X : Cx} {kk k : Nat} {f C : Addr} {fd : FuncData} {ps : List Str} {sp : Sp} {e : Expr} {p pos : Pos} {ce : CE} {fD : Fd}
theorem run_lenO {E : L2.St → XK} {pins : List (Addr × Obj)} {σ : L2.St} {H : Hp} {s : Shared} {Q : VK} {us : List Value} {vs : List V} (F : FnG X.prog X.w X.K X.mg X.base k f fd ps sp) (hr : Rm (k + 1) X.A) (hs : PySem.W.findIn X.K (.ref C) "__len__" = some (some (.ref f))) (hf : PySem.W.isFn X.K (.ref f) = true) (hb : KBn X.K fd ps 1 [] (fun us _ => us) (fun vs _ => vs)) (hx : PassS X E)
    (I : Inv X pins σ H s) (r : Vals vs us) (h : rLenO C sp E σ vs H Q) : wpAny (model X.prog X.w) X.A (call (.builtin "len") us) (EP X pins σ Q) X.xe s := by
  obtain ⟨a, dx, ws, rfl, ha, h⟩ := h
  obtain ⟨u, rfl, ru⟩ := vals1 r
  cases (show u = Value.ref a from ru)
  obtain ⟨mA, O, _⟩ := ins_get I.hok ha
  obtain ⟨od, J, _⟩ := O.look
  obtain ⟨m, hF⟩ := I.fr
  refine PySem.W.len_K hF I.ok.mod.kin J hs hf ?_
  have e0 : Env0 X.prog X.w X.K X.mg X.base X.A.in1 X.stack s H := by
    have e := I.env0
    exact ⟨e.frames, e.mod, e.bs, e.bsz, e.funs, e.frf, e.hok, e.bare⟩
  have hr1 : Rm k X.A.in1 := ⟨hr.r.in1, hr.gd⟩
  refine wpAny_call (codeAny_mono (F.run X.A.in1 X.stack s H ⟨[.ref a], []⟩ [.ref a] [.ref a] _ (E σ) hr1 e0 (by simpa using hb.to s [.ref a] [] I.kIn rfl rfl) (.cons rfl .nil) h) fun r s' hq => ?_)
  cases r with
  | error e => exact hx pins σ H s e s' I hq
  | ok fl =>
    cases fl with
    | ret w =>
      obtain ⟨v, H', I', rv, n, rfl, h0, h1, q⟩ := I.after hq
      obtain ⟨t, rfl⟩ := rv
      exact ⟨⟨h0, h1⟩, .int n, H', I'.tok _, ⟨_, rfl⟩, q⟩
    | next => exact hq.elim
    | brk => exact hq.elim
    | cont => exact hq.elim

theorem d_lenO (c p0 : Nat) (z : Cz g X W kk) (F : FnG X.prog X.w X.K X.mg X.base k f fd ps (spD g 1 fD)) (hk : k + 1 ≤ kk) (hs : PySem.W.findIn X.K (.ref (g.cl c)) "__len__" = some (some (.ref f))) (hf : PySem.W.isFn X.K (.ref f) = true) (hb : KBn X.K fd ps 1 [] (fun us _ => us) (fun vs _ => vs)) (hm : X.mg "len" = none) (he : PE X e (tD g W ce)) (hg : Gl X "len" := by rfl)
    (h1 : starEach (e :: []) X.env = (false, eval e X.env) :: starEach [] X.env := by rfl) (hpl : (backTo pos (starEach [] X.env)).any (·.1) = false := by rfl) : PE X (.Call (.Name "len" p) [e] [] pos) (tD g W (cLenO c p0 fD ce)) := by
  refine ⟨fun pins s σ H Q I ⟨rho, eta, F0, Hb, m, rh, rs, po⟩ => ?_⟩
  refine wpAny_Call_Name_kw (ld_blt I hg hm PySem.boot_len ?_ (by decide) (by decide))
  have hq : tCons (tD g W ce) tNil σ H fun vs H1 => rLenO (g.cl c) (spD g 1 fD) (fun σ cls d H => W.w cls d σ H) σ vs H1 Q := by
    refine ⟨rho, eta, F0, Hb, m, rh, rs, Post.bind po fun d eta1 v H1 Hb1 m1 _ rh1 g1 vd po1 => ?_⟩
    revert po1
    unfold fLenO
    dsimp only
    cases q : insOf eta1 d with
    | none => exact fun z => z.elim
    | some r =>
      obtain ⟨c', fs⟩ := r
      dsimp only
      split
      · rename_i hc
        subst hc
        intro po1
        obtain ⟨a, dx, ws, rfl, k1, k2⟩ := insOf_ok rh1 vd q
        refine ⟨a, dx, ws, rfl, k1, call_ok (p := p0) rh1 rfl (as := [d]) ⟨.ref a, [], rfl, vd, rfl⟩ ?_⟩
        revert po1
        cases callD p0 fD [d] eta1 with
        | stuck => exact fun z => z.elim
        | exc x fs e => exact fun z => z
        | ok d2 e2 =>
          cases d2 with
          | int n =>
            dsimp only
            split
            · rename_i hn
              intro po1 v3 H3 Hb3 m3 r3 g3 v3d
              exact ⟨n, v3d, hn.1, by omega, po1 (.int n) H3 Hb3 m3 r3 g3 rfl⟩
            · exact fun z => z.elim
          | non => exact fun z => z.elim
          | bl _ => exact fun z => z.elim
          | str _ => exact fun z => z.elim
          | lst _ => exact fun z => z.elim
          | tup _ => exact fun z => z.elim
          | obj _ _ => exact fun z => z.elim
          | ref _ => exact fun z => z.elim
      · exact fun z => z.elim
  exact PyProof.Rows.callWith_builtin1 (thn ((pa_cons he pa_nil h1).run pos pins s σ H _ I hq) fun us s1 ⟨vs, H1, I1, r1, q1⟩ => run_lenO F (z.rm.mono hk) hs hf hb (pass_s z.tk) I1 r1 q1) h1 hpl
end
end Gh
namespace Gh
open PySem PySem.Spec PyProof.Rows L2
/-! ### try with several clauses, each with a name or without -/
abbrev Cla := Value × Option Nat × (Addr → Value → Option Addr → TS)
def wCl (K : PySem.W.Frag) (Wout : WX) (D : Ends) : List Cla → WX
  | [] => Wout
  | (c, oi, ts) :: r => fun cls d σ H => ∃ b, PySem.W.exmOne K cls c = some b ∧ (b = true → ∀ a, H a = none → match oi with
    | none => ts a cls d D σ H
    | some i => ts a cls d { nx := fun σ' H' => D.nx (σ'.set i none) H', rt := D.rt, bk := fun σ' H' => D.bk (σ'.set i none) H', ct := fun σ' H' => D.ct (σ'.set i none) H' } (σ.set i (some (.ref a))) H) ∧
    (b = false → wCl K Wout D r cls d σ H)
inductive ClOk (X : Cx) : List ExceptHandler → List Cla → Prop
  | nil : ClOk X [] []
  | bare {x : Str} {c : Value} {ts : Addr → Value → Option Addr → TS} {b₀ : Stmt} {suite : List Stmt} {np pos' : Pos} {hds : List ExceptHandler} {l : List Cla} (hc : Names X x c)
      (hsu : ∀ (a : Addr) (oe : Obj) (cls : Value) (d : Option Addr) (pn : List (Addr × Obj)), Zc cls d oe → (∃ vs, oe.data = .fields vs) → PSs (X.suite a ((a, oe) :: pn)) (b₀ :: suite) (ts a cls d)) (r : ClOk X hds l) :
      ClOk X (.ExceptHandler (some (.Name x np)) none (b₀ :: suite) pos' :: hds) ((c, none, ts) :: l)
  | named {x n : Str} {i : Nat} {c : Value} {ts : Addr → Value → Option Addr → TS} {b₀ : Stmt} {suite : List Stmt} {np pos' : Pos} {hds : List ExceptHandler} {l : List Cla} (hc : Names X x c) (hi : X.N[i]? = some n) (hln : X.env.kindOf n = some .local)
      (hsu : ∀ (a : Addr) (oe : Obj) (cls : Value) (d : Option Addr) (pn : List (Addr × Obj)), Zc cls d oe → (∃ vs, oe.data = .fields vs) → PSs (X.suite a ((a, oe) :: pn)) (b₀ :: suite) (ts a cls d)) (r : ClOk X hds l) :
      ClOk X (.ExceptHandler (some (.Name x np)) (some n) (b₀ :: suite) pos' :: hds) ((c, some i, ts) :: l)
section
variable {X : Cx} {body : List Stmt} {h₀ : ExceptHandler} {hds : List ExceptHandler} {l : List Cla} {pos : Pos} {tb : WX → TS} {Wout : WX}
theorem ps_tryCl (hs : X.stack = X.env :: X.outer) (hf : X.env.frame = some X.env.locals) (hN : X.N.Nodup) (tk : Takes X Wout)
    (hb : ∀ (W : WX) (pn : List (Addr × Obj)) (xe : Value → Shared → Prop), Takes (X.tr pn xe) W → PassesOwn (model X.prog X.w) X.A X.env xe → PSs (X.tr pn xe) body (tb W))
    (hh : ClOk X (h₀ :: hds) l) : PS X (.Try body (h₀ :: hds) [] [] pos) (fun D σ H => tb (wCl X.K Wout D l) D σ H) := by
  refine ⟨fun pins s σ H D I h => ?_⟩
  have ok := I.ok
  have hfr : X.A.frames = some (X.env :: X.outer) := by rw [ok.frames, hs]
  refine wpAny_Try_except ?_
  have run := hb (wCl X.K Wout D l) (X.pn ++ pins) (fun e s₁ => wpAny (model X.prog X.w) X.A (noteFrame e X.env) (fun _ s₂ => wpAny (model X.prog X.w) X.A (setFlight e none) (fun _ s₃ =>
    wpAny (model X.prog X.w) X.A (handleBy e X.env (h₀ :: hds)) (SP X pins D) X.xe s₃) X.xe s₂) X.xe s₁)
  refine wpAny_mono ((run (fun u s' xx => ?_) PassesOwn.looking).run [] s σ H D (I.toTry _) h) (fun f s1 hsp => ?_) (fun e s1 he => he)
  · obtain ⟨a, B, sI, pins', σ', H', cls, d, rfl, J', nb, up, sky, na, os, ag, w⟩ := xx
    have J : Inv X pins σ' H' sI := J'.ofTry ok
    have sky' : Sky B (X.env :: X.outer) a (Zc cls d) X.env.locals s'.heap := by rw [← hs]; exact sky
    show wpAny (model X.prog X.w) X.A (noteFrame (.ref a) X.env) _ _ _
    refine Sky.land Zc.steady hfr hf sky' fun h3 fl3 up3 => ?_
    have J3 : Inv X pins σ' H' { s' with heap := h3 } := J.landed nb fl3.1 (up.trans up3) os ag
    obtain ⟨oe3, vs3, he3, hz3, hd3⟩ := fl3.there
    have nfr : a ∉ frs (X.env :: X.outer) := fun hm => by
      obtain ⟨_, o', e', hnf⟩ := fl3.2.2.1.mem hm
      rw [he3] at e'; cases e'
      exact hnf _ hd3
    have nL : a ≠ X.env.locals := fun z => nfr (List.mem_filterMap.mpr ⟨X.env, List.mem_cons_self, by rw [hf, z]⟩)
    have nF : a ∉ X.fs := fun hm => by
      obtain ⟨e, he, q⟩ := List.mem_filterMap.mp hm
      exact nfr (List.mem_filterMap.mpr ⟨e, List.mem_cons_of_mem _ he, q⟩)
    have S3 := J3.suite he3 hd3 na nL nF
    have LT : PySem.W.Looks (model X.prog X.w) h3 (typeOf (.ref a)) cls := fun A Q E s k q => wpAny_typeOf_ref (k _ _ he3) (by rw [hz3.1]; exact q)
    have test : ∀ {x : Str} {c : Value} {np : Pos} {Q : Value → Shared → Prop} {E : Value → Shared → Prop}, Names X x c → Q c { s' with heap := h3 } → wpAny (model X.prog X.w) (X.A.mark (some (.ref a))) (eval (.Name x np) X.env) Q E { s' with heap := h3 } := fun {x c np Q E} hc q => by
      obtain ⟨hg, hdbg, hm | ⟨hm, hv, hnn⟩⟩ := hc
      · exact ld_glob (X := X.suite a ((a, oe3) :: (X.pn ++ pins))) S3 hg hm q hdbg
      · exact ld_blt (X := X.suite a ((a, oe3) :: (X.pn ++ pins))) S3 hg hm hv q hnn hdbg
    have go : ∀ {hds' : List ExceptHandler} {l' : List Cla}, ClOk X hds' l' → wCl X.K Wout D l' cls d σ' H' → wpAny (model X.prog X.w) X.A (handleBy (.ref a) X.env hds') (SP X pins D) X.xe { s' with heap := h3 } := by
      intro hds' l' hk
      induction hk with
      | nil =>
        intro w
        refine wpAny_handleBy_nil ?_
        obtain ⟨k1, k2, k3, oe, vs, T, oT, ts', he, hz, hd, h1, hr⟩ := id fl3
        unfold PySem.passOn
        refine wpAny_bind (wpAny_field he hd h1 ?_)
        rw [if_neg (show ¬ ((Value.ref T == Value.none) = true) from by simp)]
        have fin : wpAny (model X.prog X.w) X.A (setFlight (.ref a) X.env.frame) (fun _ s4 => wpAny (model X.prog X.w) X.A (throw (.ref a) : Sem Flow) (SP X pins D) X.xe s4) X.xe { s' with heap := h3 } := by
          rw [hf]
          refine HandSPX.setFlight_upZ fl3 fun h4 hh4 up4 => wpAny_throw (tk _ _ ?_)
          exact ⟨a, B, sI, pins, σ', H', cls, d, rfl, J, nb, (up.trans up3).trans up4, .inr (.inr (by rw [hs]; exact hh4)), na, os, ag, w⟩
        first
          | exact wpAny_bind (wpAny_pure (wpAny_bind fin))
          | exact wpAny_bind fin
      | @bare x c ts b₀ suite np pos' hds2 l2 hc hsu r ih =>
        intro w
        obtain ⟨b, hb1, hyes, hno⟩ := w
        refine wpAny_handleBy_cons (codeAny_handlers_test ?_) (by intro q; cases q)
        refine test hc ((PySem.W.exm_one (M := model X.prog X.w) (J3.kIn) LT hb1).here ?_)
        cases b with
        | false =>
          show wpAny _ X.A (handleBy (.ref a) X.env hds2) _ _ _
          exact ih (hno rfl)
        | true =>
          refine codeAny_handlers_suite (HandSPX.lands_againZ fl3 fun h4 fl4 up4 => ?_)
          have J4 : Inv X pins σ' H' { s' with heap := h4 } := J.landed nb fl4.1 ((up.trans up3).trans up4) os ag
          obtain ⟨oe4, vs4, he4, hz4, hd4⟩ := fl4.there
          have S4 := J4.suite he4 hd4 na nL nF
          refine wpAny_mono ((hsu a oe4 cls d (X.pn ++ pins) hz4 ⟨_, hd4⟩).run [] _ _ H' _ S4 (hyes rfl a na)) (fun f s6 hsp => ?_) (fun _ _ z => False.elim z)
          cases f with
          | next => exact let ⟨σ6, H6, S6, q6⟩ := hsp; ⟨_, _, S6.unsuite ok, q6⟩
          | brk => exact let ⟨σ6, H6, S6, q6⟩ := hsp; ⟨_, _, S6.unsuite ok, q6⟩
          | cont => exact let ⟨σ6, H6, S6, q6⟩ := hsp; ⟨_, _, S6.unsuite ok, q6⟩
          | ret u => exact let ⟨v6, σ6, H6, S6, r6, q6⟩ := hsp; ⟨_, _, _, S6.unsuite ok, r6, q6⟩
      | @named x n i c ts b₀ suite np pos' hds2 l2 hc hi hln hsu r ih =>
        intro w
        obtain ⟨b, hb1, hyes, hno⟩ := w
        refine wpAny_handleBy_cons (codeAny_handlers_test ?_) (by intro q; cases q)
        refine test hc ((PySem.W.exm_one (M := model X.prog X.w) (J3.kIn) LT hb1).here ?_)
        cases b with
        | false =>
          show wpAny _ X.A (handleBy (.ref a) X.env hds2) _ _ _
          exact ih (hno rfl)
        | true =>
          refine codeAny_handlers_suite_as (HandSPX.lands_againZ fl3 fun h4 fl4 up4 => ?_)
          have J4 : Inv X pins σ' H' { s' with heap := h4 } := J.landed nb fl4.1 ((up.trans up3).trans up4) os ag
          obtain ⟨oe4, vs4, he4, hz4, hd4⟩ := fl4.there
          have S4 := J4.suite he4 hd4 na nL nF
          refine store_ok (X := X.suite a ((a, oe4) :: (X.pn ++ pins))) (v := .ref a) S4 hN hi (.inl hln) rfl (fun s5 S5 => ?_) (.inr hln)
          refine wpAny_mono ((hsu a oe4 cls d (X.pn ++ pins) hz4 ⟨_, hd4⟩).run [] s5 _ H' _ S5 (hyes rfl a na)) (fun f s6 hsp => ?_) (fun _ _ z => False.elim z)
          have end_ : ∀ {σ6 : L2.St} {H6 : Hp} {Q : Shared → Prop}, Inv (X.suite a ((a, oe4) :: (X.pn ++ pins))) [] σ6 H6 s6 → (∀ s7, Inv X pins (σ6.set i none) H6 s7 → Q s7) →
              wpAny (model X.prog X.w) X.A (do bindName X.env n .none; unbindBehindTheSuite X.env n pos') (fun _ s7 => Q s7) X.xe s6 := fun {σ6 H6 Q} S6 hq => gone_ok (S6.unsuite ok) hN hi hln hq
          cases f with
          | next => exact let ⟨σ6, H6, S6, q6⟩ := hsp; end_ S6 fun s7 J7 => ⟨_, _, J7, q6⟩
          | brk => exact let ⟨σ6, H6, S6, q6⟩ := hsp; end_ S6 fun s7 J7 => ⟨_, _, J7, q6⟩
          | cont => exact let ⟨σ6, H6, S6, q6⟩ := hsp; end_ S6 fun s7 J7 => ⟨_, _, J7, q6⟩
          | ret u => exact let ⟨v6, σ6, H6, S6, r6, q6⟩ := hsp; end_ S6 fun s7 J7 => ⟨_, _, _, J7, r6, q6⟩
    exact go hh w
  · cases f with
    | next => exact let ⟨σ', H', J', q⟩ := hsp; wpAny_execs_nil ⟨σ', H', J'.ofTry ok, q⟩
    | brk => exact let ⟨σ', H', J', q⟩ := hsp; ⟨σ', H', J'.ofTry ok, q⟩
    | cont => exact let ⟨σ', H', J', q⟩ := hsp; ⟨σ', H', J'.ofTry ok, q⟩
    | ret u => exact let ⟨v, σ', H', J', r, q⟩ := hsp; ⟨v, σ', H', J'.ofTry ok, r, q⟩
end
/-! ### the same as data -/
/-- a clause: which classes it takes, its name's slot, its suite by the error's number and attributes -/
structure DCl where
  mt : List (Nat × Bool)
  i : Option Nat
  s : Nat → List (Str × D) → CS
def wipeO (i : Option Nat) (o : OutS) : OutS := match i with
  | none => o
  | some i => match o with
    | .nx r e => .nx (r.set i none) e
    | .bk r e => .bk (r.set i none) e
    | .ct r e => .ct (r.set i none) e
    | o => o
def noExc (o : OutS) : OutS := match o with
  | .exc _ _ _ _ => .stuck
  | o => o
def handle (x : Nat) (fs : List (Str × D)) : List DCl → CS
  | [] => fun rho eta => .exc x fs rho eta
  | c :: r => fun rho eta => match c.mt.lookup x with
    | some true => (match c.i with
      | some i => if i < rho.length then noExc (wipeO (some i) (c.s x fs (rho.set i none) eta)) else .stuck
      | none => noExc (c.s x fs rho eta))
    | some false => handle x fs r rho eta
    | none => .stuck
def cTry (b : CS) (l : List DCl) : CS := fun rho eta => match b rho eta with
  | .exc x fs r e => handle x fs l r e
  | o => o
/-- the suite's context: the error at a, in slot i -/
def Wsu (i : Nat) (a : Addr) (cls : Value) (d : Option Addr) (x : Nat) (fs : List (Str × D)) : WE := ⟨fun _ _ _ _ => False, some ⟨i, a, cls, d, x, fs, none⟩⟩
/-- a clause of the text, as data -/
inductive ClD (g : G) (X : Cx) : List ExceptHandler → List DCl → Prop
  | nil : ClD g X [] []
  | bare {x : Str} {c : Value} {mt : List (Nat × Bool)} {cs : CS} {b₀ : Stmt} {suite : List Stmt} {np pos' : Pos} {hds : List ExceptHandler} {l : List DCl} (hc : Names X x c) (hm : ∀ n b, mt.lookup n = some b → PySem.W.exmOne X.K (.ref (g.cl n)) c = some b)
      (hsu : ∀ (a : Addr) (pn : List (Addr × Obj)), PSs (X.suite a pn) (b₀ :: suite) (tS g Wn cs)) (r : ClD g X hds l) :
      ClD g X (.ExceptHandler (some (.Name x np)) none (b₀ :: suite) pos' :: hds) (⟨mt, none, fun _ _ => cs⟩ :: l)
  | named {x n : Str} {i : Nat} {c : Value} {mt : List (Nat × Bool)} {cs : Nat → List (Str × D) → CS} {b₀ : Stmt} {suite : List Stmt} {np pos' : Pos} {hds : List ExceptHandler} {l : List DCl} (hc : Names X x c) (hi : X.N[i]? = some n) (hln : X.env.kindOf n = some .local) (hm : ∀ n b, mt.lookup n = some b → PySem.W.exmOne X.K (.ref (g.cl n)) c = some b)
      (hsu : ∀ (a : Addr) (oe : Obj) (cls : Value) (d : Option Addr) (pn : List (Addr × Obj)) (xx : Nat) (fs : List (Str × D)), Zc cls d oe → (∃ vs, oe.data = .fields vs) → mt.lookup xx = some true → PSs (X.suite a ((a, oe) :: pn)) (b₀ :: suite) (tS g (Wsu i a cls d xx fs) (cs xx fs))) (r : ClD g X hds l) :
      ClD g X (.ExceptHandler (some (.Name x np)) (some n) (b₀ :: suite) pos' :: hds) (⟨mt, some i, cs⟩ :: l)
section
variable {g : G} {W : WE} {X : Cx} {k : Nat}
theorem RelS.weak {Hb : Hp} {m : List Addr} {rho : Rho} {σ : L2.St} {xc : Option XC} (h : RelS g xc Hb m rho σ) : RelS g none Hb m rho σ := ⟨h.len, h.at_, fun q hq => nomatch hq⟩
/-- the error takes its slot -/
theorem RelS.take {Hb : Hp} {m : List Addr} {rho : Rho} {σ : L2.St} (h : RelS g none Hb m rho σ) (i : Nat) (hi : i < σ.length) {a : Addr} {cls : Value} {d : Option Addr} {x : Nat} {fs : List (Str × D)} (xd : XD g Hb m x fs cls d) : RelS g (some ⟨i, a, cls, d, x, fs, none⟩) Hb m (rho.set i none) (σ.set i (some (.ref a))) := by
  refine ⟨by simp [h.len], fun j e q => ?_, fun q hq => ?_⟩
  · by_cases hj : i = j
    · subst hj
      rw [List.getElem?_set] at q
      simp at q
    · rw [List.getElem?_set_ne hj] at q
      obtain ⟨v, e1, k1⟩ := h.at_ j e q
      exact ⟨v, by rw [List.getElem?_set_ne hj]; exact e1, k1⟩
  · cases hq
    exact ⟨List.getElem?_set_self hi, xd, fun _ hn => nomatch hn⟩
theorem RelS.free {Hb : Hp} {m : List Addr} {rho : Rho} {σ : L2.St} {xc : Option XC} (h : RelS g xc Hb m rho σ) (i : Nat) : RelS g none Hb m (rho.set i none) (σ.set i none) := RelS.wipe h.weak i fun q hq => nomatch hq
theorem handle_ok {F : Hp} {Wout : WX} {DD : Ends} {hds : List ExceptHandler} {l : List DCl} (h : ClD g X hds l) : ∃ l', ClOk X hds l' ∧ ∀ (Wout : WX) (DD : Ends) (F : Hp) (x : Nat) (fs : List (Str × D)) (rho : Rho) (eta : Eta) (Hb : Hp) (m : List Addr), PostS g ⟨Wout, none⟩ F Hb m (handle x fs l rho eta) DD →
    ∀ cls dd σ H, RelH g F Hb m eta H → RelS g none Hb m rho σ → XD g Hb m x fs cls dd → wCl X.K Wout DD l' cls dd σ H := by
  induction h with
  | nil => exact ⟨[], .nil, fun Wout DD F x fs rho eta Hb m po cls dd σ H rh rs xd => po cls dd σ H Hb m rh rs Gr.refl xd⟩
  | @bare nx c mt cs b₀ suite np pos' hds l hc hm hsu r ih =>
    obtain ⟨l', k1, k2⟩ := ih
    refine ⟨(c, none, fun _ _ _ => tS g Wn cs) :: l', .bare hc (fun a oe cls d pn _ _ => hsu a _) k1, fun Wout DD F x fs rho eta Hb m po cls dd σ H rh rs xd => ?_⟩
    revert po
    unfold handle
    dsimp only
    cases q : mt.lookup x with
    | none => exact fun z => z.elim
    | some b =>
      have e1 := hm x b q
      rw [← xd.1] at e1
      cases b with
      | false => exact fun po => ⟨false, e1, fun z => (nomatch z), fun _ => k2 Wout DD F x fs rho eta Hb m po cls dd σ H rh rs xd⟩
      | true =>
        refine fun po => ⟨true, e1, fun _ a ha => ⟨rho, eta, F, Hb, m, rh, rs, ?_⟩, fun z => (nomatch z)⟩
        revert po
        dsimp only
        cases cs rho eta with
        | nx r e => exact fun po => po
        | ret d e => exact fun po => po
        | bk r e => exact fun po => po
        | ct r e => exact fun po => po
        | exc x fs r e => exact fun z => z.elim
        | stuck => exact fun z => z
  | @named nx n i c mt cs b₀ suite np pos' hds l hc hi hln hm hsu r ih =>
    obtain ⟨l', k1, k2⟩ := ih
    refine ⟨(c, some i, fun a cls d => fun D σ H => ∃ xx fs, mt.lookup xx = some true ∧ tS g (Wsu i a cls d xx fs) (cs xx fs) D σ H) :: l', .named hc hi hln (fun a oe cls d pn hz hf => ⟨fun pins s σ H D I ⟨xx, fs, hx, hq⟩ => (hsu a oe cls d pn xx fs hz hf hx).run pins s σ H D I hq⟩) k1, fun Wout DD F x fs rho eta Hb m po cls dd σ H rh rs xd => ?_⟩
    revert po
    unfold handle
    dsimp only
    cases q : mt.lookup x with
    | none => exact fun z => z.elim
    | some b =>
      have e1 := hm x b q
      rw [← xd.1] at e1
      cases b with
      | false => exact fun po => ⟨false, e1, fun z => (nomatch z), fun _ => k2 Wout DD F x fs rho eta Hb m po cls dd σ H rh rs xd⟩
      | true =>
        dsimp only
        split
        · rename_i hl
          refine fun po => ⟨true, e1, fun _ a ha => ⟨x, fs, q, rho.set i none, eta, F, Hb, m, rh, rs.take i (by rw [← rs.len]; exact hl) xd, ?_⟩, fun z => (nomatch z)⟩
          revert po
          cases cs x fs (rho.set i none) eta with
          | nx r e => exact fun po σ' H' Hb' m' r1 r2 r3 => po _ H' Hb' m' r1 (r2.free i) r3
          | ret d e => exact fun po => po
          | bk r e => exact fun po σ' H' Hb' m' r1 r2 r3 => po _ H' Hb' m' r1 (r2.free i) r3
          | ct r e => exact fun po σ' H' Hb' m' r1 r2 r3 => po _ H' Hb' m' r1 (r2.free i) r3
          | exc x fs r e => exact fun z => z.elim
          | stuck => exact fun z => z.elim
        · exact fun z => z.elim
theorem Cz.tr (z : Cz g X W k) {W' : WX} {pn : List (Addr × Obj)} {xe : Value → Shared → Prop} (tk : Takes (X.tr pn xe) W') (hp : PassesOwn (model X.prog X.w) X.A X.env xe) : Cz g (X.tr pn xe) ⟨W', none⟩ k := ⟨tk, z.calm, z.rm, z.K, z.nd, hp⟩
theorem s_try {body : List Stmt} {h₀ : ExceptHandler} {hds : List ExceptHandler} {l : List DCl} {pos : Pos} {cs : CS} (z : Cz g X W k) (hw : W.xc = none) (hs : X.stack = X.env :: X.outer) (hf : X.env.frame = some X.env.locals)
    (hb : ∀ (W' : WX) (pn : List (Addr × Obj)) (xe : Value → Shared → Prop), Cz g (X.tr pn xe) ⟨W', none⟩ k → PSs (X.tr pn xe) body (tS g ⟨W', none⟩ cs)) (hh : ClD g X (h₀ :: hds) l) : PS X (.Try body (h₀ :: hds) [] [] pos) (tS g W (cTry cs l)) := by
  obtain ⟨l', k1, k2⟩ := handle_ok (F := fun _ => none) (Wout := W.w) (DD := ⟨fun _ _ => False, fun _ _ => False, fun _ _ => False, fun _ _ => False⟩) hh
  refine ps_weak (ps_tryCl (tb := fun W' => tS g ⟨W', none⟩ cs) hs hf z.nd z.tk (fun W' pn xe tk hp => hb W' pn xe (z.tr tk hp)) k1) fun DD σ H ⟨rho, eta, F, Hb, m, rh, rs, po⟩ => ?_
  rw [hw] at rs
  obtain ⟨w, xc⟩ := W
  obtain rfl : xc = none := hw
  refine ⟨rho, eta, F, Hb, m, rh, rs, ?_⟩
  revert po
  unfold cTry
  cases cs rho eta with
  | exc x fs r e => exact fun po cls dd σ' H' Hb' m' r1 r2 r3 xd => k2 w DD F x fs r e Hb' m' (po.grow r3) cls dd σ' H' r1 r2 xd
  | nx r e => exact fun po => po
  | ret d e => exact fun po => po
  | bk r e => exact fun po => po
  | ct r e => exact fun po => po
  | stuck => exact fun z => z
theorem only_true {mt : List (Nat × Bool)} {j n : Nat} (h : (mt.all fun p => !p.2 || p.1 == j) = true) (e : mt.lookup n = some true) : n = j := by
  induction mt with
  | nil => cases e
  | cons p r ih =>
    obtain ⟨a, b⟩ := p
    simp only [List.all_cons, Bool.and_eq_true] at h
    by_cases hn : n == a
    · simp only [List.lookup, hn] at e
      cases e
      have := h.1
      simp at this
      rw [← this]; simpa using hn
    · simp only [List.lookup, hn] at e
      exact ih h.2 e
/-! ### the held error's attributes -/
def cXa (f : Str) (fs : List (Str × D)) : CE := fun _ eta => match fs.lookup f with | some d => .ok d eta | none => .stuck
theorem d_xa {i : Nat} {nm : Str} {a : Addr} {oe : Obj} {cls : Value} {d : Option Addr} {pn : List (Addr × Obj)} {xx : Nat} {fs : List (Str × D)} {f : Str} {p pos : Pos} (T : ErrC X.K (g.cl xx)) (hno : PySem.W.findIn X.K (.ref (g.cl xx)) f = some none) (hz : Zc cls d oe) (hf : ∃ vs, oe.data = .fields vs)
    (hN : X.N[i]? = some nm := by rfl) (hv : Vis X.env.scope nm := by first | exact Or.inl rfl | exact Or.inr (Or.inl rfl) | exact Or.inr (Or.inr rfl)) (hd : (nm == ("__debug__" : Str)) = false := by decide) (hcd : (nm == ("__classdict__" : Str)) = false := by decide)
    (hb : attributeBase (.Name nm p) f X.env (eval (.Name nm p) X.env) = eval (.Name nm p) X.env := by rfl) :
    PE (X.suite a ((a, oe) :: pn)) (.Attribute (.Name nm p) f pos) (tD g (Wsu i a cls d xx fs) (cXa f fs)) :=
  pe_weak (pe_xf (te := tVar i) ⟨T.ga, T.gg, T.ex, T.hd⟩ hno hz hf (pe_var (X := X.suite a ((a, oe) :: pn)) hN hv hd hcd) hb) fun σ H Q ⟨rho, eta, F, Hb, m, rh, rs, po⟩ => by
    obtain ⟨e1, ⟨e2, e3⟩, _⟩ := rs.xc _ rfl
    refine ⟨.ref a, e1, rfl, e2, ?_⟩
    revert po
    unfold cXa
    cases q : fs.lookup f with
    | none => exact fun z => z.elim
    | some y =>
      intro po
      rcases e3 with ⟨h1, _⟩ | ⟨dd, ws, h1, h2, h3⟩
      · simp only at h1; subst h1; cases q
      · obtain ⟨v, l1, l2⟩ := h3.get q
        exact ⟨dd, ws, v, h1, rh.ex _ _ h2, l1, po v H Hb m rh Gr.refl l2⟩
end
end Gh
namespace Gh
open PySem PySem.Spec PyProof.Rows L2
/-! ### a def's body -/
theorem FnG.imp {P : Program} {w : World} {K : PySem.W.Frag} {mg : Str → Option Value} {base : Heap} {k : Nat} {f : Addr} {fd : FuncData} {ps : List Str} {sp sp' : Sp} (F : FnG P w K mg base k f fd ps sp) (h : ∀ vs H Q E, sp' vs H Q E → sp vs H Q E) : FnG P w K mg base k f fd ps sp' :=
  ⟨fun vs H Q E q => F.len vs H Q E (h _ _ _ _ q), fun A outer s H args us vs Q E hr he hb hv hs => F.run A outer s H args us vs Q E hr he hb hv (h _ _ _ _ hs)⟩
section
variable {g : G} {P : Program} {w : World} {K : PySem.W.Frag} {mg : Str → Option Value} {base : Heap} {k : Nat} {f : Addr} {fd : FuncData} {N ps : List Str} {x qual : Str} {params : Arguments} {body : List Stmt} {scope : Scope} {dvs : List V} {kws : List (Str × V)}
theorem VDs.at' {Hb : Hp} {m : List Addr} {ds : List D} {vs : List V} (h : VDs g Hb m ds vs) {n i : Nat} {d : D} (e : (startD n ds)[i]? = some (some d)) : ∃ v, (vs.map some ++ List.replicate (n - vs.length) none)[i]? = some (some v) ∧ VD g Hb m d v := by
  unfold startD at e
  by_cases hi : i < ds.length
  · rw [List.getElem?_append_left (by simpa using hi), List.getElem?_map] at e
    obtain ⟨d', e1, e2⟩ := Option.map_eq_some_iff.mp e
    cases e2
    obtain ⟨v, e3, k⟩ := h.get e1
    refine ⟨v, ?_, k⟩
    rw [List.getElem?_append_left (by simpa [← h.length] using hi), List.getElem?_map, e3]
    rfl
  · rw [List.getElem?_append_right (by simpa using hi)] at e
    obtain ⟨_, e2⟩ := List.getElem?_eq_some_iff.mp e
    simp at e2
theorem relS_start {Hb : Hp} {m : List Addr} {ds : List D} {vs : List V} (h : VDs g Hb m ds vs) (N : List Str) : RelS g none Hb m (startD N.length ds) (L2.start N vs) :=
  ⟨by unfold startD L2.start; simp [h.length], fun i d e => h.at' e, fun q hq => nomatch hq⟩
theorem end_post {W : WE} {F Hb : Hp} {m : List Addr} {σ : L2.St} {o : OutS} {Q : VK} {E : XK} (hw : W.w = fun c d _ H => E c d H) (h : Post g (W0 E) (relD g) F σ Hb m (endF o) Q) : PostS g W F Hb m o { nx := fun _ H' => Q .non H', rt := Q } := by
  cases o with
  | nx r e => exact fun σ' H' Hb' m' r1 _ r3 => h .non H' Hb' m' r1 r3 rfl
  | ret d e => exact fun v H' Hb' m' r1 r2 r3 => h v H' Hb' m' r1 r2 r3
  | bk r e => exact h.elim
  | ct r e => exact h.elim
  | exc x fs r e => exact fun cls dd σ' H' Hb' m' r1 _ r3 xd => by rw [hw]; exact h cls dd H' Hb' m' r1 r3 xd
  | stuck => exact h
theorem FunD.d {cs : CS} (F : FunD K x qual params body scope dvs kws f fd) (hK : K = g.K) (S : FnScope N ps scope)
    (hb : ∀ (cdv : Value) (A : Around) (outer : List Env) (s : Shared) (H : Hp) (E : XK), Cz g (cxOf (L2.CX P w) P w K mg base N qual scope f cdv A outer s H E) (W0 E) k → PSs (cxOf (L2.CX P w) P w K mg base N qual scope f cdv A outer s H E) body (tS g (W0 E) cs)) :
    FnG P w K mg base (k + 1) f fd ps (spD g ps.length (bodyF N.length cs)) := by
  obtain ⟨oc, od, dV, kV, doc, pm, an, cdv, ct, osl, rfl, lk, hcd, _, _⟩ := F.ex
  refine fng_of lk hcd S (fun vs H Q E h => h.1) fun A outer s H vs Q E hr ⟨_, ds, eta, F0, Hb, m, rh, vd, po⟩ => ?_
  refine ⟨_, hb cdv A outer s H E ⟨takes_of rfl rfl rfl rfl, rfl, hr, hK, S.nd, passes_of rfl⟩, startD N.length ds, eta, F0, Hb, m, rh, relS_start vd N, ?_⟩
  exact end_post rfl po
/-- .. what it lays becomes pure -/
theorem FnG.fz {n : Nat} {fD : Fd} (F : FnG P w K mg base k f fd ps (spD g n fD)) : FnG P w K mg base k f fd ps (spD g n (Gh.fz fD)) := F.imp fun _ _ _ _ h => spD_fz h
/-- an equal answer -/
theorem FnG.same {n : Nat} {fD fD' : Fd} (F : FnG P w K mg base k f fd ps (spD g n fD)) (h : fD' = fD) : FnG P w K mg base k f fd ps (spD g n fD') := h ▸ F
/-! ### a def whose first parameter is a list of ints that stays -/
def Wp (g : G) (E : XK) (a : Addr) (ns : List Int) : WE := ⟨fun c d _ H => E c d H, some ⟨0, a, .ref (g.cl 0), none, 0, [], some ns⟩⟩
abbrev Fp := List Int → Fd
def spP (g : G) (n : Nat) (fP : Fp) : Sp := fun vs H Q E => vs.length = n ∧ ∃ a us ns ds eta F Hb m, vs = .ref a :: us ∧ RelH g F Hb m eta H ∧ VDs g Hb m ds us ∧ SqL g.K Hb a (ns.map V.int) ∧ Post g (W0 E) (relD g) F [] Hb m (fP ns ds eta) Q
def bodyP (n : Nat) (c : List Int → CS) : Fp := fun ns ds eta => endF (c ns ((startD n (.non :: ds)).set 0 none) eta)
theorem FunD.p {cs : List Int → CS} (F : FunD K x qual params body scope dvs kws f fd) (hK : K = g.K) (S : FnScope N ps scope)
    (hb : ∀ (cdv : Value) (A : Around) (outer : List Env) (s : Shared) (H : Hp) (E : XK) (a : Addr) (ns : List Int), Cz g (cxOf (L2.CX P w) P w K mg base N qual scope f cdv A outer s H E) (Wp g E a ns) k → PSs (cxOf (L2.CX P w) P w K mg base N qual scope f cdv A outer s H E) body (tS g (Wp g E a ns) (cs ns))) :
    FnG P w K mg base (k + 1) f fd ps (spP g ps.length (bodyP N.length cs)) := by
  obtain ⟨oc, od, dV, kV, doc, pm, an, cdv, ct, osl, rfl, lk, hcd, _, _⟩ := F.ex
  refine fng_of lk hcd S (fun vs H Q E h => h.1) fun A outer s H vs Q E hr ⟨_, a, us, ns, ds, eta, F0, Hb, m, ev, rh, vd, sq, po⟩ => ?_
  subst ev
  refine ⟨_, hb cdv A outer s H E a ns ⟨takes_of rfl rfl rfl rfl, rfl, hr, hK, S.nd, passes_of rfl⟩, (startD N.length (.non :: ds)).set 0 none, eta, F0, Hb, m, rh, ?_, ?_⟩
  · refine ⟨by unfold startD L2.start; simp [vd.length], fun i d e => ?_, fun q hq => ?_⟩
    · cases i with
      | zero => unfold startD at e; simp at e
      | succ i =>
        rw [List.getElem?_set_ne (by omega)] at e
        unfold startD at e
        simp only [List.map_cons, List.cons_append, List.getElem?_cons_succ, List.length_cons] at e
        have e' : (startD (N.length - 1) ds)[i]? = some (some d) := by
          unfold startD
          rw [show N.length - 1 - ds.length = N.length - (ds.length + 1) by omega]
          exact e
        obtain ⟨v, e1, k1⟩ := vd.at' e'
        refine ⟨v, ?_, k1⟩
        unfold L2.start
        simp only [List.map_cons, List.cons_append, List.getElem?_cons_succ, List.length_cons]
        rw [show N.length - (us.length + 1) = N.length - 1 - us.length by omega]
        exact e1
    · cases hq
      exact ⟨rfl, ⟨rfl, .inl ⟨rfl, rfl⟩⟩, fun ns' hn => by cases hn; exact sq⟩
  · exact end_post rfl po
end
/-! ### reading such a list -/
section
variable {g : G} {W : WE} {X : Cx} {kk k n : Nat} {e : Expr} {p pos : Pos} {ce : CE} {nm : Str} {f : Addr} {fd : FuncData} {ps : List Str} {q0 : XC} {ns : List Int}
theorem RelS.pin {Hb : Hp} {m : List Addr} {rho : Rho} {σ : L2.St} (rs : RelS g W.xc Hb m rho σ) (hw : W.xc = some q0) (hp : q0.pr = some ns) : σ[q0.i]? = some (some (.ref q0.a)) ∧ SqL g.K Hb q0.a (ns.map V.int) := ⟨(rs.xc q0 hw).1, (rs.xc q0 hw).2.2 ns hp⟩
theorem SqL.up {F Hb H : Hp} {m : List Addr} {eta : Eta} {a : Addr} {xs : List V} (rh : RelH g F Hb m eta H) (h : SqL g.K Hb a xs) : SqL g.K H a xs := h.imp (fun z => Gh.Same.rd rh.ex z) id
theorem p_len (z : Cz g X W kk) (hw : W.xc = some q0) (hp : q0.pr = some ns) (hm : X.mg "len" = none) (hN : X.N[q0.i]? = some nm) (hv : Vis X.env.scope nm) (hg : Gl X "len" := by rfl) (hd : (nm == ("__debug__" : Str)) = false := by decide) (hcd : (nm == ("__classdict__" : Str)) = false := by decide)
    (h1 : starEach (.Name nm p :: []) X.env = (false, eval (.Name nm p) X.env) :: starEach [] X.env := by rfl) (hpl : (backTo pos (starEach [] X.env)).any (·.1) = false := by rfl) {p2 : Pos} : PE X (.Call (.Name "len" p2) [.Name nm p] [] pos) (tD g W (cC (.int ns.length))) :=
  pe_weak (pe_callB call_len hg hm PySem.boot_len (pa_cons (pe_var hN hv hd hcd) pa_nil h1) (by decide) (by decide) h1 hpl) fun σ H Q ⟨rho, eta, F, Hb, m, rh, rs, po⟩ => by
    obtain ⟨e1, e2⟩ := rs.pin hw hp
    refine ⟨.ref q0.a, e1, .ref q0.a, (ns.map V.int).length, rfl, .inl ⟨_, z.K ▸ SqL.up rh e2, rfl⟩, ?_⟩
    exact po _ H Hb m rh Gr.refl (by rw [List.length_map]; rfl)
def cPix (ns : List Int) (ce : CE) : CE := cb ce fun d _ eta => match d with | .int i => (match atI ns i with | some x => .ok (.int x) eta | none => .stuck) | _ => .stuck
theorem atI_map {α β : Type} (f : α → β) (l : List α) (i : Int) : atI (l.map f) i = (atI l i).map f := by
  unfold atI
  rw [List.length_map]
  cases ixN l.length i with
  | none => rfl
  | some j =>
    show (l.map f)[j]? = (l[j]?).map f
    rw [List.getElem?_map]
theorem p_ix (z : Cz g X W kk) (hw : W.xc = some q0) (hp : q0.pr = some ns) (hN : X.N[q0.i]? = some nm) (hv : Vis X.env.scope nm) (he : PE X e (tD g W ce)) (hd : (nm == ("__debug__" : Str)) = false := by decide) (hcd : (nm == ("__classdict__" : Str)) = false := by decide) (hs : PlainIx e := by intro _ _; rfl) : PE X (.Subscript (.Name nm p) e pos) (tD g W (cPix ns ce)) :=
  pe_weak (pe_ix ix_seq (pe_var hN hv hd hcd) he hs) fun σ H Q ⟨rho, eta, F, Hb, m, rh, rs, po⟩ => by
    obtain ⟨e1, e2⟩ := rs.pin hw hp
    refine ⟨.ref q0.a, e1, rho, eta, F, Hb, m, rh, rs, Post.bind po fun d eta1 v H1 Hb1 m1 _ rh1 g1 vd po1 => ?_⟩
    revert po1
    cases d with
    | int i =>
      dsimp only
      cases q : atI ns i with
      | none => exact fun z => z.elim
      | some x =>
        intro po1
        have sq : SqL g.K Hb1 q0.a (ns.map V.int) := ((rs.mono g1).pin hw hp).2
        exact .inl ⟨q0.a, _, i, .int x, rfl, vd, z.K ▸ SqL.up rh1 sq, by rw [atI_map, q]; rfl, po1 _ H1 Hb1 m1 rh1 Gr.refl rfl⟩
    | non => exact fun z => z.elim
    | bl _ => exact fun z => z.elim
    | str _ => exact fun z => z.elim
    | lst _ => exact fun z => z.elim
    | tup _ => exact fun z => z.elim
    | obj _ _ => exact fun z => z.elim
    | ref _ => exact fun z => z.elim
/-- script[lo:hi] -/
def cPsl (ns : List Int) (l h : CO) : CE := cb l fun lo => cb h fun hi _ eta => .ok (.lst (cutD (ns.map D.int) lo hi)) eta
theorem ints_vd {Hb : Hp} {m : List Addr} : ∀ ns : List Int, VDs g Hb m (ns.map D.int) (ns.map V.int)
  | [] => rfl
  | n :: r => ⟨_, _, rfl, rfl, ints_vd r⟩
theorem p_sl {lo hi : Option Expr} {cl ch : CO} {p2 : Pos} (z : Cz g X W kk) (hw : W.xc = some q0) (hp : q0.pr = some ns) (hN : X.N[q0.i]? = some nm) (hv : Vis X.env.scope nm) (hl : PO X lo (tO' g W cl)) (hh : PO X hi (tO' g W ch)) (hd : (nm == ("__debug__" : Str)) = false := by decide) (hcd : (nm == ("__classdict__" : Str)) = false := by decide) : PE X (.Subscript (.Name nm p) (.Slice lo hi none p2) pos) (tD g W (cPsl ns cl ch)) :=
  pe_weak (pe_slice sl_both (pe_var hN hv hd hcd) hl hh) fun σ H Q ⟨rho, eta, F, Hb, m, rh, rs, po⟩ => by
    obtain ⟨e1, e2⟩ := rs.pin hw hp
    refine ⟨.ref q0.a, e1, rho, eta, F, Hb, m, rh, rs, Post.bind po fun l eta2 l' H2 Hb2 m2 _ rh2 g2 el po2 =>
      ⟨rho, eta2, F, Hb2, m2, rh2, rs.mono g2, Post.bind po2 fun h eta3 h' H3 Hb3 m3 _ rh3 g3 eh po3 => ?_⟩⟩
    obtain rfl : l = l' := el
    obtain rfl : h = h' := eh
    have sq : SqL g.K Hb3 q0.a (ns.map V.int) := (((rs.mono g2).mono g3).pin hw hp).2
    refine .inl ⟨q0.a, _, rfl, z.K ▸ SqL.up rh3 sq, fun pp hp => ?_⟩
    obtain ⟨rh', gr⟩ := rh3.pure (o := .lst (cutV (ns.map V.int) l h)) hp
    exact po3 _ _ _ _ rh' gr ⟨pp, _, rfl, .inl upd_same, cutD_ok (ints_vd ns)⟩
/-- _law_cell(script, e) -/
def cFnP (fP : Fp) (ns : List Int) (ce : CE) : CE := cb ce fun d _ eta => fP ns [d] eta
theorem p_call {fP : Fp} {x : Str} {p0 : Pos} (z : Cz g X W kk) (hw : W.xc = some q0) (hpr : q0.pr = some ns) (F : FnG X.prog X.w X.K X.mg X.base k f fd ps (spP g 2 fP)) (hk : k ≤ kk) (hm : X.mg x = some (.ref f)) (hkp : PySem.W.keepIn X.K (.ref f) = true) (hb : KBn X.K fd ps 2 [] (fun us _ => us) (fun vs _ => vs))
    (hN : X.N[q0.i]? = some nm) (hv : Vis X.env.scope nm) (he : PE X e (tD g W ce)) (hd : (nm == ("__debug__" : Str)) = false := by decide) (hcd : (nm == ("__classdict__" : Str)) = false := by decide) (hg : Gl X x := by rfl) (hdb : (x == ("__debug__" : Str)) = false := by decide)
    (h1 : starEach (.Name nm p :: [e]) X.env = (false, eval (.Name nm p) X.env) :: starEach [e] X.env := by rfl) (h2 : starEach (e :: []) X.env = (false, eval e X.env) :: starEach [] X.env := by rfl) (hpl : (backTo pos (starEach [e] X.env)).any (·.1) = false := by rfl) :
    PE X (.Call (.Name x p0) [.Name nm p, e] [] pos) (tD g W (cFnP fP ns ce)) :=
  pe_weak (pe_g (E := fun σ cls d H => W.w cls d σ H) F (z.rm.mono hk) hg hm hkp hb (pass_s z.tk) (pak_v (pa_cons (pe_var hN hv hd hcd) (pa_cons he pa_nil h2) h1) h1 hpl) hdb) fun σ H Q ⟨rho, eta, F0, Hb, m, rh, rs, po⟩ => by
    obtain ⟨e1, e2⟩ := rs.pin hw hpr
    refine ⟨.ref q0.a, e1, rho, eta, F0, Hb, m, rh, rs, Post.bind po fun d eta1 v H1 Hb1 m1 _ rh1 g1 vd po1 => ?_⟩
    have sq : SqL g.K Hb1 q0.a (ns.map V.int) := ((rs.mono g1).pin hw hpr).2
    exact ⟨rfl, rfl, rfl, q0.a, [v], ns, [d], eta1, F0, Hb1, m1, rfl, rh1, ⟨v, [], rfl, vd, rfl⟩, sq, po1.toW0⟩
end
/-! ### block ends: what is laid within becomes pure -/
def subO (s : Nat → Option D) : Option D → Option (Option D)
  | none => some none
  | some d => (subD s d).map some
def subR (s : Nat → Option D) : Rho → Option Rho
  | [] => some []
  | d :: r => (subO s d).bind fun d' => (subR s r).map fun r' => d' :: r'
def frzR (n : Nat) (eta : Eta) (rho : Rho) : Option (Rho × Eta) := if eta.length ≤ n then some (rho, eta) else (subR (frzS n eta 4) rho).bind fun r' => (subHs (frzS n eta 4) (eta.take n)).map fun e' => (r', e')
def fzS (n : Nat) (o : OutS) : OutS := match o with
  | .nx r e => (match frzR n e r with | some (r', e') => .nx r' e' | none => .stuck)
  | .ct r e => (match frzR n e r with | some (r', e') => .ct r' e' | none => .stuck)
  | .bk r e => (match frzR n e r with | some (r', e') => .bk r' e' | none => .stuck)
  | o => o
def cFr (c : CS) : CS := fun rho eta => fzS eta.length (c rho eta)
section
variable {g : G} {W : WE} {F Hb H : Hp} {m : List Addr} {σ : L2.St}
theorem subR_get {s : Nat → Option D} : ∀ {r r' : Rho} {i : Nat} {d' : D}, subR s r = some r' → r'[i]? = some (some d') → ∃ d, r[i]? = some (some d) ∧ subD s d = some d'
  | [], r', i, d', e, h => by unfold subR at e; cases e; simp at h
  | x :: r, r', i, d', e, h => by
    unfold subR at e
    obtain ⟨h', e1, e⟩ := Option.bind_eq_some_iff.mp e
    obtain ⟨r1, e2, rfl⟩ := Option.map_eq_some_iff.mp e
    cases i with
    | zero =>
      have : h' = some d' := by simpa using h
      subst this
      cases x with
      | none => cases e1
      | some d =>
        obtain ⟨d1, e3, e4⟩ := Option.map_eq_some_iff.mp e1
        cases e4
        exact ⟨d, rfl, e3⟩
    | succ i =>
      obtain ⟨o, e3, e4⟩ := subR_get (i := i) e2 (by simpa using h)
      exact ⟨o, by simpa using e3, e4⟩
theorem subR_length {s : Nat → Option D} : ∀ {r r' : Rho}, subR s r = some r' → r'.length = r.length
  | [], r', e => by unfold subR at e; cases e; rfl
  | x :: r, r', e => by
    unfold subR at e
    obtain ⟨h', e1, e⟩ := Option.bind_eq_some_iff.mp e
    obtain ⟨r1, e2, rfl⟩ := Option.map_eq_some_iff.mp e
    simp [subR_length e2]
theorem frzR_ok {Hb1 H1 : Hp} {m1 : List Addr} {eta eta' : Eta} {r r' : Rho} {xc : Option XC} (rh : RelH g F Hb1 m1 eta H1) (rs : RelS g xc Hb1 m1 r σ) (g1 : Gr Hb m Hb1 m1) (hx : ∀ q, xc = some q → q.fs = []) (e : frzR m.length eta r = some (r', eta')) : ∃ Hb2, RelH g F Hb2 m1 eta' H1 ∧ RelS g xc Hb2 m1 r' σ ∧ Gr Hb m Hb2 m1 ∨ ∃ Hb2, RelH g F Hb2 m eta' H1 ∧ RelS g xc Hb2 m r' σ ∧ Gr Hb m Hb2 m := by
  unfold frzR at e
  split at e
  · cases e
    exact ⟨Hb1, .inl ⟨rh, rs, g1⟩⟩
  · obtain ⟨r2, q1, q⟩ := Option.bind_eq_some_iff.mp e
    obtain ⟨e2, q2, q3⟩ := Option.map_eq_some_iff.mp q
    cases q3
    refine ⟨Hb1, .inr ⟨frzHp m1 m.length H1 Hb1, ?_, ?_, ⟨g1.h.trans (frz_same rh), fun _ _ h => h⟩⟩⟩
    · have := frz_rel rh g1.len q2
      rw [g1.take] at this
      exact this
    · refine ⟨by rw [subR_length q1]; exact rs.len, fun i d' ed => ?_, fun q hq => ⟨(rs.xc q hq).1, ?_, fun ns hn => ((rs.xc q hq).2.2 ns hn).imp (fun z => Gh.Same.rd (frz_same rh) z) id⟩⟩
      · obtain ⟨d, e3, e4⟩ := subR_get q1 ed
        obtain ⟨v, e5, k5⟩ := rs.at_ i d e3
        have := VD.sub (frz_same (n := m.length) rh) (frz_ref rh 4) _ _ _ e4 k5
        rw [g1.take] at this
        exact ⟨v, e5, this⟩
      · obtain ⟨z1, z2⟩ := (rs.xc q hq).2.1
        rw [hx q hq] at z2 ⊢
        refine ⟨z1, z2.imp id fun ⟨a, ws, y1, y2, y3⟩ => ⟨a, ws, y1, frz_same rh _ _ y2, y3⟩⟩
theorem fzS_ok {eta : Eta} {rho : Rho} {o : OutS} {DD : Ends} (hx : ∀ q, W.xc = some q → q.fs = []) (h : PostS g W F Hb m (fzS m.length o) DD) : PostS g W F Hb m o DD := by
  cases o with
  | nx r e =>
    intro σ' H1 Hb1 m1 r1 r2 r3
    revert h
    show PostS g W F Hb m (match frzR m.length e r with | some (r', e') => .nx r' e' | none => .stuck) DD → _
    cases q : frzR m.length e r with
    | none => exact fun z => z.elim
    | some p =>
      obtain ⟨r', e'⟩ := p
      obtain ⟨Hb2, k | ⟨Hb3, k⟩⟩ := frzR_ok r1 r2 r3 hx q
      · exact fun h => h σ' H1 _ _ k.1 k.2.1 k.2.2
      · exact fun h => h σ' H1 _ _ k.1 k.2.1 k.2.2
  | ct r e =>
    intro σ' H1 Hb1 m1 r1 r2 r3
    revert h
    show PostS g W F Hb m (match frzR m.length e r with | some (r', e') => .ct r' e' | none => .stuck) DD → _
    cases q : frzR m.length e r with
    | none => exact fun z => z.elim
    | some p =>
      obtain ⟨r', e'⟩ := p
      obtain ⟨Hb2, k | ⟨Hb3, k⟩⟩ := frzR_ok r1 r2 r3 hx q
      · exact fun h => h σ' H1 _ _ k.1 k.2.1 k.2.2
      · exact fun h => h σ' H1 _ _ k.1 k.2.1 k.2.2
  | bk r e =>
    intro σ' H1 Hb1 m1 r1 r2 r3
    revert h
    show PostS g W F Hb m (match frzR m.length e r with | some (r', e') => .bk r' e' | none => .stuck) DD → _
    cases q : frzR m.length e r with
    | none => exact fun z => z.elim
    | some p =>
      obtain ⟨r', e'⟩ := p
      obtain ⟨Hb2, k | ⟨Hb3, k⟩⟩ := frzR_ok r1 r2 r3 hx q
      · exact fun h => h σ' H1 _ _ k.1 k.2.1 k.2.2
      · exact fun h => h σ' H1 _ _ k.1 k.2.1 k.2.2
  | ret d e => exact h
  | exc x fs r e => exact h
  | stuck => exact h
theorem s_fr {X : Cx} {body : List Stmt} {cs : CS} (hx : ∀ q, W.xc = some q → q.fs = []) (h : PSs X body (tS g W cs)) : PSs X body (tS g W (cFr cs)) :=
  pss_weak h fun DD σ H ⟨rho, eta, F, Hb, m, rh, rs, po⟩ => ⟨rho, eta, F, Hb, m, rh, rs, by
    unfold cFr at po
    rw [← rh.len] at po
    exact fzS_ok (eta := eta) (rho := rho) hx po⟩
end
/-! ### wide and other operations -/
def fDivW := fI (fun _ j => decide (0 < j) && decide (j < 340282366920938463463374607431768211456)) fun i j => .int (i / j)
def fNeg (d : D) (_ : Eta) : Option D := match d with | .int i => some (.int (-i)) | _ => none
def cUn (f : D → Eta → Option D) (c : CE) : CE := cb c fun d _ eta => match f d eta with | some z => .ok z eta | none => .stuck
def fIsB (x y : D) (_ : Eta) : Option D := match x, y with | .bl a, .bl b => some (.bl (decide (a = b))) | _, _ => none
def fNotB (x y : D) (_ : Eta) : Option D := match x, y with | .bl a, .bl b => some (.bl (!decide (a = b))) | _, _ => none
section
variable {g : G} {W : WE} {X : Cx} {k : Nat} {a b : Expr} {pos : Pos} {ca cb' : CE}
theorem d_divW (ha : PE X a (tD g W ca)) (hb : PE X b (tD g W cb')) : PE X (.BinOp a .FloorDiv b pos) (tD g W (cOp fDivW ca cb')) :=
  d_op op_fdivW (opd_I (fun i j h => by
    simp only [Bool.and_eq_true, decide_eq_true_eq] at h
    refine wide_div (b := 128) h.1 ?_ (by decide) (by decide)
    have : (2 : Nat) ^ 128 = 340282366920938463463374607431768211456 := by decide
    omega) fun _ _ => vc_int _) ha hb
theorem d_neg (ha : PE X a (tD g W ca)) : PE X (.UnaryOp .USub a pos) (tD g W (cUn fNeg ca)) :=
  pe_weak (pe_un un_neg ha) fun σ H Q ⟨rho, eta, F, Hb, m, rh, rs, po⟩ => ⟨rho, eta, F, Hb, m, rh, rs, Post.bind po fun d eta1 v H1 Hb1 m1 _ rh1 g1 vd po1 => by
    cases d with
    | int i => exact ⟨i, vd, po1 _ _ _ _ rh1 Gr.refl rfl⟩
    | bl _ => exact po1.elim
    | non => exact po1.elim
    | str _ => exact po1.elim
    | lst _ => exact po1.elim
    | tup _ => exact po1.elim
    | obj _ _ => exact po1.elim
    | ref _ => exact po1.elim⟩
end
/-! ### the end of a law -/
section
variable {P : Program} {w : World} {K : PySem.W.Frag} {mg mb : Str → Option Value} {k : Nat} {fa a : Addr} {fd : FuncData} {x : Str} {sp : Sp} {s₁ : Shared} {vs : List Value} {ns : List Int}
theorem law_end (KX : K.In s₁.heap) (hns : s₁.heap.Ns mainGlobals mg) (hb : s₁.heap.Ns builtinsNs mb) (hbb : ∀ x : Str, x ≠ "__name__" → mb x = bootBuiltins x) (hlim : s₁.heap.NoLimit) (hg : s₁.gens = #[])
    (ha : s₁.heap.get? a = some { cls := .type "list", data := .seq vs.toArray }) (hi : IntsAre vs ns) (hl : ns.length ≤ sizeLine) (hr : Rm k callerA)
    (F : ∀ base : Heap, K.In base → base.Ns mainGlobals mg → FnG P w K mg base k fa fd [x] sp) (hbind : ∀ (s : Shared) (u : Value), BindsTo s fd ⟨[u], []⟩ [(x, u)])
    (hsp : ∀ H : Hp, SqL K H a (ns.map V.int) → sp [.ref a] H (fun v _ => v = .bl true) fun _ _ _ => False) :
    codeAny (model P w) callerA (.call (.ref fa) ⟨[.ref a], []⟩) (fun r s' => r = .ok (.ret (.bool true)) ∧ OldK s₁.heap s'.heap ∧ s'.os = s₁.os ∧ AllBare s'.gens) s₁ := by
  have rv := vals_ints hi
  have lenV := hi.length
  have go : ∀ H : Hp, (∀ b u, H b = some u → b = a ∧ K.lookup a = none ∧ ∃ o xs, u = .frz o (.lst xs)) → SqL K H a (ns.map V.int) → HOk P w H s₁.heap →
      codeAny (model P w) callerA (.call (.ref fa) ⟨[.ref a], []⟩) (fun r s' => r = .ok (.ret (.bool true)) ∧ OldK s₁.heap s'.heap ∧ s'.os = s₁.os ∧ AllBare s'.gens) s₁ := by
    intro H hO hS hok
    have clear : ∀ {b : Addr} {o : Obj}, s₁.heap.get? b = some o → (b = a → K.lookup a = none → False) → (hidT s₁.heap H).get? b = some o := fun {b o} e h => by
      refine hidT_get e ?_
      cases q : H b with
      | none => rfl
      | some u => exact (h (hO b u q).1 (hO b u q).2.1).elim
    have nsK : ∀ {b : Addr} {m : Str → Option Value}, s₁.heap.Ns b m → (hidT s₁.heap H).Ns b m := fun {b m} ⟨o, es, ep, e, d, r⟩ => ⟨o, es, ep, clear e (fun h _ => by
      subst h
      rw [ha] at e; cases e
      exact (nomatch (show Data.seq vs.toArray _ = Data.dict es ep from d))), d, r⟩
    have kb : K.In (hidT s₁.heap H) := fun b o e => clear (KX b o e) fun h q => by rw [← h, e] at q; cases q
    have md : Mod K mg (hidT s₁.heap H) := ⟨kb, nsK hns, ⟨mb, nsK hb, hbb⟩, let ⟨mc, h1, h2⟩ := hlim; ⟨mc, nsK h1, h2⟩⟩
    have e0 : Env0 P w K mg (hidT s₁.heap H) callerA [] s₁ H := ⟨rfl, md, fun b o e => of_hidT e, Nat.le_of_eq (hidT_size _ _), trivial, fun b hb => absurd (show b ∈ ([] : List Addr) from hb) (by simp), hok, .of_eq hg⟩
    refine codeAny_mono ((F _ kb (nsK hns)).run callerA [] s₁ H ⟨[.ref a], []⟩ [.ref a] [.ref a] _ _ hr e0 (hbind s₁ (.ref a)) (.cons rfl .nil) (hsp H hS)) fun r s' h => ?_
    cases r with
    | error e =>
      exfalso
      obtain ⟨_, _, _, _, _, _, _, _, _, _, _, _, hE⟩ := h
      exact hE
    | ok fl =>
      cases fl with
      | next => exact False.elim h
      | brk => exact False.elim h
      | cont => exact False.elim h
      | ret u =>
        obtain ⟨v, H', os, bare, un, hok', r', q⟩ := h
        have q' : v = .bl true := q
        subst q'
        obtain rfl : u = Value.bool true := r'
        refine ⟨rfl, OldK.of_keep fun b o e => ?_, os, bare⟩
        cases q : H b with
        | none => exact un.keep b o e q (fun z => absurd (show b ∈ ([] : List Addr) from z) (by simp)) (by simp)
        | some u =>
          obtain ⟨_, _, ob, xs, rfl⟩ := hO b u q
          obtain ⟨e1, _⟩ := hok b _ q
          obtain ⟨e2, _⟩ := hok' b _ (un.frzs b ob _ q)
          rw [e] at e1; cases e1
          exact e2
  cases hk : K.lookup a with
  | some o =>
    have e := KX a o hk
    rw [ha] at e
    cases e
    exact go (fun _ => none) (fun b u z => nomatch z) (.inr ⟨_, vs.toArray, _, hk, rfl, rfl, rfl, by rw [List.size_toArray, lenV]; exact hl, by simpa using rv⟩) fun b u z => nomatch (show (none : Option HO) = some u from z)
  | none =>
    have at_ : ∀ b u, (if b = a then some (HO.frz { cls := .type "list", data := .seq vs.toArray } (.lst (ns.map V.int))) else none) = some u → b = a ∧ u = HO.frz { cls := .type "list", data := .seq vs.toArray } (.lst (ns.map V.int)) := fun b u z => by
      by_cases hb : b = a
      · rw [if_pos hb] at z; exact ⟨hb, (Option.some.inj z).symm⟩
      · rw [if_neg hb] at z; cases z
    refine go (fun b => if b = a then some (.frz { cls := .type "list", data := .seq vs.toArray } (.lst (ns.map V.int))) else none) (fun b u z => ⟨(at_ b u z).1, hk, _, _, (at_ b u z).2⟩) (.inl (.inr ⟨{ cls := .type "list", data := .seq vs.toArray }, if_pos rfl⟩)) (fun b u z => ?_)
    obtain ⟨rfl, rfl⟩ := at_ b u z
    exact ⟨ha, by rw [List.length_map]; exact hl, vs, _, rv, ha⟩
end
theorem walk_g {l : PySem.W.OpenLaw} {n k : Nat} {q : Program} {loose : List Str} {XP : (Str → Option Value) → Heap → Prop} {YP : World → Heap → Prop} {d : DefRec} {K : Params → PySem.W.Frag} {x : Str} {fP : Fp}
    (hn : l.most = some n) (hn2 : n ≤ sizeLine) (hdf : d.params.defaults = []) (hr : Rm k callerA)
    (hY : ∀ (w : World) (h : Heap), YP w h → (K w.params).In h)
    (F : ∀ (w : World) (mg : Str → Option Value) (fa : Addr) (h : Heap), (K w.params).In h → h.Ns mainGlobals mg → mg d.name = some (.ref fa) →
      ∃ (g : G) (fd : FuncData), g.K = K w.params ∧ (∀ (s : Shared) (u : Value), BindsTo s fd ⟨[u], []⟩ [(x, u)]) ∧
        ∀ base : Heap, (K w.params).In base → base.Ns mainGlobals mg → FnG l.prog w (K w.params) mg base k fa fd [x] (spP g 1 fP))
    (hsp : ∀ (ns : List Int), ns.length ≤ n → (∀ z ∈ ns, Builtin.Int.intBits z ≤ 1048576) → ∃ e, fP ns [] [] = .ok (.bl true) e) :
    PySem.W.WalkO q loose XP YP l.row.toRowW d [] (fun f vs => PySem.call f vs) := by
  refine Att.attach_callB hn hdf fun w s₀ s₁ mg mb fa o pm cd doc a vs ns G Y ho hd hcd hmg hobj hints hlen hbits hg => ?_
  have KX := hY w _ Y
  obtain ⟨g, fd, hgK, hb, hF⟩ := F w mg fa _ KX G.T.g hmg
  obtain ⟨e, he⟩ := hsp ns hlen hbits
  refine law_end KX G.T.g G.T.b G.T.builtins G.T.nolimit hg hobj hints (Nat.le_trans hlen hn2) hr hF hb fun H hS => ⟨rfl, a, [], ns, [], [], fun _ => none, H, [], rfl, ⟨fun a o h => (nomatch h), Same.refl _, rfl, List.nodup_nil, fun a h => by simp at h, fun i a o h _ => by simp at h⟩, rfl, by rw [hgK]; exact hS, ?_⟩
  rw [he]
  exact fun v H Hb m _ _ vd => vd
end Gh
namespace Gh
open PySem PySem.Spec PyProof.Rows L2
/-! ### slots that may be set -/
theorem ok0 {E : XK} {i : Nat} : okSlot (W0 E) i := fun q h => nomatch h
theorem okn {i : Nat} : okSlot Wn i := fun q h => nomatch h
theorem okt {w : WX} {i : Nat} : okSlot ⟨w, none⟩ i := fun q h => nomatch h
theorem okp {g : G} {E : XK} {a : Addr} {ns : List Int} {i : Nat} (h : i ≠ 0 := by decide) : okSlot (Wp g E a ns) i := fun q e => by cases e; exact Ne.symm h
theorem oks {j i : Nat} {a : Addr} {cls : Value} {d : Option Addr} {x : Nat} {fs : List (Str × D)} (h : i ≠ j := by decide) : okSlot (Wsu j a cls d x fs) i := fun q e => by cases e; exact Ne.symm h
/-! ### which value a parameter takes -/
def pickP {α : Type} (ar : List (Nat × Nat)) (vs ds zs : List α) : List α := ar.filterMap fun q => match q.1 with | 0 => vs[q.2]? | 1 => zs[q.2]? | _ => ds[q.2]?
theorem vals_opt {xs : List V} {us : List Value} (r : Vals xs us) (i : Nat) : (∃ v u, xs[i]? = some v ∧ us[i]? = some u ∧ RelV v u) ∨ (xs[i]? = none ∧ us[i]? = none) := by
  cases e : xs[i]? with
  | some v =>
    obtain ⟨u, e1, k⟩ := r.get e
    exact .inl ⟨v, u, rfl, e1, k⟩
  | none => exact .inr ⟨rfl, List.getElem?_eq_none (by rw [← r.length]; exact List.getElem?_eq_none_iff.mp e)⟩
theorem pick_vals {vs ds zs : List V} {us its ws : List Value} (r1 : Vals vs us) (r2 : Vals ds its) (r3 : Vals zs ws) : ∀ ar : List (Nat × Nat), Vals (pickP ar vs ds zs) (pickP ar us its ws)
  | [] => .nil
  | (0, j) :: r => by
    have ih := pick_vals r1 r2 r3 r
    unfold pickP at ih ⊢
    rcases vals_opt r1 j with ⟨v, u, e1, e2, k⟩ | ⟨e1, e2⟩
    · simp only [List.filterMap_cons, e1, e2]; exact .cons k ih
    · simp only [List.filterMap_cons, e1, e2]; exact ih
  | (1, j) :: r => by
    have ih := pick_vals r1 r2 r3 r
    unfold pickP at ih ⊢
    rcases vals_opt r3 j with ⟨v, u, e1, e2, k⟩ | ⟨e1, e2⟩
    · simp only [List.filterMap_cons, e1, e2]; exact .cons k ih
    · simp only [List.filterMap_cons, e1, e2]; exact ih
  | (_ + 2, j) :: r => by
    have ih := pick_vals r1 r2 r3 r
    unfold pickP at ih ⊢
    rcases vals_opt r2 j with ⟨v, u, e1, e2, k⟩ | ⟨e1, e2⟩
    · simp only [List.filterMap_cons, e1, e2]; exact .cons k ih
    · simp only [List.filterMap_cons, e1, e2]; exact ih
theorem vds_opt {g : G} {Hb : Hp} {m : List Addr} {xs : List D} {us : List V} (r : VDs g Hb m xs us) (i : Nat) : (∃ v u, xs[i]? = some v ∧ us[i]? = some u ∧ VD g Hb m v u) ∨ (xs[i]? = none ∧ us[i]? = none) := by
  cases e : xs[i]? with
  | some v =>
    obtain ⟨u, e1, k⟩ := r.get e
    exact .inl ⟨v, u, rfl, e1, k⟩
  | none => exact .inr ⟨rfl, List.getElem?_eq_none (by rw [← r.length]; exact List.getElem?_eq_none_iff.mp e)⟩
theorem pick_vds {g : G} {Hb : Hp} {m : List Addr} {vs ds zs : List D} {us its ws : List V} (r1 : VDs g Hb m vs us) (r2 : VDs g Hb m ds its) (r3 : VDs g Hb m zs ws) : ∀ ar : List (Nat × Nat), VDs g Hb m (pickP ar vs ds zs) (pickP ar us its ws)
  | [] => rfl
  | (0, j) :: r => by
    have ih := pick_vds r1 r2 r3 r
    unfold pickP at ih ⊢
    rcases vds_opt r1 j with ⟨v, u, e1, e2, k⟩ | ⟨e1, e2⟩
    · simp only [List.filterMap_cons, e1, e2]; exact ⟨_, _, rfl, k, ih⟩
    · simp only [List.filterMap_cons, e1, e2]; exact ih
  | (1, j) :: r => by
    have ih := pick_vds r1 r2 r3 r
    unfold pickP at ih ⊢
    rcases vds_opt r3 j with ⟨v, u, e1, e2, k⟩ | ⟨e1, e2⟩
    · simp only [List.filterMap_cons, e1, e2]; exact ⟨_, _, rfl, k, ih⟩
    · simp only [List.filterMap_cons, e1, e2]; exact ih
  | (_ + 2, j) :: r => by
    have ih := pick_vds r1 r2 r3 r
    unfold pickP at ih ⊢
    rcases vds_opt r2 j with ⟨v, u, e1, e2, k⟩ | ⟨e1, e2⟩
    · simp only [List.filterMap_cons, e1, e2]; exact ⟨_, _, rfl, k, ih⟩
    · simp only [List.filterMap_cons, e1, e2]; exact ih
theorem pick_len {α : Type} {vs ds zs : List α} : ∀ {ar : List (Nat × Nat)}, (ar.all fun q => decide (q.2 < (match q.1 with | 0 => vs.length | 1 => zs.length | _ => ds.length))) = true → (pickP ar vs ds zs).length = ar.length
  | [], _ => rfl
  | (0, j) :: r, h => by
    simp only [List.all_cons, Bool.and_eq_true, decide_eq_true_eq] at h
    have ih := pick_len h.2
    unfold pickP at ih ⊢
    simp only [List.filterMap_cons, List.getElem?_eq_getElem h.1, List.length_cons, ih]
  | (1, j) :: r, h => by
    simp only [List.all_cons, Bool.and_eq_true, decide_eq_true_eq] at h
    have ih := pick_len h.2
    unfold pickP at ih ⊢
    simp only [List.filterMap_cons, List.getElem?_eq_getElem h.1, List.length_cons, ih]
  | (_ + 2, j) :: r, h => by
    simp only [List.all_cons, Bool.and_eq_true, decide_eq_true_eq] at h
    have ih := pick_len h.2
    unfold pickP at ih ⊢
    simp only [List.filterMap_cons, List.getElem?_eq_getElem h.1, List.length_cons, ih]
theorem arr_p {g : G} (ar : List (Nat × Nat)) (n nk N : Nat) (dfl : List D) (dvs : List V) (hd : ∀ Hb m, VDs g Hb m dfl dvs) (hN : ar.length = N) (h : (ar.all fun q => decide (q.2 < (match q.1 with | 0 => n | 1 => nk | _ => dvs.length))) = true) : ArrD g n nk N (fun ds es => pickP ar ds dfl es) (fun vs zs => pickP ar vs dvs zs) := by
  intro Hb m ds es vs zs h1 h2 k1 k2
  refine ⟨pick_vds k1 (hd Hb m) k2 ar, ?_⟩
  rw [pick_len, hN]
  rw [← k1.length, ← k2.length, h1, h2]
  exact h
section
variable {K : PySem.W.Frag} {x qual : Str} {params : Arguments} {body : List Stmt} {scope : Scope} {dvs : List V} {kws : List (Str × V)} {f : Addr} {fd : FuncData} {ps : List Str}
theorem kb_pos (F : FunD K x qual params body scope [] kws f fd) (h : ∀ (kV doc pm : Value) (an : Option Addr) (cdv ct : Value) (us : List Value), us.length = ps.length → bindArgs (PySem.W.fnOf x qual params body scope .none kV doc pm an cdv ct) ⟨us, []⟩ = pure (ps.zip us)) : KBn K fd ps ps.length [] (fun us _ => us) (fun vs _ => vs) := by
  obtain ⟨oc, od, dV, kV, doc, pm, an, cdv, ct, osl, rfl, lk, hcd, hD, hK⟩ := F.ex
  rcases hD with ⟨_, rfl⟩ | ⟨e, _⟩
  · refine ⟨fun s us ws X l1 l2 => ?_, fun r1 _ => r1⟩
    have : ([] : List Str).zip ws = [] := by simp
    rw [this]
    exact .of_eq (h kV doc pm an cdv ct us l1)
  · exact absurd rfl e
theorem kb_kw (F : FunD K x qual params body scope [] kws f fd) (n : Nat) (ks : List Str) (ar : List (Nat × Nat)) (h : ∀ (kV doc pm : Value) (an : Option Addr) (cdv ct : Value) (us ws : List Value), us.length = n → ws.length = ks.length → bindArgs (PySem.W.fnOf x qual params body scope .none kV doc pm an cdv ct) ⟨us, ks.zip ws⟩ = pure (ps.zip (pickP ar us [] ws))) :
    KBn K fd ps n ks (fun us ws => pickP ar us [] ws) (fun vs zs => pickP ar vs [] zs) := by
  obtain ⟨oc, od, dV, kV, doc, pm, an, cdv, ct, osl, rfl, lk, hcd, hD, hK⟩ := F.ex
  rcases hD with ⟨_, rfl⟩ | ⟨e, _⟩
  · exact ⟨fun s us ws X l1 l2 => .of_eq (h kV doc pm an cdv ct us ws l1 l2), fun r1 r2 => pick_vals r1 .nil r2 ar⟩
  · exact absurd rfl e
theorem kb_df (F : FunD K x qual params body scope dvs kws f fd) (n : Nat) (ks : List Str) (ar : List (Nat × Nat)) (hd : dvs ≠ [])
    (h : ∀ (T : Addr) (kV doc pm : Value) (an : Option Addr) (cdv ct : Value) (us its ws : List Value), us.length = n → its.length = dvs.length → ws.length = ks.length →
      ∃ k, bindArgs (PySem.W.fnOf x qual params body scope (.ref T) kV doc pm an cdv ct) ⟨us, ks.zip ws⟩ = seqItems? (.ref T) >>= k ∧ k (some its.toArray) = pure (ps.zip (pickP ar us its ws))) :
    ∃ its : List Value, KBn K fd ps n ks (fun us ws => pickP ar us its ws) (fun vs zs => pickP ar vs dvs zs) :=
  F.kbindsD n ks (fun {α} vs ds zs => pickP ar vs ds zs) hd (fun r1 r2 r3 => pick_vals r1 r2 r3 ar) h
end
/-! ### built-in functions, ready -/
section
variable {g : G} {W : WE} {X : Cx} {k : Nat} {p pos : Pos} {e : Expr} {es : List Expr} {cs : CA}
theorem b_len (z : Cz g X W k) (hm : X.mg "len" = none) (ha : PA X (e :: es) (tA g W cs)) (hg : Gl X "len" := by rfl) (he : starEach (e :: es) X.env = (false, eval e X.env) :: starEach es X.env := by rfl) (hpl : (backTo pos (starEach es X.env)).any (·.1) = false := by rfl) : PE X (.Call (.Name "len" p) (e :: es) [] pos) (tD g W (cCall bLen cs)) :=
  d_callB call_len (by rw [z.K]; exact cd_len) hm boot_len ha hg (by decide) (by decide) he hpl
theorem b_abs (z : Cz g X W k) (hm : X.mg "abs" = none) (ha : PA X (e :: es) (tA g W cs)) (hg : Gl X "abs" := by rfl) (he : starEach (e :: es) X.env = (false, eval e X.env) :: starEach es X.env := by rfl) (hpl : (backTo pos (starEach es X.env)).any (·.1) = false := by rfl) : PE X (.Call (.Name "abs" p) (e :: es) [] pos) (tD g W (cCall bAbs cs)) :=
  d_callB call_abs cd_abs hm boot_abs ha hg (by decide) (by decide) he hpl
theorem b_int (z : Cz g X W k) (hm : X.mg "int" = none) (ha : PA X (e :: es) (tA g W cs)) (hg : Gl X "int" := by rfl) (he : starEach (e :: es) X.env = (false, eval e X.env) :: starEach es X.env := by rfl) (hpl : (backTo pos (starEach es X.env)).any (·.1) = false := by rfl) : PE X (.Call (.Name "int" p) (e :: es) [] pos) (tD g W (cCall bInt cs)) :=
  d_callT call_int1 cd_int hm boot_int ha hg (by decide) (by decide) he hpl
theorem b_max2 (z : Cz g X W k) (hm : X.mg "max" = none) (ha : PA X (e :: es) (tA g W cs)) (hg : Gl X "max" := by rfl) (he : starEach (e :: es) X.env = (false, eval e X.env) :: starEach es X.env := by rfl) (hpl : (backTo pos (starEach es X.env)).any (·.1) = false := by rfl) : PE X (.Call (.Name "max" p) (e :: es) [] pos) (tD g W (cCall bMax2 cs)) :=
  d_callB (call_max2 z.calm) cd_max2 hm boot_max ha hg (by decide) (by decide) he hpl
theorem b_min2 (z : Cz g X W k) (hm : X.mg "min" = none) (ha : PA X (e :: es) (tA g W cs)) (hg : Gl X "min" := by rfl) (he : starEach (e :: es) X.env = (false, eval e X.env) :: starEach es X.env := by rfl) (hpl : (backTo pos (starEach es X.env)).any (·.1) = false := by rfl) : PE X (.Call (.Name "min" p) (e :: es) [] pos) (tD g W (cCall bMin2 cs)) :=
  d_callB (call_min2 z.calm) cd_min2 hm boot_min ha hg (by decide) (by decide) he hpl
theorem b_minL (z : Cz g X W k) (hm : X.mg "min" = none) (ha : PA X (e :: es) (tA g W cs)) (hg : Gl X "min" := by rfl) (he : starEach (e :: es) X.env = (false, eval e X.env) :: starEach es X.env := by rfl) (hpl : (backTo pos (starEach es X.env)).any (·.1) = false := by rfl) : PE X (.Call (.Name "min" p) (e :: es) [] pos) (tD g W (cCall bMinL cs)) :=
  d_callB (cr_min z.calm) (by rw [z.K]; exact cd_minL) hm boot_min ha hg (by decide) (by decide) he hpl
theorem b_maxL (z : Cz g X W k) (hm : X.mg "max" = none) (ha : PA X (e :: es) (tA g W cs)) (hg : Gl X "max" := by rfl) (he : starEach (e :: es) X.env = (false, eval e X.env) :: starEach es X.env := by rfl) (hpl : (backTo pos (starEach es X.env)).any (·.1) = false := by rfl) : PE X (.Call (.Name "max" p) (e :: es) [] pos) (tD g W (cCall bMaxL cs)) :=
  d_callB (cr_max z.calm) (by rw [z.K]; exact cd_maxL) hm boot_max ha hg (by decide) (by decide) he hpl
theorem b_sum (z : Cz g X W k) (hm : X.mg "sum" = none) (ha : PA X (e :: es) (tA g W cs)) (hg : Gl X "sum" := by rfl) (he : starEach (e :: es) X.env = (false, eval e X.env) :: starEach es X.env := by rfl) (hpl : (backTo pos (starEach es X.env)).any (·.1) = false := by rfl) : PE X (.Call (.Name "sum" p) (e :: es) [] pos) (tD g W (cCall bSum cs)) :=
  d_callB (cr_sum z.calm) (by rw [z.K]; exact cd_sum) hm boot_sum ha hg (by decide) (by decide) he hpl
theorem b_all (z : Cz g X W k) (hm : X.mg "all" = none) (ha : PA X (e :: es) (tA g W cs)) (hg : Gl X "all" := by rfl) (he : starEach (e :: es) X.env = (false, eval e X.env) :: starEach es X.env := by rfl) (hpl : (backTo pos (starEach es X.env)).any (·.1) = false := by rfl) : PE X (.Call (.Name "all" p) (e :: es) [] pos) (tD g W (cCall bAll cs)) :=
  d_callB (cr_all z.calm) (by rw [z.K]; exact cd_all) hm boot_all ha hg (by decide) (by decide) he hpl
theorem b_list (z : Cz g X W k) (hm : X.mg "list" = none) (ha : PA X (e :: es) (tA g W cs)) (hg : Gl X "list" := by rfl) (he : starEach (e :: es) X.env = (false, eval e X.env) :: starEach es X.env := by rfl) (hpl : (backTo pos (starEach es X.env)).any (·.1) = false := by rfl) : PE X (.Call (.Name "list" p) (e :: es) [] pos) (tD g W (cCall bList cs)) :=
  d_callT call_list_of (by rw [z.K]; exact cd_list) hm boot_list ha hg (by decide) (by decide) he hpl
theorem b_tuple (z : Cz g X W k) (hm : X.mg "tuple" = none) (ha : PA X (e :: es) (tA g W cs)) (hg : Gl X "tuple" := by rfl) (he : starEach (e :: es) X.env = (false, eval e X.env) :: starEach es X.env := by rfl) (hpl : (backTo pos (starEach es X.env)).any (·.1) = false := by rfl) : PE X (.Call (.Name "tuple" p) (e :: es) [] pos) (tD g W (cCall bTuple cs)) :=
  d_callT call_tuple_of (by rw [z.K]; exact cd_tuple) hm boot_tuple ha hg (by decide) (by decide) he hpl
theorem b_repr (z : Cz g X W k) (hm : X.mg "repr" = none) (ha : PA X (e :: es) (tA g W cs)) (hg : Gl X "repr" := by rfl) (he : starEach (e :: es) X.env = (false, eval e X.env) :: starEach es X.env := by rfl) (hpl : (backTo pos (starEach es X.env)).any (·.1) = false := by rfl) : PE X (.Call (.Name "repr" p) (e :: es) [] pos) (tD g W (cCall bRepr cs)) :=
  d_callB (cr_repr z.rm.r.units z.rm.gd) (by rw [z.K]; exact cd_repr) hm boot_repr ha hg (by decide) (by decide) he hpl
theorem b_gcd (z : Cz g X W k) (hm : X.mg "gcd" = some (.builtin "math.gcd")) (ha : PA X (e :: es) (tA g W cs)) (hg : Gl X "gcd" := by rfl) (he : starEach (e :: es) X.env = (false, eval e X.env) :: starEach es X.env := by rfl) (hpl : (backTo pos (starEach es X.env)).any (·.1) = false := by rfl) : PE X (.Call (.Name "gcd" p) (e :: es) [] pos) (tD g W (cCall bGcd cs)) :=
  d_callM cr_gcd cd_gcd hm ha hg (by decide) he hpl
/-- a constant of the module -/
theorem d_glob {x : Str} {d : D} {v : V} (h : ∃ u, X.mg x = some u ∧ RelV v u) (r : VC g d v) (hg : Gl X x := by rfl) (hd : (x == ("__debug__" : Str)) = false := by decide) : PE X (.Name x pos) (tD g W (cC d)) := by
  obtain ⟨u, hm, q⟩ := h
  exact d_const (pe_glob hg hm q hd) r
end
/-! ### tables of isinstance -/
def kdS : Kd → Option String
  | .non => some "NoneType"
  | .bl => some "bool"
  | .int => some "int"
  | .str => some "str"
  | .lst => some "list"
  | .tup => some "tuple"
  | .obj _ => none
def kitAnyB (a : String) : List String → Option Bool
  | [] => some false
  | b :: r => match kitB a b with
    | some true => some true
    | some false => kitAnyB a r
    | none => none
theorem kitAnyB_ok {K : PySem.W.Frag} {a : String} : ∀ {ns : List String} {r : Bool}, kitAnyB a ns = some r → PySem.W.kitAny K (.type a) (ns.map Value.type) = some r
  | [], r, h => by cases h; rfl
  | b :: ns, r, h => by
    unfold kitAnyB at h
    unfold PySem.W.kitAny
    cases q : kitB a b with
    | none => rw [q] at h; cases h
    | some c =>
      rw [q] at h
      have e : PySem.W.kitOne K (.type a) (.type b) = some c := kit_ty q
      simp only [List.map_cons]
      rw [e]
      cases c with
      | true => exact h
      | false => exact kitAnyB_ok h
theorem lookup_mem {T : List (Kd × Bool)} {kd : Kd} {b : Bool} (h : T.lookup kd = some b) : (kd, b) ∈ T := by
  induction T with
  | nil => cases h
  | cons p r ih =>
    obtain ⟨a, c⟩ := p
    by_cases e : kd == a
    · simp only [List.lookup, e] at h
      cases h
      rw [beq_iff_eq.mp e]
      exact List.mem_cons_self
    · simp only [List.lookup, e] at h
      exact List.mem_cons_of_mem _ (ih h)
/-- built-in classes: h by decide +kernel -/
theorem tb_ty {g : G} (T : List (Kd × Bool)) (ns : List String) (h : (T.all fun p => match kdS p.1 with | some a => kitAnyB a ns == some p.2 | none => false) = true) : TbOk g T (ns.map Value.type) := by
  have key : ∀ kd b, T.lookup kd = some b → ∃ a, kdS kd = some a ∧ kitAnyB a ns = some b := fun kd b e => by
    have := List.all_eq_true.mp h _ (lookup_mem e)
    dsimp only at this
    cases q : kdS kd with
    | none => rw [q] at this; cases this
    | some a => rw [q] at this; exact ⟨a, rfl, by simpa using this⟩
  refine ⟨fun kd b e => ?_, fun c b e => ?_⟩
  · obtain ⟨a, e1, e2⟩ := key kd b e
    have : kdV g kd = .type a := by
      cases kd <;> cases e1 <;> rfl
    rw [this]
    exact kitAnyB_ok e2
  · obtain ⟨a, e1, _⟩ := key _ b e
    cases e1
/-- an own class -/
def tbO (c : Nat) : List (Kd × Bool) := [(.non, false), (.bl, false), (.int, false), (.str, false), (.lst, false), (.tup, false), (.obj c, true)]
theorem tb_own {g : G} {c : Nat} (hI : IsC g.K (g.cl c)) (h : ∀ a ∈ ["NoneType", "bool", "int", "str", "list", "tuple"], PySem.W.kitOne g.K (.type a) (.ref (g.cl c)) = some false) : TbOk g (tbO c) [.ref (g.cl c)] := by
  have any : ∀ {t : Value} {b : Bool}, PySem.W.kitOne g.K t (.ref (g.cl c)) = some b → PySem.W.kitAny g.K t [.ref (g.cl c)] = some b := fun e => by
    unfold PySem.W.kitAny
    rw [e]
    rename_i b
    cases b <;> rfl
  refine ⟨fun kd b e => any ?_, fun c' b e => ?_⟩
  · have m := lookup_mem e
    simp only [tbO, List.mem_cons, List.not_mem_nil, or_false, Prod.mk.injEq] at m
    rcases m with ⟨rfl, rfl⟩ | ⟨rfl, rfl⟩ | ⟨rfl, rfl⟩ | ⟨rfl, rfl⟩ | ⟨rfl, rfl⟩ | ⟨rfl, rfl⟩ | ⟨rfl, rfl⟩
    · exact h _ (by simp)
    · exact h _ (by simp)
    · exact h _ (by simp)
    · exact h _ (by simp)
    · exact h _ (by simp)
    · exact h _ (by simp)
    · exact if_pos (beq_self_eq_true _)
  · have m := lookup_mem e
    simp [tbO] at m
    rw [m.1]
    exact hI
/-- what an except clause says of an error's class -/
theorem exm_of {K : PySem.W.Frag} {C S : Addr} {b : Bool} (h1 : PySem.W.subIn K (.ref S) (.type "BaseException") = some true) (h2 : PySem.W.isClsIn K S = true) (h3 : PySem.W.typeIn K (.ref S) = some (.type "type")) (h4 : PySem.W.subIn K (.ref C) (.ref S) = some b) :
    PySem.W.exmOne K (.ref C) (.ref S) = some b := by
  have e1 : (PySem.W.subIn K (.ref S) (.type "BaseException") == some true) = true := by rw [h1] <;> rfl
  have e2 : ((PySem.W.clsIn K S).isSome && PySem.W.typeIn K (.ref S) == some (.type "type")) = true := by
    have h2' : (PySem.W.clsIn K S).isSome = true := h2
    rw [h2', h3] <;> rfl
  show (if (PySem.W.subIn K (.ref S) (.type "BaseException") == some true) = true then (if ((PySem.W.clsIn K S).isSome && PySem.W.typeIn K (.ref S) == some (.type "type")) = true then PySem.W.subIn K (.ref C) (.ref S) else none) else none) = some b
  rw [if_pos e1, if_pos e2]
  exact h4
theorem mt_mem {mt : List (Nat × Bool)} {n : Nat} {b : Bool} (h : mt.lookup n = some b) : (n, b) ∈ mt := by
  induction mt with
  | nil => cases h
  | cons p r ih =>
    obtain ⟨a, c⟩ := p
    by_cases e : n == a
    · simp only [List.lookup, e] at h
      cases h
      rw [beq_iff_eq.mp e]
      exact List.mem_cons_self
    · simp only [List.lookup, e] at h
      exact List.mem_cons_of_mem _ (ih h)
end Gh
namespace Gh
open PySem PySem.Spec PyProof.Rows L2
/-! ### the arguments of a call, as data -/
section
variable {g : G} {W : WE} {X : Cx} {pos : Pos} {e : Expr} {es : List Expr} {kw : Keyword} {kws : List Keyword} {ks : List Str} {ca ck : CA}
theorem PAK.weak {t tk tk' : TA} (h : PAK X pos es kws ks t tk) (w : ∀ σ H Q, tk' σ H Q → tk σ H Q) (mono : ∀ σ H (Q Q' : List V → Hp → Prop), (∀ v H, Q v H → Q' v H) → t σ H Q → t σ H Q') : PAK X pos es kws ks t tk' :=
  ⟨fun pins s σ H u first Q R hk I q go => h.go pins s σ H u first Q R hk I (mono σ H _ _ (fun v H1 q1 => w σ H1 _ q1) q) go⟩
theorem tA_mono {σ : L2.St} {H : Hp} {Q Q' : List V → Hp → Prop} (h : ∀ v H, Q v H → Q' v H) (q : tA g W ca σ H Q) : tA g W ca σ H Q' := by
  obtain ⟨rho, eta, F, Hb, m, rh, rs, po⟩ := q
  exact ⟨rho, eta, F, Hb, m, rh, rs, po.imp h⟩
theorem pakd_v (ha : PA X (e :: es) (tA g W ca)) (he : starEach (e :: es) X.env = (false, eval e X.env) :: starEach es X.env := by rfl) (hpl : (backTo pos (starEach es X.env)).any (·.1) = false := by rfl) : PAK X pos (e :: es) [] [] (tA g W ca) (tA g W cNil) :=
  (pak_v ha he hpl).weak (fun σ H Q q => run_nil q) fun σ H Q Q' h q => tA_mono h q
theorem pakd_vk (ha : PA X (e :: es) (tA g W ca)) (hkw : PK X kws (tA g W ck)) (hall : (backToKw pos (keywordEach kws X.env)).all (·.1.isSome) = true := by rfl) (hks : (backToKw pos (keywordEach kws X.env)).filterMap (·.1) = ks := by rfl)
    (he : starEach (e :: es) X.env = (false, eval e X.env) :: starEach es X.env := by rfl) (hpl : ((backTo pos (starEach (e :: es) X.env)).any (·.1) || (backToKw pos (keywordEach kws X.env)).any (·.1.isNone)) = false := by rfl) : PAK X pos (e :: es) kws ks (tA g W ca) (tA g W ck) := pak_vk ha hkw hall hks he hpl
theorem pakd_k (hkw : PK X (kw :: kws) (tA g W ck)) (hall : (backToKw pos (keywordEach (kw :: kws) X.env)).all (·.1.isSome) = true := by rfl) (hks : (backToKw pos (keywordEach (kw :: kws) X.env)).filterMap (·.1) = ks := by rfl)
    (hpl : ((backTo pos (starEach [] X.env)).any (·.1) || (backToKw pos (keywordEach (kw :: kws) X.env)).any (·.1.isNone)) = false := by rfl) : PAK X pos [] (kw :: kws) ks (tA g W cNil) (tA g W ck) :=
  ⟨fun pins s σ H u first Q R hk I q go => (pak_k hkw hall hks hpl).go pins s σ H u first Q R hk I (run_nil q) go⟩
theorem pakd_0 : PAK X pos [] [] [] (tA g W cNil) (tA g W cNil) :=
  ⟨fun pins s σ H u first Q R hk I q go => pak_0.go pins s σ H u first Q R hk I (run_nil (tA_mono (fun v H1 q1 => run_nil q1) q)) go⟩
end
/-! ### an error's __init__ -/
theorem err_fng {P : Program} {w : World} {K : PySem.W.Frag} {mg : Str → Option Value} {base : Heap} {k : Nat} {f : Addr} {fd : FuncData} {N ps : List Str} {x qual : Str} {params : Arguments} {body : List Stmt} {scope : Scope} {dvs : List V} {kws : List (Str × V)} {sp : Sp} (F : FunD K x qual params body scope dvs kws f fd) (S : FnScope N ps scope) (len : ∀ vs H Q E, sp vs H Q E → vs.length = ps.length)
    (hb : ∀ (cdv : Value) (A : Around) (outer : List Env) (s : Shared) (H : Hp) (vs : List V) (Q : VK) (E : XK), sp vs H Q E → ∃ t, PSs (cxOf (L2.CX P w) P w K mg base N qual scope f cdv A outer s H E) body t ∧ t { nx := fun _ H' => Q .non H', rt := Q } (L2.start N vs) H) : FnG P w K mg base (k + 1) f fd ps sp := by
  obtain ⟨oc, od, dV, kV, doc, pm, an, cdv, ct, osl, rfl, lk, hcd, _, _⟩ := F.ex
  exact fng_of lk hcd S len fun A outer s H vs Q E _ h => hb cdv A outer s H vs Q E h
theorem err_len {C : Addr} {n : Nat} {fl : List (Str × Nat)} {vs : List V} {H : Hp} {Q : VK} {E : XK} (h : spErr C n fl vs H Q E) : vs.length = n + 1 := by
  obtain ⟨a, us, rfl, hl, _⟩ := h
  simp [hl]
/-! ### a block's names -/
def blkB (N : List Str) (sc scope : Scope) (own : List (Str × Nat)) : Bool :=
  decide (scope.kind = .function) && (scope.names.all fun y => decide (scope.names.lookup y.1 = some y.2)) && (own.all fun p => decide (N[p.2]? = some p.1)) &&
    (scope.names.all fun y => !decide (y.2 = .free) || (decide (sc.names.lookup y.1 = some .cell) || decide (sc.names.lookup y.1 = some .free))) &&
    (scope.names.all fun y => !(decide (y.2 = .local) || decide (y.2 = .cell)) || (decide (y.1 ∈ own.map (·.1)) || decide (y.1 ∉ N)))
theorem blk_ok {N : List Str} {sc scope : Scope} {own : List (Str × Nat)} (h : blkB N sc scope own = true) : BlkOk N sc scope own := by
  unfold blkB at h
  simp only [Bool.and_eq_true, List.all_eq_true, decide_eq_true_eq, Bool.or_eq_true, Bool.not_eq_true', decide_eq_false_iff_not] at h
  obtain ⟨⟨⟨⟨h1, h2⟩, h3⟩, h4⟩, h5⟩ := h
  refine ⟨h1, h2, h3, fun y hy e => (h4 y hy).resolve_left fun z => z e, fun y hy e => (h5 y hy).resolve_left fun z => ?_⟩
  rcases e with e | e <;> simp [e] at z
/-! ### is True, is False -/
section
variable {g : G} {W : WE} {X : Cx} {k : Nat} {a b : Expr} {pos : Pos} {ca cb' : CE}
theorem opd_isB : OpD g W rIsB fIsB := by
  intro x y z v u eta F Hb m H Q e rh vx vy q
  unfold fIsB at e
  split at e
  · cases e
    exact ⟨_, _, vx, vy, q _ _ Hb rh Gr.refl rfl⟩
  · cases e
theorem opd_notB : OpD g W rNotB fNotB := by
  intro x y z v u eta F Hb m H Q e rh vx vy q
  unfold fNotB at e
  split at e
  · cases e
    exact ⟨_, _, vx, vy, q _ _ Hb rh Gr.refl rfl⟩
  · cases e
theorem d_isB (ha : PE X a (tD g W ca)) (hb : PE X b (tD g W cb')) : PE X (.Compare a [.Is] [b] pos) (tD g W (cOp fIsB ca cb')) := d_cmp op_isBl opd_isB ha hb
theorem d_notB (ha : PE X a (tD g W ca)) (hb : PE X b (tD g W cb')) : PE X (.Compare a [.IsNot] [b] pos) (tD g W (cOp fNotB ca cb')) := d_cmp op_notBl opd_notB ha hb
theorem t_isB (ha : PE X a (tD g W ca)) (hb : PE X b (tD g W cb')) : PT X (.Compare a [.Is] [b] pos) (tB g W (cBl (cOp fIsB ca cb'))) := t_cmp op_isBl opd_isB ha hb
theorem t_notB (ha : PE X a (tD g W ca)) (hb : PE X b (tD g W cb')) : PT X (.Compare a [.IsNot] [b] pos) (tB g W (cBl (cOp fNotB ca cb'))) := t_cmp op_notBl opd_notB ha hb
end
/-! ### facts from smaller ones -/
theorem kit_own {K : PySem.W.Frag} {C : Addr} {a : String} {b : Bool} (h2 : PySem.W.isClsIn K C = true) (h3 : PySem.W.typeIn K (.ref C) = some (.type "type")) (h4 : PySem.W.subIn K (.type a) (.ref C) = some b) : PySem.W.kitOne K (.type a) (.ref C) = some b := by
  have e2 : ((PySem.W.clsIn K C).isSome && PySem.W.typeIn K (.ref C) == some (.type "type")) = true := by
    have h2' : (PySem.W.clsIn K C).isSome = true := h2
    rw [h2', h3] <;> rfl
  unfold PySem.W.kitOne PySem.W.kitCls
  rw [if_neg (by simp)]
  dsimp only
  rw [if_pos e2, h4]
theorem nsok_of {K : PySem.W.Frag} {N : Addr} {c : Value} {d : Option Addr} {es : Array DictEntry} {n : Nat} {sl : Array (Option Value)} (l : K.lookup N = some ⟨c, d, .dict es n, sl⟩) (h : (es.toList.all fun e => match e.key with | .str _ _ => true | _ => false) = true) : PySem.W.nsOkIn K N = true := by
  unfold PySem.W.nsOkIn
  rw [l]
  show (es.all fun e => match e.key with | .str _ _ => true | _ => false) = true
  rw [← Array.all_toList]
  exact h
/-! ### in an except suite -/
structure CzS (g : G) (X : Cx) : Prop where
  K : X.K = g.K
  un : X.A.units + 64 < cLine
  gd : X.A.guards = some []
theorem Cz.su {g : G} {W : WE} {X : Cx} {k : Nat} (z : Cz g X W k) (a : Addr) (pn : List (Addr × Obj)) : CzS g (X.suite a pn) := ⟨z.K, z.rm.r.units, z.rm.gd⟩
section
variable {g : G} {W : WE} {X : Cx} {a b e : Expr} {es : List Expr} {p pos : Pos} {ca cb' : CE} {cs : CA}
theorem su_d_eq (z : CzS g X) (ha : PE X a (tD g W ca)) (hb : PE X b (tD g W cb')) : PE X (.Compare a [.Eq] [b] pos) (tD g W (cOp fEq ca cb')) :=
  d_cmp (op_eq.or (op_eqD z.un)) (by rw [z.K]; exact opd_eq) ha hb
theorem su_d_ne (z : CzS g X) (ha : PE X a (tD g W ca)) (hb : PE X b (tD g W cb')) : PE X (.Compare a [.NotEq] [b] pos) (tD g W (cOp fNe ca cb')) :=
  d_cmp (op_ne.or (op_neD z.un)) (by rw [z.K]; exact opd_ne) ha hb
theorem su_t_eq (z : CzS g X) (ha : PE X a (tD g W ca)) (hb : PE X b (tD g W cb')) : PT X (.Compare a [.Eq] [b] pos) (tB g W (cBl (cOp fEq ca cb'))) := t_cmp (op_eq.or (op_eqD z.un)) (by rw [z.K]; exact opd_eq) ha hb
theorem su_t_ne (z : CzS g X) (ha : PE X a (tD g W ca)) (hb : PE X b (tD g W cb')) : PT X (.Compare a [.NotEq] [b] pos) (tB g W (cBl (cOp fNe ca cb'))) := t_cmp (op_ne.or (op_neD z.un)) (by rw [z.K]; exact opd_ne) ha hb
theorem su_b_repr (z : CzS g X) (hm : X.mg "repr" = none) (ha : PA X (e :: es) (tA g W cs)) (hg : Gl X "repr" := by rfl) (he : starEach (e :: es) X.env = (false, eval e X.env) :: starEach es X.env := by rfl) (hpl : (backTo pos (starEach es X.env)).any (·.1) = false := by rfl) : PE X (.Call (.Name "repr" p) (e :: es) [] pos) (tD g W (cCall bRepr cs)) :=
  d_callB (cr_repr z.un z.gd) (by rw [z.K]; exact cd_repr) hm boot_repr ha hg (by decide) (by decide) he hpl
theorem su_b_int (z : CzS g X) (hm : X.mg "int" = none) (ha : PA X (e :: es) (tA g W cs)) (hg : Gl X "int" := by rfl) (he : starEach (e :: es) X.env = (false, eval e X.env) :: starEach es X.env := by rfl) (hpl : (backTo pos (starEach es X.env)).any (·.1) = false := by rfl) : PE X (.Call (.Name "int" p) (e :: es) [] pos) (tD g W (cCall bInt cs)) :=
  d_callT call_int1 cd_int hm boot_int ha hg (by decide) (by decide) he hpl
theorem su_d_ix (z : CzS g X) (ha : PE X a (tD g W ca)) (hb : PE X b (tD g W cb')) (hs : PlainIx b := by intro _ _; rfl) : PE X (.Subscript a b pos) (tD g W (cOp fIx ca cb')) :=
  pe_weak (pe_ix ix_seq ha hb hs) fun σ H Q h => op_run (by rw [z.K]; exact opd_ix) h
end
/-! ### == and != of an own class with its own == -/
theorem ns_some_of {K : PySem.W.Frag} {h : Heap} {N : Addr} {mg : Str → Option Value} {n : Str} {v : Value} (X : K.In h) (G : h.Ns N mg) (e : PySem.W.nsIn K N n = some (some v)) : mg n = some v := by
  obtain ⟨o, es, ep, ho, hd, _, hf⟩ := G
  unfold PySem.W.nsIn at e
  split at e
  · rename_i c d es' n' sl q
    have := X _ _ q
    rw [ho] at this
    cases this
    cases hd
    split at e
    · rename_i x he
      rw [← hf]
      unfold nsFind findBy
      rw [← Array.find?_toList, he]
      exact Option.some.inj e
    · split at e <;> cases e
  · cases e
/-- what is asked of such a class -/
structure EqC (K : PySem.W.Frag) (C f : Addr) : Prop where
  at_ : PySem.W.findIn K (.ref C) "__eq__" = some (some (.ref f))
  fn : PySem.W.isFn K (.ref f) = true
  sub : ∀ a ∈ ["NoneType", "bool", "int", "str", "list", "tuple"], PySem.W.subIn K (.type a) (.ref C) = some false
  ne : ∃ nm q N bs hdct sn sub ab col dd k0 k1 k2 k3 k5 nid, K.lookup C = some (excClassObj nm q C N bs [.type "object"] hdct sn sub ab col dd k0 k1 k2 k3 k5 nid) ∧ PySem.W.nsOkIn K N = true ∧ PySem.W.nsIn K N "__eq__" = some (some (.ref f)) ∧ PySem.W.nsIn K N "__ne__" = some none
  fo : ∃ o, K.lookup f = some o ∧ o.cls = .type "function"
def okKd (neg : Bool) (c : Nat) : Kd → Bool
  | .obj c2 => c2 == c
  | _ => !neg
def fEqO (neg : Bool) (c p : Nat) (f : Fd) (x y : D) (eta : Eta) : Out D := match insOf eta x, kdOf eta y with
  | some (c', _), some kd => if (c' == c && okKd neg c kd) = true then (match callD p f [x, y] eta with
    | .ok (.bl b) e => .ok (.bl (if neg then !b else b)) e
    | _ => .stuck) else .stuck
  | _, _ => .stuck
def cEqO (c p : Nat) (f : Fd) (ca cb' : CE) : CE := cb ca fun x => cb cb' fun y _ eta => fEqO false c p f x y eta
def cNeO (c p : Nat) (f : Fd) (ca cb' : CE) : CE := cb ca fun x => cb cb' fun y _ eta => fEqO true c p f x y eta
section
variable {g : G} {W : WE} {X : Cx} {kk k : Nat} {f C : Addr} {fd : FuncData} {ps : List Str} {fD : Fd} {a b : Expr} {pos : Pos} {ca cb' : CE}
def rEqO (K : PySem.W.Frag) (neg : Bool) (C : Addr) (sp : Sp) : R2 := fun x y H Q => ∃ a dx ws t, x = .ref a ∧ H a = some (.ins C dx ws) ∧ TyX K H y t ∧
  ((t = .ref C ∧ ∃ b dy us, y = .ref b ∧ H b = some (.ins C dy us)) ∨ (neg = false ∧ ∃ s ∈ ["NoneType", "bool", "int", "str", "list", "tuple"], t = .type s)) ∧ sp [x, y] H (fun v H' => ∃ b, v = .bl b ∧ Q (.bl (if neg then !b else b)) H') (fun _ _ _ => False)
theorem run_eq {sp : Sp} {A : Around} {pins : List (Addr × Obj)} {σ : L2.St} {H : Hp} {s : Shared} {x y : V} {v u : Value} {Qf : Value → Shared → Prop} {Q : VK} (F : FnG X.prog X.w X.K X.mg X.base k f fd ps sp) (hr : Rm k A) (hfr : A.frames = X.A.frames) (hb : KBn X.K fd ps 2 [] (fun us _ => us) (fun vs _ => vs)) (I : Inv X pins σ H s) (rx : RelV x v) (ry : RelV y u)
    (h : sp [x, y] H Q fun _ _ _ => False) (hq : ∀ w' u' H' s', Inv X pins σ H' s' → RelV w' u' → Q w' H' → Qf u' s') : wpAny (model X.prog X.w) A (call (.ref f) [v, u]) Qf X.xe s := by
  have e := I.env0
  have e0 : Env0 X.prog X.w X.K X.mg X.base A X.stack s H := ⟨by rw [hfr]; exact e.frames, e.mod, e.bs, e.bsz, e.funs, e.frf, e.hok, e.bare⟩
  refine wpAny_call (codeAny_mono (F.run A X.stack s H ⟨[v, u], []⟩ [v, u] [x, y] Q (fun _ _ _ => False) hr e0 (by simpa using hb.to s [v, u] [] I.kIn rfl rfl) (.cons rx (.cons ry .nil)) h) fun r s' hc => ?_)
  cases r with
  | error e =>
    obtain ⟨_, _, _, _, _, _, _, _, _, _, _, _, hE⟩ := hc
    exact hE.elim
  | ok fl =>
    cases fl with
    | ret w =>
      obtain ⟨w', H', I', rv, q⟩ := I.after hc
      exact hq w' w H' s' I' rv q
    | next => exact hc.elim
    | brk => exact hc.elim
    | cont => exact hc.elim
theorem op_eqO {sp : Sp} (T : EqC X.K C f) (F : FnG X.prog X.w X.K X.mg X.base k f fd ps sp) (hr : Rm (k + 1) X.A) (hb : KBn X.K fd ps 2 [] (fun us _ => us) (fun vs _ => vs)) : OpR X (compareOp .Eq) (rEqO X.K false C sp) := by
  intro pins s σ H x y v u Q I rx ry h
  obtain ⟨a, dx, ws, t, rfl, ha, ty, ht, h⟩ := h
  cases (show v = Value.ref a from rx)
  obtain ⟨mA, O, _⟩ := ins_get I.hok ha
  obtain ⟨od, J, _⟩ := O.look
  obtain ⟨m, hF⟩ := I.fr
  obtain ⟨P, Z, p, _⟩ := kit_of I ry ty
  refine PySem.W.cmp_ofEq (PySem.W.cmp_K (op := .Eq) hr.r.units0 hF I.ok.mod.kin J (Z.ty _ _ I.kIn p) ?_ T.at_ T.fn ?_)
  · rcases ht with ⟨rfl, _⟩ | ⟨_, s, hs, rfl⟩
    · simp [PySem.W.notFirst]
    · simp [PySem.W.notFirst, T.sub s hs]
  · refine run_eq F (hr.mono (Nat.le_succ k)) rfl hb I (show RelV (V.ref a) (Value.ref a) from rfl) ry h fun w' u' H' s' I' rv q => ?_
    obtain ⟨b, rfl, q⟩ := q
    cases (show u' = Value.bool b from rv)
    exact ⟨.bl b, H', I', rfl, q⟩
theorem op_neO {sp : Sp} (T : EqC X.K C f) (F : FnG X.prog X.w X.K X.mg X.base k f fd ps sp) (hr : Rm (k + 1) X.A) (hb : KBn X.K fd ps 2 [] (fun us _ => us) (fun vs _ => vs)) : OpR X (compareOp .NotEq) (rEqO X.K true C sp) := by
  intro pins s σ H x y v u Q I rx ry h
  obtain ⟨a, dx, ws, t, rfl, ha, ty, ht, h⟩ := h
  rcases ht with ⟨_, b, dy, us, rfl, hb'⟩ | ⟨z, _⟩
  · cases (show v = Value.ref a from rx)
    cases (show u = Value.ref b from ry)
    obtain ⟨mA, O, _⟩ := ins_get I.hok ha
    obtain ⟨od, J, _⟩ := O.look
    obtain ⟨mB, O', _⟩ := ins_get I.hok hb'
    obtain ⟨od', J', _⟩ := O'.look
    obtain ⟨nm, q, N, bs, hdct, sn, sub, ab, col, dd, k0, k1, k2, k3, k5, nid, hC, hok, h1, h2⟩ := T.ne
    obtain ⟨of, hf1, hf2⟩ := T.fo
    have X0 := I.kIn
    have G : s.heap.Ns N (s.heap.nsMap N) := .of_isNs (PySem.W.isNs_of_in X0 hok)
    obtain ⟨hp, gs, dr, tk, os⟩ := s
    refine compareOp_ne_ownEq PySem.F.cmp_object ⟨_, of, nm, q, N, bs, hdct, sn, sub, ab, col, dd, k0, k1, k2, k3, k5, nid, _, _, J.1, J.2, X0 _ _ hC, G, ns_some_of X0 G h1, X0 _ _ hf1, hf2, PySem.F.cmp_object.mro, PySem.F.cmp_object.eq.lookup, PySem.W.ns_none_of X0 G h2⟩ J'.1 J'.2 (by have := hr.r.units; omega) ?_
    refine run_eq F ⟨hr.r.in1, hr.gd⟩ rfl hb I (show RelV (V.ref a) (Value.ref a) from rfl) (show RelV (V.ref b) (Value.ref b) from rfl) h fun w' u' H' s' I' rv q => ?_
    obtain ⟨c, rfl, q⟩ := q
    exact ⟨c, rv, .bl (!c), H', I', rfl, q⟩
  · cases z
theorem opd_eqO {neg : Bool} {c p : Nat} (hc : c ≠ c ∨ True) (hI : ∀ c2, c2 = c → IsC g.K (g.cl c2)) {ca cb' : CE} {σ : L2.St} {H : Hp} {Q : VK} (h : tD g W (cb ca fun x => cb cb' fun y _ eta => fEqO neg c p fD x y eta) σ H Q) : tOp (rEqO g.K neg (g.cl c) (spD g 2 fD)) (tD g W ca) (tD g W cb') σ H Q := by
  obtain ⟨rho, eta, F, Hb, m, rh, rs, po⟩ := h
  refine ⟨rho, eta, F, Hb, m, rh, rs, Post.bind po fun x eta1 v H1 Hb1 m1 _ rh1 g1 vx po1 => ?_⟩
  refine ⟨rho, eta1, F, Hb1, m1, rh1, rs.mono g1, Post.bind po1 fun y eta2 u H2 Hb2 m2 _ rh2 g2 vy po2 => ?_⟩
  have vx2 := VD.mono g2 _ _ vx
  revert po2
  unfold fEqO
  cases q1 : insOf eta2 x with
  | none => exact fun z => z.elim
  | some r =>
    obtain ⟨c', fs⟩ := r
    cases q2 : kdOf eta2 y with
    | none => exact fun z => z.elim
    | some kd =>
      dsimp only
      split
      · rename_i hcc
        simp only [Bool.and_eq_true, beq_iff_eq] at hcc
        obtain ⟨rfl, hk⟩ := hcc
        intro po2
        obtain ⟨a, dx, ws, rfl, k1, k2⟩ := insOf_ok rh2 vx2 q1
        have ty := tyx_of rh2 vy q2 (fun c2 e => by
          subst e
          exact hI c2 (by simpa [okKd] using hk))
        refine ⟨a, dx, ws, _, rfl, k1, ty, ?_, ?_⟩
        · cases kd with
          | obj c2 =>
            obtain rfl : c2 = c' := by simpa [okKd] using hk
            refine .inl ⟨rfl, ?_⟩
            cases y with
            | obj c3 fs3 =>
              cases q2
              obtain ⟨b, dy, us, rfl, z1, _⟩ := vy
              exact ⟨b, dy, us, rfl, rh2.ex _ _ z1⟩
            | ref i =>
              unfold kdOf at q2
              dsimp only at q2
              split at q2
              · cases q2
              · rename_i c3 fs3 e1
                cases q2
                obtain ⟨b, rfl, hm⟩ := vy
                obtain ⟨dy, us, z1, _⟩ := (show OwnAt g Hb2 m2 H2 b (.ins c2 fs3) from rh2.own i b _ hm e1)
                exact ⟨b, dy, us, rfl, z1⟩
              · cases q2
            | non => cases q2
            | bl _ => cases q2
            | int _ => cases q2
            | str _ => cases q2
            | lst _ => cases q2
            | tup _ => cases q2
          | non => exact .inr ⟨by simpa [okKd] using hk, _, by simp, rfl⟩
          | bl => exact .inr ⟨by simpa [okKd] using hk, _, by simp, rfl⟩
          | int => exact .inr ⟨by simpa [okKd] using hk, _, by simp, rfl⟩
          | str => exact .inr ⟨by simpa [okKd] using hk, _, by simp, rfl⟩
          | lst => exact .inr ⟨by simpa [okKd] using hk, _, by simp, rfl⟩
          | tup => exact .inr ⟨by simpa [okKd] using hk, _, by simp, rfl⟩
        · have := call_ok (W := Wn) (σ := ([] : L2.St)) (N := 2) (f := fD) (p := p) (as := [x, y]) (vs := [.ref a, u]) (Q := fun v H' => ∃ b, v = V.bl b ∧ Q (.bl (if neg then !b else b)) H') rh2 rfl ⟨.ref a, [u], rfl, vx2, u, [], rfl, vy, rfl⟩ (by
            revert po2
            cases callD p fD [x, y] eta2 with
            | stuck => exact fun z => z.elim
            | exc _ _ _ => exact fun z => z.elim
            | ok d e =>
              cases d with
              | bl b => exact fun po2 v H' Hb' m' r1 r2 r3 => ⟨b, r3, po2 _ H' Hb' m' r1 r2 rfl⟩
              | non => exact fun z => z.elim
              | int _ => exact fun z => z.elim
              | str _ => exact fun z => z.elim
              | lst _ => exact fun z => z.elim
              | tup _ => exact fun z => z.elim
              | obj _ _ => exact fun z => z.elim
              | ref _ => exact fun z => z.elim)
          exact this
      · exact fun z => z.elim
theorem d_eqo (c p : Nat) (z : Cz g X W kk) (F : FnG X.prog X.w X.K X.mg X.base k f fd ps (spD g 2 fD)) (hk : k + 1 ≤ kk) (T : EqC X.K (g.cl c) f) (hI : IsC X.K (g.cl c)) (hb : KBn X.K fd ps 2 [] (fun us _ => us) (fun vs _ => vs)) (ha : PE X a (tD g W ca)) (hb' : PE X b (tD g W cb')) (hm : behindInMarks .Eq b = false := by first | exact nomark _ | rfl) : PE X (.Compare a [.Eq] [b] pos) (tD g W (cEqO c p fD ca cb')) :=
  pe_weak (pe_cmpR (op_eqO T F (z.rm.mono hk) hb) ha hb' hm) fun σ H Q h => by rw [z.K]; exact opd_eqO (.inr trivial) (fun c2 e => by rw [e, ← z.K]; exact hI) h
theorem t_eqo (c p : Nat) (z : Cz g X W kk) (F : FnG X.prog X.w X.K X.mg X.base k f fd ps (spD g 2 fD)) (hk : k + 1 ≤ kk) (T : EqC X.K (g.cl c) f) (hI : IsC X.K (g.cl c)) (hb : KBn X.K fd ps 2 [] (fun us _ => us) (fun vs _ => vs)) (ha : PE X a (tD g W ca)) (hb' : PE X b (tD g W cb')) (hm : behindInMarks .Eq b = false := by first | exact nomark _ | rfl) : PT X (.Compare a [.Eq] [b] pos) (tB g W (cBl (cEqO c p fD ca cb'))) :=
  pt_weak (pt_cmpR (op_eqO T F (z.rm.mono hk) hb) ha hb' hm) fun σ H Q h => by rw [z.K]; exact bl_run (fun _ _ _ h => opd_eqO (.inr trivial) (fun c2 e => by rw [e, ← z.K]; exact hI) h) h
theorem d_neo (c p : Nat) (z : Cz g X W kk) (F : FnG X.prog X.w X.K X.mg X.base k f fd ps (spD g 2 fD)) (hk : k + 1 ≤ kk) (T : EqC X.K (g.cl c) f) (hI : IsC X.K (g.cl c)) (hb : KBn X.K fd ps 2 [] (fun us _ => us) (fun vs _ => vs)) (ha : PE X a (tD g W ca)) (hb' : PE X b (tD g W cb')) (hm : behindInMarks .NotEq b = false := by first | exact nomark _ | rfl) : PE X (.Compare a [.NotEq] [b] pos) (tD g W (cNeO c p fD ca cb')) :=
  pe_weak (pe_cmpR (op_neO T F (z.rm.mono hk) hb) ha hb' hm) fun σ H Q h => by rw [z.K]; exact opd_eqO (.inr trivial) (fun c2 e => by rw [e, ← z.K]; exact hI) h
theorem t_neo (c p : Nat) (z : Cz g X W kk) (F : FnG X.prog X.w X.K X.mg X.base k f fd ps (spD g 2 fD)) (hk : k + 1 ≤ kk) (T : EqC X.K (g.cl c) f) (hI : IsC X.K (g.cl c)) (hb : KBn X.K fd ps 2 [] (fun us _ => us) (fun vs _ => vs)) (ha : PE X a (tD g W ca)) (hb' : PE X b (tD g W cb')) (hm : behindInMarks .NotEq b = false := by first | exact nomark _ | rfl) : PT X (.Compare a [.NotEq] [b] pos) (tB g W (cBl (cNeO c p fD ca cb'))) :=
  pt_weak (pt_cmpR (op_neO T F (z.rm.mono hk) hb) ha hb' hm) fun σ H Q h => by rw [z.K]; exact bl_run (fun _ _ _ h => opd_eqO (.inr trivial) (fun c2 e => by rw [e, ← z.K]; exact hI) h) h
end
end Gh
namespace Gh
open PySem PySem.Spec PyProof.Rows L2
/-! ### to work the pieces out -/
section
variable {α β : Type} {rho : Rho} {eta : Eta}
@[simp] theorem ev_cb (c : Rho → Eta → Out α) (k : α → Rho → Eta → Out β) : cb c k rho eta = (match c rho eta with | .ok a e => k a rho e | .exc x fs e => .exc x fs e | .stuck => .stuck) := rfl
@[simp] theorem ev_sE (c : Rho → Eta → Out α) (k : α → Rho → Eta → OutS) : sE c k rho eta = (match c rho eta with | .ok d e => k d rho e | .exc x fs e => .exc x fs rho e | .stuck => .stuck) := rfl
@[simp] theorem ev_seq (c d : CS) : cSeq c d rho eta = (match c rho eta with | .nx r e => d r e | o => o) := rfl
@[simp] theorem ev_var (i : Nat) : cVar i rho eta = (match rho[i]? with | some (some d) => .ok d eta | _ => .stuck) := rfl
@[simp] theorem ev_c (d : D) : cC d rho eta = .ok d eta := rfl
@[simp] theorem ev_skip : cSkip rho eta = .nx rho eta := rfl
@[simp] theorem ev_bk : cBk rho eta = .bk rho eta := rfl
@[simp] theorem ev_ct : cCt rho eta = .ct rho eta := rfl
@[simp] theorem ev_set (i : Nat) (c : CE) : cSet i c rho eta = (sE c fun d rho eta => .nx (rho.set i (some d)) eta) rho eta := rfl
@[simp] theorem ev_ret (c : CE) : cRet c rho eta = (sE c fun d _ eta => .ret d eta) rho eta := rfl
@[simp] theorem ev_retN : cRetN rho eta = .ret .non eta := rfl
@[simp] theorem ev_drop (c : CE) : cDrop c rho eta = (sE c fun _ rho eta => .nx rho eta) rho eta := rfl
@[simp] theorem ev_ifs (t : CT) (a b : CS) : cIfS t a b rho eta = (sE t fun p rho eta => match p with | true => a rho eta | false => b rho eta) rho eta := rfl
@[simp] theorem ev_nil : cNil rho eta = .ok [] eta := rfl
@[simp] theorem ev_cons (c : CE) (r : CA) : cCons c r rho eta = (cb c fun d => cb r fun ds _ eta => .ok (d :: ds) eta) rho eta := rfl
@[simp] theorem ev_tup (c : CA) : cTup c rho eta = (cb c fun ds _ eta => if ds.length ≤ lineB then .ok (.tup ds) eta else .stuck) rho eta := rfl
@[simp] theorem ev_lst (c : CA) : cLst c rho eta = (cb c fun ds _ eta => if ds.length ≤ lineB then .ok (.lst ds) eta else .stuck) rho eta := rfl
@[simp] theorem ev_new (c : CA) : cNew c rho eta = (cb c fun ds _ eta => if ds.length ≤ lineB then .ok (.ref eta.length) (eta ++ [.lst ds]) else .stuck) rho eta := rfl
@[simp] theorem ev_op (f : D → D → Eta → Option D) (a b : CE) : cOp f a b rho eta = (cb a fun x => cb b fun y _ eta => match f x y eta with | some z => .ok z eta | none => .stuck) rho eta := rfl
@[simp] theorem ev_bl (c : CE) : cBl c rho eta = (cb c fun d _ eta => match d with | .bl b => .ok b eta | _ => .stuck) rho eta := rfl
@[simp] theorem ev_tru (c : CE) : cTru c rho eta = (cb c fun d _ eta => match truD eta d with | some b => .ok b eta | none => .stuck) rho eta := rfl
@[simp] theorem ev_and (c d : CT) : cAnd c d rho eta = (cb c fun b rho eta => match b with | true => d rho eta | false => .ok false eta) rho eta := rfl
@[simp] theorem ev_or (c d : CT) : cOr c d rho eta = (cb c fun b rho eta => match b with | true => .ok true eta | false => d rho eta) rho eta := rfl
@[simp] theorem ev_not (c : CT) : cNot c rho eta = (cb c fun b _ eta => .ok (!b) eta) rho eta := rfl
@[simp] theorem ev_andV (c d : CE) : cAndV c d rho eta = (cb c fun x rho eta => match x with | .bl true => d rho eta | .bl false => .ok (.bl false) eta | _ => .stuck) rho eta := rfl
@[simp] theorem ev_orV (c d : CE) : cOrV c d rho eta = (cb c fun x rho eta => match x with | .bl true => .ok (.bl true) eta | .bl false => d rho eta | _ => .stuck) rho eta := rfl
@[simp] theorem ev_notV (c : CE) : cNotV c rho eta = (cb c fun x _ eta => match x with | .bl b => .ok (.bl !b) eta | _ => .stuck) rho eta := rfl
@[simp] theorem ev_if (t : CT) (c d : Rho → Eta → Out α) : cIf t c d rho eta = (cb t fun b rho eta => match b with | true => c rho eta | false => d rho eta) rho eta := rfl
@[simp] theorem ev_chain (f f' : D → D → Eta → Option D) (a b c : CE) : cChain f f' a b c rho eta = (cb a fun x => cb b fun y rho eta => match f x y eta with
  | some (.bl true) => cb c (fun w _ eta1 => match f' y w eta1 with | some z => .ok z eta1 | none => .stuck) rho eta
  | some (.bl false) => .ok (.bl false) eta
  | _ => .stuck) rho eta := rfl
@[simp] theorem ev_asg (t : Tgt) (c : CE) : cAsg t c rho eta = (sE c fun d rho eta => match kT t d rho with | some r => .nx r eta | none => .stuck) rho eta := rfl
@[simp] theorem ev_par (i j : Nat) (c : CA) : cPar i j c rho eta = (sE c fun ds rho eta => match ds with | [d, e] => .nx ((rho.set i (some d)).set j (some e)) eta | _ => .stuck) rho eta := rfl
@[simp] theorem ev_par3 (i j l : Nat) (c : CA) : cPar3 i j l c rho eta = (sE c fun ds rho eta => match ds with | [d, e, f] => .nx (((rho.set i (some d)).set j (some e)).set l (some f)) eta | _ => .stuck) rho eta := rfl
@[simp] theorem ev_put (c co ci : CE) : cPut c co ci rho eta = (sE (cb c fun d => cb co fun o => cb ci fun i _ eta => .ok (d, o, i) eta) fun (d, o, i) rho eta => match putD eta o i d with | some e => .nx rho e | none => .stuck) rho eta := rfl
@[simp] theorem ev_fn (p : Nat) (f : Fd) (n nk : Nat) (gD : List D → List D → List D) (ca ck : CA) : cFn p f n nk gD ca ck rho eta = (cb ca fun ds => cb ck fun es _ eta => if ds.length = n ∧ es.length = nk then callD p f (gD ds es) eta else .stuck) rho eta := rfl
@[simp] theorem ev_make (c p : Nat) (f : Fd) (n nk : Nat) (gD : List D → List D → List D) (ca ck : CA) : cMake c p f n nk gD ca ck rho eta = (cb ca fun ds => cb ck fun es _ eta => if ds.length = n ∧ es.length = nk then makeD c p f gD ds es eta else .stuck) rho eta := rfl
@[simp] theorem ev_meth (c : Nat) (mm : Str) (p : Nat) (f : Fd) (n nk : Nat) (gD : List D → List D → List D) (co : CE) (ca ck : CA) : cMeth c mm p f n nk gD co ca ck rho eta = (cb co fun o rho eta => match insOf eta o with
  | some (c', fs) => if c' = c ∧ fs.lookup mm = none then cb ca (fun ds => cb ck fun es _ eta => if ds.length = n ∧ es.length = nk then callD p f (gD (o :: ds) es) eta else .stuck) rho eta else .stuck
  | none => .stuck) rho eta := rfl
@[simp] theorem ev_fld (c : Nat) (f : Str) (co : CE) : cFld c f co rho eta = (cb co fun o _ eta => match insOf eta o with
  | some (c', fs) => if c' = c then (match fs.lookup f with | some d => .ok d eta | none => .stuck) else .stuck
  | none => .stuck) rho eta := rfl
@[simp] theorem ev_stf (c : Nat) (f : Str) (ce co : CE) : cStF c f ce co rho eta = (sE (cb ce fun d => cb co fun o _ eta => .ok (d, o) eta) fun (d, o) rho eta => match stF eta c f o d with | some e => .nx rho e | none => .stuck) rho eta := rfl
@[simp] theorem ev_call (f : List D → Eta → Option D) (cs : CA) : cCall f cs rho eta = (cb cs fun ds _ eta => match f ds eta with | some z => .ok z eta | none => .stuck) rho eta := rfl
@[simp] theorem ev_mt (f : D → List D → Eta → Option (D × Eta)) (co : CE) (ca : CA) : cMt f co ca rho eta = (cb co fun o rho eta => if kdOf eta o = some .lst then cb ca (fun ds _ eta => match f o ds eta with | some (d, e) => .ok d e | none => .stuck) rho eta else .stuck) rho eta := rfl
@[simp] theorem ev_isi (T : List (Kd × Bool)) (ce : CE) : cIsi T ce rho eta = (cb ce fun d _ eta => match fIsi T d eta with | some z => .ok z eta | none => .stuck) rho eta := rfl
@[simp] theorem ev_xa (f : Str) (fs : List (Str × D)) : cXa f fs rho eta = (match fs.lookup f with | some d => .ok d eta | none => .stuck) := rfl
@[simp] theorem ev_it (c : CE) : cIt c rho eta = (cb c fun d _ eta => match cSeqI d eta with | some a => .ok a eta | none => .stuck) rho eta := rfl
@[simp] theorem ev_rg (f : List D → Option (List D × (Eta → Prop))) (c : CA) : cRg f c rho eta = (cb c fun ds _ eta => match f ds with | some a => .ok a eta | none => .stuck) rho eta := rfl
@[simp] theorem ev_en (c : CA) : cEn c rho eta = (cb c fun ds _ eta => match enI ds eta with | some a => .ok a eta | none => .stuck) rho eta := rfl
@[simp] theorem ev_for (t : Tgt) (ci : CI) (b : CS) : cFor t ci b rho eta = (sE ci fun a rho eta => forD t b a.2 a.1 rho eta) rho eta := rfl
@[simp] theorem ev_lc (own : List Nat) (t : Tgt) (ci : CI) (ct : CT) (ce : CE) : cLc own t ci ct ce rho eta = (cb ci fun a rho eta => if a.1.length ≤ lineB then (match goL t ct ce a.2 (wipeR rho own) a.1 [] eta with | .ok acc e => .ok (.lst acc) e | _ => .stuck) else .stuck) rho eta := rfl
@[simp] theorem ev_yes : cYes rho eta = .ok true eta := rfl
@[simp] theorem ev_un (f : D → Eta → Option D) (c : CE) : cUn f c rho eta = (cb c fun d _ eta => match f d eta with | some z => .ok z eta | none => .stuck) rho eta := rfl
@[simp] theorem ev_eqo (c p : Nat) (f : Fd) (a b : CE) : cEqO c p f a b rho eta = (cb a fun x => cb b fun y _ eta => fEqO false c p f x y eta) rho eta := rfl
@[simp] theorem ev_neo (c p : Nat) (f : Fd) (a b : CE) : cNeO c p f a b rho eta = (cb a fun x => cb b fun y _ eta => fEqO true c p f x y eta) rho eta := rfl
@[simp] theorem ev_no : cNo rho eta = .ok none eta := rfl
@[simp] theorem ev_so (c : CE) : cSo c rho eta = (cb c fun d _ eta => match d with | .int i => .ok (some i) eta | _ => .stuck) rho eta := rfl
@[simp] theorem ev_sl (c : CE) (l h : CO) : cSl c l h rho eta = (cb c fun d => cb l fun lo => cb h fun hi _ eta => match d with
  | .tup ds => .ok (.tup (cutD ds lo hi)) eta
  | d => match seqL eta d with | some ds => .ok (.lst (cutD ds lo hi)) eta | none => .stuck) rho eta := rfl
@[simp] theorem ev_raise (x n : Nat) (fl : List (Str × Nat)) (ca : CA) : cRaise x n fl ca rho eta = (sE ca fun ds rho eta => if ds.length = n then .exc x (fldD fl ds) rho eta else .stuck) rho eta := rfl
@[simp] theorem ev_try (b : CS) (l : List DCl) : cTry b l rho eta = (match b rho eta with | .exc x fs r e => handle x fs l r e | o => o) := rfl
@[simp] theorem ev_fr (c : CS) : cFr c rho eta = fzS eta.length (c rho eta) := rfl
@[simp] theorem ev_fnp (fP : Fp) (ns : List Int) (ce : CE) : cFnP fP ns ce rho eta = (cb ce fun d _ eta => fP ns [d] eta) rho eta := rfl
@[simp] theorem ev_pix (ns : List Int) (ce : CE) : cPix ns ce rho eta = (cb ce fun d _ eta => match d with | .int i => (match atI ns i with | some x => .ok (.int x) eta | none => .stuck) | _ => .stuck) rho eta := rfl
@[simp] theorem ev_psl (ns : List Int) (l h : CO) : cPsl ns l h rho eta = (cb l fun lo => cb h fun hi _ eta => .ok (.lst (cutD (ns.map D.int) lo hi)) eta) rho eta := rfl
end
/-! ### operations -/
section
variable {eta : Eta} {i j : Int} {ds : List D}
@[simp] theorem op_plusI : fPlus (.int i) (.int j) eta = some (.int (i + j)) := rfl
@[simp] theorem op_subI : fSub (.int i) (.int j) eta = some (.int (i - j)) := rfl
@[simp] theorem op_mulI : fMul (.int i) (.int j) eta = if okMul i j = true then some (.int (i * j)) else none := rfl
@[simp] theorem op_divI : fDivW (.int i) (.int j) eta = if (decide (0 < j) && decide (j < 340282366920938463463374607431768211456)) = true then some (.int (i / j)) else none := rfl
@[simp] theorem op_modI : fMod (.int i) (.int j) eta = if decide (0 < j) = true then some (.int (i % j)) else none := rfl
@[simp] theorem op_powI : fPow (.int i) (.int j) eta = if (decide (0 ≤ j) && decide (j ≤ 1000000) && decide (i.natAbs < 18446744073709551616)) = true then some (.int (i ^ j.toNat)) else none := rfl
@[simp] theorem op_ltI : fLt (.int i) (.int j) eta = some (.bl (decide (i < j))) := rfl
@[simp] theorem op_leI : fLe (.int i) (.int j) eta = some (.bl (decide (i ≤ j))) := rfl
@[simp] theorem op_gtI : fGt (.int i) (.int j) eta = some (.bl (decide (j < i))) := rfl
@[simp] theorem op_geI : fGe (.int i) (.int j) eta = some (.bl (decide (j ≤ i))) := rfl
@[simp] theorem op_negI : fNeg (.int i) eta = some (.int (-i)) := rfl
@[simp] theorem op_ixL : fIx (.lst ds) (.int i) eta = atI ds i := rfl
@[simp] theorem op_ixT : fIx (.tup ds) (.int i) eta = atI ds i := rfl
@[simp] theorem op_ixR {a : Nat} : fIx (.ref a) (.int i) eta = (match eta[a]? with | some (.lst ds) => some ds | _ => none).bind fun ds => atI ds i := rfl
@[simp] theorem tr_bl {b : Bool} : truD eta (.bl b) = some b := rfl
end
end Gh
namespace Gh
open PySem PySem.Spec PyProof.Rows L2
/-! ### how long a value's text can be -/
mutual
def okB : PyData → Bool
  | .none => true
  | .bool _ => true
  | .int i => decide (i.natAbs.log2 < 1920)
  | .str _ => true
  | .list xs => okBs xs
  | .tuple xs => okBs xs
  | .dict _ => false
def okBs : List PyData → Bool
  | [] => true
  | x :: xs => okB x && okBs xs
end
mutual
def szP : PyData → Nat
  | .none => 6
  | .bool _ => 7
  | .int _ => 2000
  | .str x => (PyData.shown (.str x)).length + 2
  | .list xs => szPs xs + 4
  | .tuple xs => szPs xs + 6
  | .dict _ => 0
def szPs : List PyData → Nat
  | [] => 0
  | x :: xs => szP x + szPs xs
end
theorem int_len {i : Int} (h : i.natAbs.log2 < 1920) : (PyData.shown (.int i)).length ≤ 1921 := by
  simp only [PyData.shown]
  exact PyProof.Rows.int_text_len_1921 h
theorem text_len : ∀ (ts : List Str) (k : Nat) (acc : Str), (textFrom k acc ts).length ≤ acc.length + piled ts
  | [], k, acc => by show acc.length ≤ _; omega
  | t :: r, k, acc => by
    have h1 := text_len r (k + 1) (acc ++ (if k > 0 then ", " else "" : String) ++ t)
    have e : (acc ++ (if k > 0 then ", " else "" : String) ++ t).length = acc.length + (if k > 0 then 2 else 0) + t.length := by
      rw [strLen_append, strLen_append]
      split <;> rfl
    rw [e] at h1
    rw [piled_cons]
    show (textFrom (k + 1) _ r).length ≤ _
    have : (if k > 0 then 2 else 0 : Nat) ≤ 2 := by split <;> omega
    omega
theorem list_len (ts : List Str) : (listText ts).length ≤ piled ts + 2 := by
  unfold listText
  rw [strLen_append]
  have := text_len ts 0 "["
  have h1 : ((("[" : String) : Str)).length = 1 := rfl
  have h2 : ((("]" : String) : Str)).length = 1 := rfl
  omega
theorem tuple_len (ts : List Str) : (tupleText ts).length ≤ piled ts + 4 := by
  unfold tupleText
  rw [strLen_append, strLen_append]
  have h1 : ((("(" : String) : Str)).length = 1 := rfl
  have h2 : ((if ts.length == 1 then ",)" else ")" : String) : Str).length ≤ 2 := by split <;> decide
  cases ts with
  | nil =>
    have : (Str.join ", " []).length = 0 := rfl
    omega
  | cons t r =>
    have := join_length_add (t :: r) (by simp)
    omega
mutual
theorem shown_le : ∀ p : PyData, okB p = true → (PyData.shown p).length + 2 ≤ szP p ∧ PyData.showable p = true ∧ PyData.hasDict p = false
  | .none, _ => ⟨by simp only [PyData.shown, szP]; decide, by simp only [PyData.showable], by simp only [PyData.hasDict]⟩
  | .bool b, _ => ⟨by cases b <;> (simp only [PyData.shown, szP]; decide), by simp only [PyData.showable], by simp only [PyData.hasDict]⟩
  | .int i, h => by
    have h' : i.natAbs.log2 < 1920 := by simpa [okB] using h
    exact ⟨by have := int_len h'; simp only [szP]; omega, by simpa [PyData.showable] using h', by simp only [PyData.hasDict]⟩
  | .str x, _ => ⟨by simp only [szP]; omega, by simp only [PyData.showable], by simp only [PyData.hasDict]⟩
  | .list xs, h => by
    obtain ⟨h1, h2, h3⟩ := shown_les xs (by simpa [okB] using h)
    refine ⟨?_, by simpa only [PyData.showable] using h2, by simpa only [PyData.hasDict] using h3⟩
    have := list_len (PyData.shownAll xs)
    simp only [PyData.shown, szP]
    omega
  | .tuple xs, h => by
    obtain ⟨h1, h2, h3⟩ := shown_les xs (by simpa [okB] using h)
    refine ⟨?_, by simpa only [PyData.showable] using h2, by simpa only [PyData.hasDict] using h3⟩
    have := tuple_len (PyData.shownAll xs)
    simp only [PyData.shown, szP]
    omega
  | .dict _, h => by simp [okB] at h
theorem shown_les : ∀ ps : List PyData, okBs ps = true → piled (PyData.shownAll ps) ≤ szPs ps ∧ PyData.showableAll ps = true ∧ PyData.hasDictAll ps = false
  | [], _ => ⟨by simp [PyData.shownAll, szPs, piled], by simp only [PyData.showableAll], by simp only [PyData.hasDictAll]⟩
  | p :: r, h => by
    simp only [okBs, Bool.and_eq_true] at h
    obtain ⟨a1, a2, a3⟩ := shown_le p h.1
    obtain ⟨b1, b2, b3⟩ := shown_les r h.2
    refine ⟨?_, by simp only [PyData.showableAll, a2, b2, Bool.and_self], by simp only [PyData.hasDictAll, a3, b3, Bool.or_self]⟩
    simp only [PyData.shownAll, piled_cons, szPs]
    omega
end
theorem okShow_of {p : PyData} (h : okB p = true) (hd : p.depth ≤ 60) (hs : szP p ≤ 16777216) : okShow p = true := by
  obtain ⟨h1, h2, h3⟩ := shown_le p h
  unfold okShow lineB
  simp only [h2, h3, Bool.not_false, Bool.and_self, Bool.true_and, Bool.and_eq_true, decide_eq_true_eq]
  omega
/-- the same answer twice -/
theorem repr_same {eta : Eta} {d : D} {p : PyData} (h : py eta d = some p) (ho : okShow p = true) : bRepr [d] eta = some (.str p.shown) := by simp [bRepr, h, ho]
mutual
theorem eqv_self : ∀ p : PyData, p.canLay0 = true → PyData.eqv p p = true
  | .none, _ => by simp only [PyData.eqv]
  | .bool b, _ => by simp [PyData.eqv]
  | .int i, _ => by simp [PyData.eqv]
  | .str x, _ => by simp [PyData.eqv]
  | .list xs, h => by simp only [PyData.eqv]; exact eqv_selfs xs (by simpa [PyData.canLay0] using h)
  | .tuple xs, h => by simp only [PyData.eqv]; exact eqv_selfs xs (by simpa [PyData.canLay0] using h)
  | .dict _, h => by simp [PyData.canLay0] at h
theorem eqv_selfs : ∀ ps : List PyData, PyData.canLayAll0 ps = true → PyData.eqvAll ps ps = true
  | [], _ => by simp only [PyData.eqvAll]
  | p :: r, h => by
    simp only [PyData.canLayAll0, Bool.and_eq_true] at h
    simp only [PyData.eqvAll, eqv_self p h.1, eqv_selfs r h.2, Bool.and_self]
end
end Gh
namespace Gh
open PySem PySem.Spec PyProof.Rows L2
/-! ### ints in order -/
def ins (x : Int) : List Int → List Int
  | [] => [x]
  | y :: r => if x ≤ y then x :: y :: r else y :: ins x r
def isort : List Int → List Int
  | [] => []
  | x :: r => ins x (isort r)
theorem ins_perm (x : Int) : ∀ l : List Int, (ins x l).Perm (x :: l)
  | [] => List.Perm.refl _
  | y :: r => by
    unfold ins
    split
    · exact List.Perm.refl _
    · exact ((ins_perm x r).cons y).trans (List.Perm.swap x y r)
theorem isort_perm : ∀ l : List Int, (isort l).Perm l
  | [] => List.Perm.refl _
  | x :: r => (ins_perm x (isort r)).trans ((isort_perm r).cons x)
theorem ins_pw (x : Int) : ∀ l : List Int, l.Pairwise (· ≤ ·) → (ins x l).Pairwise (· ≤ ·)
  | [], _ => by simp [ins]
  | y :: r, h => by
    unfold ins
    have h' := List.pairwise_cons.mp h
    split
    · rename_i c
      exact List.pairwise_cons.mpr ⟨fun z hz => by
        rcases List.mem_cons.mp hz with rfl | hz
        · exact c
        · have := h'.1 z hz; omega, h⟩
    · rename_i c
      refine List.pairwise_cons.mpr ⟨fun z hz => ?_, ins_pw x r h'.2⟩
      rcases List.mem_cons.mp ((ins_perm x r).mem_iff.mp hz) with rfl | hz
      · omega
      · exact h'.1 z hz
theorem isort_pw : ∀ l : List Int, (isort l).Pairwise (· ≤ ·)
  | [] => List.Pairwise.nil
  | x :: r => ins_pw x _ (isort_pw r)
theorem pw_unique : ∀ {a b : List Int}, a.Perm b → a.Pairwise (· ≤ ·) → b.Pairwise (· ≤ ·) → a = b
  | [], b, p, _, _ => (List.nil_perm.mp p).symm
  | x :: a, [], p, _, _ => absurd (List.perm_nil.mp p) (by simp)
  | x :: a, y :: b, p, ha, hb => by
    have ha' := List.pairwise_cons.mp ha
    have hb' := List.pairwise_cons.mp hb
    have e : x = y := by
      have m1 : x ∈ y :: b := p.mem_iff.mp (by simp)
      have m2 : y ∈ x :: a := p.mem_iff.mpr (by simp)
      rcases List.mem_cons.mp m1 with e | m1
      · exact e
      · rcases List.mem_cons.mp m2 with e | m2
        · exact e.symm
        · have := hb'.1 x m1
          have := ha'.1 y m2
          omega
    subst e
    rw [pw_unique (List.perm_cons x |>.mp p) ha'.2 hb'.2]
/-- each once, in order -/
def uins (x : Int) : List Int → List Int
  | [] => [x]
  | y :: r => if x < y then x :: y :: r else if x = y then y :: r else y :: uins x r
def usort : List Int → List Int
  | [] => []
  | x :: r => uins x (usort r)
theorem uins_mem (x k : Int) : ∀ l : List Int, k ∈ uins x l ↔ k = x ∨ k ∈ l
  | [] => by simp [uins]
  | y :: r => by
    unfold uins
    split
    · simp
    · split
      · rename_i c; subst c; simp
      · rw [List.mem_cons, uins_mem x k r, List.mem_cons]
        constructor
        · rintro (h | h | h)
          · exact .inr (.inl h)
          · exact .inl h
          · exact .inr (.inr h)
        · rintro (h | h | h)
          · exact .inr (.inl h)
          · exact .inl h
          · exact .inr (.inr h)
theorem usort_mem (k : Int) : ∀ l : List Int, k ∈ usort l ↔ k ∈ l
  | [] => Iff.rfl
  | x :: r => by rw [usort, uins_mem, usort_mem k r, List.mem_cons]
theorem uins_pw (x : Int) : ∀ l : List Int, l.Pairwise (· < ·) → (uins x l).Pairwise (· < ·)
  | [], _ => by simp [uins]
  | y :: r, h => by
    unfold uins
    have h' := List.pairwise_cons.mp h
    split
    · rename_i c
      exact List.pairwise_cons.mpr ⟨fun z hz => by
        rcases List.mem_cons.mp hz with rfl | hz
        · exact c
        · have := h'.1 z hz; omega, h⟩
    · split
      · exact h
      · refine List.pairwise_cons.mpr ⟨fun z hz => ?_, uins_pw x r h'.2⟩
        rcases (uins_mem x z r).mp hz with rfl | hz
        · omega
        · exact h'.1 z hz
theorem usort_pw : ∀ l : List Int, (usort l).Pairwise (· < ·)
  | [] => List.Pairwise.nil
  | x :: r => uins_pw x _ (usort_pw r)
theorem upw_unique : ∀ {a b : List Int}, (∀ k, k ∈ a ↔ k ∈ b) → a.Pairwise (· < ·) → b.Pairwise (· < ·) → a = b
  | [], [], _, _, _ => rfl
  | [], y :: b, p, _, _ => absurd ((p y).mpr (by simp)) (by simp)
  | x :: a, [], p, _, _ => absurd ((p x).mp (by simp)) (by simp)
  | x :: a, y :: b, p, ha, hb => by
    have ha' := List.pairwise_cons.mp ha
    have hb' := List.pairwise_cons.mp hb
    have e : x = y := by
      have m1 : x ∈ y :: b := (p x).mp (by simp)
      have m2 : y ∈ x :: a := (p y).mpr (by simp)
      rcases List.mem_cons.mp m1 with e | m1
      · exact e
      · rcases List.mem_cons.mp m2 with e | m2
        · exact e.symm
        · have := hb'.1 x m1
          have := ha'.1 y m2
          omega
    subst e
    rw [upw_unique (fun k => ?_) ha'.2 hb'.2]
    have hk := p k
    rw [List.mem_cons, List.mem_cons] at hk
    constructor
    · intro h
      rcases hk.mp (.inr h) with rfl | h'
      · have := ha'.1 _ h; omega
      · exact h'
    · intro h
      rcases hk.mpr (.inr h) with rfl | h'
      · have := hb'.1 _ h; omega
      · exact h'
/-! ### sorted(list of ints) -/
def bSorted (ds : List D) (eta : Eta) : Option D := match ds with | [d] => (seqL eta d).bind fun es => (intsD es).map fun ns => .lst ((isort ns).map .int) | _ => none
theorem VDs_ints {g : G} {Hb : Hp} {m : List Addr} : ∀ ns : List Int, VDs g Hb m (ns.map D.int) (ns.map V.int)
  | [] => rfl
  | n :: r => ⟨.int n, r.map V.int, rfl, rfl, VDs_ints r⟩
section
variable {g : G} {W : WE} {X : Cx} {k : Nat} {e : Expr} {es : List Expr} {p pos : Pos} {cs : CA} {ce : CE}
theorem cd_sorted : CallD g W (rSortedI g.K) bSorted := by
  intro ds z vs eta F Hb m H Q e rh vd q
  unfold bSorted at e
  split at e
  · obtain ⟨es, e1, e2⟩ := Option.bind_eq_some_iff.mp e
    obtain ⟨ns, e3, rfl⟩ := Option.map_eq_some_iff.mp e2
    obtain ⟨v, rfl, k⟩ := vd.one
    obtain ⟨a, us, rfl, h1, k1⟩ := seqL_ok e1 rh k
    have eu := intsD_ok e3 k1
    subst eu
    refine ⟨a, ns, rfl, .inl h1, fun ns' l hp hw hl => ?_⟩
    have en : ns' = isort ns := pw_unique (hp.trans (isort_perm ns).symm) hw (isort_pw ns)
    subst en
    obtain ⟨rh', gr⟩ := rh.pure (o := .lst ((isort ns).map V.int)) hl
    exact q _ _ _ rh' gr ⟨l, _, rfl, .inl upd_same, VDs_ints _⟩
  · cases e
theorem b_sorted (z : Cz g X W k) (hm : X.mg "sorted" = none) (ha : PA X (e :: es) (tA g W cs)) (hg : Gl X "sorted" := by rfl) (he : starEach (e :: es) X.env = (false, eval e X.env) :: starEach es X.env := by rfl) (hpl : (backTo pos (starEach es X.env)).any (·.1) = false := by rfl) : PE X (.Call (.Name "sorted" p) (e :: es) [] pos) (tD g W (cCall bSorted cs)) :=
  d_callB cr_sortedI (by rw [z.K]; exact cd_sorted) hm boot_sorted ha hg (by decide) (by decide) he hpl
end
end Gh
namespace Gh
open PySem PySem.Spec PyProof.Rows L2
/-! ### sorted(set(tuple of ints)) -/
def rSetI (K : PySem.W.Frag) (w : World) : List V → Hp → VK → Prop := fun vs H Q => ∃ (p : Addr) (ns : List Int), vs = [.ref p] ∧ SqT K H p (ns.map V.int) ∧ ns.length ≤ 60 ∧
  ∀ (q : Addr) (n : Nat), H q = none → n ≤ ns.length → Q (.ref q) (upd H q (SetO w q (fun j => decide (j ∈ ns)) n))
theorem cr_setI {X : Cx} (hc : X.calm = true) : CallR X (.type "set") (rSetI X.K X.w) := by
  intro pins s σ H vs us Q I r h
  obtain ⟨p, ns, rfl, hs, hl, q⟩ := h
  rw [Vals.ref1 r]
  obtain ⟨its, rv, pt, hz⟩ := I.tuple hs
  have hi : IntsAre its.toArray.toList ns := ints_of_vals rv
  refine call_set_tupI ns (I.ok.hd hc) (show s.heap.IsTuple p its.toArray from pt) hi (by unfold scanBound; omega) fun h' tk c R1 hcn k => ?_
  exact ⟨.ref s.heap.objs.size, upd H s.heap.objs.size (SetO X.w s.heap.objs.size (fun j => decide (j ∈ ns)) c), I.laid (t' := tk) k (Nat.le_refl _) (setO_new R1), rfl, q _ _ (I.hok.fresh (Nat.le_refl _)) hcn⟩
def bSortSet (ds : List D) (eta : Eta) : Option D := match ds with | [.tup es] => (intsD es).bind fun ns => if ns.length ≤ 60 then some (.lst ((usort ns).map .int)) else none | _ => none
section
variable {g : G} {W : WE} {X : Cx} {k : Nat} {e : Expr} {p p2 pos pos2 : Pos} {cs : CA}
theorem b_sortSet (z : Cz g X W k) (hm : X.mg "sorted" = none) (hm2 : X.mg "set" = none) (ha : PA X [e] (tA g W cs)) (hg : Gl X "sorted" := by rfl) (hg2 : Gl X "set" := by rfl) (he : starEach [e] X.env = (false, eval e X.env) :: starEach [] X.env := by rfl)
    (he2 : starEach [Expr.Call (.Name "set" p2) [e] [] pos2] X.env = (false, eval (.Call (.Name "set" p2) [e] [] pos2) X.env) :: starEach [] X.env := by rfl) : PE X (.Call (.Name "sorted" p) [.Call (.Name "set" p2) [e] [] pos2] [] pos) (tD g W (cCall bSortSet cs)) :=
  pe_weak (pe_callB (cr_sortedSet z.calm) hg hm boot_sorted (pa_cons (pe_callTy (cr_setI z.calm) hg2 hm2 boot_set ha (by decide) (by decide) he (by rfl)) pa_nil he2) (by decide) (by decide) he2 (by rfl)) fun σ H Q ⟨rho, eta, F, Hb, m, rh, rs, po⟩ =>
    ⟨rho, eta, F, Hb, m, rh, rs, Post.bind po fun ds eta1 vs H1 Hb1 m1 _ rh1 g1 vd po1 => by
      revert po1
      cases q : bSortSet ds eta1 with
      | none => exact fun z => z.elim
      | some y =>
        intro po1
        unfold bSortSet at q
        split at q
        · rename_i ds0 es1 hcs
          obtain ⟨ns, e3, q⟩ := Option.bind_eq_some_iff.mp q
          split at q
          · rename_i hl
            cases q
            obtain ⟨v, rfl, k1⟩ := VDs.one vd
            obtain ⟨a, us, rfl, h1, k2⟩ := seqT_ok (d := .tup _) rfl rh1 k1
            have eu := intsD_ok e3 k2
            subst eu
            refine ⟨a, ns, rfl, by rw [z.K]; exact h1, hl, fun q n hq hn => ?_⟩
            obtain ⟨rh2, g2⟩ := rh1.pure (o := SetO X.w q (fun j => decide (j ∈ ns)) n) hq
            refine ⟨q, _, n, rfl, upd_same, by omega, fun ms l hs hmm _ hl2 => ?_⟩
            have en : ms = usort ns := upw_unique (fun j => by rw [hmm j, usort_mem, decide_eq_true_eq]) hs (usort_pw ns)
            subst en
            obtain ⟨rh3, g3⟩ := rh2.pure (o := .lst ((usort ns).map V.int)) hl2
            exact po1 _ _ _ _ rh3 (g2.trans g3) ⟨l, _, rfl, .inl upd_same, VDs_ints _⟩
          · cases q
        · cases q⟩
end
end Gh
namespace Gh
open PySem PySem.Spec PyProof.Rows L2
/-! ### list(range(n)), tuple(range(n)) -/
def cRgL (tp : Bool) (c : CE) : CE := cb c fun d _ eta => match d with
  | .int n => if (decide (0 ≤ n) && decide (n ≤ 100000)) = true then .ok (if tp then .tup (rngD 0 n.toNat) else .lst (rngD 0 n.toNat)) eta else .stuck
  | _ => .stuck
theorem VDs_map {g : G} {Hb : Hp} {m : List Addr} {α : Type} (f : α → Int) : ∀ l : List α, VDs g Hb m (l.map fun i => D.int (f i)) (l.map fun i => V.int (f i))
  | [] => rfl
  | n :: r => ⟨.int (f n), r.map _, rfl, rfl, VDs_map f r⟩
theorem VDs_rg {g : G} {Hb : Hp} {m : List Addr} (n : Int) : VDs g Hb m (rngD 0 n.toNat) (rgV 0 n) := by
  have e : rgV 0 n = (List.range n.toNat).map fun i => V.int (0 + (i : Nat)) := by unfold rgV; rw [Int.sub_zero]
  rw [e]
  exact VDs_map (fun i : Nat => (0 : Int) + (i : Int)) _
section
variable {g : G} {W : WE} {X : Cx} {k : Nat} {e : Expr} {p p2 pos pos2 : Pos} {ce : CE}
theorem d_listRg (z : Cz g X W k) (hm : X.mg "list" = none) (hm2 : X.mg "range" = none) (ha : PE X e (tD g W ce)) (hg : Gl X "list" := by rfl) (hg2 : Gl X "range" := by rfl) (he : starEach [e] X.env = (false, eval e X.env) :: starEach [] X.env := by rfl)
    (he2 : starEach [Expr.Call (.Name "range" p2) [e] [] pos2] X.env = (false, eval (.Call (.Name "range" p2) [e] [] pos2) X.env) :: starEach [] X.env := by rfl) : PE X (.Call (.Name "list" p) [.Call (.Name "range" p2) [e] [] pos2] [] pos) (tD g W (cRgL false ce)) :=
  pe_weak (pe_listRg z.calm hg hm (prg_1 hg2 hm2 ha he) he2) fun σ H Q ⟨rho, eta, F, Hb, m, rh, rs, po⟩ =>
    ⟨rho, eta, F, Hb, m, rh, rs, Post.bind po fun d eta1 v H1 Hb1 m1 _ rh1 g1 vd po1 => by
      revert po1
      cases d with
      | int n =>
        show Post g W (relD g) F σ Hb1 m1 (if (decide (0 ≤ n) && decide (n ≤ 100000)) = true then .ok (if false = true then .tup (rngD 0 n.toNat) else .lst (rngD 0 n.toNat)) eta1 else .stuck) Q → _
        split
        · rename_i hn
          rw [Bool.and_eq_true, decide_eq_true_eq, decide_eq_true_eq] at hn
          intro po1
          refine ⟨n, vd, RgOk.of_le (by omega) (by omega) (by omega) (by omega), fun q hq => ?_⟩
          obtain ⟨rh2, g2⟩ := rh1.pure (o := .lst (rgV 0 n)) hq
          exact po1 _ _ _ _ rh2 g2 ⟨q, _, rfl, .inl upd_same, VDs_rg n⟩
        · exact fun z => z.elim
      | _ => exact fun z => z.elim⟩
theorem d_tupRg (z : Cz g X W k) (hm : X.mg "tuple" = none) (hm2 : X.mg "range" = none) (ha : PE X e (tD g W ce)) (hg : Gl X "tuple" := by rfl) (hg2 : Gl X "range" := by rfl) (he : starEach [e] X.env = (false, eval e X.env) :: starEach [] X.env := by rfl)
    (he2 : starEach [Expr.Call (.Name "range" p2) [e] [] pos2] X.env = (false, eval (.Call (.Name "range" p2) [e] [] pos2) X.env) :: starEach [] X.env := by rfl) : PE X (.Call (.Name "tuple" p) [.Call (.Name "range" p2) [e] [] pos2] [] pos) (tD g W (cRgL true ce)) :=
  pe_weak (pe_tupRg z.calm hg hm (prg_1 hg2 hm2 ha he) he2) fun σ H Q ⟨rho, eta, F, Hb, m, rh, rs, po⟩ =>
    ⟨rho, eta, F, Hb, m, rh, rs, Post.bind po fun d eta1 v H1 Hb1 m1 _ rh1 g1 vd po1 => by
      revert po1
      cases d with
      | int n =>
        show Post g W (relD g) F σ Hb1 m1 (if (decide (0 ≤ n) && decide (n ≤ 100000)) = true then .ok (if true = true then .tup (rngD 0 n.toNat) else .lst (rngD 0 n.toNat)) eta1 else .stuck) Q → _
        split
        · rename_i hn
          rw [Bool.and_eq_true, decide_eq_true_eq, decide_eq_true_eq] at hn
          intro po1
          refine ⟨n, vd, RgOk.of_le (by omega) (by omega) (by omega) (by omega), fun q hq => ?_⟩
          obtain ⟨rh2, g2⟩ := rh1.pure (o := .tup (rgV 0 n)) hq
          exact po1 _ _ _ _ rh2 g2 ⟨q, _, rfl, .inl (.inl upd_same), VDs_rg n⟩
        · exact fun z => z.elim
      | _ => exact fun z => z.elim⟩
/-! ### str(int) -/
def bStr (ds : List D) (_ : Eta) : Option D := match ds with | [.int i] => if i.natAbs.log2 < 1920 then some (.str (toString i)) else none | _ => none
theorem cd_str : CallD g W (fun xs H Q => ∃ i, xs = [.int i] ∧ i.natAbs.log2 < 1920 ∧ Q (.str (toString i)) H) bStr := by
  intro ds z vs eta F Hb m H Q e rh vd q
  unfold bStr at e
  split at e
  · rename_i i
    split at e
    · rename_i hl
      cases e
      obtain ⟨v, rfl, k⟩ := vd.one
      subst k
      exact ⟨i, rfl, hl, q _ _ Hb rh Gr.refl rfl⟩
    · cases e
  · cases e
theorem b_str {es : List Expr} {cs : CA} (z : Cz g X W k) (hm : X.mg "str" = none) (ha : PA X (e :: es) (tA g W cs)) (hg : Gl X "str" := by rfl) (he : starEach (e :: es) X.env = (false, eval e X.env) :: starEach es X.env := by rfl) (hpl : (backTo pos (starEach es X.env)).any (·.1) = false := by rfl) : PE X (.Call (.Name "str" p) (e :: es) [] pos) (tD g W (cCall bStr cs)) :=
  d_callT call_str_int cd_str hm boot_str ha hg (by decide) (by decide) he hpl
end
end Gh
namespace Gh
open PySem PySem.Spec PyProof.Rows L2
/-! ### tuple * int -/
theorem tuple_mul1 (l : Addr) (items : Array Value) (n : Nat) (dd : Option Addr) (sl : Array (Option Value)) (u : Tok) :
    Meets (Builtin.«tuple.__mul__» ⟨[.ref l, .int 1 u], []⟩) (fun _ R s => s.heap.get? l = some { cls := .type "tuple", dict := dd, data := .seq items n, slots := sl } ∧
      R (.ok (.ret (Value.ref l))) s) :=
  .of_wp fun prog w A R s h => by
    obtain ⟨hp, g, d, tk, os⟩ := s
    obtain ⟨hl, h⟩ := h
    have f1 := AutoSeq1.idx_int
    have c1 : (items.isEmpty || (1 : Int) == 1) = true := by simp
    wp_walk using wpAny_loadPart' hl
    exact ⟨_, rfl, h⟩
def rRep1 (K : PySem.W.Frag) : R2 := fun x y H Q => ∃ l xs, x = .ref l ∧ y = .int 1 ∧ SqT K H l xs ∧ Q (.ref l) H
theorem op_rep1 {X : Cx} : OpR X (binaryOp .Mult) (rRep1 X.K) := by
  intro pins s σ H x y v u Q I rx ry h
  obtain ⟨l, xs, rfl, rfl, hT, q⟩ := h
  cases rx
  obtain ⟨t, rfl⟩ := ry
  obtain ⟨its, r, ⟨⟨cls, dd, data, sl⟩, ho, hc, n, hd⟩, hs⟩ := I.tuple hT
  simp only at hc hd
  subst hc hd
  refine wpAny_binaryOp_repeat_ref (T := "tuple") (U := "int") (by decide) ⟨_, ho, rfl⟩ (fun s' => typeIs_int s' 1 t) noFill_tuple_mul F.fills_int_mul F.slot_int_rmul repeat_tuple F.slot_int_index.lookup
    (call_meets F.slot_int_rmul (typeIs_int s 1 t) F.entry_int_rmul (F.args_int_rmul_2 _ _) (int_rmul_tuple 1 t l its.toArray n dd sl)
      ⟨ho, rfl, ⟨_, ho, rfl⟩, call_meets F.slot_tuple_mul ⟨_, ho, rfl⟩ F.entry_tuple_mul (F.args_tuple_mul_2 _ _) (tuple_mul1 l its.toArray n dd sl t) ⟨ho, ?_⟩⟩)
  exact ⟨.ref l, H, I, rfl, q⟩
def fMulT (x y : D) (_ : Eta) : Option D := match x, y with
  | .tup ds, .int k => if (decide (1 ≤ k) && decide (k ≤ 1000) && decide (ds.length ≤ 1000) && !ds.isEmpty) = true then some (.tup (List.replicate k.toNat ds).flatten) else none
  | _, _ => none
theorem VDs_rep {g : G} {Hb : Hp} {m : List Addr} {ds : List D} {vs : List V} (h : VDs g Hb m ds vs) : ∀ n : Nat, VDs g Hb m (List.replicate n ds).flatten (List.replicate n vs).flatten
  | 0 => rfl
  | n + 1 => by
    rw [List.replicate_succ, List.replicate_succ, List.flatten_cons, List.flatten_cons]
    exact h.append (VDs_rep h n)
section
variable {g : G} {W : WE} {X : Cx} {k : Nat} {a b : Expr} {pos : Pos} {ca cb' : CE}
theorem opd_mulT : OpD g W (fun x y H Q => rRepT g.K x y H Q ∨ rRep1 g.K x y H Q) fMulT := by
  intro x y z v u eta F Hb m H Q e rh vx vy q
  unfold fMulT at e
  split at e
  · rename_i ds k
    split at e
    · rename_i hc
      simp only [Bool.and_eq_true, decide_eq_true_eq, Bool.not_eq_true', List.isEmpty_eq_false_iff] at hc
      obtain ⟨⟨⟨h1, h2⟩, h3⟩, h4⟩ := hc
      cases e
      obtain ⟨l, us, rfl, hT, k1⟩ := seqT_ok (d := .tup ds) rfl rh vx
      by_cases hk : k = 1
      · subst hk
        refine .inr ⟨l, us, rfl, vy, hT, ?_⟩
        have e1 : (List.replicate (1 : Int).toNat ds).flatten = ds := by simp
        rw [e1] at q
        exact q _ _ Hb rh Gr.refl vx
      · refine .inl ⟨l, k, us, rfl, vy, hT, fun e => ?_, by omega, by omega, by rw [← k1.length]; exact h3, fun p hp => ?_⟩
        · subst e
          exact h4 (List.eq_nil_of_length_eq_zero k1.length)
        · obtain ⟨rh2, g2⟩ := rh.pure (o := .tup (List.replicate k.toNat us).flatten) hp
          exact q _ _ _ rh2 g2 ⟨p, _, rfl, .inl (.inl upd_same), VDs.mono g2 _ _ (VDs_rep k1 _)⟩
    · cases e
  · cases e
theorem d_mulT (z : Cz g X W k) (ha : PE X a (tD g W ca)) (hb : PE X b (tD g W cb')) : PE X (.BinOp a .Mult b pos) (tD g W (cOp fMulT ca cb')) := d_op (op_repT.or op_rep1) (by rw [z.K]; exact opd_mulT) ha hb
end
/-! ### o[lo:hi] = value -/
def rSetSl : V → Option Int → Option Int → V → Hp → (Hp → Prop) → Prop := fun o lo hi v H Q => ∃ (l b : Addr) (xs ys : List V) (a c : Int), o = .ref l ∧ v = .ref b ∧ lo = some a ∧ hi = some c ∧ H l = some (.lst xs) ∧ H b = some (.lst ys) ∧ l ≠ b ∧ 0 ≤ a ∧ a ≤ c ∧ c ≤ xs.length ∧ xs.length + ys.length ≤ sizeLine ∧
  Q (upd H l (.lst (xs.take a.toNat ++ ys ++ xs.drop c.toNat)))
def gSubSl (to : TE) (tl th : TO) : TG := fun v σ H Q => to σ H fun o H1 => tl σ H1 fun l H2 => th σ H2 fun u H3 => rSetSl o l u v H3 fun H4 => Q σ H4
theorem pg_subSl {X : Cx} {o : Expr} {lo hi : Option Expr} {p2 pos : Pos} {to : TE} {tl th : TO} (ho : PE X o to) (hl : PO X lo tl) (hu : PO X hi th)
    (ha : ∀ v, assign (.Subscript o (.Slice lo hi none p2) pos) X.env v = (do
      let ov ← holding [v] (eval o X.env)
      let iv ← holding [v, ov] (eval (.Slice lo hi none p2) X.env)
      standAt pos
      holding [v, ov, iv] (setItem ov iv v)
      release [iv, v, ov] []) := by intro _; rfl) : PG X (.Subscript o (.Slice lo hi none p2) pos) (gSubSl to tl th) := by
  refine ⟨fun pins s σ H v u Q I r h => ?_⟩
  rw [ha]
  refine wpAny_bind (wpAny_holding (thn (ho.run pins s σ H _ I h) fun ov s1 ⟨x, H1, I1, r1, q1⟩ => ?_))
  refine wpAny_bind (wpAny_holding ?_)
  refine wpAny_Slice (thn (hl.run pins s1 σ H1 _ I1 q1) fun vl s2 ⟨l, H2, I2, pl, q2⟩ => thn (hu.run pins s2 σ H2 _ I2 q2) fun vu s3 ⟨c, H3, I3, pu, q3⟩ => ?_)
  rw [evalPart_none]
  refine wpAny_pure ?_
  have I4 : Inv X pins σ H3 { s3 with heap := s3.heap.push { cls := .type "slice", data := .fields #[vl, vu, .none] } } := I3.kept (t' := s3.toks) fun b ob q => Heap.get?_push_of_some _ q
  obtain ⟨la, b, xs, ys, a, cc, rfl, rfl, rfl, rfl, k1, k2, k3, k4, k5, k6, k7, q⟩ := q3
  cases r1
  cases r
  cases pl
  cases pu
  refine wpAny_bind (wpAny_standAt (wpAny_bind (wpAny_holding (set_slice I4 k1 k2 k3 (Heap.IsSliceOf.new ..) ⟨_, rfl⟩ ⟨_, rfl⟩ k4 k5 k6 k7 fun s5 I5 => ?_))))
  exact wpAny_release ⟨σ, _, I5, q⟩
end Gh
namespace Gh
open PySem PySem.Spec PyProof.Rows L2
/-! ### a comprehension's list that changes later -/
section
variable {g : G} {F Hb H : Hp} {m : List Addr} {eta : Eta}
/-- a list in the frame becomes owned -/
theorem RelH.take {p : Addr} {us : List V} {ds : List D} (hF : F p = none) (r : RelH g (upd F p (.lst us)) Hb m eta H) (vd : VDs g Hb m ds us) : RelH g F Hb (m ++ [p]) (eta ++ [.lst ds]) H ∧ Gr Hb m Hb (m ++ [p]) ∧ VD g Hb (m ++ [p]) (.ref eta.length) (.ref p) := by
  obtain ⟨f1, f2, f3⟩ := r.fr p _ upd_same
  have gr : Gr Hb m Hb (m ++ [p]) := ⟨Same.refl _, fun i a h => by rw [List.getElem?_append_left (List.getElem?_eq_some_iff.mp h).1]; exact h⟩
  refine ⟨⟨fun a o h => ?_, r.ex, by simp [r.len], ?_, fun a ha => ?_, fun i a o h1 h2 => ?_⟩, gr, p, rfl, ?_⟩
  · have ne : a ≠ p := fun z => by rw [z, hF] at h; cases h
    obtain ⟨k1, k2, k3⟩ := r.fr a o (by rw [upd_ne ne]; exact h)
    exact ⟨k1, k2, by simp [k3, ne]⟩
  · refine List.nodup_append.mpr ⟨r.nd, by simp, fun a ha b hb => ?_⟩
    rintro rfl
    have : a = p := by simpa using hb
    subst this
    exact f3 ha
  · rcases List.mem_append.mp ha with ha | ha
    · exact r.out _ ha
    · have : a = p := by simpa using ha
      subst this
      exact f2
  · by_cases hi : i < m.length
    · rw [List.getElem?_append_left hi] at h1
      rw [List.getElem?_append_left (by rw [← r.len]; exact hi)] at h2
      exact (r.own i a o h1 h2).mono gr rfl
    · rw [List.getElem?_append_right (by omega)] at h1
      rw [List.getElem?_append_right (by rw [← r.len]; omega), ← r.len] at h2
      have e0 : i - m.length = 0 := by
        have := (List.getElem?_eq_some_iff.mp h1).1
        simp at this
        omega
      rw [e0] at h1 h2
      simp at h1 h2
      subst h1 h2
      exact ⟨us, f1, VDs.mono gr _ _ vd⟩
  · rw [← r.len, List.getElem?_append_right (Nat.le_refl _)]
    simp
end
noncomputable def cLcN (own : List Nat) (t : Tgt) (ci : CI) (ct : CT) (ce : CE) : CE := cb ci fun a rho eta => if a.1.length ≤ lineB then (match goL t ct ce a.2 (wipeR rho own) a.1 [] eta with | .ok acc e => .ok (.ref e.length) (e ++ [.lst acc]) | _ => .stuck) else .stuck
section
variable {g : G} {W : WE} {X : Cx} {k : Nat} {elt tg iter e : Expr} {ifs : List Expr} {scope : Scope} {own : List (Str × Nat)} {pos : Pos} {ci : CI} {ct : CT} {ce : CE} {t : Tgt} {s1 : List Nat}
theorem lcN_run (hw : W.xc = none) (hsl : ∀ i ∈ s1, i ∈ own.map (·.2)) {σ : L2.St} {H : Hp} {Q : VK} (h : tD g W (cLcN (own.map (·.2)) t ci ct ce) σ H Q) : tLc (tI g W ci) (gD g Wn s1 (kT t)) (tB g Wn ct) (tD g Wn ce) (own.map (·.2)) σ H Q := by
  obtain ⟨rho, eta, F, Hb, m, rh, rs, po⟩ := h
  refine ⟨rho, eta, F, Hb, m, rh, rs, Post.bind po fun a eta1 J H1 Hb1 m1 _ rh1 g1 wk po1 => ?_⟩
  obtain ⟨ds, C⟩ := a
  have wk : WalkD g C J Hb1 m1 ds := wk
  intro Dd hD
  revert po1
  dsimp only
  split
  · rename_i hlen
    intro po1
    have hF : F Dd = none := by
      cases e : F Dd with
      | none => rfl
      | some o => rw [(rh1.fr Dd o e).1] at hD; cases hD
    rw [hw] at rs
    have rs1 := RelS.wipes (rs.mono g1) (own.map (·.2))
    refine ⟨fun i n H => ∃ acc eta Hb' m' us, RelH g (upd F Dd (.lst us)) Hb' m' eta H ∧ Gr Hb1 m1 Hb' m' ∧ VDs g Hb' m' acc us ∧ acc.length ≤ i ∧ i + n = ds.length ∧ Post g W (relD g) F σ Hb' m' (match goL t ct ce C (wipeR rho (own.map (·.2))) (ds.drop i) acc eta with | .ok acc e => .ok (.ref e.length) (e ++ [.lst acc]) | _ => .stuck) Q,
      ⟨ds.length, [], eta1, Hb1, m1, [], rh1.frNew hD, Gr.refl, rfl, Nat.le_refl _, by simp, by simpa using po1⟩, ?_⟩
    rintro i n H2 ⟨acc, eta2, Hb2, m2, us, rh2, g2, va, hai, hn, po2⟩
    by_cases hC : C eta2
    · obtain ⟨w1, w2⟩ := wk _ Hb2 m2 eta2 H2 rh2 g2 hC
      cases n with
      | zero =>
        refine .inl ⟨w2 i (by omega), ?_⟩
        have : ds.drop i = [] := List.drop_eq_nil_of_le (by omega)
        rw [this] at po2
        unfold goL at po2
        rw [if_pos hC] at po2
        obtain ⟨r3, g3, k3⟩ := rh2.take hF va
        exact po2 (.ref Dd) H2 _ _ r3 g3 k3
      | succ n =>
        have hl : i < ds.length := by omega
        obtain ⟨w3, w4⟩ := w1 i _ (List.getElem?_eq_getElem hl)
        rw [List.drop_eq_getElem_cons hl] at po2
        unfold goL at po2
        rw [if_pos hC] at po2
        refine .inr ⟨w3, fun H => ∃ acc eta Hb' m' us, RelH g (upd F Dd (.lst us)) Hb' m' eta H ∧ Gr Hb1 m1 Hb' m' ∧ VDs g Hb' m' acc us ∧ acc.length ≤ i + 1 ∧ (i + 1) + n = ds.length ∧ Post g W (relD g) F σ Hb' m' (match goL t ct ce C (wipeR rho (own.map (·.2))) (ds.drop (i + 1)) acc eta with | .ok acc e => .ok (.ref e.length) (e ++ [.lst acc]) | _ => .stuck) Q, fun H' h => ⟨n, Nat.lt_succ_self _, h⟩, fun x H' y => ?_⟩
        obtain ⟨Hb3, rh3, g3, vx⟩ := w4 x H' y
        have rs3 : RelS g Wn.xc Hb3 m2 (wipeR rho (own.map (·.2))) (L2.wipe σ (own.map (·.2))) := rs1.mono (g2.trans g3)
        revert po2
        cases ek : kT t ds[i] (wipeR rho (own.map (·.2))) with
        | none => exact fun z => z.elim
        | some r1 =>
          dsimp only
          intro po2
          have po3 := po2.grow g3
          refine ⟨ds[i], _, eta2, _, Hb3, m2, r1, rh3, rs3, vx, ek, fun σ4 rs4 w4 => ⟨by rw [w4 _ hsl]; exact wipe_wipe σ _, ?_⟩⟩
          refine ⟨r1, eta2, _, Hb3, m2, rh3, rs4, ?_⟩
          revert po3
          cases e1 : ct r1 eta2 with
          | ok b eta5 =>
            intro po3 b' H5 Hb5 m5 rh5 g5 eb
            obtain rfl : b = b' := eb
            cases b with
            | false => exact iteF ⟨acc, eta5, Hb5, m5, us, rh5, (g2.trans g3).trans g5, VDs.mono (g3.trans g5) _ _ va, by omega, by omega, po3.grow g5⟩
            | true =>
              refine iteT ⟨r1, eta5, _, Hb5, m5, rh5, rs4.mono g5, ?_⟩
              have po4 := po3.grow g5
              revert po4
              dsimp only
              cases e2 : ce r1 eta5 with
              | ok yv eta6 =>
                intro po4 v6 H6 Hb6 m6 rh6 g6 vy
                have hD6 := (rh6.fr Dd _ upd_same).1
                have gg := (g2.trans g3).trans (g5.trans g6)
                have va6 := VDs.mono ((g3.trans g5).trans g6) _ _ va
                refine ⟨us, hD6, ?_, acc ++ [yv], eta6, Hb6, m6, us ++ [v6], rh6.frSet, gg, va6.snoc vy, by simp; omega, by omega, po4.grow g6⟩
                rw [← va.length]
                have h1 := lineB_ok hlen
                have h1 : ds.length ≤ sizeLine := h1
                omega
              | exc x fs e => exact fun z => z.elim
              | stuck => exact fun z => z.elim
          | exc x fs e => exact fun z => z.elim
          | stuck => exact fun z => z.elim
    · exfalso
      revert po2
      cases ds.drop i with
      | nil => unfold goL; rw [if_neg hC]; exact fun z => z
      | cons d r => unfold goL; rw [if_neg hC]; exact fun z => z
  · exact fun z => z.elim
theorem d_lcN (z : Cz g X W k) (hw : W.xc = none) (ok : BlkOk X.N X.env.scope scope own) (hsl : ∀ i ∈ s1, i ∈ own.map (·.2)) (hi : PI X tg iter (tI g W ci)) (hg : InBlk X scope fun Y => PG Y tg (gD g Wn s1 (kT t))) (ht : InBlk X scope fun Y => PTs Y ifs (tB g Wn ct)) (he : InBlk X scope fun Y => PE Y elt (tD g Wn ce))
    (hs : ∀ x, foldedSetIterable iter X.env x = pure x := by intro _; rfl) : PE X (.ListComp elt [⟨tg, iter, ifs, 0⟩] scope pos) (tD g W (cLcN (own.map (·.2)) t ci ct ce)) :=
  pe_weak (pe_lc z.calm z.nd hi ok hg ht he hs) fun σ H Q h => lcN_run hw hsl h
theorem s_setLcN (i : Nat) {y : Str} {py spos : Pos} (z : Cz g X W k) (hw : W.xc = none) (ok : BlkOk X.N X.env.scope scope own) (hsl : ∀ i ∈ s1, i ∈ own.map (·.2)) (hi : PI X tg iter (tI g W ci)) (hg : InBlk X scope fun Y => PG Y tg (gD g Wn s1 (kT t))) (ht : InBlk X scope fun Y => PTs Y ifs (tB g Wn ct)) (he : InBlk X scope fun Y => PE Y elt (tD g Wn ce))
    (hy : X.N[i]? = some y := by rfl) (hyl : X.env.scope.names.lookup y = some .local := by rfl) (hsw : swapsWith (.ListComp elt [⟨tg, iter, ifs, 0⟩] scope pos) (some (.Name y py)) spos.line X.env = pure true := by exact sw_true rfl rfl rfl rfl)
    (hs : ∀ x, foldedSetIterable iter X.env x = pure x := by intro _; rfl) : PS X (.Assign [.Name y py] (.ListComp elt [⟨tg, iter, ifs, 0⟩] scope pos) spos) (tS g W (cSet i (cLcN (own.map (·.2)) t ci ct ce))) :=
  ps_weak (ps_setLc z.calm z.nd hy hyl hsw hi ok hg ht he hs) fun D σ H ⟨rho, eta, F, Hb, m, rh, rs, po⟩ =>
    lcN_run hw hsl ⟨rho, eta, F, Hb, m, rh, rs, PostS.bindE po rs fun d eta1 v H1 Hb1 m1 _ rh1 g1 rs1 vd po1 => po1 _ H1 Hb1 m1 rh1 (rs1.set i (fun q hq => by rw [hw] at hq; cases hq) vd) Gr.refl⟩
end
/-! ### o[lo:hi] = value, o an owned list, value an owned list -/
def putSl (eta : Eta) (o : D) (lo hi : Option Int) (d : D) : Option Eta := match o, d, lo, hi with
  | .ref a, .ref b, some i, some j => match eta[a]?, eta[b]? with
    | some (.lst xs), some (.lst ys) => if (!(a == b) && decide (0 ≤ i) && decide (i ≤ j) && decide (j ≤ xs.length) && decide (xs.length + ys.length ≤ lineB)) = true then some (eta.set a (.lst (xs.take i.toNat ++ ys ++ xs.drop j.toNat))) else none
    | _, _ => none
  | _, _, _, _ => none
def cPutSl (c co : CE) (l h : CO) : CS := sE (cb c fun d => cb co fun o => cb l fun lo => cb h fun hi _ eta => .ok (d, o, lo, hi) eta) fun (d, o, lo, hi) rho eta => match putSl eta o lo hi d with | some e => .nx rho e | none => .stuck
theorem putSl_ok {g : G} {F Hb : Hp} {m : List Addr} {eta eta' : Eta} {H : Hp} {o d : D} {lo hi : Option Int} {ov v : V} (rh : RelH g F Hb m eta H) (ho : VD g Hb m o ov) (hd : VD g Hb m d v) (e : putSl eta o lo hi d = some eta') : ∃ (l b : Addr) (xs ys : List V) (a c : Int), ov = .ref l ∧ v = .ref b ∧ lo = some a ∧ hi = some c ∧ H l = some (.lst xs) ∧ H b = some (.lst ys) ∧ l ≠ b ∧ 0 ≤ a ∧ a ≤ c ∧ c ≤ xs.length ∧ xs.length + ys.length ≤ sizeLine ∧
    RelH g F Hb m eta' (upd H l (.lst (xs.take a.toNat ++ ys ++ xs.drop c.toNat))) := by
  unfold putSl at e
  split at e
  · rename_i a b i j
    split at e
    · rename_i xs ys e1 e2
      split at e
      · rename_i hc
        simp only [Bool.and_eq_true, decide_eq_true_eq, Bool.not_eq_true', beq_eq_false_iff_ne] at hc
        obtain ⟨⟨⟨⟨h1, h2⟩, h3⟩, h4⟩, h5⟩ := hc
        cases e
        obtain ⟨p, rfl, hm⟩ := ho
        obtain ⟨p2, rfl, hm2⟩ := hd
        obtain ⟨vs, hv, kv⟩ := own_lst rh e1 hm
        obtain ⟨us, hu, ku⟩ := own_lst rh e2 hm2
        have ne : p ≠ p2 := fun z => by
          subst z
          have b1 := (List.getElem?_eq_some_iff.mp hm).1
          have q := (List.getElem?_inj b1 rh.nd).mp (hm.trans hm2.symm)
          exact h1 q
        refine ⟨p, p2, vs, us, i, j, rfl, rfl, rfl, rfl, hv, hu, ne, h2, h3, by rw [← kv.length]; exact h4, by rw [← kv.length, ← ku.length]; exact lineB_ok h5, rh.write hm ⟨_, upd_same, ?_⟩⟩
        exact ((kv.take _).append ku).append (kv.drop _)
      · cases e
    · cases e
  · cases e
section
variable {g : G} {W : WE} {X : Cx} {k : Nat} {e o : Expr} {lo hi : Option Expr} {pos pos' p2 : Pos} {c co : CE} {cl ch : CO}
theorem s_putSl (he : PE X e (tD g W c)) (ho : PE X o (tD g W co)) (hl : PO X lo (tO' g W cl)) (hh : PO X hi (tO' g W ch)) (hs : swapsWithSole [.Subscript o (.Slice lo hi none p2) pos'] e pos.line X.env = pure false := by rfl) (hw : swappedStores [.Subscript o (.Slice lo hi none p2) pos'] e X.env = pure none := by rfl)
    (h1 : (assignEach [.Subscript o (.Slice lo hi none p2) pos'] X.env).map (·.2) = [assign (.Subscript o (.Slice lo hi none p2) pos') X.env] := by rfl)
    (ha : ∀ v, assign (.Subscript o (.Slice lo hi none p2) pos') X.env v = (do
      let ov ← holding [v] (eval o X.env)
      let iv ← holding [v, ov] (eval (.Slice lo hi none p2) X.env)
      standAt pos'
      holding [v, ov, iv] (setItem ov iv v)
      release [iv, v, ov] []) := by intro _; rfl) : PS X (.Assign [.Subscript o (.Slice lo hi none p2) pos'] e pos) (tS g W (cPutSl c co cl ch)) :=
  ps_weak (ps_asg he (pg_subSl ho hl hh ha) hs hw h1) fun DD σ H ⟨rho, eta, F, Hb, m, rh, rs, po⟩ => by
    refine ⟨rho, eta, F, Hb, m, rh, rs, ?_⟩
    have p0 : Post g W (fun Hb m (x : D × D × Option Int × Option Int) (y : V × V × Option Int × Option Int) => VD g Hb m x.1 y.1 ∧ VD g Hb m x.2.1 y.2.1 ∧ x.2.2 = y.2.2) F σ Hb m ((cb c fun d => cb co fun o => cb cl fun lo => cb ch fun hi _ eta => .ok (d, o, lo, hi) eta) rho eta) (fun y H3 => rSetSl y.2.1 y.2.2.1 y.2.2.2 y.1 H3 fun H4 => DD.nx σ H4) :=
      PostS.bindE po rs fun x eta1 y H1 Hb1 m1 _ rh1 g1 rs1 vd po1 => by
        obtain ⟨d, o, l, h⟩ := x
        obtain ⟨v, ov, lv, hv⟩ := y
        obtain ⟨k1, k2, k3⟩ := vd
        cases k3
        revert po1
        show PostS g W F Hb1 m1 (match putSl eta1 o l h d with | some e => .nx rho e | none => .stuck) DD → _
        split
        · rename_i e1 ep
          intro po1
          obtain ⟨p, b, xs, ys, a, cc, e1, e2, e3, e4, h1, h2, h3, h4, h5, h6, h7, r4⟩ := putSl_ok rh1 k2 k1 ep
          exact ⟨p, b, xs, ys, a, cc, e1, e2, e3, e4, h1, h2, h3, h4, h5, h6, h7, po1 σ _ Hb1 m1 r4 rs1 Gr.refl⟩
        · exact fun z => z.elim
    refine Post.bind (Q := fun (y : V × V × Option Int × Option Int) H3 => rSetSl y.2.1 y.2.2.1 y.2.2.2 y.1 H3 fun H4 => DD.nx σ H4) p0 fun d eta1 v H1 Hb1 m1 _ rh1 g1 vd po1 => ⟨rho, eta1, F, Hb1, m1, rh1, rs.mono g1, Post.bind po1 fun o eta2 ov H2 Hb2 m2 _ rh2 g2 vo po2 => ⟨rho, eta2, F, Hb2, m2, rh2, (rs.mono g1).mono g2, Post.bind po2 fun l eta3 lv H3 Hb3 m3 _ rh3 g3 vl po3 => ⟨rho, eta3, F, Hb3, m3, rh3, ((rs.mono g1).mono g2).mono g3, Post.bind po3 fun h eta4 hv H4 Hb4 m4 _ rh4 g4 vh po4 => ?_⟩⟩⟩
    exact po4 (v, ov, lv, hv) H4 Hb4 m4 rh4 Gr.refl ⟨VD.mono ((g2.trans g3).trans g4) _ _ vd, VD.mono (g3.trans g4) _ _ vo, by rw [show l = lv from vl, show h = hv from vh]⟩
end
end Gh
namespace Gh
open PySem PySem.Spec PyProof.Rows L2
section
variable {g : G} {W : WE} {X : Cx} {a b e : Expr} {es : List Expr} {p pos : Pos} {ca cb' : CE} {cs : CA}
theorem su_d_plus (z : CzS g X) (ha : PE X a (tD g W ca)) (hb : PE X b (tD g W cb')) : PE X (.BinOp a .Add b pos) (tD g W (cOp fPlus ca cb')) :=
  d_op (op_add.or (op_add_str.or (op_catA.or op_catR))) (by rw [z.K]; exact opd_plus) ha hb
end
section
variable {α β : Type} {rho : Rho} {eta : Eta}
@[simp] theorem ev_rgl (tp : Bool) (c : CE) : cRgL tp c rho eta = (cb c fun d _ eta => match d with
  | .int n => if (decide (0 ≤ n) && decide (n ≤ 100000)) = true then .ok (if tp then .tup (rngD 0 n.toNat) else .lst (rngD 0 n.toNat)) eta else .stuck
  | _ => .stuck) rho eta := rfl
@[simp] theorem ev_lcN (own : List Nat) (t : Tgt) (ci : CI) (ct : CT) (ce : CE) : cLcN own t ci ct ce rho eta = (cb ci fun a rho eta => if a.1.length ≤ lineB then (match goL t ct ce a.2 (wipeR rho own) a.1 [] eta with | .ok acc e => .ok (.ref e.length) (e ++ [.lst acc]) | _ => .stuck) else .stuck) rho eta := rfl
@[simp] theorem ev_putSl (c co : CE) (l h : CO) : cPutSl c co l h rho eta = (sE (cb c fun d => cb co fun o => cb l fun lo => cb h fun hi _ eta => .ok (d, o, lo, hi) eta) fun (d, o, lo, hi) rho eta => match putSl eta o lo hi d with | some e => .nx rho e | none => .stuck) rho eta := rfl
end
end Gh
namespace K75
open PySem PySem.Spec PyProof.Rows L2 Gh
def top (i : Nat) : Stmt := PySem.Challenge.pw_grainhouse_k75_whole_moves_joined_and_se.main.body.getD i (.Pass ⟨0, 0, 0, 0⟩)
def tb_bool : List (Kd × Bool) := [(.non, false), (.bl, true), (.int, false), (.str, false), (.lst, false), (.tup, false)]
theorem tbk_bool (g : G) : TbOk g tb_bool [.type "bool"] := tb_ty tb_bool ["bool"] (by decide +kernel)
def tb_int : List (Kd × Bool) := [(.non, false), (.bl, true), (.int, true), (.str, false), (.lst, false), (.tup, false)]
theorem tbk_int (g : G) : TbOk g tb_int [.type "int"] := tb_ty tb_int ["int"] (by decide +kernel)
def tb_list_tuple : List (Kd × Bool) := [(.non, false), (.bl, false), (.int, false), (.str, false), (.lst, true), (.tup, true)]
theorem tbk_list_tuple (g : G) : TbOk g tb_list_tuple [.type "list", .type "tuple"] := tb_ty tb_list_tuple ["list", "tuple"] (by decide +kernel)
def tb_tuple : List (Kd × Bool) := [(.non, false), (.bl, false), (.int, false), (.str, false), (.lst, false), (.tup, true)]
theorem tbk_tuple (g : G) : TbOk g tb_tuple [.type "tuple"] := tb_ty tb_tuple ["tuple"] (by decide +kernel)
def mt_InvalidAnswers : List (Nat × Bool) := [(1, true), (2, false), (3, false), (4, false)]
def mt_InvalidMoves : List (Nat × Bool) := [(1, false), (2, false), (3, false), (4, true)]
abbrev st_is_list : Stmt := top 5
noncomputable def c_is_list : CS := cRet (cIsi tb_list_tuple (cVar 0))
noncomputable def R_is_list : Fd := bodyF 1 c_is_list
noncomputable def F_is_list : Fd := fz R_is_list
abbrev st_is_integer : Stmt := top 6
noncomputable def c_is_integer : CS := cRet (cAndV (cIsi tb_int (cVar 0)) (cNotV (cIsi tb_bool (cVar 0))))
noncomputable def R_is_integer : Fd := bodyF 1 c_is_integer
noncomputable def F_is_integer : Fd := fz R_is_integer
abbrev st_is_value : Stmt := top 7
noncomputable def c_is_value : CS := cRet (cFn 0 F_is_integer 1 0 (fun ds _ => ds) (cCons (cVar 0) (cNil)) (cNil))
noncomputable def R_is_value : Fd := bodyF 1 c_is_value
noncomputable def F_is_value : Fd := fz R_is_value
abbrev st_is_count : Stmt := top 8
noncomputable def c_is_count : CS := cRet (cAndV (cFn 0 F_is_integer 1 0 (fun ds _ => ds) (cCons (cVar 0) (cNil)) (cNil)) (cOp fGe (cVar 0) (cC (.int 0))))
noncomputable def R_is_count : Fd := bodyF 1 c_is_count
noncomputable def F_is_count : Fd := fz R_is_count
abbrev st_is_fraction : Stmt := top 10
noncomputable def c_is_fraction : CS := cSeq (cIfS (cOr (cNot (cTru (cIsi tb_tuple (cVar 0)))) (cBl (cOp fNe (cCall bLen (cCons (cVar 0) (cNil))) (cC (.int 2))))) (cRet (cC (.bl false))) (cSkip)) (cSeq (cAsg (.tup [(.nm 1), (.nm 2)]) (cVar 0)) (cRet (cAndV (cFn 0 F_is_value 1 0 (fun ds _ => ds) (cCons (cVar 1) (cNil)) (cNil)) (cAndV (cFn 0 F_is_value 1 0 (fun ds _ => ds) (cCons (cVar 2) (cNil)) (cNil)) (cAndV (cOp fGt (cVar 2) (cC (.int 0))) (cOp fEq (cCall bGcd (cCons (cVar 1) (cCons (cVar 2) (cNil)))) (cC (.int 1))))))))
noncomputable def R_is_fraction : Fd := bodyF 3 c_is_fraction
noncomputable def F_is_fraction : Fd := fz R_is_fraction
abbrev st_InvalidAnswers___init : Stmt := inClass (top 12) 0
abbrev st_InvalidAlarm___init : Stmt := inClass (top 13) 0
abbrev st_InvalidState___init : Stmt := inClass (top 14) 0
abbrev st_InvalidMoves___init : Stmt := inClass (top 15) 0
abbrev st_is_run : Stmt := top 18
noncomputable def c_is_run : CS := cRet (cAndV (cFn 0 F_is_count 1 0 (fun ds _ => ds) (cCons (cVar 0) (cNil)) (cNil)) (cChain fLe fLe (cC (.int 1)) (cVar 0) (cC (.int 9))))
noncomputable def R_is_run : Fd := bodyF 1 c_is_run
noncomputable def F_is_run : Fd := fz R_is_run
abbrev st_is_told_answer : Stmt := top 19
noncomputable def c_is_told_answer : CS := cRet (cOrV (cOp fIsN (cVar 0) (cC .non)) (cFn 0 F_is_fraction 1 0 (fun ds _ => ds) (cCons (cVar 0) (cNil)) (cNil)))
noncomputable def R_is_told_answer : Fd := bodyF 1 c_is_told_answer
noncomputable def F_is_told_answer : Fd := fz R_is_told_answer
abbrev st_check_answers : Stmt := top 20
noncomputable def c_check_answers : CS := cIfS (cOr (cNot (cTru (cFn 0 F_is_list 1 0 (fun ds _ => ds) (cCons (cVar 0) (cNil)) (cNil)))) (cNot (cTru (cCall bAll (cCons (cLc [1] (.nm 1) (cIt (cVar 0)) (cYes) (cFn 0 F_is_told_answer 1 0 (fun ds _ => ds) (cCons (cVar 1) (cNil)) (cNil))) (cNil)))))) (cRaise 1 1 [("given", 0)] (cCons (cVar 0) (cNil))) (cSkip)
noncomputable def R_check_answers : Fd := bodyF 2 c_check_answers
noncomputable def F_check_answers : Fd := fz R_check_answers
abbrev st_Alarm___init : Stmt := inClass (top 21) 0
noncomputable def c_Alarm___init : CS := cSeq (cIfS (cOr (cNot (cTru (cFn 0 F_is_integer 1 0 (fun ds _ => ds) (cCons (cVar 1) (cNil)) (cNil)))) (cOr (cNot (cTru (cFn 0 F_is_integer 1 0 (fun ds _ => ds) (cCons (cVar 2) (cNil)) (cNil)))) (cOr (cNot (cTru (cFn 0 F_is_run 1 0 (fun ds _ => ds) (cCons (cVar 3) (cNil)) (cNil)))) (cOr (cNot (cTru (cFn 0 F_is_run 1 0 (fun ds _ => ds) (cCons (cVar 4) (cNil)) (cNil)))) (cBl (cOp fGt (cVar 2) (cVar 1))))))) (cRaise 2 1 [("given", 0)] (cCons (cTup (cCons (cVar 1) (cCons (cVar 2) (cCons (cVar 3) (cCons (cVar 4) (cNil)))))) (cNil))) (cSkip)) (cSeq (cStF 0 "up" (cVar 1) (cVar 0)) (cSeq (cStF 0 "down" (cVar 2) (cVar 0)) (cSeq (cStF 0 "rise" (cVar 3) (cVar 0)) (cStF 0 "fall" (cVar 4) (cVar 0)))))
noncomputable def R_Alarm___init : Fd := bodyF 5 c_Alarm___init
noncomputable def F_Alarm___init : Fd := fz R_Alarm___init
abbrev st_Alarm_size : Stmt := inClass (top 21) 2
noncomputable def c_Alarm_size : CS := cRet (cOp fPlus (cFld 0 "rise" (cVar 0)) (cFld 0 "fall" (cVar 0)))
noncomputable def R_Alarm_size : Fd := bodyF 1 c_Alarm_size
noncomputable def F_Alarm_size : Fd := fz R_Alarm_size
abbrev st_Alarm__next : Stmt := inClass (top 21) 5
noncomputable def c_Alarm__next : CS := cSeq (cIfS (cBl (cOp fLt (cVar 1) (cFld 0 "rise" (cVar 0)))) (cSeq (cSet 3 (cAndV (cOp fNotN (cVar 2) (cC .non)) (cOp fGe (cOp fIx (cVar 2) (cC (.int 0))) (cOp fMul (cFld 0 "up" (cVar 0)) (cOp fIx (cVar 2) (cC (.int 1))))))) (cRet (cIf (cTru (cVar 3)) (cOp fPlus (cVar 1) (cC (.int 1))) (cC (.int 0))))) (cSkip)) (cSeq (cSet 4 (cAndV (cOp fNotN (cVar 2) (cC .non)) (cOp fLt (cOp fIx (cVar 2) (cC (.int 0))) (cOp fMul (cFld 0 "down" (cVar 0)) (cOp fIx (cVar 2) (cC (.int 1))))))) (cRet (cIf (cTru (cVar 4)) (cOp fMod (cOp fPlus (cVar 1) (cC (.int 1))) (cMeth 0 "size" 0 F_Alarm_size 0 0 (fun ds _ => ds) (cVar 0) (cNil) (cNil))) (cFld 0 "rise" (cVar 0)))))
noncomputable def R_Alarm__next : Fd := bodyF 5 c_Alarm__next
noncomputable def F_Alarm__next : Fd := fz R_Alarm__next
abbrev st_Alarm_moves : Stmt := inClass (top 21) 7
noncomputable def c_Alarm_moves : CS := cSeq (cDrop (cFn 0 F_check_answers 1 0 (fun ds _ => ds) (cCons (cVar 1) (cNil)) (cNil))) (cSeq (cSet 2 (cRgL false (cMeth 0 "size" 0 F_Alarm_size 0 0 (fun ds _ => ds) (cVar 0) (cNil) (cNil)))) (cSeq (cFor (.nm 3) (cIt (cVar 1)) (cSet 2 (cLc [4] (.nm 4) (cIt (cVar 2)) (cYes) (cMeth 0 "_next" 0 F_Alarm__next 2 0 (fun ds _ => ds) (cVar 0) (cCons (cVar 4) (cCons (cVar 3) (cNil))) (cNil))))) (cRet (cCall bTuple (cCons (cVar 2) (cNil))))))
noncomputable def R_Alarm_moves : Fd := bodyF 5 c_Alarm_moves
noncomputable def F_Alarm_moves : Fd := fz R_Alarm_moves
abbrev st_are_moves : Stmt := top 22
noncomputable def c_are_moves : CS := cSeq (cIfS (cOr (cNot (cTru (cIsi tb_tuple (cVar 0)))) (cBl (cOp fEq (cCall bLen (cCons (cVar 0) (cNil))) (cC (.int 0))))) (cRet (cC (.bl false))) (cSkip)) (cRet (cCall bAll (cCons (cLc [1] (.nm 1) (cIt (cVar 0)) (cYes) (cAndV (cFn 0 F_is_count 1 0 (fun ds _ => ds) (cCons (cVar 1) (cNil)) (cNil)) (cOp fLt (cVar 1) (cCall bLen (cCons (cVar 0) (cNil)))))) (cNil))))
noncomputable def R_are_moves : Fd := bodyF 2 c_are_moves
noncomputable def F_are_moves : Fd := fz R_are_moves
abbrev st_then : Stmt := top 23
noncomputable def c_then : CS := cSeq (cIfS (cOr (cNot (cTru (cFn 0 F_are_moves 1 0 (fun ds _ => ds) (cCons (cVar 0) (cNil)) (cNil)))) (cOr (cNot (cTru (cFn 0 F_are_moves 1 0 (fun ds _ => ds) (cCons (cVar 1) (cNil)) (cNil)))) (cBl (cOp fNe (cCall bLen (cCons (cVar 0) (cNil))) (cCall bLen (cCons (cVar 1) (cNil))))))) (cRaise 4 1 [("given", 0)] (cCons (cTup (cCons (cVar 0) (cCons (cVar 1) (cNil)))) (cNil))) (cSkip)) (cRet (cCall bTuple (cCons (cLc [2] (.nm 2) (cIt (cVar 0)) (cYes) (cOp fIx (cVar 1) (cVar 2))) (cNil))))
noncomputable def R_then : Fd := bodyF 3 c_then
noncomputable def F_then : Fd := fz R_then
abbrev st_possible : Stmt := top 24
noncomputable def c_possible : CS := cSeq (cIfS (cNot (cTru (cFn 0 F_are_moves 1 0 (fun ds _ => ds) (cCons (cVar 0) (cNil)) (cNil)))) (cRaise 4 1 [("given", 0)] (cCons (cVar 0) (cNil))) (cSkip)) (cRet (cCall bSortSet (cCons (cVar 0) (cNil))))
noncomputable def R_possible : Fd := bodyF 1 c_possible
noncomputable def F_possible : Fd := fz R_possible
abbrev st_settled : Stmt := top 25
noncomputable def c_settled : CS := cSeq (cSet 1 (cFn 0 F_possible 1 0 (fun ds _ => ds) (cCons (cVar 0) (cNil)) (cNil))) (cRet (cIf (cBl (cOp fEq (cCall bLen (cCons (cVar 1) (cNil))) (cC (.int 1)))) (cOp fIx (cVar 1) (cC (.int 0))) (cC .non)))
noncomputable def R_settled : Fd := bodyF 2 c_settled
noncomputable def F_settled : Fd := fz R_settled
abbrev st_law_cell : Stmt := top 27
noncomputable def c_law_cell (ns : List Int) : CS := cRet (cIf (cBl (cOp fLt (cVar 1) (cC (.int ns.length)))) (cPix ns (cVar 1)) (cOp fPlus (cOp fMul (cC (.int 6007)) (cVar 1)) (cOp fMod (cCall bSum (cCons (cPsl ns (cNo) (cSo (cC (.int 1)))) (cNil))) (cC (.int 1000033)))))
noncomputable def P_law_cell : Fp := bodyP 2 c_law_cell
abbrev st_law_box : Stmt := top 28
noncomputable def c_law_box : CS := cRet (cNew (cCons (cCall bAbs (cCons (cVar 0) (cNil))) (cCons (cOp fGe (cCall bAbs (cCons (cVar 0) (cNil))) (cOp fPow (cC (.int 10)) (cC (.int 18)))) (cCons (cOp fMod (cCall bInt (cCons (cCall bAbs (cCons (cVar 0) (cNil))) (cNil))) (cC (.int 2147483629))) (cCons (cC (.int 0)) (cNil))))))
noncomputable def R_law_box : Fd := bodyF 1 c_law_box
noncomputable def F_law_box : Fd := fz R_law_box
abbrev st_law_take : Stmt := top 29
noncomputable def c_law_take : CS := cSeq (cIfS (cAnd (cTru (cOp fIx (cVar 0) (cC (.int 1)))) (cBl (cOp fGt (cOp fIx (cVar 0) (cC (.int 0))) (cC (.int 0))))) (cSeq (cSet 2 (cOp fMod (cCall bInt (cCons (cOp fIx (cVar 0) (cC (.int 0))) (cNil))) (cVar 1))) (cSeq (cPut (cOp fDivW (cOp fIx (cVar 0) (cC (.int 0))) (cVar 1)) (cVar 0) (cC (.int 0))) (cRet (cVar 2)))) (cSkip)) (cSeq (cPut (cOp fPlus (cOp fIx (cVar 0) (cC (.int 3))) (cC (.int 1))) (cVar 0) (cC (.int 3))) (cSeq (cSet 3 (cOp fMod (cCall bInt (cCons (cOp fPow (cOp fPlus (cOp fPlus (cOp fIx (cVar 0) (cC (.int 2))) (cOp fMul (cC (.int 15485863)) (cOp fIx (cVar 0) (cC (.int 3))))) (cC (.int 179424673))) (cC (.int 5))) (cNil))) (cC (.int 2147483647)))) (cRet (cOp fMod (cOp fDivW (cOp fMod (cCall bInt (cCons (cOp fPow (cOp fPlus (cOp fMul (cVar 3) (cC (.int 48271))) (cOp fMul (cC (.int 104729)) (cOp fIx (cVar 0) (cC (.int 3))))) (cC (.int 3))) (cNil))) (cC (.int 2147483587))) (cC (.int 64))) (cVar 1)))))
noncomputable def R_law_take : Fd := bodyF 4 c_law_take
noncomputable def F_law_take : Fd := fz R_law_take
abbrev st_law_alarm : Stmt := top 30
noncomputable def c_law_alarm : CS := cSeq (cSet 1 (cOp fIx (cLst (cCons (cC (.int 0)) (cCons (cC (.int 5)) (cCons (cUn fNeg (cC (.int 3))) (cCons (cOp fPow (cC (.int 10)) (cC (.int 11))) (cCons (cC (.int 1)) (cNil))))))) (cFn 1 F_law_take 2 0 (fun ds _ => ds) (cCons (cVar 0) (cCons (cC (.int 5)) (cNil))) (cNil)))) (cRet (cTup (cCons (cVar 1) (cCons (cOp fSub (cVar 1) (cOp fIx (cLst (cCons (cC (.int 0)) (cCons (cC (.int 1)) (cCons (cC (.int 2)) (cCons (cC (.int 7)) (cCons (cOp fPow (cC (.int 10)) (cC (.int 11))) (cNil))))))) (cFn 1 F_law_take 2 0 (fun ds _ => ds) (cCons (cVar 0) (cCons (cC (.int 5)) (cNil))) (cNil)))) (cCons (cOp fPlus (cC (.int 1)) (cFn 1 F_law_take 2 0 (fun ds _ => ds) (cCons (cVar 0) (cCons (cOp fIx (cLst (cCons (cC (.int 3)) (cCons (cC (.int 9)) (cNil)))) (cFn 1 F_law_take 2 0 (fun ds _ => ds) (cCons (cVar 0) (cCons (cC (.int 2)) (cNil))) (cNil))) (cNil))) (cNil))) (cCons (cOp fPlus (cC (.int 1)) (cFn 1 F_law_take 2 0 (fun ds _ => ds) (cCons (cVar 0) (cCons (cOp fIx (cLst (cCons (cC (.int 3)) (cCons (cC (.int 9)) (cNil)))) (cFn 1 F_law_take 2 0 (fun ds _ => ds) (cCons (cVar 0) (cCons (cC (.int 2)) (cNil))) (cNil))) (cNil))) (cNil))) (cNil)))))))
noncomputable def R_law_alarm : Fd := bodyF 2 c_law_alarm
noncomputable def F_law_alarm : Fd := fz R_law_alarm
abbrev st_law_one : Stmt := top 31
noncomputable def c_law_one : CS := cSeq (cSet 4 (cOp fPlus (cC (.int 2)) (cFn 1 F_law_take 2 0 (fun ds _ => ds) (cCons (cVar 0) (cCons (cC (.int 5)) (cNil))) (cNil)))) (cSeq (cIfS (cBl (cOp fEq (cVar 3) (cC (.int 0)))) (cRet (cOp fIx (cLst (cCons (cTup (cCons (cVar 1) (cCons (cC (.int 1)) (cNil)))) (cCons (cTup (cCons (cOp fPlus (cVar 1) (cC (.int 1))) (cCons (cC (.int 1)) (cNil)))) (cCons (cTup (cCons (cOp fPlus (cOp fMul (cVar 1) (cVar 4)) (cC (.int 1))) (cCons (cVar 4) (cNil)))) (cCons (cTup (cCons (cOp fPlus (cVar 1) (cOp fPow (cC (.int 10)) (cC (.int 9)))) (cCons (cC (.int 1)) (cNil)))) (cNil)))))) (cFn 1 F_law_take 2 0 (fun ds _ => ds) (cCons (cVar 0) (cCons (cC (.int 4)) (cNil))) (cNil)))) (cSkip)) (cSeq (cIfS (cBl (cOp fEq (cVar 3) (cC (.int 1)))) (cRet (cOp fIx (cLst (cCons (cTup (cCons (cOp fSub (cVar 2) (cC (.int 1))) (cCons (cC (.int 1)) (cNil)))) (cCons (cTup (cCons (cOp fSub (cOp fMul (cVar 2) (cVar 4)) (cC (.int 1))) (cCons (cVar 4) (cNil)))) (cCons (cTup (cCons (cOp fSub (cVar 2) (cOp fPow (cC (.int 10)) (cC (.int 9)))) (cCons (cC (.int 1)) (cNil)))) (cNil))))) (cFn 1 F_law_take 2 0 (fun ds _ => ds) (cCons (cVar 0) (cCons (cC (.int 3)) (cNil))) (cNil)))) (cSkip)) (cSeq (cIfS (cAnd (cBl (cOp fEq (cVar 3) (cC (.int 2)))) (cBl (cOp fGt (cVar 1) (cVar 2)))) (cRet (cOp fIx (cLst (cCons (cTup (cCons (cVar 2) (cCons (cC (.int 1)) (cNil)))) (cCons (cTup (cCons (cOp fPlus (cOp fMul (cVar 2) (cVar 4)) (cC (.int 1))) (cCons (cVar 4) (cNil)))) (cCons (cTup (cCons (cOp fSub (cOp fMul (cVar 1) (cVar 4)) (cC (.int 1))) (cCons (cVar 4) (cNil)))) (cNil))))) (cFn 1 F_law_take 2 0 (fun ds _ => ds) (cCons (cVar 0) (cCons (cC (.int 3)) (cNil))) (cNil)))) (cSkip)) (cRet (cC .non)))))
noncomputable def R_law_one : Fd := bodyF 5 c_law_one
noncomputable def F_law_one : Fd := fz R_law_one
abbrev st_law_lowest : Stmt := top 32
noncomputable def c_law_lowest : CS := cSeq (cIfS (cBl (cOp fIsN (cVar 0) (cC .non))) (cRet (cC .non)) (cSkip)) (cSeq (cPar 1 2 (cCons (cCall bAbs (cCons (cOp fIx (cVar 0) (cC (.int 0))) (cNil))) (cCons (cOp fIx (cVar 0) (cC (.int 1))) (cNil)))) (cSeq (cWhile (cBl (cOp fNe (cVar 2) (cC (.int 0)))) (cPar 1 2 (cCons (cVar 2) (cCons (cOp fMod (cCall bInt (cCons (cVar 1) (cNil))) (cVar 2)) (cNil))))) (cRet (cTup (cCons (cOp fDivW (cOp fIx (cVar 0) (cC (.int 0))) (cVar 1)) (cCons (cOp fDivW (cOp fIx (cVar 0) (cC (.int 1))) (cVar 1)) (cNil)))))))
noncomputable def R_law_lowest : Fd := bodyF 3 c_law_lowest
noncomputable def F_law_lowest : Fd := fz R_law_lowest
abbrev st_law_is_high : Stmt := top 34
noncomputable def c_law_is_high : CS := cRet (cAndV (cOp fNotN (cVar 0) (cC .non)) (cOp fGe (cOp fIx (cVar 0) (cC (.int 0))) (cOp fMul (cVar 1) (cOp fIx (cVar 0) (cC (.int 1))))))
noncomputable def R_law_is_high : Fd := bodyF 2 c_law_is_high
noncomputable def F_law_is_high : Fd := fz R_law_is_high
abbrev st_law_is_low : Stmt := top 35
noncomputable def c_law_is_low : CS := cRet (cAndV (cOp fNotN (cVar 0) (cC .non)) (cOp fLt (cOp fIx (cVar 0) (cC (.int 0))) (cOp fMul (cVar 1) (cOp fIx (cVar 0) (cC (.int 1))))))
noncomputable def R_law_is_low : Fd := bodyF 2 c_law_is_low
noncomputable def F_law_is_low : Fd := fz R_law_is_low
abbrev st_law_states : Stmt := top 36
noncomputable def c_law_states : CS := cSeq (cAsg (.tup [(.nm 3), (.nm 4), (.nm 5), (.nm 6)]) (cVar 0)) (cSeq (cPar3 7 8 9 (cCons (cOp fGe (cVar 2) (cVar 5)) (cCons (cOp fSub (cVar 2) (cIf (cBl (cOp fGe (cVar 2) (cVar 5))) (cVar 5) (cC (.int 0)))) (cCons (cNew (cNil)) (cNil))))) (cSeq (cFor (.nm 10) (cIt (cVar 1)) (cSeq (cIfS (cTru (cVar 7)) (cSeq (cSet 8 (cIf (cTru (cFn 0 F_law_is_low 2 0 (fun ds _ => ds) (cCons (cVar 10) (cCons (cVar 4) (cNil))) (cNil))) (cOp fPlus (cVar 8) (cC (.int 1))) (cC (.int 0)))) (cIfS (cBl (cOp fEq (cVar 8) (cVar 6))) (cAsg (.tup [(.nm 7), (.nm 8)]) (cTup (cCons (cC (.bl false)) (cCons (cC (.int 0)) (cNil))))) (cSkip))) (cSeq (cSet 8 (cIf (cTru (cFn 0 F_law_is_high 2 0 (fun ds _ => ds) (cCons (cVar 10) (cCons (cVar 3) (cNil))) (cNil))) (cOp fPlus (cVar 8) (cC (.int 1))) (cC (.int 0)))) (cIfS (cBl (cOp fEq (cVar 8) (cVar 5))) (cAsg (.tup [(.nm 7), (.nm 8)]) (cTup (cCons (cC (.bl true)) (cCons (cC (.int 0)) (cNil))))) (cSkip)))) (cDrop (cMt mApp (cVar 9) (cCons (cOp fPlus (cVar 8) (cIf (cTru (cVar 7)) (cVar 5) (cC (.int 0)))) (cNil)))))) (cRet (cVar 9))))
noncomputable def R_law_states : Fd := bodyF 11 c_law_states
noncomputable def F_law_states : Fd := fz R_law_states
abbrev st_law_runs_in : Stmt := top 37
noncomputable def c_law_runs_in : CS := cSeq (cAsg (.tup [(.nm 1), (.nm 2)]) (cTup (cCons (cC (.int 0)) (cCons (cC (.int 0)) (cNil))))) (cSeq (cFor (.nm 3) (cIt (cVar 0)) (cSeq (cSet 2 (cIf (cTru (cVar 3)) (cOp fPlus (cVar 2) (cC (.int 1))) (cC (.int 0)))) (cSet 1 (cCall bMax2 (cCons (cVar 1) (cCons (cVar 2) (cNil))))))) (cRet (cVar 1)))
noncomputable def R_law_runs_in : Fd := bodyF 4 c_law_runs_in
noncomputable def F_law_runs_in : Fd := fz R_law_runs_in
abbrev st_law_row : Stmt := top 38
noncomputable def c_law_row : CS := cSeq (cAsg (.tup [(.nm 2), (.nm 3), (.nm 4), (.nm 5)]) (cVar 1)) (cSeq (cSet 6 (cLst (cNil))) (cSeq (cFor (.nm 7) (cRg rg1 (cCons (cFn 1 F_law_take 2 0 (fun ds _ => ds) (cCons (cVar 0) (cCons (cC (.int 6)) (cNil))) (cNil)) (cNil))) (cSeq (cSet 8 (cFn 1 F_law_take 2 0 (fun ds _ => ds) (cCons (cVar 0) (cCons (cC (.int 4)) (cNil))) (cNil))) (cSeq (cSet 9 (cIf (cBl (cOp fEq (cVar 8) (cC (.int 0)))) (cOp fIx (cLst (cCons (cVar 4) (cCons (cOp fSub (cVar 4) (cC (.int 1))) (cCons (cC (.int 1)) (cNil))))) (cFn 1 F_law_take 2 0 (fun ds _ => ds) (cCons (cVar 0) (cCons (cC (.int 3)) (cNil))) (cNil))) (cOp fIx (cLst (cCons (cVar 5) (cCons (cOp fSub (cVar 5) (cC (.int 1))) (cCons (cC (.int 1)) (cNil))))) (cFn 1 F_law_take 2 0 (fun ds _ => ds) (cCons (cVar 0) (cCons (cC (.int 3)) (cNil))) (cNil))))) (cSet 6 (cOp fPlus (cVar 6) (cLc [10] (.nm 10) (cRg rg1 (cCons (cVar 9) (cNil))) (cYes) (cFn 0 F_law_lowest 1 0 (fun ds _ => ds) (cCons (cFn 1 F_law_one 4 0 (fun ds _ => ds) (cCons (cVar 0) (cCons (cVar 2) (cCons (cVar 3) (cCons (cVar 8) (cNil))))) (cNil)) (cNil)) (cNil)))))))) (cRet (cSl (cVar 6) (cNo) (cSo (cC (.int 30)))))))
noncomputable def R_law_row : Fd := bodyF 11 c_law_row
noncomputable def F_law_row : Fd := fz R_law_row
abbrev st_law_moves : Stmt := top 39
noncomputable def c_law_moves : CS := cSeq (cSet 2 (cNew (cNil))) (cSeq (cFor (.nm 3) (cRg rg1 (cCons (cOp fPlus (cOp fIx (cVar 0) (cC (.int 2))) (cOp fIx (cVar 0) (cC (.int 3)))) (cNil))) (cSeq (cSet 4 (cFn 0 F_law_states 3 0 (fun ds _ => ds) (cCons (cVar 0) (cCons (cVar 1) (cCons (cVar 3) (cNil)))) (cNil))) (cDrop (cMt mApp (cVar 2) (cCons (cIf (cBl (cOp fNe (cVar 4) (cLst (cNil)))) (cOp fIx (cVar 4) (cUn fNeg (cC (.int 1)))) (cVar 3)) (cNil)))))) (cRet (cCall bTuple (cCons (cVar 2) (cNil)))))
noncomputable def R_law_moves : Fd := bodyF 5 c_law_moves
noncomputable def F_law_moves : Fd := fz R_law_moves
abbrev st_law_put_together : Stmt := top 40
noncomputable def c_law_put_together : CS := cSeq (cSet 4 (cCall bSorted (cCons (cOp fPlus (cLst (cCons (cC (.int 0)) (cCons (cCall bLen (cCons (cVar 2) (cNil))) (cNil)))) (cLc [7] (.nm 7) (cRg rg1 (cCons (cFn 1 F_law_take 2 0 (fun ds _ => ds) (cCons (cVar 0) (cCons (cC (.int 5)) (cNil))) (cNil)) (cNil))) (cYes) (cFn 1 F_law_take 2 0 (fun ds _ => ds) (cCons (cVar 0) (cCons (cOp fPlus (cCall bLen (cCons (cVar 2) (cNil))) (cC (.int 1))) (cNil))) (cNil)))) (cNil)))) (cSeq (cSet 5 (cLcN [8] (.nm 8) (cRg rg2 (cCons (cC (.int 1)) (cCons (cCall bLen (cCons (cVar 4) (cNil))) (cNil)))) (cYes) (cMeth 0 "moves" 0 F_Alarm_moves 1 0 (fun ds _ => ds) (cVar 1) (cCons (cSl (cVar 2) (cSo (cOp fIx (cVar 4) (cOp fSub (cVar 8) (cC (.int 1))))) (cSo (cOp fIx (cVar 4) (cVar 8)))) (cNil)) (cNil)))) (cSeq (cWhile (cBl (cOp fGt (cCall bLen (cCons (cVar 5) (cNil))) (cC (.int 1)))) (cFr (cSeq (cSet 6 (cFn 1 F_law_take 2 0 (fun ds _ => ds) (cCons (cVar 0) (cCons (cOp fSub (cCall bLen (cCons (cVar 5) (cNil))) (cC (.int 1))) (cNil))) (cNil))) (cPutSl (cNew (cCons (cFn 0 F_then 2 0 (fun ds _ => ds) (cCons (cOp fIx (cVar 5) (cVar 6)) (cCons (cOp fIx (cVar 5) (cOp fPlus (cVar 6) (cC (.int 1)))) (cNil))) (cNil)) (cNil))) (cVar 5) (cSo (cVar 6)) (cSo (cOp fPlus (cVar 6) (cC (.int 2)))))))) (cRet (cOp fIx (cVar 5) (cC (.int 0))))))
noncomputable def R_law_put_together : Fd := bodyF 9 c_law_put_together
noncomputable def F_law_put_together : Fd := fz R_law_put_together
abbrev st_law_row_right : Stmt := top 41
noncomputable def c_law_row_right : CS := cSeq (cAsg (.tup [(.nm 4), (.nm 5), (.nm 6), (.nm 7)]) (cVar 2)) (cSeq (cPar 8 9 (cCons (cFn 0 F_law_moves 2 0 (fun ds _ => ds) (cCons (cVar 2) (cCons (cVar 3) (cNil))) (cNil)) (cCons (cCall bList (cCons (cVar 3) (cNil))) (cNil)))) (cSeq (cSet 10 (cMeth 0 "moves" 0 F_Alarm_moves 1 0 (fun ds _ => ds) (cVar 1) (cCons (cVar 9) (cNil)) (cNil))) (cSeq (cIfS (cOr (cBl (cOp fNe (cCall bRepr (cCons (cVar 10) (cNil))) (cCall bRepr (cCons (cVar 8) (cNil))))) (cOr (cBl (cOp fNe (cCall bRepr (cCons (cMeth 0 "moves" 0 F_Alarm_moves 0 1 (fun ds es => pickP [(0, 0), (1, 0)] ds [] es) (cVar 1) (cNil) (cCons (cCall bTuple (cCons (cVar 9) (cNil))) (cNil))) (cNil))) (cCall bRepr (cCons (cVar 8) (cNil))))) (cBl (cOp fNe (cVar 9) (cVar 3))))) (cRet (cC (.bl false))) (cSkip)) (cSeq (cIfS (cBl (cOp fNe (cCall bRepr (cCons (cFn 1 F_law_put_together 4 0 (fun ds _ => ds) (cCons (cVar 0) (cCons (cVar 1) (cCons (cVar 3) (cCons (cVar 2) (cNil))))) (cNil)) (cNil))) (cCall bRepr (cCons (cVar 8) (cNil))))) (cRet (cC (.bl false))) (cSkip)) (cSeq (cSet 11 (cMeth 0 "moves" 0 F_Alarm_moves 1 0 (fun ds _ => ds) (cVar 1) (cCons (cLst (cNil)) (cNil)) (cNil))) (cSeq (cIfS (cOr (cBl (cOp fNe (cCall bRepr (cCons (cVar 11) (cNil))) (cCall bRepr (cCons (cRgL true (cOp fPlus (cVar 6) (cVar 7))) (cNil))))) (cBl (cOp fNe (cCall bRepr (cCons (cLst (cCons (cFn 0 F_then 2 0 (fun ds _ => ds) (cCons (cVar 11) (cCons (cVar 8) (cNil))) (cNil)) (cCons (cFn 0 F_then 2 0 (fun ds _ => ds) (cCons (cVar 8) (cCons (cVar 11) (cNil))) (cNil)) (cNil)))) (cNil))) (cCall bRepr (cCons (cLst (cCons (cVar 8) (cCons (cVar 8) (cNil)))) (cNil)))))) (cRet (cC (.bl false))) (cSkip)) (cSeq (cSet 12 (cCall bSortSet (cCons (cVar 8) (cNil)))) (cSeq (cIfS (cOr (cBl (cOp fNe (cCall bRepr (cCons (cFn 0 F_possible 1 0 (fun ds _ => ds) (cCons (cVar 10) (cNil)) (cNil)) (cNil))) (cCall bRepr (cCons (cVar 12) (cNil))))) (cBl (cOp fNe (cCall bRepr (cCons (cFn 0 F_settled 1 0 (fun ds _ => ds) (cCons (cVar 10) (cNil)) (cNil)) (cNil))) (cCall bRepr (cCons (cIf (cBl (cOp fEq (cCall bLen (cCons (cVar 12) (cNil))) (cC (.int 1)))) (cOp fIx (cVar 12) (cC (.int 0))) (cC .non)) (cNil)))))) (cRet (cC (.bl false))) (cSkip)) (cSeq (cSet 13 (cFn 0 F_law_runs_in 1 0 (fun ds _ => ds) (cCons (cLc [15] (.nm 15) (cIt (cVar 3)) (cYes) (cFn 0 F_law_is_high 2 0 (fun ds _ => ds) (cCons (cVar 15) (cCons (cVar 4) (cNil))) (cNil))) (cNil)) (cNil))) (cSeq (cSet 14 (cFn 0 F_law_runs_in 1 0 (fun ds _ => ds) (cCons (cLc [15] (.nm 15) (cIt (cVar 3)) (cYes) (cFn 0 F_law_is_low 2 0 (fun ds _ => ds) (cCons (cVar 15) (cCons (cVar 5) (cNil))) (cNil))) (cNil)) (cNil))) (cRet (cOp fEq (cOp fNotN (cFn 0 F_settled 1 0 (fun ds _ => ds) (cCons (cVar 10) (cNil)) (cNil)) (cC .non)) (cOrV (cOp fGe (cVar 13) (cVar 6)) (cOp fGe (cVar 14) (cVar 7)))))))))))))))
noncomputable def R_law_row_right : Fd := bodyF 16 c_law_row_right
noncomputable def F_law_row_right : Fd := fz R_law_row_right
abbrev st_law_refused : Stmt := top 42
noncomputable def c_law_refused : CS := cSeq (cTry (cDrop (cFn 0 F_then 2 0 (fun ds _ => ds) (cCons (cVar 0) (cCons (cVar 1) (cNil))) (cNil))) [⟨mt_InvalidMoves, some 2, fun _ fs => cRet (cOp fEq (cCall bRepr (cCons (cXa "given" fs) (cNil))) (cCall bRepr (cCons (cTup (cCons (cVar 0) (cCons (cVar 1) (cNil)))) (cNil))))⟩]) (cRet (cC (.bl false)))
noncomputable def R_law_refused : Fd := bodyF 3 c_law_refused
noncomputable def F_law_refused : Fd := fz R_law_refused
abbrev st_law_not_moves : Stmt := top 43
noncomputable def c_law_not_moves : CS := cSeq (cSet 1 (cC (.int 0))) (cSeq (cTry (cDrop (cFn 0 F_possible 1 0 (fun ds _ => ds) (cCons (cVar 0) (cNil)) (cNil))) [⟨mt_InvalidMoves, some 2, fun _ fs => cSet 1 (cOp fPlus (cVar 1) (cCall bInt (cCons (cOp fEq (cCall bRepr (cCons (cXa "given" fs) (cNil))) (cCall bRepr (cCons (cVar 0) (cNil)))) (cNil))))⟩]) (cSeq (cTry (cDrop (cFn 0 F_settled 1 0 (fun ds _ => ds) (cCons (cVar 0) (cNil)) (cNil))) [⟨mt_InvalidMoves, some 2, fun _ fs => cSet 1 (cOp fPlus (cVar 1) (cCall bInt (cCons (cOp fEq (cCall bRepr (cCons (cXa "given" fs) (cNil))) (cCall bRepr (cCons (cVar 0) (cNil)))) (cNil))))⟩]) (cRet (cOp fEq (cVar 1) (cC (.int 2))))))
noncomputable def R_law_not_moves : Fd := bodyF 3 c_law_not_moves
noncomputable def F_law_not_moves : Fd := fz R_law_not_moves
abbrev st_law_by_hand_right : Stmt := top 44
noncomputable def c_law_by_hand_right : CS := cSeq (cSet 1 (cOp fPlus (cC (.int 1)) (cFn 1 F_law_take 2 0 (fun ds _ => ds) (cCons (cVar 0) (cCons (cC (.int 18)) (cNil))) (cNil)))) (cSeq (cAsg (.tup [(.nm 2), (.nm 3)]) (cTup (cCons (cCall bTuple (cCons (cLc [7] (.nm 7) (cRg rg1 (cCons (cVar 1) (cNil))) (cYes) (cFn 1 F_law_take 2 0 (fun ds _ => ds) (cCons (cVar 0) (cCons (cVar 1) (cNil))) (cNil))) (cNil))) (cCons (cCall bTuple (cCons (cLc [7] (.nm 7) (cRg rg1 (cCons (cVar 1) (cNil))) (cYes) (cFn 1 F_law_take 2 0 (fun ds _ => ds) (cCons (cVar 0) (cCons (cVar 1) (cNil))) (cNil))) (cNil))) (cNil))))) (cSeq (cIfS (cOr (cBl (cOp fNe (cCall bRepr (cCons (cFn 0 F_then 2 0 (fun ds _ => ds) (cCons (cVar 2) (cCons (cVar 3) (cNil))) (cNil)) (cNil))) (cCall bRepr (cCons (cCall bTuple (cCons (cLc [7] (.nm 7) (cRg rg1 (cCons (cVar 1) (cNil))) (cYes) (cOp fIx (cVar 3) (cOp fIx (cVar 2) (cVar 7)))) (cNil))) (cNil))))) (cBl (cOp fNe (cCall bRepr (cCons (cFn 0 F_then 0 2 (fun ds es => pickP [(1, 1), (1, 0)] ds [] es) (cNil) (cCons (cVar 2) (cCons (cVar 3) (cNil)))) (cNil))) (cCall bRepr (cCons (cCall bTuple (cCons (cLc [7] (.nm 7) (cRg rg1 (cCons (cVar 1) (cNil))) (cYes) (cOp fIx (cVar 2) (cOp fIx (cVar 3) (cVar 7)))) (cNil))) (cNil)))))) (cRet (cC (.bl false))) (cSkip)) (cSeq (cIfS (cOr (cBl (cOp fNe (cCall bRepr (cCons (cFn 0 F_possible 1 0 (fun ds _ => ds) (cCons (cVar 2) (cNil)) (cNil)) (cNil))) (cCall bRepr (cCons (cCall bSortSet (cCons (cVar 2) (cNil))) (cNil))))) (cBl (cOp fNe (cCall bRepr (cCons (cFn 0 F_settled 1 0 (fun ds _ => ds) (cCons (cOp fMulT (cTup (cCons (cOp fSub (cVar 1) (cC (.int 1))) (cNil))) (cVar 1)) (cNil)) (cNil)) (cNil))) (cCall bRepr (cCons (cOp fSub (cVar 1) (cC (.int 1))) (cNil)))))) (cRet (cC (.bl false))) (cSkip)) (cSeq (cIfS (cAnd (cBl (cOp fNotN (cFn 0 F_settled 1 0 (fun ds _ => ds) (cCons (cVar 2) (cNil)) (cNil)) (cC .non))) (cBl (cOp fNe (cCall bLen (cCons (cCall bSortSet (cCons (cVar 2) (cNil))) (cNil))) (cC (.int 1))))) (cRet (cC (.bl false))) (cSkip)) (cSeq (cPar 4 5 (cCons (cFn 1 F_law_take 2 0 (fun ds _ => ds) (cCons (cVar 0) (cCons (cVar 1) (cNil))) (cNil)) (cCons (cOp fPlus (cVar 2) (cTup (cCons (cC (.int 0)) (cNil)))) (cNil)))) (cSeq (cSet 6 (cLst (cCons (cOp fPlus (cOp fPlus (cSl (cVar 2) (cNo) (cSo (cVar 4))) (cTup (cCons (cVar 1) (cNil)))) (cSl (cVar 2) (cSo (cOp fPlus (cVar 4) (cC (.int 1)))) (cNo))) (cCons (cOp fPlus (cOp fPlus (cSl (cVar 2) (cNo) (cSo (cVar 4))) (cTup (cCons (cUn fNeg (cC (.int 1))) (cNil)))) (cSl (cVar 2) (cSo (cOp fPlus (cVar 4) (cC (.int 1)))) (cNo))) (cCons (cOp fPlus (cOp fPlus (cSl (cVar 2) (cNo) (cSo (cVar 4))) (cTup (cCons (cC .non) (cNil)))) (cSl (cVar 2) (cSo (cOp fPlus (cVar 4) (cC (.int 1)))) (cNo))) (cCons (cCall bList (cCons (cVar 2) (cNil))) (cNil))))))) (cSeq (cSet 6 (cOp fPlus (cVar 6) (cLst (cCons (cOp fPlus (cOp fPlus (cSl (cVar 2) (cNo) (cSo (cVar 4))) (cTup (cCons (cOp fEq (cOp fIx (cVar 2) (cVar 4)) (cC (.int 0))) (cNil)))) (cSl (cVar 2) (cSo (cOp fPlus (cVar 4) (cC (.int 1)))) (cNo))) (cCons (cTup (cNil)) (cCons (cC .non) (cCons (cC (.str "moves")) (cCons (cC (.int 3)) (cCons (cOp fPlus (cOp fPlus (cSl (cVar 2) (cNo) (cSo (cVar 4))) (cTup (cCons (cCall bStr (cCons (cOp fIx (cVar 2) (cVar 4)) (cNil))) (cNil)))) (cSl (cVar 2) (cSo (cOp fPlus (cVar 4) (cC (.int 1)))) (cNo))) (cNil)))))))))) (cSeq (cIfS (cBl (cOp fNe (cLc [8] (.nm 8) (cIt (cVar 6)) (cOr (cNot (cTru (cFn 0 F_law_not_moves 1 0 (fun ds _ => ds) (cCons (cVar 8) (cNil)) (cNil)))) (cOr (cNot (cTru (cFn 0 F_law_refused 2 0 (fun ds _ => ds) (cCons (cVar 8) (cCons (cVar 2) (cNil))) (cNil)))) (cNot (cTru (cFn 0 F_law_refused 2 0 (fun ds _ => ds) (cCons (cVar 2) (cCons (cVar 8) (cNil))) (cNil)))))) (cVar 8)) (cLst (cNil)))) (cRet (cC (.bl false))) (cSkip)) (cRet (cAndV (cFn 0 F_law_refused 2 0 (fun ds _ => ds) (cCons (cVar 2) (cCons (cVar 5) (cNil))) (cNil)) (cAndV (cFn 0 F_law_refused 2 0 (fun ds _ => ds) (cCons (cVar 5) (cCons (cVar 2) (cNil))) (cNil)) (cNotV (cFn 0 F_law_not_moves 1 0 (fun ds _ => ds) (cCons (cVar 2) (cNil)) (cNil))))))))))))))
noncomputable def R_law_by_hand_right : Fd := bodyF 9 c_law_by_hand_right
noncomputable def F_law_by_hand_right : Fd := fz R_law_by_hand_right
abbrev st_law_answers_refused : Stmt := top 45
noncomputable def c_law_answers_refused : CS := cSeq (cTry (cDrop (cMeth 0 "moves" 0 F_Alarm_moves 1 0 (fun ds _ => ds) (cVar 0) (cCons (cVar 1) (cNil)) (cNil))) [⟨mt_InvalidAnswers, some 2, fun _ fs => cRet (cOp fEq (cCall bRepr (cCons (cXa "given" fs) (cNil))) (cCall bRepr (cCons (cVar 1) (cNil))))⟩]) (cRet (cC (.bl false)))
noncomputable def R_law_answers_refused : Fd := bodyF 3 c_law_answers_refused
noncomputable def F_law_answers_refused : Fd := fz R_law_answers_refused
abbrev st_law_right : Stmt := top 46
noncomputable def c_law_right : CS := cSeq (cSet 1 (cFn 1 F_law_alarm 1 0 (fun ds _ => ds) (cCons (cVar 0) (cNil)) (cNil))) (cSeq (cSet 2 (cMake 0 0 F_Alarm___init 4 0 (fun ds es => pickP [(0, 0), (0, 1), (0, 2), (0, 3), (0, 4)] ds [.int 1, .int 1] es) (cCons (cOp fIx (cVar 1) (cC (.int 0))) (cCons (cOp fIx (cVar 1) (cC (.int 1))) (cCons (cOp fIx (cVar 1) (cC (.int 2))) (cCons (cOp fIx (cVar 1) (cC (.int 3))) (cNil))))) (cNil))) (cSeq (cFor (.nm 3) (cRg rg1 (cCons (cC (.int 5)) (cNil))) (cIfS (cNot (cTru (cFn 1 F_law_row_right 4 0 (fun ds _ => ds) (cCons (cVar 0) (cCons (cVar 2) (cCons (cVar 1) (cCons (cFn 1 F_law_row 2 0 (fun ds _ => ds) (cCons (cVar 0) (cCons (cVar 1) (cNil))) (cNil)) (cNil))))) (cNil)))) (cRet (cC (.bl false))) (cSkip))) (cSeq (cSet 4 (cOp fIx (cLst (cCons (cLst (cCons (cC .non) (cCons (cTup (cCons (cC (.int 2)) (cCons (cC (.int 4)) (cNil)))) (cNil)))) (cCons (cLst (cCons (cTup (cCons (cC (.int 1)) (cCons (cC (.int 0)) (cNil)))) (cNil))) (cCons (cC .non) (cCons (cLst (cCons (cTup (cCons (cC (.int 0)) (cCons (cC (.int 1)) (cNil)))) (cCons (cC (.int 5)) (cNil)))) (cCons (cC (.str "answers")) (cCons (cLst (cCons (cLst (cCons (cC (.int 1)) (cCons (cC (.int 1)) (cNil)))) (cNil))) (cCons (cLst (cCons (cTup (cCons (cC (.int 1)) (cCons (cC (.bl true)) (cNil)))) (cNil))) (cNil))))))))) (cFn 1 F_law_take 2 0 (fun ds _ => ds) (cCons (cVar 0) (cCons (cC (.int 7)) (cNil))) (cNil)))) (cRet (cAndV (cFn 0 F_law_answers_refused 2 0 (fun ds _ => ds) (cCons (cVar 2) (cCons (cVar 4) (cNil))) (cNil)) (cFn 1 F_law_by_hand_right 1 0 (fun ds _ => ds) (cCons (cVar 0) (cNil)) (cNil)))))))
noncomputable def R_law_right : Fd := bodyF 5 c_law_right
noncomputable def F_law_right : Fd := fz R_law_right
abbrev st_law : Stmt := top 47
noncomputable def c_law (ns : List Int) : CS := cSeq (cFor (.nm 1) (cRg rg1 (cCons (cC (.int 3)) (cNil))) (cFr (cIfS (cNot (cTru (cFn 1 F_law_right 1 0 (fun ds _ => ds) (cCons (cFn 0 R_law_box 1 0 (fun ds _ => ds) (cCons (cFnP P_law_cell ns (cVar 1)) (cNil)) (cNil)) (cNil)) (cNil)))) (cRet (cC (.bl false))) (cSkip)))) (cRet (cC (.bl true)))
noncomputable def P_law : Fp := bodyP 2 c_law
/-- what the top has written -/
structure Tx (K : PySem.W.Frag) (mg : Str → Option Value) (ad : Nat → Addr) (fd : Nat → FuncData) (cl : Nat → Addr) : Prop where
  d_is_list : FunD K "is_list" "is_list" (defArgs st_is_list) (defBody st_is_list) (defScope st_is_list) [] [] (ad 0) (fd 0)
  m_is_list : mg "is_list" = some (.ref (ad 0))
  kp_is_list : PySem.W.keepIn K (.ref (ad 0)) = true
  d_is_integer : FunD K "is_integer" "is_integer" (defArgs st_is_integer) (defBody st_is_integer) (defScope st_is_integer) [] [] (ad 1) (fd 1)
  m_is_integer : mg "is_integer" = some (.ref (ad 1))
  kp_is_integer : PySem.W.keepIn K (.ref (ad 1)) = true
  d_is_value : FunD K "is_value" "is_value" (defArgs st_is_value) (defBody st_is_value) (defScope st_is_value) [] [] (ad 2) (fd 2)
  m_is_value : mg "is_value" = some (.ref (ad 2))
  kp_is_value : PySem.W.keepIn K (.ref (ad 2)) = true
  d_is_count : FunD K "is_count" "is_count" (defArgs st_is_count) (defBody st_is_count) (defScope st_is_count) [] [] (ad 3) (fd 3)
  m_is_count : mg "is_count" = some (.ref (ad 3))
  kp_is_count : PySem.W.keepIn K (.ref (ad 3)) = true
  d_is_fraction : FunD K "is_fraction" "is_fraction" (defArgs st_is_fraction) (defBody st_is_fraction) (defScope st_is_fraction) [] [] (ad 4) (fd 4)
  m_is_fraction : mg "is_fraction" = some (.ref (ad 4))
  kp_is_fraction : PySem.W.keepIn K (.ref (ad 4)) = true
  d_InvalidAnswers___init : FunD K "__init__" "InvalidAnswers.__init__" (defArgs st_InvalidAnswers___init) (defBody st_InvalidAnswers___init) (defScope st_InvalidAnswers___init) [] [] (ad 5) (fd 5)
  d_InvalidAlarm___init : FunD K "__init__" "InvalidAlarm.__init__" (defArgs st_InvalidAlarm___init) (defBody st_InvalidAlarm___init) (defScope st_InvalidAlarm___init) [] [] (ad 6) (fd 6)
  d_InvalidState___init : FunD K "__init__" "InvalidState.__init__" (defArgs st_InvalidState___init) (defBody st_InvalidState___init) (defScope st_InvalidState___init) [] [] (ad 7) (fd 7)
  d_InvalidMoves___init : FunD K "__init__" "InvalidMoves.__init__" (defArgs st_InvalidMoves___init) (defBody st_InvalidMoves___init) (defScope st_InvalidMoves___init) [] [] (ad 8) (fd 8)
  d_is_run : FunD K "is_run" "is_run" (defArgs st_is_run) (defBody st_is_run) (defScope st_is_run) [] [] (ad 9) (fd 9)
  m_is_run : mg "is_run" = some (.ref (ad 9))
  kp_is_run : PySem.W.keepIn K (.ref (ad 9)) = true
  d_is_told_answer : FunD K "is_told_answer" "is_told_answer" (defArgs st_is_told_answer) (defBody st_is_told_answer) (defScope st_is_told_answer) [] [] (ad 10) (fd 10)
  m_is_told_answer : mg "is_told_answer" = some (.ref (ad 10))
  kp_is_told_answer : PySem.W.keepIn K (.ref (ad 10)) = true
  d_check_answers : FunD K "check_answers" "check_answers" (defArgs st_check_answers) (defBody st_check_answers) (defScope st_check_answers) [] [] (ad 11) (fd 11)
  m_check_answers : mg "check_answers" = some (.ref (ad 11))
  kp_check_answers : PySem.W.keepIn K (.ref (ad 11)) = true
  d_Alarm___init : FunD K "__init__" "Alarm.__init__" (defArgs st_Alarm___init) (defBody st_Alarm___init) (defScope st_Alarm___init) [.int 1, .int 1] [] (ad 12) (fd 12)
  d_Alarm_size : FunD K "size" "Alarm.size" (defArgs st_Alarm_size) (defBody st_Alarm_size) (defScope st_Alarm_size) [] [] (ad 13) (fd 13)
  me_Alarm_size : Meth K (cl 0) "size" (ad 13)
  d_Alarm__next : FunD K "_next" "Alarm._next" (defArgs st_Alarm__next) (defBody st_Alarm__next) (defScope st_Alarm__next) [] [] (ad 14) (fd 14)
  me_Alarm__next : Meth K (cl 0) "_next" (ad 14)
  d_Alarm_moves : FunD K "moves" "Alarm.moves" (defArgs st_Alarm_moves) (defBody st_Alarm_moves) (defScope st_Alarm_moves) [] [] (ad 15) (fd 15)
  me_Alarm_moves : Meth K (cl 0) "moves" (ad 15)
  d_are_moves : FunD K "are_moves" "are_moves" (defArgs st_are_moves) (defBody st_are_moves) (defScope st_are_moves) [] [] (ad 16) (fd 16)
  m_are_moves : mg "are_moves" = some (.ref (ad 16))
  kp_are_moves : PySem.W.keepIn K (.ref (ad 16)) = true
  d_then : FunD K "then" "then" (defArgs st_then) (defBody st_then) (defScope st_then) [] [] (ad 17) (fd 17)
  m_then : mg "then" = some (.ref (ad 17))
  kp_then : PySem.W.keepIn K (.ref (ad 17)) = true
  d_possible : FunD K "possible" "possible" (defArgs st_possible) (defBody st_possible) (defScope st_possible) [] [] (ad 18) (fd 18)
  m_possible : mg "possible" = some (.ref (ad 18))
  kp_possible : PySem.W.keepIn K (.ref (ad 18)) = true
  d_settled : FunD K "settled" "settled" (defArgs st_settled) (defBody st_settled) (defScope st_settled) [] [] (ad 19) (fd 19)
  m_settled : mg "settled" = some (.ref (ad 19))
  kp_settled : PySem.W.keepIn K (.ref (ad 19)) = true
  d_law_cell : FunD K "_law_cell" "_law_cell" (defArgs st_law_cell) (defBody st_law_cell) (defScope st_law_cell) [] [] (ad 20) (fd 20)
  m_law_cell : mg "_law_cell" = some (.ref (ad 20))
  kp_law_cell : PySem.W.keepIn K (.ref (ad 20)) = true
  d_law_box : FunD K "_law_box" "_law_box" (defArgs st_law_box) (defBody st_law_box) (defScope st_law_box) [] [] (ad 21) (fd 21)
  m_law_box : mg "_law_box" = some (.ref (ad 21))
  kp_law_box : PySem.W.keepIn K (.ref (ad 21)) = true
  d_law_take : FunD K "_law_take" "_law_take" (defArgs st_law_take) (defBody st_law_take) (defScope st_law_take) [] [] (ad 22) (fd 22)
  m_law_take : mg "_law_take" = some (.ref (ad 22))
  kp_law_take : PySem.W.keepIn K (.ref (ad 22)) = true
  d_law_alarm : FunD K "_law_alarm" "_law_alarm" (defArgs st_law_alarm) (defBody st_law_alarm) (defScope st_law_alarm) [] [] (ad 23) (fd 23)
  m_law_alarm : mg "_law_alarm" = some (.ref (ad 23))
  kp_law_alarm : PySem.W.keepIn K (.ref (ad 23)) = true
  d_law_one : FunD K "_law_one" "_law_one" (defArgs st_law_one) (defBody st_law_one) (defScope st_law_one) [] [] (ad 24) (fd 24)
  m_law_one : mg "_law_one" = some (.ref (ad 24))
  kp_law_one : PySem.W.keepIn K (.ref (ad 24)) = true
  d_law_lowest : FunD K "_law_lowest" "_law_lowest" (defArgs st_law_lowest) (defBody st_law_lowest) (defScope st_law_lowest) [] [] (ad 25) (fd 25)
  m_law_lowest : mg "_law_lowest" = some (.ref (ad 25))
  kp_law_lowest : PySem.W.keepIn K (.ref (ad 25)) = true
  d_law_is_high : FunD K "_law_is_high" "_law_is_high" (defArgs st_law_is_high) (defBody st_law_is_high) (defScope st_law_is_high) [] [] (ad 26) (fd 26)
  m_law_is_high : mg "_law_is_high" = some (.ref (ad 26))
  kp_law_is_high : PySem.W.keepIn K (.ref (ad 26)) = true
  d_law_is_low : FunD K "_law_is_low" "_law_is_low" (defArgs st_law_is_low) (defBody st_law_is_low) (defScope st_law_is_low) [] [] (ad 27) (fd 27)
  m_law_is_low : mg "_law_is_low" = some (.ref (ad 27))
  kp_law_is_low : PySem.W.keepIn K (.ref (ad 27)) = true
  d_law_states : FunD K "_law_states" "_law_states" (defArgs st_law_states) (defBody st_law_states) (defScope st_law_states) [] [] (ad 28) (fd 28)
  m_law_states : mg "_law_states" = some (.ref (ad 28))
  kp_law_states : PySem.W.keepIn K (.ref (ad 28)) = true
  d_law_runs_in : FunD K "_law_runs_in" "_law_runs_in" (defArgs st_law_runs_in) (defBody st_law_runs_in) (defScope st_law_runs_in) [] [] (ad 29) (fd 29)
  m_law_runs_in : mg "_law_runs_in" = some (.ref (ad 29))
  kp_law_runs_in : PySem.W.keepIn K (.ref (ad 29)) = true
  d_law_row : FunD K "_law_row" "_law_row" (defArgs st_law_row) (defBody st_law_row) (defScope st_law_row) [] [] (ad 30) (fd 30)
  m_law_row : mg "_law_row" = some (.ref (ad 30))
  kp_law_row : PySem.W.keepIn K (.ref (ad 30)) = true
  d_law_moves : FunD K "_law_moves" "_law_moves" (defArgs st_law_moves) (defBody st_law_moves) (defScope st_law_moves) [] [] (ad 31) (fd 31)
  m_law_moves : mg "_law_moves" = some (.ref (ad 31))
  kp_law_moves : PySem.W.keepIn K (.ref (ad 31)) = true
  d_law_put_together : FunD K "_law_put_together" "_law_put_together" (defArgs st_law_put_together) (defBody st_law_put_together) (defScope st_law_put_together) [] [] (ad 32) (fd 32)
  m_law_put_together : mg "_law_put_together" = some (.ref (ad 32))
  kp_law_put_together : PySem.W.keepIn K (.ref (ad 32)) = true
  d_law_row_right : FunD K "_law_row_right" "_law_row_right" (defArgs st_law_row_right) (defBody st_law_row_right) (defScope st_law_row_right) [] [] (ad 33) (fd 33)
  m_law_row_right : mg "_law_row_right" = some (.ref (ad 33))
  kp_law_row_right : PySem.W.keepIn K (.ref (ad 33)) = true
  d_law_refused : FunD K "_law_refused" "_law_refused" (defArgs st_law_refused) (defBody st_law_refused) (defScope st_law_refused) [] [] (ad 34) (fd 34)
  m_law_refused : mg "_law_refused" = some (.ref (ad 34))
  kp_law_refused : PySem.W.keepIn K (.ref (ad 34)) = true
  d_law_not_moves : FunD K "_law_not_moves" "_law_not_moves" (defArgs st_law_not_moves) (defBody st_law_not_moves) (defScope st_law_not_moves) [] [] (ad 35) (fd 35)
  m_law_not_moves : mg "_law_not_moves" = some (.ref (ad 35))
  kp_law_not_moves : PySem.W.keepIn K (.ref (ad 35)) = true
  d_law_by_hand_right : FunD K "_law_by_hand_right" "_law_by_hand_right" (defArgs st_law_by_hand_right) (defBody st_law_by_hand_right) (defScope st_law_by_hand_right) [] [] (ad 36) (fd 36)
  m_law_by_hand_right : mg "_law_by_hand_right" = some (.ref (ad 36))
  kp_law_by_hand_right : PySem.W.keepIn K (.ref (ad 36)) = true
  d_law_answers_refused : FunD K "_law_answers_refused" "_law_answers_refused" (defArgs st_law_answers_refused) (defBody st_law_answers_refused) (defScope st_law_answers_refused) [] [] (ad 37) (fd 37)
  m_law_answers_refused : mg "_law_answers_refused" = some (.ref (ad 37))
  kp_law_answers_refused : PySem.W.keepIn K (.ref (ad 37)) = true
  d_law_right : FunD K "_law_right" "_law_right" (defArgs st_law_right) (defBody st_law_right) (defScope st_law_right) [] [] (ad 38) (fd 38)
  m_law_right : mg "_law_right" = some (.ref (ad 38))
  kp_law_right : PySem.W.keepIn K (.ref (ad 38)) = true
  d_law : FunD K "law" "law" (defArgs st_law) (defBody st_law) (defScope st_law) [] [] (ad 39) (fd 39)
  m_law : mg "law" = some (.ref (ad 39))
  kp_law : PySem.W.keepIn K (.ref (ad 39)) = true
  cl_Alarm : Cls K (cl 0)
  mc_Alarm : mg "Alarm" = some (.ref (cl 0))
  mk_Alarm : Mk K (cl 0) (ad 12)
  na_Alarm_down : NoAttr K (cl 0) "down"
  na_Alarm_fall : NoAttr K (cl 0) "fall"
  na_Alarm_rise : NoAttr K (cl 0) "rise"
  na_Alarm_up : NoAttr K (cl 0) "up"
  e_InvalidAnswers : ErrC K (cl 1)
  mc_InvalidAnswers : mg "InvalidAnswers" = some (.ref (cl 1))
  ei_InvalidAnswers : PySem.W.findIn K (.ref (cl 1)) "__init__" = some (some (.ref (ad 5)))
  et_InvalidAnswers : PySem.W.typeIn K (.ref (ad 5)) = some (.type "function")
  ea_InvalidAnswers_given : PySem.W.findIn K (.ref (cl 1)) "given" = some none
  e_InvalidAlarm : ErrC K (cl 2)
  mc_InvalidAlarm : mg "InvalidAlarm" = some (.ref (cl 2))
  ei_InvalidAlarm : PySem.W.findIn K (.ref (cl 2)) "__init__" = some (some (.ref (ad 6)))
  et_InvalidAlarm : PySem.W.typeIn K (.ref (ad 6)) = some (.type "function")
  ea_InvalidAlarm_given : PySem.W.findIn K (.ref (cl 2)) "given" = some none
  e_InvalidState : ErrC K (cl 3)
  mc_InvalidState : mg "InvalidState" = some (.ref (cl 3))
  ei_InvalidState : PySem.W.findIn K (.ref (cl 3)) "__init__" = some (some (.ref (ad 7)))
  et_InvalidState : PySem.W.typeIn K (.ref (ad 7)) = some (.type "function")
  ea_InvalidState_given : PySem.W.findIn K (.ref (cl 3)) "given" = some none
  e_InvalidMoves : ErrC K (cl 4)
  mc_InvalidMoves : mg "InvalidMoves" = some (.ref (cl 4))
  ei_InvalidMoves : PySem.W.findIn K (.ref (cl 4)) "__init__" = some (some (.ref (ad 8)))
  et_InvalidMoves : PySem.W.typeIn K (.ref (ad 8)) = some (.type "function")
  ea_InvalidMoves_given : PySem.W.findIn K (.ref (cl 4)) "given" = some none
  x_InvalidAnswers : ∀ n b, List.lookup n mt_InvalidAnswers = some b → PySem.W.exmOne K (.ref (cl n)) (.ref (cl 1)) = some b
  x_InvalidMoves : ∀ n b, List.lookup n mt_InvalidMoves = some b → PySem.W.exmOne K (.ref (cl n)) (.ref (cl 4)) = some b
  par : ∃ Gx, ParC K mg "GrainError" Gx
  b_abs : mg "abs" = none
  b_all : mg "all" = none
  b_bool : mg "bool" = none
  b_gcd : mg "gcd" = some (.builtin "math.gcd")
  b_int : mg "int" = none
  b_isinstance : mg "isinstance" = none
  b_len : mg "len" = none
  b_list : mg "list" = none
  b_max : mg "max" = none
  b_range : mg "range" = none
  b_repr : mg "repr" = none
  b_set : mg "set" = none
  b_sorted : mg "sorted" = none
  b_str : mg "str" = none
  b_sum : mg "sum" = none
  b_tuple : mg "tuple" = none
  g_MOST_RUN : ∃ u, mg "MOST_RUN" = some u ∧ RelV (.int 9) u
section
variable {P : Program} {w : World} {K : PySem.W.Frag} {mg : Str → Option Value} {base : Heap} {ad : Nat → Addr} {fd : Nat → FuncData} {cl : Nat → Addr}
theorem kb_is_integer {f : Addr} {fd : FuncData} (F : FunD K "is_integer" "is_integer" (defArgs st_is_integer) (defBody st_is_integer) (defScope st_is_integer) [] [] f fd) : KBn K fd ["value"] 1 [] (fun us _ => us) (fun vs _ => vs) := kb_pos F fun _ _ _ _ _ _ us hl => match us, hl with | [_], _ => rfl
theorem kb_is_value {f : Addr} {fd : FuncData} (F : FunD K "is_value" "is_value" (defArgs st_is_value) (defBody st_is_value) (defScope st_is_value) [] [] f fd) : KBn K fd ["value"] 1 [] (fun us _ => us) (fun vs _ => vs) := kb_pos F fun _ _ _ _ _ _ us hl => match us, hl with | [_], _ => rfl
theorem kb_is_count {f : Addr} {fd : FuncData} (F : FunD K "is_count" "is_count" (defArgs st_is_count) (defBody st_is_count) (defScope st_is_count) [] [] f fd) : KBn K fd ["value"] 1 [] (fun us _ => us) (fun vs _ => vs) := kb_pos F fun _ _ _ _ _ _ us hl => match us, hl with | [_], _ => rfl
theorem kb_is_fraction {f : Addr} {fd : FuncData} (F : FunD K "is_fraction" "is_fraction" (defArgs st_is_fraction) (defBody st_is_fraction) (defScope st_is_fraction) [] [] f fd) : KBn K fd ["value"] 1 [] (fun us _ => us) (fun vs _ => vs) := kb_pos F fun _ _ _ _ _ _ us hl => match us, hl with | [_], _ => rfl
theorem kb_is_list {f : Addr} {fd : FuncData} (F : FunD K "is_list" "is_list" (defArgs st_is_list) (defBody st_is_list) (defScope st_is_list) [] [] f fd) : KBn K fd ["value"] 1 [] (fun us _ => us) (fun vs _ => vs) := kb_pos F fun _ _ _ _ _ _ us hl => match us, hl with | [_], _ => rfl
theorem kb_is_told_answer {f : Addr} {fd : FuncData} (F : FunD K "is_told_answer" "is_told_answer" (defArgs st_is_told_answer) (defBody st_is_told_answer) (defScope st_is_told_answer) [] [] f fd) : KBn K fd ["value"] 1 [] (fun us _ => us) (fun vs _ => vs) := kb_pos F fun _ _ _ _ _ _ us hl => match us, hl with | [_], _ => rfl
theorem kb_InvalidAnswers___init {f : Addr} {fd : FuncData} (F : FunD K "__init__" "InvalidAnswers.__init__" (defArgs st_InvalidAnswers___init) (defBody st_InvalidAnswers___init) (defScope st_InvalidAnswers___init) [] [] f fd) : KBn K fd ["self", "given"] 2 [] (fun us _ => us) (fun vs _ => vs) := kb_pos F fun _ _ _ _ _ _ us hl => match us, hl with | [_, _], _ => rfl
theorem kb_is_run {f : Addr} {fd : FuncData} (F : FunD K "is_run" "is_run" (defArgs st_is_run) (defBody st_is_run) (defScope st_is_run) [] [] f fd) : KBn K fd ["value"] 1 [] (fun us _ => us) (fun vs _ => vs) := kb_pos F fun _ _ _ _ _ _ us hl => match us, hl with | [_], _ => rfl
theorem kb_InvalidAlarm___init {f : Addr} {fd : FuncData} (F : FunD K "__init__" "InvalidAlarm.__init__" (defArgs st_InvalidAlarm___init) (defBody st_InvalidAlarm___init) (defScope st_InvalidAlarm___init) [] [] f fd) : KBn K fd ["self", "given"] 2 [] (fun us _ => us) (fun vs _ => vs) := kb_pos F fun _ _ _ _ _ _ us hl => match us, hl with | [_, _], _ => rfl
theorem kb_Alarm_size {f : Addr} {fd : FuncData} (F : FunD K "size" "Alarm.size" (defArgs st_Alarm_size) (defBody st_Alarm_size) (defScope st_Alarm_size) [] [] f fd) : KBn K fd ["self"] 1 [] (fun us _ => us) (fun vs _ => vs) := kb_pos F fun _ _ _ _ _ _ us hl => match us, hl with | [_], _ => rfl
theorem kb_check_answers {f : Addr} {fd : FuncData} (F : FunD K "check_answers" "check_answers" (defArgs st_check_answers) (defBody st_check_answers) (defScope st_check_answers) [] [] f fd) : KBn K fd ["answers"] 1 [] (fun us _ => us) (fun vs _ => vs) := kb_pos F fun _ _ _ _ _ _ us hl => match us, hl with | [_], _ => rfl
theorem kb_Alarm__next {f : Addr} {fd : FuncData} (F : FunD K "_next" "Alarm._next" (defArgs st_Alarm__next) (defBody st_Alarm__next) (defScope st_Alarm__next) [] [] f fd) : KBn K fd ["self", "state", "answer"] 3 [] (fun us _ => us) (fun vs _ => vs) := kb_pos F fun _ _ _ _ _ _ us hl => match us, hl with | [_, _, _], _ => rfl
theorem kb_are_moves {f : Addr} {fd : FuncData} (F : FunD K "are_moves" "are_moves" (defArgs st_are_moves) (defBody st_are_moves) (defScope st_are_moves) [] [] f fd) : KBn K fd ["value"] 1 [] (fun us _ => us) (fun vs _ => vs) := kb_pos F fun _ _ _ _ _ _ us hl => match us, hl with | [_], _ => rfl
theorem kb_InvalidMoves___init {f : Addr} {fd : FuncData} (F : FunD K "__init__" "InvalidMoves.__init__" (defArgs st_InvalidMoves___init) (defBody st_InvalidMoves___init) (defScope st_InvalidMoves___init) [] [] f fd) : KBn K fd ["self", "given"] 2 [] (fun us _ => us) (fun vs _ => vs) := kb_pos F fun _ _ _ _ _ _ us hl => match us, hl with | [_, _], _ => rfl
theorem kb_possible {f : Addr} {fd : FuncData} (F : FunD K "possible" "possible" (defArgs st_possible) (defBody st_possible) (defScope st_possible) [] [] f fd) : KBn K fd ["moves"] 1 [] (fun us _ => us) (fun vs _ => vs) := kb_pos F fun _ _ _ _ _ _ us hl => match us, hl with | [_], _ => rfl
theorem kb_law_take {f : Addr} {fd : FuncData} (F : FunD K "_law_take" "_law_take" (defArgs st_law_take) (defBody st_law_take) (defScope st_law_take) [] [] f fd) : KBn K fd ["box", "many"] 2 [] (fun us _ => us) (fun vs _ => vs) := kb_pos F fun _ _ _ _ _ _ us hl => match us, hl with | [_, _], _ => rfl
theorem kb_law_is_low {f : Addr} {fd : FuncData} (F : FunD K "_law_is_low" "_law_is_low" (defArgs st_law_is_low) (defBody st_law_is_low) (defScope st_law_is_low) [] [] f fd) : KBn K fd ["answer", "down"] 2 [] (fun us _ => us) (fun vs _ => vs) := kb_pos F fun _ _ _ _ _ _ us hl => match us, hl with | [_, _], _ => rfl
theorem kb_law_is_high {f : Addr} {fd : FuncData} (F : FunD K "_law_is_high" "_law_is_high" (defArgs st_law_is_high) (defBody st_law_is_high) (defScope st_law_is_high) [] [] f fd) : KBn K fd ["answer", "up"] 2 [] (fun us _ => us) (fun vs _ => vs) := kb_pos F fun _ _ _ _ _ _ us hl => match us, hl with | [_, _], _ => rfl
theorem kb_law_one {f : Addr} {fd : FuncData} (F : FunD K "_law_one" "_law_one" (defArgs st_law_one) (defBody st_law_one) (defScope st_law_one) [] [] f fd) : KBn K fd ["box", "up", "down", "kind"] 4 [] (fun us _ => us) (fun vs _ => vs) := kb_pos F fun _ _ _ _ _ _ us hl => match us, hl with | [_, _, _, _], _ => rfl
theorem kb_law_lowest {f : Addr} {fd : FuncData} (F : FunD K "_law_lowest" "_law_lowest" (defArgs st_law_lowest) (defBody st_law_lowest) (defScope st_law_lowest) [] [] f fd) : KBn K fd ["answer"] 1 [] (fun us _ => us) (fun vs _ => vs) := kb_pos F fun _ _ _ _ _ _ us hl => match us, hl with | [_], _ => rfl
theorem kb_law_states {f : Addr} {fd : FuncData} (F : FunD K "_law_states" "_law_states" (defArgs st_law_states) (defBody st_law_states) (defScope st_law_states) [] [] f fd) : KBn K fd ["bounds", "answers", "state"] 3 [] (fun us _ => us) (fun vs _ => vs) := kb_pos F fun _ _ _ _ _ _ us hl => match us, hl with | [_, _, _], _ => rfl
theorem kb_Alarm_moves {f : Addr} {fd : FuncData} (F : FunD K "moves" "Alarm.moves" (defArgs st_Alarm_moves) (defBody st_Alarm_moves) (defScope st_Alarm_moves) [] [] f fd) : KBn K fd ["self", "answers"] 2 [] (fun us _ => us) (fun vs _ => vs) := kb_pos F fun _ _ _ _ _ _ us hl => match us, hl with | [_, _], _ => rfl
theorem kb_then {f : Addr} {fd : FuncData} (F : FunD K "then" "then" (defArgs st_then) (defBody st_then) (defScope st_then) [] [] f fd) : KBn K fd ["one", "other"] 2 [] (fun us _ => us) (fun vs _ => vs) := kb_pos F fun _ _ _ _ _ _ us hl => match us, hl with | [_, _], _ => rfl
theorem kb_law_moves {f : Addr} {fd : FuncData} (F : FunD K "_law_moves" "_law_moves" (defArgs st_law_moves) (defBody st_law_moves) (defScope st_law_moves) [] [] f fd) : KBn K fd ["bounds", "answers"] 2 [] (fun us _ => us) (fun vs _ => vs) := kb_pos F fun _ _ _ _ _ _ us hl => match us, hl with | [_, _], _ => rfl
theorem kb_Alarm_moves_1_answers {f : Addr} {fd : FuncData} (F : FunD K "moves" "Alarm.moves" (defArgs st_Alarm_moves) (defBody st_Alarm_moves) (defScope st_Alarm_moves) [] [] f fd) : KBn K fd ["self", "answers"] 1 ["answers"] (fun us ws => pickP [(0, 0), (1, 0)] us [] ws) (fun vs zs => pickP [(0, 0), (1, 0)] vs [] zs) := kb_kw F 1 ["answers"] [(0, 0), (1, 0)] fun _ _ _ _ _ _ us ws h1 h2 => match us, ws, h1, h2 with | [_], [_], _, _ => rfl
theorem kb_law_put_together {f : Addr} {fd : FuncData} (F : FunD K "_law_put_together" "_law_put_together" (defArgs st_law_put_together) (defBody st_law_put_together) (defScope st_law_put_together) [] [] f fd) : KBn K fd ["box", "alarm", "answers", "bounds"] 4 [] (fun us _ => us) (fun vs _ => vs) := kb_pos F fun _ _ _ _ _ _ us hl => match us, hl with | [_, _, _, _], _ => rfl
theorem kb_settled {f : Addr} {fd : FuncData} (F : FunD K "settled" "settled" (defArgs st_settled) (defBody st_settled) (defScope st_settled) [] [] f fd) : KBn K fd ["moves"] 1 [] (fun us _ => us) (fun vs _ => vs) := kb_pos F fun _ _ _ _ _ _ us hl => match us, hl with | [_], _ => rfl
theorem kb_law_runs_in {f : Addr} {fd : FuncData} (F : FunD K "_law_runs_in" "_law_runs_in" (defArgs st_law_runs_in) (defBody st_law_runs_in) (defScope st_law_runs_in) [] [] f fd) : KBn K fd ["marks"] 1 [] (fun us _ => us) (fun vs _ => vs) := kb_pos F fun _ _ _ _ _ _ us hl => match us, hl with | [_], _ => rfl
theorem kb_then_0_other_one {f : Addr} {fd : FuncData} (F : FunD K "then" "then" (defArgs st_then) (defBody st_then) (defScope st_then) [] [] f fd) : KBn K fd ["one", "other"] 0 ["other", "one"] (fun us ws => pickP [(1, 1), (1, 0)] us [] ws) (fun vs zs => pickP [(1, 1), (1, 0)] vs [] zs) := kb_kw F 0 ["other", "one"] [(1, 1), (1, 0)] fun _ _ _ _ _ _ us ws h1 h2 => match us, ws, h1, h2 with | [], [_, _], _, _ => rfl
theorem kb_law_not_moves {f : Addr} {fd : FuncData} (F : FunD K "_law_not_moves" "_law_not_moves" (defArgs st_law_not_moves) (defBody st_law_not_moves) (defScope st_law_not_moves) [] [] f fd) : KBn K fd ["value"] 1 [] (fun us _ => us) (fun vs _ => vs) := kb_pos F fun _ _ _ _ _ _ us hl => match us, hl with | [_], _ => rfl
theorem kb_law_refused {f : Addr} {fd : FuncData} (F : FunD K "_law_refused" "_law_refused" (defArgs st_law_refused) (defBody st_law_refused) (defScope st_law_refused) [] [] f fd) : KBn K fd ["one", "other"] 2 [] (fun us _ => us) (fun vs _ => vs) := kb_pos F fun _ _ _ _ _ _ us hl => match us, hl with | [_, _], _ => rfl
theorem kb_law_alarm {f : Addr} {fd : FuncData} (F : FunD K "_law_alarm" "_law_alarm" (defArgs st_law_alarm) (defBody st_law_alarm) (defScope st_law_alarm) [] [] f fd) : KBn K fd ["box"] 1 [] (fun us _ => us) (fun vs _ => vs) := kb_pos F fun _ _ _ _ _ _ us hl => match us, hl with | [_], _ => rfl
theorem kb_Alarm___init_5 {f : Addr} {fd : FuncData} (F : FunD K "__init__" "Alarm.__init__" (defArgs st_Alarm___init) (defBody st_Alarm___init) (defScope st_Alarm___init) [.int 1, .int 1] [] f fd) : ∃ its : List Value, KBn K fd ["self", "up", "down", "rise", "fall"] 5 [] (fun us ws => pickP [(0, 0), (0, 1), (0, 2), (0, 3), (0, 4)] us its ws) (fun vs zs => pickP [(0, 0), (0, 1), (0, 2), (0, 3), (0, 4)] vs [.int 1, .int 1] zs) := kb_df F 5 [] [(0, 0), (0, 1), (0, 2), (0, 3), (0, 4)] (by simp) fun _ _ _ _ _ _ _ us its ws h1 h2 h3 => match us, its, ws, h1, h2, h3 with | [_, _, _, _, _], [_, _], [], _, _, _ => ⟨_, rfl, rfl⟩
theorem kb_law_row {f : Addr} {fd : FuncData} (F : FunD K "_law_row" "_law_row" (defArgs st_law_row) (defBody st_law_row) (defScope st_law_row) [] [] f fd) : KBn K fd ["box", "bounds"] 2 [] (fun us _ => us) (fun vs _ => vs) := kb_pos F fun _ _ _ _ _ _ us hl => match us, hl with | [_, _], _ => rfl
theorem kb_law_row_right {f : Addr} {fd : FuncData} (F : FunD K "_law_row_right" "_law_row_right" (defArgs st_law_row_right) (defBody st_law_row_right) (defScope st_law_row_right) [] [] f fd) : KBn K fd ["box", "alarm", "bounds", "answers"] 4 [] (fun us _ => us) (fun vs _ => vs) := kb_pos F fun _ _ _ _ _ _ us hl => match us, hl with | [_, _, _, _], _ => rfl
theorem kb_law_answers_refused {f : Addr} {fd : FuncData} (F : FunD K "_law_answers_refused" "_law_answers_refused" (defArgs st_law_answers_refused) (defBody st_law_answers_refused) (defScope st_law_answers_refused) [] [] f fd) : KBn K fd ["alarm", "answers"] 2 [] (fun us _ => us) (fun vs _ => vs) := kb_pos F fun _ _ _ _ _ _ us hl => match us, hl with | [_, _], _ => rfl
theorem kb_law_by_hand_right {f : Addr} {fd : FuncData} (F : FunD K "_law_by_hand_right" "_law_by_hand_right" (defArgs st_law_by_hand_right) (defBody st_law_by_hand_right) (defScope st_law_by_hand_right) [] [] f fd) : KBn K fd ["box"] 1 [] (fun us _ => us) (fun vs _ => vs) := kb_pos F fun _ _ _ _ _ _ us hl => match us, hl with | [_], _ => rfl
theorem kb_law_cell {f : Addr} {fd : FuncData} (F : FunD K "_law_cell" "_law_cell" (defArgs st_law_cell) (defBody st_law_cell) (defScope st_law_cell) [] [] f fd) : KBn K fd ["script", "k"] 2 [] (fun us _ => us) (fun vs _ => vs) := kb_pos F fun _ _ _ _ _ _ us hl => match us, hl with | [_, _], _ => rfl
theorem kb_law_box {f : Addr} {fd : FuncData} (F : FunD K "_law_box" "_law_box" (defArgs st_law_box) (defBody st_law_box) (defScope st_law_box) [] [] f fd) : KBn K fd ["great"] 1 [] (fun us _ => us) (fun vs _ => vs) := kb_pos F fun _ _ _ _ _ _ us hl => match us, hl with | [_], _ => rfl
theorem kb_law_right {f : Addr} {fd : FuncData} (F : FunD K "_law_right" "_law_right" (defArgs st_law_right) (defBody st_law_right) (defScope st_law_right) [] [] f fd) : KBn K fd ["box"] 1 [] (fun us _ => us) (fun vs _ => vs) := kb_pos F fun _ _ _ _ _ _ us hl => match us, hl with | [_], _ => rfl
theorem sc_is_list : FnScope ["value"] ["value"] (defScope st_is_list) := ⟨rfl, rfl, rfl, by decide +kernel, rfl, by decide +kernel, by decide +kernel⟩
theorem okr_is_list (T : Tx K mg ad fd cl) : FnG P w K mg base 1 (ad 0) (fd 0) ["value"] (spD ⟨K, cl, 0⟩ 1 R_is_list) :=
  FunD.d (g := ⟨K, cl, 0⟩) T.d_is_list rfl sc_is_list fun cdv A outer s H E z => s_one (s_ret (d_isi2 z (tbk_list_tuple _) T.b_isinstance (d_var 0) (pe_bltn (v := .ty "list") (by rfl) T.b_list boot_list rfl) (pe_bltn (v := .ty "tuple") (by rfl) T.b_tuple boot_tuple rfl)))
theorem ok_is_list (T : Tx K mg ad fd cl) : FnG P w K mg base 1 (ad 0) (fd 0) ["value"] (spD ⟨K, cl, 0⟩ 1 F_is_list) := (okr_is_list T).fz
theorem sc_is_integer : FnScope ["value"] ["value"] (defScope st_is_integer) := ⟨rfl, rfl, rfl, by decide +kernel, rfl, by decide +kernel, by decide +kernel⟩
theorem okr_is_integer (T : Tx K mg ad fd cl) : FnG P w K mg base 1 (ad 1) (fd 1) ["value"] (spD ⟨K, cl, 0⟩ 1 R_is_integer) :=
  FunD.d (g := ⟨K, cl, 0⟩) T.d_is_integer rfl sc_is_integer fun cdv A outer s H E z => s_one (s_ret ((d_and (d_isi z (tbk_int _) T.b_isinstance (d_var 0) (pe_bltn (v := .ty "int") (by rfl) T.b_int boot_int rfl) (.ty _)) (pe_one (d_not (d_isi z (tbk_bool _) T.b_isinstance (d_var 0) (pe_bltn (v := .ty "bool") (by rfl) T.b_bool boot_bool rfl) (.ty _)))))))
theorem ok_is_integer (T : Tx K mg ad fd cl) : FnG P w K mg base 1 (ad 1) (fd 1) ["value"] (spD ⟨K, cl, 0⟩ 1 F_is_integer) := (okr_is_integer T).fz
theorem sc_is_value : FnScope ["value"] ["value"] (defScope st_is_value) := ⟨rfl, rfl, rfl, by decide +kernel, rfl, by decide +kernel, by decide +kernel⟩
theorem okr_is_value (T : Tx K mg ad fd cl) : FnG P w K mg base 2 (ad 2) (fd 2) ["value"] (spD ⟨K, cl, 0⟩ 1 R_is_value) :=
  FunD.d (g := ⟨K, cl, 0⟩) T.d_is_value rfl sc_is_value fun cdv A outer s H E z => s_one (s_ret (d_call 0 z (ok_is_integer T) (by decide) T.m_is_integer T.kp_is_integer (kb_is_integer T.d_is_integer) (arr_v _ 1) (pakd_v (a_cons (d_var 0) a_nil))))
theorem ok_is_value (T : Tx K mg ad fd cl) : FnG P w K mg base 2 (ad 2) (fd 2) ["value"] (spD ⟨K, cl, 0⟩ 1 F_is_value) := (okr_is_value T).fz
theorem sc_is_count : FnScope ["value"] ["value"] (defScope st_is_count) := ⟨rfl, rfl, rfl, by decide +kernel, rfl, by decide +kernel, by decide +kernel⟩
theorem okr_is_count (T : Tx K mg ad fd cl) : FnG P w K mg base 2 (ad 3) (fd 3) ["value"] (spD ⟨K, cl, 0⟩ 1 R_is_count) :=
  FunD.d (g := ⟨K, cl, 0⟩) T.d_is_count rfl sc_is_count fun cdv A outer s H E z => s_one (s_ret ((d_and (d_call 0 z (ok_is_integer T) (by decide) T.m_is_integer T.kp_is_integer (kb_is_integer T.d_is_integer) (arr_v _ 1) (pakd_v (a_cons (d_var 0) a_nil))) (pe_one (d_ge (d_var 0) (d_int))))))
theorem ok_is_count (T : Tx K mg ad fd cl) : FnG P w K mg base 2 (ad 3) (fd 3) ["value"] (spD ⟨K, cl, 0⟩ 1 F_is_count) := (okr_is_count T).fz
theorem sc_is_fraction : FnScope ["value", "n", "d"] ["value"] (defScope st_is_fraction) := ⟨rfl, rfl, rfl, by decide +kernel, rfl, by decide +kernel, by decide +kernel⟩
theorem okr_is_fraction (T : Tx K mg ad fd cl) : FnG P w K mg base 3 (ad 4) (fd 4) ["value"] (spD ⟨K, cl, 0⟩ 1 R_is_fraction) :=
  FunD.d (g := ⟨K, cl, 0⟩) T.d_is_fraction rfl sc_is_fraction fun cdv A outer s H E z => s_cons (s_if (((w_or (t_not (t_tru z (d_isi z (tbk_tuple _) T.b_isinstance (d_var 0) (pe_bltn (v := .ty "tuple") (by rfl) T.b_tuple boot_tuple rfl) (.ty _)))) (pw_or1 (t_ne z (b_len z T.b_len (a_cons (d_var 0) a_nil)) (d_int))))).pt) (s_one (s_ret (d_bl))) (s_nil)) (s_cons (s_asg (d_var 0) (g_tup z (gs_cons (g_name 1 ok0 z.nd) (gs_cons (g_name 2 ok0 z.nd) gs_nil)))) (s_one (s_ret ((d_and (d_call 0 z (ok_is_value T) (by decide) T.m_is_value T.kp_is_value (kb_is_value T.d_is_value) (arr_v _ 1) (pakd_v (a_cons (d_var 1) a_nil))) (d_and (d_call 0 z (ok_is_value T) (by decide) T.m_is_value T.kp_is_value (kb_is_value T.d_is_value) (arr_v _ 1) (pakd_v (a_cons (d_var 2) a_nil))) (d_and (d_gt (d_var 2) (d_int)) (pe_one (d_eq z (b_gcd z T.b_gcd (a_cons (d_var 1) (a_cons (d_var 2) a_nil))) (d_int))))))))))
theorem ok_is_fraction (T : Tx K mg ad fd cl) : FnG P w K mg base 3 (ad 4) (fd 4) ["value"] (spD ⟨K, cl, 0⟩ 1 F_is_fraction) := (okr_is_fraction T).fz
theorem sc_InvalidAnswers___init : FnScope ["self", "given"] ["self", "given"] (defScope st_InvalidAnswers___init) := ⟨rfl, rfl, rfl, by decide +kernel, rfl, by decide +kernel, by decide +kernel⟩
theorem ok_InvalidAnswers___init (T : Tx K mg ad fd cl) : FnG P w K mg base 1 (ad 5) (fd 5) ["self", "given"] (spErr (cl 1) 1 [("given", 0)]) :=
  err_fng T.d_InvalidAnswers___init sc_InvalidAnswers___init (fun _ _ _ _ h => err_len h) fun cdv A outer s H vs Q E h => ⟨_, pss_cons (ps_expr (pe_par rfl T.par.choose_spec (pa_cons (pe_var (i := 0) rfl (.inl rfl)) (pa_cons pe_str pa_nil)))) (pss_one (ps_est (pe_var (i := 0) rfl (.inl rfl)) (pe_var (i := 1) rfl (.inl rfl)))), err_read1 T.e_InvalidAnswers T.ea_InvalidAnswers_given h⟩
theorem sc_InvalidAlarm___init : FnScope ["self", "given"] ["self", "given"] (defScope st_InvalidAlarm___init) := ⟨rfl, rfl, rfl, by decide +kernel, rfl, by decide +kernel, by decide +kernel⟩
theorem ok_InvalidAlarm___init (T : Tx K mg ad fd cl) : FnG P w K mg base 1 (ad 6) (fd 6) ["self", "given"] (spErr (cl 2) 1 [("given", 0)]) :=
  err_fng T.d_InvalidAlarm___init sc_InvalidAlarm___init (fun _ _ _ _ h => err_len h) fun cdv A outer s H vs Q E h => ⟨_, pss_cons (ps_expr (pe_par rfl T.par.choose_spec (pa_cons (pe_var (i := 0) rfl (.inl rfl)) (pa_cons pe_str pa_nil)))) (pss_one (ps_est (pe_var (i := 0) rfl (.inl rfl)) (pe_var (i := 1) rfl (.inl rfl)))), err_read1 T.e_InvalidAlarm T.ea_InvalidAlarm_given h⟩
theorem sc_InvalidState___init : FnScope ["self", "given"] ["self", "given"] (defScope st_InvalidState___init) := ⟨rfl, rfl, rfl, by decide +kernel, rfl, by decide +kernel, by decide +kernel⟩
theorem ok_InvalidState___init (T : Tx K mg ad fd cl) : FnG P w K mg base 1 (ad 7) (fd 7) ["self", "given"] (spErr (cl 3) 1 [("given", 0)]) :=
  err_fng T.d_InvalidState___init sc_InvalidState___init (fun _ _ _ _ h => err_len h) fun cdv A outer s H vs Q E h => ⟨_, pss_cons (ps_expr (pe_par rfl T.par.choose_spec (pa_cons (pe_var (i := 0) rfl (.inl rfl)) (pa_cons pe_str pa_nil)))) (pss_one (ps_est (pe_var (i := 0) rfl (.inl rfl)) (pe_var (i := 1) rfl (.inl rfl)))), err_read1 T.e_InvalidState T.ea_InvalidState_given h⟩
theorem sc_InvalidMoves___init : FnScope ["self", "given"] ["self", "given"] (defScope st_InvalidMoves___init) := ⟨rfl, rfl, rfl, by decide +kernel, rfl, by decide +kernel, by decide +kernel⟩
theorem ok_InvalidMoves___init (T : Tx K mg ad fd cl) : FnG P w K mg base 1 (ad 8) (fd 8) ["self", "given"] (spErr (cl 4) 1 [("given", 0)]) :=
  err_fng T.d_InvalidMoves___init sc_InvalidMoves___init (fun _ _ _ _ h => err_len h) fun cdv A outer s H vs Q E h => ⟨_, pss_cons (ps_expr (pe_par rfl T.par.choose_spec (pa_cons (pe_var (i := 0) rfl (.inl rfl)) (pa_cons pe_str pa_nil)))) (pss_one (ps_est (pe_var (i := 0) rfl (.inl rfl)) (pe_var (i := 1) rfl (.inl rfl)))), err_read1 T.e_InvalidMoves T.ea_InvalidMoves_given h⟩
theorem sc_is_run : FnScope ["value"] ["value"] (defScope st_is_run) := ⟨rfl, rfl, rfl, by decide +kernel, rfl, by decide +kernel, by decide +kernel⟩
theorem okr_is_run (T : Tx K mg ad fd cl) : FnG P w K mg base 3 (ad 9) (fd 9) ["value"] (spD ⟨K, cl, 0⟩ 1 R_is_run) :=
  FunD.d (g := ⟨K, cl, 0⟩) T.d_is_run rfl sc_is_run fun cdv A outer s H E z => s_one (s_ret ((d_and (d_call 0 z (ok_is_count T) (by decide) T.m_is_count T.kp_is_count (kb_is_count T.d_is_count) (arr_v _ 1) (pakd_v (a_cons (d_var 0) a_nil))) (pe_one (d_chain op_le op_le (opd_I0 fun _ _ => vc_bl _) (opd_I0 fun _ _ => vc_bl _) (d_int) (d_var 0) (d_glob T.g_MOST_RUN (vc_int _)))))))
theorem ok_is_run (T : Tx K mg ad fd cl) : FnG P w K mg base 3 (ad 9) (fd 9) ["value"] (spD ⟨K, cl, 0⟩ 1 F_is_run) := (okr_is_run T).fz
theorem sc_is_told_answer : FnScope ["value"] ["value"] (defScope st_is_told_answer) := ⟨rfl, rfl, rfl, by decide +kernel, rfl, by decide +kernel, by decide +kernel⟩
theorem okr_is_told_answer (T : Tx K mg ad fd cl) : FnG P w K mg base 4 (ad 10) (fd 10) ["value"] (spD ⟨K, cl, 0⟩ 1 R_is_told_answer) :=
  FunD.d (g := ⟨K, cl, 0⟩) T.d_is_told_answer rfl sc_is_told_answer fun cdv A outer s H E z => s_one (s_ret ((d_or (d_isN (d_var 0) d_non) (pe_one (d_call 0 z (ok_is_fraction T) (by decide) T.m_is_fraction T.kp_is_fraction (kb_is_fraction T.d_is_fraction) (arr_v _ 1) (pakd_v (a_cons (d_var 0) a_nil)))))))
theorem ok_is_told_answer (T : Tx K mg ad fd cl) : FnG P w K mg base 4 (ad 10) (fd 10) ["value"] (spD ⟨K, cl, 0⟩ 1 F_is_told_answer) := (okr_is_told_answer T).fz
theorem sc_check_answers : FnScope ["answers", "one"] ["answers"] (defScope st_check_answers) := ⟨rfl, rfl, rfl, by decide +kernel, rfl, by decide +kernel, by decide +kernel⟩
theorem okr_check_answers (T : Tx K mg ad fd cl) : FnG P w K mg base 5 (ad 11) (fd 11) ["answers"] (spD ⟨K, cl, 0⟩ 1 R_check_answers) :=
  FunD.d (g := ⟨K, cl, 0⟩) T.d_check_answers rfl sc_check_answers fun cdv A outer s H E z => s_one (s_if (((w_or (t_not (t_tru z (d_call 0 z (ok_is_list T) (by decide) T.m_is_list T.kp_is_list (kb_is_list T.d_is_list) (arr_v _ 1) (pakd_v (a_cons (d_var 0) a_nil))))) (pw_or1 (t_not (t_tru z (b_all z T.b_all (a_cons (d_lc (own := [("one", 1)]) z rfl (blk_ok (N := ["answers", "one"]) (sc := defScope st_check_answers) (by decide +kernel)) (by decide) (i_seq z (d_var 0)) (fun _ _ _ _ _ => (g_name 1 okn (z.blk _ _ _ _ _).nd)) (fun _ _ _ _ _ => ts_nil) (fun _ _ _ _ _ => d_call 0 (z.blk _ _ _ _ _) (ok_is_told_answer T) (by decide) T.m_is_told_answer T.kp_is_told_answer (kb_is_told_answer T.d_is_told_answer) (arr_v _ 1) (pakd_v (a_cons (d_var 1) a_nil)))) a_nil))))))).pt) (s_one (s_raise 1 z T.e_InvalidAnswers T.ei_InvalidAnswers T.et_InvalidAnswers (ok_InvalidAnswers___init T) (by decide) (by decide) (kb_InvalidAnswers___init T.d_InvalidAnswers___init) (fun _ => rfl) T.mc_InvalidAnswers (pak_v (a_cons (d_var 0) a_nil)))) (s_nil))
theorem ok_check_answers (T : Tx K mg ad fd cl) : FnG P w K mg base 5 (ad 11) (fd 11) ["answers"] (spD ⟨K, cl, 0⟩ 1 F_check_answers) := (okr_check_answers T).fz
theorem sc_Alarm___init : FnScope ["self", "up", "down", "rise", "fall"] ["self", "up", "down", "rise", "fall"] (defScope st_Alarm___init) := ⟨rfl, rfl, rfl, by decide +kernel, rfl, by decide +kernel, by decide +kernel⟩
theorem okr_Alarm___init (T : Tx K mg ad fd cl) : FnG P w K mg base 4 (ad 12) (fd 12) ["self", "up", "down", "rise", "fall"] (spD ⟨K, cl, 0⟩ 5 R_Alarm___init) :=
  FunD.d (g := ⟨K, cl, 0⟩) T.d_Alarm___init rfl sc_Alarm___init fun cdv A outer s H E z => s_cons (s_if (((w_or (t_not (t_tru z (d_call 0 z (ok_is_integer T) (by decide) T.m_is_integer T.kp_is_integer (kb_is_integer T.d_is_integer) (arr_v _ 1) (pakd_v (a_cons (d_var 1) a_nil))))) (w_or (t_not (t_tru z (d_call 0 z (ok_is_integer T) (by decide) T.m_is_integer T.kp_is_integer (kb_is_integer T.d_is_integer) (arr_v _ 1) (pakd_v (a_cons (d_var 2) a_nil))))) (w_or (t_not (t_tru z (d_call 0 z (ok_is_run T) (by decide) T.m_is_run T.kp_is_run (kb_is_run T.d_is_run) (arr_v _ 1) (pakd_v (a_cons (d_var 3) a_nil))))) (w_or (t_not (t_tru z (d_call 0 z (ok_is_run T) (by decide) T.m_is_run T.kp_is_run (kb_is_run T.d_is_run) (arr_v _ 1) (pakd_v (a_cons (d_var 4) a_nil))))) (pw_or1 (t_gt (d_var 2) (d_var 1)))))))).pt) (s_one (s_raise 2 z T.e_InvalidAlarm T.ei_InvalidAlarm T.et_InvalidAlarm (ok_InvalidAlarm___init T) (by decide) (by decide) (kb_InvalidAlarm___init T.d_InvalidAlarm___init) (fun _ => rfl) T.mc_InvalidAlarm (pak_v (a_cons (d_tup (a_cons (d_var 1) (a_cons (d_var 2) (a_cons (d_var 3) (a_cons (d_var 4) a_nil))))) a_nil)))) (s_nil)) (s_cons (s_fld 0 z T.cl_Alarm T.na_Alarm_up (d_var 0) (d_var 1)) (s_cons (s_fld 0 z T.cl_Alarm T.na_Alarm_down (d_var 0) (d_var 2)) (s_cons (s_fld 0 z T.cl_Alarm T.na_Alarm_rise (d_var 0) (d_var 3)) (s_one (s_fld 0 z T.cl_Alarm T.na_Alarm_fall (d_var 0) (d_var 4))))))
theorem ok_Alarm___init (T : Tx K mg ad fd cl) : FnG P w K mg base 4 (ad 12) (fd 12) ["self", "up", "down", "rise", "fall"] (spD ⟨K, cl, 0⟩ 5 F_Alarm___init) := (okr_Alarm___init T).fz
theorem sc_Alarm_size : FnScope ["self"] ["self"] (defScope st_Alarm_size) := ⟨rfl, rfl, rfl, by decide +kernel, rfl, by decide +kernel, by decide +kernel⟩
theorem okr_Alarm_size (T : Tx K mg ad fd cl) : FnG P w K mg base 1 (ad 13) (fd 13) ["self"] (spD ⟨K, cl, 0⟩ 1 R_Alarm_size) :=
  FunD.d (g := ⟨K, cl, 0⟩) T.d_Alarm_size rfl sc_Alarm_size fun cdv A outer s H E z => s_one (s_ret (d_plus z (d_fld 0 z T.cl_Alarm T.na_Alarm_rise (d_var 0)) (d_fld 0 z T.cl_Alarm T.na_Alarm_fall (d_var 0))))
theorem ok_Alarm_size (T : Tx K mg ad fd cl) : FnG P w K mg base 1 (ad 13) (fd 13) ["self"] (spD ⟨K, cl, 0⟩ 1 F_Alarm_size) := (okr_Alarm_size T).fz
theorem sc_Alarm__next : FnScope ["self", "state", "answer", "is_high", "is_low"] ["self", "state", "answer"] (defScope st_Alarm__next) := ⟨rfl, rfl, rfl, by decide +kernel, rfl, by decide +kernel, by decide +kernel⟩
theorem okr_Alarm__next (T : Tx K mg ad fd cl) : FnG P w K mg base 2 (ad 14) (fd 14) ["self", "state", "answer"] (spD ⟨K, cl, 0⟩ 3 R_Alarm__next) :=
  FunD.d (g := ⟨K, cl, 0⟩) T.d_Alarm__next rfl sc_Alarm__next fun cdv A outer s H E z => s_cons (s_if (t_lt (d_var 1) (d_fld 0 z T.cl_Alarm T.na_Alarm_rise (d_var 0))) (s_cons (s_set 3 ok0 z.nd ((d_and (d_notN (d_var 2) d_non) (pe_one (d_ge (d_ix z (d_var 2) (d_int)) (d_mul (d_fld 0 z T.cl_Alarm T.na_Alarm_up (d_var 0)) (d_ix z (d_var 2) (d_int)))))))) (s_one (s_ret (d_if (t_tru z (d_var 3)) (d_plus z (d_var 1) (d_int)) (d_int))))) (s_nil)) (s_cons (s_set 4 ok0 z.nd ((d_and (d_notN (d_var 2) d_non) (pe_one (d_lt (d_ix z (d_var 2) (d_int)) (d_mul (d_fld 0 z T.cl_Alarm T.na_Alarm_down (d_var 0)) (d_ix z (d_var 2) (d_int)))))))) (s_one (s_ret (d_if (t_tru z (d_var 4)) (d_mod (d_plus z (d_var 1) (d_int)) (d_meth 0 0 z T.cl_Alarm T.me_Alarm_size (ok_Alarm_size T) (by decide) (kb_Alarm_size T.d_Alarm_size) (arr_v _ 1) (d_var 0) pakd_0)) (d_fld 0 z T.cl_Alarm T.na_Alarm_rise (d_var 0))))))
theorem ok_Alarm__next (T : Tx K mg ad fd cl) : FnG P w K mg base 2 (ad 14) (fd 14) ["self", "state", "answer"] (spD ⟨K, cl, 0⟩ 3 F_Alarm__next) := (okr_Alarm__next T).fz
theorem sc_Alarm_moves : FnScope ["self", "answers", "found", "answer", "state"] ["self", "answers"] (defScope st_Alarm_moves) := ⟨rfl, rfl, rfl, by decide +kernel, rfl, by decide +kernel, by decide +kernel⟩
theorem okr_Alarm_moves (T : Tx K mg ad fd cl) : FnG P w K mg base 6 (ad 15) (fd 15) ["self", "answers"] (spD ⟨K, cl, 0⟩ 2 R_Alarm_moves) :=
  FunD.d (g := ⟨K, cl, 0⟩) T.d_Alarm_moves rfl sc_Alarm_moves fun cdv A outer s H E z => s_cons (s_expr (d_call 0 z (ok_check_answers T) (by decide) T.m_check_answers T.kp_check_answers (kb_check_answers T.d_check_answers) (arr_v _ 1) (pakd_v (a_cons (d_var 1) a_nil)))) (s_cons (s_set 2 ok0 z.nd (d_listRg z T.b_list T.b_range (d_meth 0 0 z T.cl_Alarm T.me_Alarm_size (ok_Alarm_size T) (by decide) (kb_Alarm_size T.d_Alarm_size) (arr_v _ 1) (d_var 0) pakd_0))) (s_cons (s_for z (i_seq z (d_var 1)) (g_name 3 ok0 z.nd) (s_one (s_setLc 2 (own := [("state", 4)]) z rfl (blk_ok (N := ["self", "answers", "found", "answer", "state"]) (sc := defScope st_Alarm_moves) (by decide +kernel)) (by decide) (i_seq z (d_var 2)) (fun _ _ _ _ _ => (g_name 4 okn (z.blk _ _ _ _ _).nd)) (fun _ _ _ _ _ => ts_nil) (fun _ _ _ _ _ => d_meth 0 0 (z.blk _ _ _ _ _) T.cl_Alarm T.me_Alarm__next (ok_Alarm__next T) (by decide) (kb_Alarm__next T.d_Alarm__next) (arr_v _ 3) (d_var 0) (pakd_v (a_cons (d_var 4) (a_cons (d_var 3) a_nil))))))) (s_one (s_ret (b_tuple z T.b_tuple (a_cons (d_var 2) a_nil))))))
theorem ok_Alarm_moves (T : Tx K mg ad fd cl) : FnG P w K mg base 6 (ad 15) (fd 15) ["self", "answers"] (spD ⟨K, cl, 0⟩ 2 F_Alarm_moves) := (okr_Alarm_moves T).fz
theorem sc_are_moves : FnScope ["value", "state"] ["value"] (defScope st_are_moves) := ⟨rfl, rfl, rfl, by decide +kernel, rfl, by decide +kernel, by decide +kernel⟩
theorem okr_are_moves (T : Tx K mg ad fd cl) : FnG P w K mg base 3 (ad 16) (fd 16) ["value"] (spD ⟨K, cl, 0⟩ 1 R_are_moves) :=
  FunD.d (g := ⟨K, cl, 0⟩) T.d_are_moves rfl sc_are_moves fun cdv A outer s H E z => s_cons (s_if (((w_or (t_not (t_tru z (d_isi z (tbk_tuple _) T.b_isinstance (d_var 0) (pe_bltn (v := .ty "tuple") (by rfl) T.b_tuple boot_tuple rfl) (.ty _)))) (pw_or1 (t_eq z (b_len z T.b_len (a_cons (d_var 0) a_nil)) (d_int))))).pt) (s_one (s_ret (d_bl))) (s_nil)) (s_one (s_ret (b_all z T.b_all (a_cons (d_lc (own := [("state", 1)]) z rfl (blk_ok (N := ["value", "state"]) (sc := defScope st_are_moves) (by decide +kernel)) (by decide) (i_seq z (d_var 0)) (fun _ _ _ _ _ => (g_name 1 okn (z.blk _ _ _ _ _).nd)) (fun _ _ _ _ _ => ts_nil) (fun _ _ _ _ _ => (d_and (d_call 0 (z.blk _ _ _ _ _) (ok_is_count T) (by decide) T.m_is_count T.kp_is_count (kb_is_count T.d_is_count) (arr_v _ 1) (pakd_v (a_cons (d_var 1) a_nil))) (pe_one (d_lt (d_var 1) (b_len (z.blk _ _ _ _ _) T.b_len (a_cons (d_var 0) a_nil))))))) a_nil))))
theorem ok_are_moves (T : Tx K mg ad fd cl) : FnG P w K mg base 3 (ad 16) (fd 16) ["value"] (spD ⟨K, cl, 0⟩ 1 F_are_moves) := (okr_are_moves T).fz
theorem sc_then : FnScope ["one", "other", "state"] ["one", "other"] (defScope st_then) := ⟨rfl, rfl, rfl, by decide +kernel, rfl, by decide +kernel, by decide +kernel⟩
theorem okr_then (T : Tx K mg ad fd cl) : FnG P w K mg base 4 (ad 17) (fd 17) ["one", "other"] (spD ⟨K, cl, 0⟩ 2 R_then) :=
  FunD.d (g := ⟨K, cl, 0⟩) T.d_then rfl sc_then fun cdv A outer s H E z => s_cons (s_if (((w_or (t_not (t_tru z (d_call 0 z (ok_are_moves T) (by decide) T.m_are_moves T.kp_are_moves (kb_are_moves T.d_are_moves) (arr_v _ 1) (pakd_v (a_cons (d_var 0) a_nil))))) (w_or (t_not (t_tru z (d_call 0 z (ok_are_moves T) (by decide) T.m_are_moves T.kp_are_moves (kb_are_moves T.d_are_moves) (arr_v _ 1) (pakd_v (a_cons (d_var 1) a_nil))))) (pw_or1 (t_ne z (b_len z T.b_len (a_cons (d_var 0) a_nil)) (b_len z T.b_len (a_cons (d_var 1) a_nil))))))).pt) (s_one (s_raise 4 z T.e_InvalidMoves T.ei_InvalidMoves T.et_InvalidMoves (ok_InvalidMoves___init T) (by decide) (by decide) (kb_InvalidMoves___init T.d_InvalidMoves___init) (fun _ => rfl) T.mc_InvalidMoves (pak_v (a_cons (d_tup (a_cons (d_var 0) (a_cons (d_var 1) a_nil))) a_nil)))) (s_nil)) (s_one (s_ret (b_tuple z T.b_tuple (a_cons (d_lc (own := [("state", 2)]) z rfl (blk_ok (N := ["one", "other", "state"]) (sc := defScope st_then) (by decide +kernel)) (by decide) (i_seq z (d_var 0)) (fun _ _ _ _ _ => (g_name 2 okn (z.blk _ _ _ _ _).nd)) (fun _ _ _ _ _ => ts_nil) (fun _ _ _ _ _ => d_ix (z.blk _ _ _ _ _) (d_var 1) (d_var 2))) a_nil))))
theorem ok_then (T : Tx K mg ad fd cl) : FnG P w K mg base 4 (ad 17) (fd 17) ["one", "other"] (spD ⟨K, cl, 0⟩ 2 F_then) := (okr_then T).fz
theorem sc_possible : FnScope ["moves"] ["moves"] (defScope st_possible) := ⟨rfl, rfl, rfl, by decide +kernel, rfl, by decide +kernel, by decide +kernel⟩
theorem okr_possible (T : Tx K mg ad fd cl) : FnG P w K mg base 4 (ad 18) (fd 18) ["moves"] (spD ⟨K, cl, 0⟩ 1 R_possible) :=
  FunD.d (g := ⟨K, cl, 0⟩) T.d_possible rfl sc_possible fun cdv A outer s H E z => s_cons (s_if (t_not (t_tru z (d_call 0 z (ok_are_moves T) (by decide) T.m_are_moves T.kp_are_moves (kb_are_moves T.d_are_moves) (arr_v _ 1) (pakd_v (a_cons (d_var 0) a_nil))))) (s_one (s_raise 4 z T.e_InvalidMoves T.ei_InvalidMoves T.et_InvalidMoves (ok_InvalidMoves___init T) (by decide) (by decide) (kb_InvalidMoves___init T.d_InvalidMoves___init) (fun _ => rfl) T.mc_InvalidMoves (pak_v (a_cons (d_var 0) a_nil)))) (s_nil)) (s_one (s_ret (b_sortSet z T.b_sorted T.b_set (a_cons (d_var 0) a_nil))))
theorem ok_possible (T : Tx K mg ad fd cl) : FnG P w K mg base 4 (ad 18) (fd 18) ["moves"] (spD ⟨K, cl, 0⟩ 1 F_possible) := (okr_possible T).fz
theorem sc_settled : FnScope ["moves", "found"] ["moves"] (defScope st_settled) := ⟨rfl, rfl, rfl, by decide +kernel, rfl, by decide +kernel, by decide +kernel⟩
theorem okr_settled (T : Tx K mg ad fd cl) : FnG P w K mg base 5 (ad 19) (fd 19) ["moves"] (spD ⟨K, cl, 0⟩ 1 R_settled) :=
  FunD.d (g := ⟨K, cl, 0⟩) T.d_settled rfl sc_settled fun cdv A outer s H E z => s_cons (s_set 1 ok0 z.nd (d_call 0 z (ok_possible T) (by decide) T.m_possible T.kp_possible (kb_possible T.d_possible) (arr_v _ 1) (pakd_v (a_cons (d_var 0) a_nil)))) (s_one (s_ret (d_if (t_eq z (b_len z T.b_len (a_cons (d_var 1) a_nil)) (d_int)) (d_ix z (d_var 1) (d_int)) (d_non))))
theorem ok_settled (T : Tx K mg ad fd cl) : FnG P w K mg base 5 (ad 19) (fd 19) ["moves"] (spD ⟨K, cl, 0⟩ 1 F_settled) := (okr_settled T).fz
theorem sc_law_cell : FnScope ["script", "k"] ["script", "k"] (defScope st_law_cell) := ⟨rfl, rfl, rfl, by decide +kernel, rfl, by decide +kernel, by decide +kernel⟩
theorem okp_law_cell (T : Tx K mg ad fd cl) : FnG P w K mg base 1 (ad 20) (fd 20) ["script", "k"] (spP ⟨K, cl, 0⟩ 2 P_law_cell) :=
  FunD.p (g := ⟨K, cl, 0⟩) T.d_law_cell rfl sc_law_cell fun cdv A outer s H E a ns z => s_one (s_ret (d_if (t_lt (d_var 1) (p_len z rfl rfl T.b_len rfl (.inl rfl))) (p_ix z rfl rfl rfl (.inl rfl) (d_var 1)) (d_plus z (d_mul (d_int) (d_var 1)) (d_mod (b_sum z T.b_sum (a_cons (p_sl z rfl rfl rfl (.inl rfl) (o_no) (o_so (d_int))) a_nil)) (d_int)))))
theorem sc_law_box : FnScope ["great"] ["great"] (defScope st_law_box) := ⟨rfl, rfl, rfl, by decide +kernel, rfl, by decide +kernel, by decide +kernel⟩
theorem okr_law_box (T : Tx K mg ad fd cl) : FnG P w K mg base 1 (ad 21) (fd 21) ["great"] (spD ⟨K, cl, 0⟩ 1 R_law_box) :=
  FunD.d (g := ⟨K, cl, 0⟩) T.d_law_box rfl sc_law_box fun cdv A outer s H E z => s_one (s_ret (d_new (a_cons (b_abs z T.b_abs (a_cons (d_var 0) a_nil)) (a_cons (d_ge (b_abs z T.b_abs (a_cons (d_var 0) a_nil)) (d_pow (d_int) (d_int))) (a_cons (d_mod (b_int z T.b_int (a_cons (b_abs z T.b_abs (a_cons (d_var 0) a_nil)) a_nil)) (d_int)) (a_cons (d_int) a_nil))))))
theorem ok_law_box (T : Tx K mg ad fd cl) : FnG P w K mg base 1 (ad 21) (fd 21) ["great"] (spD ⟨K, cl, 0⟩ 1 F_law_box) := (okr_law_box T).fz
theorem sc_law_take : FnScope ["box", "many", "digit", "mixed"] ["box", "many"] (defScope st_law_take) := ⟨rfl, rfl, rfl, by decide +kernel, rfl, by decide +kernel, by decide +kernel⟩
theorem okr_law_take (T : Tx K mg ad fd cl) : FnG P w K mg base 1 (ad 22) (fd 22) ["box", "many"] (spD ⟨K, cl, 0⟩ 2 R_law_take) :=
  FunD.d (g := ⟨K, cl, 0⟩) T.d_law_take rfl sc_law_take fun cdv A outer s H E z => s_cons (s_if (((w_and (t_tru z (d_ix z (d_var 0) (d_int))) (pw_and1 (t_gt (d_ix z (d_var 0) (d_int)) (d_int))))).pt) (s_cons (s_set 2 ok0 z.nd (d_mod (b_int z T.b_int (a_cons (d_ix z (d_var 0) (d_int)) a_nil)) (d_var 1))) (s_cons (s_put (d_divW (d_ix z (d_var 0) (d_int)) (d_var 1)) (d_var 0) (d_int)) (s_one (s_ret (d_var 2))))) (s_nil)) (s_cons (s_put (d_plus z (d_ix z (d_var 0) (d_int)) (d_int)) (d_var 0) (d_int)) (s_cons (s_set 3 ok0 z.nd (d_mod (b_int z T.b_int (a_cons (d_pow (d_plus z (d_plus z (d_ix z (d_var 0) (d_int)) (d_mul (d_int) (d_ix z (d_var 0) (d_int)))) (d_int)) (d_int)) a_nil)) (d_int))) (s_one (s_ret (d_mod (d_divW (d_mod (b_int z T.b_int (a_cons (d_pow (d_plus z (d_mul (d_var 3) (d_int)) (d_mul (d_int) (d_ix z (d_var 0) (d_int)))) (d_int)) a_nil)) (d_int)) (d_int)) (d_var 1))))))
theorem ok_law_take (T : Tx K mg ad fd cl) : FnG P w K mg base 1 (ad 22) (fd 22) ["box", "many"] (spD ⟨K, cl, 0⟩ 2 F_law_take) := (okr_law_take T).fz
theorem sc_law_alarm : FnScope ["box", "up"] ["box"] (defScope st_law_alarm) := ⟨rfl, rfl, rfl, by decide +kernel, rfl, by decide +kernel, by decide +kernel⟩
theorem okr_law_alarm (T : Tx K mg ad fd cl) : FnG P w K mg base 2 (ad 23) (fd 23) ["box"] (spD ⟨K, cl, 0⟩ 1 R_law_alarm) :=
  FunD.d (g := ⟨K, cl, 0⟩) T.d_law_alarm rfl sc_law_alarm fun cdv A outer s H E z => s_cons (s_set 1 ok0 z.nd (d_ix z (d_lst (a_cons (d_int) (a_cons (d_int) (a_cons (d_neg (d_int)) (a_cons (d_pow (d_int) (d_int)) (a_cons (d_int) a_nil)))))) (d_call 1 z (ok_law_take T) (by decide) T.m_law_take T.kp_law_take (kb_law_take T.d_law_take) (arr_v _ 2) (pakd_v (a_cons (d_var 0) (a_cons (d_int) a_nil)))))) (s_one (s_ret (d_tup (a_cons (d_var 1) (a_cons (d_sub (d_var 1) (d_ix z (d_lst (a_cons (d_int) (a_cons (d_int) (a_cons (d_int) (a_cons (d_int) (a_cons (d_pow (d_int) (d_int)) a_nil)))))) (d_call 1 z (ok_law_take T) (by decide) T.m_law_take T.kp_law_take (kb_law_take T.d_law_take) (arr_v _ 2) (pakd_v (a_cons (d_var 0) (a_cons (d_int) a_nil)))))) (a_cons (d_plus z (d_int) (d_call 1 z (ok_law_take T) (by decide) T.m_law_take T.kp_law_take (kb_law_take T.d_law_take) (arr_v _ 2) (pakd_v (a_cons (d_var 0) (a_cons (d_ix z (d_lst (a_cons (d_int) (a_cons (d_int) a_nil))) (d_call 1 z (ok_law_take T) (by decide) T.m_law_take T.kp_law_take (kb_law_take T.d_law_take) (arr_v _ 2) (pakd_v (a_cons (d_var 0) (a_cons (d_int) a_nil))))) a_nil))))) (a_cons (d_plus z (d_int) (d_call 1 z (ok_law_take T) (by decide) T.m_law_take T.kp_law_take (kb_law_take T.d_law_take) (arr_v _ 2) (pakd_v (a_cons (d_var 0) (a_cons (d_ix z (d_lst (a_cons (d_int) (a_cons (d_int) a_nil))) (d_call 1 z (ok_law_take T) (by decide) T.m_law_take T.kp_law_take (kb_law_take T.d_law_take) (arr_v _ 2) (pakd_v (a_cons (d_var 0) (a_cons (d_int) a_nil))))) a_nil))))) a_nil)))))))
theorem ok_law_alarm (T : Tx K mg ad fd cl) : FnG P w K mg base 2 (ad 23) (fd 23) ["box"] (spD ⟨K, cl, 0⟩ 1 F_law_alarm) := (okr_law_alarm T).fz
theorem sc_law_one : FnScope ["box", "up", "down", "kind", "unit"] ["box", "up", "down", "kind"] (defScope st_law_one) := ⟨rfl, rfl, rfl, by decide +kernel, rfl, by decide +kernel, by decide +kernel⟩
theorem okr_law_one (T : Tx K mg ad fd cl) : FnG P w K mg base 2 (ad 24) (fd 24) ["box", "up", "down", "kind"] (spD ⟨K, cl, 0⟩ 4 R_law_one) :=
  FunD.d (g := ⟨K, cl, 0⟩) T.d_law_one rfl sc_law_one fun cdv A outer s H E z => s_cons (s_set 4 ok0 z.nd (d_plus z (d_int) (d_call 1 z (ok_law_take T) (by decide) T.m_law_take T.kp_law_take (kb_law_take T.d_law_take) (arr_v _ 2) (pakd_v (a_cons (d_var 0) (a_cons (d_int) a_nil)))))) (s_cons (s_if (t_eq z (d_var 3) (d_int)) (s_one (s_ret (d_ix z (d_lst (a_cons (d_tup (a_cons (d_var 1) (a_cons (d_int) a_nil))) (a_cons (d_tup (a_cons (d_plus z (d_var 1) (d_int)) (a_cons (d_int) a_nil))) (a_cons (d_tup (a_cons (d_plus z (d_mul (d_var 1) (d_var 4)) (d_int)) (a_cons (d_var 4) a_nil))) (a_cons (d_tup (a_cons (d_plus z (d_var 1) (d_pow (d_int) (d_int))) (a_cons (d_int) a_nil))) a_nil))))) (d_call 1 z (ok_law_take T) (by decide) T.m_law_take T.kp_law_take (kb_law_take T.d_law_take) (arr_v _ 2) (pakd_v (a_cons (d_var 0) (a_cons (d_int) a_nil))))))) (s_nil)) (s_cons (s_if (t_eq z (d_var 3) (d_int)) (s_one (s_ret (d_ix z (d_lst (a_cons (d_tup (a_cons (d_sub (d_var 2) (d_int)) (a_cons (d_int) a_nil))) (a_cons (d_tup (a_cons (d_sub (d_mul (d_var 2) (d_var 4)) (d_int)) (a_cons (d_var 4) a_nil))) (a_cons (d_tup (a_cons (d_sub (d_var 2) (d_pow (d_int) (d_int))) (a_cons (d_int) a_nil))) a_nil)))) (d_call 1 z (ok_law_take T) (by decide) T.m_law_take T.kp_law_take (kb_law_take T.d_law_take) (arr_v _ 2) (pakd_v (a_cons (d_var 0) (a_cons (d_int) a_nil))))))) (s_nil)) (s_cons (s_if (((w_and (t_eq z (d_var 3) (d_int)) (pw_and1 (t_gt (d_var 1) (d_var 2))))).pt) (s_one (s_ret (d_ix z (d_lst (a_cons (d_tup (a_cons (d_var 2) (a_cons (d_int) a_nil))) (a_cons (d_tup (a_cons (d_plus z (d_mul (d_var 2) (d_var 4)) (d_int)) (a_cons (d_var 4) a_nil))) (a_cons (d_tup (a_cons (d_sub (d_mul (d_var 1) (d_var 4)) (d_int)) (a_cons (d_var 4) a_nil))) a_nil)))) (d_call 1 z (ok_law_take T) (by decide) T.m_law_take T.kp_law_take (kb_law_take T.d_law_take) (arr_v _ 2) (pakd_v (a_cons (d_var 0) (a_cons (d_int) a_nil))))))) (s_nil)) (s_one (s_ret (d_non))))))
theorem ok_law_one (T : Tx K mg ad fd cl) : FnG P w K mg base 2 (ad 24) (fd 24) ["box", "up", "down", "kind"] (spD ⟨K, cl, 0⟩ 4 F_law_one) := (okr_law_one T).fz
theorem sc_law_lowest : FnScope ["answer", "one", "other"] ["answer"] (defScope st_law_lowest) := ⟨rfl, rfl, rfl, by decide +kernel, rfl, by decide +kernel, by decide +kernel⟩
theorem okr_law_lowest (T : Tx K mg ad fd cl) : FnG P w K mg base 1 (ad 25) (fd 25) ["answer"] (spD ⟨K, cl, 0⟩ 1 R_law_lowest) :=
  FunD.d (g := ⟨K, cl, 0⟩) T.d_law_lowest rfl sc_law_lowest fun cdv A outer s H E z => s_cons (s_if (t_isN (d_var 0) d_non) (s_one (s_ret (d_non))) (s_nil)) (s_cons (s_par 1 2 z ok0 ok0 z.nd (a_cons (b_abs z T.b_abs (a_cons (d_ix z (d_var 0) (d_int)) a_nil)) (a_cons (d_ix z (d_var 0) (d_int)) a_nil))) (s_cons (s_while z (t_ne z (d_var 2) (d_int)) (s_one (s_par 1 2 z ok0 ok0 z.nd (a_cons (d_var 2) (a_cons (d_mod (b_int z T.b_int (a_cons (d_var 1) a_nil)) (d_var 2)) a_nil))))) (s_one (s_ret (d_tup (a_cons (d_divW (d_ix z (d_var 0) (d_int)) (d_var 1)) (a_cons (d_divW (d_ix z (d_var 0) (d_int)) (d_var 1)) a_nil)))))))
theorem ok_law_lowest (T : Tx K mg ad fd cl) : FnG P w K mg base 1 (ad 25) (fd 25) ["answer"] (spD ⟨K, cl, 0⟩ 1 F_law_lowest) := (okr_law_lowest T).fz
theorem sc_law_is_high : FnScope ["answer", "up"] ["answer", "up"] (defScope st_law_is_high) := ⟨rfl, rfl, rfl, by decide +kernel, rfl, by decide +kernel, by decide +kernel⟩
theorem okr_law_is_high (T : Tx K mg ad fd cl) : FnG P w K mg base 1 (ad 26) (fd 26) ["answer", "up"] (spD ⟨K, cl, 0⟩ 2 R_law_is_high) :=
  FunD.d (g := ⟨K, cl, 0⟩) T.d_law_is_high rfl sc_law_is_high fun cdv A outer s H E z => s_one (s_ret ((d_and (d_notN (d_var 0) d_non) (pe_one (d_ge (d_ix z (d_var 0) (d_int)) (d_mul (d_var 1) (d_ix z (d_var 0) (d_int))))))))
theorem ok_law_is_high (T : Tx K mg ad fd cl) : FnG P w K mg base 1 (ad 26) (fd 26) ["answer", "up"] (spD ⟨K, cl, 0⟩ 2 F_law_is_high) := (okr_law_is_high T).fz
theorem sc_law_is_low : FnScope ["answer", "down"] ["answer", "down"] (defScope st_law_is_low) := ⟨rfl, rfl, rfl, by decide +kernel, rfl, by decide +kernel, by decide +kernel⟩
theorem okr_law_is_low (T : Tx K mg ad fd cl) : FnG P w K mg base 1 (ad 27) (fd 27) ["answer", "down"] (spD ⟨K, cl, 0⟩ 2 R_law_is_low) :=
  FunD.d (g := ⟨K, cl, 0⟩) T.d_law_is_low rfl sc_law_is_low fun cdv A outer s H E z => s_one (s_ret ((d_and (d_notN (d_var 0) d_non) (pe_one (d_lt (d_ix z (d_var 0) (d_int)) (d_mul (d_var 1) (d_ix z (d_var 0) (d_int))))))))
theorem ok_law_is_low (T : Tx K mg ad fd cl) : FnG P w K mg base 1 (ad 27) (fd 27) ["answer", "down"] (spD ⟨K, cl, 0⟩ 2 F_law_is_low) := (okr_law_is_low T).fz
theorem sc_law_states : FnScope ["bounds", "answers", "state", "up", "down", "rise", "fall", "raised", "many", "found", "answer"] ["bounds", "answers", "state"] (defScope st_law_states) := ⟨rfl, rfl, rfl, by decide +kernel, rfl, by decide +kernel, by decide +kernel⟩
theorem okr_law_states (T : Tx K mg ad fd cl) : FnG P w K mg base 2 (ad 28) (fd 28) ["bounds", "answers", "state"] (spD ⟨K, cl, 0⟩ 3 R_law_states) :=
  FunD.d (g := ⟨K, cl, 0⟩) T.d_law_states rfl sc_law_states fun cdv A outer s H E z => s_cons (s_asg (d_var 0) (g_tup z (gs_cons (g_name 3 ok0 z.nd) (gs_cons (g_name 4 ok0 z.nd) (gs_cons (g_name 5 ok0 z.nd) (gs_cons (g_name 6 ok0 z.nd) gs_nil)))))) (s_cons (s_par3 7 8 9 z ok0 ok0 ok0 z.nd (a_cons (d_ge (d_var 2) (d_var 5)) (a_cons (d_sub (d_var 2) (d_if (t_ge (d_var 2) (d_var 5)) (d_var 5) (d_int))) (a_cons (d_new a_nil) a_nil)))) (s_cons (s_for z (i_seq z (d_var 1)) (g_name 10 ok0 z.nd) (s_cons (s_if (t_tru z (d_var 7)) (s_cons (s_set 8 ok0 z.nd (d_if (t_tru z (d_call 0 z (ok_law_is_low T) (by decide) T.m_law_is_low T.kp_law_is_low (kb_law_is_low T.d_law_is_low) (arr_v _ 2) (pakd_v (a_cons (d_var 10) (a_cons (d_var 4) a_nil))))) (d_plus z (d_var 8) (d_int)) (d_int))) (s_one (s_if (t_eq z (d_var 8) (d_var 6)) (s_one (s_asg (d_tup (a_cons (d_bl) (a_cons (d_int) a_nil))) (g_tup z (gs_cons (g_name 7 ok0 z.nd) (gs_cons (g_name 8 ok0 z.nd) gs_nil))))) (s_nil)))) (s_cons (s_set 8 ok0 z.nd (d_if (t_tru z (d_call 0 z (ok_law_is_high T) (by decide) T.m_law_is_high T.kp_law_is_high (kb_law_is_high T.d_law_is_high) (arr_v _ 2) (pakd_v (a_cons (d_var 10) (a_cons (d_var 3) a_nil))))) (d_plus z (d_var 8) (d_int)) (d_int))) (s_one (s_if (t_eq z (d_var 8) (d_var 5)) (s_one (s_asg (d_tup (a_cons (d_bl) (a_cons (d_int) a_nil))) (g_tup z (gs_cons (g_name 7 ok0 z.nd) (gs_cons (g_name 8 ok0 z.nd) gs_nil))))) (s_nil))))) (s_one (s_expr (d_app z (d_var 9) (a_cons (d_plus z (d_var 8) (d_if (t_tru z (d_var 7)) (d_var 5) (d_int))) a_nil)))))) (s_one (s_ret (d_var 9)))))
theorem ok_law_states (T : Tx K mg ad fd cl) : FnG P w K mg base 2 (ad 28) (fd 28) ["bounds", "answers", "state"] (spD ⟨K, cl, 0⟩ 3 F_law_states) := (okr_law_states T).fz
theorem sc_law_runs_in : FnScope ["marks", "best", "now", "mark"] ["marks"] (defScope st_law_runs_in) := ⟨rfl, rfl, rfl, by decide +kernel, rfl, by decide +kernel, by decide +kernel⟩
theorem okr_law_runs_in (T : Tx K mg ad fd cl) : FnG P w K mg base 1 (ad 29) (fd 29) ["marks"] (spD ⟨K, cl, 0⟩ 1 R_law_runs_in) :=
  FunD.d (g := ⟨K, cl, 0⟩) T.d_law_runs_in rfl sc_law_runs_in fun cdv A outer s H E z => s_cons (s_asg (d_tup (a_cons (d_int) (a_cons (d_int) a_nil))) (g_tup z (gs_cons (g_name 1 ok0 z.nd) (gs_cons (g_name 2 ok0 z.nd) gs_nil)))) (s_cons (s_for z (i_seq z (d_var 0)) (g_name 3 ok0 z.nd) (s_cons (s_set 2 ok0 z.nd (d_if (t_tru z (d_var 3)) (d_plus z (d_var 2) (d_int)) (d_int))) (s_one (s_set 1 ok0 z.nd (b_max2 z T.b_max (a_cons (d_var 1) (a_cons (d_var 2) a_nil))))))) (s_one (s_ret (d_var 1))))
theorem ok_law_runs_in (T : Tx K mg ad fd cl) : FnG P w K mg base 1 (ad 29) (fd 29) ["marks"] (spD ⟨K, cl, 0⟩ 1 F_law_runs_in) := (okr_law_runs_in T).fz
theorem sc_law_row : FnScope ["box", "bounds", "up", "down", "rise", "fall", "found", "turn", "kind", "run", "step"] ["box", "bounds"] (defScope st_law_row) := ⟨rfl, rfl, rfl, by decide +kernel, rfl, by decide +kernel, by decide +kernel⟩
theorem okr_law_row (T : Tx K mg ad fd cl) : FnG P w K mg base 3 (ad 30) (fd 30) ["box", "bounds"] (spD ⟨K, cl, 0⟩ 2 R_law_row) :=
  FunD.d (g := ⟨K, cl, 0⟩) T.d_law_row rfl sc_law_row fun cdv A outer s H E z => s_cons (s_asg (d_var 1) (g_tup z (gs_cons (g_name 2 ok0 z.nd) (gs_cons (g_name 3 ok0 z.nd) (gs_cons (g_name 4 ok0 z.nd) (gs_cons (g_name 5 ok0 z.nd) gs_nil)))))) (s_cons (s_set 6 ok0 z.nd (d_lst a_nil)) (s_cons (s_for z (i_rg1 rfl T.b_range (a_cons (d_call 1 z (ok_law_take T) (by decide) T.m_law_take T.kp_law_take (kb_law_take T.d_law_take) (arr_v _ 2) (pakd_v (a_cons (d_var 0) (a_cons (d_int) a_nil)))) a_nil)) (g_name 7 ok0 z.nd) (s_cons (s_set 8 ok0 z.nd (d_call 1 z (ok_law_take T) (by decide) T.m_law_take T.kp_law_take (kb_law_take T.d_law_take) (arr_v _ 2) (pakd_v (a_cons (d_var 0) (a_cons (d_int) a_nil))))) (s_cons (s_set 9 ok0 z.nd (d_if (t_eq z (d_var 8) (d_int)) (d_ix z (d_lst (a_cons (d_var 4) (a_cons (d_sub (d_var 4) (d_int)) (a_cons (d_int) a_nil)))) (d_call 1 z (ok_law_take T) (by decide) T.m_law_take T.kp_law_take (kb_law_take T.d_law_take) (arr_v _ 2) (pakd_v (a_cons (d_var 0) (a_cons (d_int) a_nil))))) (d_ix z (d_lst (a_cons (d_var 5) (a_cons (d_sub (d_var 5) (d_int)) (a_cons (d_int) a_nil)))) (d_call 1 z (ok_law_take T) (by decide) T.m_law_take T.kp_law_take (kb_law_take T.d_law_take) (arr_v _ 2) (pakd_v (a_cons (d_var 0) (a_cons (d_int) a_nil))))))) (s_one (s_set 6 ok0 z.nd (d_plus z (d_var 6) (d_lc (own := [("step", 10)]) z rfl (blk_ok (N := ["box", "bounds", "up", "down", "rise", "fall", "found", "turn", "kind", "run", "step"]) (sc := defScope st_law_row) (by decide +kernel)) (by decide) (i_rg1 rfl T.b_range (a_cons (d_var 9) a_nil)) (fun _ _ _ _ _ => (g_name 10 okn (z.blk _ _ _ _ _).nd)) (fun _ _ _ _ _ => ts_nil) (fun _ _ _ _ _ => d_call 0 (z.blk _ _ _ _ _) (ok_law_lowest T) (by decide) T.m_law_lowest T.kp_law_lowest (kb_law_lowest T.d_law_lowest) (arr_v _ 1) (pakd_v (a_cons (d_call 1 (z.blk _ _ _ _ _) (ok_law_one T) (by decide) T.m_law_one T.kp_law_one (kb_law_one T.d_law_one) (arr_v _ 4) (pakd_v (a_cons (d_var 0) (a_cons (d_var 2) (a_cons (d_var 3) (a_cons (d_var 8) a_nil)))))) a_nil)))))))))) (s_one (s_ret (d_sl z (d_var 6) (o_no) (o_so (d_int)))))))
theorem ok_law_row (T : Tx K mg ad fd cl) : FnG P w K mg base 3 (ad 30) (fd 30) ["box", "bounds"] (spD ⟨K, cl, 0⟩ 2 F_law_row) := (okr_law_row T).fz
theorem sc_law_moves : FnScope ["bounds", "answers", "found", "state", "walk"] ["bounds", "answers"] (defScope st_law_moves) := ⟨rfl, rfl, rfl, by decide +kernel, rfl, by decide +kernel, by decide +kernel⟩
theorem okr_law_moves (T : Tx K mg ad fd cl) : FnG P w K mg base 3 (ad 31) (fd 31) ["bounds", "answers"] (spD ⟨K, cl, 0⟩ 2 R_law_moves) :=
  FunD.d (g := ⟨K, cl, 0⟩) T.d_law_moves rfl sc_law_moves fun cdv A outer s H E z => s_cons (s_set 2 ok0 z.nd (d_new a_nil)) (s_cons (s_for z (i_rg1 rfl T.b_range (a_cons (d_plus z (d_ix z (d_var 0) (d_int)) (d_ix z (d_var 0) (d_int))) a_nil)) (g_name 3 ok0 z.nd) (s_cons (s_set 4 ok0 z.nd (d_call 0 z (ok_law_states T) (by decide) T.m_law_states T.kp_law_states (kb_law_states T.d_law_states) (arr_v _ 3) (pakd_v (a_cons (d_var 0) (a_cons (d_var 1) (a_cons (d_var 3) a_nil)))))) (s_one (s_expr (d_app z (d_var 2) (a_cons (d_if (t_ne z (d_var 4) (d_lst a_nil)) (d_ix z (d_var 4) (d_neg (d_int))) (d_var 3)) a_nil)))))) (s_one (s_ret (b_tuple z T.b_tuple (a_cons (d_var 2) a_nil)))))
theorem ok_law_moves (T : Tx K mg ad fd cl) : FnG P w K mg base 3 (ad 31) (fd 31) ["bounds", "answers"] (spD ⟨K, cl, 0⟩ 2 F_law_moves) := (okr_law_moves T).fz
theorem sc_law_put_together : FnScope ["box", "alarm", "answers", "bounds", "places", "parts", "at", "turn", "k"] ["box", "alarm", "answers", "bounds"] (defScope st_law_put_together) := ⟨rfl, rfl, rfl, by decide +kernel, rfl, by decide +kernel, by decide +kernel⟩
theorem okr_law_put_together (T : Tx K mg ad fd cl) : FnG P w K mg base 7 (ad 32) (fd 32) ["box", "alarm", "answers", "bounds"] (spD ⟨K, cl, 0⟩ 4 R_law_put_together) :=
  FunD.d (g := ⟨K, cl, 0⟩) T.d_law_put_together rfl sc_law_put_together fun cdv A outer s H E z => s_cons (s_set 4 ok0 z.nd (b_sorted z T.b_sorted (a_cons (d_plus z (d_lst (a_cons (d_int) (a_cons (b_len z T.b_len (a_cons (d_var 2) a_nil)) a_nil))) (d_lc (own := [("turn", 7)]) z rfl (blk_ok (N := ["box", "alarm", "answers", "bounds", "places", "parts", "at", "turn", "k"]) (sc := defScope st_law_put_together) (by decide +kernel)) (by decide) (i_rg1 rfl T.b_range (a_cons (d_call 1 z (ok_law_take T) (by decide) T.m_law_take T.kp_law_take (kb_law_take T.d_law_take) (arr_v _ 2) (pakd_v (a_cons (d_var 0) (a_cons (d_int) a_nil)))) a_nil)) (fun _ _ _ _ _ => (g_name 7 okn (z.blk _ _ _ _ _).nd)) (fun _ _ _ _ _ => ts_nil) (fun _ _ _ _ _ => d_call 1 (z.blk _ _ _ _ _) (ok_law_take T) (by decide) T.m_law_take T.kp_law_take (kb_law_take T.d_law_take) (arr_v _ 2) (pakd_v (a_cons (d_var 0) (a_cons (d_plus (z.blk _ _ _ _ _) (b_len (z.blk _ _ _ _ _) T.b_len (a_cons (d_var 2) a_nil)) (d_int)) a_nil)))))) a_nil))) (s_cons (s_setLcN 5 (own := [("k", 8)]) z rfl (blk_ok (N := ["box", "alarm", "answers", "bounds", "places", "parts", "at", "turn", "k"]) (sc := defScope st_law_put_together) (by decide +kernel)) (by decide) (i_rg2 rfl T.b_range (a_cons (d_int) (a_cons (b_len z T.b_len (a_cons (d_var 4) a_nil)) a_nil))) (fun _ _ _ _ _ => (g_name 8 okn (z.blk _ _ _ _ _).nd)) (fun _ _ _ _ _ => ts_nil) (fun _ _ _ _ _ => d_meth 0 0 (z.blk _ _ _ _ _) T.cl_Alarm T.me_Alarm_moves (ok_Alarm_moves T) (by decide) (kb_Alarm_moves T.d_Alarm_moves) (arr_v _ 2) (d_var 1) (pakd_v (a_cons (d_sl (z.blk _ _ _ _ _) (d_var 2) (o_so (d_ix (z.blk _ _ _ _ _) (d_var 4) (d_sub (d_var 8) (d_int)))) (o_so (d_ix (z.blk _ _ _ _ _) (d_var 4) (d_var 8)))) a_nil)))) (s_cons (s_while z (t_gt (b_len z T.b_len (a_cons (d_var 5) a_nil)) (d_int)) (s_fr (fun _ q => nomatch q) (s_cons (s_set 6 ok0 z.nd (d_call 1 z (ok_law_take T) (by decide) T.m_law_take T.kp_law_take (kb_law_take T.d_law_take) (arr_v _ 2) (pakd_v (a_cons (d_var 0) (a_cons (d_sub (b_len z T.b_len (a_cons (d_var 5) a_nil)) (d_int)) a_nil))))) (s_one (s_putSl (d_new (a_cons (d_call 0 z (ok_then T) (by decide) T.m_then T.kp_then (kb_then T.d_then) (arr_v _ 2) (pakd_v (a_cons (d_ix z (d_var 5) (d_var 6)) (a_cons (d_ix z (d_var 5) (d_plus z (d_var 6) (d_int))) a_nil)))) a_nil)) (d_var 5) (o_so (d_var 6)) (o_so (d_plus z (d_var 6) (d_int)))))))) (s_one (s_ret (d_ix z (d_var 5) (d_int))))))
theorem ok_law_put_together (T : Tx K mg ad fd cl) : FnG P w K mg base 7 (ad 32) (fd 32) ["box", "alarm", "answers", "bounds"] (spD ⟨K, cl, 0⟩ 4 F_law_put_together) := (okr_law_put_together T).fz
theorem sc_law_row_right : FnScope ["box", "alarm", "bounds", "answers", "up", "down", "rise", "fall", "own", "given", "told", "still", "due", "high", "low", "answer"] ["box", "alarm", "bounds", "answers"] (defScope st_law_row_right) := ⟨rfl, rfl, rfl, by decide +kernel, rfl, by decide +kernel, by decide +kernel⟩
theorem okr_law_row_right (T : Tx K mg ad fd cl) : FnG P w K mg base 8 (ad 33) (fd 33) ["box", "alarm", "bounds", "answers"] (spD ⟨K, cl, 0⟩ 4 R_law_row_right) :=
  FunD.d (g := ⟨K, cl, 0⟩) T.d_law_row_right rfl sc_law_row_right fun cdv A outer s H E z => s_cons (s_asg (d_var 2) (g_tup z (gs_cons (g_name 4 ok0 z.nd) (gs_cons (g_name 5 ok0 z.nd) (gs_cons (g_name 6 ok0 z.nd) (gs_cons (g_name 7 ok0 z.nd) gs_nil)))))) (s_cons (s_par 8 9 z ok0 ok0 z.nd (a_cons (d_call 0 z (ok_law_moves T) (by decide) T.m_law_moves T.kp_law_moves (kb_law_moves T.d_law_moves) (arr_v _ 2) (pakd_v (a_cons (d_var 2) (a_cons (d_var 3) a_nil)))) (a_cons (b_list z T.b_list (a_cons (d_var 3) a_nil)) a_nil))) (s_cons (s_set 10 ok0 z.nd (d_meth 0 0 z T.cl_Alarm T.me_Alarm_moves (ok_Alarm_moves T) (by decide) (kb_Alarm_moves T.d_Alarm_moves) (arr_v _ 2) (d_var 1) (pakd_v (a_cons (d_var 9) a_nil)))) (s_cons (s_if (((w_or (t_ne z (b_repr z T.b_repr (a_cons (d_var 10) a_nil)) (b_repr z T.b_repr (a_cons (d_var 8) a_nil))) (w_or (t_ne z (b_repr z T.b_repr (a_cons (d_meth 0 0 z T.cl_Alarm T.me_Alarm_moves (ok_Alarm_moves T) (by decide) (kb_Alarm_moves_1_answers T.d_Alarm_moves) (arr_p [(0, 0), (1, 0)] 1 1 2 [] [] (fun _ _ => by first | exact rfl | exact ⟨_, _, rfl, rfl, rfl⟩ | exact ⟨_, _, rfl, rfl, _, _, rfl, rfl, rfl⟩) rfl (by decide)) (d_var 1) (pakd_k (k_cons (b_tuple z T.b_tuple (a_cons (d_var 9) a_nil)) k_nil))) a_nil)) (b_repr z T.b_repr (a_cons (d_var 8) a_nil))) (pw_or1 (t_ne z (d_var 9) (d_var 3)))))).pt) (s_one (s_ret (d_bl))) (s_nil)) (s_cons (s_if (t_ne z (b_repr z T.b_repr (a_cons (d_call 1 z (ok_law_put_together T) (by decide) T.m_law_put_together T.kp_law_put_together (kb_law_put_together T.d_law_put_together) (arr_v _ 4) (pakd_v (a_cons (d_var 0) (a_cons (d_var 1) (a_cons (d_var 3) (a_cons (d_var 2) a_nil)))))) a_nil)) (b_repr z T.b_repr (a_cons (d_var 8) a_nil))) (s_one (s_ret (d_bl))) (s_nil)) (s_cons (s_set 11 ok0 z.nd (d_meth 0 0 z T.cl_Alarm T.me_Alarm_moves (ok_Alarm_moves T) (by decide) (kb_Alarm_moves T.d_Alarm_moves) (arr_v _ 2) (d_var 1) (pakd_v (a_cons (d_lst a_nil) a_nil)))) (s_cons (s_if (((w_or (t_ne z (b_repr z T.b_repr (a_cons (d_var 11) a_nil)) (b_repr z T.b_repr (a_cons (d_tupRg z T.b_tuple T.b_range (d_plus z (d_var 6) (d_var 7))) a_nil))) (pw_or1 (t_ne z (b_repr z T.b_repr (a_cons (d_lst (a_cons (d_call 0 z (ok_then T) (by decide) T.m_then T.kp_then (kb_then T.d_then) (arr_v _ 2) (pakd_v (a_cons (d_var 11) (a_cons (d_var 8) a_nil)))) (a_cons (d_call 0 z (ok_then T) (by decide) T.m_then T.kp_then (kb_then T.d_then) (arr_v _ 2) (pakd_v (a_cons (d_var 8) (a_cons (d_var 11) a_nil)))) a_nil))) a_nil)) (b_repr z T.b_repr (a_cons (d_lst (a_cons (d_var 8) (a_cons (d_var 8) a_nil))) a_nil)))))).pt) (s_one (s_ret (d_bl))) (s_nil)) (s_cons (s_set 12 ok0 z.nd (b_sortSet z T.b_sorted T.b_set (a_cons (d_var 8) a_nil))) (s_cons (s_if (((w_or (t_ne z (b_repr z T.b_repr (a_cons (d_call 0 z (ok_possible T) (by decide) T.m_possible T.kp_possible (kb_possible T.d_possible) (arr_v _ 1) (pakd_v (a_cons (d_var 10) a_nil))) a_nil)) (b_repr z T.b_repr (a_cons (d_var 12) a_nil))) (pw_or1 (t_ne z (b_repr z T.b_repr (a_cons (d_call 0 z (ok_settled T) (by decide) T.m_settled T.kp_settled (kb_settled T.d_settled) (arr_v _ 1) (pakd_v (a_cons (d_var 10) a_nil))) a_nil)) (b_repr z T.b_repr (a_cons (d_if (t_eq z (b_len z T.b_len (a_cons (d_var 12) a_nil)) (d_int)) (d_ix z (d_var 12) (d_int)) (d_non)) a_nil)))))).pt) (s_one (s_ret (d_bl))) (s_nil)) (s_cons (s_set 13 ok0 z.nd (d_call 0 z (ok_law_runs_in T) (by decide) T.m_law_runs_in T.kp_law_runs_in (kb_law_runs_in T.d_law_runs_in) (arr_v _ 1) (pakd_v (a_cons (d_lc (own := [("answer", 15)]) z rfl (blk_ok (N := ["box", "alarm", "bounds", "answers", "up", "down", "rise", "fall", "own", "given", "told", "still", "due", "high", "low", "answer"]) (sc := defScope st_law_row_right) (by decide +kernel)) (by decide) (i_seq z (d_var 3)) (fun _ _ _ _ _ => (g_name 15 okn (z.blk _ _ _ _ _).nd)) (fun _ _ _ _ _ => ts_nil) (fun _ _ _ _ _ => d_call 0 (z.blk _ _ _ _ _) (ok_law_is_high T) (by decide) T.m_law_is_high T.kp_law_is_high (kb_law_is_high T.d_law_is_high) (arr_v _ 2) (pakd_v (a_cons (d_var 15) (a_cons (d_var 4) a_nil))))) a_nil)))) (s_cons (s_set 14 ok0 z.nd (d_call 0 z (ok_law_runs_in T) (by decide) T.m_law_runs_in T.kp_law_runs_in (kb_law_runs_in T.d_law_runs_in) (arr_v _ 1) (pakd_v (a_cons (d_lc (own := [("answer", 15)]) z rfl (blk_ok (N := ["box", "alarm", "bounds", "answers", "up", "down", "rise", "fall", "own", "given", "told", "still", "due", "high", "low", "answer"]) (sc := defScope st_law_row_right) (by decide +kernel)) (by decide) (i_seq z (d_var 3)) (fun _ _ _ _ _ => (g_name 15 okn (z.blk _ _ _ _ _).nd)) (fun _ _ _ _ _ => ts_nil) (fun _ _ _ _ _ => d_call 0 (z.blk _ _ _ _ _) (ok_law_is_low T) (by decide) T.m_law_is_low T.kp_law_is_low (kb_law_is_low T.d_law_is_low) (arr_v _ 2) (pakd_v (a_cons (d_var 15) (a_cons (d_var 5) a_nil))))) a_nil)))) (s_one (s_ret (d_eq z (d_notN (d_call 0 z (ok_settled T) (by decide) T.m_settled T.kp_settled (kb_settled T.d_settled) (arr_v _ 1) (pakd_v (a_cons (d_var 10) a_nil))) d_non) ((d_or (d_ge (d_var 13) (d_var 6)) (pe_one (d_ge (d_var 14) (d_var 7))))))))))))))))))
theorem ok_law_row_right (T : Tx K mg ad fd cl) : FnG P w K mg base 8 (ad 33) (fd 33) ["box", "alarm", "bounds", "answers"] (spD ⟨K, cl, 0⟩ 4 F_law_row_right) := (okr_law_row_right T).fz
theorem sc_law_refused : FnScope ["one", "other", "e"] ["one", "other"] (defScope st_law_refused) := ⟨rfl, rfl, rfl, by decide +kernel, rfl, by decide +kernel, by decide +kernel⟩
theorem okr_law_refused (T : Tx K mg ad fd cl) : FnG P w K mg base 5 (ad 34) (fd 34) ["one", "other"] (spD ⟨K, cl, 0⟩ 2 R_law_refused) :=
  FunD.d (g := ⟨K, cl, 0⟩) T.d_law_refused rfl sc_law_refused fun cdv A outer s H E z => s_cons (s_try z rfl rfl rfl (fun W pn xe zt => s_one (s_expr (d_call 0 zt (ok_then T) (by decide) T.m_then T.kp_then (kb_then T.d_then) (arr_v _ 2) (pakd_v (a_cons (d_var 0) (a_cons (d_var 1) a_nil)))))) (.named ⟨rfl, by decide, .inl T.mc_InvalidMoves⟩ rfl rfl T.x_InvalidMoves (fun a oe cls d pn xx fs hz hf hx => by obtain rfl : xx = 4 := only_true (by decide) hx; exact s_one (s_ret (su_d_eq (z.su _ _) (su_b_repr (z.su _ _) T.b_repr (a_cons ((d_xa T.e_InvalidMoves T.ea_InvalidMoves_given hz hf)) a_nil)) (su_b_repr (z.su _ _) T.b_repr (a_cons (d_tup (a_cons (d_var 0) (a_cons (d_var 1) a_nil))) a_nil))))) .nil)) (s_one (s_ret (d_bl)))
theorem ok_law_refused (T : Tx K mg ad fd cl) : FnG P w K mg base 5 (ad 34) (fd 34) ["one", "other"] (spD ⟨K, cl, 0⟩ 2 F_law_refused) := (okr_law_refused T).fz
theorem sc_law_not_moves : FnScope ["value", "found", "e"] ["value"] (defScope st_law_not_moves) := ⟨rfl, rfl, rfl, by decide +kernel, rfl, by decide +kernel, by decide +kernel⟩
theorem okr_law_not_moves (T : Tx K mg ad fd cl) : FnG P w K mg base 6 (ad 35) (fd 35) ["value"] (spD ⟨K, cl, 0⟩ 1 R_law_not_moves) :=
  FunD.d (g := ⟨K, cl, 0⟩) T.d_law_not_moves rfl sc_law_not_moves fun cdv A outer s H E z => s_cons (s_set 1 ok0 z.nd (d_int)) (s_cons (s_try z rfl rfl rfl (fun W pn xe zt => s_one (s_expr (d_call 0 zt (ok_possible T) (by decide) T.m_possible T.kp_possible (kb_possible T.d_possible) (arr_v _ 1) (pakd_v (a_cons (d_var 0) a_nil))))) (.named ⟨rfl, by decide, .inl T.mc_InvalidMoves⟩ rfl rfl T.x_InvalidMoves (fun a oe cls d pn xx fs hz hf hx => by obtain rfl : xx = 4 := only_true (by decide) hx; exact s_one (s_set 1 oks z.nd (su_d_plus (z.su _ _) (d_var 1) (su_b_int (z.su _ _) T.b_int (a_cons (su_d_eq (z.su _ _) (su_b_repr (z.su _ _) T.b_repr (a_cons ((d_xa T.e_InvalidMoves T.ea_InvalidMoves_given hz hf)) a_nil)) (su_b_repr (z.su _ _) T.b_repr (a_cons (d_var 0) a_nil))) a_nil))))) .nil)) (s_cons (s_try z rfl rfl rfl (fun W pn xe zt => s_one (s_expr (d_call 0 zt (ok_settled T) (by decide) T.m_settled T.kp_settled (kb_settled T.d_settled) (arr_v _ 1) (pakd_v (a_cons (d_var 0) a_nil))))) (.named ⟨rfl, by decide, .inl T.mc_InvalidMoves⟩ rfl rfl T.x_InvalidMoves (fun a oe cls d pn xx fs hz hf hx => by obtain rfl : xx = 4 := only_true (by decide) hx; exact s_one (s_set 1 oks z.nd (su_d_plus (z.su _ _) (d_var 1) (su_b_int (z.su _ _) T.b_int (a_cons (su_d_eq (z.su _ _) (su_b_repr (z.su _ _) T.b_repr (a_cons ((d_xa T.e_InvalidMoves T.ea_InvalidMoves_given hz hf)) a_nil)) (su_b_repr (z.su _ _) T.b_repr (a_cons (d_var 0) a_nil))) a_nil))))) .nil)) (s_one (s_ret (d_eq z (d_var 1) (d_int))))))
theorem ok_law_not_moves (T : Tx K mg ad fd cl) : FnG P w K mg base 6 (ad 35) (fd 35) ["value"] (spD ⟨K, cl, 0⟩ 1 F_law_not_moves) := (okr_law_not_moves T).fz
theorem sc_law_by_hand_right : FnScope ["box", "many", "one", "other", "at", "longer", "bad", "k", "value"] ["box"] (defScope st_law_by_hand_right) := ⟨rfl, rfl, rfl, by decide +kernel, rfl, by decide +kernel, by decide +kernel⟩
theorem okr_law_by_hand_right (T : Tx K mg ad fd cl) : FnG P w K mg base 7 (ad 36) (fd 36) ["box"] (spD ⟨K, cl, 0⟩ 1 R_law_by_hand_right) :=
  FunD.d (g := ⟨K, cl, 0⟩) T.d_law_by_hand_right rfl sc_law_by_hand_right fun cdv A outer s H E z => s_cons (s_set 1 ok0 z.nd (d_plus z (d_int) (d_call 1 z (ok_law_take T) (by decide) T.m_law_take T.kp_law_take (kb_law_take T.d_law_take) (arr_v _ 2) (pakd_v (a_cons (d_var 0) (a_cons (d_int) a_nil)))))) (s_cons (s_asg (d_tup (a_cons (b_tuple z T.b_tuple (a_cons (d_lc (own := [("k", 7)]) z rfl (blk_ok (N := ["box", "many", "one", "other", "at", "longer", "bad", "k", "value"]) (sc := defScope st_law_by_hand_right) (by decide +kernel)) (by decide) (i_rg1 rfl T.b_range (a_cons (d_var 1) a_nil)) (fun _ _ _ _ _ => (g_name 7 okn (z.blk _ _ _ _ _).nd)) (fun _ _ _ _ _ => ts_nil) (fun _ _ _ _ _ => d_call 1 (z.blk _ _ _ _ _) (ok_law_take T) (by decide) T.m_law_take T.kp_law_take (kb_law_take T.d_law_take) (arr_v _ 2) (pakd_v (a_cons (d_var 0) (a_cons (d_var 1) a_nil))))) a_nil)) (a_cons (b_tuple z T.b_tuple (a_cons (d_lc (own := [("k", 7)]) z rfl (blk_ok (N := ["box", "many", "one", "other", "at", "longer", "bad", "k", "value"]) (sc := defScope st_law_by_hand_right) (by decide +kernel)) (by decide) (i_rg1 rfl T.b_range (a_cons (d_var 1) a_nil)) (fun _ _ _ _ _ => (g_name 7 okn (z.blk _ _ _ _ _).nd)) (fun _ _ _ _ _ => ts_nil) (fun _ _ _ _ _ => d_call 1 (z.blk _ _ _ _ _) (ok_law_take T) (by decide) T.m_law_take T.kp_law_take (kb_law_take T.d_law_take) (arr_v _ 2) (pakd_v (a_cons (d_var 0) (a_cons (d_var 1) a_nil))))) a_nil)) a_nil))) (g_tup z (gs_cons (g_name 2 ok0 z.nd) (gs_cons (g_name 3 ok0 z.nd) gs_nil)))) (s_cons (s_if (((w_or (t_ne z (b_repr z T.b_repr (a_cons (d_call 0 z (ok_then T) (by decide) T.m_then T.kp_then (kb_then T.d_then) (arr_v _ 2) (pakd_v (a_cons (d_var 2) (a_cons (d_var 3) a_nil)))) a_nil)) (b_repr z T.b_repr (a_cons (b_tuple z T.b_tuple (a_cons (d_lc (own := [("k", 7)]) z rfl (blk_ok (N := ["box", "many", "one", "other", "at", "longer", "bad", "k", "value"]) (sc := defScope st_law_by_hand_right) (by decide +kernel)) (by decide) (i_rg1 rfl T.b_range (a_cons (d_var 1) a_nil)) (fun _ _ _ _ _ => (g_name 7 okn (z.blk _ _ _ _ _).nd)) (fun _ _ _ _ _ => ts_nil) (fun _ _ _ _ _ => d_ix (z.blk _ _ _ _ _) (d_var 3) (d_ix (z.blk _ _ _ _ _) (d_var 2) (d_var 7)))) a_nil)) a_nil))) (pw_or1 (t_ne z (b_repr z T.b_repr (a_cons (d_call 0 z (ok_then T) (by decide) T.m_then T.kp_then (kb_then_0_other_one T.d_then) (arr_p [(1, 1), (1, 0)] 0 2 2 [] [] (fun _ _ => by first | exact rfl | exact ⟨_, _, rfl, rfl, rfl⟩ | exact ⟨_, _, rfl, rfl, _, _, rfl, rfl, rfl⟩) rfl (by decide)) (pakd_k (k_cons (d_var 2) (k_cons (d_var 3) k_nil)))) a_nil)) (b_repr z T.b_repr (a_cons (b_tuple z T.b_tuple (a_cons (d_lc (own := [("k", 7)]) z rfl (blk_ok (N := ["box", "many", "one", "other", "at", "longer", "bad", "k", "value"]) (sc := defScope st_law_by_hand_right) (by decide +kernel)) (by decide) (i_rg1 rfl T.b_range (a_cons (d_var 1) a_nil)) (fun _ _ _ _ _ => (g_name 7 okn (z.blk _ _ _ _ _).nd)) (fun _ _ _ _ _ => ts_nil) (fun _ _ _ _ _ => d_ix (z.blk _ _ _ _ _) (d_var 2) (d_ix (z.blk _ _ _ _ _) (d_var 3) (d_var 7)))) a_nil)) a_nil)))))).pt) (s_one (s_ret (d_bl))) (s_nil)) (s_cons (s_if (((w_or (t_ne z (b_repr z T.b_repr (a_cons (d_call 0 z (ok_possible T) (by decide) T.m_possible T.kp_possible (kb_possible T.d_possible) (arr_v _ 1) (pakd_v (a_cons (d_var 2) a_nil))) a_nil)) (b_repr z T.b_repr (a_cons (b_sortSet z T.b_sorted T.b_set (a_cons (d_var 2) a_nil)) a_nil))) (pw_or1 (t_ne z (b_repr z T.b_repr (a_cons (d_call 0 z (ok_settled T) (by decide) T.m_settled T.kp_settled (kb_settled T.d_settled) (arr_v _ 1) (pakd_v (a_cons (d_mulT z (d_tup (a_cons (d_sub (d_var 1) (d_int)) a_nil)) (d_var 1)) a_nil))) a_nil)) (b_repr z T.b_repr (a_cons (d_sub (d_var 1) (d_int)) a_nil)))))).pt) (s_one (s_ret (d_bl))) (s_nil)) (s_cons (s_if (((w_and (t_notN (d_call 0 z (ok_settled T) (by decide) T.m_settled T.kp_settled (kb_settled T.d_settled) (arr_v _ 1) (pakd_v (a_cons (d_var 2) a_nil))) d_non) (pw_and1 (t_ne z (b_len z T.b_len (a_cons (b_sortSet z T.b_sorted T.b_set (a_cons (d_var 2) a_nil)) a_nil)) (d_int))))).pt) (s_one (s_ret (d_bl))) (s_nil)) (s_cons (s_par 4 5 z ok0 ok0 z.nd (a_cons (d_call 1 z (ok_law_take T) (by decide) T.m_law_take T.kp_law_take (kb_law_take T.d_law_take) (arr_v _ 2) (pakd_v (a_cons (d_var 0) (a_cons (d_var 1) a_nil)))) (a_cons (d_plus z (d_var 2) (d_tup (a_cons (d_int) a_nil))) a_nil))) (s_cons (s_set 6 ok0 z.nd (d_lst (a_cons (d_plus z (d_plus z (d_sl z (d_var 2) (o_no) (o_so (d_var 4))) (d_tup (a_cons (d_var 1) a_nil))) (d_sl z (d_var 2) (o_so (d_plus z (d_var 4) (d_int))) (o_no))) (a_cons (d_plus z (d_plus z (d_sl z (d_var 2) (o_no) (o_so (d_var 4))) (d_tup (a_cons (d_neg (d_int)) a_nil))) (d_sl z (d_var 2) (o_so (d_plus z (d_var 4) (d_int))) (o_no))) (a_cons (d_plus z (d_plus z (d_sl z (d_var 2) (o_no) (o_so (d_var 4))) (d_tup (a_cons (d_non) a_nil))) (d_sl z (d_var 2) (o_so (d_plus z (d_var 4) (d_int))) (o_no))) (a_cons (b_list z T.b_list (a_cons (d_var 2) a_nil)) a_nil)))))) (s_cons (s_set 6 ok0 z.nd (d_plus z (d_var 6) (d_lst (a_cons (d_plus z (d_plus z (d_sl z (d_var 2) (o_no) (o_so (d_var 4))) (d_tup (a_cons (d_eq z (d_ix z (d_var 2) (d_var 4)) (d_int)) a_nil))) (d_sl z (d_var 2) (o_so (d_plus z (d_var 4) (d_int))) (o_no))) (a_cons (d_tup a_nil) (a_cons (d_non) (a_cons (d_str) (a_cons (d_int) (a_cons (d_plus z (d_plus z (d_sl z (d_var 2) (o_no) (o_so (d_var 4))) (d_tup (a_cons (b_str z T.b_str (a_cons (d_ix z (d_var 2) (d_var 4)) a_nil)) a_nil))) (d_sl z (d_var 2) (o_so (d_plus z (d_var 4) (d_int))) (o_no))) a_nil))))))))) (s_cons (s_if (t_ne z (d_lc (own := [("value", 8)]) z rfl (blk_ok (N := ["box", "many", "one", "other", "at", "longer", "bad", "k", "value"]) (sc := defScope st_law_by_hand_right) (by decide +kernel)) (by decide) (i_seq z (d_var 6)) (fun _ _ _ _ _ => (g_name 8 okn (z.blk _ _ _ _ _).nd)) (fun _ _ _ _ _ => ts_one (((w_or (t_not (t_tru (z.blk _ _ _ _ _) (d_call 0 (z.blk _ _ _ _ _) (ok_law_not_moves T) (by decide) T.m_law_not_moves T.kp_law_not_moves (kb_law_not_moves T.d_law_not_moves) (arr_v _ 1) (pakd_v (a_cons (d_var 8) a_nil))))) (w_or (t_not (t_tru (z.blk _ _ _ _ _) (d_call 0 (z.blk _ _ _ _ _) (ok_law_refused T) (by decide) T.m_law_refused T.kp_law_refused (kb_law_refused T.d_law_refused) (arr_v _ 2) (pakd_v (a_cons (d_var 8) (a_cons (d_var 2) a_nil)))))) (pw_or1 (t_not (t_tru (z.blk _ _ _ _ _) (d_call 0 (z.blk _ _ _ _ _) (ok_law_refused T) (by decide) T.m_law_refused T.kp_law_refused (kb_law_refused T.d_law_refused) (arr_v _ 2) (pakd_v (a_cons (d_var 2) (a_cons (d_var 8) a_nil)))))))))).pt)) (fun _ _ _ _ _ => d_var 8)) (d_lst a_nil)) (s_one (s_ret (d_bl))) (s_nil)) (s_one (s_ret ((d_and (d_call 0 z (ok_law_refused T) (by decide) T.m_law_refused T.kp_law_refused (kb_law_refused T.d_law_refused) (arr_v _ 2) (pakd_v (a_cons (d_var 2) (a_cons (d_var 5) a_nil)))) (d_and (d_call 0 z (ok_law_refused T) (by decide) T.m_law_refused T.kp_law_refused (kb_law_refused T.d_law_refused) (arr_v _ 2) (pakd_v (a_cons (d_var 5) (a_cons (d_var 2) a_nil)))) (pe_one (d_not (d_call 0 z (ok_law_not_moves T) (by decide) T.m_law_not_moves T.kp_law_not_moves (kb_law_not_moves T.d_law_not_moves) (arr_v _ 1) (pakd_v (a_cons (d_var 2) a_nil))))))))))))))))))
theorem ok_law_by_hand_right (T : Tx K mg ad fd cl) : FnG P w K mg base 7 (ad 36) (fd 36) ["box"] (spD ⟨K, cl, 0⟩ 1 F_law_by_hand_right) := (okr_law_by_hand_right T).fz
theorem sc_law_answers_refused : FnScope ["alarm", "answers", "e"] ["alarm", "answers"] (defScope st_law_answers_refused) := ⟨rfl, rfl, rfl, by decide +kernel, rfl, by decide +kernel, by decide +kernel⟩
theorem okr_law_answers_refused (T : Tx K mg ad fd cl) : FnG P w K mg base 7 (ad 37) (fd 37) ["alarm", "answers"] (spD ⟨K, cl, 0⟩ 2 R_law_answers_refused) :=
  FunD.d (g := ⟨K, cl, 0⟩) T.d_law_answers_refused rfl sc_law_answers_refused fun cdv A outer s H E z => s_cons (s_try z rfl rfl rfl (fun W pn xe zt => s_one (s_expr (d_meth 0 0 zt T.cl_Alarm T.me_Alarm_moves (ok_Alarm_moves T) (by decide) (kb_Alarm_moves T.d_Alarm_moves) (arr_v _ 2) (d_var 0) (pakd_v (a_cons (d_var 1) a_nil))))) (.named ⟨rfl, by decide, .inl T.mc_InvalidAnswers⟩ rfl rfl T.x_InvalidAnswers (fun a oe cls d pn xx fs hz hf hx => by obtain rfl : xx = 1 := only_true (by decide) hx; exact s_one (s_ret (su_d_eq (z.su _ _) (su_b_repr (z.su _ _) T.b_repr (a_cons ((d_xa T.e_InvalidAnswers T.ea_InvalidAnswers_given hz hf)) a_nil)) (su_b_repr (z.su _ _) T.b_repr (a_cons (d_var 1) a_nil))))) .nil)) (s_one (s_ret (d_bl)))
theorem ok_law_answers_refused (T : Tx K mg ad fd cl) : FnG P w K mg base 7 (ad 37) (fd 37) ["alarm", "answers"] (spD ⟨K, cl, 0⟩ 2 F_law_answers_refused) := (okr_law_answers_refused T).fz
theorem sc_law_right : FnScope ["box", "bounds", "alarm", "turn", "bad"] ["box"] (defScope st_law_right) := ⟨rfl, rfl, rfl, by decide +kernel, rfl, by decide +kernel, by decide +kernel⟩
theorem okr_law_right (T : Tx K mg ad fd cl) : FnG P w K mg base 9 (ad 38) (fd 38) ["box"] (spD ⟨K, cl, 0⟩ 1 R_law_right) :=
  FunD.d (g := ⟨K, cl, 0⟩) T.d_law_right rfl sc_law_right fun cdv A outer s H E z => s_cons (s_set 1 ok0 z.nd (d_call 1 z (ok_law_alarm T) (by decide) T.m_law_alarm T.kp_law_alarm (kb_law_alarm T.d_law_alarm) (arr_v _ 1) (pakd_v (a_cons (d_var 0) a_nil)))) (s_cons (s_set 2 ok0 z.nd (d_make 0 0 z T.mk_Alarm (ok_Alarm___init T) (by decide) T.mc_Alarm (kb_Alarm___init_5 T.d_Alarm___init).choose_spec (arr_p [(0, 0), (0, 1), (0, 2), (0, 3), (0, 4)] 5 0 5 [.int 1, .int 1] [.int 1, .int 1] (fun _ _ => by first | exact rfl | exact ⟨_, _, rfl, rfl, rfl⟩ | exact ⟨_, _, rfl, rfl, _, _, rfl, rfl, rfl⟩) rfl (by decide)) (pakd_v (a_cons (d_ix z (d_var 1) (d_int)) (a_cons (d_ix z (d_var 1) (d_int)) (a_cons (d_ix z (d_var 1) (d_int)) (a_cons (d_ix z (d_var 1) (d_int)) a_nil))))))) (s_cons (s_for z (i_rg1 rfl T.b_range (a_cons (d_int) a_nil)) (g_name 3 ok0 z.nd) (s_one (s_if (t_not (t_tru z (d_call 1 z (ok_law_row_right T) (by decide) T.m_law_row_right T.kp_law_row_right (kb_law_row_right T.d_law_row_right) (arr_v _ 4) (pakd_v (a_cons (d_var 0) (a_cons (d_var 2) (a_cons (d_var 1) (a_cons (d_call 1 z (ok_law_row T) (by decide) T.m_law_row T.kp_law_row (kb_law_row T.d_law_row) (arr_v _ 2) (pakd_v (a_cons (d_var 0) (a_cons (d_var 1) a_nil)))) a_nil)))))))) (s_one (s_ret (d_bl))) (s_nil)))) (s_cons (s_set 4 ok0 z.nd (d_ix z (d_lst (a_cons (d_lst (a_cons (d_non) (a_cons (d_tup (a_cons (d_int) (a_cons (d_int) a_nil))) a_nil))) (a_cons (d_lst (a_cons (d_tup (a_cons (d_int) (a_cons (d_int) a_nil))) a_nil)) (a_cons (d_non) (a_cons (d_lst (a_cons (d_tup (a_cons (d_int) (a_cons (d_int) a_nil))) (a_cons (d_int) a_nil))) (a_cons (d_str) (a_cons (d_lst (a_cons (d_lst (a_cons (d_int) (a_cons (d_int) a_nil))) a_nil)) (a_cons (d_lst (a_cons (d_tup (a_cons (d_int) (a_cons (d_bl) a_nil))) a_nil)) a_nil)))))))) (d_call 1 z (ok_law_take T) (by decide) T.m_law_take T.kp_law_take (kb_law_take T.d_law_take) (arr_v _ 2) (pakd_v (a_cons (d_var 0) (a_cons (d_int) a_nil)))))) (s_one (s_ret ((d_and (d_call 0 z (ok_law_answers_refused T) (by decide) T.m_law_answers_refused T.kp_law_answers_refused (kb_law_answers_refused T.d_law_answers_refused) (arr_v _ 2) (pakd_v (a_cons (d_var 2) (a_cons (d_var 4) a_nil)))) (pe_one (d_call 1 z (ok_law_by_hand_right T) (by decide) T.m_law_by_hand_right T.kp_law_by_hand_right (kb_law_by_hand_right T.d_law_by_hand_right) (arr_v _ 1) (pakd_v (a_cons (d_var 0) a_nil)))))))))))
theorem ok_law_right (T : Tx K mg ad fd cl) : FnG P w K mg base 9 (ad 38) (fd 38) ["box"] (spD ⟨K, cl, 0⟩ 1 F_law_right) := (okr_law_right T).fz
theorem sc_law : FnScope ["script", "k"] ["script"] (defScope st_law) := ⟨rfl, rfl, rfl, by decide +kernel, rfl, by decide +kernel, by decide +kernel⟩
theorem okp_law (T : Tx K mg ad fd cl) : FnG P w K mg base 10 (ad 39) (fd 39) ["script"] (spP ⟨K, cl, 0⟩ 1 P_law) :=
  FunD.p (g := ⟨K, cl, 0⟩) T.d_law rfl sc_law fun cdv A outer s H E a ns z => s_cons (s_for z (i_rg1 rfl T.b_range (a_cons (d_int) a_nil)) (g_name 1 okp z.nd) (s_fr (fun _ q => by cases q; rfl) (s_one (s_if (t_not (t_tru z (d_call 1 z (ok_law_right T) (by decide) T.m_law_right T.kp_law_right (kb_law_right T.d_law_right) (arr_v _ 1) (pakd_v (a_cons (d_call 0 z (okr_law_box T) (by decide) T.m_law_box T.kp_law_box (kb_law_box T.d_law_box) (arr_v _ 1) (pakd_v (a_cons (p_call z rfl rfl (okp_law_cell T) (by decide) T.m_law_cell T.kp_law_cell (kb_law_cell T.d_law_cell) rfl (.inl rfl) (d_var 1)) a_nil))) a_nil))))) (s_one (s_ret (d_bl))) (s_nil))))) (s_one (s_ret (d_bl)))
end
end K75
namespace K75
open PySem PySem.Spec PyProof.Rows L2 Gh
@[simp] theorem fzO_ok {n : Nat} {d : D} {e : Eta} (h : e.length ≤ n) : fzO n (.ok d e) = .ok d e := by simp [fzO, frz, h]
@[simp] theorem fzO_exc {n x : Nat} {fs : List (Str × D)} {e : Eta} (h : e.length ≤ n) : fzO n (.exc x fs e) = .exc x fs e := by simp [fzO, frzX, h]
@[simp] theorem backO_ok {eta : Eta} {d : D} : backO 0 eta (.ok d []) = .ok d eta := by simp [backO, backD]
@[simp] theorem backO_exc {eta : Eta} {x : Nat} {fs : List (Str × D)} : backO 0 eta (.exc x fs []) = .exc x fs eta := by simp [backO]
@[simp] theorem backO1_ok {eta : Eta} {d : D} {b b' : HD} : backO 1 (b :: eta) (.ok d [b']) = .ok d (b' :: eta) := by simp [backO, backD]
@[simp] theorem backO1_exc {eta : Eta} {x : Nat} {fs : List (Str × D)} {b b' : HD} : backO 1 (b :: eta) (.exc x fs [b']) = .exc x fs (b' :: eta) := by simp [backO]
theorem call0 {f : Fd} {as : List D} {eta : Eta} (h : subDs (lowS 0) as = some as) : callD 0 f as eta = backO 0 eta (f as []) := by simp [callD, h, subHs]
theorem call1 {f : Fd} {as : List D} {b : HD} {eta : Eta} (h : subDs (lowS 1) as = some as) (hb : subH (lowS 1) b = some b) : callD 1 f as (b :: eta) = backO 1 (b :: eta) (f as [b]) := by simp [callD, h, subHs, hb]
@[simp] theorem sub_non {s} : subD s .non = some .non := by simp [subD]
@[simp] theorem sub_bl {s b} : subD s (.bl b) = some (.bl b) := by simp [subD]
@[simp] theorem sub_int {s i} : subD s (.int i) = some (.int i) := by simp [subD]
@[simp] theorem sub_str {s x} : subD s (.str x) = some (.str x) := by simp [subD]
@[simp] theorem sub_ref {s i} : subD s (.ref i) = s i := by simp [subD]
@[simp] theorem sub_lst {s ds} : subD s (.lst ds) = (subDs s ds).map .lst := by simp [subD]
@[simp] theorem sub_tup {s ds} : subD s (.tup ds) = (subDs s ds).map .tup := by simp [subD]
@[simp] theorem sub_obj {s c fs} : subD s (.obj c fs) = (subDf s fs).map (.obj c) := by simp [subD]
@[simp] theorem subs_nil {s} : subDs s [] = some [] := by simp [subDs]
@[simp] theorem subs_cons {s d r} : subDs s (d :: r) = (subD s d).bind fun d' => (subDs s r).map fun r' => d' :: r' := by simp [subDs]
@[simp] theorem subf_nil {s} : subDf s [] = some [] := by simp [subDf]
@[simp] theorem subf_cons {s f d r} : subDf s ((f, d) :: r) = (subD s d).bind fun d' => (subDf s r).map fun r' => (f, d') :: r' := by simp [subDf]
@[simp] theorem low0 {p i} (h : i < p) : lowS p i = some (.ref i) := by simp [lowS, h]
@[simp] theorem kd_beq (a b : Kd) : (a == b) = decide (a = b) := rfl
/-- not an object, not owned, nor in it -/
def Pu (d : D) : Prop := ∀ s, subD s d = some d
def kb : D → Bool
  | .obj _ _ => false
  | .ref _ => false
  | _ => true
def isInt : D → Bool
  | .int _ => true
  | _ => false
@[simp] theorem kb_non : kb .non = true := by simp only [kb]
@[simp] theorem kb_bl {b} : kb (.bl b) = true := by simp only [kb]
@[simp] theorem kb_int {b} : kb (.int b) = true := by simp only [kb]
@[simp] theorem kb_str {b} : kb (.str b) = true := by simp only [kb]
@[simp] theorem kb_lst {b} : kb (.lst b) = true := by simp only [kb]
@[simp] theorem kb_tup {b} : kb (.tup b) = true := by simp only [kb]
@[simp] theorem ii_non : isInt .non = false := rfl
@[simp] theorem ii_bl {b} : isInt (.bl b) = false := rfl
@[simp] theorem ii_int {b} : isInt (.int b) = true := rfl
@[simp] theorem ii_str {b} : isInt (.str b) = false := rfl
@[simp] theorem ii_lst {b} : isInt (.lst b) = false := rfl
@[simp] theorem ii_tup {b} : isInt (.tup b) = false := rfl
theorem sp_is_integer (d : D) (h : kb d = true) : F_is_integer [d] [] = .ok (.bl (isInt d)) [] := by
  cases d <;> simp_all +decide [F_is_integer, fz, R_is_integer, bodyF, startD, c_is_integer, fIsi, kdOf, tb_int, tb_bool, endF, isInt, kb, List.lookup]
theorem sp_is_value (d : D) (h : kb d = true) (p : ∀ s, subD s d = some d) : F_is_value [d] [] = .ok (.bl (isInt d)) [] := by
  simp [F_is_value, fz, R_is_value, bodyF, startD, c_is_value, endF, call0, p, sp_is_integer d h]
def isCnt : D → Bool
  | .int i => decide (0 ≤ i)
  | _ => false
theorem sp_is_count (d : D) (h : kb d = true) (p : ∀ s, subD s d = some d) : F_is_count [d] [] = .ok (.bl (isCnt d)) [] := by
  simp only [F_is_count, fz, R_is_count, bodyF, startD, c_is_count, endF]
  cases d with
  | obj _ _ => cases h
  | ref _ => cases h
  | lst _ => simp only [sub_lst] at p; simp [call0, p, sp_is_integer, isCnt]
  | tup _ => simp only [sub_tup] at p; simp [call0, p, sp_is_integer, isCnt]
  | _ => simp [call0, sp_is_integer, isCnt]
def isRun : D → Bool
  | .int i => decide (1 ≤ i) && decide (i ≤ 9)
  | _ => false
theorem sp_is_run (d : D) (h : kb d = true) (p : ∀ s, subD s d = some d) : F_is_run [d] [] = .ok (.bl (isRun d)) [] := by
  simp only [F_is_run, fz, R_is_run, bodyF, startD, c_is_run, endF]
  cases d with
  | obj _ _ => cases h
  | ref _ => cases h
  | lst _ => have q := p; simp only [sub_lst] at p; simp [call0, p, sp_is_count _ h q, isCnt, isRun]
  | tup _ => have q := p; simp only [sub_tup] at p; simp [call0, p, sp_is_count _ h q, isCnt, isRun]
  | int i =>
    by_cases h0 : 0 ≤ i
    · by_cases h1 : 1 ≤ i <;> simp [call0, sp_is_count, isCnt, h0, h1, isRun]
    · have h1 : ¬ 1 ≤ i := by omega
      simp [call0, sp_is_count, isCnt, h0, h1, isRun]
  | _ => simp [call0, sp_is_count, isCnt, isRun]
/-! ### names apart -/
@[simp] theorem bq_up_down : (Str.ofString "up" == Str.ofString "down") = false := by decide +kernel
@[simp] theorem eq_up_down : (Str.ofString "up" = Str.ofString "down") = False := by decide +kernel
@[simp] theorem bq_up_rise : (Str.ofString "up" == Str.ofString "rise") = false := by decide +kernel
@[simp] theorem eq_up_rise : (Str.ofString "up" = Str.ofString "rise") = False := by decide +kernel
@[simp] theorem bq_up_fall : (Str.ofString "up" == Str.ofString "fall") = false := by decide +kernel
@[simp] theorem eq_up_fall : (Str.ofString "up" = Str.ofString "fall") = False := by decide +kernel
@[simp] theorem bq_down_up : (Str.ofString "down" == Str.ofString "up") = false := by decide +kernel
@[simp] theorem eq_down_up : (Str.ofString "down" = Str.ofString "up") = False := by decide +kernel
@[simp] theorem bq_down_rise : (Str.ofString "down" == Str.ofString "rise") = false := by decide +kernel
@[simp] theorem eq_down_rise : (Str.ofString "down" = Str.ofString "rise") = False := by decide +kernel
@[simp] theorem bq_down_fall : (Str.ofString "down" == Str.ofString "fall") = false := by decide +kernel
@[simp] theorem eq_down_fall : (Str.ofString "down" = Str.ofString "fall") = False := by decide +kernel
@[simp] theorem bq_rise_up : (Str.ofString "rise" == Str.ofString "up") = false := by decide +kernel
@[simp] theorem eq_rise_up : (Str.ofString "rise" = Str.ofString "up") = False := by decide +kernel
@[simp] theorem bq_rise_down : (Str.ofString "rise" == Str.ofString "down") = false := by decide +kernel
@[simp] theorem eq_rise_down : (Str.ofString "rise" = Str.ofString "down") = False := by decide +kernel
@[simp] theorem bq_rise_fall : (Str.ofString "rise" == Str.ofString "fall") = false := by decide +kernel
@[simp] theorem eq_rise_fall : (Str.ofString "rise" = Str.ofString "fall") = False := by decide +kernel
@[simp] theorem bq_fall_up : (Str.ofString "fall" == Str.ofString "up") = false := by decide +kernel
@[simp] theorem eq_fall_up : (Str.ofString "fall" = Str.ofString "up") = False := by decide +kernel
@[simp] theorem bq_fall_down : (Str.ofString "fall" == Str.ofString "down") = false := by decide +kernel
@[simp] theorem eq_fall_down : (Str.ofString "fall" = Str.ofString "down") = False := by decide +kernel
@[simp] theorem bq_fall_rise : (Str.ofString "fall" == Str.ofString "rise") = false := by decide +kernel
@[simp] theorem eq_fall_rise : (Str.ofString "fall" = Str.ofString "rise") = False := by decide +kernel
@[simp] theorem bq_size_up : (Str.ofString "size" == Str.ofString "up") = false := by decide +kernel
@[simp] theorem bq_size_down : (Str.ofString "size" == Str.ofString "down") = false := by decide +kernel
@[simp] theorem bq_size_rise : (Str.ofString "size" == Str.ofString "rise") = false := by decide +kernel
@[simp] theorem bq_size_fall : (Str.ofString "size" == Str.ofString "fall") = false := by decide +kernel
@[simp] theorem bq_check_state_up : (Str.ofString "check_state" == Str.ofString "up") = false := by decide +kernel
@[simp] theorem bq_check_state_down : (Str.ofString "check_state" == Str.ofString "down") = false := by decide +kernel
@[simp] theorem bq_check_state_rise : (Str.ofString "check_state" == Str.ofString "rise") = false := by decide +kernel
@[simp] theorem bq_check_state_fall : (Str.ofString "check_state" == Str.ofString "fall") = false := by decide +kernel
@[simp] theorem bq_is_raised_up : (Str.ofString "is_raised" == Str.ofString "up") = false := by decide +kernel
@[simp] theorem bq_is_raised_down : (Str.ofString "is_raised" == Str.ofString "down") = false := by decide +kernel
@[simp] theorem bq_is_raised_rise : (Str.ofString "is_raised" == Str.ofString "rise") = false := by decide +kernel
@[simp] theorem bq_is_raised_fall : (Str.ofString "is_raised" == Str.ofString "fall") = false := by decide +kernel
@[simp] theorem bq__next_up : (Str.ofString "_next" == Str.ofString "up") = false := by decide +kernel
@[simp] theorem bq__next_down : (Str.ofString "_next" == Str.ofString "down") = false := by decide +kernel
@[simp] theorem bq__next_rise : (Str.ofString "_next" == Str.ofString "rise") = false := by decide +kernel
@[simp] theorem bq__next_fall : (Str.ofString "_next" == Str.ofString "fall") = false := by decide +kernel
@[simp] theorem bq_states_up : (Str.ofString "states" == Str.ofString "up") = false := by decide +kernel
@[simp] theorem bq_states_down : (Str.ofString "states" == Str.ofString "down") = false := by decide +kernel
@[simp] theorem bq_states_rise : (Str.ofString "states" == Str.ofString "rise") = false := by decide +kernel
@[simp] theorem bq_states_fall : (Str.ofString "states" == Str.ofString "fall") = false := by decide +kernel
@[simp] theorem bq_episodes_up : (Str.ofString "episodes" == Str.ofString "up") = false := by decide +kernel
@[simp] theorem bq_episodes_down : (Str.ofString "episodes" == Str.ofString "down") = false := by decide +kernel
@[simp] theorem bq_episodes_rise : (Str.ofString "episodes" == Str.ofString "rise") = false := by decide +kernel
@[simp] theorem bq_episodes_fall : (Str.ofString "episodes" == Str.ofString "fall") = false := by decide +kernel
@[simp] theorem bq_moves_up : (Str.ofString "moves" == Str.ofString "up") = false := by decide +kernel
@[simp] theorem eq_moves_up : (Str.ofString "moves" = Str.ofString "up") = False := by decide +kernel
@[simp] theorem bq_moves_down : (Str.ofString "moves" == Str.ofString "down") = false := by decide +kernel
@[simp] theorem eq_moves_down : (Str.ofString "moves" = Str.ofString "down") = False := by decide +kernel
@[simp] theorem bq_moves_rise : (Str.ofString "moves" == Str.ofString "rise") = false := by decide +kernel
@[simp] theorem eq_moves_rise : (Str.ofString "moves" = Str.ofString "rise") = False := by decide +kernel
@[simp] theorem bq_moves_fall : (Str.ofString "moves" == Str.ofString "fall") = false := by decide +kernel
@[simp] theorem eq_moves_fall : (Str.ofString "moves" = Str.ofString "fall") = False := by decide +kernel
/-! ### an alarm is made -/
def A (u d r f : Int) : D := .obj 0 [("up", .int u), ("down", .int d), ("rise", .int r), ("fall", .int f)]
theorem sp_init (u d r f : Int) (h1 : d ≤ u) (h2 : 1 ≤ r) (h3 : r ≤ 9) (h4 : 1 ≤ f) (h5 : f ≤ 9) : F_Alarm___init [.ref 0, .int u, .int d, .int r, .int f] [.ins 0 []] = .ok .non [.ins 0 [("up", .int u), ("down", .int d), ("rise", .int r), ("fall", .int f)]] := by
  have h6 : ¬ u < d := by omega
  simp [F_Alarm___init, fz, R_Alarm___init, bodyF, startD, c_Alarm___init, endF, call0, sp_is_integer, sp_is_run, isRun, h2, h3, h4, h5, h6, stF, putFd]
end K75
namespace K75
open PySem PySem.Spec PyProof.Rows L2 Gh
theorem isInt_int {d : D} (h : isInt d = true) : ∃ i, d = .int i := by
  cases d <;> first | exact ⟨_, rfl⟩ | cases h
theorem isRun_int {d : D} (h : isRun d = true) : ∃ i, d = .int i ∧ 1 ≤ i ∧ i ≤ 9 := by
  cases d with
  | int i => simp [isRun] at h; exact ⟨i, rfl, h⟩
  | _ => cases h
end K75
namespace K75
open PySem PySem.Spec PyProof.Rows L2 Gh
@[simp] theorem len_tup {ds : List D} {eta : Eta} : bLen [.tup ds] eta = some (.int ds.length) := rfl
@[simp] theorem len_lst {ds : List D} {eta : Eta} : bLen [.lst ds] eta = some (.int ds.length) := rfl
@[simp] theorem ne_int {i j : Int} {eta : Eta} : fNe (.int i) (.int j) eta = some (.bl (!decide (i = j))) := rfl
@[simp] theorem eq_int {i j : Int} {eta : Eta} : fEq (.int i) (.int j) eta = some (.bl (decide (i = j))) := rfl
@[simp] theorem ne_str {i j : Str} {eta : Eta} : fNe (.str i) (.str j) eta = some (.bl (!decide (i = j))) := rfl
@[simp] theorem eq_str' {i j : Str} {eta : Eta} : fEq (.str i) (.str j) eta = some (.bl (decide (i = j))) := rfl
@[simp] theorem gcd_int {i j : Int} {eta : Eta} : bGcd [.int i, .int j] eta = some (.int (Nat.gcd i.natAbs j.natAbs : Nat)) := rfl
@[simp] theorem isn_non {d : D} {eta : Eta} : fIsN d .non eta = some (.bl (isNonD d)) := rfl
@[simp] theorem notn_non {d : D} {eta : Eta} : fNotN d .non eta = some (.bl (!isNonD d)) := rfl
@[simp] theorem nonD_non : isNonD .non = true := rfl
@[simp] theorem nonD_tup {ds} : isNonD (.tup ds) = false := rfl
@[simp] theorem nonD_lst {ds} : isNonD (.lst ds) = false := rfl
@[simp] theorem nonD_int {ds} : isNonD (.int ds) = false := rfl
@[simp] theorem nonD_bl {ds} : isNonD (.bl ds) = false := rfl
@[simp] theorem nonD_str {ds} : isNonD (.str ds) = false := rfl
def isFr : D → Bool
  | .tup [.int n, .int m] => decide (0 < m) && decide (Nat.gcd n.natAbs m.natAbs = 1)
  | _ => false
/-- what may stand in a list of answers here -/
structure Fine (d : D) : Prop where
  k : kb d = true
  p : ∀ s, subD s d = some d
  e : ∀ ds, d = .tup ds → ∀ x ∈ ds, kb x = true ∧ ∀ s, subD s x = some x
theorem fine_two {x y : D} (h : Fine (.tup [x, y])) : kb x = true ∧ (∀ s, subD s x = some x) ∧ kb y = true ∧ (∀ s, subD s y = some y) := by
  have h1 := h.e _ rfl x (by simp)
  have h2 := h.e _ rfl y (by simp)
  exact ⟨h1.1, h1.2, h2.1, h2.2⟩
theorem isFr_two {x y : D} : isFr (.tup [x, y]) = (isInt x && isInt y && (match x, y with | .int n, .int m => decide (0 < m) && decide (Nat.gcd n.natAbs m.natAbs = 1) | _, _ => false)) := by
  cases x <;> cases y <;> rfl
theorem sp_is_fraction (d : D) (h : Fine d) : F_is_fraction [d] [] = .ok (.bl (isFr d)) [] := by
  obtain ⟨hk, hp, he⟩ := id h
  simp only [F_is_fraction, fz, R_is_fraction, bodyF, startD, c_is_fraction, endF]
  cases d with
  | obj _ _ => cases hk
  | ref _ => cases hk
  | tup ds =>
    match ds, h with
    | [], _ => simp [fIsi, kdOf, tb_tuple, List.lookup, isFr]
    | [x], _ => simp [fIsi, kdOf, tb_tuple, List.lookup, isFr]
    | x :: y :: z :: r, _ =>
      have e : ¬ ((r.length : Int) + 1 + 1 + 1 = 2) := by omega
      simp [fIsi, kdOf, tb_tuple, List.lookup, isFr, e]
    | [x, y], h =>
      obtain ⟨k1, p1, k2, p2⟩ := fine_two h
      cases h1 : isInt x with
      | false => simp [fIsi, kdOf, tb_tuple, List.lookup, isFr_two, kT, kTs, call0, p1, p2, sp_is_value x k1 p1, h1]
      | true =>
        cases h2 : isInt y with
        | false => simp [fIsi, kdOf, tb_tuple, List.lookup, isFr_two, kT, kTs, call0, p1, p2, sp_is_value x k1 p1, sp_is_value y k2 p2, h1, h2]
        | true =>
          obtain ⟨n, rfl⟩ := isInt_int h1
          obtain ⟨m, rfl⟩ := isInt_int h2
          by_cases h3 : 0 < m
          · simp [fIsi, kdOf, tb_tuple, List.lookup, isFr_two, kT, kTs, call0, sp_is_value, h3]
            omega
          · simp [fIsi, kdOf, tb_tuple, List.lookup, isFr_two, kT, kTs, call0, sp_is_value, h3]
  | _ => simp [fIsi, kdOf, tb_tuple, List.lookup, isFr]
def isTold : D → Bool
  | .non => true
  | d => isFr d
theorem sp_is_told (d : D) (h : Fine d) : F_is_told_answer [d] [] = .ok (.bl (isTold d)) [] := by
  obtain ⟨hk, hp, he⟩ := id h
  simp only [F_is_told_answer, fz, R_is_told_answer, bodyF, startD, c_is_told_answer, endF]
  cases d with
  | obj _ _ => cases hk
  | ref _ => cases hk
  | tup _ => have q := hp; simp only [sub_tup] at q; simp [call0, q, sp_is_fraction _ h, isTold]
  | lst _ => have q := hp; simp only [sub_lst] at q; simp [call0, q, sp_is_fraction _ h, isTold]
  | non => simp [isTold]
  | _ => simp [call0, sp_is_fraction _ h, isTold]
/-! ### comprehensions over what stays -/
theorem goL_map {i : Nat} {ce : CE} {rho0 : Rho} {eta : Eta} {f : D → D} : ∀ {ds acc : List D}, (∀ d ∈ ds, ce (rho0.set i (some d)) eta = .ok (f d) eta) → goL (.nm i) cYes ce (fun _ => True) rho0 ds acc eta = .ok (acc ++ ds.map f) eta
  | [], acc, _ => by simp [goL]
  | d :: ds, acc, h => by
    have h1 := h d (by simp)
    have h2 := goL_map (acc := acc ++ [f d]) fun x hx => h x (List.mem_cons_of_mem _ hx)
    simp [goL, kT, h1, h2]
theorem goL_filter {i : Nat} {ct : CT} {ce : CE} {rho0 : Rho} {eta : Eta} {p : D → Bool} {f : D → D} : ∀ {ds acc : List D}, (∀ d ∈ ds, ct (rho0.set i (some d)) eta = .ok (p d) eta) → (∀ d ∈ ds, p d = true → ce (rho0.set i (some d)) eta = .ok (f d) eta) → goL (.nm i) ct ce (fun _ => True) rho0 ds acc eta = .ok (acc ++ (ds.filter p).map f) eta
  | [], acc, _, _ => by simp [goL]
  | d :: ds, acc, h, h' => by
    have h1 := h d (by simp)
    cases hp : p d with
    | true =>
      have h2 := goL_filter (acc := acc ++ [f d]) (fun x hx => h x (List.mem_cons_of_mem _ hx)) fun x hx => h' x (List.mem_cons_of_mem _ hx)
      simp [goL, kT, h1, hp, h' d (by simp) hp, h2]
    | false =>
      have h2 := goL_filter (acc := acc) (fun x hx => h x (List.mem_cons_of_mem _ hx)) fun x hx => h' x (List.mem_cons_of_mem _ hx)
      simp [goL, kT, h1, hp, h2]
theorem bls_map {f : D → Bool} : ∀ ds : List D, blsD (ds.map fun d => .bl (f d)) = some (ds.map f)
  | [] => rfl
  | d :: r => by simp [blsD, bls_map r]
@[simp] theorem is_list_lst {ds : List D} (p : ∀ s, subDs s ds = some ds) : F_is_list [.lst ds] [] = .ok (.bl true) [] := by
  simp [F_is_list, fz, R_is_list, bodyF, startD, c_is_list, endF, fIsi, kdOf, tb_list_tuple, List.lookup]
/-- what is a list of answers -/
def isAns : D → Bool
  | .lst ds => ds.all isTold
  | .tup ds => ds.all isTold
  | _ => false
theorem sp_is_list (d : D) (h : kb d = true) : F_is_list [d] [] = .ok (.bl (match d with | .lst _ => true | .tup _ => true | _ => false)) [] := by
  cases d with
  | obj _ _ => cases h
  | ref _ => cases h
  | _ => simp [F_is_list, fz, R_is_list, bodyF, startD, c_is_list, endF, fIsi, kdOf, tb_list_tuple, List.lookup]
theorem all_ids (f : D → Bool) (ds : List D) : ((ds.map f).all id) = ds.all f := by
  induction ds with
  | nil => rfl
  | cons d r ih => simp [ih]
theorem sp_check_answers (d : D) (h : Fine d) (hx : ∀ ds, d = .lst ds ∨ d = .tup ds → (∀ x ∈ ds, Fine x) ∧ ds.length ≤ lineB) : F_check_answers [d] [] = if isAns d = true then .ok .non [] else .exc 1 [("given", d)] [] := by
  obtain ⟨hk, hp, he⟩ := id h
  have go : ∀ ds : List D, (∀ x ∈ ds, Fine x) → goL (.nm 1) cYes (cFn 0 F_is_told_answer 1 0 (fun ds _ => ds) (cCons (cVar 1) cNil) cNil) (fun _ => True) [some d, none] ds [] [] = .ok (ds.map fun d => .bl (isTold d)) [] := fun ds hf => by
    rw [goL_map (f := fun d => .bl (isTold d)) fun x hx => ?_]
    · simp
    · have q := hf x hx
      simp [call0, q.p, sp_is_told x q]
  simp only [F_check_answers, fz, R_check_answers, bodyF, startD, c_check_answers, endF]
  cases d with
  | obj _ _ => cases hk
  | ref _ => cases hk
  | lst ds =>
    obtain ⟨h1, h2⟩ := hx ds (.inl rfl)
    have q := hp; simp only [sub_lst] at q
    cases h3 : ds.all isTold with
    | true => simp [call0, q, sp_is_list, cSeqI, h2, wipeR, go ds h1, bAll, seqL, bls_map, all_ids, h3, isAns]
    | false => simp [call0, q, sp_is_list, cSeqI, h2, wipeR, go ds h1, bAll, seqL, bls_map, all_ids, h3, isAns, fldD]
  | tup ds =>
    obtain ⟨h1, h2⟩ := hx ds (.inr rfl)
    have q := hp; simp only [sub_tup] at q
    cases h3 : ds.all isTold with
    | true => simp [call0, q, sp_is_list, cSeqI, h2, wipeR, go ds h1, bAll, seqL, bls_map, all_ids, h3, isAns]
    | false => simp [call0, q, sp_is_list, cSeqI, h2, wipeR, go ds h1, bAll, seqL, bls_map, all_ids, h3, isAns, fldD]
  | _ => simp [call0, sp_is_list, isAns, fldD]
end K75
namespace K75
open PySem PySem.Spec PyProof.Rows L2 Gh
@[simp] theorem eq_size_up : (Str.ofString "size" = Str.ofString "up") = False := by decide +kernel
@[simp] theorem eq_size_down : (Str.ofString "size" = Str.ofString "down") = False := by decide +kernel
@[simp] theorem eq_size_rise : (Str.ofString "size" = Str.ofString "rise") = False := by decide +kernel
@[simp] theorem eq_size_fall : (Str.ofString "size" = Str.ofString "fall") = False := by decide +kernel
@[simp] theorem eq_check_state_up : (Str.ofString "check_state" = Str.ofString "up") = False := by decide +kernel
@[simp] theorem eq_check_state_down : (Str.ofString "check_state" = Str.ofString "down") = False := by decide +kernel
@[simp] theorem eq_check_state_rise : (Str.ofString "check_state" = Str.ofString "rise") = False := by decide +kernel
@[simp] theorem eq_check_state_fall : (Str.ofString "check_state" = Str.ofString "fall") = False := by decide +kernel
@[simp] theorem eq_is_raised_up : (Str.ofString "is_raised" = Str.ofString "up") = False := by decide +kernel
@[simp] theorem eq_is_raised_down : (Str.ofString "is_raised" = Str.ofString "down") = False := by decide +kernel
@[simp] theorem eq_is_raised_rise : (Str.ofString "is_raised" = Str.ofString "rise") = False := by decide +kernel
@[simp] theorem eq_is_raised_fall : (Str.ofString "is_raised" = Str.ofString "fall") = False := by decide +kernel
@[simp] theorem eq__next_up : (Str.ofString "_next" = Str.ofString "up") = False := by decide +kernel
@[simp] theorem eq__next_down : (Str.ofString "_next" = Str.ofString "down") = False := by decide +kernel
@[simp] theorem eq__next_rise : (Str.ofString "_next" = Str.ofString "rise") = False := by decide +kernel
@[simp] theorem eq__next_fall : (Str.ofString "_next" = Str.ofString "fall") = False := by decide +kernel
@[simp] theorem eq_states_up : (Str.ofString "states" = Str.ofString "up") = False := by decide +kernel
@[simp] theorem eq_states_down : (Str.ofString "states" = Str.ofString "down") = False := by decide +kernel
@[simp] theorem eq_states_rise : (Str.ofString "states" = Str.ofString "rise") = False := by decide +kernel
@[simp] theorem eq_states_fall : (Str.ofString "states" = Str.ofString "fall") = False := by decide +kernel
@[simp] theorem eq_episodes_up : (Str.ofString "episodes" = Str.ofString "up") = False := by decide +kernel
@[simp] theorem eq_episodes_down : (Str.ofString "episodes" = Str.ofString "down") = False := by decide +kernel
@[simp] theorem eq_episodes_rise : (Str.ofString "episodes" = Str.ofString "rise") = False := by decide +kernel
@[simp] theorem eq_episodes_fall : (Str.ofString "episodes" = Str.ofString "fall") = False := by decide +kernel
@[simp] theorem sub_A {s u d r f} : subD s (A u d r f) = some (A u d r f) := by simp [A]
@[simp] theorem ins_A {eta u d r f} : insOf eta (A u d r f) = some (0, ([("up", .int u), ("down", .int d), ("rise", .int r), ("fall", .int f)] : List (Str × D))) := rfl
section
variable {u d r f : Int}
theorem sp_size : F_Alarm_size [A u d r f] [] = .ok (.int (r + f)) [] := by
  simp [F_Alarm_size, fz, R_Alarm_size, bodyF, startD, c_Alarm_size, endF, List.lookup]
/-! ### one answer -/
def encA : Option (Int × Int) → D
  | none => .non
  | some (n, m) => .tup [.int n, .int m]
@[simp] theorem enc_none : encA none = .non := rfl
@[simp] theorem enc_some {n m} : encA (some (n, m)) = .tup [.int n, .int m] := rfl
@[simp] theorem sub_enc {s a} : subD s (encA a) = some (encA a) := by rcases a with _ | ⟨n, m⟩ <;> simp
@[simp] theorem subs_enc {s} : ∀ as : List (Option (Int × Int)), subDs s (as.map encA) = some (as.map encA)
  | [] => by simp
  | a :: r => by simp [subs_enc r]
theorem fine_enc (a : Option (Int × Int)) : Fine (encA a) := by
  rcases a with _ | ⟨n, m⟩
  · exact ⟨by simp, by simp, fun ds e => nomatch e⟩
  · refine ⟨by simp, by simp, fun ds e x hx => ?_⟩
    cases e
    simp at hx
    rcases hx with rfl | rfl <;> simp
/-- in lowest terms -/
def low : Option (Int × Int) → Bool
  | none => true
  | some (n, m) => decide (0 < m) && decide (Nat.gcd n.natAbs m.natAbs = 1)
theorem told_enc (a : Option (Int × Int)) : isTold (encA a) = low a := by rcases a with _ | ⟨n, m⟩ <;> rfl
def hi (u : Int) : Option (Int × Int) → Bool
  | none => false
  | some (n, m) => decide (u * m ≤ n)
def lo (d : Int) : Option (Int × Int) → Bool
  | none => false
  | some (n, m) => decide (n < d * m)
def nxt (u d r f st : Int) (a : Option (Int × Int)) : Int := if st < r then (if hi u a then st + 1 else 0) else (if lo d a then (st + 1) % (r + f) else r)
def sml (u : Int) : Prop := -18446744073709551616 < u ∧ u < 18446744073709551616
theorem okMul_sml {u : Int} (h : sml u) (j : Int) : okMul u j = true := by
  unfold okMul
  simp [h.1, h.2]
theorem sp_next (st : Int) (a : Option (Int × Int)) (hu : sml u) (hd : sml d) (h1 : 0 < r + f) : F_Alarm__next [A u d r f, .int st, encA a] [] = .ok (.int (nxt u d r f st a)) [] := by
  simp only [F_Alarm__next, fz, R_Alarm__next, bodyF, startD, c_Alarm__next, endF]
  by_cases h2 : st < r
  · rcases a with _ | ⟨n, m⟩
    · simp [List.lookup, h2, nxt, hi]
    · by_cases h3 : u * m ≤ n <;> simp [List.lookup, h2, nxt, hi, atI, ixN, okMul_sml hu, h3]
  · rcases a with _ | ⟨n, m⟩
    · simp [List.lookup, h2, nxt, lo]
    · by_cases h3 : n < d * m <;> simp [List.lookup, h2, nxt, lo, atI, ixN, okMul_sml hd, h3, call0, sp_size, h1]
/-- the states behind each answer -/
def run (u d r f : Int) : Int → List (Option (Int × Int)) → List Int
  | _, [] => []
  | st, a :: as => nxt u d r f st a :: run u d r f (nxt u d r f st a) as
theorem run_len : ∀ (st : Int) (as : List (Option (Int × Int))), (run u d r f st as).length = as.length
  | _, [] => rfl
  | st, a :: as => by simp [run, run_len _ as]
@[simp] theorem subs_ints {s} : ∀ ns : List Int, subDs s (ns.map D.int) = some (ns.map D.int)
  | [] => by simp
  | n :: r => by simp [subs_ints r]
theorem isAns_enc (as : List (Option (Int × Int))) : (as.map encA).all isTold = as.all low := by
  induction as with
  | nil => rfl
  | cons a r ih => simp [ih, told_enc]
theorem fineL (as : List (Option (Int × Int))) : Fine (.lst (as.map encA)) := ⟨by simp, by simp, fun ds e => nomatch e⟩
theorem fineT (as : List (Option (Int × Int))) : Fine (.tup (as.map encA)) := ⟨by simp, by simp, fun ds e x hx => by
  cases e
  obtain ⟨a, _, rfl⟩ := List.mem_map.mp hx
  exact ⟨(fine_enc a).k, (fine_enc a).p⟩⟩
theorem chk_enc (as : List (Option (Int × Int))) (ans : D) (ha : ans = .lst (as.map encA) ∨ ans = .tup (as.map encA)) (hl : as.length ≤ lineB) (hlow : as.all low = true) : F_check_answers [ans] [] = .ok .non [] := by
  have hf : Fine ans := by rcases ha with rfl | rfl; exact fineL as; exact fineT as
  rw [sp_check_answers ans hf fun ds e => ?_]
  · have : isAns ans = true := by
      rcases ha with rfl | rfl
      · show (as.map encA).all isTold = true
        rw [isAns_enc]; exact hlow
      · show (as.map encA).all isTold = true
        rw [isAns_enc]; exact hlow
    simp [this]
  · have : ds = as.map encA := by rcases ha with rfl | rfl <;> (rcases e with e | e <;> cases e <;> rfl)
    subst this
    refine ⟨fun x hx => ?_, by simpa using hl⟩
    obtain ⟨a, _, rfl⟩ := List.mem_map.mp hx
    exact fine_enc a
end
end K75
namespace K75
open PySem PySem.Spec PyProof.Rows L2 Gh
/-! ### the end of a list -/
theorem ixN_last (n : Nat) : ixN (n + 1) (-1) = some n := by
  unfold ixN
  simp
  try omega
theorem atI_last {α : Type} (ys : List α) (z : α) : atI (ys ++ [z]) (-1) = some z := by
  unfold atI
  rw [List.length_append, List.length_singleton, ixN_last]
  simp
theorem put_last (ys : List D) (z d : D) : putD [.lst (ys ++ [z])] (.ref 0) (.int (-1)) d = some [.lst (ys ++ [d])] := by
  unfold putD
  simp [ixN_last]
/-! ### the law's own reading of an answer -/
theorem sp_is_high (a : Option (Int × Int)) (u : Int) (hu : sml u) : F_law_is_high [encA a, .int u] [] = .ok (.bl (hi u a)) [] := by
  rcases a with _ | ⟨n, m⟩
  · simp [F_law_is_high, fz, R_law_is_high, bodyF, startD, c_law_is_high, endF, hi]
  · simp [F_law_is_high, fz, R_law_is_high, bodyF, startD, c_law_is_high, endF, hi, atI, ixN, okMul_sml hu]
theorem sp_is_low (a : Option (Int × Int)) (u : Int) (hu : sml u) : F_law_is_low [encA a, .int u] [] = .ok (.bl (lo u a)) [] := by
  rcases a with _ | ⟨n, m⟩
  · simp [F_law_is_low, fz, R_law_is_low, bodyF, startD, c_law_is_low, endF, lo]
  · simp [F_law_is_low, fz, R_law_is_low, bodyF, startD, c_law_is_low, endF, lo, atI, ixN, okMul_sml hu]
section
variable {u d r f : Int}
/-- the state, told by raised and many -/
theorem loop_law (b ans st0 : D) (hu : sml u) (hd : sml d) (hr : 1 ≤ r) (hf : 1 ≤ f) : ∀ (as : List (Option (Int × Int))) (acc : List D) (st : Int) (o : Option D), 0 ≤ st → st < r + f → acc.length + as.length ≤ lineB →
    ∃ o7 o8 o', forD (.nm 10) (cSeq (cIfS (cTru (cVar 7)) (cSeq (cSet 8 (cIf (cTru (cFn 0 F_law_is_low 2 0 (fun ds _ => ds) (cCons (cVar 10) (cCons (cVar 4) cNil)) cNil)) (cOp fPlus (cVar 8) (cC (.int 1))) (cC (.int 0)))) (cIfS (cBl (cOp fEq (cVar 8) (cVar 6))) (cAsg (.tup [.nm 7, .nm 8]) (cTup (cCons (cC (.bl false)) (cCons (cC (.int 0)) cNil)))) cSkip)) (cSeq (cSet 8 (cIf (cTru (cFn 0 F_law_is_high 2 0 (fun ds _ => ds) (cCons (cVar 10) (cCons (cVar 3) cNil)) cNil)) (cOp fPlus (cVar 8) (cC (.int 1))) (cC (.int 0)))) (cIfS (cBl (cOp fEq (cVar 8) (cVar 5))) (cAsg (.tup [.nm 7, .nm 8]) (cTup (cCons (cC (.bl true)) (cCons (cC (.int 0)) cNil)))) cSkip))) (cDrop (cMt mApp (cVar 9) (cCons (cOp fPlus (cVar 8) (cIf (cTru (cVar 7)) (cVar 5) (cC (.int 0)))) cNil)))) (fun _ => True) (as.map encA)
      [some b, some ans, some st0, some (.int u), some (.int d), some (.int r), some (.int f), some (.bl (decide (r ≤ st))), some (.int (if r ≤ st then st - r else st)), some (.ref 0), o] [.lst acc] =
      .nx [some b, some ans, some st0, some (.int u), some (.int d), some (.int r), some (.int f), o7, o8, some (.ref 0), o'] [.lst (acc ++ (run u d r f st as).map .int)]
  | [], acc, st, o, _, _, _ => ⟨_, _, o, by simp [forD, run]; exact ⟨rfl, rfl⟩⟩
  | a :: as, acc, st, o, h0, h1, hl => by
    simp only [List.length_cons] at hl
    have hl2 : acc.length < lineB := by omega
    have hl3 : 2 ≤ lineB := by decide
    have n0 : 0 ≤ nxt u d r f st a := by
      unfold nxt
      split
      · split <;> omega
      · split
        · exact Int.emod_nonneg _ (by omega)
        · omega
    have n1 : nxt u d r f st a < r + f := by
      unfold nxt
      split
      · split <;> omega
      · split
        · exact Int.emod_lt_of_pos _ (by omega)
        · omega
    obtain ⟨o7, o8, o', ih⟩ := loop_law b ans st0 hu hd hr hf as (acc ++ [.int (nxt u d r f st a)]) (nxt u d r f st a) (some (encA a)) n0 n1 (by simp; omega)
    refine ⟨o7, o8, o', ?_⟩
    by_cases c1 : r ≤ st
    · have c2 : ¬ st < r := by omega
      cases c3 : lo d a with
      | true =>
        by_cases c4 : st - r + 1 = f
        · have e : nxt u d r f st a = 0 := by
            unfold nxt
            rw [if_neg c2, c3, if_pos rfl, show st + 1 = r + f by omega, Int.emod_self]
          have c5 : ¬ r ≤ 0 := by omega
          rw [e] at ih
          simp only [c5, decide_false, if_false] at ih
          simp [forD, kT, kTs, call0, sp_is_low a d hd, c1, c3, c4, hl2, hl3, kdOf, mApp, ih, run, e]
        · have e : nxt u d r f st a = st + 1 := by
            unfold nxt
            rw [if_neg c2, c3, if_pos rfl]
            exact Int.emod_eq_of_lt (by omega) (by omega)
          have c5 : r ≤ st + 1 := by omega
          have c6 : st + 1 - r = st - r + 1 := by omega
          have c7 : st - r + 1 + r = st + 1 := by omega
          rw [e] at ih
          simp only [c5, decide_true, if_true, c6] at ih
          simp [forD, kT, kTs, call0, sp_is_low a d hd, c1, c3, c4, c7, hl2, hl3, kdOf, mApp, ih, run, e]
      | false =>
        have e : nxt u d r f st a = r := by
          unfold nxt
          rw [if_neg c2, c3]
          simp
        have c4 : ¬ (0 = f) := by omega
        rw [e] at ih
        simp only [Int.le_refl, decide_true, if_true, Int.sub_self] at ih
        simp [forD, kT, kTs, call0, sp_is_low a d hd, c1, c3, c4, hl2, hl3, kdOf, mApp, ih, run, e]
    · have c2 : st < r := by omega
      cases c3 : hi u a with
      | true =>
        by_cases c4 : st + 1 = r
        · have e : nxt u d r f st a = r := by
            unfold nxt
            rw [if_pos c2, c3, if_pos rfl, c4]
          rw [e] at ih
          simp only [Int.le_refl, decide_true, if_true, Int.sub_self] at ih
          simp [forD, kT, kTs, call0, sp_is_high a u hu, c1, c3, c4, hl2, hl3, kdOf, mApp, ih, run, e]
        · have e : nxt u d r f st a = st + 1 := by
            unfold nxt
            rw [if_pos c2, c3, if_pos rfl]
          have c5 : ¬ r ≤ st + 1 := by omega
          rw [e] at ih
          simp only [c5, decide_false, if_false] at ih
          simp [forD, kT, kTs, call0, sp_is_high a u hu, c1, c3, c4, hl2, hl3, kdOf, mApp, ih, run, e]
      | false =>
        have e : nxt u d r f st a = 0 := by
          unfold nxt
          rw [if_pos c2, c3]
          simp
        have c4 : ¬ (0 = r) := by omega
        have c5 : ¬ r ≤ 0 := by omega
        rw [e] at ih
        simp only [c5, decide_false, if_false] at ih
        simp [forD, kT, kTs, call0, sp_is_high a u hu, c1, c3, c4, hl2, hl3, kdOf, mApp, ih, run, e]
end
end K75
namespace K75
open PySem PySem.Spec PyProof.Rows L2 Gh
section
variable {u d r f : Int}
theorem sp_law_statesR (as : List (Option (Int × Int))) (ans : D) (ha : ans = .lst (as.map encA) ∨ ans = .tup (as.map encA)) (hl : as.length ≤ lineB) (hu : sml u) (hd : sml d) (hr : 1 ≤ r) (hf : 1 ≤ f) (st : Int) (h0 : 0 ≤ st) (h1 : st < r + f) : R_law_states [.tup [.int u, .int d, .int r, .int f], ans, .int st] [] = .ok (.ref 0) [.lst ((run u d r f st as).map .int)] := by
  obtain ⟨o7, o8, o', hl⟩ := loop_law (u := u) (d := d) (r := r) (f := f) (.tup [.int u, .int d, .int r, .int f]) ans (.int st) hu hd hr hf as [] st none h0 h1 (by simpa using hl)
  have pa : ∀ s, subD s ans = some ans := by rcases ha with rfl | rfl <;> simp
  have hs : ∀ E, cSeqI ans E = some (as.map encA, fun _ => True) := by intro E; rcases ha with rfl | rfl <;> rfl
  by_cases c : r ≤ st
  · simp only [c, decide_true, if_true] at hl
    simp [R_law_states, bodyF, startD, c_law_states, endF, lineB, hs, hl, c, kT, kTs]
  · simp only [c, decide_false, if_false] at hl
    simp [R_law_states, bodyF, startD, c_law_states, endF, lineB, hs, hl, c, kT, kTs]
theorem sp_law_states (as : List (Option (Int × Int))) (ans : D) (ha : ans = .lst (as.map encA) ∨ ans = .tup (as.map encA)) (hl : as.length ≤ lineB) (hu : sml u) (hd : sml d) (hr : 1 ≤ r) (hf : 1 ≤ f) (st : Int) (h0 : 0 ≤ st) (h1 : st < r + f) : F_law_states [.tup [.int u, .int d, .int r, .int f], ans, .int st] [] = .ok (.lst ((run u d r f st as).map .int)) [] := by
  simp [F_law_states, fz, sp_law_statesR as ans ha hl hu hd hr hf st h0 h1, fzO, frz, frzS, subHs]
end
end K75
namespace K75
open PySem PySem.Spec PyProof.Rows L2 Gh
@[simp] theorem rngD_zero {lo : Int} : rngD lo 0 = [] := rfl
theorem rngD_succ {lo : Int} {n : Nat} : rngD lo (n + 1) = .int lo :: rngD (lo + 1) n := by
  unfold rngD
  rw [List.range_succ_eq_map, List.map_cons, List.map_map]
  simp
  intro a _
  omega
theorem ixN_mid {m n : Nat} (h : n < m) : ixN m (n : Int) = some n := by
  unfold ixN
  have : (n : Int).toNat = n := by omega
  simp [this, h]
theorem atI_mid {α : Type} (xs : List α) (z : α) (ys : List α) (n : Int) (h : n = xs.length) : atI (xs ++ z :: ys) n = some z := by
  subst h
  unfold atI
  rw [ixN_mid (by simp)]
  simp
theorem okRg_len {n : Nat} (h : n ≤ lineB) : okRg (n : Int) = true := by
  have : n ≤ 16777216 := h
  unfold okRg
  simp only [Bool.and_eq_true, decide_eq_true_eq]
  omega
theorem rg1_len {n : Nat} (h : n ≤ lineB) : rg1 [.int (n : Int)] = some (rngD 0 n, fun _ => True) := by
  unfold rg1
  simp only [okRg_len h, if_true, Int.toNat_natCast]
theorem endF_nx {r : Rho} {e : Eta} : endF (.nx r e) = .ok .non e := rfl
theorem endF_ret {d : D} {e : Eta} : endF (.ret d e) = .ok d e := rfl
theorem endF_exc {x fs r e} : endF (.exc x fs r e) = .exc x fs e := rfl
theorem fz_lst (F : Fd) (a z : List D) (hz : ∀ s, subDs s z = some z) (e : F a [] = .ok (.ref 0) [.lst z]) : fz F a [] = .ok (.lst z) [] := by
  simp [fz, e, fzO, frz, frzS, subHs, hz]
end K75
namespace K75
open PySem PySem.Spec PyProof.Rows L2 Gh
def cnt : Int → List Bool → List Int
  | _, [] => []
  | p, b :: bs => (if b = true then p + 1 else 0) :: cnt (if b = true then p + 1 else 0) bs
theorem cnt_len : ∀ {bs : List Bool} {p : Int}, (cnt p bs).length = bs.length
  | [], p => rfl
  | b :: bs, p => by simp [cnt, cnt_len (bs := bs)]
/-! ### the sentence -/
def fin (u d r f : Int) : Int → List (Option (Int × Int)) → Int
  | st, [] => st
  | st, a :: as => fin u d r f (nxt u d r f st a) as
theorem run_last {u d r f : Int} : ∀ (as : List (Option (Int × Int))) (st : Int), as ≠ [] → ∃ ys, run u d r f st as = ys ++ [fin u d r f st as]
  | [], _, h => absurd rfl h
  | [a], st, _ => ⟨[], rfl⟩
  | a :: b :: as, st, _ => by
    obtain ⟨ys, e⟩ := run_last (b :: as) (nxt u d r f st a) (by simp)
    exact ⟨nxt u d r f st a :: ys, by rw [run, e]; rfl⟩
/-- no low run of f -/
def noLow (d f : Int) : Int → List (Option (Int × Int)) → Bool
  | _, [] => true
  | m, a :: as => !decide (f ≤ if lo d a = true then m + 1 else 0) && noLow d f (if lo d a = true then m + 1 else 0) as
/-- a run of r high ones, behind which no low run of f -/
def sent (u d r f : Int) : Int → List (Option (Int × Int)) → Bool
  | _, [] => false
  | c, a :: as => (decide (r ≤ if hi u a = true then c + 1 else 0) && noLow d f 0 as) || sent u d r f (if hi u a = true then c + 1 else 0) as
theorem hi_lo {u d : Int} (h : d ≤ u) : ∀ {a : Option (Int × Int)}, low a = true → hi u a = true → lo d a = false
  | none, _, _ => rfl
  | some (n, m), h1, h2 => by
    simp only [low, Bool.and_eq_true, decide_eq_true_eq] at h1
    simp only [hi, decide_eq_true_eq] at h2
    simp only [lo, decide_eq_false_iff_not]
    have := Int.mul_le_mul_of_nonneg_right h (Int.le_of_lt h1.1)
    omega
theorem fin_sent {u d r f : Int} (hdu : d ≤ u) (hr : 1 ≤ r) (hf : 1 ≤ f) : ∀ (as : List (Option (Int × Int))), as.all low = true →
    (∀ c, 0 ≤ c → c < r → decide (r ≤ fin u d r f c as) = sent u d r f c as) ∧ (∀ m h, 0 ≤ m → m < f → decide (r ≤ fin u d r f (r + m) as) = (noLow d f m as || sent u d r f h as))
  | [], _ => ⟨fun c h0 h1 => by rw [fin, sent]; exact decide_eq_false (by omega), fun m h h0 h1 => by rw [fin, noLow, Bool.true_or]; exact decide_eq_true (by omega)⟩
  | a :: as, hl => by
    simp only [List.all_cons, Bool.and_eq_true] at hl
    obtain ⟨iA, iB⟩ := fin_sent hdu hr hf as hl.2
    constructor
    · intro c h0 h1
      have n1 : nxt u d r f c a = if hi u a = true then c + 1 else 0 := by unfold nxt; rw [if_pos h1]
      rw [fin, sent, n1]
      cases e : hi u a with
      | true =>
        simp only [if_true]
        by_cases h2 : c + 1 = r
        · have := iB 0 (c + 1) (by omega) (by omega)
          rw [Int.add_zero] at this
          have h3 : r ≤ c + 1 := by omega
          rw [decide_eq_true h3, Bool.true_and, ← this, h2]
        · have h3 : ¬ r ≤ c + 1 := by omega
          rw [decide_eq_false h3, Bool.false_and, Bool.false_or]
          exact iA (c + 1) (by omega) (by omega)
      | false =>
        have h3 : ¬ r ≤ 0 := by omega
        simp only [Bool.false_eq_true, if_false]
        rw [decide_eq_false h3, Bool.false_and, Bool.false_or]
        exact iA 0 (by omega) (by omega)
    · intro m h h0 h1
      have h2 : ¬ r + m < r := by omega
      have n1 : nxt u d r f (r + m) a = if lo d a = true then (r + m + 1) % (r + f) else r := by unfold nxt; rw [if_neg h2]
      rw [fin, sent, noLow, n1]
      cases e : lo d a with
      | true =>
        have e2 : hi u a = false := by
          cases e3 : hi u a with
          | false => rfl
          | true => rw [hi_lo hdu hl.1 e3] at e; cases e
        have h3 : ¬ r ≤ 0 := by omega
        simp only [e2, if_true, Bool.false_eq_true, if_false]
        rw [decide_eq_false h3, Bool.false_and, Bool.false_or]
        by_cases h4 : m + 1 = f
        · have h5 : f ≤ m + 1 := by omega
          rw [show r + m + 1 = r + f by omega, Int.emod_self, decide_eq_true h5]
          simp only [Bool.not_true, Bool.false_and, Bool.false_or]
          exact iA 0 (by omega) (by omega)
        · have h5 : ¬ f ≤ m + 1 := by omega
          rw [Int.emod_eq_of_lt (by omega) (by omega), decide_eq_false h5]
          simp only [Bool.not_false, Bool.true_and]
          have := iB (m + 1) 0 (by omega) (by omega)
          rw [← this, Int.add_assoc]
      | false =>
        have h5 : ¬ f ≤ 0 := by omega
        simp only [Bool.false_eq_true, if_false]
        rw [decide_eq_false h5]
        simp only [Bool.not_false, Bool.true_and]
        have h6 := iB 0 (if hi u a = true then h + 1 else 0) (by omega) (by omega)
        rw [Int.add_zero] at h6
        rw [h6]
        cases decide (r ≤ if hi u a = true then h + 1 else 0) <;> cases noLow d f 0 as <;> rfl
/-- no low run, by the counts -/
theorem noLow_cnt {d f : Int} : ∀ (as : List (Option (Int × Int))) (m : Int), ((cnt m (as.map (lo d))).filter fun x => decide (f ≤ x)) = [] ↔ noLow d f m as = true
  | [], m => by simp [cnt, noLow]
  | a :: as, m => by
    have ih := noLow_cnt (d := d) (f := f) as (if lo d a = true then m + 1 else 0)
    rw [List.map_cons, cnt, noLow, Bool.and_eq_true, ← ih, List.filter_cons]
    by_cases h : f ≤ if lo d a = true then m + 1 else 0
    · simp [h]
    · simp [h]
end K75
namespace K75
open PySem PySem.Spec PyProof.Rows L2 Gh
/-! ### slices, lists of ints -/
theorem cut_take (ds : List D) (k : Nat) : Gh.cutD ds none (some (k : Int)) = ds.take k := by
  unfold Gh.cutD
  rw [HT.sIx_none, HT.sIx_nat, List.drop_zero, Nat.sub_zero]
  by_cases h : k ≤ ds.length
  · rw [Nat.min_eq_left h]
  · rw [Nat.min_eq_right (by omega), List.take_of_length_le (by omega), List.take_of_length_le (by omega)]
theorem cut_drop (ds : List D) (k : Nat) : Gh.cutD ds (some (k : Int)) none = ds.drop k := by
  unfold Gh.cutD
  rw [HT.sIx_none, HT.sIx_nat, List.take_of_length_le (by simp)]
  by_cases h : k ≤ ds.length
  · rw [Nat.min_eq_left h]
  · rw [Nat.min_eq_right (by omega), List.drop_of_length_le (by omega), List.drop_of_length_le (by omega)]
theorem pyDs_ints {f : Nat → Option PyData} : ∀ ns : List Int, pyDs f (ns.map D.int) = some (ns.map PyData.int)
  | [] => by simp [pyDs]
  | n :: r => by simp [pyDs, pyD, pyDs_ints r]
theorem lay_ints : ∀ ns : List Int, PyData.canLayAll0 (ns.map PyData.int) = true
  | [] => by simp [PyData.canLayAll0]
  | n :: r => by simp [PyData.canLayAll0, PyData.canLay0, lay_ints r]
theorem dep_ints : ∀ ns : List Int, PyData.depthAll (ns.map PyData.int) = 0
  | [] => by simp [PyData.depthAll]
  | n :: r => by simp [PyData.depthAll, PyData.depth, dep_ints r]
theorem eq_ints_nil (ns : List Int) (eta : Eta) : fEq (.lst (ns.map .int)) (.lst []) eta = some (.bl (decide (ns = []))) := by
  have h : fEq (.lst (ns.map .int)) (.lst []) eta = eqGen (.lst (ns.map .int)) (.lst []) eta := rfl
  rw [h]
  simp only [eqGen, py, pyD, pyDs_ints, Option.map_some]
  cases ns with
  | nil => simp [pyDs, SeqAt.shaped, PyData.canLay0, PyData.canLayAll0, PyData.depth, PyData.depthAll, PyData.eqv, PyData.eqvAll]
  | cons n r => simp [pyDs, SeqAt.shaped, PyData.canLay0, PyData.canLayAll0, lay_ints, PyData.depth, PyData.depthAll, dep_ints, PyData.eqv, PyData.eqvAll]
@[simp] theorem subs_bls {s} : ∀ ns : List Bool, subDs s (ns.map D.bl) = some (ns.map D.bl)
  | [] => by simp
  | n :: r => by simp [subs_bls r]
def loD (d : Int) : D → Bool
  | .tup [.int n, .int m] => decide (n < d * m)
  | _ => false
def hiD (u : Int) : D → Bool
  | .tup [.int n, .int m] => decide (u * m ≤ n)
  | _ => false
theorem loD_enc {d : Int} {a : Option (Int × Int)} : loD d (encA a) = lo d a := by rcases a with _ | ⟨n, m⟩ <;> rfl
theorem hiD_enc {d : Int} {a : Option (Int × Int)} : hiD d (encA a) = hi d a := by rcases a with _ | ⟨n, m⟩ <;> rfl
theorem map_loD {d : Int} : ∀ (as : List (Option (Int × Int))), (as.map encA).map (fun x => D.bl (loD d x)) = (as.map (lo d)).map .bl
  | [] => rfl
  | a :: as => by rw [List.map_cons, List.map_cons, List.map_cons, List.map_cons, map_loD as, loD_enc]
theorem map_hiD {d : Int} : ∀ (as : List (Option (Int × Int))), (as.map encA).map (fun x => D.bl (hiD d x)) = (as.map (hi d)).map .bl
  | [] => rfl
  | a :: as => by rw [List.map_cons, List.map_cons, List.map_cons, List.map_cons, map_hiD as, hiD_enc]
end K75
namespace K75
open PySem PySem.Spec PyProof.Rows L2 Gh
/-! ### lowest terms -/
@[simp] theorem int_int {i : Int} {eta : Eta} : bInt [.int i] eta = some (.int i) := rfl
@[simp] theorem int_bl {b : Bool} {eta : Eta} : bInt [.bl b] eta = some (.int (if b then 1 else 0)) := rfl
@[simp] theorem abs_int {i : Int} {eta : Eta} : bAbs [.int i] eta = some (.int (if i < 0 then -i else i)) := rfl
theorem abs_nat (i : Int) : (if i < 0 then -i else i) = (i.natAbs : Int) := by split <;> omega
def lst : Option (Int × Int) → Option (Int × Int)
  | none => none
  | some (n, m) => some (n / (Nat.gcd n.natAbs m.natAbs : Nat), m / (Nat.gcd n.natAbs m.natAbs : Nat))
theorem loop_gcd (p : Option D) : ∀ (k x y : Nat), y ≤ k → cWhile (cBl (cOp fNe (cVar 2) (cC (.int 0)))) (cPar 1 2 (cCons (cVar 2) (cCons (cOp fMod (cCall bInt (cCons (cVar 1) (cNil))) (cVar 2)) (cNil)))) [p, some (.int x), some (.int y)] [] = .nx [p, some (.int (Nat.gcd x y : Nat)), some (.int 0)] [] := by
  intro k
  induction k with
  | zero =>
    intro x y h
    obtain rfl : y = 0 := by omega
    rw [cWhile_step]
    simp
  | succ k ih =>
    intro x y h
    rw [cWhile_step]
    by_cases hy : y = 0
    · subst hy; simp
    · have h1 : x % y < y := Nat.mod_lt x (by omega)
      have e := ih y (x % y) (by omega)
      have g : Nat.gcd y (x % y) = Nat.gcd x y := by rw [Nat.gcd_comm x y, Nat.gcd_rec y x, Nat.gcd_comm]
      have c1 : (x : Int) % (y : Int) = ((x % y : Nat) : Int) := rfl
      have c2 : ¬ ((y : Int) = 0) := by omega
      have c3 : (0 : Int) < y := by omega
      rw [g] at e
      clear ih g h1 h hy
      generalize ((x % y : Nat) : Int) = R at e c1
      generalize ((Nat.gcd x y : Nat) : Int) = G at e ⊢
      generalize (y : Int) = Y at *
      generalize (x : Int) = X at *
      simp [c2, c3, c1, e]
theorem sp_lowest (n : Int) (M : Nat) (h1 : 0 < M) (h2 : M < 18446744073709551616) : F_law_lowest [encA (some (n, (M : Int)))] [] = .ok (encA (lst (some (n, (M : Int))))) [] := by
  have hw := loop_gcd (some (.tup [.int n, .int M])) M n.natAbs M (Nat.le_refl _)
  have g1 : 0 < Nat.gcd n.natAbs M := Nat.gcd_pos_of_pos_right _ h1
  have g2 : Nat.gcd n.natAbs M ≤ M := Nat.gcd_le_right _ h1
  simp only [encA, lst, Int.natAbs_natCast]
  generalize Nat.gcd n.natAbs M = g at g1 g2 hw ⊢
  have g3 : (0 : Int) < g := by omega
  have g4 : (g : Int) < 340282366920938463463374607431768211456 := by omega
  have hl3 : 2 ≤ lineB := by decide
  simp [F_law_lowest, fz, R_law_lowest, bodyF, startD, c_law_lowest, endF_nx, endF_ret, endF_exc, atI, ixN, abs_nat, hw, g1, g3, g4, hl3]
theorem sp_lowest_none : F_law_lowest [encA none] [] = .ok (encA none) [] := by
  simp [F_law_lowest, fz, R_law_lowest, bodyF, startD, c_law_lowest, endF_nx, endF_ret, endF_exc]
theorem low_lst (n : Int) (M : Nat) (h1 : 0 < M) : low (lst (some (n, (M : Int)))) = true := by
  have g1 : 0 < Nat.gcd n.natAbs M := Nat.gcd_pos_of_pos_right _ h1
  simp only [lst, low, Int.natAbs_natCast]
  obtain ⟨a, ha⟩ := Nat.gcd_dvd_left n.natAbs M
  obtain ⟨b, hb⟩ := Nat.gcd_dvd_right n.natAbs M
  have hab : Nat.gcd a b = 1 := by
    have e : Nat.gcd (Nat.gcd n.natAbs M * a) (Nat.gcd n.natAbs M * b) = Nat.gcd n.natAbs M * Nat.gcd a b := Nat.gcd_mul_left _ _ _
    rw [← ha, ← hb] at e
    exact Nat.eq_of_mul_eq_mul_left g1 (by rw [Nat.mul_one]; exact e.symm)
  generalize Nat.gcd n.natAbs M = g at g1 ha hb
  have eb : (M : Int) / (g : Int) = b := by
    rw [hb, Int.natCast_mul]
    exact Int.mul_ediv_cancel_left _ (by omega)
  have ea : (n / (g : Int)).natAbs = a := by
    rcases Int.natAbs_eq n with e | e
    · rw [e, ha, Int.natCast_mul, Int.mul_ediv_cancel_left _ (by omega)]; rfl
    · rw [e, ha, Int.natCast_mul, ← Int.mul_neg, Int.mul_ediv_cancel_left _ (by omega)]; simp
  have pb : 0 < b := by
    rcases Nat.eq_zero_or_pos b with z | z
    · rw [z, Nat.mul_zero] at hb; omega
    · exact z
  rw [eb, ea]
  simp [pb, hab]
theorem lst_small (n : Int) (M : Nat) (h1 : 0 < M) {B : Nat} (hn : n.natAbs ≤ B) (hM : M ≤ B) : ∃ n' m', lst (some (n, (M : Int))) = some (n', m') ∧ n'.natAbs ≤ B ∧ m'.natAbs ≤ B := by
  refine ⟨_, _, rfl, ?_, ?_⟩
  · exact Nat.le_trans (Int.natAbs_ediv_le_natAbs _ _) hn
  · exact Nat.le_trans (Int.natAbs_ediv_le_natAbs _ _) (by simpa using hM)
end K75
namespace K75
open PySem PySem.Spec PyProof.Rows L2 Gh
/-! ### the box of draws -/
def Bx (C : Nat) (h : HD) : Prop := ∃ (g : Int) (fl : Bool) (s c : Int), h = .lst [.int g, .bl fl, .int s, .int c] ∧ 0 ≤ s ∧ s < 2147483629 ∧ 0 ≤ c ∧ c ≤ C
theorem Bx.mono {C C' : Nat} {h : HD} (b : Bx C h) (l : C ≤ C') : Bx C' h := by
  obtain ⟨g, fl, s, c, e, h1, h2, h3, h4⟩ := b
  exact ⟨g, fl, s, c, e, h1, h2, h3, by omega⟩
theorem Bx.pure {C : Nat} {h : HD} (b : Bx C h) : ∀ s, subH s h = some h := by
  obtain ⟨g, fl, s, c, rfl, h1, h2, h3, h4⟩ := b
  intro s
  simp [subH]
theorem take_great (g s c many : Int) (m0 : 0 < many) (m1 : many < 340282366920938463463374607431768211456) (hg : 0 < g) : F_law_take [.ref 0, .int many] [.lst [.int g, .bl true, .int s, .int c]] = .ok (.int (g % many)) [.lst [.int (g / many), .bl true, .int s, .int c]] := by
  simp [F_law_take, fz, R_law_take, bodyF, startD, c_law_take, endF_nx, endF_ret, endF_exc, atI, ixN, hg, m0, m1, putD]
theorem take_mixed (g s c many : Int) (fl : Bool) (m0 : 0 < many) (hg : fl = false ∨ ¬ 0 < g) (hs : 0 ≤ s) (hs2 : s < 2147483629) (hc : 0 ≤ c) (hc2 : c ≤ 1000000) : ∃ x, F_law_take [.ref 0, .int many] [.lst [.int g, .bl fl, .int s, .int c]] = .ok (.int (x % many)) [.lst [.int g, .bl fl, .int s, .int (c + 1)]] := by
  have k1 : okMul 15485863 (c + 1) = true := okMul_sml (by unfold sml; omega) _
  have k2 : okMul 104729 (c + 1) = true := okMul_sml (by unfold sml; omega) _
  have n1 : (s + 15485863 * (c + 1) + 179424673).natAbs < 18446744073709551616 := by omega
  have k3 : okMul ((s + 15485863 * (c + 1) + 179424673) ^ 5 % 2147483647) 48271 = true := okMul_sml (by unfold sml; omega) _
  have n2 : ((s + 15485863 * (c + 1) + 179424673) ^ 5 % 2147483647 * 48271 + 104729 * (c + 1)).natAbs < 18446744073709551616 := by omega
  cases fl with
  | false => exact ⟨_, by simp [F_law_take, fz, R_law_take, bodyF, startD, c_law_take, endF_nx, endF_ret, endF_exc, atI, ixN, m0, putD, k1, k2, k3, n1, n2]; rfl⟩
  | true =>
    have hg' : ¬ 0 < g := by simpa using hg
    exact ⟨_, by simp [F_law_take, fz, R_law_take, bodyF, startD, c_law_take, endF_nx, endF_ret, endF_exc, atI, ixN, m0, putD, hg', k1, k2, k3, n1, n2]; rfl⟩
theorem take_call {C : Nat} {h : HD} (b : Bx C h) (hC : C ≤ 1000000) {many : Int} (m0 : 0 < many) (m1 : many < 18446744073709551616) : ∃ x h', 0 ≤ x ∧ x < many ∧ Bx (C + 1) h' ∧ ∀ eta, callD 1 F_law_take [.ref 0, .int many] (h :: eta) = .ok (.int x) (h' :: eta) := by
  have hp := b.pure
  obtain ⟨g, fl, s, c, rfl, h1, h2, h3, h4⟩ := b
  have q : ∀ x : Int, 0 ≤ x % many ∧ x % many < many := fun x => ⟨Int.emod_nonneg _ (by omega), Int.emod_lt_of_pos _ m0⟩
  by_cases hg : fl = true ∧ 0 < g
  · obtain ⟨rfl, hg⟩ := hg
    refine ⟨g % many, .lst [.int (g / many), .bl true, .int s, .int c], (q _).1, (q _).2, ⟨_, _, _, _, rfl, h1, h2, h3, by omega⟩, fun eta => ?_⟩
    rw [call1 (by simp) (hp _), take_great g s c many m0 (by omega) hg, backO1_ok]
  · obtain ⟨x, e⟩ := take_mixed g s c many fl m0 (by cases fl with | false => exact .inl rfl | true => exact .inr fun z => hg ⟨rfl, z⟩) h1 h2 h3 (by omega)
    refine ⟨x % many, .lst [.int g, .bl fl, .int s, .int (c + 1)], (q _).1, (q _).2, ⟨_, _, _, _, rfl, h1, h2, by omega, by omega⟩, fun eta => ?_⟩
    rw [call1 (by simp) (hp _), e, backO1_ok]
/-! ### picking -/
theorem pick {α : Type} (l : List α) (x : Int) (h0 : 0 ≤ x) (h1 : x < l.length) : ∃ a, a ∈ l ∧ atI l x = some a := by
  obtain ⟨k, rfl⟩ : ∃ k : Nat, x = k := ⟨x.toNat, by omega⟩
  have h2 : k < l.length := by omega
  refine ⟨l[k], List.getElem_mem h2, ?_⟩
  unfold atI
  rw [ixN_mid (by omega)]
  simp [h2]
theorem pickI (l : List Int) (x : Int) (h0 : 0 ≤ x) (h1 : x < l.length) : ∃ a, a ∈ l ∧ atI (l.map D.int) x = some (.int a) := by
  obtain ⟨a, h2, h3⟩ := pick (l.map D.int) x h0 (by simpa using h1)
  obtain ⟨b, h4, rfl⟩ := List.mem_map.mp h2
  exact ⟨b, h4, h3⟩
theorem pickA (l : List (Int × Int)) (x : Int) (h0 : 0 ≤ x) (h1 : x < l.length) : ∃ n m, (n, m) ∈ l ∧ atI (l.map fun p => D.tup [.int p.1, .int p.2]) x = some (.tup [.int n, .int m]) := by
  obtain ⟨a, h2, h3⟩ := pick (l.map fun p => D.tup [.int p.1, .int p.2]) x h0 (by simpa using h1)
  obtain ⟨⟨n, m⟩, h4, rfl⟩ := List.mem_map.mp h2
  exact ⟨n, m, h4, h3⟩
end K75
namespace K75
open PySem PySem.Spec PyProof.Rows L2 Gh
/-! ### an alarm is drawn -/
theorem sp_law_alarm {C : Nat} {h : HD} (b : Bx C h) (hC : C ≤ 900000) : ∃ u d r f h', d ≤ u ∧ u.natAbs ≤ 100000000000 ∧ d.natAbs ≤ 200000000000 ∧ 1 ≤ r ∧ r ≤ 9 ∧ 1 ≤ f ∧ f ≤ 9 ∧ Bx (C + 6) h' ∧ F_law_alarm [.ref 0] [h] = .ok (.tup [.int u, .int d, .int r, .int f]) [h'] := by
  obtain ⟨x1, h1, l1, g1, b1, t1⟩ := take_call b (by omega) (many := 5) (by omega) (by omega)
  obtain ⟨x2, h2, l2, g2, b2, t2⟩ := take_call b1 (by omega) (many := 5) (by omega) (by omega)
  obtain ⟨x3, h3, l3, g3, b3, t3⟩ := take_call b2 (by omega) (many := 2) (by omega) (by omega)
  obtain ⟨k3, m3, a3⟩ := pickI [3, 9] x3 l3 (by simpa using g3)
  have k3' : 0 < k3 ∧ k3 ≤ 9 := by simp at m3; omega
  obtain ⟨x4, h4, l4, g4, b4, t4⟩ := take_call b3 (by omega) (many := k3) (by omega) (by omega)
  obtain ⟨x5, h5, l5, g5, b5, t5⟩ := take_call b4 (by omega) (many := 2) (by omega) (by omega)
  obtain ⟨k5, m5, a5⟩ := pickI [3, 9] x5 l5 (by simpa using g5)
  have k5' : 0 < k5 ∧ k5 ≤ 9 := by simp at m5; omega
  obtain ⟨x6, h6, l6, g6, b6, t6⟩ := take_call b5 (by omega) (many := k5) (by omega) (by omega)
  obtain ⟨u, mu, a1⟩ := pickI [0, 5, -3, 100000000000, 1] x1 l1 (by simpa using g1)
  obtain ⟨v, mv, a2⟩ := pickI [0, 1, 2, 7, 100000000000] x2 l2 (by simpa using g2)
  have hl : ∀ n, n ≤ 16777216 → n ≤ lineB := fun _ h => h
  have q5 : 5 ≤ lineB := by decide
  have q2 : 2 ≤ lineB := by decide
  have q4 : 4 ≤ lineB := by decide
  simp only [List.map_cons, List.map_nil] at a1 a2 a3 a5
  refine ⟨u, u - v, 1 + x4, 1 + x6, h6, ?_, ?_, ?_, by omega, by omega, by omega, by omega, b6, ?_⟩
  · simp at mv; omega
  · simp at mu; omega
  · simp at mu mv; omega
  · simp [F_law_alarm, fz, R_law_alarm, bodyF, startD, c_law_alarm, endF_nx, endF_ret, endF_exc, q5, q2, q4, t1, a1, t2, a2, t3, a3, t4, t5, a5, t6]
end K75
namespace K75
open PySem PySem.Spec PyProof.Rows L2 Gh
/-! ### one answer is drawn -/
def raw : Option (Int × Int) → Prop
  | none => True
  | some (n, m) => 0 < m ∧ m ≤ 6 ∧ n.natAbs ≤ 10000000000000
theorem mul_b {u k : Int} {B : Nat} (hu : u.natAbs ≤ B) (hk : 2 ≤ k) (hk2 : k ≤ 6) : (u * k).natAbs ≤ 6 * B := by
  have : k = 2 ∨ k = 3 ∨ k = 4 ∨ k = 5 ∨ k = 6 := by omega
  rcases this with rfl | rfl | rfl | rfl | rfl <;> omega
theorem sp_law_one {C : Nat} {h : HD} (b : Bx C h) (hC : C ≤ 900000) (u d kind : Int) (hu : u.natAbs ≤ 100000000000) (hd : d.natAbs ≤ 200000000000) (k0 : 0 ≤ kind) (k1 : kind < 4) : ∃ a h', raw a ∧ Bx (C + 2) h' ∧ F_law_one [.ref 0, .int u, .int d, .int kind] [h] = .ok (encA a) [h'] := by
  obtain ⟨x1, h1, l1, g1, b1, t1⟩ := take_call b (by omega) (many := 5) (by omega) (by omega)
  have ok1 : ∀ j, okMul u j = true := fun j => okMul_sml (by unfold sml; omega) j
  have ok2 : ∀ j, okMul d j = true := fun j => okMul_sml (by unfold sml; omega) j
  have q2 : 2 ≤ lineB := by decide
  have q3 : 3 ≤ lineB := by decide
  have q4 : 4 ≤ lineB := by decide
  have bu := mul_b hu (k := 2 + x1) (by omega) (by omega)
  have bd := mul_b hd (k := 2 + x1) (by omega) (by omega)
  have kk : kind = 0 ∨ kind = 1 ∨ kind = 2 ∨ kind = 3 := by omega
  rcases kk with rfl | rfl | rfl | rfl
  · obtain ⟨x2, h2, l2, g2, b2, t2⟩ := take_call b1 (by omega) (many := 4) (by omega) (by omega)
    obtain ⟨n, m, mm, a⟩ := pickA [(u, 1), (u + 1, 1), (u * (2 + x1) + 1, 2 + x1), (u + 1000000000, 1)] x2 l2 (by simpa using g2)
    simp only [List.map_cons, List.map_nil] at a
    refine ⟨some (n, m), h2, ?_, b2, ?_⟩
    · unfold raw
      simp at mm
      omega
    · simp [F_law_one, fz, R_law_one, bodyF, startD, c_law_one, endF_nx, endF_ret, endF_exc, q2, q3, q4, t1, t2, ok1, ok2, a]
  · obtain ⟨x2, h2, l2, g2, b2, t2⟩ := take_call b1 (by omega) (many := 3) (by omega) (by omega)
    obtain ⟨n, m, mm, a⟩ := pickA [(d - 1, 1), (d * (2 + x1) - 1, 2 + x1), (d - 1000000000, 1)] x2 l2 (by simpa using g2)
    simp only [List.map_cons, List.map_nil] at a
    refine ⟨some (n, m), h2, ?_, b2, ?_⟩
    · unfold raw
      simp at mm
      omega
    · simp [F_law_one, fz, R_law_one, bodyF, startD, c_law_one, endF_nx, endF_ret, endF_exc, q2, q3, q4, t1, t2, ok1, ok2, a]
  · by_cases c : d < u
    · obtain ⟨x2, h2, l2, g2, b2, t2⟩ := take_call b1 (by omega) (many := 3) (by omega) (by omega)
      obtain ⟨n, m, mm, a⟩ := pickA [(d, 1), (d * (2 + x1) + 1, 2 + x1), (u * (2 + x1) - 1, 2 + x1)] x2 l2 (by simpa using g2)
      simp only [List.map_cons, List.map_nil] at a
      refine ⟨some (n, m), h2, ?_, b2, ?_⟩
      · unfold raw
        simp at mm
        omega
      · simp [F_law_one, fz, R_law_one, bodyF, startD, c_law_one, endF_nx, endF_ret, endF_exc, q2, q3, q4, t1, t2, ok1, ok2, a, c]
    · refine ⟨none, h1, trivial, b1.mono (by omega), ?_⟩
      simp [F_law_one, fz, R_law_one, bodyF, startD, c_law_one, endF_nx, endF_ret, endF_exc, q2, q3, q4, t1, c]
  · refine ⟨none, h1, trivial, b1.mono (by omega), ?_⟩
    simp [F_law_one, fz, R_law_one, bodyF, startD, c_law_one, endF_nx, endF_ret, endF_exc, q2, q3, q4, t1]
end K75
namespace K75
open PySem PySem.Spec PyProof.Rows L2 Gh
/-! ### a row of answers is drawn -/
def sm : Option (Int × Int) → Prop
  | none => True
  | some (n, m) => n.natAbs ≤ 10000000000000 ∧ m.natAbs ≤ 10000000000000
def good (a : Option (Int × Int)) : Prop := low a = true ∧ sm a
theorem callLow (a : Option (Int × Int)) (h : raw a) : good (lst a) ∧ ∀ eta, callD 0 F_law_lowest [encA a] eta = .ok (encA (lst a)) eta := by
  rcases a with _ | ⟨n, m⟩
  · exact ⟨⟨rfl, trivial⟩, fun eta => by rw [call0 (by simp), sp_lowest_none, backO_ok]; rfl⟩
  · obtain ⟨h1, h2, h3⟩ := h
    obtain ⟨M, rfl⟩ : ∃ M : Nat, m = M := ⟨m.toNat, by omega⟩
    refine ⟨⟨low_lst n M (by omega), ?_⟩, fun eta => by rw [call0 (by simp), sp_lowest n M (by omega) (by omega), backO_ok]⟩
    obtain ⟨n', m', e, s1, s2⟩ := lst_small n M (by omega) h3 (by omega)
    rw [e]
    exact ⟨s1, s2⟩
theorem callOne {C : Nat} {h : HD} (b : Bx C h) (hC : C ≤ 900000) (u d kind : Int) (hu : u.natAbs ≤ 100000000000) (hd : d.natAbs ≤ 200000000000) (k0 : 0 ≤ kind) (k1 : kind < 4) : ∃ a h', raw a ∧ Bx (C + 2) h' ∧ ∀ eta, callD 1 F_law_one [.ref 0, .int u, .int d, .int kind] (h :: eta) = .ok (encA a) (h' :: eta) := by
  obtain ⟨a, h', r, b', e⟩ := sp_law_one b hC u d kind hu hd k0 k1
  exact ⟨a, h', r, b', fun eta => by rw [call1 (by simp) (b.pure _), e, backO1_ok]⟩
theorem rng_len {lo : Int} {n : Nat} : (rngD lo n).length = n := by simp [rngD]
theorem rg1_small {n : Int} (h0 : 0 ≤ n) (h1 : n ≤ 1000) : rg1 [.int n] = some (rngD 0 n.toNat, fun _ => True) := by
  have : okRg n = true := by unfold okRg; simp only [Bool.and_eq_true, decide_eq_true_eq]; omega
  unfold rg1
  simp only [this, if_true]
end K75
namespace K75
open PySem PySem.Spec PyProof.Rows L2 Gh
/-! ### texts of values -/
def rp (d : D) : Prop := ∃ x, ∀ eta, bRepr [d] eta = some (.str x)
theorem log2_small {n : Nat} (h : n ≤ 1000000000000000) : n.log2 < 1920 := by
  by_cases h0 : n = 0
  · subst h0; decide
  · exact (Nat.log2_lt h0).2 (Nat.lt_of_le_of_lt h (Nat.lt_of_lt_of_le (show 1000000000000000 < 2 ^ 60 by decide) (Nat.pow_le_pow_right (by decide) (by decide))))
theorem rp_of {d : D} {p : PyData} (h : ∀ eta, py eta d = some p) (hb : okB p = true) (hd : p.depth ≤ 60) (hs : szP p ≤ 16777216) : rp d := ⟨_, fun eta => repr_same (h eta) (okShow_of hb hd hs)⟩
theorem rp_bl (b : Bool) : rp (.bl b) := rp_of (p := .bool b) (fun _ => by simp [py, pyD]) (by simp only [okB]) (by simp [PyData.depth]) (by simp [szP])
theorem rp_int {i : Int} (h : i.natAbs ≤ 1000000000000000) : rp (.int i) := rp_of (p := .int i) (fun _ => by simp [py, pyD]) (by simp only [okB]; exact decide_eq_true (log2_small h)) (by simp [PyData.depth]) (by simp [szP])
theorem okB_ints : ∀ ns : List Int, (∀ n ∈ ns, n.natAbs ≤ 1000000000000000) → okBs (ns.map PyData.int) = true
  | [], _ => by simp [okBs]
  | n :: r, h => by
    have h1 := log2_small (h n (by simp))
    have h2 := okB_ints r fun m hm => h m (List.mem_cons_of_mem _ hm)
    simp [okBs, okB, h1, h2]
theorem sz_ints : ∀ ns : List Int, szPs (ns.map PyData.int) = 2000 * ns.length
  | [] => by simp [szPs]
  | n :: r => by
    rw [List.map_cons, szPs, sz_ints r, szP, List.length_cons]
    omega
theorem rp_ints {ns : List Int} (h : ∀ n ∈ ns, n.natAbs ≤ 1000000000000000) (hl : ns.length ≤ 8000) : ∃ x, (∀ eta, bRepr [.lst (ns.map .int)] eta = some (.str x)) ∧ ∀ h' eta, bRepr [.ref 1] (h' :: .lst (ns.map .int) :: eta) = some (.str x) := by
  have ho : okShow (.list (ns.map .int)) = true := okShow_of (by simp only [okB]; exact okB_ints ns h) (by simp [PyData.depth, dep_ints]) (by rw [szP, sz_ints]; omega)
  exact ⟨_, fun eta => repr_same (by simp [py, pyD, pyDs_ints]) ho, fun h' eta => repr_same (by simp [py, pyD, pyR, pyDs_ints]) ho⟩
/-! ### a row of answers is equal to itself -/
def pyA : Option (Int × Int) → PyData
  | none => .none
  | some (n, m) => .tuple [.int n, .int m]
theorem pyDs_encA {f : Nat → Option PyData} : ∀ as : List (Option (Int × Int)), pyDs f (as.map encA) = some (as.map pyA)
  | [] => by simp [pyDs]
  | none :: as => by simp [pyDs, pyD, encA, pyA, pyDs_encA as]
  | some (n, m) :: as => by simp [pyDs, pyD, encA, pyA, pyDs_encA as]
theorem lay_encA : ∀ as : List (Option (Int × Int)), PyData.canLayAll0 (as.map pyA) = true ∧ PyData.depthAll (as.map pyA) ≤ 1
  | [] => by simp [PyData.canLayAll0, PyData.depthAll]
  | none :: as => by
    obtain ⟨h1, h2⟩ := lay_encA as
    exact ⟨by simp [PyData.canLayAll0, PyData.canLay0, pyA, h1], by simp [PyData.depthAll, PyData.depth, pyA]; omega⟩
  | some (n, m) :: as => by
    obtain ⟨h1, h2⟩ := lay_encA as
    exact ⟨by simp [PyData.canLayAll0, PyData.canLay0, pyA, h1], by simp [PyData.depthAll, PyData.depth, pyA]; omega⟩
theorem ne_encA (as : List (Option (Int × Int))) (eta : Eta) : fNe (.lst (as.map encA)) (.lst (as.map encA)) eta = some (.bl false) := by
  obtain ⟨h1, h2⟩ := lay_encA as
  have e0 : fEq (.lst (as.map encA)) (.lst (as.map encA)) eta = eqGen (.lst (as.map encA)) (.lst (as.map encA)) eta := rfl
  have e1 : py eta (.lst (as.map encA)) = some (.list (as.map pyA)) := by simp [py, pyD, pyDs_encA]
  have hl : PyData.canLay0 (.list (as.map pyA)) = true := by simp only [PyData.canLay0]; exact h1
  have hd : PyData.depth (.list (as.map pyA)) ≤ 64 := by simp only [PyData.depth]; omega
  have e2 : eqGen (.lst (as.map encA)) (.lst (as.map encA)) eta = some (.bl true) := by
    unfold eqGen
    rw [e1]
    simp [SeqAt.shaped, hl, hd, eqv_self _ hl]
  unfold fNe
  rw [e0, e2]
  rfl
end K75
namespace K75
open PySem PySem.Spec PyProof.Rows L2 Gh
section
variable {u d r f : Int}
theorem backO_own {eta : Eta} {zs : List D} (hz : ∀ s, subDs s zs = some zs) : backO 0 eta (.ok (.ref 0) [.lst zs]) = .ok (.ref eta.length) (eta ++ [.lst zs]) := by
  simp [backO, backD, upS, subHs, subH, hz]
end
/-! ### alarms are made -/
section
variable {u d r f : Int}
@[simp] theorem kd_A {eta : Eta} : kdOf eta (A u d r f) = some (.obj 0) := rfl
theorem make_A {gD : List D → List D → List D} {ds es : List D} (eta : Eta) (s1 : subDs (lowS 0) ds = some ds) (s2 : subDs (lowS 0) es = some es) (hg : gD (.ref 0 :: ds) es = [.ref 0, .int u, .int d, .int r, .int f]) (h1 : d ≤ u) (h2 : 1 ≤ r) (h3 : r ≤ 9) (h4 : 1 ≤ f) (h5 : f ≤ 9) : makeD 0 0 F_Alarm___init gD ds es eta = .ok (A u d r f) eta := by
  simp [makeD, s1, s2, subHs, hg, sp_init u d r f h1 h2 h3 h4 h5, makeO, frz, frzS, A]
theorem mk_4 (h1 : d ≤ u) (h2 : 1 ≤ r) (h3 : r ≤ 9) (h4 : 1 ≤ f) (h5 : f ≤ 9) (eta : Eta) : makeD 0 0 F_Alarm___init (fun ds es => pickP [(0, 0), (0, 1), (0, 2), (0, 3), (0, 4)] ds [.int 1, .int 1] es) [.int u, .int d, .int r, .int f] [] eta = .ok (A u d r f) eta := make_A eta (by simp) (by simp) rfl h1 h2 h3 h4 h5
end
/-! ### texts of small values -/
def At (k n : Nat) (d : D) : Prop := ∃ p, (∀ f, pyD f d = some p) ∧ okB p = true ∧ p.depth ≤ k ∧ szP p ≤ n
def Ats (k n : Nat) (ds : List D) : Prop := ∃ ps, (∀ f, pyDs f ds = some ps) ∧ okBs ps = true ∧ PyData.depthAll ps ≤ k ∧ szPs ps ≤ n
theorem At.int {k : Nat} {i : Int} (h : i.natAbs ≤ 1000000000000000) : At k 2000 (.int i) := ⟨.int i, fun _ => by simp [pyD], by simp only [okB]; exact decide_eq_true (log2_small h), by simp [PyData.depth], by simp [szP]⟩
theorem At.bl {k : Nat} {b : Bool} : At k 7 (.bl b) := ⟨.bool b, fun _ => by simp [pyD], by simp only [okB], by simp [PyData.depth], by simp [szP]⟩
theorem At.non {k : Nat} : At k 6 .non := ⟨.none, fun _ => by simp [pyD], by simp only [okB], by simp [PyData.depth], by simp [szP]⟩
theorem At.str {k : Nat} {x : Str} (h : (PyData.shown (.str x)).length ≤ 98) : At k 100 (.str x) := ⟨.str x, fun _ => by simp [pyD], by simp only [okB], by simp [PyData.depth], by simp only [szP]; omega⟩
theorem Ats.nil {k : Nat} : Ats k 0 [] := ⟨[], fun _ => by simp [pyDs], by simp [okBs], by simp [PyData.depthAll], by simp [szPs]⟩
theorem Ats.cons {k n m : Nat} {d : D} {ds : List D} (h : At k n d) (h' : Ats k m ds) : Ats k (n + m) (d :: ds) := by
  obtain ⟨p, a1, a2, a3, a4⟩ := h
  obtain ⟨ps, b1, b2, b3, b4⟩ := h'
  exact ⟨p :: ps, fun f => by simp [pyDs, a1, b1], by simp [okBs, a2, b2], by simp only [PyData.depthAll]; omega, by simp only [szPs]; omega⟩
theorem At.lst {k n : Nat} {ds : List D} (h : Ats k n ds) : At (k + 1) (n + 4) (.lst ds) := by
  obtain ⟨ps, b1, b2, b3, b4⟩ := h
  exact ⟨.list ps, fun f => by simp [pyD, b1], by simp only [okB]; exact b2, by simp only [PyData.depth]; omega, by simp only [szP]; omega⟩
theorem At.tup {k n : Nat} {ds : List D} (h : Ats k n ds) : At (k + 1) (n + 6) (.tup ds) := by
  obtain ⟨ps, b1, b2, b3, b4⟩ := h
  exact ⟨.tuple ps, fun f => by simp [pyD, b1], by simp only [okB]; exact b2, by simp only [PyData.depth]; omega, by simp only [szP]; omega⟩
theorem At.rp {k n : Nat} {d : D} (h : At k n d) (hk : k ≤ 60 := by decide) (hn : n ≤ 16777216 := by decide) : rp d := by
  obtain ⟨p, a1, a2, a3, a4⟩ := h
  exact rp_of (p := p) (fun eta => a1 _) a2 (by omega) (by omega)
theorem At.mono {k n k' n' : Nat} {d : D} (h : At k n d) (hk : k ≤ k' := by decide) (hn : n ≤ n' := by decide) : At k' n' d := by
  obtain ⟨p, a1, a2, a3, a4⟩ := h
  exact ⟨p, a1, a2, by omega, by omega⟩
theorem sh_1 : (PyData.shown (.str (Str.ofString "1"))).length ≤ 98 := by decide +kernel
theorem sh_0 : (PyData.shown (.str (Str.ofString "0"))).length ≤ 98 := by decide +kernel
theorem sh_answers : (PyData.shown (.str (Str.ofString "answers"))).length ≤ 98 := by decide +kernel
theorem sh_state : (PyData.shown (.str (Str.ofString "state"))).length ≤ 98 := by decide +kernel
end K75
namespace K75
open PySem PySem.Spec PyProof.Rows L2 Gh
section
variable {u d r f : Int}
theorem nxt_in (hr : 1 ≤ r) (hf : 1 ≤ f) {st : Int} (a : Option (Int × Int)) (h0 : 0 ≤ st) (h1 : st < r + f) : 0 ≤ nxt u d r f st a ∧ nxt u d r f st a < r + f := by
  unfold nxt
  split
  · split <;> omega
  · split
    · exact ⟨Int.emod_nonneg _ (by omega), Int.emod_lt_of_pos _ (by omega)⟩
    · omega
theorem run_in (hr : 1 ≤ r) (hf : 1 ≤ f) : ∀ (as : List (Option (Int × Int))) (st : Int), 0 ≤ st → st < r + f → ∀ x ∈ run u d r f st as, 0 ≤ x ∧ x < r + f
  | [], st, _, _, x, hx => by simp [run] at hx
  | a :: as, st, h0, h1, x, hx => by
    have n := nxt_in (u := u) (d := d) hr hf a h0 h1
    rw [run] at hx
    rcases List.mem_cons.mp hx with rfl | hx
    · exact n
    · exact run_in hr hf as _ n.1 n.2 x hx
theorem fin_in (hr : 1 ≤ r) (hf : 1 ≤ f) : ∀ (as : List (Option (Int × Int))) (st : Int), 0 ≤ st → st < r + f → 0 ≤ fin u d r f st as ∧ fin u d r f st as < r + f
  | [], st, h0, h1 => ⟨h0, h1⟩
  | a :: as, st, h0, h1 => by
    have n := nxt_in (u := u) (d := d) hr hf a h0 h1
    exact fin_in hr hf as _ n.1 n.2
/-! ### moves -/
def mvs (u d r f : Int) (as : List (Option (Int × Int))) : List Int := (List.range (r + f).toNat).map fun (i : Nat) => fin u d r f (i : Int) as
def comp (a b : List Int) : List Int := a.map fun i => b.getD i.toNat 0
def mv (a : List Int) : Prop := a ≠ [] ∧ ∀ x ∈ a, 0 ≤ x ∧ x < a.length
theorem fin_app : ∀ (as bs : List (Option (Int × Int))) (st : Int), fin u d r f st (as ++ bs) = fin u d r f (fin u d r f st as) bs
  | [], bs, st => rfl
  | a :: as, bs, st => fin_app as bs _
theorem mvs_len (as : List (Option (Int × Int))) : (mvs u d r f as).length = (r + f).toNat := by simp [mvs]
theorem mvs_in (hr : 1 ≤ r) (hf : 1 ≤ f) (as : List (Option (Int × Int))) : ∀ x ∈ mvs u d r f as, 0 ≤ x ∧ x < r + f := by
  intro x hx
  obtain ⟨i, hi, rfl⟩ := List.mem_map.mp hx
  have := List.mem_range.mp hi
  exact fin_in hr hf as _ (by omega) (by omega)
theorem mvs_mv (hr : 1 ≤ r) (hf : 1 ≤ f) (as : List (Option (Int × Int))) : mv (mvs u d r f as) := by
  have hl := mvs_len (u := u) (d := d) (r := r) (f := f) as
  refine ⟨fun e => ?_, fun x hx => ?_⟩
  · rw [e, List.length_nil] at hl; omega
  · have := mvs_in (u := u) (d := d) hr hf as x hx
    rw [hl]; omega
theorem mvs_get (hr : 1 ≤ r) (hf : 1 ≤ f) (as : List (Option (Int × Int))) (i : Int) (h0 : 0 ≤ i) (h1 : i < r + f) : (mvs u d r f as).getD i.toNat 0 = fin u d r f i as := by
  have h2 : i.toNat < (r + f).toNat := by omega
  simp [mvs, List.getD_eq_getElem?_getD, h2]
  congr 1
  omega
theorem mvs_comp (hr : 1 ≤ r) (hf : 1 ≤ f) (as bs : List (Option (Int × Int))) : comp (mvs u d r f as) (mvs u d r f bs) = mvs u d r f (as ++ bs) := by
  have e : comp (mvs u d r f as) (mvs u d r f bs) = (List.range (r + f).toNat).map fun (i : Nat) => (mvs u d r f bs).getD (fin u d r f (i : Int) as).toNat 0 := by
    unfold comp
    generalize mvs u d r f bs = M
    rw [mvs, List.map_map]; rfl
  rw [e]
  conv => rhs; rw [mvs]
  refine List.map_congr_left fun i hi => ?_
  have hi := List.mem_range.mp hi
  have hin := fin_in (u := u) (d := d) hr hf as (i : Int) (by omega) (by omega)
  rw [mvs_get hr hf bs _ hin.1 hin.2, fin_app]
theorem mvs_nil : mvs u d r f [] = (List.range (r + f).toNat).map fun (i : Nat) => (i : Int) := rfl
/-! ### all alike -/
theorem usort_const {x : Int} : ∀ {L : List Int}, L ≠ [] → (∀ y ∈ L, y = x) → usort L = [x] := by
  intro L hL h
  refine upw_unique (fun k => ?_) (usort_pw L) (List.pairwise_singleton _ _)
  rw [usort_mem, List.mem_singleton]
  constructor
  · exact h k
  · rintro rfl
    obtain ⟨y, hy⟩ := List.exists_mem_of_ne_nil L hL
    rw [← h y hy]; exact hy
theorem usort_one {L : List Int} (h : (usort L).length = 1) : ∀ x ∈ L, ∀ y ∈ L, x = y := by
  obtain ⟨z, hz⟩ := List.length_eq_one_iff.mp h
  intro x hx y hy
  rw [← usort_mem, hz, List.mem_singleton] at hx hy
  rw [hx, hy]
/-- a run of r high ones -/
def hr (u r : Int) : Int → List (Option (Int × Int)) → Bool
  | _, [] => false
  | c, a :: as => decide (r ≤ if hi u a = true then c + 1 else 0) || hr u r (if hi u a = true then c + 1 else 0) as
theorem sent_hr : ∀ (as : List (Option (Int × Int))) (c : Int), hr u r c as = false → sent u d r f c as = false
  | [], _, _ => rfl
  | a :: as, c, h => by
    rw [hr, Bool.or_eq_false_iff] at h
    rw [sent, h.1, sent_hr as _ h.2]
    rfl
theorem hr_same (hdu : d ≤ u) (h1 : 1 ≤ r) (h2 : 1 ≤ f) : ∀ (as : List (Option (Int × Int))) (c s t : Int), as.all low = true → hr u r c as = true → 0 ≤ s → s < r + f → 0 ≤ t → t < r + f → (r ≤ s ∨ c ≤ s) → (r ≤ t ∨ c ≤ t) → fin u d r f s as = fin u d r f t as
  | [], _, _, _, _, h, _, _, _, _, _, _ => by cases h
  | a :: as, c, s, t, hl, h, s0, s1, t0, t1, hs, ht => by
    simp only [List.all_cons, Bool.and_eq_true] at hl
    have ns := nxt_in (u := u) (d := d) h1 h2 a s0 s1
    have nt := nxt_in (u := u) (d := d) h1 h2 a t0 t1
    rw [fin, fin]
    rw [hr] at h
    cases e : hi u a with
    | true =>
      have el : lo d a = false := hi_lo hdu hl.1 e
      have k : ∀ x, 0 ≤ x → x < r + f → (r ≤ x ∨ c ≤ x) → (nxt u d r f x a = if x < r then x + 1 else r) := fun x _ _ _ => by
        unfold nxt
        rw [e, el]
        simp
      rw [e] at h
      simp only [if_true] at h
      have ks := k s s0 s1 hs
      have kt := k t t0 t1 ht
      by_cases hc : r ≤ c + 1
      · have es : nxt u d r f s a = r := by rw [ks]; split <;> omega
        have et : nxt u d r f t a = r := by rw [kt]; split <;> omega
        rw [es, et]
      · rw [decide_eq_false hc, Bool.false_or] at h
        refine hr_same hdu h1 h2 as (c + 1) _ _ hl.2 h ns.1 ns.2 nt.1 nt.2 ?_ ?_
        · rw [ks]; split <;> omega
        · rw [kt]; split <;> omega
    | false =>
      rw [e] at h
      simp only [Bool.false_eq_true, if_false] at h
      have hc : ¬ r ≤ 0 := by omega
      rw [decide_eq_false hc, Bool.false_or] at h
      exact hr_same hdu h1 h2 as 0 _ _ hl.2 h ns.1 ns.2 nt.1 nt.2 (.inr ns.1) (.inr nt.1)
theorem low_same (hdu : d ≤ u) (h1 : 1 ≤ r) (h2 : 1 ≤ f) : ∀ (as : List (Option (Int × Int))) (m s t : Int), as.all low = true → noLow d f m as = false → 0 ≤ s → s < r + f → 0 ≤ t → t < r + f → (s < r ∨ r + m ≤ s) → (t < r ∨ r + m ≤ t) → fin u d r f s as = fin u d r f t as
  | [], _, _, _, _, h, _, _, _, _, _, _ => by cases h
  | a :: as, m, s, t, hl, h, s0, s1, t0, t1, hs, ht => by
    simp only [List.all_cons, Bool.and_eq_true] at hl
    have ns := nxt_in (u := u) (d := d) h1 h2 a s0 s1
    have nt := nxt_in (u := u) (d := d) h1 h2 a t0 t1
    rw [fin, fin]
    rw [noLow] at h
    cases e : lo d a with
    | true =>
      have eh : hi u a = false := by
        cases e3 : hi u a with
        | false => rfl
        | true => rw [hi_lo hdu hl.1 e3] at e; cases e
      have k : ∀ x, x < r + f → (nxt u d r f x a = if x < r then 0 else if x + 1 = r + f then 0 else x + 1) := fun x hx => by
        unfold nxt
        rw [e, eh]
        simp only [Bool.false_eq_true, if_false, if_true]
        split
        · rfl
        · split
          · rename_i q; rw [q, Int.emod_self]
          · exact Int.emod_eq_of_lt (by omega) (by omega)
      rw [e] at h
      simp only [if_true] at h
      have ks := k s s1
      have kt := k t t1
      by_cases hc : f ≤ m + 1
      · have es : nxt u d r f s a = 0 := by rw [ks]; split; rfl; split; rfl; omega
        have et : nxt u d r f t a = 0 := by rw [kt]; split; rfl; split; rfl; omega
        rw [es, et]
      · rw [decide_eq_false hc] at h
        simp only [Bool.not_false, Bool.true_and] at h
        refine low_same hdu h1 h2 as (m + 1) _ _ hl.2 h ns.1 ns.2 nt.1 nt.2 ?_ ?_
        · rw [ks]; split; omega; split <;> omega
        · rw [kt]; split; omega; split <;> omega
    | false =>
      rw [e] at h
      have hc : ¬ f ≤ 0 := by omega
      simp only [Bool.false_eq_true, if_false] at h
      rw [decide_eq_false hc] at h
      simp only [Bool.not_false, Bool.true_and] at h
      exact low_same hdu h1 h2 as 0 _ _ hl.2 h ns.1 ns.2 nt.1 nt.2 (by omega) (by omega)
theorem settled_iff (hdu : d ≤ u) (h1 : 1 ≤ r) (h2 : 1 ≤ f) (as : List (Option (Int × Int))) (hl : as.all low = true) : decide ((usort (mvs u d r f as)).length = 1) = (hr u r 0 as || !noLow d f 0 as) := by
  have m0 : ∀ i : Int, 0 ≤ i → i < r + f → fin u d r f i as ∈ mvs u d r f as := fun i h0 hi => by
    refine List.mem_map.mpr ⟨i.toNat, List.mem_range.mpr (by omega), ?_⟩
    rw [Int.toNat_of_nonneg h0]
  have all : (∀ s t, 0 ≤ s → s < r + f → 0 ≤ t → t < r + f → fin u d r f s as = fin u d r f t as) → (usort (mvs u d r f as)).length = 1 := fun h => by
    rw [usort_const (x := fin u d r f 0 as) (mvs_mv h1 h2 as).1 fun y hy => ?_]
    · rfl
    · obtain ⟨i, hi, rfl⟩ := List.mem_map.mp hy
      have := List.mem_range.mp hi
      exact h _ _ (by omega) (by omega) (by omega) (by omega)
  cases eh : hr u r 0 as with
  | true => exact decide_eq_true (all fun s t a b c e => hr_same hdu h1 h2 as 0 s t hl eh a b c e (.inr a) (.inr c))
  | false =>
    cases el : noLow d f 0 as with
    | false => exact decide_eq_true (all fun s t a b c e => low_same hdu h1 h2 as 0 s t hl el a b c e (by omega) (by omega))
    | true =>
      refine decide_eq_false fun hone => ?_
      have k1 := (fin_sent hdu h1 h2 as hl).1 0 (by omega) (by omega)
      have k2 := (fin_sent hdu h1 h2 as hl).2 0 0 (by omega) (by omega)
      rw [sent_hr as 0 eh] at k1
      rw [el, Bool.true_or, Int.add_zero] at k2
      have e := usort_one hone _ (m0 0 (by omega) (by omega)) _ (m0 r (by omega) (by omega))
      rw [e, k2] at k1
      cases k1
end
end K75
namespace K75
open PySem PySem.Spec PyProof.Rows L2 Gh
section
variable {u d r f : Int}
/-! ### the alarm's moves -/
theorem rng_ints (n : Nat) : rngD 0 n = ((List.range n).map fun (i : Nat) => (i : Int)).map D.int := by
  simp [rngD]
def nxD (u d r f : Int) (a : Option (Int × Int)) : D → D
  | .int st => .int (nxt u d r f st a)
  | x => x
theorem map_nxD (a : Option (Int × Int)) : ∀ L : List Int, (L.map D.int).map (nxD u d r f a) = (L.map fun st => nxt u d r f st a).map D.int
  | [] => rfl
  | x :: L => by
    rw [List.map_cons, List.map_cons, List.map_cons, List.map_cons, map_nxD a L]
    rfl
theorem go_next (hu : sml u) (hd : sml d) (h1 : 0 < r + f) (x1 x2 x4 : Option D) (a : Option (Int × Int)) (L : List Int) : goL (.nm 4) cYes (cMeth 0 "_next" 0 F_Alarm__next 2 0 (fun ds _ => ds) (cVar 0) (cCons (cVar 4) (cCons (cVar 3) (cNil))) (cNil)) (fun _ => True) [some (A u d r f), x1, x2, some (encA a), x4] (L.map .int) [] [] = .ok ((L.map fun st => nxt u d r f st a).map .int) [] := by
  rw [goL_map (f := nxD u d r f a) fun x hx => ?_, List.nil_append, map_nxD]
  obtain ⟨st, _, rfl⟩ := List.mem_map.mp hx
  simp [List.lookup, call0, sp_next st a hu hd h1, nxD]
noncomputable def bMv : CS := cSet 2 (cLc [4] (.nm 4) (cIt (cVar 2)) (cYes) (cMeth 0 "_next" 0 F_Alarm__next 2 0 (fun ds _ => ds) (cVar 0) (cCons (cVar 4) (cCons (cVar 3) (cNil))) (cNil)))
theorem loop_moves (hu : sml u) (hd : sml d) (h1 : 0 < r + f) (ans : D) : ∀ (as : List (Option (Int × Int))) (L : List Int) (o : Option D), L.length ≤ lineB →
    ∃ o', forD (.nm 3) bMv (fun _ => True) (as.map encA) [some (A u d r f), some ans, some (.lst (L.map .int)), o, none] [] = .nx [some (A u d r f), some ans, some (.lst ((L.map fun st => fin u d r f st as).map .int)), o', none] []
  | [], L, o, _ => ⟨o, by simp [forD, fin]⟩
  | a :: as, L, o, hl => by
    obtain ⟨o', ih⟩ := loop_moves hu hd h1 ans as (L.map fun st => nxt u d r f st a) (some (encA a)) (by simpa using hl)
    have e1 : (L.map fun st => nxt u d r f st a).map (fun st => fin u d r f st as) = L.map fun st => fin u d r f st (a :: as) := by
      rw [List.map_map]; rfl
    rw [e1] at ih
    have g := go_next hu hd h1 (some ans) (some (.lst (L.map .int))) none a L
    have hl' : (L.map D.int).length ≤ lineB := by simpa using hl
    refine ⟨o', ?_⟩
    have t : bMv [some (A u d r f), some ans, some (.lst (L.map .int)), some (encA a), none] [] = .nx [some (A u d r f), some ans, some (.lst ((L.map fun st => nxt u d r f st a).map .int)), some (encA a), none] [] := by
      generalize L.map D.int = xs at g hl'
      generalize (L.map fun st => nxt u d r f st a).map D.int = ys at g
      unfold bMv
      simp [cSeqI, hl', wipeR, g]
    rw [List.map_cons]
    generalize (L.map fun st => fin u d r f st (a :: as)).map D.int = zs at ih
    generalize L.map D.int = xs at t
    generalize (L.map fun st => nxt u d r f st a).map D.int = ys at t ih
    simp [forD, kT, t, ih]
theorem moves_R (ans : D) (xs ms : List D) (n : Int) (rs : List D) (o' : Option D) (pa : ∀ s, subD s ans = some ans) (hc : F_check_answers [ans] [] = .ok .non []) (hn : r + f = n) (h0 : 0 ≤ n) (h1 : n ≤ 100000) (hr : rngD 0 n.toNat = rs) (hs : ∀ eta, cSeqI ans eta = some (xs, fun _ => True))
    (hf : forD (.nm 3) bMv (fun _ => True) xs [some (A u d r f), some ans, some (.lst rs), none, none] [] = .nx [some (A u d r f), some ans, some (.lst ms), o', none] []) : R_Alarm_moves [A u d r f, ans] [] = .ok (.tup ms) [] := by
  unfold bMv at hf
  simp [R_Alarm_moves, bodyF, startD, c_Alarm_moves, endF_nx, endF_ret, endF_exc, call0, pa, hc, List.lookup, sp_size, hn, h0, h1, hr, hs, hf, bTuple, seqL]
theorem sp_moves (as : List (Option (Int × Int))) (ans : D) (ha : ans = .lst (as.map encA) ∨ ans = .tup (as.map encA)) (hl : as.length ≤ lineB) (hlow : as.all low = true) (hu : sml u) (hd : sml d) (hr : 1 ≤ r) (hr9 : r ≤ 9) (hf : 1 ≤ f) (hf9 : f ≤ 9) : F_Alarm_moves [A u d r f, ans] [] = .ok (.tup ((mvs u d r f as).map .int)) [] := by
  have pa : ∀ s, subD s ans = some ans := by rcases ha with rfl | rfl <;> simp
  have hs : ∀ E, cSeqI ans E = some (as.map encA, fun _ => True) := by intro E; rcases ha with rfl | rfl <;> rfl
  obtain ⟨o', e⟩ := loop_moves (u := u) (d := d) (r := r) (f := f) hu hd (by omega) ans as ((List.range (r + f).toNat).map fun (i : Nat) => (i : Int)) none (by rw [List.length_map, List.length_range]; exact Nat.le_trans (show (r + f).toNat ≤ 18 by omega) (show 18 ≤ lineB by decide))
  have e1 : ((List.range (r + f).toNat).map fun (i : Nat) => (i : Int)).map (fun st => fin u d r f st as) = mvs u d r f as := by rw [List.map_map]; rfl
  rw [e1, ← rng_ints] at e
  have q := moves_R (u := u) (d := d) (r := r) (f := f) ans _ _ _ _ _ pa (chk_enc as ans ha hl hlow) rfl (by omega) (by omega) rfl hs e
  generalize (mvs u d r f as).map D.int = ms at q
  simp [F_Alarm_moves, fz, q]
/-! ### the law's moves -/
theorem ne_ints_nil (ns : List Int) (eta : Eta) : fNe (.lst (ns.map .int)) (.lst []) eta = some (.bl (!decide (ns = []))) := by
  unfold fNe
  rw [eq_ints_nil]
noncomputable def bLm : CS := cSeq (cSet 4 (cFn 0 F_law_states 3 0 (fun ds _ => ds) (cCons (cVar 0) (cCons (cVar 1) (cCons (cVar 3) (cNil)))) (cNil))) (cDrop (cMt mApp (cVar 2) (cCons (cIf (cBl (cOp fNe (cVar 4) (cLst (cNil)))) (cOp fIx (cVar 4) (cUn fNeg (cC (.int 1)))) (cVar 3)) (cNil))))
theorem turn_lm (ans : D) (pa : ∀ s, subD s ans = some ans) (v w : Int) (xs acc : List D) (b : Bool) (hs : F_law_states [.tup [.int u, .int d, .int r, .int f], ans, .int v] [] = .ok (.lst xs) []) (hn : ∀ eta, fNe (.lst xs) (.lst []) eta = some (.bl b)) (hw : (b = true ∧ ∃ ys, xs = ys ++ [.int w]) ∨ (b = false ∧ w = v)) (hl : acc.length < lineB) (o4 : Option D) :
    bLm [some (.tup [.int u, .int d, .int r, .int f]), some ans, some (.ref 0), some (.int v), o4] [.lst acc] = .nx [some (.tup [.int u, .int d, .int r, .int f]), some ans, some (.ref 0), some (.int v), some (.lst xs)] [.lst (acc ++ [.int w])] := by
  have q0 : 0 ≤ lineB := by decide
  unfold bLm
  rcases hw with ⟨rfl, ys, rfl⟩ | ⟨rfl, rfl⟩
  · have ha := atI_last ys (.int w)
    simp [call0, pa, hs, q0, hn, ha, kdOf, mApp, hl]
  · simp [call0, pa, hs, q0, hn, kdOf, mApp, hl]
def fins (u d r f : Int) (as : List (Option (Int × Int))) (lo : Int) (n : Nat) : List Int := (List.range n).map fun (i : Nat) => fin u d r f (lo + i) as
theorem fins_succ (as : List (Option (Int × Int))) (lo : Int) (n : Nat) : fins u d r f as lo (n + 1) = fin u d r f lo as :: fins u d r f as (lo + 1) n := by
  unfold fins
  rw [List.range_succ_eq_map, List.map_cons, List.map_map]
  congr 1
  · congr 1; simp
  · refine List.map_congr_left fun i _ => ?_
    show fin u d r f (lo + ((i + 1 : Nat) : Int)) as = _
    congr 1
    omega
theorem loop_lm (as : List (Option (Int × Int))) (ans : D) (ha : ans = .lst (as.map encA) ∨ ans = .tup (as.map encA)) (hl : as.length ≤ lineB) (hu : sml u) (hd : sml d) (hr : 1 ≤ r) (hf : 1 ≤ f) : ∀ (n : Nat) (lo : Int) (acc : List D) (o3 o4 : Option D), 0 ≤ lo → lo + n ≤ r + f → acc.length + n ≤ lineB →
    ∃ o3' o4', forD (.nm 3) bLm (fun _ => True) (rngD lo n) [some (.tup [.int u, .int d, .int r, .int f]), some ans, some (.ref 0), o3, o4] [.lst acc] = .nx [some (.tup [.int u, .int d, .int r, .int f]), some ans, some (.ref 0), o3', o4'] [.lst (acc ++ (fins u d r f as lo n).map .int)]
  | 0, lo, acc, o3, o4, _, _, _ => ⟨o3, o4, by simp [forD, fins]⟩
  | n + 1, lo, acc, o3, o4, h0, h1, h2 => by
    have pa : ∀ s, subD s ans = some ans := by rcases ha with rfl | rfl <;> simp
    have hs := sp_law_states as ans ha hl hu hd hr hf lo h0 (by omega)
    have hw : ((!decide (run u d r f lo as = [])) = true ∧ ∃ ys, (run u d r f lo as).map D.int = ys ++ [.int (fin u d r f lo as)]) ∨ ((!decide (run u d r f lo as = [])) = false ∧ fin u d r f lo as = lo) := by
      by_cases c : as = []
      · subst c; exact .inr ⟨rfl, rfl⟩
      · obtain ⟨ys, e⟩ := run_last (u := u) (d := d) (r := r) (f := f) as lo c
        refine .inl ⟨by simp [e], ys.map .int, ?_⟩
        rw [e, List.map_append]; rfl
    have t : ∀ o4, _ := fun o4 => turn_lm ans pa lo _ _ acc _ hs (fun eta => ne_ints_nil _ eta) hw (by omega) o4
    obtain ⟨o3', o4', ih⟩ := loop_lm as ans ha hl hu hd hr hf n (lo + 1) (acc ++ [.int (fin u d r f lo as)]) (some (.int lo)) (some (.lst ((run u d r f lo as).map .int))) (by omega) (by omega) (by simp; omega)
    refine ⟨o3', o4', ?_⟩
    rw [rngD_succ, fins_succ, List.map_cons]
    rw [List.append_assoc] at ih
    generalize (run u d r f lo as).map D.int = xs at t ih
    generalize (fins u d r f as (lo + 1) n).map D.int = zs at ih
    simp only [List.cons_append, List.nil_append] at ih
    simp [forD, kT, t, ih]
theorem lm_R (ans : D) (n : Int) (ms : List D) (o3 o4 : Option D) (hn : r + f = n) (hk : rg1 [.int n] = some (rngD 0 n.toNat, fun _ => True)) (hf : forD (.nm 3) bLm (fun _ => True) (rngD 0 n.toNat) [some (.tup [.int u, .int d, .int r, .int f]), some ans, some (.ref 0), none, none] [.lst []] = .nx [some (.tup [.int u, .int d, .int r, .int f]), some ans, some (.ref 0), o3, o4] [.lst ms]) : R_law_moves [.tup [.int u, .int d, .int r, .int f], ans] [] = .ok (.tup ms) [.lst ms] := by
  unfold bLm at hf
  have q0 : 0 ≤ lineB := by decide
  simp [R_law_moves, bodyF, startD, c_law_moves, endF_nx, endF_ret, endF_exc, q0, atI, ixN, hn, hk, hf, bTuple, seqL]
theorem sp_law_moves (as : List (Option (Int × Int))) (ans : D) (ha : ans = .lst (as.map encA) ∨ ans = .tup (as.map encA)) (hl : as.length ≤ lineB) (hu : sml u) (hd : sml d) (hr : 1 ≤ r) (hr9 : r ≤ 9) (hf : 1 ≤ f) (hf9 : f ≤ 9) : F_law_moves [.tup [.int u, .int d, .int r, .int f], ans] [] = .ok (.tup ((mvs u d r f as).map .int)) [] := by
  obtain ⟨o3, o4, e⟩ := loop_lm (u := u) (d := d) (r := r) (f := f) as ans ha hl hu hd hr hf (r + f).toNat 0 [] none none (by omega) (by omega) (by rw [List.length_nil, Nat.zero_add]; exact Nat.le_trans (show (r + f).toNat ≤ 18 by omega) (show 18 ≤ lineB by decide))
  have e1 : fins u d r f as 0 (r + f).toNat = mvs u d r f as := by
    unfold fins mvs
    refine List.map_congr_left fun i _ => ?_
    rw [Int.zero_add]
  rw [List.nil_append, e1] at e
  have q := lm_R (u := u) (d := d) (r := r) (f := f) ans _ _ _ _ rfl (rg1_small (by omega) (by omega)) e
  have hp : ∀ s, subDs s ((mvs u d r f as).map D.int) = some ((mvs u d r f as).map D.int) := fun s => subs_ints _
  generalize (mvs u d r f as).map D.int = ms at q hp
  simp [F_law_moves, fz, q, fzO, frz, subHs, hp]
end
end K75
namespace K75
open PySem PySem.Spec PyProof.Rows L2 Gh
/-! ### the longest run -/
def mxB : Int → Int → List Bool → Int
  | best, _, [] => best
  | best, now, b :: bs => mxB (if (if b = true then now + 1 else 0) > best then (if b = true then now + 1 else 0) else best) (if b = true then now + 1 else 0) bs
noncomputable def bRn : CS := cSeq (cSet 2 (cIf (cTru (cVar 3)) (cOp fPlus (cVar 2) (cC (.int 1))) (cC (.int 0)))) (cSet 1 (cCall bMax2 (cCons (cVar 1) (cCons (cVar 2) (cNil)))))
@[simp] theorem max2_int {i j : Int} {eta : Eta} : bMax2 [.int i, .int j] eta = some (.int (if j > i then j else i)) := rfl
theorem loop_rn (X : D) : ∀ (bs : List Bool) (best now : Int) (o : Option D), ∃ o2 o3, forD (.nm 3) bRn (fun _ => True) (bs.map .bl) [some X, some (.int best), some (.int now), o] [] = .nx [some X, some (.int (mxB best now bs)), o2, o3] []
  | [], best, now, o => ⟨_, o, by simp [forD, mxB]; rfl⟩
  | b :: bs, best, now, o => by
    obtain ⟨o2, o3, ih⟩ := loop_rn X bs (if (if b = true then now + 1 else 0) > best then (if b = true then now + 1 else 0) else best) (if b = true then now + 1 else 0) (some (.bl b))
    refine ⟨o2, o3, ?_⟩
    rw [List.map_cons, mxB]
    have t : bRn [some X, some (.int best), some (.int now), some (.bl b)] [] = .nx [some X, some (.int (if (if b = true then now + 1 else 0) > best then (if b = true then now + 1 else 0) else best)), some (.int (if b = true then now + 1 else 0)), some (.bl b)] [] := by
      unfold bRn
      cases b <;> simp
    generalize (if (if b = true then now + 1 else 0) > best then (if b = true then now + 1 else 0) else best) = x at t ih ⊢
    generalize (if b = true then now + 1 else 0) = y at t ih ⊢
    simp [forD, kT, t, ih]
theorem sp_runs_in (bs : List Bool) : F_law_runs_in [.lst (bs.map .bl)] [] = .ok (.int (mxB 0 0 bs)) [] := by
  obtain ⟨o2, o3, e⟩ := loop_rn (.lst (bs.map .bl)) bs 0 0 none
  unfold bRn at e
  have q2 : 2 ≤ lineB := by decide
  generalize bs.map D.bl = xs at e ⊢
  simp [F_law_runs_in, fz, R_law_runs_in, bodyF, startD, c_law_runs_in, endF_nx, endF_ret, endF_exc, q2, kT, kTs, cSeqI, e]
theorem mx_hr {u r : Int} (hr1 : 1 ≤ r) : ∀ (as : List (Option (Int × Int))) (best now : Int), decide (r ≤ mxB best now (as.map (hi u))) = (decide (r ≤ best) || hr u r now as)
  | [], best, now => by simp [mxB, hr]
  | a :: as, best, now => by
    rw [List.map_cons, mxB, mx_hr hr1 as, hr]
    generalize (if hi u a = true then now + 1 else 0) = y
    generalize hr u r y as = q
    by_cases c : y > best
    · rw [if_pos c]
      by_cases c1 : r ≤ best
      · have c2 : r ≤ y := by omega
        simp [c1, c2]
      · simp [c1]
    · rw [if_neg c]
      by_cases c1 : r ≤ y
      · have c2 : r ≤ best := by omega
        simp [c1, c2]
      · simp [c1]
theorem mx_lo {d f : Int} (hf1 : 1 ≤ f) : ∀ (as : List (Option (Int × Int))) (best now : Int), decide (f ≤ mxB best now (as.map (lo d))) = (decide (f ≤ best) || !noLow d f now as)
  | [], best, now => by simp [mxB, noLow]
  | a :: as, best, now => by
    rw [List.map_cons, mxB, mx_lo hf1 as, noLow]
    generalize (if lo d a = true then now + 1 else 0) = y
    generalize noLow d f y as = q
    by_cases c : y > best
    · rw [if_pos c]
      by_cases c1 : f ≤ best
      · have c2 : f ≤ y := by omega
        simp [c1, c2]
      · cases q <;> simp [c1]
    · rw [if_neg c]
      by_cases c1 : f ≤ y
      · have c2 : f ≤ best := by omega
        simp [c1, c2]
      · cases q <;> simp [c1]
/-! ### what are moves -/
def elOk (n : Nat) : D → Bool
  | .int i => decide (0 ≤ i) && decide (i < n)
  | _ => false
def areMv : D → Bool
  | .tup ds => !ds.isEmpty && ds.all (elOk ds.length)
  | _ => false
/-- may stand among moves, or in their place -/
structure Fin1 (d : D) : Prop where
  k : kb d = true
  p : ∀ s, subD s d = some d
  e : ∀ ds, d = .tup ds → (∀ x ∈ ds, kb x = true ∧ ∀ s, subD s x = some x) ∧ ds.length ≤ lineB
theorem el_run (ds : List D) (n : Int) (hn : ∀ eta, bLen [.tup ds] eta = some (.int n)) (m : Nat) (hm : n = m) (x : D) (hk : kb x = true) (hp : ∀ s, subD s x = some x) : cAndV (cFn 0 F_is_count 1 0 (fun ds _ => ds) (cCons (cVar 1) (cNil)) (cNil)) (cOp fLt (cVar 1) (cCall bLen (cCons (cVar 0) (cNil)))) [some (.tup ds), some x] [] = .ok (.bl (elOk m x)) [] := by
  have e := sp_is_count x hk hp
  cases x with
  | obj _ _ => cases hk
  | ref _ => cases hk
  | int i =>
    subst hm
    by_cases c : 0 ≤ i
    · simp [-len_tup, call0, e, isCnt, c, hn, elOk]
    · simp [-len_tup, call0, e, isCnt, c, elOk]
  | lst _ => have q := hp; simp only [sub_lst] at q; simp [call0, q, e, isCnt, elOk]
  | tup _ => have q := hp; simp only [sub_tup] at q; simp [call0, q, e, isCnt, elOk]
  | _ => simp [call0, e, isCnt, elOk]
theorem are_R (ds : List D) (hl : ds.length ≤ lineB) (n : Int) (hn : ∀ eta, bLen [.tup ds] eta = some (.int n)) (h0 : n ≠ 0) (q : D → Bool) (hgo : goL (.nm 1) cYes (cAndV (cFn 0 F_is_count 1 0 (fun ds _ => ds) (cCons (cVar 1) (cNil)) (cNil)) (cOp fLt (cVar 1) (cCall bLen (cCons (cVar 0) (cNil))))) (fun _ => True) [some (.tup ds), none] ds [] [] = .ok (ds.map fun x => .bl (q x)) []) : F_are_moves [.tup ds] [] = .ok (.bl (ds.all q)) [] := by
  simp [-len_tup, F_are_moves, fz, R_are_moves, bodyF, startD, c_are_moves, endF_nx, endF_ret, endF_exc, fIsi, kdOf, tb_tuple, List.lookup, hn, h0, cSeqI, hl, wipeR, hgo, bAll, seqL, bls_map, all_ids]
theorem sp_are (d : D) (h : Fin1 d) : F_are_moves [d] [] = .ok (.bl (areMv d)) [] := by
  obtain ⟨hk, hp, he⟩ := h
  cases d with
  | obj _ _ => cases hk
  | ref _ => cases hk
  | tup ds =>
    obtain ⟨h1, h2⟩ := he ds rfl
    by_cases c : ds = []
    · subst c
      simp [F_are_moves, fz, R_are_moves, bodyF, startD, c_are_moves, endF_nx, endF_ret, endF_exc, fIsi, kdOf, tb_tuple, List.lookup, areMv]
    · have hn : ∀ eta, bLen [.tup ds] eta = some (.int ds.length) := fun eta => by simp
      have h0 : (ds.length : Int) ≠ 0 := fun z => c (List.eq_nil_of_length_eq_zero (by omega))
      rw [are_R ds h2 _ hn h0 (elOk ds.length)]
      · have : ds.isEmpty = false := by simpa using c
        simp [areMv, this]
      · rw [goL_map (f := fun x => .bl (elOk ds.length x)) fun x hx => ?_, List.nil_append]
        exact el_run ds _ hn ds.length rfl x (h1 x hx).1 (h1 x hx).2
  | lst _ => simp [F_are_moves, fz, R_are_moves, bodyF, startD, c_are_moves, endF_nx, endF_ret, endF_exc, fIsi, kdOf, tb_tuple, List.lookup, areMv]
  | _ => simp [F_are_moves, fz, R_are_moves, bodyF, startD, c_are_moves, endF_nx, endF_ret, endF_exc, fIsi, kdOf, tb_tuple, List.lookup, areMv]
theorem fin1_ints (a : List Int) (hl : a.length ≤ lineB) : Fin1 (.tup (a.map .int)) := ⟨by simp, fun s => by simp, fun ds e => by
  cases e
  exact ⟨fun x hx => by
    obtain ⟨i, _, rfl⟩ := List.mem_map.mp hx
    simp, by simpa using hl⟩⟩
theorem mv_are {a : List Int} (h : mv a) : areMv (.tup (a.map .int)) = true := by
  have h1 : (a.map D.int).isEmpty = false := by simpa using h.1
  simp only [areMv, h1, Bool.not_false, Bool.true_and, List.length_map]
  refine List.all_eq_true.mpr fun x hx => ?_
  obtain ⟨i, hi, rfl⟩ := List.mem_map.mp hx
  simp [elOk, (h.2 i hi).1, (h.2 i hi).2]
/-! ### then -/
def atD (b : List Int) : D → D
  | .int i => .int (b.getD i.toNat 0)
  | x => x
theorem map_atD (b : List Int) : ∀ a : List Int, (a.map D.int).map (atD b) = (comp a b).map D.int
  | [] => rfl
  | x :: a => by
    rw [List.map_cons, List.map_cons, map_atD b a]
    rfl
theorem at_ints (b : List Int) (i : Int) (h0 : 0 ≤ i) (h1 : i < b.length) : atI (b.map D.int) i = some (.int (b.getD i.toNat 0)) := by
  obtain ⟨k, rfl⟩ : ∃ k : Nat, i = k := ⟨i.toNat, by omega⟩
  have h2 : k < b.length := by omega
  unfold atI
  rw [List.length_map, ixN_mid h2]
  simp [h2]
theorem then_R (x y : D) (hx : Fin1 x) (hy : Fin1 y) (xs zs : List D) (n m : Int) (a1 : areMv x = true) (a2 : areMv y = true) (l1 : ∀ eta, bLen [x] eta = some (.int n)) (l2 : ∀ eta, bLen [y] eta = some (.int m)) (hnm : n = m) (hs : ∀ eta, cSeqI x eta = some (xs, fun _ => True)) (hl : xs.length ≤ lineB)
    (hgo : goL (.nm 2) cYes (cOp fIx (cVar 1) (cVar 2)) (fun _ => True) [some x, some y, none] xs [] [] = .ok zs []) : F_then [x, y] [] = .ok (.tup zs) [] := by
  have e1 := sp_are x hx
  have e2 := sp_are y hy
  subst hnm
  simp [F_then, fz, R_then, bodyF, startD, c_then, endF_nx, endF_ret, endF_exc, call0, hx.p, hy.p, e1, e2, a1, a2, l1, l2, hs, hl, wipeR, hgo, bTuple, seqL]
theorem sp_then (a b : List Int) (ha : mv a) (hb : mv b) (hl : a.length = b.length) (h60 : a.length ≤ 60) : F_then [.tup (a.map .int), .tup (b.map .int)] [] = .ok (.tup ((comp a b).map .int)) [] := by
  have q : ∀ n, n ≤ 60 → n ≤ lineB := fun n h => Nat.le_trans h (by decide)
  refine then_R _ _ (fin1_ints a (q _ h60)) (fin1_ints b (q _ (by omega))) (a.map .int) _ a.length b.length (mv_are ha) (mv_are hb) (fun eta => by simp) (fun eta => by simp) (by omega) (fun _ => rfl) (by simpa using q _ h60) ?_
  rw [goL_map (f := atD b) fun x hx => ?_, List.nil_append, map_atD]
  obtain ⟨i, hi, rfl⟩ := List.mem_map.mp hx
  have h1 := ha.2 i hi
  have h2 := at_ints b i h1.1 (by omega)
  simp [h2, atD]
theorem then_bad (x y : D) (hx : Fin1 x) (hy : Fin1 y) (h : areMv x = false ∨ areMv y = false ∨ ∃ xs ys, x = .tup xs ∧ y = .tup ys ∧ xs.length ≠ ys.length) : F_then [x, y] [] = .exc 4 [("given", .tup [x, y])] [] := by
  have e1 := sp_are x hx
  have e2 := sp_are y hy
  have q2 : 2 ≤ lineB := by decide
  have px := hx.p
  have py := hy.p
  cases a1 : areMv x with
  | false => simp [F_then, fz, R_then, bodyF, startD, c_then, endF_nx, endF_ret, endF_exc, call0, px, py, e1, a1, q2, fldD]
  | true =>
    cases a2 : areMv y with
    | false => simp [F_then, fz, R_then, bodyF, startD, c_then, endF_nx, endF_ret, endF_exc, call0, px, py, e1, e2, a1, a2, q2, fldD]
    | true =>
      rcases h with h | h | ⟨xs, ys, rfl, rfl, hne⟩
      · rw [a1] at h; cases h
      · rw [a2] at h; cases h
      · have hc : ¬ (xs.length : Int) = ys.length := by omega
        have hdc : decide ((xs.length : Int) = (ys.length : Int)) = false := decide_eq_false hc
        simp only [sub_tup] at px py
        simp [F_then, fz, R_then, bodyF, startD, c_then, endF_nx, endF_ret, endF_exc, call0, px, py, e1, e2, a1, a2, hdc, q2, fldD]
/-! ### possible, settled -/
theorem intsD_map : ∀ ns : List Int, intsD (ns.map D.int) = some ns
  | [] => rfl
  | n :: r => by simp [intsD, intsD_map r]
theorem sortSet_ints (a : List Int) (h : a.length ≤ 60) (eta : Eta) : bSortSet [.tup (a.map .int)] eta = some (.lst ((usort a).map .int)) := by
  simp [bSortSet, intsD_map, h]
theorem sp_possible (a : List Int) (ha : mv a) (h60 : a.length ≤ 60) : F_possible [.tup (a.map .int)] [] = .ok (.lst ((usort a).map .int)) [] := by
  have e1 := sp_are _ (fin1_ints a (Nat.le_trans h60 (by decide)))
  have e2 := sortSet_ints a h60 []
  rw [mv_are ha] at e1
  have hp : ∀ s, subDs s (a.map D.int) = some (a.map D.int) := fun s => subs_ints _
  generalize a.map D.int = xs at *
  generalize (usort a).map D.int = ys at *
  simp [F_possible, fz, R_possible, bodyF, startD, c_possible, endF_nx, endF_ret, endF_exc, call0, hp, e1, e2]
theorem possible_bad (x : D) (hx : Fin1 x) (a1 : areMv x = false) : F_possible [x] [] = .exc 4 [("given", x)] [] := by
  have e1 := sp_are x hx
  have px := hx.p
  simp [F_possible, fz, R_possible, bodyF, startD, c_possible, endF_nx, endF_ret, endF_exc, call0, px, e1, a1, fldD]
theorem settled_bad (x : D) (hx : Fin1 x) (a1 : areMv x = false) : F_settled [x] [] = .exc 4 [("given", x)] [] := by
  have e1 := possible_bad x hx a1
  have px := hx.p
  simp [F_settled, fz, R_settled, bodyF, startD, c_settled, endF_nx, endF_ret, endF_exc, call0, px, e1]
def sett (a : List Int) : D := if (usort a).length = 1 then .int ((usort a).getD 0 0) else .non
theorem at0 (b : List Int) (h : b.length = 1) : atI (b.map D.int) 0 = some (.int (b.getD 0 0)) := by
  have := at_ints b 0 (by omega) (by omega)
  simpa using this
theorem sp_settled (a : List Int) (ha : mv a) (h60 : a.length ≤ 60) : F_settled [.tup (a.map .int)] [] = .ok (sett a) [] := by
  have e1 := sp_possible a ha h60
  have hp : ∀ s, subDs s (a.map D.int) = some (a.map D.int) := fun s => subs_ints _
  unfold sett
  have hn : ∀ eta, bLen [.lst ((usort a).map D.int)] eta = some (.int (usort a).length) := fun eta => by simp
  by_cases c : (usort a).length = 1
  · rw [if_pos c]
    have e2 := at0 _ c
    rw [c] at hn
    generalize a.map D.int = xs at *
    generalize (usort a).map D.int = ys at *
    generalize D.int ((usort a).getD 0 0) = w at *
    simp [-len_lst, F_settled, fz, R_settled, bodyF, startD, c_settled, endF_nx, endF_ret, endF_exc, call0, hp, e1, hn, e2]
  · rw [if_neg c]
    have c' : ¬ ((usort a).length : Int) = 1 := by omega
    generalize ((usort a).length : Int) = n at *
    generalize a.map D.int = xs at *
    generalize (usort a).map D.int = ys at *
    simp [-len_lst, F_settled, fz, R_settled, bodyF, startD, c_settled, endF_nx, endF_ret, endF_exc, call0, hp, e1, hn, c']
end K75
namespace K75
open PySem PySem.Spec PyProof.Rows L2 Gh
/-! ### draws in a row -/
theorem go_draw (i : Nat) (ce : CE) (rho0 : Rho) (many : Int) (m0 : 0 < many) (m1 : many < 18446744073709551616) (hce : ∀ (v : D) (h : HD), ce (rho0.set i (some v)) [h] = callD 1 F_law_take [.ref 0, .int many] [h]) : ∀ (n : Nat) (lo : Int) (acc : List D) (C : Nat) (h : HD), Bx C h → C + n ≤ 1000000 →
    ∃ (xs : List Int) (h' : HD), xs.length = n ∧ (∀ x ∈ xs, 0 ≤ x ∧ x < many) ∧ Bx (C + n) h' ∧ goL (.nm i) cYes ce (fun _ => True) rho0 (rngD lo n) acc [h] = .ok (acc ++ xs.map .int) [h']
  | 0, lo, acc, C, h, b, _ => ⟨[], h, rfl, fun x h => by simp at h, b, by simp [goL]⟩
  | n + 1, lo, acc, C, h, b, hC => by
    obtain ⟨x, h1, l1, g1, b1, t1⟩ := take_call b (by omega) (many := many) m0 m1
    obtain ⟨xs, h', hl, hx, b', ih⟩ := go_draw i ce rho0 many m0 m1 hce n (lo + 1) (acc ++ [.int x]) (C + 1) h1 b1 (by omega)
    refine ⟨x :: xs, h', by simp [hl], fun y hy => ?_, b'.mono (by omega), ?_⟩
    · rcases List.mem_cons.mp hy with rfl | hy
      · exact ⟨l1, g1⟩
      · exact hx y hy
    · have e : ce (rho0.set i (some (.int lo))) [h] = .ok (.int x) [h1] := by rw [hce, t1]
      rw [rngD_succ]
      simp [goL, kT, e, ih]
section
variable {u d r f : Int}
/-! ### parts -/
def segs (as : List (Option (Int × Int))) : List Int → List (List (Option (Int × Int)))
  | p :: q :: rest => (as.drop p.toNat).take (q - p).toNat :: segs as (q :: rest)
  | _ => []
theorem segs_len (as : List (Option (Int × Int))) : ∀ (p : Int) (rest : List Int), (segs as (p :: rest)).length = rest.length
  | p, [] => rfl
  | p, q :: rest => by rw [segs, List.length_cons, segs_len as q rest, List.length_cons]
theorem segs_flat (as : List (Option (Int × Int))) : ∀ (p : Int) (rest : List Int) (z : Int), (p :: rest).Pairwise (· ≤ ·) → 0 ≤ p → (p :: rest).getLast? = some z → (segs as (p :: rest)).flatten = (as.drop p.toNat).take (z - p).toNat
  | p, [], z, _, _, hz => by
    have : p = z := by simpa using hz
    subst this
    simp [segs]
  | p, q :: rest, z, hp, h0, hz => by
    have hp' := List.pairwise_cons.mp hp
    have hpq := hp'.1 q (by simp)
    have hz' : (q :: rest).getLast? = some z := by rw [← hz, List.getLast?_cons_cons]
    have hqz : q ≤ z := by
      have hq := List.pairwise_cons.mp hp'.2
      rcases List.mem_cons.mp (List.mem_of_getLast? hz') with e | e
      · omega
      · exact hq.1 z e
    rw [segs, List.flatten_cons, segs_flat as q rest z hp'.2 (by omega) hz']
    have e1 : (z - p).toNat = (q - p).toNat + (z - q).toNat := by omega
    have e2 : q.toNat = p.toNat + (q - p).toNat := by omega
    rw [e1, List.take_add, List.drop_drop, ← e2]
theorem cut_both (ds : List D) (p q : Int) (h0 : 0 ≤ p) (h1 : p ≤ q) (h2 : q ≤ ds.length) : Gh.cutD ds (some p) (some q) = (ds.drop p.toNat).take (q - p).toNat := by
  obtain ⟨a, rfl⟩ : ∃ a : Nat, p = a := ⟨p.toNat, by omega⟩
  obtain ⟨b, rfl⟩ : ∃ b : Nat, q = b := ⟨q.toNat, by omega⟩
  unfold Gh.cutD
  rw [HT.sIx_nat, HT.sIx_nat, Nat.min_eq_left (by omega), Nat.min_eq_left (by omega)]
  congr 1
  omega
noncomputable def ceP : CE := cMeth 0 "moves" 0 F_Alarm_moves 1 0 (fun ds _ => ds) (cVar 1) (cCons (cSl (cVar 2) (cSo (cOp fIx (cVar 4) (cOp fSub (cVar 8) (cC (.int 1))))) (cSo (cOp fIx (cVar 4) (cVar 8)))) (cNil)) (cNil)
def mvT (u d r f : Int) (s : List (Option (Int × Int))) : D := .tup ((mvs u d r f s).map .int)
theorem el_P (xs ps ys ms : List D) (k p q : Int) (h : HD) (g1 : atI ps (k - 1) = some (.int p)) (g2 : atI ps k = some (.int q)) (hc : Gh.cutD xs (some p) (some q) = ys) (hy : ∀ s, subDs s ys = some ys) (e : F_Alarm_moves [A u d r f, .lst ys] [] = .ok (.tup ms) []) (x0 x3 x5 x6 x7 : Option D) :
    ceP [x0, some (A u d r f), some (.lst xs), x3, some (.lst ps), x5, x6, x7, some (.int k)] [h] = .ok (.tup ms) [h] := by
  unfold ceP
  simp [List.lookup, g1, g2, seqL, hc, call0, hy, e]
theorem go_parts (as : List (Option (Int × Int))) (hl : as.length ≤ 408) (hlow : as.all low = true) (hu : sml u) (hd : sml d) (hr : 1 ≤ r) (hr9 : r ≤ 9) (hf : 1 ≤ f) (hf9 : f ≤ 9) (P : List Int) (h : HD) (x0 x3 x5 x6 x7 x8 : Option D) : ∀ (rest pre : List Int) (p k : Int) (acc : List D), P = pre ++ p :: rest → k = pre.length + 1 → (p :: rest).Pairwise (· ≤ ·) → 0 ≤ p → (∀ x ∈ p :: rest, x ≤ as.length) →
    goL (.nm 8) cYes ceP (fun _ => True) [x0, some (A u d r f), some (.lst (as.map encA)), x3, some (.lst (P.map .int)), x5, x6, x7, x8] (rngD k rest.length) acc [h] = .ok (acc ++ (segs as (p :: rest)).map (mvT u d r f)) [h]
  | [], pre, p, k, acc, _, _, _, _, _ => by simp [goL, segs]
  | q :: rest, pre, p, k, acc, hP, hk, hs, h0, hx => by
    have hs' := List.pairwise_cons.mp hs
    have hpq := hs'.1 q (by simp)
    have hql := hx q (by simp)
    have g1 : atI (P.map D.int) (k - 1) = some (.int p) := by
      rw [hP, List.map_append, List.map_cons]
      exact atI_mid _ _ _ _ (by rw [List.length_map]; omega)
    have g2 : atI (P.map D.int) k = some (.int q) := by
      rw [hP, show pre ++ p :: q :: rest = (pre ++ [p]) ++ q :: rest by simp, List.map_append, List.map_cons]
      exact atI_mid _ _ _ _ (by rw [List.length_map, List.length_append]; simp; omega)
    have hc : Gh.cutD (as.map encA) (some p) (some q) = ((as.drop p.toNat).take (q - p).toNat).map encA := by
      rw [cut_both _ p q h0 hpq (by rw [List.length_map]; exact hql), List.map_take, List.map_drop]
    have hlow' : ((as.drop p.toNat).take (q - p).toNat).all low = true := List.all_eq_true.mpr fun a ha => List.all_eq_true.mp hlow a (List.mem_of_mem_drop (List.mem_of_mem_take ha))
    have hl' : ((as.drop p.toNat).take (q - p).toNat).length ≤ 408 := by rw [List.length_take, List.length_drop]; omega
    have e := sp_moves (u := u) (d := d) (r := r) (f := f) _ _ (.inl rfl) (Nat.le_trans hl' (by decide)) hlow' hu hd hr hr9 hf hf9
    have t := el_P (u := u) (d := d) (r := r) (f := f) _ _ _ _ k p q h g1 g2 hc (fun s => subs_enc _) e x0 x3 x5 x6 x7
    have ih := go_parts as hl hlow hu hd hr hr9 hf hf9 P h x0 x3 x5 x6 x7 x8 rest (pre ++ [p]) q (k + 1) (acc ++ [mvT u d r f ((as.drop p.toNat).take (q - p).toNat)]) (by simp [hP]) (by simp; omega) hs'.2 (by omega) (fun x hx' => hx x (List.mem_cons_of_mem _ hx'))
    rw [List.length_cons, rngD_succ, segs, List.map_cons]
    unfold mvT at ih ⊢
    generalize as.map encA = xs at *
    generalize P.map D.int = ps at *
    generalize (mvs u d r f ((as.drop p.toNat).take (q - p).toNat)).map D.int = ms at *
    simp only [List.append_assoc, List.cons_append, List.nil_append] at ih
    simp [goL, kT, t, ih]
end
end K75
namespace K75
open PySem PySem.Spec PyProof.Rows L2 Gh
section
variable {u d r f : Int}
noncomputable def tP : CT := cBl (cOp fGt (cCall bLen (cCons (cVar 5) (cNil))) (cC (.int 1)))
noncomputable def bP : CS := cFr (cSeq (cSet 6 (cFn 1 F_law_take 2 0 (fun ds _ => ds) (cCons (cVar 0) (cCons (cOp fSub (cCall bLen (cCons (cVar 5) (cNil))) (cC (.int 1))) (cNil))) (cNil))) (cPutSl (cNew (cCons (cFn 0 F_then 2 0 (fun ds _ => ds) (cCons (cOp fIx (cVar 5) (cVar 6)) (cCons (cOp fIx (cVar 5) (cOp fPlus (cVar 6) (cC (.int 1)))) (cNil))) (cNil)) (cNil))) (cVar 5) (cSo (cVar 6)) (cSo (cOp fPlus (cVar 6) (cC (.int 2))))))
theorem put_mid (h' : HD) (X1 X2 : List D) (a b m : D) (x : Int) (hx : x = X1.length) (hl : X1.length + X2.length + 3 ≤ lineB) : putSl [h', .lst (X1 ++ a :: b :: X2), .lst [m]] (.ref 1) (some x) (some (x + 2)) (.ref 2) = some [h', .lst (X1 ++ m :: X2), .lst [m]] := by
  subst hx
  have c : (!((1 : Nat) == 2) && decide ((0 : Int) ≤ (X1.length : Int)) && decide ((X1.length : Int) ≤ (X1.length : Int) + 2) && decide ((X1.length : Int) + 2 ≤ ((X1 ++ a :: b :: X2).length : Int)) && decide ((X1 ++ a :: b :: X2).length + [m].length ≤ lineB)) = true := by
    simp only [List.length_append, List.length_cons, List.length_nil, Bool.and_eq_true, decide_eq_true_eq]
    refine ⟨⟨⟨⟨by decide, by omega⟩, by omega⟩, by omega⟩, by omega⟩
  show (if (!((1 : Nat) == 2) && decide ((0 : Int) ≤ (X1.length : Int)) && decide ((X1.length : Int) ≤ (X1.length : Int) + 2) && decide ((X1.length : Int) + 2 ≤ ((X1 ++ a :: b :: X2).length : Int)) && decide ((X1 ++ a :: b :: X2).length + [m].length ≤ lineB)) = true then some ([h', HD.lst (X1 ++ a :: b :: X2), .lst [m]].set 1 (.lst ((X1 ++ a :: b :: X2).take (X1.length : Int).toNat ++ [m] ++ (X1 ++ a :: b :: X2).drop ((X1.length : Int) + 2).toNat))) else none) = _
  rw [if_pos c]
  have e1 : ((X1.length : Int)).toNat = X1.length := by omega
  have e2 : ((X1.length : Int) + 2).toNat = X1.length + 2 := by omega
  rw [e1, e2, List.take_left, show X1 ++ a :: b :: X2 = (X1 ++ [a, b]) ++ X2 by simp, show X1.length + 2 = (X1 ++ [a, b]).length by simp, List.drop_left]
  simp
theorem turn_P (xs ps X Y m1 m2 m3 : List D) (B : D) (n x : Int) (h h' : HD) (o6 : Option D) (hxs : ∀ s, subDs s xs = some xs) (hps : ∀ s, subDs s ps = some ps) (hB : ∀ s, subD s B = some B) (p1 : ∀ s, subDs s m1 = some m1) (p2 : ∀ s, subDs s m2 = some m2) (p3 : ∀ s, subDs s m3 = some m3) (hY : ∀ s, subDs s Y = some Y) (hh : ∀ s, subH s h' = some h')
    (hn : bLen [.ref 1] [h, .lst X] = some (.int n)) (tk : ∀ eta, callD 1 F_law_take [.ref 0, .int (n - 1)] (h :: eta) = .ok (.int x) (h' :: eta)) (g1 : atI X x = some (.tup m1)) (g2 : atI X (x + 1) = some (.tup m2)) (e3 : F_then [.tup m1, .tup m2] [] = .ok (.tup m3) [])
    (hput : putSl [h', .lst X, .lst [.tup m3]] (.ref 1) (some x) (some (x + 2)) (.ref 2) = some [h', .lst Y, .lst [.tup m3]]) :
    bP [some (.ref 0), some (A u d r f), some (.lst xs), some B, some (.lst ps), some (.ref 1), o6, none, none] [h, .lst X] = .nx [some (.ref 0), some (A u d r f), some (.lst xs), some B, some (.lst ps), some (.ref 1), some (.int x), none, none] [h', .lst Y] := by
  have q1 : 1 ≤ lineB := by decide
  have f0 : ∀ eta, frzS 2 eta 4 0 = some (.ref 0) := fun eta => by simp [frzS]
  have f1 : ∀ eta, frzS 2 eta 4 1 = some (.ref 1) := fun eta => by simp [frzS]
  have yH : ∀ s, subH s (.lst Y) = some (.lst Y) := fun s => by simp [subH, hY]
  unfold bP
  simp [hn, tk, g1, g2, call0, p1, p2, e3, q1, hput, fzS, frzR, subR, subO, f0, f1, hxs, hps, hB, subHs, hh, yH]
theorem mid_of {α : Type} : ∀ (ss : List α) (k : Nat), k + 1 < ss.length → ∃ s1 a b s2, ss = s1 ++ a :: b :: s2 ∧ s1.length = k
  | [], k, h => by simp at h
  | [a], k, h => by simp at h
  | a :: b :: s, 0, h => ⟨[], a, b, s, rfl, rfl⟩
  | a :: b :: s, k + 1, h => by
    obtain ⟨s1, x, y, s2, e, hl⟩ := mid_of (b :: s) k (by simpa using h)
    exact ⟨a :: s1, x, y, s2, by rw [e]; rfl, by simp [hl]⟩
theorem subs_mvT (s : Nat → Option D) : ∀ ss : List (List (Option (Int × Int))), subDs s (ss.map (mvT u d r f)) = some (ss.map (mvT u d r f))
  | [] => by simp
  | x :: ss => by simp [mvT, subs_mvT s ss]
theorem loop_P (hr : 1 ≤ r) (hr9 : r ≤ 9) (hf : 1 ≤ f) (hf9 : f ≤ 9) (as : List (Option (Int × Int))) (xs ps : List D) (B : D) (hxs : ∀ s, subDs s xs = some xs) (hps : ∀ s, subDs s ps = some ps) (hB : ∀ s, subD s B = some B) : ∀ (k : Nat) (ss : List (List (Option (Int × Int)))) (C : Nat) (h : HD) (o6 : Option D), ss ≠ [] → ss.length ≤ k + 1 → ss.length ≤ 100 → ss.flatten = as → Bx C h → C + k ≤ 1000000 →
    ∃ h' o6', Bx (C + k) h' ∧ cWhile tP bP [some (.ref 0), some (A u d r f), some (.lst xs), some B, some (.lst ps), some (.ref 1), o6, none, none] [h, .lst (ss.map (mvT u d r f))] = .nx [some (.ref 0), some (A u d r f), some (.lst xs), some B, some (.lst ps), some (.ref 1), o6', none, none] [h', .lst [mvT u d r f as]] := by
  have hone : ∀ (s : List (Option (Int × Int))) (C : Nat) (h : HD) (o6 : Option D), [s].flatten = as → cWhile tP bP [some (.ref 0), some (A u d r f), some (.lst xs), some B, some (.lst ps), some (.ref 1), o6, none, none] [h, .lst ([s].map (mvT u d r f))] = .nx [some (.ref 0), some (A u d r f), some (.lst xs), some B, some (.lst ps), some (.ref 1), o6, none, none] [h, .lst [mvT u d r f as]] := fun s C h o6 e => by
    have : s = as := by simpa using e
    subst this
    have t : tP [some (.ref 0), some (A u d r f), some (.lst xs), some B, some (.lst ps), some (.ref 1), o6, none, none] [h, .lst ([s].map (mvT u d r f))] = .ok false [h, .lst ([s].map (mvT u d r f))] := by
      unfold tP
      simp [bLen, seqA]
    simp only [List.map_cons, List.map_nil] at t ⊢
    rw [cWhile_step]
    simp [t]
  intro k
  induction k with
  | zero =>
    intro ss C h o6 hne hl _ hfl b hC
    obtain ⟨s, rfl⟩ : ∃ s, ss = [s] := by
      match ss, hne, hl with
      | [s], _, _ => exact ⟨s, rfl⟩
    exact ⟨h, o6, b, hone s C h o6 hfl⟩
  | succ k ih =>
    intro ss C h o6 hne hl h100 hfl b hC
    by_cases h1 : ss.length = 1
    · obtain ⟨s, rfl⟩ := List.length_eq_one_iff.mp h1
      exact ⟨h, o6, b.mono (by omega), hone s C h o6 hfl⟩
    · have h2 : 1 < ss.length := by
        have : ss.length ≠ 0 := fun e => hne (List.eq_nil_of_length_eq_zero e)
        omega
      obtain ⟨x, h', l1, g1, b1, tk⟩ := take_call b (by omega) (many := (ss.length : Int) - 1) (by omega) (by omega)
      obtain ⟨s1, a, c, s2, e, hs1⟩ := mid_of ss x.toNat (by omega)
      have hx : x = s1.length := by omega
      have m1 := mvs_mv (u := u) (d := d) hr hf a
      have m2 := mvs_mv (u := u) (d := d) hr hf c
      have k1 := mvs_len (u := u) (d := d) (r := r) (f := f) a
      have k2 := mvs_len (u := u) (d := d) (r := r) (f := f) c
      have e3 := sp_then _ _ m1 m2 (by rw [k1, k2]) (by rw [k1]; omega)
      rw [mvs_comp hr hf] at e3
      have hX : ss.map (mvT u d r f) = s1.map (mvT u d r f) ++ mvT u d r f a :: mvT u d r f c :: s2.map (mvT u d r f) := by rw [e]; simp
      have hn : bLen [.ref 1] [h, .lst (ss.map (mvT u d r f))] = some (.int ss.length) := by simp [bLen, seqA]
      have ga : atI (ss.map (mvT u d r f)) x = some (mvT u d r f a) := by
        rw [hX]; exact atI_mid _ _ _ _ (by rw [List.length_map]; exact hx)
      have gc : atI (ss.map (mvT u d r f)) (x + 1) = some (mvT u d r f c) := by
        rw [hX, show s1.map (mvT u d r f) ++ mvT u d r f a :: mvT u d r f c :: s2.map (mvT u d r f) = (s1.map (mvT u d r f) ++ [mvT u d r f a]) ++ mvT u d r f c :: s2.map (mvT u d r f) by simp]
        exact atI_mid _ _ _ _ (by rw [List.length_append, List.length_map]; simp; omega)
      have hlen : s1.length + s2.length + 2 = ss.length := by rw [e]; simp; omega
      have hput := put_mid h' (s1.map (mvT u d r f)) (s2.map (mvT u d r f)) (mvT u d r f a) (mvT u d r f c) (mvT u d r f (a ++ c)) x (by rw [List.length_map]; exact hx) (by rw [List.length_map, List.length_map]; exact Nat.le_trans (show s1.length + s2.length + 3 ≤ 101 by omega) (by decide))
      rw [← hX] at hput
      have hY : s1.map (mvT u d r f) ++ mvT u d r f (a ++ c) :: s2.map (mvT u d r f) = (s1 ++ (a ++ c) :: s2).map (mvT u d r f) := by simp
      rw [hY] at hput
      have t2 := turn_P (u := u) (d := d) (r := r) (f := f) xs ps _ _ _ _ _ B _ x h h' o6 hxs hps hB (fun s => subs_ints _) (fun s => subs_ints _) (fun s => subs_ints _) (fun s => subs_mvT s _) b1.pure hn tk ga gc e3 hput
      obtain ⟨h'', o6', b', ih⟩ := ih (s1 ++ (a ++ c) :: s2) (C + 1) h' (some (.int x)) (by simp) (by simp; omega) (by simp; omega) (by rw [← hfl, e]; simp) b1 (by omega)
      refine ⟨h'', o6', b'.mono (by omega), ?_⟩
      have t1 : tP [some (.ref 0), some (A u d r f), some (.lst xs), some B, some (.lst ps), some (.ref 1), o6, none, none] [h, .lst (ss.map (mvT u d r f))] = .ok true [h, .lst (ss.map (mvT u d r f))] := by
        unfold tP
        simp [hn]
        omega
      rw [cWhile_step]
      generalize ss.map (mvT u d r f) = X at *
      generalize (s1 ++ (a ++ c) :: s2).map (mvT u d r f) = Y at *
      simp [t1, t2, ih]
noncomputable def ceD : CE := cFn 1 F_law_take 2 0 (fun ds _ => ds) (cCons (cVar 0) (cCons (cOp fPlus (cCall bLen (cCons (cVar 2) (cNil))) (cC (.int 1))) (cNil))) (cNil)
noncomputable def s1P : CS := cSet 4 (cCall bSorted (cCons (cOp fPlus (cLst (cCons (cC (.int 0)) (cCons (cCall bLen (cCons (cVar 2) (cNil))) (cNil)))) (cLc [7] (.nm 7) (cRg rg1 (cCons (cFn 1 F_law_take 2 0 (fun ds _ => ds) (cCons (cVar 0) (cCons (cC (.int 5)) (cNil))) (cNil)) (cNil))) (cYes) ceD)) (cNil)))
noncomputable def s2P (F : List D → Option (List D × (Eta → Prop))) : CS := cSet 5 (cLcN [8] (.nm 8) (cRg F (cCons (cC (.int 1)) (cCons (cCall bLen (cCons (cVar 4) (cNil))) (cNil)))) (cYes) ceP)
theorem put_split : c_law_put_together = cSeq s1P (cSeq (s2P rg2) (cSeq (cWhile tP bP) (cRet (cOp fIx (cVar 5) (cC (.int 0)))))) := rfl
theorem put_1 (ds rs5 : List D) (X Ps B : D) (n x5 : Int) (h h1 h2 : HD) (o2 : Option D) (hn : ∀ eta, bLen [X] eta = some (.int n)) (t5 : ∀ eta, callD 1 F_law_take [.ref 0, .int 5] (h :: eta) = .ok (.int x5) (h1 :: eta)) (rg5 : rg1 [.int x5] = some (rs5, fun _ => True)) (l5 : rs5.length ≤ lineB)
    (hgo1 : goL (.nm 7) cYes ceD (fun _ => True) [some (.ref 0), some (A u d r f), some X, some B, none, none, none, none, none] rs5 [] [h1] = .ok ds [h2]) (hpl : ∀ eta, fPlus (.lst [.int 0, .int n]) (.lst ds) eta = some (.lst (.int 0 :: .int n :: ds))) (hso : ∀ eta, bSorted [.lst (.int 0 :: .int n :: ds)] eta = some Ps) :
    s1P [some (.ref 0), some (A u d r f), some X, some B, none, none, none, none, none] [h] = .nx [some (.ref 0), some (A u d r f), some X, some B, some Ps, none, none, none, none] [h2] := by
  have q2 : 2 ≤ lineB := by decide
  unfold s1P
  simp [-len_lst, hn, q2, t5, rg5, l5, wipeR, hgo1, hpl, hso]
theorem put_2 (F : List D → Option (List D × (Eta → Prop))) (rs8 Y : List D) (X Ps B : D) (m : Int) (h2 : HD) (hm : ∀ eta, bLen [Ps] eta = some (.int m)) (rg8 : F [.int 1, .int m] = some (rs8, fun _ => True)) (l8 : rs8.length ≤ lineB) (hgo2 : goL (.nm 8) cYes ceP (fun _ => True) [some (.ref 0), some (A u d r f), some X, some B, some Ps, none, none, none, none] rs8 [] [h2] = .ok Y [h2]) :
    s2P F [some (.ref 0), some (A u d r f), some X, some B, some Ps, none, none, none, none] [h2] = .nx [some (.ref 0), some (A u d r f), some X, some B, some Ps, some (.ref 1), none, none, none] [h2, .lst Y] := by
  unfold s2P
  simp [-len_lst, hm, rg8, l8, wipeR, hgo2]
theorem seq_nx {a b : CS} {rho rho1 : Rho} {eta eta1 : Eta} (h : a rho eta = .nx rho1 eta1) : cSeq a b rho eta = b rho1 eta1 := by rw [ev_seq, h]
theorem ret_5 (Z : D) (h3 : HD) (x0 x1 x2 x3 x4 x6 x7 x8 : Option D) : cRet (cOp fIx (cVar 5) (cC (.int 0))) [x0, x1, x2, x3, x4, some (.ref 1), x6, x7, x8] [h3, .lst [Z]] = .ret Z [h3, .lst [Z]] := by
  have a0 : atI [Z] 0 = some Z := rfl
  simp [a0]
theorem put_R (xs ps Y : List D) (B Z : D) (h h2 h3 : HD) (o6 : Option D)
    (e1 : s1P [some (.ref 0), some (A u d r f), some (.lst xs), some B, none, none, none, none, none] [h] = .nx [some (.ref 0), some (A u d r f), some (.lst xs), some B, some (.lst ps), none, none, none, none] [h2])
    (e2 : s2P rg2 [some (.ref 0), some (A u d r f), some (.lst xs), some B, some (.lst ps), none, none, none, none] [h2] = .nx [some (.ref 0), some (A u d r f), some (.lst xs), some B, some (.lst ps), some (.ref 1), none, none, none] [h2, .lst Y])
    (hw : cWhile tP bP [some (.ref 0), some (A u d r f), some (.lst xs), some B, some (.lst ps), some (.ref 1), none, none, none] [h2, .lst Y] = .nx [some (.ref 0), some (A u d r f), some (.lst xs), some B, some (.lst ps), some (.ref 1), o6, none, none] [h3, .lst [Z]]) :
    R_law_put_together [.ref 0, A u d r f, .lst xs, B] [h] = .ok Z [h3, .lst [Z]] := by
  have e : c_law_put_together [some (.ref 0), some (A u d r f), some (.lst xs), some B, none, none, none, none, none] [h] = .ret Z [h3, .lst [Z]] := by
    rw [put_split, seq_nx e1, seq_nx e2, seq_nx hw, ret_5]
  unfold R_law_put_together bodyF
  rw [show startD 9 [.ref 0, A u d r f, .lst xs, B] = [some (.ref 0), some (A u d r f), some (.lst xs), some B, none, none, none, none, none] from rfl, e, endF_ret]
end
end K75
namespace K75
open PySem PySem.Spec PyProof.Rows L2 Gh
theorem fz_drop (F : Fd) (a : List D) (h h' g : HD) (d : D) (e : F a [h] = .ok d [h', g]) (hd : ∀ s, subD s d = some d) (hh : ∀ s, subH s h' = some h') : fz F a [h] = .ok d [h'] := by
  simp [fz, e, fzO, frz, subHs, hd, hh]
theorem rg2_small {i j : Int} (h0 : 0 ≤ i) (h1 : i ≤ 1000) (h2 : 0 ≤ j) (h3 : j ≤ 1000) : rg2 [.int i, .int j] = some (rngD i (j - i).toNat, fun _ => True) := by
  have a1 : okRg i = true := by unfold okRg; simp only [Bool.and_eq_true, decide_eq_true_eq]; omega
  have a2 : okRg j = true := by unfold okRg; simp only [Bool.and_eq_true, decide_eq_true_eq]; omega
  unfold rg2
  simp only [a1, a2, Bool.and_self, if_true]
theorem last_le : ∀ {l : List Int} {z : Int}, l.Pairwise (· ≤ ·) → l.getLast? = some z → ∀ x ∈ l, x ≤ z
  | [], _, _, h, _, _ => by cases h
  | [a], z, _, h, x, hx => by
    have h1 : a = z := by simpa using h
    have h2 : x = a := by simpa using hx
    omega
  | a :: b :: l, z, hp, h, x, hx => by
    have hp' := List.pairwise_cons.mp hp
    rw [List.getLast?_cons_cons] at h
    have ih := last_le hp'.2 h
    rcases List.mem_cons.mp hx with rfl | hx
    · exact Int.le_trans (hp'.1 b (by simp)) (ih b (by simp))
    · exact ih x hx
section
variable {u d r f : Int}
theorem ceD_run (X B : D) (n : Int) (hn : ∀ eta, bLen [X] eta = some (.int n)) (x1 x4 x5 x6 x8 : Option D) (v : D) (h : HD) : ceD [some (.ref 0), x1, some X, some B, x4, x5, x6, some v, x8] [h] = callD 1 F_law_take [.ref 0, .int (n + 1)] [h] := by
  unfold ceD
  simp [hn]
theorem sort_ints (n : Int) (xs : List Int) (eta : Eta) : bSorted [.lst (.int 0 :: .int n :: xs.map .int)] eta = some (.lst ((isort (0 :: n :: xs)).map .int)) := by
  have e : (D.int 0 :: .int n :: xs.map .int) = (0 :: n :: xs).map D.int := rfl
  rw [e]
  simp [bSorted, seqL, -List.map_cons, intsD_map]
theorem sp_put {C : Nat} {h : HD} (b : Bx C h) (hC : C ≤ 900000) (as : List (Option (Int × Int))) (hl : as.length ≤ 408) (hlow : as.all low = true) (hu : sml u) (hd : sml d) (hr : 1 ≤ r) (hr9 : r ≤ 9) (hf : 1 ≤ f) (hf9 : f ≤ 9) : ∃ h', Bx (C + 120) h' ∧ ∀ eta, callD 1 F_law_put_together [.ref 0, A u d r f, .lst (as.map encA), .tup [.int u, .int d, .int r, .int f]] (h :: eta) = .ok (mvT u d r f as) (h' :: eta) := by
  obtain ⟨x5, h1, l5, g5, b1, t5⟩ := take_call b (by omega) (many := 5) (by omega) (by omega)
  have hn : ∀ eta, bLen [.lst (as.map encA)] eta = some (.int (as.length : Int)) := fun eta => by simp
  obtain ⟨xs, h2, lx, hx, b2, e1⟩ := go_draw 7 ceD [some (.ref 0), some (A u d r f), some (.lst (as.map encA)), some (.tup [.int u, .int d, .int r, .int f]), none, none, none, none, none] ((as.length : Int) + 1) (by omega) (by omega) (fun v h => ceD_run _ _ _ hn _ _ _ _ _ v h) x5.toNat 0 [] (C + 1) h1 b1 (by omega)
  have hP : ∀ x, x ∈ isort (0 :: (as.length : Int) :: xs) ↔ x = 0 ∨ x = as.length ∨ x ∈ xs := fun x => by
    rw [(isort_perm _).mem_iff, List.mem_cons, List.mem_cons]
  have lP : (isort (0 :: (as.length : Int) :: xs)).length = xs.length + 2 := by rw [(isort_perm _).length_eq]; rfl
  have sP := isort_pw (0 :: (as.length : Int) :: xs)
  have hso := sort_ints (as.length : Int) xs
  generalize isort (0 :: (as.length : Int) :: xs) = P at hP lP sP hso
  obtain ⟨p, rest, rfl⟩ : ∃ p rest, P = p :: rest := by
    cases P with
    | nil => simp at lP
    | cons p rest => exact ⟨p, rest, rfl⟩
  have hin : ∀ x ∈ p :: rest, 0 ≤ x ∧ x ≤ as.length := fun x hm => by
    rcases (hP x).mp hm with e | e | e
    · omega
    · omega
    · have := hx x e; omega
  have p0 : p = 0 := by
    have m0 : (0 : Int) ∈ p :: rest := (hP 0).mpr (.inl rfl)
    have := hin p (by simp)
    rcases List.mem_cons.mp m0 with e | e
    · exact e.symm
    · have := (List.pairwise_cons.mp sP).1 0 e; omega
  subst p0
  have hlast : (0 :: rest).getLast? = some (as.length : Int) := by
    cases e : (0 :: rest).getLast? with
    | none => simp at e
    | some z =>
      have k1 := hin z (List.mem_of_getLast? e)
      have k2 := last_le sP e (as.length : Int) ((hP _).mpr (.inr (.inl rfl)))
      congr 1
      omega
  have hrest : rest.length = xs.length + 1 := by simpa using lP
  have hfl := segs_flat as 0 rest _ sP (by omega) hlast
  have hfl2 : (segs as (0 :: rest)).flatten = as := by
    rw [hfl]
    simp
  have lsg := segs_len as 0 rest
  have e2 := go_parts (u := u) (d := d) (r := r) (f := f) as hl hlow hu hd hr hr9 hf hf9 (0 :: rest) h2 (some (.ref 0)) (some (.tup [.int u, .int d, .int r, .int f])) none none none none rest [] 0 1 [] rfl rfl sP (by omega) (fun x hm => (hin x hm).2)
  obtain ⟨h3, o6, b3, e3⟩ := loop_P (u := u) (d := d) (r := r) (f := f) hr hr9 hf hf9 as (as.map encA) ((0 :: rest).map .int) (.tup [.int u, .int d, .int r, .int f]) (fun s => subs_enc as) (fun s => subs_ints _) (fun s => by simp) 100 (segs as (0 :: rest)) (C + 1 + x5.toNat) h2 none (fun e => by rw [e] at lsg; simp at lsg; omega) (by omega) (by omega) hfl2 b2 (by omega)
  have q1 := put_1 (u := u) (d := d) (r := r) (f := f) (xs.map .int) (rngD 0 x5.toNat) (.lst (as.map encA)) (.lst ((0 :: rest).map .int)) (.tup [.int u, .int d, .int r, .int f]) (as.length : Int) x5 h h1 h2 none hn t5 (rg1_small (by omega) (by omega)) (by rw [rng_len]; exact Nat.le_trans (show x5.toNat ≤ 5 by omega) (by decide)) (by rw [List.nil_append] at e1; exact e1) (fun eta => by
    have : 2 + xs.length ≤ lineB := Nat.le_trans (show 2 + xs.length ≤ 10 by omega) (by decide)
    simp [fPlus, seqL, Nat.add_comm, this]
    omega) hso
  have hrl : (((0 :: rest).length : Nat) : Int) - 1 = rest.length := by rw [List.length_cons]; omega
  have q2 := put_2 (u := u) (d := d) (r := r) (f := f) rg2 (rngD 1 rest.length) ((segs as (0 :: rest)).map (mvT u d r f)) (.lst (as.map encA)) (.lst ((0 :: rest).map .int)) (.tup [.int u, .int d, .int r, .int f]) (((0 :: rest).length : Nat) : Int) h2 (fun eta => by simp) (by
    rw [rg2_small (by omega) (by omega) (by omega) (by rw [List.length_cons]; omega), hrl, Int.toNat_natCast]) (by rw [rng_len]; exact Nat.le_trans (show rest.length ≤ 10 by omega) (by decide)) (by rw [List.nil_append] at e2; exact e2)
  have q := put_R (u := u) (d := d) (r := r) (f := f) _ _ _ _ _ h h2 h3 _ q1 q2 e3
  refine ⟨h3, b3.mono (by omega), fun eta => ?_⟩
  have eF : F_law_put_together [.ref 0, A u d r f, .lst (as.map encA), .tup [.int u, .int d, .int r, .int f]] [h] = .ok (mvT u d r f as) [h3] := fz_drop _ _ _ _ _ _ q (fun s => by simp [mvT]) b3.pure
  rw [call1 (by simp) (b.pure _), eF, backO1_ok]
end
end K75
namespace K75
open PySem PySem.Spec PyProof.Rows L2 Gh
/-! ### a row is drawn -/
theorem go_ans (i : Nat) (ce : CE) (rho0 : Rho) (u d kind : Int) (hu : u.natAbs ≤ 100000000000) (hd : d.natAbs ≤ 200000000000) (k0 : 0 ≤ kind) (k1 : kind < 4) (hce : ∀ (v : D) (h h1 : HD) (a : Option (Int × Int)), (∀ eta, callD 1 F_law_one [.ref 0, .int u, .int d, .int kind] (h :: eta) = .ok (encA a) (h1 :: eta)) → (∀ eta, callD 0 F_law_lowest [encA a] eta = .ok (encA (lst a)) eta) → ce (rho0.set i (some v)) [h] = .ok (encA (lst a)) [h1]) : ∀ (n : Nat) (lo : Int) (acc : List D) (C : Nat) (h : HD), Bx C h → C + 2 * n ≤ 900000 →
    ∃ (as : List (Option (Int × Int))) (h' : HD), as.length = n ∧ (∀ a ∈ as, good a) ∧ Bx (C + 2 * n) h' ∧ goL (.nm i) cYes ce (fun _ => True) rho0 (rngD lo n) acc [h] = .ok (acc ++ as.map encA) [h']
  | 0, lo, acc, C, h, b, _ => ⟨[], h, rfl, fun a h => by simp at h, b, by simp [goL]⟩
  | n + 1, lo, acc, C, h, b, hC => by
    obtain ⟨a, h1, r1, b1, e1⟩ := callOne b (by omega) u d kind hu hd k0 k1
    obtain ⟨g1, e2⟩ := callLow a r1
    obtain ⟨as, h', hl, hg, b', ih⟩ := go_ans i ce rho0 u d kind hu hd k0 k1 hce n (lo + 1) (acc ++ [encA (lst a)]) (C + 2) h1 b1 (by omega)
    refine ⟨lst a :: as, h', by simp [hl], fun z hz => ?_, b'.mono (by omega), ?_⟩
    · rcases List.mem_cons.mp hz with rfl | hz
      · exact g1
      · exact hg z hz
    · rw [rngD_succ]
      have e3 := hce (.int lo) h h1 a e1 e2
      simp [goL, kT, e3, ih]
noncomputable def ceW : CE := cFn 0 F_law_lowest 1 0 (fun ds _ => ds) (cCons (cFn 1 F_law_one 4 0 (fun ds _ => ds) (cCons (cVar 0) (cCons (cVar 2) (cCons (cVar 3) (cCons (cVar 8) (cNil))))) (cNil)) (cNil)) (cNil)
theorem ceW_run (u d kind : Int) (x1 x4 x5 x6 x7 x9 : Option D) (v : D) (h h1 : HD) (a : Option (Int × Int)) (e1 : ∀ eta, callD 1 F_law_one [.ref 0, .int u, .int d, .int kind] (h :: eta) = .ok (encA a) (h1 :: eta)) (e2 : ∀ eta, callD 0 F_law_lowest [encA a] eta = .ok (encA (lst a)) eta) :
    ceW [some (.ref 0), x1, some (.int u), some (.int d), x4, x5, x6, x7, some (.int kind), x9, some v] [h] = .ok (encA (lst a)) [h1] := by
  unfold ceW
  simp [e1, e2]
noncomputable def bW (F : List D → Option (List D × (Eta → Prop))) : CS := cSeq (cSet 8 (cFn 1 F_law_take 2 0 (fun ds _ => ds) (cCons (cVar 0) (cCons (cC (.int 4)) (cNil))) (cNil))) (cSeq (cSet 9 (cIf (cBl (cOp fEq (cVar 8) (cC (.int 0)))) (cOp fIx (cLst (cCons (cVar 4) (cCons (cOp fSub (cVar 4) (cC (.int 1))) (cCons (cC (.int 1)) (cNil))))) (cFn 1 F_law_take 2 0 (fun ds _ => ds) (cCons (cVar 0) (cCons (cC (.int 3)) (cNil))) (cNil))) (cOp fIx (cLst (cCons (cVar 5) (cCons (cOp fSub (cVar 5) (cC (.int 1))) (cCons (cC (.int 1)) (cNil))))) (cFn 1 F_law_take 2 0 (fun ds _ => ds) (cCons (cVar 0) (cCons (cC (.int 3)) (cNil))) (cNil))))) (cSet 6 (cOp fPlus (cVar 6) (cLc [10] (.nm 10) (cRg F (cCons (cVar 9) (cNil))) (cYes) ceW))))
theorem turn_W (F : List D → Option (List D × (Eta → Prop))) (u d r f x1 x2 v w : Int) (hw : w = if x1 = 0 then r else f) (B : D) (xs ys rs : List D) (h h1 h2 h' : HD) (o7 o8 o9 : Option D) (t1 : ∀ eta, callD 1 F_law_take [.ref 0, .int 4] (h :: eta) = .ok (.int x1) (h1 :: eta)) (t2 : ∀ eta, callD 1 F_law_take [.ref 0, .int 3] (h1 :: eta) = .ok (.int x2) (h2 :: eta)) (a2 : atI [D.int w, D.int (w - 1), D.int 1] x2 = some (D.int v)) (rg : F [.int v] = some (rs, fun _ => True)) (ql : rs.length ≤ lineB)
    (e : goL (.nm 10) cYes ceW (fun _ => True) [some (.ref 0), some B, some (.int u), some (.int d), some (.int r), some (.int f), some (.lst xs), o7, some (.int x1), some (.int v), none] rs [] [h2] = .ok ys [h']) (ep : ∀ eta, fPlus (.lst xs) (.lst ys) eta = some (.lst (xs ++ ys))) :
    bW F [some (.ref 0), some B, some (.int u), some (.int d), some (.int r), some (.int f), some (.lst xs), o7, o8, o9, none] [h] = .nx [some (.ref 0), some B, some (.int u), some (.int d), some (.int r), some (.int f), some (.lst (xs ++ ys)), o7, some (.int x1), some (.int v), none] [h'] := by
  have q3 : 3 ≤ lineB := by decide
  unfold bW
  by_cases c : x1 = 0
  · rw [if_pos c] at hw
    subst hw
    simp only [c] at *
    simp [t1, t2, a2, q3, rg, ql, wipeR, e, ep]
  · rw [if_neg c] at hw
    subst hw
    simp [t1, t2, c, a2, q3, rg, ql, wipeR, e, ep]
theorem loop_W (u d r f : Int) (hu : u.natAbs ≤ 100000000000) (hd : d.natAbs ≤ 200000000000) (hr : 1 ≤ r) (hr9 : r ≤ 9) (hf : 1 ≤ f) (hf9 : f ≤ 9) (B : D) : ∀ (n : Nat) (lo : Int) (as : List (Option (Int × Int))) (C : Nat) (h : HD) (o7 o8 o9 : Option D), (∀ a ∈ as, good a) → as.length + 9 * n ≤ 1000 → Bx C h → C + 20 * n ≤ 800000 →
    ∃ (as' : List (Option (Int × Int))) (h' : HD) (o7' o8' o9' : Option D), (∀ a ∈ as', good a) ∧ Bx (C + 20 * n) h' ∧ forD (.nm 7) (bW rg1) (fun _ => True) (rngD lo n) [some (.ref 0), some B, some (.int u), some (.int d), some (.int r), some (.int f), some (.lst (as.map encA)), o7, o8, o9, none] [h] = .nx [some (.ref 0), some B, some (.int u), some (.int d), some (.int r), some (.int f), some (.lst (as'.map encA)), o7', o8', o9', none] [h']
  | 0, lo, as, C, h, o7, o8, o9, hg, _, b, _ => ⟨as, h, o7, o8, o9, hg, b, by simp [forD]⟩
  | n + 1, lo, as, C, h, o7, o8, o9, hg, hl, b, hC => by
    obtain ⟨x1, h1, l1, g1, b1, t1⟩ := take_call b (by omega) (many := 4) (by omega) (by omega)
    obtain ⟨x2, h2, l2, g2, b2, t2⟩ := take_call b1 (by omega) (many := 3) (by omega) (by omega)
    have hw9 : 1 ≤ (if x1 = 0 then r else f) ∧ (if x1 = 0 then r else f) ≤ 9 := by split <;> omega
    obtain ⟨v, mv, a2⟩ := pickI [(if x1 = 0 then r else f), (if x1 = 0 then r else f) - 1, 1] x2 l2 (by simpa using g2)
    simp only [List.map_cons, List.map_nil] at a2
    generalize hw : (if x1 = 0 then r else f) = w at *
    have hv : 0 ≤ v ∧ v ≤ 9 := by simp at mv; omega
    obtain ⟨as1, h3, hl1, hg1, b3, e⟩ := go_ans 10 ceW [some (.ref 0), some B, some (.int u), some (.int d), some (.int r), some (.int f), some (.lst (as.map encA)), some (.int lo), some (.int x1), some (.int v), none] u d x1 hu hd l1 g1 (fun v h h1 a e1 e2 => ceW_run u d x1 _ _ _ _ _ _ v h h1 a e1 e2) v.toNat 0 [] (C + 1 + 1) h2 b2 (by omega)
    have ep : ∀ eta, fPlus (.lst (as.map encA)) (.lst (as1.map encA)) eta = some (.lst (as.map encA ++ as1.map encA)) := fun eta => by
      have hs : as.length + as1.length ≤ lineB := Nat.le_trans (show as.length + as1.length ≤ 1009 by omega) (by decide)
      simp [fPlus, seqL, hs]
    rw [List.nil_append] at e
    have t := turn_W rg1 u d r f x1 x2 v w hw.symm B _ _ _ h h1 h2 h3 (some (.int lo)) o8 o9 t1 t2 a2 (rg1_small (by omega) (by omega)) (by rw [rng_len]; exact Nat.le_trans (show v.toNat ≤ 9 by omega) (by decide)) e ep
    obtain ⟨as', h', o7', o8', o9', hg', b', ih⟩ := loop_W u d r f hu hd hr hr9 hf hf9 B n (lo + 1) (as ++ as1) (C + 20) h3 (some (.int lo)) (some (.int x1)) (some (.int v)) (fun a ha => by
      rcases List.mem_append.mp ha with ha | ha
      · exact hg a ha
      · exact hg1 a ha) (by rw [List.length_append]; omega) (b3.mono (by omega)) (by omega)
    refine ⟨as', h', o7', o8', o9', hg', b'.mono (by omega), ?_⟩
    rw [List.map_append] at ih
    rw [rngD_succ]
    generalize as.map encA ++ as1.map encA = zs at t ih
    generalize as.map encA = xs at t
    simp [forD, kT, t, ih]
theorem row_R (F : List D → Option (List D × (Eta → Prop))) (u d r f x6 : Int) (rs xs ys : List D) (h h1 h2 : HD) (o7 o8 o9 : Option D) (t6 : ∀ eta, callD 1 F_law_take [.ref 0, .int 6] (h :: eta) = .ok (.int x6) (h1 :: eta)) (rg : F [.int x6] = some (rs, fun _ => True)) (hc : Gh.cutD xs none (some 30) = ys)
    (hf : forD (.nm 7) (bW F) (fun _ => True) rs [some (.ref 0), some (.tup [.int u, .int d, .int r, .int f]), some (.int u), some (.int d), some (.int r), some (.int f), some (.lst []), none, none, none, none] [h1] = .nx [some (.ref 0), some (.tup [.int u, .int d, .int r, .int f]), some (.int u), some (.int d), some (.int r), some (.int f), some (.lst xs), o7, o8, o9, none] [h2]) :
    cSeq (cAsg (.tup [(.nm 2), (.nm 3), (.nm 4), (.nm 5)]) (cVar 1)) (cSeq (cSet 6 (cLst (cNil))) (cSeq (cFor (.nm 7) (cRg F (cCons (cFn 1 F_law_take 2 0 (fun ds _ => ds) (cCons (cVar 0) (cCons (cC (.int 6)) (cNil))) (cNil)) (cNil))) (bW F)) (cRet (cSl (cVar 6) (cNo) (cSo (cC (.int 30))))))) [some (.ref 0), some (.tup [.int u, .int d, .int r, .int f]), none, none, none, none, none, none, none, none, none] [h] = .ret (.lst ys) [h2] := by
  have q0 : 0 ≤ lineB := by decide
  simp [kT, kTs, q0, t6, rg, hf, seqL, hc]
theorem row_split : c_law_row = cSeq (cAsg (.tup [(.nm 2), (.nm 3), (.nm 4), (.nm 5)]) (cVar 1)) (cSeq (cSet 6 (cLst (cNil))) (cSeq (cFor (.nm 7) (cRg rg1 (cCons (cFn 1 F_law_take 2 0 (fun ds _ => ds) (cCons (cVar 0) (cCons (cC (.int 6)) (cNil))) (cNil)) (cNil))) (bW rg1)) (cRet (cSl (cVar 6) (cNo) (cSo (cC (.int 30))))))) := rfl
theorem sp_row {C : Nat} {h : HD} (b : Bx C h) (hC : C ≤ 700000) (u d r f : Int) (hu : u.natAbs ≤ 100000000000) (hd : d.natAbs ≤ 200000000000) (hr : 1 ≤ r) (hr9 : r ≤ 9) (hf : 1 ≤ f) (hf9 : f ≤ 9) : ∃ (as : List (Option (Int × Int))) (h' : HD), (∀ a ∈ as, good a) ∧ as.length ≤ 30 ∧ Bx (C + 200) h' ∧ ∀ eta, callD 1 F_law_row [.ref 0, .tup [.int u, .int d, .int r, .int f]] (h :: eta) = .ok (.lst (as.map encA)) (h' :: eta) := by
  obtain ⟨x6, h1, l6, g6, b1, t6⟩ := take_call b (by omega) (many := 6) (by omega) (by omega)
  obtain ⟨as, h2, o7, o8, o9, hg, b2, e⟩ := loop_W u d r f hu hd hr hr9 hf hf9 (.tup [.int u, .int d, .int r, .int f]) x6.toNat 0 [] (C + 1) h1 none none none (fun a h => by simp at h) (by simp; omega) b1 (by omega)
  refine ⟨as.take 30, h2, fun a ha => hg a (List.mem_of_mem_take ha), by rw [List.length_take]; omega, b2.mono (by omega), fun eta => ?_⟩
  have hc : Gh.cutD (as.map encA) none (some 30) = (as.take 30).map encA := by
    rw [show (30 : Int) = ((30 : Nat) : Int) from rfl, cut_take, List.map_take]
  have e2 := row_R rg1 u d r f x6 _ _ _ h h1 h2 o7 o8 o9 t6 (rg1_small (by omega) (by omega)) hc e
  have e3 : R_law_row [.ref 0, .tup [.int u, .int d, .int r, .int f]] [h] = .ok (.lst ((as.take 30).map encA)) [h2] := by
    unfold R_law_row bodyF
    rw [show startD 11 [.ref 0, .tup [.int u, .int d, .int r, .int f]] = [some (.ref 0), some (.tup [.int u, .int d, .int r, .int f]), none, none, none, none, none, none, none, none, none] from rfl, row_split, e2, endF_ret]
  have eF : F_law_row [.ref 0, .tup [.int u, .int d, .int r, .int f]] [h] = .ok (.lst ((as.take 30).map encA)) [h2] := by
    generalize (as.take 30).map encA = ys at e3 ⊢
    simp [F_law_row, fz, e3]
  rw [call1 (by simp) (b.pure _), eF, backO1_ok]
end K75
namespace K75
open PySem PySem.Spec PyProof.Rows L2 Gh
section
variable {u d r f : Int} {X XT O S Zt : D} {zs hb lb : List D} {w1 w2 n : Int} {h h2 : HD} {t1 t2 t3 t4 t5 : Str} {b1 b2 : Bool}
noncomputable def rr1 : CS := cAsg (.tup [(.nm 4), (.nm 5), (.nm 6), (.nm 7)]) (cVar 2)
noncomputable def rr2 : CS := cPar 8 9 (cCons (cFn 0 F_law_moves 2 0 (fun ds _ => ds) (cCons (cVar 2) (cCons (cVar 3) (cNil))) (cNil)) (cCons (cCall bList (cCons (cVar 3) (cNil))) (cNil)))
noncomputable def rr3 : CS := cSet 10 (cMeth 0 "moves" 0 F_Alarm_moves 1 0 (fun ds _ => ds) (cVar 1) (cCons (cVar 9) (cNil)) (cNil))
noncomputable def rr4 : CS := cIfS (cOr (cBl (cOp fNe (cCall bRepr (cCons (cVar 10) (cNil))) (cCall bRepr (cCons (cVar 8) (cNil))))) (cOr (cBl (cOp fNe (cCall bRepr (cCons (cMeth 0 "moves" 0 F_Alarm_moves 0 1 (fun ds es => pickP [(0, 0), (1, 0)] ds [] es) (cVar 1) (cNil) (cCons (cCall bTuple (cCons (cVar 9) (cNil))) (cNil))) (cNil))) (cCall bRepr (cCons (cVar 8) (cNil))))) (cBl (cOp fNe (cVar 9) (cVar 3))))) (cRet (cC (.bl false))) (cSkip)
noncomputable def rr5 : CS := cIfS (cBl (cOp fNe (cCall bRepr (cCons (cFn 1 F_law_put_together 4 0 (fun ds _ => ds) (cCons (cVar 0) (cCons (cVar 1) (cCons (cVar 3) (cCons (cVar 2) (cNil))))) (cNil)) (cNil))) (cCall bRepr (cCons (cVar 8) (cNil))))) (cRet (cC (.bl false))) (cSkip)
noncomputable def rr6 : CS := cSet 11 (cMeth 0 "moves" 0 F_Alarm_moves 1 0 (fun ds _ => ds) (cVar 1) (cCons (cLst (cNil)) (cNil)) (cNil))
noncomputable def rr7 : CS := cIfS (cOr (cBl (cOp fNe (cCall bRepr (cCons (cVar 11) (cNil))) (cCall bRepr (cCons (cRgL true (cOp fPlus (cVar 6) (cVar 7))) (cNil))))) (cBl (cOp fNe (cCall bRepr (cCons (cLst (cCons (cFn 0 F_then 2 0 (fun ds _ => ds) (cCons (cVar 11) (cCons (cVar 8) (cNil))) (cNil)) (cCons (cFn 0 F_then 2 0 (fun ds _ => ds) (cCons (cVar 8) (cCons (cVar 11) (cNil))) (cNil)) (cNil)))) (cNil))) (cCall bRepr (cCons (cLst (cCons (cVar 8) (cCons (cVar 8) (cNil)))) (cNil)))))) (cRet (cC (.bl false))) (cSkip)
noncomputable def rr8 : CS := cSet 12 (cCall bSortSet (cCons (cVar 8) (cNil)))
noncomputable def dueV : CE := cIf (cBl (cOp fEq (cCall bLen (cCons (cVar 12) (cNil))) (cC (.int 1)))) (cOp fIx (cVar 12) (cC (.int 0))) (cC .non)
noncomputable def rr9 : CS := cIfS (cOr (cBl (cOp fNe (cCall bRepr (cCons (cFn 0 F_possible 1 0 (fun ds _ => ds) (cCons (cVar 10) (cNil)) (cNil)) (cNil))) (cCall bRepr (cCons (cVar 12) (cNil))))) (cBl (cOp fNe (cCall bRepr (cCons (cFn 0 F_settled 1 0 (fun ds _ => ds) (cCons (cVar 10) (cNil)) (cNil)) (cNil))) (cCall bRepr (cCons (dueV) (cNil)))))) (cRet (cC (.bl false))) (cSkip)
noncomputable def rrA : CS := cSet 13 (cFn 0 F_law_runs_in 1 0 (fun ds _ => ds) (cCons (cLc [15] (.nm 15) (cIt (cVar 3)) (cYes) (cFn 0 F_law_is_high 2 0 (fun ds _ => ds) (cCons (cVar 15) (cCons (cVar 4) (cNil))) (cNil))) (cNil)) (cNil))
noncomputable def rrB : CS := cSet 14 (cFn 0 F_law_runs_in 1 0 (fun ds _ => ds) (cCons (cLc [15] (.nm 15) (cIt (cVar 3)) (cYes) (cFn 0 F_law_is_low 2 0 (fun ds _ => ds) (cCons (cVar 15) (cCons (cVar 5) (cNil))) (cNil))) (cNil)) (cNil))
noncomputable def rrC : CS := cRet (cOp fEq (cOp fNotN (cFn 0 F_settled 1 0 (fun ds _ => ds) (cCons (cVar 10) (cNil)) (cNil)) (cC .non)) (cOrV (cOp fGe (cVar 13) (cVar 6)) (cOp fGe (cVar 14) (cVar 7))))
theorem rr_split : c_law_row_right = cSeq rr1 (cSeq rr2 (cSeq rr3 (cSeq rr4 (cSeq rr5 (cSeq rr6 (cSeq rr7 (cSeq rr8 (cSeq rr9 (cSeq rrA (cSeq rrB rrC)))))))))) := rfl
theorem rr1_run : rr1 [some (.ref 0), some (A u d r f), some (.tup [.int u, .int d, .int r, .int f]), some X, none, none, none, none, none, none, none, none, none, none, none, none] [h] = .nx [some (.ref 0), some (A u d r f), some (.tup [.int u, .int d, .int r, .int f]), some X, some (.int u), some (.int d), some (.int r), some (.int f), none, none, none, none, none, none, none, none] [h] := by
  unfold rr1
  simp [kT, kTs]
theorem rr2_run (pX : ∀ s, subD s X = some X) (e : F_law_moves [.tup [.int u, .int d, .int r, .int f], X] [] = .ok O []) (eL : ∀ eta, bList [X] eta = some X) : rr2 [some (.ref 0), some (A u d r f), some (.tup [.int u, .int d, .int r, .int f]), some X, some (.int u), some (.int d), some (.int r), some (.int f), none, none, none, none, none, none, none, none] [h] = .nx [some (.ref 0), some (A u d r f), some (.tup [.int u, .int d, .int r, .int f]), some X, some (.int u), some (.int d), some (.int r), some (.int f), some O, some X, none, none, none, none, none, none] [h] := by
  unfold rr2
  simp [call0, pX, e, eL]
theorem rr3_run (pX : ∀ s, subD s X = some X) (e : F_Alarm_moves [A u d r f, X] [] = .ok O []) : rr3 [some (.ref 0), some (A u d r f), some (.tup [.int u, .int d, .int r, .int f]), some X, some (.int u), some (.int d), some (.int r), some (.int f), some O, some X, none, none, none, none, none, none] [h] = .nx [some (.ref 0), some (A u d r f), some (.tup [.int u, .int d, .int r, .int f]), some X, some (.int u), some (.int d), some (.int r), some (.int f), some O, some X, some O, none, none, none, none, none] [h] := by
  unfold rr3
  simp [call0, pX, List.lookup, e]
theorem pk_c {a b : D} : pickP [(0, 0), (1, 0)] [a] [] [b] = [a, b] := rfl
theorem rr4_run (pT : ∀ s, subD s XT = some XT) (rO : ∀ eta, bRepr [O] eta = some (.str t1)) (eT : ∀ eta, bTuple [X] eta = some XT) (e : F_Alarm_moves [A u d r f, XT] [] = .ok O []) (nX : ∀ eta, fNe X X eta = some (.bl false)) : rr4 [some (.ref 0), some (A u d r f), some (.tup [.int u, .int d, .int r, .int f]), some X, some (.int u), some (.int d), some (.int r), some (.int f), some O, some X, some O, none, none, none, none, none] [h] = .nx [some (.ref 0), some (A u d r f), some (.tup [.int u, .int d, .int r, .int f]), some X, some (.int u), some (.int d), some (.int r), some (.int f), some O, some X, some O, none, none, none, none, none] [h] := by
  unfold rr4
  simp [rO, eT, call0, pT, List.lookup, pk_c, e, nX]
theorem rr5_run (rO : ∀ eta, bRepr [O] eta = some (.str t1)) (e : callD 1 F_law_put_together [.ref 0, A u d r f, X, .tup [.int u, .int d, .int r, .int f]] [h] = .ok O [h2]) : rr5 [some (.ref 0), some (A u d r f), some (.tup [.int u, .int d, .int r, .int f]), some X, some (.int u), some (.int d), some (.int r), some (.int f), some O, some X, some O, none, none, none, none, none] [h] = .nx [some (.ref 0), some (A u d r f), some (.tup [.int u, .int d, .int r, .int f]), some X, some (.int u), some (.int d), some (.int r), some (.int f), some O, some X, some O, none, none, none, none, none] [h2] := by
  unfold rr5
  simp [e, rO]
theorem rr6_run (e : F_Alarm_moves [A u d r f, .lst []] [] = .ok S []) : rr6 [some (.ref 0), some (A u d r f), some (.tup [.int u, .int d, .int r, .int f]), some X, some (.int u), some (.int d), some (.int r), some (.int f), some O, some X, some O, none, none, none, none, none] [h] = .nx [some (.ref 0), some (A u d r f), some (.tup [.int u, .int d, .int r, .int f]), some X, some (.int u), some (.int d), some (.int r), some (.int f), some O, some X, some O, some S, none, none, none, none] [h] := by
  have q0 : 0 ≤ lineB := by decide
  unfold rr6
  simp [call0, List.lookup, q0, e]
theorem rr7_run (pX : ∀ s, subD s X = some X) (pO : ∀ s, subD s O = some O) (pS : ∀ s, subD s S = some S) (hn : r + f = n) (h0 : 0 ≤ n) (h1 : n ≤ 100000) (eS : .tup (rngD 0 n.toNat) = S) (rS : ∀ eta, bRepr [S] eta = some (.str t2)) (e1 : F_then [S, O] [] = .ok O []) (e2 : F_then [O, S] [] = .ok O []) (rOO : ∀ eta, bRepr [.lst [O, O]] eta = some (.str t3)) : rr7 [some (.ref 0), some (A u d r f), some (.tup [.int u, .int d, .int r, .int f]), some X, some (.int u), some (.int d), some (.int r), some (.int f), some O, some X, some O, some S, none, none, none, none] [h] = .nx [some (.ref 0), some (A u d r f), some (.tup [.int u, .int d, .int r, .int f]), some X, some (.int u), some (.int d), some (.int r), some (.int f), some O, some X, some O, some S, none, none, none, none] [h] := by
  have q2 : 2 ≤ lineB := by decide
  unfold rr7
  simp [hn, h0, h1, eS, rS, call0, pO, pS, e1, e2, q2, rOO]
theorem rr8_run (e : ∀ eta, bSortSet [O] eta = some (.lst zs)) : rr8 [some (.ref 0), some (A u d r f), some (.tup [.int u, .int d, .int r, .int f]), some X, some (.int u), some (.int d), some (.int r), some (.int f), some O, some X, some O, some S, none, none, none, none] [h] = .nx [some (.ref 0), some (A u d r f), some (.tup [.int u, .int d, .int r, .int f]), some X, some (.int u), some (.int d), some (.int r), some (.int f), some O, some X, some O, some S, some (.lst zs), none, none, none] [h] := by
  unfold rr8
  simp [e]
theorem dueV_run (hn : ∀ eta, bLen [.lst zs] eta = some (.int n)) (hz : (n = 1 ∧ atI zs 0 = some Zt) ∨ (n ≠ 1 ∧ Zt = .non)) : dueV [some (.ref 0), some (A u d r f), some (.tup [.int u, .int d, .int r, .int f]), some X, some (.int u), some (.int d), some (.int r), some (.int f), some O, some X, some O, some S, some (.lst zs), none, none, none] [h] = .ok Zt [h] := by
  unfold dueV
  rcases hz with ⟨h1, h2⟩ | ⟨h1, rfl⟩
  · simp [-len_lst, hn, h1, h2]
  · simp [-len_lst, hn, h1]
theorem rr9_run (pO : ∀ s, subD s O = some O) (eP : F_possible [O] [] = .ok (.lst zs) []) (eS : F_settled [O] [] = .ok Zt []) (rz : ∀ eta, bRepr [.lst zs] eta = some (.str t4)) (rZ : ∀ eta, bRepr [Zt] eta = some (.str t5)) (eD : dueV [some (.ref 0), some (A u d r f), some (.tup [.int u, .int d, .int r, .int f]), some X, some (.int u), some (.int d), some (.int r), some (.int f), some O, some X, some O, some S, some (.lst zs), none, none, none] [h] = .ok Zt [h]) : rr9 [some (.ref 0), some (A u d r f), some (.tup [.int u, .int d, .int r, .int f]), some X, some (.int u), some (.int d), some (.int r), some (.int f), some O, some X, some O, some S, some (.lst zs), none, none, none] [h] = .nx [some (.ref 0), some (A u d r f), some (.tup [.int u, .int d, .int r, .int f]), some X, some (.int u), some (.int d), some (.int r), some (.int f), some O, some X, some O, some S, some (.lst zs), none, none, none] [h] := by
  unfold rr9
  simp [call0, pO, eP, eS, rz, rZ, eD]
theorem rrA_run {xs : List D} (hs : ∀ eta, cSeqI X eta = some (xs, fun _ => True)) (hl : xs.length ≤ lineB) (hp : ∀ s, subDs s hb = some hb) (hg : goL (.nm 15) cYes (cFn 0 F_law_is_high 2 0 (fun ds _ => ds) (cCons (cVar 15) (cCons (cVar 4) (cNil))) (cNil)) (fun _ => True) [some (.ref 0), some (A u d r f), some (.tup [.int u, .int d, .int r, .int f]), some X, some (.int u), some (.int d), some (.int r), some (.int f), some O, some X, some O, some S, some (.lst zs), none, none, none] xs [] [h] = .ok hb [h]) (e : F_law_runs_in [.lst hb] [] = .ok (.int w1) []) : rrA [some (.ref 0), some (A u d r f), some (.tup [.int u, .int d, .int r, .int f]), some X, some (.int u), some (.int d), some (.int r), some (.int f), some O, some X, some O, some S, some (.lst zs), none, none, none] [h] = .nx [some (.ref 0), some (A u d r f), some (.tup [.int u, .int d, .int r, .int f]), some X, some (.int u), some (.int d), some (.int r), some (.int f), some O, some X, some O, some S, some (.lst zs), some (.int w1), none, none] [h] := by
  unfold rrA
  simp [hs, hl, wipeR, hg, call0, hp, e]
theorem rrB_run {xs : List D} (hs : ∀ eta, cSeqI X eta = some (xs, fun _ => True)) (hl : xs.length ≤ lineB) (hp : ∀ s, subDs s lb = some lb) (hg : goL (.nm 15) cYes (cFn 0 F_law_is_low 2 0 (fun ds _ => ds) (cCons (cVar 15) (cCons (cVar 5) (cNil))) (cNil)) (fun _ => True) [some (.ref 0), some (A u d r f), some (.tup [.int u, .int d, .int r, .int f]), some X, some (.int u), some (.int d), some (.int r), some (.int f), some O, some X, some O, some S, some (.lst zs), some (.int w1), none, none] xs [] [h] = .ok lb [h]) (e : F_law_runs_in [.lst lb] [] = .ok (.int w2) []) : rrB [some (.ref 0), some (A u d r f), some (.tup [.int u, .int d, .int r, .int f]), some X, some (.int u), some (.int d), some (.int r), some (.int f), some O, some X, some O, some S, some (.lst zs), some (.int w1), none, none] [h] = .nx [some (.ref 0), some (A u d r f), some (.tup [.int u, .int d, .int r, .int f]), some X, some (.int u), some (.int d), some (.int r), some (.int f), some O, some X, some O, some S, some (.lst zs), some (.int w1), some (.int w2), none] [h] := by
  unfold rrB
  simp [hs, hl, wipeR, hg, call0, hp, e]
theorem rrC_run (pO : ∀ s, subD s O = some O) (eS : F_settled [O] [] = .ok Zt []) (hb : (!isNonD Zt) = (decide (r ≤ w1) || decide (f ≤ w2))) : rrC [some (.ref 0), some (A u d r f), some (.tup [.int u, .int d, .int r, .int f]), some X, some (.int u), some (.int d), some (.int r), some (.int f), some O, some X, some O, some S, some (.lst zs), some (.int w1), some (.int w2), none] [h] = .ret (.bl true) [h] := by
  unfold rrC
  have q : ∀ (a b : Bool) (eta : Eta), fEq (.bl a) (.bl b) eta = some (.bl (decide (a = b))) := fun _ _ _ => rfl
  cases c1 : decide (r ≤ w1) with
  | true =>
    rw [c1] at hb
    simp only [Bool.true_or] at hb
    simp only [decide_eq_true_eq] at c1
    simp [call0, pO, eS, hb, c1, q]
  | false =>
    rw [c1] at hb
    simp only [Bool.false_or] at hb
    simp only [decide_eq_false_iff_not] at c1
    simp [call0, pO, eS, hb, c1, q]
theorem rr_all (e1 : rr1 [some (.ref 0), some (A u d r f), some (.tup [.int u, .int d, .int r, .int f]), some X, none, none, none, none, none, none, none, none, none, none, none, none] [h] = .nx [some (.ref 0), some (A u d r f), some (.tup [.int u, .int d, .int r, .int f]), some X, some (.int u), some (.int d), some (.int r), some (.int f), none, none, none, none, none, none, none, none] [h]) (e2 : rr2 [some (.ref 0), some (A u d r f), some (.tup [.int u, .int d, .int r, .int f]), some X, some (.int u), some (.int d), some (.int r), some (.int f), none, none, none, none, none, none, none, none] [h] = .nx [some (.ref 0), some (A u d r f), some (.tup [.int u, .int d, .int r, .int f]), some X, some (.int u), some (.int d), some (.int r), some (.int f), some O, some X, none, none, none, none, none, none] [h]) (e3 : rr3 [some (.ref 0), some (A u d r f), some (.tup [.int u, .int d, .int r, .int f]), some X, some (.int u), some (.int d), some (.int r), some (.int f), some O, some X, none, none, none, none, none, none] [h] = .nx [some (.ref 0), some (A u d r f), some (.tup [.int u, .int d, .int r, .int f]), some X, some (.int u), some (.int d), some (.int r), some (.int f), some O, some X, some O, none, none, none, none, none] [h]) (e4 : rr4 [some (.ref 0), some (A u d r f), some (.tup [.int u, .int d, .int r, .int f]), some X, some (.int u), some (.int d), some (.int r), some (.int f), some O, some X, some O, none, none, none, none, none] [h] = .nx [some (.ref 0), some (A u d r f), some (.tup [.int u, .int d, .int r, .int f]), some X, some (.int u), some (.int d), some (.int r), some (.int f), some O, some X, some O, none, none, none, none, none] [h]) (e5 : rr5 [some (.ref 0), some (A u d r f), some (.tup [.int u, .int d, .int r, .int f]), some X, some (.int u), some (.int d), some (.int r), some (.int f), some O, some X, some O, none, none, none, none, none] [h] = .nx [some (.ref 0), some (A u d r f), some (.tup [.int u, .int d, .int r, .int f]), some X, some (.int u), some (.int d), some (.int r), some (.int f), some O, some X, some O, none, none, none, none, none] [h2]) (e6 : rr6 [some (.ref 0), some (A u d r f), some (.tup [.int u, .int d, .int r, .int f]), some X, some (.int u), some (.int d), some (.int r), some (.int f), some O, some X, some O, none, none, none, none, none] [h2] = .nx [some (.ref 0), some (A u d r f), some (.tup [.int u, .int d, .int r, .int f]), some X, some (.int u), some (.int d), some (.int r), some (.int f), some O, some X, some O, some S, none, none, none, none] [h2]) (e7 : rr7 [some (.ref 0), some (A u d r f), some (.tup [.int u, .int d, .int r, .int f]), some X, some (.int u), some (.int d), some (.int r), some (.int f), some O, some X, some O, some S, none, none, none, none] [h2] = .nx [some (.ref 0), some (A u d r f), some (.tup [.int u, .int d, .int r, .int f]), some X, some (.int u), some (.int d), some (.int r), some (.int f), some O, some X, some O, some S, none, none, none, none] [h2]) (e8 : rr8 [some (.ref 0), some (A u d r f), some (.tup [.int u, .int d, .int r, .int f]), some X, some (.int u), some (.int d), some (.int r), some (.int f), some O, some X, some O, some S, none, none, none, none] [h2] = .nx [some (.ref 0), some (A u d r f), some (.tup [.int u, .int d, .int r, .int f]), some X, some (.int u), some (.int d), some (.int r), some (.int f), some O, some X, some O, some S, some (.lst zs), none, none, none] [h2]) (e9 : rr9 [some (.ref 0), some (A u d r f), some (.tup [.int u, .int d, .int r, .int f]), some X, some (.int u), some (.int d), some (.int r), some (.int f), some O, some X, some O, some S, some (.lst zs), none, none, none] [h2] = .nx [some (.ref 0), some (A u d r f), some (.tup [.int u, .int d, .int r, .int f]), some X, some (.int u), some (.int d), some (.int r), some (.int f), some O, some X, some O, some S, some (.lst zs), none, none, none] [h2]) (eA : rrA [some (.ref 0), some (A u d r f), some (.tup [.int u, .int d, .int r, .int f]), some X, some (.int u), some (.int d), some (.int r), some (.int f), some O, some X, some O, some S, some (.lst zs), none, none, none] [h2] = .nx [some (.ref 0), some (A u d r f), some (.tup [.int u, .int d, .int r, .int f]), some X, some (.int u), some (.int d), some (.int r), some (.int f), some O, some X, some O, some S, some (.lst zs), some (.int w1), none, none] [h2]) (eB : rrB [some (.ref 0), some (A u d r f), some (.tup [.int u, .int d, .int r, .int f]), some X, some (.int u), some (.int d), some (.int r), some (.int f), some O, some X, some O, some S, some (.lst zs), some (.int w1), none, none] [h2] = .nx [some (.ref 0), some (A u d r f), some (.tup [.int u, .int d, .int r, .int f]), some X, some (.int u), some (.int d), some (.int r), some (.int f), some O, some X, some O, some S, some (.lst zs), some (.int w1), some (.int w2), none] [h2]) (eC : rrC [some (.ref 0), some (A u d r f), some (.tup [.int u, .int d, .int r, .int f]), some X, some (.int u), some (.int d), some (.int r), some (.int f), some O, some X, some O, some S, some (.lst zs), some (.int w1), some (.int w2), none] [h2] = .ret (.bl true) [h2]) : R_law_row_right [.ref 0, A u d r f, .tup [.int u, .int d, .int r, .int f], X] [h] = .ok (.bl true) [h2] := by
  unfold R_law_row_right bodyF
  rw [show startD 16 [.ref 0, A u d r f, .tup [.int u, .int d, .int r, .int f], X] = [some (.ref 0), some (A u d r f), some (.tup [.int u, .int d, .int r, .int f]), some X, none, none, none, none, none, none, none, none, none, none, none, none] from rfl, rr_split, seq_nx e1, seq_nx e2, seq_nx e3, seq_nx e4, seq_nx e5, seq_nx e6, seq_nx e7, seq_nx e8, seq_nx e9, seq_nx eA, seq_nx eB, eC, endF_ret]
end
end K75
namespace K75
open PySem PySem.Spec PyProof.Rows L2 Gh
theorem Ats_ints {k : Nat} : ∀ ns : List Int, (∀ n ∈ ns, n.natAbs ≤ 1000000000000000) → Ats k (2000 * ns.length) (ns.map .int)
  | [], _ => Ats.nil
  | n :: r, h => by
    have h1 : At k 2000 (.int n) := At.int (h n (by simp))
    have h2 := Ats_ints (k := k) r fun m hm => h m (List.mem_cons_of_mem _ hm)
    have h3 := Ats.cons h1 h2
    have e : 2000 + 2000 * r.length = 2000 * (n :: r).length := by rw [List.length_cons]; omega
    rw [e] at h3
    exact h3
theorem uins_len (x : Int) : ∀ l : List Int, (uins x l).length ≤ l.length + 1
  | [] => by simp [uins]
  | y :: r => by
    unfold uins
    have := uins_len x r
    split
    · simp
    · split
      · simp
      · simp only [List.length_cons]; omega
theorem usort_len : ∀ l : List Int, (usort l).length ≤ l.length
  | [] => Nat.le_refl _
  | x :: r => by
    have h1 := uins_len x (usort r)
    have h2 := usort_len r
    rw [usort, List.length_cons]
    omega
theorem go_bls (ce : CE) (rho0 : Rho) (q : Option (Int × Int) → Bool) (i : Nat) (h : HD) (hce : ∀ a : Option (Int × Int), ce (rho0.set i (some (encA a))) [h] = .ok (.bl (q a)) [h]) : ∀ (as : List (Option (Int × Int))) (acc : List D), goL (.nm i) cYes ce (fun _ => True) rho0 (as.map encA) acc [h] = .ok (acc ++ (as.map q).map .bl) [h]
  | [], acc => by simp [goL]
  | a :: as, acc => by
    have ih := go_bls ce rho0 q i h hce as (acc ++ [.bl (q a)])
    have e := hce a
    simp [goL, kT, e, ih]
section
variable {u d r f : Int}
theorem sp_row_right {C : Nat} {h : HD} (b : Bx C h) (hC : C ≤ 600000) (hu' : u.natAbs ≤ 100000000000) (hd' : d.natAbs ≤ 200000000000) (hdu : d ≤ u) (hr1 : 1 ≤ r) (hr9 : r ≤ 9) (hf : 1 ≤ f) (hf9 : f ≤ 9) (as : List (Option (Int × Int))) (hg : ∀ a ∈ as, good a) (hl : as.length ≤ 30) :
    ∃ h', Bx (C + 120) h' ∧ ∀ eta, callD 1 F_law_row_right [.ref 0, A u d r f, .tup [.int u, .int d, .int r, .int f], .lst (as.map encA)] (h :: eta) = .ok (.bl true) (h' :: eta) := by
  have hu : sml u := by unfold sml; omega
  have hd : sml d := by unfold sml; omega
  have hlow : as.all low = true := List.all_eq_true.mpr fun a ha => (hg a ha).1
  have hL : as.length ≤ lineB := Nat.le_trans hl (by decide)
  have em := sp_law_moves as (.lst (as.map encA)) (.inl rfl) hL hu hd hr1 hr9 hf hf9
  have e1 := sp_moves as (.lst (as.map encA)) (.inl rfl) hL hlow hu hd hr1 hr9 hf hf9
  have e2 := sp_moves as (.tup (as.map encA)) (.inr rfl) hL hlow hu hd hr1 hr9 hf hf9
  have e0 := sp_moves (u := u) (d := d) (r := r) (f := f) [] (.lst []) (.inl rfl) (by decide) rfl hu hd hr1 hr9 hf hf9
  obtain ⟨h2, b2, ep⟩ := sp_put (u := u) (d := d) (r := r) (f := f) b (by omega) as (by omega) hlow hu hd hr1 hr9 hf hf9
  have mO := mvs_mv (u := u) (d := d) hr1 hf as
  have mS := mvs_mv (u := u) (d := d) hr1 hf []
  have lO := mvs_len (u := u) (d := d) (r := r) (f := f) as
  have lS := mvs_len (u := u) (d := d) (r := r) (f := f) []
  have iO := mvs_in (u := u) (d := d) hr1 hf as
  have iS := mvs_in (u := u) (d := d) hr1 hf []
  have t1 := sp_then _ _ mS mO (by rw [lO, lS]) (by rw [lS]; omega)
  have t2 := sp_then _ _ mO mS (by rw [lO, lS]) (by rw [lO]; omega)
  rw [mvs_comp hr1 hf, List.nil_append] at t1
  rw [mvs_comp hr1 hf, List.append_nil] at t2
  have aO : At 1 (2000 * (mvs u d r f as).length + 6) (.tup ((mvs u d r f as).map .int)) := At.tup (Ats_ints _ fun n hn => by have := iO n hn; omega)
  have aS : At 1 (2000 * (mvs u d r f []).length + 6) (.tup ((mvs u d r f []).map .int)) := At.tup (Ats_ints _ fun n hn => by have := iS n hn; omega)
  obtain ⟨x1, rO⟩ := aO.rp (by decide) (by rw [lO]; omega)
  obtain ⟨x2, rS⟩ := aS.rp (by decide) (by rw [lS]; omega)
  obtain ⟨x3, rOO⟩ := (At.lst (.cons aO (.cons aO .nil))).rp (by decide) (by rw [lO]; omega)
  have lu := usort_len (mvs u d r f as)
  obtain ⟨x4, rz, _⟩ := rp_ints (ns := usort (mvs u d r f as)) (fun n hn => by have := iO n ((usort_mem n _).mp hn); omega) (by rw [lO] at lu; omega)
  have eP := sp_possible _ mO (by rw [lO]; omega)
  have eS := sp_settled _ mO (by rw [lO]; omega)
  have rZ : rp (sett (mvs u d r f as)) := by
    unfold sett
    split
    · rename_i c
      obtain ⟨z, hz⟩ := List.length_eq_one_iff.mp c
      refine rp_int ?_
      have hm : z ∈ mvs u d r f as := (usort_mem z _).mp (by rw [hz]; simp)
      have := iO z hm
      rw [hz]
      simp
      omega
    · exact ⟨_, fun eta => repr_same (p := .none) (by simp [py, pyD]) (okShow_of (by simp only [okB]) (by simp [PyData.depth]) (by simp [szP]))⟩
  obtain ⟨x5, rZ⟩ := rZ
  have eB := sortSet_ints (mvs u d r f as) (by rw [lO]; omega)
  have hz : ((((usort (mvs u d r f as)).length : Nat) : Int) = 1 ∧ atI ((usort (mvs u d r f as)).map D.int) 0 = some (sett (mvs u d r f as))) ∨ ((((usort (mvs u d r f as)).length : Nat) : Int) ≠ 1 ∧ sett (mvs u d r f as) = .non) := by
    by_cases c : (usort (mvs u d r f as)).length = 1
    · refine .inl ⟨by omega, ?_⟩
      rw [at0 _ c]
      unfold sett
      rw [if_pos c]
    · refine .inr ⟨by omega, ?_⟩
      unfold sett
      rw [if_neg c]
  have hset : (!isNonD (sett (mvs u d r f as))) = (decide (r ≤ mxB 0 0 (as.map (hi u))) || decide (f ≤ mxB 0 0 (as.map (lo d)))) := by
    have k1 := settled_iff hdu hr1 hf as hlow
    rw [mx_hr hr1, mx_lo hf, decide_eq_false (show ¬ r ≤ 0 by omega), decide_eq_false (show ¬ f ≤ 0 by omega), Bool.false_or, Bool.false_or, ← k1]
    unfold sett
    by_cases c : (usort (mvs u d r f as)).length = 1
    · rw [if_pos c, decide_eq_true c]; rfl
    · rw [if_neg c, decide_eq_false c]; rfl
  have hS : D.tup (rngD 0 (r + f).toNat) = .tup ((mvs u d r f []).map .int) := by
    rw [mvs_nil, rng_ints]
  have hn : ∀ eta, bLen [.lst ((usort (mvs u d r f as)).map D.int)] eta = some (.int ((usort (mvs u d r f as)).length : Nat)) := fun eta => by simp
  have pO : ∀ s, subD s (D.tup ((mvs u d r f as).map .int)) = some (.tup ((mvs u d r f as).map .int)) := fun s => by simp
  have pS : ∀ s, subD s (D.tup ((mvs u d r f []).map .int)) = some (.tup ((mvs u d r f []).map .int)) := fun s => by simp
  have pX : ∀ s, subD s (D.lst (as.map encA)) = some (.lst (as.map encA)) := fun s => by simp
  have pT : ∀ s, subD s (D.tup (as.map encA)) = some (.tup (as.map encA)) := fun s => by simp
  have hlx : (as.map encA).length ≤ lineB := by rw [List.length_map]; exact hL
  have gh := fun (rho0 : Rho) (hce : ∀ a : Option (Int × Int), (cFn 0 F_law_is_high 2 0 (fun ds _ => ds) (cCons (cVar 15) (cCons (cVar 4) (cNil))) (cNil)) (rho0.set 15 (some (encA a))) [h2] = .ok (.bl (hi u a)) [h2]) => go_bls _ rho0 (hi u) 15 h2 hce as []
  have gl := fun (rho0 : Rho) (hce : ∀ a : Option (Int × Int), (cFn 0 F_law_is_low 2 0 (fun ds _ => ds) (cCons (cVar 15) (cCons (cVar 5) (cNil))) (cNil)) (rho0.set 15 (some (encA a))) [h2] = .ok (.bl (lo d a)) [h2]) => go_bls _ rho0 (lo d) 15 h2 hce as []
  have e := rr_all (u := u) (d := d) (r := r) (f := f) (X := .lst (as.map encA)) (O := .tup ((mvs u d r f as).map .int)) (S := .tup ((mvs u d r f []).map .int)) (zs := (usort (mvs u d r f as)).map .int) (w1 := mxB 0 0 (as.map (hi u))) (w2 := mxB 0 0 (as.map (lo d))) (h := h) (h2 := h2) rr1_run (rr2_run pX em fun _ => rfl) (rr3_run pX e1) (rr4_run (XT := .tup (as.map encA)) pT rO (fun _ => rfl) e2 (ne_encA as)) (rr5_run rO (ep [])) (rr6_run e0) (rr7_run pX pO pS rfl (by omega) (by omega) hS rS t1 t2 rOO) (rr8_run eB) (rr9_run pO eP eS rz rZ (dueV_run hn hz))
    (rrA_run (fun _ => rfl) hlx (fun s => subs_bls _) (gh _ fun a => by simp [call0, sp_is_high a u hu]) (sp_runs_in _)) (rrB_run (fun _ => rfl) hlx (fun s => subs_bls _) (gl _ fun a => by simp [call0, sp_is_low a d hd]) (sp_runs_in _)) (rrC_run pO eS hset)
  refine ⟨h2, b2, fun eta => ?_⟩
  have eF : F_law_row_right [.ref 0, A u d r f, .tup [.int u, .int d, .int r, .int f], .lst (as.map encA)] [h] = .ok (.bl true) [h2] := by
    generalize as.map encA = xs at e ⊢
    simp [F_law_row_right, fz, e]
  rw [call1 (by simp) (b.pure _), eF, backO1_ok]
end
end K75
namespace K75
open PySem PySem.Spec PyProof.Rows L2 Gh
/-! ### refusals -/
theorem refused_R (x y : D) (px : ∀ s, subD s x = some x) (py : ∀ s, subD s y = some y) (t : Str) (ht : ∀ eta, bRepr [.tup [x, y]] eta = some (.str t)) (e : F_then [x, y] [] = .exc 4 [("given", .tup [x, y])] []) : F_law_refused [x, y] [] = .ok (.bl true) [] := by
  have q2 : 2 ≤ lineB := by decide
  simp [F_law_refused, fz, R_law_refused, bodyF, startD, c_law_refused, endF_nx, endF_ret, endF_exc, call0, px, py, e, handle, mt_InvalidMoves, List.lookup, noExc, wipeO, q2, ht]
theorem not_R (x : D) (px : ∀ s, subD s x = some x) (t : Str) (ht : ∀ eta, bRepr [x] eta = some (.str t)) (e1 : F_possible [x] [] = .exc 4 [("given", x)] []) (e2 : F_settled [x] [] = .exc 4 [("given", x)] []) : F_law_not_moves [x] [] = .ok (.bl true) [] := by
  simp [F_law_not_moves, fz, R_law_not_moves, bodyF, startD, c_law_not_moves, endF_nx, endF_ret, endF_exc, call0, px, e1, e2, handle, mt_InvalidMoves, List.lookup, noExc, wipeO, ht]
theorem are_R2 (x y z : D) (px : ∀ s, subD s x = some x) (e1 : F_possible [x] [] = .ok y []) (e2 : F_settled [x] [] = .ok z []) : F_law_not_moves [x] [] = .ok (.bl false) [] := by
  simp [F_law_not_moves, fz, R_law_not_moves, bodyF, startD, c_law_not_moves, endF_nx, endF_ret, endF_exc, call0, px, e1, e2]
/-- what is no moves, met by all -/
structure Bad (O x : D) : Prop where
  p : ∀ s, subD s x = some x
  n : F_law_not_moves [x] [] = .ok (.bl true) []
  a : F_law_refused [x, O] [] = .ok (.bl true) []
  b : F_law_refused [O, x] [] = .ok (.bl true) []
theorem bad_of {O x : D} (fO : Fin1 O) (fx : Fin1 x) (hx : areMv x = false) {k n m : Nat} (aO : At k n O) (ax : At k m x) (hk : k ≤ 50) (hn : n + m ≤ 1000000) : Bad O x := by
  obtain ⟨t, ht⟩ := ax.rp (by omega) (by omega)
  obtain ⟨t1, ht1⟩ := (At.tup (.cons ax (.cons aO .nil))).rp (by omega) (by omega)
  obtain ⟨t2, ht2⟩ := (At.tup (.cons aO (.cons ax .nil))).rp (by omega) (by omega)
  exact ⟨fx.p, not_R x fx.p t ht (possible_bad x fx hx) (settled_bad x fx hx), refused_R x O fx.p fO.p t1 ht1 (then_bad x O fx fO (.inl hx)), refused_R O x fO.p fx.p t2 ht2 (then_bad O x fO fx (.inr (.inl hx)))⟩
theorem Ats_pre {k m : Nat} {ds : List D} (h : Ats k m ds) : ∀ ns : List Int, (∀ n ∈ ns, n.natAbs ≤ 1000000000000000) → Ats k (2000 * ns.length + m) (ns.map .int ++ ds)
  | [], _ => by simpa using h
  | n :: r, hn => by
    have h1 : At k 2000 (.int n) := At.int (hn n (by simp))
    have h2 := Ats_pre h r fun m hm => hn m (List.mem_cons_of_mem _ hm)
    have h3 := Ats.cons h1 h2
    have e : 2000 + (2000 * r.length + m) = 2000 * (n :: r).length + m := by rw [List.length_cons]; omega
    rw [e] at h3
    exact h3
/-- one of the moves, another thing in its place -/
def put1 (a : List Int) (k : Nat) (x : D) : D := .tup ((a.take k).map .int ++ x :: (a.drop (k + 1)).map .int)
theorem put1_len (a : List Int) (k : Nat) (x : D) (hk : k < a.length) : ((a.take k).map D.int ++ x :: (a.drop (k + 1)).map .int).length = a.length := by
  simp
  omega
theorem fin_put1 (a : List Int) (k : Nat) (x : D) (hk : k < a.length) (h60 : a.length ≤ 60) (kx : kb x = true) (px : ∀ s, subD s x = some x) : Fin1 (put1 a k x) := by
  have hp : ∀ s, ∀ l : List Int, subDs s (l.map D.int ++ x :: (a.drop (k + 1)).map D.int) = some (l.map D.int ++ x :: (a.drop (k + 1)).map D.int) := fun s l => by
    generalize a.drop (k + 1) = l2
    induction l with
    | nil => simp [px]
    | cons y l ih => simp [ih]
  refine ⟨by simp [put1], fun s => by unfold put1; rw [sub_tup, hp]; rfl, fun ds e => ?_⟩
  unfold put1 at e
  cases e
  refine ⟨fun y hy => ?_, by rw [put1_len a k x hk]; exact Nat.le_trans h60 (by decide)⟩
  rcases List.mem_append.mp hy with hy | hy
  · obtain ⟨i, _, rfl⟩ := List.mem_map.mp hy; simp
  · rcases List.mem_cons.mp hy with rfl | hy
    · exact ⟨kx, px⟩
    · obtain ⟨i, _, rfl⟩ := List.mem_map.mp hy; simp
theorem are_put1 (a : List Int) (k : Nat) (x : D) (hk : k < a.length) (hx : elOk a.length x = false) : areMv (put1 a k x) = false := by
  show (!List.isEmpty ((a.take k).map D.int ++ x :: (a.drop (k + 1)).map .int) && List.all ((a.take k).map D.int ++ x :: (a.drop (k + 1)).map .int) (elOk (List.length ((a.take k).map D.int ++ x :: (a.drop (k + 1)).map .int)))) = false
  rw [put1_len a k x hk, List.all_append, List.all_cons, hx]
  simp
theorem at_put1 (a : List Int) (k : Nat) (x : D) (hk : k < a.length) (ha : ∀ n ∈ a, n.natAbs ≤ 1000000) {j m : Nat} (ax : At j m x) : At (j + 1) (2000 * a.length + m + 6) (put1 a k x) := by
  have h1 : Ats j (2000 * (a.drop (k + 1)).length) ((a.drop (k + 1)).map .int) := Ats_ints _ fun n hn => by have := ha n (List.mem_of_mem_drop hn); omega
  have h2 := Ats_pre (Ats.cons ax h1) (a.take k) fun n hn => by have := ha n (List.mem_of_mem_take hn); omega
  have h3 := At.tup h2
  obtain ⟨p, b1, b2, b3, b4⟩ := h3
  refine ⟨p, b1, b2, b3, ?_⟩
  rw [List.length_take, List.length_drop] at b4
  omega
theorem sh_small : ∀ z : Fin 18, (PyData.shown (.str (Str.ofString (toString ((z.val : Nat) : Int))))).length ≤ 98 := by decide +kernel
theorem sh_moves : (PyData.shown (.str (Str.ofString "moves"))).length ≤ 98 := by decide +kernel
theorem sh_answers' : (PyData.shown (.str (Str.ofString "answers"))).length ≤ 98 := by decide +kernel
end K75
namespace K75
open PySem PySem.Spec PyProof.Rows L2 Gh
theorem ne_nil (eta : Eta) : fNe (.lst []) (.lst []) eta = some (.bl false) := by
  have e := ne_ints_nil [] eta
  simpa using e
section
variable {N k z x : Int} {da db dc dd dl rs T1 T2 L1 L2 : List D} {h h1 h2 h3 : HD} {Z R S sz : D} {t1 t2 t3 t4 : Str} {P : D → D}
noncomputable def bh0 : CS := cSet 1 (cOp fPlus (cC (.int 1)) (cFn 1 F_law_take 2 0 (fun ds _ => ds) (cCons (cVar 0) (cCons (cC (.int 18)) (cNil))) (cNil)))
noncomputable def bh1 : CS := cAsg (.tup [(.nm 2), (.nm 3)]) (cTup (cCons (cCall bTuple (cCons (cLc [7] (.nm 7) (cRg rg1 (cCons (cVar 1) (cNil))) (cYes) (cFn 1 F_law_take 2 0 (fun ds _ => ds) (cCons (cVar 0) (cCons (cVar 1) (cNil))) (cNil))) (cNil))) (cCons (cCall bTuple (cCons (cLc [7] (.nm 7) (cRg rg1 (cCons (cVar 1) (cNil))) (cYes) (cFn 1 F_law_take 2 0 (fun ds _ => ds) (cCons (cVar 0) (cCons (cVar 1) (cNil))) (cNil))) (cNil))) (cNil))))
noncomputable def bh2 : CS := cIfS (cOr (cBl (cOp fNe (cCall bRepr (cCons (cFn 0 F_then 2 0 (fun ds _ => ds) (cCons (cVar 2) (cCons (cVar 3) (cNil))) (cNil)) (cNil))) (cCall bRepr (cCons (cCall bTuple (cCons (cLc [7] (.nm 7) (cRg rg1 (cCons (cVar 1) (cNil))) (cYes) (cOp fIx (cVar 3) (cOp fIx (cVar 2) (cVar 7)))) (cNil))) (cNil))))) (cBl (cOp fNe (cCall bRepr (cCons (cFn 0 F_then 0 2 (fun ds es => pickP [(1, 1), (1, 0)] ds [] es) (cNil) (cCons (cVar 2) (cCons (cVar 3) (cNil)))) (cNil))) (cCall bRepr (cCons (cCall bTuple (cCons (cLc [7] (.nm 7) (cRg rg1 (cCons (cVar 1) (cNil))) (cYes) (cOp fIx (cVar 2) (cOp fIx (cVar 3) (cVar 7)))) (cNil))) (cNil)))))) (cRet (cC (.bl false))) (cSkip)
noncomputable def bh3 : CS := cIfS (cOr (cBl (cOp fNe (cCall bRepr (cCons (cFn 0 F_possible 1 0 (fun ds _ => ds) (cCons (cVar 2) (cNil)) (cNil)) (cNil))) (cCall bRepr (cCons (cCall bSortSet (cCons (cVar 2) (cNil))) (cNil))))) (cBl (cOp fNe (cCall bRepr (cCons (cFn 0 F_settled 1 0 (fun ds _ => ds) (cCons (cOp fMulT (cTup (cCons (cOp fSub (cVar 1) (cC (.int 1))) (cNil))) (cVar 1)) (cNil)) (cNil)) (cNil))) (cCall bRepr (cCons (cOp fSub (cVar 1) (cC (.int 1))) (cNil)))))) (cRet (cC (.bl false))) (cSkip)
noncomputable def bh4 : CS := cIfS (cAnd (cBl (cOp fNotN (cFn 0 F_settled 1 0 (fun ds _ => ds) (cCons (cVar 2) (cNil)) (cNil)) (cC .non))) (cBl (cOp fNe (cCall bLen (cCons (cCall bSortSet (cCons (cVar 2) (cNil))) (cNil))) (cC (.int 1))))) (cRet (cC (.bl false))) (cSkip)
noncomputable def bh5 : CS := cPar 4 5 (cCons (cFn 1 F_law_take 2 0 (fun ds _ => ds) (cCons (cVar 0) (cCons (cVar 1) (cNil))) (cNil)) (cCons (cOp fPlus (cVar 2) (cTup (cCons (cC (.int 0)) (cNil)))) (cNil)))
noncomputable def bh6 : CS := cSet 6 (cLst (cCons (cOp fPlus (cOp fPlus (cSl (cVar 2) (cNo) (cSo (cVar 4))) (cTup (cCons (cVar 1) (cNil)))) (cSl (cVar 2) (cSo (cOp fPlus (cVar 4) (cC (.int 1)))) (cNo))) (cCons (cOp fPlus (cOp fPlus (cSl (cVar 2) (cNo) (cSo (cVar 4))) (cTup (cCons (cUn fNeg (cC (.int 1))) (cNil)))) (cSl (cVar 2) (cSo (cOp fPlus (cVar 4) (cC (.int 1)))) (cNo))) (cCons (cOp fPlus (cOp fPlus (cSl (cVar 2) (cNo) (cSo (cVar 4))) (cTup (cCons (cC .non) (cNil)))) (cSl (cVar 2) (cSo (cOp fPlus (cVar 4) (cC (.int 1)))) (cNo))) (cCons (cCall bList (cCons (cVar 2) (cNil))) (cNil))))))
noncomputable def bh7 : CS := cSet 6 (cOp fPlus (cVar 6) (cLst (cCons (cOp fPlus (cOp fPlus (cSl (cVar 2) (cNo) (cSo (cVar 4))) (cTup (cCons (cOp fEq (cOp fIx (cVar 2) (cVar 4)) (cC (.int 0))) (cNil)))) (cSl (cVar 2) (cSo (cOp fPlus (cVar 4) (cC (.int 1)))) (cNo))) (cCons (cTup (cNil)) (cCons (cC .non) (cCons (cC (.str "moves")) (cCons (cC (.int 3)) (cCons (cOp fPlus (cOp fPlus (cSl (cVar 2) (cNo) (cSo (cVar 4))) (cTup (cCons (cCall bStr (cCons (cOp fIx (cVar 2) (cVar 4)) (cNil))) (cNil)))) (cSl (cVar 2) (cSo (cOp fPlus (cVar 4) (cC (.int 1)))) (cNo))) (cNil)))))))))
noncomputable def bh8 : CS := cIfS (cBl (cOp fNe (cLc [8] (.nm 8) (cIt (cVar 6)) (cOr (cNot (cTru (cFn 0 F_law_not_moves 1 0 (fun ds _ => ds) (cCons (cVar 8) (cNil)) (cNil)))) (cOr (cNot (cTru (cFn 0 F_law_refused 2 0 (fun ds _ => ds) (cCons (cVar 8) (cCons (cVar 2) (cNil))) (cNil)))) (cNot (cTru (cFn 0 F_law_refused 2 0 (fun ds _ => ds) (cCons (cVar 2) (cCons (cVar 8) (cNil))) (cNil)))))) (cVar 8)) (cLst (cNil)))) (cRet (cC (.bl false))) (cSkip)
noncomputable def bh9 : CS := cRet (cAndV (cFn 0 F_law_refused 2 0 (fun ds _ => ds) (cCons (cVar 2) (cCons (cVar 5) (cNil))) (cNil)) (cAndV (cFn 0 F_law_refused 2 0 (fun ds _ => ds) (cCons (cVar 5) (cCons (cVar 2) (cNil))) (cNil)) (cNotV (cFn 0 F_law_not_moves 1 0 (fun ds _ => ds) (cCons (cVar 2) (cNil)) (cNil)))))
theorem bh_split : c_law_by_hand_right = cSeq bh0 (cSeq bh1 (cSeq bh2 (cSeq bh3 (cSeq bh4 (cSeq bh5 (cSeq bh6 (cSeq bh7 (cSeq bh8 bh9)))))))) := rfl
theorem bh0_run (tk : ∀ eta, callD 1 F_law_take [.ref 0, .int 18] (h :: eta) = .ok (.int x) (h1 :: eta)) (hN : N = 1 + x) : bh0 [some (.ref 0), none, none, none, none, none, none, none, none] [h] = .nx [some (.ref 0), some (.int N), none, none, none, none, none, none, none] [h1] := by
  subst hN
  unfold bh0
  simp [tk]
noncomputable def ceT : CE := cFn 1 F_law_take 2 0 (fun ds _ => ds) (cCons (cVar 0) (cCons (cVar 1) (cNil))) (cNil)
theorem ceT_run (N : Int) (v : D) (h : HD) : ceT ([some (.ref 0), some (.int N), none, none, none, none, none, none, none].set 7 (some v)) [h] = callD 1 F_law_take [.ref 0, .int N] [h] := by
  unfold ceT
  simp
noncomputable def bh1F (F : List D → Option (List D × (Eta → Prop))) : CS := cAsg (.tup [(.nm 2), (.nm 3)]) (cTup (cCons (cCall bTuple (cCons (cLc [7] (.nm 7) (cRg F (cCons (cVar 1) (cNil))) (cYes) (ceT)) (cNil))) (cCons (cCall bTuple (cCons (cLc [7] (.nm 7) (cRg F (cCons (cVar 1) (cNil))) (cYes) (ceT)) (cNil))) (cNil))))
theorem bh1_F (F : List D → Option (List D × (Eta → Prop))) (rg : F [.int N] = some (rs, fun _ => True)) (hl : rs.length ≤ lineB) (g1 : goL (.nm 7) cYes ceT (fun _ => True) [some (.ref 0), some (.int N), none, none, none, none, none, none, none] rs [] [h1] = .ok da [h2]) (g2 : goL (.nm 7) cYes ceT (fun _ => True) [some (.ref 0), some (.int N), none, none, none, none, none, none, none] rs [] [h2] = .ok db [h3]) : bh1F F [some (.ref 0), some (.int N), none, none, none, none, none, none, none] [h1] = .nx [some (.ref 0), some (.int N), some (.tup da), some (.tup db), none, none, none, none, none] [h3] := by
  have q2 : 2 ≤ lineB := by decide
  unfold bh1F
  simp [rg, hl, wipeR, g1, g2, bTuple, seqL, q2, kT, kTs]
theorem bh1_run (rg : rg1 [.int N] = some (rs, fun _ => True)) (hl : rs.length ≤ lineB) (g1 : goL (.nm 7) cYes ceT (fun _ => True) [some (.ref 0), some (.int N), none, none, none, none, none, none, none] rs [] [h1] = .ok da [h2]) (g2 : goL (.nm 7) cYes ceT (fun _ => True) [some (.ref 0), some (.int N), none, none, none, none, none, none, none] rs [] [h2] = .ok db [h3]) : bh1 [some (.ref 0), some (.int N), none, none, none, none, none, none, none] [h1] = .nx [some (.ref 0), some (.int N), some (.tup da), some (.tup db), none, none, none, none, none] [h3] := bh1_F rg1 rg hl g1 g2
theorem pk_d {a b : D} : pickP [(1, 1), (1, 0)] [] [] [a, b] = [b, a] := rfl
noncomputable def bh2F (F : List D → Option (List D × (Eta → Prop))) : CS := cIfS (cOr (cBl (cOp fNe (cCall bRepr (cCons (cFn 0 F_then 2 0 (fun ds _ => ds) (cCons (cVar 2) (cCons (cVar 3) (cNil))) (cNil)) (cNil))) (cCall bRepr (cCons (cCall bTuple (cCons (cLc [7] (.nm 7) (cRg F (cCons (cVar 1) (cNil))) (cYes) (cOp fIx (cVar 3) (cOp fIx (cVar 2) (cVar 7)))) (cNil))) (cNil))))) (cBl (cOp fNe (cCall bRepr (cCons (cFn 0 F_then 0 2 (fun ds es => pickP [(1, 1), (1, 0)] ds [] es) (cNil) (cCons (cVar 2) (cCons (cVar 3) (cNil)))) (cNil))) (cCall bRepr (cCons (cCall bTuple (cCons (cLc [7] (.nm 7) (cRg F (cCons (cVar 1) (cNil))) (cYes) (cOp fIx (cVar 2) (cOp fIx (cVar 3) (cVar 7)))) (cNil))) (cNil)))))) (cRet (cC (.bl false))) (cSkip)
theorem bh2_F (F : List D → Option (List D × (Eta → Prop))) (rg : F [.int N] = some (rs, fun _ => True)) (hl : rs.length ≤ lineB) (pa : ∀ s, subDs s da = some da) (pb : ∀ s, subDs s db = some db) (e1 : F_then [.tup da, .tup db] [] = .ok (.tup dc) []) (e2 : F_then [.tup db, .tup da] [] = .ok (.tup dd) []) (g1 : goL (.nm 7) cYes (cOp fIx (cVar 3) (cOp fIx (cVar 2) (cVar 7))) (fun _ => True) [some (.ref 0), some (.int N), some (.tup da), some (.tup db), none, none, none, none, none] rs [] [h] = .ok dc [h]) (g2 : goL (.nm 7) cYes (cOp fIx (cVar 2) (cOp fIx (cVar 3) (cVar 7))) (fun _ => True) [some (.ref 0), some (.int N), some (.tup da), some (.tup db), none, none, none, none, none] rs [] [h] = .ok dd [h]) (q1 : ∀ eta, bRepr [.tup dc] eta = some (.str t1)) (q2 : ∀ eta, bRepr [.tup dd] eta = some (.str t2)) : bh2F F [some (.ref 0), some (.int N), some (.tup da), some (.tup db), none, none, none, none, none] [h] = .nx [some (.ref 0), some (.int N), some (.tup da), some (.tup db), none, none, none, none, none] [h] := by
  unfold bh2F
  simp [rg, hl, wipeR, call0, pa, pb, e1, e2, g1, g2, bTuple, seqL, q1, q2, pk_d]
theorem bh2_run (rg : rg1 [.int N] = some (rs, fun _ => True)) (hl : rs.length ≤ lineB) (pa : ∀ s, subDs s da = some da) (pb : ∀ s, subDs s db = some db) (e1 : F_then [.tup da, .tup db] [] = .ok (.tup dc) []) (e2 : F_then [.tup db, .tup da] [] = .ok (.tup dd) []) (g1 : goL (.nm 7) cYes (cOp fIx (cVar 3) (cOp fIx (cVar 2) (cVar 7))) (fun _ => True) [some (.ref 0), some (.int N), some (.tup da), some (.tup db), none, none, none, none, none] rs [] [h] = .ok dc [h]) (g2 : goL (.nm 7) cYes (cOp fIx (cVar 2) (cOp fIx (cVar 3) (cVar 7))) (fun _ => True) [some (.ref 0), some (.int N), some (.tup da), some (.tup db), none, none, none, none, none] rs [] [h] = .ok dd [h]) (q1 : ∀ eta, bRepr [.tup dc] eta = some (.str t1)) (q2 : ∀ eta, bRepr [.tup dd] eta = some (.str t2)) : bh2 [some (.ref 0), some (.int N), some (.tup da), some (.tup db), none, none, none, none, none] [h] = .nx [some (.ref 0), some (.int N), some (.tup da), some (.tup db), none, none, none, none, none] [h] := bh2_F rg1 rg hl pa pb e1 e2 g1 g2 q1 q2
theorem bh3_run (pa : ∀ s, subDs s da = some da) (pR : ∀ s, subD s R = some R) (eP : F_possible [.tup da] [] = .ok Z []) (eB : ∀ eta, bSortSet [.tup da] eta = some Z) (rZ : ∀ eta, bRepr [Z] eta = some (.str t1)) (eM : ∀ eta, fMulT (.tup [.int (N - 1)]) (.int N) eta = some R) (eS : F_settled [R] [] = .ok (.int (N - 1)) []) (rN : ∀ eta, bRepr [.int (N - 1)] eta = some (.str t2)) : bh3 [some (.ref 0), some (.int N), some (.tup da), some (.tup db), none, none, none, none, none] [h] = .nx [some (.ref 0), some (.int N), some (.tup da), some (.tup db), none, none, none, none, none] [h] := by
  have q1 : 1 ≤ lineB := by decide
  unfold bh3
  simp [call0, pa, pR, eP, eB, rZ, q1, eM, eS, rN]
theorem bh4_run (pa : ∀ s, subDs s da = some da) (eS : F_settled [.tup da] [] = .ok S []) (eB : ∀ eta, bSortSet [.tup da] eta = some Z) (hS : S = .non ∨ (isNonD S = false ∧ ∀ eta, bLen [Z] eta = some (.int 1))) : bh4 [some (.ref 0), some (.int N), some (.tup da), some (.tup db), none, none, none, none, none] [h] = .nx [some (.ref 0), some (.int N), some (.tup da), some (.tup db), none, none, none, none, none] [h] := by
  unfold bh4
  rcases hS with rfl | ⟨h1, h2⟩
  · simp [call0, pa, eS]
  · simp [call0, pa, eS, h1, eB, h2]
theorem bh5_run (tk : ∀ eta, callD 1 F_law_take [.ref 0, .int N] (h :: eta) = .ok (.int k) (h1 :: eta)) (hp : ∀ eta, fPlus (.tup da) (.tup [.int 0]) eta = some (.tup dl)) : bh5 [some (.ref 0), some (.int N), some (.tup da), some (.tup db), none, none, none, none, none] [h] = .nx [some (.ref 0), some (.int N), some (.tup da), some (.tup db), some (.int k), some (.tup dl), none, none, none] [h1] := by
  have q1 : 1 ≤ lineB := by decide
  unfold bh5
  simp [tk, q1, hp]
theorem bh6_run (c1 : Gh.cutD da none (some k) = T1) (c2 : Gh.cutD da (some (k + 1)) none = T2) (p1 : ∀ x eta, fPlus (.tup T1) (.tup [x]) eta = some (.tup (T1 ++ [x]))) (p2 : ∀ x eta, fPlus (.tup (T1 ++ [x])) (.tup T2) eta = some (P x)) (hL : [P (.int N), P (.int (-1)), P .non, .lst da] = L1) : bh6 [some (.ref 0), some (.int N), some (.tup da), some (.tup db), some (.int k), some (.tup dl), none, none, none] [h] = .nx [some (.ref 0), some (.int N), some (.tup da), some (.tup db), some (.int k), some (.tup dl), some (.lst L1), none, none] [h] := by
  have q1 : 1 ≤ lineB := by decide
  have q4 : 4 ≤ lineB := by decide
  subst hL
  unfold bh6
  simp [c1, c2, q1, q4, p1, p2, bList, seqA]
theorem bh7_run (c1 : Gh.cutD da none (some k) = T1) (c2 : Gh.cutD da (some (k + 1)) none = T2) (p1 : ∀ x eta, fPlus (.tup T1) (.tup [x]) eta = some (.tup (T1 ++ [x]))) (p2 : ∀ x eta, fPlus (.tup (T1 ++ [x])) (.tup T2) eta = some (P x)) (hz : atI da k = some (.int z)) (hs : ∀ eta, bStr [.int z] eta = some sz) (hL : [P (.bl (decide (z = 0))), .tup [], .non, .str "moves", .int 3, P sz] = L2) (hp : ∀ eta, fPlus (.lst L1) (.lst L2) eta = some (.lst (L1 ++ L2))) : bh7 [some (.ref 0), some (.int N), some (.tup da), some (.tup db), some (.int k), some (.tup dl), some (.lst L1), none, none] [h] = .nx [some (.ref 0), some (.int N), some (.tup da), some (.tup db), some (.int k), some (.tup dl), some (.lst (L1 ++ L2)), none, none] [h] := by
  have q0 : 0 ≤ lineB := by decide
  have q1 : 1 ≤ lineB := by decide
  have q6 : L2.length ≤ lineB := by rw [← hL]; exact (by decide : 6 ≤ lineB)
  unfold bh7
  simp [c1, c2, q0, q1, q6, p1, p2, hz, hs, hL, hp]
theorem go_bad (hL : ∀ y ∈ L1, Bad (.tup da) y) (x0 x1 x3 x4 x5 x6 x7 x8 : Option D) (pa : ∀ s, subDs s da = some da) :
    goL (.nm 8) (cOr (cNot (cTru (cFn 0 F_law_not_moves 1 0 (fun ds _ => ds) (cCons (cVar 8) (cNil)) (cNil)))) (cOr (cNot (cTru (cFn 0 F_law_refused 2 0 (fun ds _ => ds) (cCons (cVar 8) (cCons (cVar 2) (cNil))) (cNil)))) (cNot (cTru (cFn 0 F_law_refused 2 0 (fun ds _ => ds) (cCons (cVar 2) (cCons (cVar 8) (cNil))) (cNil)))))) (cVar 8) (fun _ => True) [x0, x1, some (.tup da), x3, x4, x5, x6, x7, x8] L1 [] [h] = .ok [] [h] := by
  rw [goL_filter (p := fun _ => false) (f := id) (fun y hy => ?_) fun y hy h => nomatch h]
  · simp
  · have b := hL y hy
    simp [call0, b.p, pa, b.n, b.a, b.b]
theorem bh8_run (hl : (L1 ++ L2).length ≤ lineB) (hg : goL (.nm 8) (cOr (cNot (cTru (cFn 0 F_law_not_moves 1 0 (fun ds _ => ds) (cCons (cVar 8) (cNil)) (cNil)))) (cOr (cNot (cTru (cFn 0 F_law_refused 2 0 (fun ds _ => ds) (cCons (cVar 8) (cCons (cVar 2) (cNil))) (cNil)))) (cNot (cTru (cFn 0 F_law_refused 2 0 (fun ds _ => ds) (cCons (cVar 2) (cCons (cVar 8) (cNil))) (cNil)))))) (cVar 8) (fun _ => True) [some (.ref 0), some (.int N), some (.tup da), some (.tup db), some (.int k), some (.tup dl), some (.lst (L1 ++ L2)), none, none] (L1 ++ L2) [] [h] = .ok [] [h]) : bh8 [some (.ref 0), some (.int N), some (.tup da), some (.tup db), some (.int k), some (.tup dl), some (.lst (L1 ++ L2)), none, none] [h] = .nx [some (.ref 0), some (.int N), some (.tup da), some (.tup db), some (.int k), some (.tup dl), some (.lst (L1 ++ L2)), none, none] [h] := by
  have q0 : 0 ≤ lineB := by decide
  unfold bh8
  generalize L1 ++ L2 = L at *
  simp [cSeqI, hl, wipeR, hg, q0, ne_nil]
theorem bh9_run (pa : ∀ s, subDs s da = some da) (pl : ∀ s, subDs s dl = some dl) (e1 : F_law_refused [.tup da, .tup dl] [] = .ok (.bl true) []) (e2 : F_law_refused [.tup dl, .tup da] [] = .ok (.bl true) []) (e3 : F_law_not_moves [.tup da] [] = .ok (.bl false) []) : bh9 [some (.ref 0), some (.int N), some (.tup da), some (.tup db), some (.int k), some (.tup dl), some (.lst (L1 ++ L2)), none, none] [h] = .ret (.bl true) [h] := by
  unfold bh9
  simp [call0, pa, pl, e1, e2, e3]
theorem bh_all (h4 : HD) (e0 : bh0 [some (.ref 0), none, none, none, none, none, none, none, none] [h] = .nx [some (.ref 0), some (.int N), none, none, none, none, none, none, none] [h1]) (e1 : bh1 [some (.ref 0), some (.int N), none, none, none, none, none, none, none] [h1] = .nx [some (.ref 0), some (.int N), some (.tup da), some (.tup db), none, none, none, none, none] [h3]) (e2 : bh2 [some (.ref 0), some (.int N), some (.tup da), some (.tup db), none, none, none, none, none] [h3] = .nx [some (.ref 0), some (.int N), some (.tup da), some (.tup db), none, none, none, none, none] [h3]) (e3 : bh3 [some (.ref 0), some (.int N), some (.tup da), some (.tup db), none, none, none, none, none] [h3] = .nx [some (.ref 0), some (.int N), some (.tup da), some (.tup db), none, none, none, none, none] [h3]) (e4 : bh4 [some (.ref 0), some (.int N), some (.tup da), some (.tup db), none, none, none, none, none] [h3] = .nx [some (.ref 0), some (.int N), some (.tup da), some (.tup db), none, none, none, none, none] [h3]) (e5 : bh5 [some (.ref 0), some (.int N), some (.tup da), some (.tup db), none, none, none, none, none] [h3] = .nx [some (.ref 0), some (.int N), some (.tup da), some (.tup db), some (.int k), some (.tup dl), none, none, none] [h4]) (e6 : bh6 [some (.ref 0), some (.int N), some (.tup da), some (.tup db), some (.int k), some (.tup dl), none, none, none] [h4] = .nx [some (.ref 0), some (.int N), some (.tup da), some (.tup db), some (.int k), some (.tup dl), some (.lst L1), none, none] [h4]) (e7 : bh7 [some (.ref 0), some (.int N), some (.tup da), some (.tup db), some (.int k), some (.tup dl), some (.lst L1), none, none] [h4] = .nx [some (.ref 0), some (.int N), some (.tup da), some (.tup db), some (.int k), some (.tup dl), some (.lst (L1 ++ L2)), none, none] [h4]) (e8 : bh8 [some (.ref 0), some (.int N), some (.tup da), some (.tup db), some (.int k), some (.tup dl), some (.lst (L1 ++ L2)), none, none] [h4] = .nx [some (.ref 0), some (.int N), some (.tup da), some (.tup db), some (.int k), some (.tup dl), some (.lst (L1 ++ L2)), none, none] [h4]) (e9 : bh9 [some (.ref 0), some (.int N), some (.tup da), some (.tup db), some (.int k), some (.tup dl), some (.lst (L1 ++ L2)), none, none] [h4] = .ret (.bl true) [h4]) : R_law_by_hand_right [.ref 0] [h] = .ok (.bl true) [h4] := by
  unfold R_law_by_hand_right bodyF
  rw [show startD 9 [.ref 0] = [some (.ref 0), none, none, none, none, none, none, none, none] from rfl, bh_split, seq_nx e0, seq_nx e1, seq_nx e2, seq_nx e3, seq_nx e4, seq_nx e5, seq_nx e6, seq_nx e7, seq_nx e8, e9, endF_ret]
end
end K75
namespace K75
open PySem PySem.Spec PyProof.Rows L2 Gh
theorem go_comp (ce : CE) (rho0 : Rho) (a b : List Int) (h : HD) (hce : ∀ k x y : Int, atI (a.map D.int) k = some (.int x) → atI (b.map D.int) x = some (.int y) → ce (rho0.set 7 (some (.int k))) [h] = .ok (.int y) [h]) (hb : ∀ x ∈ a, 0 ≤ x ∧ x < b.length) : ∀ (rest pre : List Int) (k : Int) (acc : List D), a = pre ++ rest → k = pre.length → goL (.nm 7) cYes ce (fun _ => True) rho0 (rngD k rest.length) acc [h] = .ok (acc ++ (comp rest b).map .int) [h]
  | [], pre, k, acc, _, _ => by simp [goL, comp]
  | x :: rest, pre, k, acc, ha, hk => by
    have g1 : atI (a.map D.int) k = some (.int x) := by
      rw [ha, List.map_append, List.map_cons]
      exact atI_mid _ _ _ _ (by rw [List.length_map]; exact hk)
    have hx := hb x (by rw [ha]; simp)
    have g2 := at_ints b x hx.1 hx.2
    have e := hce k x _ g1 g2
    have ih := go_comp ce rho0 a b h hce hb rest (pre ++ [x]) (k + 1) (acc ++ [.int (b.getD x.toNat 0)]) (by simp [ha]) (by simp; omega)
    have ec : comp (x :: rest) b = b.getD x.toNat 0 :: comp rest b := rfl
    rw [List.length_cons, rngD_succ, ec, List.map_cons]
    generalize (comp rest b).map D.int = zs at *
    generalize D.int (b.getD x.toNat 0) = w at *
    simp [goL, kT, e, ih]
theorem comp_in (a b : List Int) (ha : ∀ x ∈ a, 0 ≤ x ∧ x < b.length) (n : Int) (hb : ∀ y ∈ b, 0 ≤ y ∧ y < n) : ∀ y ∈ comp a b, 0 ≤ y ∧ y < n := by
  intro y hy
  obtain ⟨x, hx, rfl⟩ := List.mem_map.mp hy
  have h1 := ha x hx
  have h2 : x.toNat < b.length := by omega
  have e : b.getD x.toNat 0 = b[x.toNat] := by simp [List.getD_eq_getElem?_getD, h2]
  rw [e]
  exact hb _ (List.getElem_mem h2)
theorem rep_one (x : Int) : ∀ n : Nat, (List.replicate n [D.int x]).flatten = (List.replicate n x).map D.int
  | 0 => rfl
  | n + 1 => by
    rw [List.replicate_succ, List.replicate_succ, List.flatten_cons, rep_one x n]
    rfl
theorem rp_sett {a : List Int} (n : Int) (hn : n ≤ 1000) (ha : ∀ x ∈ a, 0 ≤ x ∧ x < n) : rp (sett a) := by
  unfold sett
  split
  · rename_i c
    obtain ⟨z, hz⟩ := List.length_eq_one_iff.mp c
    have hm : z ∈ a := (usort_mem z _).mp (by rw [hz]; simp)
    have := ha z hm
    refine rp_int ?_
    rw [hz]
    simp
    omega
  · exact ⟨_, fun eta => repr_same (p := .none) (by simp [py, pyD]) (okShow_of (by simp only [okB]) (by simp [PyData.depth]) (by simp [szP]))⟩
theorem sp_by_hand {C : Nat} {h : HD} (b : Bx C h) (hC : C ≤ 600000) : ∃ h', callD 1 F_law_by_hand_right [.ref 0] [h] = .ok (.bl true) [h'] := by
  obtain ⟨x0, h1, l0, g0, b1, t0⟩ := take_call b (by omega) (many := 18) (by omega) (by omega)
  obtain ⟨n, hn⟩ : ∃ n : Nat, 1 + x0 = (n : Int) := ⟨(1 + x0).toNat, by omega⟩
  have n1 : 1 ≤ n := by omega
  have n18 : n ≤ 18 := by omega
  have rg : rg1 [.int (n : Int)] = some (rngD 0 n, fun _ => True) := rg1_len (Nat.le_trans n18 (by decide))
  have hrl : (rngD 0 n).length ≤ lineB := by rw [rng_len]; exact Nat.le_trans n18 (by decide)
  obtain ⟨a, h2, la, ia, b2, e1⟩ := go_draw 7 ceT [some (.ref 0), some (.int (n : Int)), none, none, none, none, none, none, none] (n : Int) (by omega) (by omega) (ceT_run _) n 0 [] (C + 1) h1 b1 (by omega)
  obtain ⟨c, h3, lc, ic, b3, e2⟩ := go_draw 7 ceT [some (.ref 0), some (.int (n : Int)), none, none, none, none, none, none, none] (n : Int) (by omega) (by omega) (ceT_run _) n 0 [] (C + 1 + n) h2 b2 (by omega)
  rw [List.nil_append] at e1 e2
  have ma : mv a := ⟨fun e => by rw [e] at la; simp at la; omega, fun x hx => by rw [la]; exact ia x hx⟩
  have mc : mv c := ⟨fun e => by rw [e] at lc; simp at lc; omega, fun x hx => by rw [lc]; exact ic x hx⟩
  have iac : ∀ x ∈ a, 0 ≤ x ∧ x < (c.length : Int) := fun x hx => by rw [lc]; exact ia x hx
  have ica : ∀ x ∈ c, 0 ≤ x ∧ x < (a.length : Int) := fun x hx => by rw [la]; exact ic x hx
  have t1 := sp_then a c ma mc (by omega) (by omega)
  have t2 := sp_then c a mc ma (by omega) (by omega)
  have sm1 : ∀ {l : List Int}, (∀ x ∈ l, 0 ≤ x ∧ x < (n : Int)) → ∀ x ∈ l, x.natAbs ≤ 1000000000000000 := fun hl x hx => by have := hl x hx; omega
  have i1 := comp_in a c iac n ic
  have i2 := comp_in c a ica n ia
  have l1 : (comp a c).length = n := by simp [comp, la]
  have l2 : (comp c a).length = n := by simp [comp, lc]
  have At1 := At.tup (Ats_ints (k := 0) (comp a c) (sm1 i1))
  have At2 := At.tup (Ats_ints (k := 0) (comp c a) (sm1 i2))
  obtain ⟨s1, r1⟩ := At1.rp (by decide) (by rw [l1]; omega)
  obtain ⟨s2, r2⟩ := At2.rp (by decide) (by rw [l2]; omega)
  have pa : ∀ s, subDs s (a.map D.int) = some (a.map .int) := fun s => subs_ints _
  have pc : ∀ s, subDs s (c.map D.int) = some (c.map .int) := fun s => subs_ints _
  have gc := go_comp (cOp fIx (cVar 3) (cOp fIx (cVar 2) (cVar 7))) [some (.ref 0), some (.int (n : Int)), some (.tup (a.map .int)), some (.tup (c.map .int)), none, none, none, none, none] a c h3 (fun k x y q1 q2 => by
    generalize a.map D.int = da at *
    generalize c.map D.int = dc at *
    simp [q1, q2]) iac a [] 0 [] rfl rfl
  have gd := go_comp (cOp fIx (cVar 2) (cOp fIx (cVar 3) (cVar 7))) [some (.ref 0), some (.int (n : Int)), some (.tup (a.map .int)), some (.tup (c.map .int)), none, none, none, none, none] c a h3 (fun k x y q1 q2 => by
    generalize a.map D.int = da at *
    generalize c.map D.int = dc at *
    simp [q1, q2]) ica c [] 0 [] rfl rfl
  rw [la, List.nil_append] at gc
  rw [lc, List.nil_append] at gd
  have q2 := bh2_run rg hrl pa pc t1 t2 gc gd r1 r2
  have eP := sp_possible a ma (by omega)
  have eB := sortSet_ints a (by omega)
  have lu := usort_len a
  obtain ⟨s3, r3, _⟩ := rp_ints (ns := usort a) (fun x hx => by have := ia x ((usort_mem x _).mp hx); omega) (by omega)
  have mR : mv (List.replicate n ((n : Int) - 1)) := ⟨fun e => by have := congrArg List.length e; simp at this; omega, fun x hx => by
    have := (List.mem_replicate.mp hx).2
    rw [List.length_replicate]
    omega⟩
  have eS := sp_settled _ mR (by rw [List.length_replicate]; omega)
  have hsR : sett (List.replicate n ((n : Int) - 1)) = .int ((n : Int) - 1) := by
    unfold sett
    rw [usort_const mR.1 fun y hy => (List.mem_replicate.mp hy).2]
    rfl
  rw [hsR] at eS
  have eM : ∀ eta, fMulT (.tup [.int ((n : Int) - 1)]) (.int (n : Int)) eta = some (.tup ((List.replicate n ((n : Int) - 1)).map .int)) := fun eta => by
    have c1 : (decide (1 ≤ (n : Int)) && decide ((n : Int) ≤ 1000) && decide ([D.int ((n : Int) - 1)].length ≤ 1000) && !([D.int ((n : Int) - 1)]).isEmpty) = true := by
      simp only [Bool.and_eq_true, decide_eq_true_eq]
      exact ⟨⟨⟨by omega, by omega⟩, by rw [List.length_singleton]; omega⟩, rfl⟩
    show (if (decide (1 ≤ (n : Int)) && decide ((n : Int) ≤ 1000) && decide ([D.int ((n : Int) - 1)].length ≤ 1000) && !([D.int ((n : Int) - 1)]).isEmpty) = true then some (D.tup (List.replicate (n : Int).toNat [D.int ((n : Int) - 1)]).flatten) else none) = _
    rw [if_pos c1, Int.toNat_natCast, rep_one]
  obtain ⟨s4, r4⟩ := rp_int (i := (n : Int) - 1) (by omega)
  have q3 := bh3_run (db := c.map .int) (h := h3) pa (fun s => by rw [sub_tup, subs_ints]; rfl) eP eB r3 eM eS r4
  have eSa := sp_settled a ma (by omega)
  have hSa : sett a = .non ∨ (isNonD (sett a) = false ∧ ∀ eta, bLen [.lst ((usort a).map D.int)] eta = some (.int 1)) := by
    unfold sett
    by_cases c : (usort a).length = 1
    · rw [if_pos c]
      exact .inr ⟨rfl, fun eta => by simp [c]⟩
    · rw [if_neg c]
      exact .inl rfl
  have q4 := bh4_run (N := (n : Int)) (db := c.map .int) (h := h3) pa eSa eB hSa
  obtain ⟨k0, h4, lk, gk, b4, tk⟩ := take_call b3 (by omega) (many := (n : Int)) (by omega) (by omega)
  obtain ⟨k, rfl⟩ : ∃ k : Nat, k0 = k := ⟨k0.toNat, by omega⟩
  have hk : k < a.length := by omega
  have elong : ∀ eta, fPlus (.tup (a.map .int)) (.tup [.int 0]) eta = some (.tup ((a ++ [0]).map .int)) := fun eta => by
    have hs : a.length + 1 ≤ lineB := Nat.le_trans (show a.length + 1 ≤ 19 by omega) (by decide)
    simp [fPlus, hs]
  have q5 := bh5_run (db := c.map .int) tk elong
  have c1 : Gh.cutD (a.map D.int) none (some (k : Int)) = (a.take k).map .int := by rw [cut_take, List.map_take]
  have c2 : Gh.cutD (a.map D.int) (some ((k : Int) + 1)) none = (a.drop (k + 1)).map .int := by
    rw [show (k : Int) + 1 = ((k + 1 : Nat) : Int) by omega, cut_drop, List.map_drop]
  have p1 : ∀ x eta, fPlus (.tup ((a.take k).map .int)) (.tup [x]) eta = some (.tup ((a.take k).map .int ++ [x])) := fun x eta => by
    have hs : ((a.take k).map D.int).length + 1 ≤ lineB := by rw [List.length_map, List.length_take]; exact Nat.le_trans (show min k a.length + 1 ≤ 19 by omega) (by decide)
    generalize (a.take k).map D.int = T at *
    simp [fPlus, hs]
  have p2 : ∀ x eta, fPlus (.tup ((a.take k).map .int ++ [x])) (.tup ((a.drop (k + 1)).map .int)) eta = some (put1 a k x) := fun x eta => by
    have hs : ((a.take k).map D.int ++ [x]).length + ((a.drop (k + 1)).map D.int).length ≤ lineB := by
      rw [List.length_append, List.length_map, List.length_map, List.length_take, List.length_drop]
      exact Nat.le_trans (show min k a.length + [x].length + (a.length - (k + 1)) ≤ 19 by simp; omega) (by decide)
    unfold put1
    generalize (a.take k).map D.int = T at *
    generalize (a.drop (k + 1)).map D.int = T2 at *
    show (if (T ++ [x]).length + T2.length ≤ lineB then some (D.tup ((T ++ [x]) ++ T2)) else none) = _
    rw [if_pos hs]
    simp
  have q6 := bh6_run (N := (n : Int)) (db := c.map .int) (dl := (a ++ [0]).map .int) (h := h4) c1 c2 p1 p2 rfl
  obtain ⟨z, hz0, hz1, hz⟩ : ∃ z : Int, 0 ≤ z ∧ z < n ∧ atI (a.map D.int) (k : Int) = some (.int z) := by
    have hm := List.getElem_mem hk
    have := ia _ hm
    refine ⟨a[k], this.1, this.2, ?_⟩
    rw [at_ints a k (by omega) (by omega)]
    simp [List.getD_eq_getElem?_getD, hk]
  have hs : ∀ eta, bStr [.int z] eta = some (.str (toString z)) := fun eta => by
    have := log2_small (n := z.natAbs) (by omega)
    simp [bStr, this]
  have hpl : ∀ L1 L2 : List D, L1.length + L2.length ≤ 100 → ∀ eta, fPlus (.lst L1) (.lst L2) eta = some (.lst (L1 ++ L2)) := fun L1 L2 hl eta => by
    have hs : L1.length + L2.length ≤ lineB := Nat.le_trans hl (by decide)
    simp [fPlus, seqL, hs]
  have q7 := bh7_run (N := (n : Int)) (db := c.map .int) (dl := (a ++ [0]).map .int) (L1 := [put1 a k (.int (n : Int)), put1 a k (.int (-1)), put1 a k .non, .lst (a.map .int)]) (h := h4) c1 c2 p1 p2 hz hs rfl (hpl _ _ (by simp))
  have fO := fin1_ints a (Nat.le_trans (show a.length ≤ 18 by omega) (by decide))
  have aO : At 3 (2000 * a.length + 6) (.tup (a.map .int)) := At.tup (Ats_ints a (sm1 ia))
  have ia6 : ∀ x ∈ a, x.natAbs ≤ 1000000 := fun x hx => by have := ia x hx; omega
  have bput : ∀ (x : D) (m : Nat), kb x = true → (∀ s, subD s x = some x) → elOk a.length x = false → At 2 m x → m ≤ 5000 → Bad (.tup (a.map .int)) (put1 a k x) := fun x m kx px hx ax hm =>
    bad_of fO (fin_put1 a k x hk (by omega) kx px) (are_put1 a k x hk hx) aO (at_put1 a k x hk ia6 ax) (by decide) (by omega)
  have ks18 : (PyData.shown (.str (Str.ofString (toString z)))).length ≤ 98 := by
    have := sh_small ⟨z.toNat, by omega⟩
    simp only [Int.toNat_of_nonneg hz0] at this
    exact this
  have hall : ∀ y ∈ [put1 a k (.int (n : Int)), put1 a k (.int (-1)), put1 a k .non, .lst (a.map .int)] ++ [put1 a k (.bl (decide (z = 0))), .tup [], .non, .str "moves", .int 3, put1 a k (.str (toString z))], Bad (.tup (a.map .int)) y := fun y hy => by
    simp only [List.cons_append, List.nil_append, List.mem_cons, List.not_mem_nil, or_false] at hy
    rcases hy with rfl | rfl | rfl | rfl | rfl | rfl | rfl | rfl | rfl | rfl
    · exact bput _ _ (by simp) (by simp) (by simp [elOk, la]) (At.int (by omega)) (Nat.le_refl 5000 |> fun _ => by omega)
    · exact bput _ _ (by simp) (by simp) (by simp [elOk]) (At.int (by omega)) (by omega)
    · exact bput _ _ (by simp) (by simp) (by simp [elOk]) At.non (by omega)
    · exact bad_of (k := 3) fO ⟨by simp, fun s => by simp, fun ds e => nomatch e⟩ rfl aO (At.lst (Ats_ints a (sm1 ia))) (by decide) (by omega)
    · exact bput _ _ (by simp) (by simp) (by simp [elOk]) At.bl (by omega)
    · exact bad_of (k := 3) fO ⟨by simp, fun s => by simp, fun ds e => by cases e; exact ⟨fun x hx => by simp at hx, by decide⟩⟩ rfl aO (At.tup Ats.nil) (by decide) (by omega)
    · exact bad_of (k := 3) fO ⟨by simp, fun s => by simp, fun ds e => nomatch e⟩ rfl aO At.non (by decide) (by omega)
    · exact bad_of (k := 3) fO ⟨by simp, fun s => by simp, fun ds e => nomatch e⟩ rfl aO (At.str sh_moves) (by decide) (by omega)
    · exact bad_of (k := 3) fO ⟨by simp, fun s => by simp, fun ds e => nomatch e⟩ rfl aO (At.int (by omega)) (by decide) (by omega)
    · exact bput _ _ (by simp) (by simp) (by simp [elOk]) (At.str ks18) (by omega)
  have q8 := bh8_run (N := (n : Int)) (k := (k : Int)) (db := c.map .int) (dl := (a ++ [0]).map .int) (h := h4) (Nat.le_trans (show _ ≤ 10 by simp) (by decide)) (go_bad hall _ _ _ _ _ _ _ _ pa)
  have fL := fin1_ints (a ++ [0]) (Nat.le_trans (show (a ++ [0]).length ≤ 19 by simp; omega) (by decide))
  have aL : At 3 (2000 * (a ++ [0]).length + 6) (.tup ((a ++ [0]).map .int)) := At.tup (Ats_ints (a ++ [0]) fun x hx => by
    rcases List.mem_append.mp hx with hx | hx
    · have := ia x hx; omega
    · have : x = 0 := by simpa using hx
      omega)
  have lL : (a ++ [0]).length = n + 1 := by simp [la]
  obtain ⟨u1, v1⟩ := (At.tup (.cons aO (.cons aL .nil))).rp (by decide) (by rw [lL, la]; omega)
  obtain ⟨u2, v2⟩ := (At.tup (.cons aL (.cons aO .nil))).rp (by decide) (by rw [lL, la]; omega)
  have hne : (a.map D.int).length ≠ ((a ++ [0]).map D.int).length := by simp
  have q9 := bh9_run (N := (n : Int)) (k := (k : Int)) (db := c.map .int) (L1 := [put1 a k (.int (n : Int)), put1 a k (.int (-1)), put1 a k .non, .lst (a.map .int)]) (L2 := [put1 a k (.bl (decide (z = 0))), .tup [], .non, .str "moves", .int 3, put1 a k (.str (toString z))]) (h := h4) pa (fun s => subs_ints _) (refused_R _ _ fO.p fL.p u1 v1 (then_bad _ _ fO fL (.inr (.inr ⟨_, _, rfl, rfl, hne⟩)))) (refused_R _ _ fL.p fO.p u2 v2 (then_bad _ _ fL fO (.inr (.inr ⟨_, _, rfl, rfl, Ne.symm hne⟩)))) (are_R2 _ _ _ fO.p eP eSa)
  have e := bh_all h4 (bh0_run t0 hn.symm) (bh1_run rg hrl e1 e2) q2 q3 q4 q5 q6 q7 q8 q9
  refine ⟨h4, ?_⟩
  have eF : F_law_by_hand_right [.ref 0] [h] = .ok (.bl true) [h4] := by
    simp [F_law_by_hand_right, fz, e]
  rw [call1 (by simp) (b.pure _), eF, backO1_ok]
end K75
namespace K75
open PySem PySem.Spec PyProof.Rows L2 Gh
/-! ### what is no list of answers -/
def ansL : List D := [.lst [.non, .tup [.int 2, .int 4]], .lst [.tup [.int 1, .int 0]], .non, .lst [.tup [.int 0, .int 1], .int 5], .str "answers", .lst [.lst [.int 1, .int 1]], .lst [.tup [.int 1, .bl true]]]
theorem fine_atom {x : D} (hk : kb x = true) (hp : ∀ s, subD s x = some x) (ht : ∀ ds, x ≠ .tup ds) : Fine x := ⟨hk, hp, fun ds e => absurd e (ht ds)⟩
theorem ans_all : ∀ x ∈ ansL, (∀ s, subD s x = some x) ∧ F_check_answers [x] [] = .exc 1 [("given", x)] [] ∧ At 3 6200 x := by
  have q1 : 1 ≤ lineB := by decide
  have q2 : 2 ≤ lineB := by decide
  have i1 : ∀ {k}, At k 2000 (.int 1) := At.int (by omega)
  have go : ∀ x : D, Fine x → (∀ ds, x = .lst ds ∨ x = .tup ds → (∀ y ∈ ds, Fine y) ∧ ds.length ≤ lineB) → isAns x = false → F_check_answers [x] [] = .exc 1 [("given", x)] [] := fun x h1 h2 h3 => by
    rw [sp_check_answers x h1 h2, h3]
    simp
  have l1 : ∀ y : D, Fine y → isTold y = false → F_check_answers [.lst [y]] [] = .exc 1 [("given", .lst [y])] [] := fun y h1 h2 =>
    go _ (fine_atom (by simp) (fun s => by simp [h1.p]) (fun ds e => nomatch e)) (fun ds e => by
      rcases e with e | e <;> cases e
      refine ⟨fun z hz => ?_, q1⟩
      rcases List.mem_cons.mp hz with rfl | hz
      · exact h1
      · cases hz) (by simp [isAns, h2])
  have l2 : ∀ y z : D, Fine y → Fine z → (isTold y && isTold z) = false → F_check_answers [.lst [y, z]] [] = .exc 1 [("given", .lst [y, z])] [] := fun y z h1 h2 h3 =>
    go _ (fine_atom (by simp) (fun s => by simp [h1.p, h2.p]) (fun ds e => nomatch e)) (fun ds e => by
      rcases e with e | e <;> cases e
      refine ⟨fun w hw => ?_, q2⟩
      rcases List.mem_cons.mp hw with rfl | hw
      · exact h1
      · rcases List.mem_cons.mp hw with rfl | hw
        · exact h2
        · cases hw) (by simp only [isAns, List.all_cons, List.all_nil, Bool.and_true]; exact h3)
  have ft : ∀ a b : D, kb a = true → kb b = true → (∀ s, subD s a = some a) → (∀ s, subD s b = some b) → Fine (.tup [a, b]) := fun a b h1 h2 h3 h4 => ⟨by simp, fun s => by simp [h3, h4], fun ds e x hx => by
    cases e
    rcases List.mem_cons.mp hx with rfl | hx
    · exact ⟨h1, h3⟩
    · rcases List.mem_cons.mp hx with rfl | hx
      · exact ⟨h2, h4⟩
      · cases hx⟩
  have fa : ∀ x : D, kb x = true → (∀ s, subD s x = some x) → (∀ ds, x ≠ .tup ds) → Fine x := fun x a b c => fine_atom a b c
  intro x hx
  simp only [ansL, List.mem_cons, List.not_mem_nil, or_false] at hx
  rcases hx with rfl | rfl | rfl | rfl | rfl | rfl | rfl
  · exact ⟨fun s => by simp, l2 _ _ (fa _ (by simp) (by simp) (fun ds e => nomatch e)) (ft _ _ (by simp) (by simp) (by simp) (by simp)) (by simp [isTold, isFr]), (At.lst (k := 1) (.cons At.non (.cons (At.tup (k := 0) (.cons (At.int (by omega)) (.cons (At.int (by omega)) .nil))) .nil))).mono⟩
  · exact ⟨fun s => by simp, l1 _ (ft _ _ (by simp) (by simp) (by simp) (by simp)) (by simp [isTold, isFr]), (At.lst (k := 1) (.cons (At.tup (k := 0) (.cons (At.int (by omega)) (.cons (At.int (by omega)) .nil))) .nil)).mono⟩
  · exact ⟨fun s => by simp, go _ (fine_atom (by simp) (by simp) (fun ds e => nomatch e)) (fun ds e => by rcases e with e | e <;> cases e) rfl, (At.non (k := 0)).mono⟩
  · exact ⟨fun s => by simp, l2 _ _ (ft _ _ (by simp) (by simp) (by simp) (by simp)) (fa _ (by simp) (by simp) (fun ds e => nomatch e)) (by simp [isTold, isFr]), (At.lst (k := 1) (.cons (At.tup (k := 0) (.cons (At.int (by omega)) (.cons (At.int (by omega)) .nil))) (.cons (At.int (by omega)) .nil))).mono⟩
  · exact ⟨fun s => by simp, go _ (fine_atom (by simp) (by simp) (fun ds e => nomatch e)) (fun ds e => by rcases e with e | e <;> cases e) rfl, (At.str sh_answers').mono (k := 0)⟩
  · exact ⟨fun s => by simp, l1 _ (fine_atom (by simp) (by simp) (fun ds e => nomatch e)) (by simp [isTold, isFr]), (At.lst (k := 1) (.cons (At.lst (k := 0) (.cons i1 (.cons i1 .nil))) .nil)).mono⟩
  · exact ⟨fun s => by simp, l1 _ (ft _ _ (by simp) (by simp) (by simp) (by simp)) (by simp [isTold, isFr]), (At.lst (k := 1) (.cons (At.tup (k := 0) (.cons i1 (.cons At.bl .nil))) .nil)).mono⟩
section
variable {u d r f : Int}
theorem moves_bad (ans : D) (pa : ∀ s, subD s ans = some ans) (ha : F_check_answers [ans] [] = .exc 1 [("given", ans)] []) : F_Alarm_moves [A u d r f, ans] [] = .exc 1 [("given", ans)] [] := by
  simp [F_Alarm_moves, fz, R_Alarm_moves, bodyF, startD, c_Alarm_moves, endF_nx, endF_ret, endF_exc, call0, pa, ha]
theorem answers_refused (ans : D) (pa : ∀ s, subD s ans = some ans) (ha : F_check_answers [ans] [] = .exc 1 [("given", ans)] []) (t : Str) (ht : ∀ eta, bRepr [ans] eta = some (.str t)) (eta : Eta) : callD 0 F_law_answers_refused [A u d r f, ans] eta = .ok (.bl true) eta := by
  have e := moves_bad (u := u) (d := d) (r := r) (f := f) ans pa ha
  have eF : F_law_answers_refused [A u d r f, ans] [] = .ok (.bl true) [] := by
    simp [F_law_answers_refused, fz, R_law_answers_refused, bodyF, startD, c_law_answers_refused, endF_nx, endF_ret, endF_exc, call0, pa, List.lookup, e, handle, mt_InvalidAnswers, noExc, wipeO, ht]
  rw [call0 (by simp [pa]), eF, backO_ok]
/-! ### one cell -/
noncomputable def bT : CS := cIfS (cNot (cTru (cFn 1 F_law_row_right 4 0 (fun ds _ => ds) (cCons (cVar 0) (cCons (cVar 2) (cCons (cVar 1) (cCons (cFn 1 F_law_row 2 0 (fun ds _ => ds) (cCons (cVar 0) (cCons (cVar 1) (cNil))) (cNil)) (cNil))))) (cNil)))) (cRet (cC (.bl false))) (cSkip)
theorem turn_T (xs : List D) (h h1 h2 : HD) (e1 : ∀ eta, callD 1 F_law_row [.ref 0, .tup [.int u, .int d, .int r, .int f]] (h :: eta) = .ok (.lst xs) (h1 :: eta)) (e2 : ∀ eta, callD 1 F_law_row_right [.ref 0, A u d r f, .tup [.int u, .int d, .int r, .int f], .lst xs] (h1 :: eta) = .ok (.bl true) (h2 :: eta)) (o3 : Option D) : bT [some (.ref 0), some (.tup [.int u, .int d, .int r, .int f]), some (A u d r f), o3, none] [h] = .nx [some (.ref 0), some (.tup [.int u, .int d, .int r, .int f]), some (A u d r f), o3, none] [h2] := by
  unfold bT
  simp [e1, e2]
theorem loop_T (hu : u.natAbs ≤ 100000000000) (hd : d.natAbs ≤ 200000000000) (hdu : d ≤ u) (hr : 1 ≤ r) (hr9 : r ≤ 9) (hf : 1 ≤ f) (hf9 : f ≤ 9) : ∀ (ds : List D) (C : Nat) (h : HD) (o3 : Option D), Bx C h → C + 400 * ds.length ≤ 500000 → ∃ h' o3', Bx (C + 400 * ds.length) h' ∧ forD (.nm 3) bT (fun _ => True) ds [some (.ref 0), some (.tup [.int u, .int d, .int r, .int f]), some (A u d r f), o3, none] [h] = .nx [some (.ref 0), some (.tup [.int u, .int d, .int r, .int f]), some (A u d r f), o3', none] [h']
  | [], C, h, o3, b, _ => ⟨h, o3, b, by simp [forD]⟩
  | x :: ds, C, h, o3, b, hC => by
    simp only [List.length_cons] at hC ⊢
    obtain ⟨as, h1, g1, l1, b1, e1⟩ := sp_row b (by omega) u d r f hu hd hr hr9 hf hf9
    obtain ⟨h2, b2, e2⟩ := sp_row_right b1 (by omega) hu hd hdu hr hr9 hf hf9 as g1 l1
    obtain ⟨h', o3', b', ih⟩ := loop_T hu hd hdu hr hr9 hf hf9 ds (C + 400) h2 (some x) (b2.mono (by omega)) (by omega)
    refine ⟨h', o3', b'.mono (by omega), ?_⟩
    have t := turn_T _ h h1 h2 e1 e2 (some x)
    simp [forD, kT, t, ih]
noncomputable def ra0 : CS := cSet 1 (cFn 1 F_law_alarm 1 0 (fun ds _ => ds) (cCons (cVar 0) (cNil)) (cNil))
noncomputable def ra1 : CS := cSet 2 (cMake 0 0 F_Alarm___init 4 0 (fun ds es => pickP [(0, 0), (0, 1), (0, 2), (0, 3), (0, 4)] ds [.int 1, .int 1] es) (cCons (cOp fIx (cVar 1) (cC (.int 0))) (cCons (cOp fIx (cVar 1) (cC (.int 1))) (cCons (cOp fIx (cVar 1) (cC (.int 2))) (cCons (cOp fIx (cVar 1) (cC (.int 3))) (cNil))))) (cNil))
noncomputable def ra2 : CS := cFor (.nm 3) (cRg rg1 (cCons (cC (.int 5)) (cNil))) bT
noncomputable def ra3 : CS := cSet 4 (cOp fIx (cLst (cCons (cLst (cCons (cC .non) (cCons (cTup (cCons (cC (.int 2)) (cCons (cC (.int 4)) (cNil)))) (cNil)))) (cCons (cLst (cCons (cTup (cCons (cC (.int 1)) (cCons (cC (.int 0)) (cNil)))) (cNil))) (cCons (cC .non) (cCons (cLst (cCons (cTup (cCons (cC (.int 0)) (cCons (cC (.int 1)) (cNil)))) (cCons (cC (.int 5)) (cNil)))) (cCons (cC (.str "answers")) (cCons (cLst (cCons (cLst (cCons (cC (.int 1)) (cCons (cC (.int 1)) (cNil)))) (cNil))) (cCons (cLst (cCons (cTup (cCons (cC (.int 1)) (cCons (cC (.bl true)) (cNil)))) (cNil))) (cNil))))))))) (cFn 1 F_law_take 2 0 (fun ds _ => ds) (cCons (cVar 0) (cCons (cC (.int 7)) (cNil))) (cNil)))
noncomputable def ra4 : CS := cRet (cAndV (cFn 0 F_law_answers_refused 2 0 (fun ds _ => ds) (cCons (cVar 2) (cCons (cVar 4) (cNil))) (cNil)) (cFn 1 F_law_by_hand_right 1 0 (fun ds _ => ds) (cCons (cVar 0) (cNil)) (cNil)))
theorem ra_split : c_law_right = cSeq ra0 (cSeq ra1 (cSeq ra2 (cSeq ra3 ra4))) := rfl
theorem ra0_run (h h1 : HD) (e : callD 1 F_law_alarm [.ref 0] [h] = .ok (.tup [.int u, .int d, .int r, .int f]) [h1]) : ra0 [some (.ref 0), none, none, none, none] [h] = .nx [some (.ref 0), some (.tup [.int u, .int d, .int r, .int f]), none, none, none] [h1] := by
  unfold ra0
  simp [e]
theorem ra1_run (h : HD) (mk : ∀ eta, makeD 0 0 F_Alarm___init (fun ds es => pickP [(0, 0), (0, 1), (0, 2), (0, 3), (0, 4)] ds [.int 1, .int 1] es) [.int u, .int d, .int r, .int f] [] eta = .ok (A u d r f) eta) : ra1 [some (.ref 0), some (.tup [.int u, .int d, .int r, .int f]), none, none, none] [h] = .nx [some (.ref 0), some (.tup [.int u, .int d, .int r, .int f]), some (A u d r f), none, none] [h] := by
  unfold ra1
  simp [atI, ixN, mk]
theorem ra2_run (h h1 : HD) (rs : List D) (o3 : Option D) (rg : rg1 [.int 5] = some (rs, fun _ => True)) (e : forD (.nm 3) bT (fun _ => True) rs [some (.ref 0), some (.tup [.int u, .int d, .int r, .int f]), some (A u d r f), none, none] [h] = .nx [some (.ref 0), some (.tup [.int u, .int d, .int r, .int f]), some (A u d r f), o3, none] [h1]) : ra2 [some (.ref 0), some (.tup [.int u, .int d, .int r, .int f]), some (A u d r f), none, none] [h] = .nx [some (.ref 0), some (.tup [.int u, .int d, .int r, .int f]), some (A u d r f), o3, none] [h1] := by
  unfold ra2
  simp [rg, e]
theorem ra3_run (h h1 : HD) (o3 : Option D) (x : Int) (an : D) (tk : ∀ eta, callD 1 F_law_take [.ref 0, .int 7] (h :: eta) = .ok (.int x) (h1 :: eta)) (a : atI ansL x = some an) : ra3 [some (.ref 0), some (.tup [.int u, .int d, .int r, .int f]), some (A u d r f), o3, none] [h] = .nx [some (.ref 0), some (.tup [.int u, .int d, .int r, .int f]), some (A u d r f), o3, some an] [h1] := by
  have q : ∀ n, n ≤ 100 → n ≤ lineB := fun n h => Nat.le_trans h (by decide)
  have q1 := q 1 (by decide)
  have q2 := q 2 (by decide)
  have q7 := q 7 (by decide)
  unfold ansL at a
  unfold ra3
  simp [q1, q2, q7, tk, a]
theorem ra4_run (h h1 : HD) (o3 : Option D) (an : D) (e1 : ∀ eta, callD 0 F_law_answers_refused [A u d r f, an] eta = .ok (.bl true) eta) (e2 : callD 1 F_law_by_hand_right [.ref 0] [h] = .ok (.bl true) [h1]) : ra4 [some (.ref 0), some (.tup [.int u, .int d, .int r, .int f]), some (A u d r f), o3, some an] [h] = .ret (.bl true) [h1] := by
  unfold ra4
  simp [e1, e2]
end
theorem sp_right {h : HD} (b : Bx 0 h) : ∃ h', callD 1 F_law_right [.ref 0] [h] = .ok (.bl true) [h'] := by
  obtain ⟨u, d, r, f, h1, hdu, hu, hd, hr, hr9, hf, hf9, b1, e1⟩ := sp_law_alarm b (by omega)
  have e1' : callD 1 F_law_alarm [.ref 0] [h] = .ok (.tup [.int u, .int d, .int r, .int f]) [h1] := by
    rw [call1 (by simp) (b.pure _), e1, backO1_ok]
  obtain ⟨h2, o3, b2, e2⟩ := loop_T hu hd hdu hr hr9 hf hf9 (rngD 0 5) (0 + 6) h1 none b1 (by rw [rng_len]; omega)
  rw [rng_len] at b2
  obtain ⟨x, h3, l3, g3, b3, t3⟩ := take_call b2 (by omega) (many := 7) (by omega) (by omega)
  obtain ⟨an, m1, a1⟩ := pick ansL x l3 (by simpa [ansL] using g3)
  obtain ⟨pa, ca, ta⟩ := ans_all an m1
  obtain ⟨s, hs⟩ := ta.rp
  obtain ⟨h4, e4⟩ := sp_by_hand b3 (by omega)
  have e : c_law_right [some (.ref 0), none, none, none, none] [h] = .ret (.bl true) [h4] := by
    rw [ra_split, seq_nx (ra0_run h h1 e1'), seq_nx (ra1_run h1 (mk_4 hdu hr hr9 hf hf9)), seq_nx (ra2_run h1 h2 _ o3 (rg1_small (n := 5) (by omega) (by omega)) e2), seq_nx (ra3_run h2 h3 o3 x an t3 a1), ra4_run h3 h4 o3 an (answers_refused an pa ca s hs) e4]
  refine ⟨h4, ?_⟩
  have eR : R_law_right [.ref 0] [h] = .ok (.bl true) [h4] := by
    unfold R_law_right bodyF
    rw [show startD 5 [.ref 0] = [some (.ref 0), none, none, none, none] from rfl, e, endF_ret]
  have eF : F_law_right [.ref 0] [h] = .ok (.bl true) [h4] := by
    simp [F_law_right, fz, eR]
  rw [call1 (by simp) (b.pure _), eF, backO1_ok]
theorem sp_box (v : Int) : ∃ h, Bx 0 h ∧ callD 0 R_law_box [.int v] [] = .ok (.ref 0) [h] := by
  have q4 : 4 ≤ lineB := by decide
  refine ⟨.lst [.int (if v < 0 then -v else v), .bl (decide (1000000000000000000 ≤ if v < 0 then -v else v)), .int ((if v < 0 then -v else v) % 2147483629), .int 0], ⟨_, _, _, _, rfl, Int.emod_nonneg _ (by omega), Int.emod_lt_of_pos _ (by omega), by omega, by omega⟩, ?_⟩
  have e : R_law_box [.int v] [] = .ok (.ref 0) [.lst [.int (if v < 0 then -v else v), .bl (decide (1000000000000000000 ≤ if v < 0 then -v else v)), .int ((if v < 0 then -v else v) % 2147483629), .int 0]] := by
    generalize hw : (if v < 0 then -v else v) = w
    have ha : ∀ eta, bAbs [.int v] eta = some (.int w) := fun eta => by rw [← hw]; rfl
    simp [-abs_int, R_law_box, bodyF, startD, c_law_box, endF_nx, endF_ret, endF_exc, ha, q4]
  rw [call0 (by simp), e, backO_own (fun s => by simp)]
  rfl
theorem ints_D : ∀ ns : List Int, intsD (ns.map D.int) = some ns
  | [] => rfl
  | n :: r => by simp [intsD, ints_D r]
theorem sp_cell (ns : List Int) (k : Int) (h0 : 0 ≤ k) : ∃ v, P_law_cell ns [.int k] [] = .ok (.int v) [] := by
  have m1 : ∀ j, okMul 6007 j = true := fun j => okMul_sml (by unfold sml; omega) j
  by_cases h : k < ns.length
  · obtain ⟨v, _, e⟩ := pick ns k h0 h
    exact ⟨v, by simp [P_law_cell, bodyP, startD, c_law_cell, endF_nx, endF_ret, endF_exc, h, e]⟩
  · have hc : Gh.cutD (ns.map D.int) none (some 1) = (ns.take 1).map D.int := by
      rw [show (1 : Int) = ((1 : Nat) : Int) from rfl, cut_take, List.map_take]
    refine ⟨6007 * k + (ns.take 1).sum % 1000033, ?_⟩
    have hi := ints_D (ns.take 1)
    generalize (ns.take 1).map D.int = ys at hc hi
    generalize ns.take 1 = zs at hi ⊢
    simp [P_law_cell, bodyP, startD, c_law_cell, endF_nx, endF_ret, endF_exc, h, m1, hc, bSum, seqL, hi]
theorem plain (ns : List Int) (h1 : ns.length ≤ 63) (h2 : ∀ z ∈ ns, Builtin.Int.intBits z ≤ 1048576) : ∃ e, P_law ns [] [] = .ok (.bl true) e := by
  have rg3 : rg1 [.int 3] = some ([.int 0, .int 1, .int 2], fun _ => True) := by
    have := rg1_small (n := 3) (by omega) (by omega)
    simpa [rngD_succ] using this
  have turn : ∀ k : Int, 0 ≤ k → ∃ v h h', P_law_cell ns [.int k] [] = .ok (.int v) [] ∧ callD 0 R_law_box [.int v] [] = .ok (.ref 0) [h] ∧ callD 1 F_law_right [.ref 0] [h] = .ok (.bl true) [h'] := fun k h0 => by
    obtain ⟨v, e1⟩ := sp_cell ns k h0
    obtain ⟨h, b, e2⟩ := sp_box v
    obtain ⟨h', e3⟩ := sp_right b
    exact ⟨v, h, h', e1, e2, e3⟩
  obtain ⟨v0, h0, g0, a0, b0, c0⟩ := turn 0 (by omega)
  obtain ⟨v1, h1', g1, a1, b1, c1⟩ := turn 1 (by omega)
  obtain ⟨v2, h2', g2, a2, b2, c2⟩ := turn 2 (by omega)
  exact ⟨[], by simp [P_law, bodyP, startD, c_law, endF_nx, endF_ret, endF_exc, rg3, forD, kT, a0, b0, c0, a1, b1, c1, a2, b2, c2, fzS, frzR, subR, subO, subHs]⟩
end K75
namespace K75
open PySem PySem.Spec PyProof.Rows L2 Gh
theorem all_mk {P : Program} {w : World} {K : PySem.W.Frag} {mg : Str → Option Value} {h : Heap} {fa : Addr} (X : K.In h) (G : h.Ns mainGlobals mg) (hfa : mg "law" = some (.ref fa))
    {f0 f1 f2 f3 f4 f5 f6 f7 f8 f9 f10 f11 f12 T12 f13 f14 f15 f16 f17 f18 f19 f20 f21 f22 f23 f24 f25 f26 f27 f28 f29 f30 f31 f32 f33 f34 f35 f36 f37 f38 f39 C0 GE C1 EN1 C2 EN2 C3 EN3 C4 EN4 : Addr} {od0 an0 od1 an1 od2 an2 od3 an3 od4 an4 od5 an5 od6 an6 od7 an7 od8 an8 od9 an9 od10 an10 od11 an11 od12 an12 td12 od13 an13 od14 an14 od15 an15 od16 an16 od17 an17 od18 an18 od19 an19 od20 an20 od21 an21 od22 an22 od23 an23 od24 an24 od25 an25 od26 an26 od27 an27 od28 an28 od29 an29 od30 an30 od31 an31 od32 an32 od33 an33 od34 an34 od35 an35 od36 an36 od37 an37 od38 an38 od39 an39 : Option Addr} {kV0 dc0 pm0 cd0 ct0 oc0 kV1 dc1 pm1 cd1 ct1 oc1 kV2 dc2 pm2 cd2 ct2 oc2 kV3 dc3 pm3 cd3 ct3 oc3 kV4 dc4 pm4 cd4 ct4 oc4 kV5 dc5 pm5 cd5 ct5 oc5 kV6 dc6 pm6 cd6 ct6 oc6 kV7 dc7 pm7 cd7 ct7 oc7 kV8 dc8 pm8 cd8 ct8 oc8 kV9 dc9 pm9 cd9 ct9 oc9 kV10 dc10 pm10 cd10 ct10 oc10 kV11 dc11 pm11 cd11 ct11 oc11 kV12 dc12 pm12 cd12 ct12 oc12 tc12 kV13 dc13 pm13 cd13 ct13 oc13 kV14 dc14 pm14 cd14 ct14 oc14 kV15 dc15 pm15 cd15 ct15 oc15 kV16 dc16 pm16 cd16 ct16 oc16 kV17 dc17 pm17 cd17 ct17 oc17 kV18 dc18 pm18 cd18 ct18 oc18 kV19 dc19 pm19 cd19 ct19 oc19 kV20 dc20 pm20 cd20 ct20 oc20 kV21 dc21 pm21 cd21 ct21 oc21 kV22 dc22 pm22 cd22 ct22 oc22 kV23 dc23 pm23 cd23 ct23 oc23 kV24 dc24 pm24 cd24 ct24 oc24 kV25 dc25 pm25 cd25 ct25 oc25 kV26 dc26 pm26 cd26 ct26 oc26 kV27 dc27 pm27 cd27 ct27 oc27 kV28 dc28 pm28 cd28 ct28 oc28 kV29 dc29 pm29 cd29 ct29 oc29 kV30 dc30 pm30 cd30 ct30 oc30 kV31 dc31 pm31 cd31 ct31 oc31 kV32 dc32 pm32 cd32 ct32 oc32 kV33 dc33 pm33 cd33 ct33 oc33 kV34 dc34 pm34 cd34 ct34 oc34 kV35 dc35 pm35 cd35 ct35 oc35 kV36 dc36 pm36 cd36 ct36 oc36 kV37 dc37 pm37 cd37 ct37 oc37 kV38 dc38 pm38 cd38 ct38 oc38 kV39 dc39 pm39 cd39 ct39 oc39 : Value} {sl0 sl1 sl2 sl3 sl4 sl5 sl6 sl7 sl8 sl9 sl10 sl11 sl12 ts12 sl13 sl14 sl15 sl16 sl17 sl18 sl19 sl20 sl21 sl22 sl23 sl24 sl25 sl26 sl27 sl28 sl29 sl30 sl31 sl32 sl33 sl34 sl35 sl36 sl37 sl38 sl39 : Array (Option Value)} {tn12 : Nat} {tk12_0 tk12_1 tg_MOST_RUN : Tok}
    {en1 eq1 : Str} {eb1 eu1 : List Value} {ea1 : Bool} {es1 : List Str} {ec1 : Option Bool} {ed1 : Option Addr} {ek1 el1 em1 eo1 ep1 : Option Value} {en2 eq2 : Str} {eb2 eu2 : List Value} {ea2 : Bool} {es2 : List Str} {ec2 : Option Bool} {ed2 : Option Addr} {ek2 el2 em2 eo2 ep2 : Option Value} {en3 eq3 : Str} {eb3 eu3 : List Value} {ea3 : Bool} {es3 : List Str} {ec3 : Option Bool} {ed3 : Option Addr} {ek3 el3 em3 eo3 ep3 : Option Value} {en4 eq4 : Str} {eb4 eu4 : List Value} {ea4 : Bool} {es4 : List Str} {ec4 : Option Bool} {ed4 : Option Addr} {ek4 el4 em4 eo4 ep4 : Option Value}
    (m0 : PySem.W.nsIn K mainGlobals "is_list" = some (some (.ref f0)))
    (m1 : PySem.W.nsIn K mainGlobals "is_integer" = some (some (.ref f1)))
    (m2 : PySem.W.nsIn K mainGlobals "is_value" = some (some (.ref f2)))
    (m3 : PySem.W.nsIn K mainGlobals "is_count" = some (some (.ref f3)))
    (m4 : PySem.W.nsIn K mainGlobals "is_fraction" = some (some (.ref f4)))
    (m9 : PySem.W.nsIn K mainGlobals "is_run" = some (some (.ref f9)))
    (m10 : PySem.W.nsIn K mainGlobals "is_told_answer" = some (some (.ref f10)))
    (m11 : PySem.W.nsIn K mainGlobals "check_answers" = some (some (.ref f11)))
    (m16 : PySem.W.nsIn K mainGlobals "are_moves" = some (some (.ref f16)))
    (m17 : PySem.W.nsIn K mainGlobals "then" = some (some (.ref f17)))
    (m18 : PySem.W.nsIn K mainGlobals "possible" = some (some (.ref f18)))
    (m19 : PySem.W.nsIn K mainGlobals "settled" = some (some (.ref f19)))
    (m20 : PySem.W.nsIn K mainGlobals "_law_cell" = some (some (.ref f20)))
    (m21 : PySem.W.nsIn K mainGlobals "_law_box" = some (some (.ref f21)))
    (m22 : PySem.W.nsIn K mainGlobals "_law_take" = some (some (.ref f22)))
    (m23 : PySem.W.nsIn K mainGlobals "_law_alarm" = some (some (.ref f23)))
    (m24 : PySem.W.nsIn K mainGlobals "_law_one" = some (some (.ref f24)))
    (m25 : PySem.W.nsIn K mainGlobals "_law_lowest" = some (some (.ref f25)))
    (m26 : PySem.W.nsIn K mainGlobals "_law_is_high" = some (some (.ref f26)))
    (m27 : PySem.W.nsIn K mainGlobals "_law_is_low" = some (some (.ref f27)))
    (m28 : PySem.W.nsIn K mainGlobals "_law_states" = some (some (.ref f28)))
    (m29 : PySem.W.nsIn K mainGlobals "_law_runs_in" = some (some (.ref f29)))
    (m30 : PySem.W.nsIn K mainGlobals "_law_row" = some (some (.ref f30)))
    (m31 : PySem.W.nsIn K mainGlobals "_law_moves" = some (some (.ref f31)))
    (m32 : PySem.W.nsIn K mainGlobals "_law_put_together" = some (some (.ref f32)))
    (m33 : PySem.W.nsIn K mainGlobals "_law_row_right" = some (some (.ref f33)))
    (m34 : PySem.W.nsIn K mainGlobals "_law_refused" = some (some (.ref f34)))
    (m35 : PySem.W.nsIn K mainGlobals "_law_not_moves" = some (some (.ref f35)))
    (m36 : PySem.W.nsIn K mainGlobals "_law_by_hand_right" = some (some (.ref f36)))
    (m37 : PySem.W.nsIn K mainGlobals "_law_answers_refused" = some (some (.ref f37)))
    (m38 : PySem.W.nsIn K mainGlobals "_law_right" = some (some (.ref f38)))
    (m39 : PySem.W.nsIn K mainGlobals "law" = some (some (.ref f39)))
    (gC0 : PySem.W.nsIn K mainGlobals "Alarm" = some (some (.ref C0)))
    (gC1 : PySem.W.nsIn K mainGlobals "InvalidAnswers" = some (some (.ref C1)))
    (gC2 : PySem.W.nsIn K mainGlobals "InvalidAlarm" = some (some (.ref C2)))
    (gC3 : PySem.W.nsIn K mainGlobals "InvalidState" = some (some (.ref C3)))
    (gC4 : PySem.W.nsIn K mainGlobals "InvalidMoves" = some (some (.ref C4)))
    (gGE : PySem.W.nsIn K mainGlobals "GrainError" = some (some (.ref GE)))
    (a13 : PySem.W.findIn K (.ref C0) "size" = some (some (.ref f13)))
    (a14 : PySem.W.findIn K (.ref C0) "_next" = some (some (.ref f14)))
    (a15 : PySem.W.findIn K (.ref C0) "moves" = some (some (.ref f15)))
    (in0 : PySem.W.findIn K (.ref C0) "__init__" = some (some (.ref f12)))
    (ei1 : PySem.W.findIn K (.ref C1) "__init__" = some (some (.ref f5)))
    (ei2 : PySem.W.findIn K (.ref C2) "__init__" = some (some (.ref f6)))
    (ei3 : PySem.W.findIn K (.ref C3) "__init__" = some (some (.ref f7)))
    (ei4 : PySem.W.findIn K (.ref C4) "__init__" = some (some (.ref f8)))
    (l0 : K.lookup f0 = some ⟨oc0, od0, .func (PySem.W.fnOf "is_list" "is_list" (defArgs st_is_list) (defBody st_is_list) (defScope st_is_list) .none kV0 dc0 pm0 an0 cd0 ct0), sl0⟩)
    (l1 : K.lookup f1 = some ⟨oc1, od1, .func (PySem.W.fnOf "is_integer" "is_integer" (defArgs st_is_integer) (defBody st_is_integer) (defScope st_is_integer) .none kV1 dc1 pm1 an1 cd1 ct1), sl1⟩)
    (l2 : K.lookup f2 = some ⟨oc2, od2, .func (PySem.W.fnOf "is_value" "is_value" (defArgs st_is_value) (defBody st_is_value) (defScope st_is_value) .none kV2 dc2 pm2 an2 cd2 ct2), sl2⟩)
    (l3 : K.lookup f3 = some ⟨oc3, od3, .func (PySem.W.fnOf "is_count" "is_count" (defArgs st_is_count) (defBody st_is_count) (defScope st_is_count) .none kV3 dc3 pm3 an3 cd3 ct3), sl3⟩)
    (l4 : K.lookup f4 = some ⟨oc4, od4, .func (PySem.W.fnOf "is_fraction" "is_fraction" (defArgs st_is_fraction) (defBody st_is_fraction) (defScope st_is_fraction) .none kV4 dc4 pm4 an4 cd4 ct4), sl4⟩)
    (l5 : K.lookup f5 = some ⟨oc5, od5, .func (PySem.W.fnOf "__init__" "InvalidAnswers.__init__" (defArgs st_InvalidAnswers___init) (defBody st_InvalidAnswers___init) (defScope st_InvalidAnswers___init) .none kV5 dc5 pm5 an5 cd5 ct5), sl5⟩)
    (l6 : K.lookup f6 = some ⟨oc6, od6, .func (PySem.W.fnOf "__init__" "InvalidAlarm.__init__" (defArgs st_InvalidAlarm___init) (defBody st_InvalidAlarm___init) (defScope st_InvalidAlarm___init) .none kV6 dc6 pm6 an6 cd6 ct6), sl6⟩)
    (l7 : K.lookup f7 = some ⟨oc7, od7, .func (PySem.W.fnOf "__init__" "InvalidState.__init__" (defArgs st_InvalidState___init) (defBody st_InvalidState___init) (defScope st_InvalidState___init) .none kV7 dc7 pm7 an7 cd7 ct7), sl7⟩)
    (l8 : K.lookup f8 = some ⟨oc8, od8, .func (PySem.W.fnOf "__init__" "InvalidMoves.__init__" (defArgs st_InvalidMoves___init) (defBody st_InvalidMoves___init) (defScope st_InvalidMoves___init) .none kV8 dc8 pm8 an8 cd8 ct8), sl8⟩)
    (l9 : K.lookup f9 = some ⟨oc9, od9, .func (PySem.W.fnOf "is_run" "is_run" (defArgs st_is_run) (defBody st_is_run) (defScope st_is_run) .none kV9 dc9 pm9 an9 cd9 ct9), sl9⟩)
    (l10 : K.lookup f10 = some ⟨oc10, od10, .func (PySem.W.fnOf "is_told_answer" "is_told_answer" (defArgs st_is_told_answer) (defBody st_is_told_answer) (defScope st_is_told_answer) .none kV10 dc10 pm10 an10 cd10 ct10), sl10⟩)
    (l11 : K.lookup f11 = some ⟨oc11, od11, .func (PySem.W.fnOf "check_answers" "check_answers" (defArgs st_check_answers) (defBody st_check_answers) (defScope st_check_answers) .none kV11 dc11 pm11 an11 cd11 ct11), sl11⟩)
    (l12 : K.lookup f12 = some ⟨oc12, od12, .func (PySem.W.fnOf "__init__" "Alarm.__init__" (defArgs st_Alarm___init) (defBody st_Alarm___init) (defScope st_Alarm___init) (.ref T12) kV12 dc12 pm12 an12 cd12 ct12), sl12⟩)
    (l13 : K.lookup f13 = some ⟨oc13, od13, .func (PySem.W.fnOf "size" "Alarm.size" (defArgs st_Alarm_size) (defBody st_Alarm_size) (defScope st_Alarm_size) .none kV13 dc13 pm13 an13 cd13 ct13), sl13⟩)
    (l14 : K.lookup f14 = some ⟨oc14, od14, .func (PySem.W.fnOf "_next" "Alarm._next" (defArgs st_Alarm__next) (defBody st_Alarm__next) (defScope st_Alarm__next) .none kV14 dc14 pm14 an14 cd14 ct14), sl14⟩)
    (l15 : K.lookup f15 = some ⟨oc15, od15, .func (PySem.W.fnOf "moves" "Alarm.moves" (defArgs st_Alarm_moves) (defBody st_Alarm_moves) (defScope st_Alarm_moves) .none kV15 dc15 pm15 an15 cd15 ct15), sl15⟩)
    (l16 : K.lookup f16 = some ⟨oc16, od16, .func (PySem.W.fnOf "are_moves" "are_moves" (defArgs st_are_moves) (defBody st_are_moves) (defScope st_are_moves) .none kV16 dc16 pm16 an16 cd16 ct16), sl16⟩)
    (l17 : K.lookup f17 = some ⟨oc17, od17, .func (PySem.W.fnOf "then" "then" (defArgs st_then) (defBody st_then) (defScope st_then) .none kV17 dc17 pm17 an17 cd17 ct17), sl17⟩)
    (l18 : K.lookup f18 = some ⟨oc18, od18, .func (PySem.W.fnOf "possible" "possible" (defArgs st_possible) (defBody st_possible) (defScope st_possible) .none kV18 dc18 pm18 an18 cd18 ct18), sl18⟩)
    (l19 : K.lookup f19 = some ⟨oc19, od19, .func (PySem.W.fnOf "settled" "settled" (defArgs st_settled) (defBody st_settled) (defScope st_settled) .none kV19 dc19 pm19 an19 cd19 ct19), sl19⟩)
    (l20 : K.lookup f20 = some ⟨oc20, od20, .func (PySem.W.fnOf "_law_cell" "_law_cell" (defArgs st_law_cell) (defBody st_law_cell) (defScope st_law_cell) .none kV20 dc20 pm20 an20 cd20 ct20), sl20⟩)
    (l21 : K.lookup f21 = some ⟨oc21, od21, .func (PySem.W.fnOf "_law_box" "_law_box" (defArgs st_law_box) (defBody st_law_box) (defScope st_law_box) .none kV21 dc21 pm21 an21 cd21 ct21), sl21⟩)
    (l22 : K.lookup f22 = some ⟨oc22, od22, .func (PySem.W.fnOf "_law_take" "_law_take" (defArgs st_law_take) (defBody st_law_take) (defScope st_law_take) .none kV22 dc22 pm22 an22 cd22 ct22), sl22⟩)
    (l23 : K.lookup f23 = some ⟨oc23, od23, .func (PySem.W.fnOf "_law_alarm" "_law_alarm" (defArgs st_law_alarm) (defBody st_law_alarm) (defScope st_law_alarm) .none kV23 dc23 pm23 an23 cd23 ct23), sl23⟩)
    (l24 : K.lookup f24 = some ⟨oc24, od24, .func (PySem.W.fnOf "_law_one" "_law_one" (defArgs st_law_one) (defBody st_law_one) (defScope st_law_one) .none kV24 dc24 pm24 an24 cd24 ct24), sl24⟩)
    (l25 : K.lookup f25 = some ⟨oc25, od25, .func (PySem.W.fnOf "_law_lowest" "_law_lowest" (defArgs st_law_lowest) (defBody st_law_lowest) (defScope st_law_lowest) .none kV25 dc25 pm25 an25 cd25 ct25), sl25⟩)
    (l26 : K.lookup f26 = some ⟨oc26, od26, .func (PySem.W.fnOf "_law_is_high" "_law_is_high" (defArgs st_law_is_high) (defBody st_law_is_high) (defScope st_law_is_high) .none kV26 dc26 pm26 an26 cd26 ct26), sl26⟩)
    (l27 : K.lookup f27 = some ⟨oc27, od27, .func (PySem.W.fnOf "_law_is_low" "_law_is_low" (defArgs st_law_is_low) (defBody st_law_is_low) (defScope st_law_is_low) .none kV27 dc27 pm27 an27 cd27 ct27), sl27⟩)
    (l28 : K.lookup f28 = some ⟨oc28, od28, .func (PySem.W.fnOf "_law_states" "_law_states" (defArgs st_law_states) (defBody st_law_states) (defScope st_law_states) .none kV28 dc28 pm28 an28 cd28 ct28), sl28⟩)
    (l29 : K.lookup f29 = some ⟨oc29, od29, .func (PySem.W.fnOf "_law_runs_in" "_law_runs_in" (defArgs st_law_runs_in) (defBody st_law_runs_in) (defScope st_law_runs_in) .none kV29 dc29 pm29 an29 cd29 ct29), sl29⟩)
    (l30 : K.lookup f30 = some ⟨oc30, od30, .func (PySem.W.fnOf "_law_row" "_law_row" (defArgs st_law_row) (defBody st_law_row) (defScope st_law_row) .none kV30 dc30 pm30 an30 cd30 ct30), sl30⟩)
    (l31 : K.lookup f31 = some ⟨oc31, od31, .func (PySem.W.fnOf "_law_moves" "_law_moves" (defArgs st_law_moves) (defBody st_law_moves) (defScope st_law_moves) .none kV31 dc31 pm31 an31 cd31 ct31), sl31⟩)
    (l32 : K.lookup f32 = some ⟨oc32, od32, .func (PySem.W.fnOf "_law_put_together" "_law_put_together" (defArgs st_law_put_together) (defBody st_law_put_together) (defScope st_law_put_together) .none kV32 dc32 pm32 an32 cd32 ct32), sl32⟩)
    (l33 : K.lookup f33 = some ⟨oc33, od33, .func (PySem.W.fnOf "_law_row_right" "_law_row_right" (defArgs st_law_row_right) (defBody st_law_row_right) (defScope st_law_row_right) .none kV33 dc33 pm33 an33 cd33 ct33), sl33⟩)
    (l34 : K.lookup f34 = some ⟨oc34, od34, .func (PySem.W.fnOf "_law_refused" "_law_refused" (defArgs st_law_refused) (defBody st_law_refused) (defScope st_law_refused) .none kV34 dc34 pm34 an34 cd34 ct34), sl34⟩)
    (l35 : K.lookup f35 = some ⟨oc35, od35, .func (PySem.W.fnOf "_law_not_moves" "_law_not_moves" (defArgs st_law_not_moves) (defBody st_law_not_moves) (defScope st_law_not_moves) .none kV35 dc35 pm35 an35 cd35 ct35), sl35⟩)
    (l36 : K.lookup f36 = some ⟨oc36, od36, .func (PySem.W.fnOf "_law_by_hand_right" "_law_by_hand_right" (defArgs st_law_by_hand_right) (defBody st_law_by_hand_right) (defScope st_law_by_hand_right) .none kV36 dc36 pm36 an36 cd36 ct36), sl36⟩)
    (l37 : K.lookup f37 = some ⟨oc37, od37, .func (PySem.W.fnOf "_law_answers_refused" "_law_answers_refused" (defArgs st_law_answers_refused) (defBody st_law_answers_refused) (defScope st_law_answers_refused) .none kV37 dc37 pm37 an37 cd37 ct37), sl37⟩)
    (l38 : K.lookup f38 = some ⟨oc38, od38, .func (PySem.W.fnOf "_law_right" "_law_right" (defArgs st_law_right) (defBody st_law_right) (defScope st_law_right) .none kV38 dc38 pm38 an38 cd38 ct38), sl38⟩)
    (l39 : K.lookup f39 = some ⟨oc39, od39, .func (PySem.W.fnOf "law" "law" (defArgs st_law) (defBody st_law) (defScope st_law) .none kV39 dc39 pm39 an39 cd39 ct39), sl39⟩)
    (xl1 : K.lookup C1 = some (excClassObj en1 eq1 C1 EN1 eb1 [.ref GE, .type "Exception", .type "BaseException", .type "object"] true es1 eu1 ea1 ec1 ed1 ek1 el1 em1 eo1 ep1 "Exception.__new__"))
    (xl2 : K.lookup C2 = some (excClassObj en2 eq2 C2 EN2 eb2 [.ref GE, .type "Exception", .type "BaseException", .type "object"] true es2 eu2 ea2 ec2 ed2 ek2 el2 em2 eo2 ep2 "Exception.__new__"))
    (xl3 : K.lookup C3 = some (excClassObj en3 eq3 C3 EN3 eb3 [.ref GE, .type "Exception", .type "BaseException", .type "object"] true es3 eu3 ea3 ec3 ed3 ek3 el3 em3 eo3 ep3 "Exception.__new__"))
    (xl4 : K.lookup C4 = some (excClassObj en4 eq4 C4 EN4 eb4 [.ref GE, .type "Exception", .type "BaseException", .type "object"] true es4 eu4 ea4 ec4 ed4 ek4 el4 em4 eo4 ep4 "Exception.__new__"))
    (c0 : PySem.W.codeIn K cd0 "is_list" = true)
    (k0 : PySem.W.keepIn K (.ref f0) = true)
    (c1 : PySem.W.codeIn K cd1 "is_integer" = true)
    (k1 : PySem.W.keepIn K (.ref f1) = true)
    (c2 : PySem.W.codeIn K cd2 "is_value" = true)
    (k2 : PySem.W.keepIn K (.ref f2) = true)
    (c3 : PySem.W.codeIn K cd3 "is_count" = true)
    (k3 : PySem.W.keepIn K (.ref f3) = true)
    (c4 : PySem.W.codeIn K cd4 "is_fraction" = true)
    (k4 : PySem.W.keepIn K (.ref f4) = true)
    (c5 : PySem.W.codeIn K cd5 "InvalidAnswers.__init__" = true)
    (k5 : PySem.W.keepIn K (.ref f5) = true)
    (c6 : PySem.W.codeIn K cd6 "InvalidAlarm.__init__" = true)
    (k6 : PySem.W.keepIn K (.ref f6) = true)
    (c7 : PySem.W.codeIn K cd7 "InvalidState.__init__" = true)
    (k7 : PySem.W.keepIn K (.ref f7) = true)
    (c8 : PySem.W.codeIn K cd8 "InvalidMoves.__init__" = true)
    (k8 : PySem.W.keepIn K (.ref f8) = true)
    (c9 : PySem.W.codeIn K cd9 "is_run" = true)
    (k9 : PySem.W.keepIn K (.ref f9) = true)
    (c10 : PySem.W.codeIn K cd10 "is_told_answer" = true)
    (k10 : PySem.W.keepIn K (.ref f10) = true)
    (c11 : PySem.W.codeIn K cd11 "check_answers" = true)
    (k11 : PySem.W.keepIn K (.ref f11) = true)
    (c12 : PySem.W.codeIn K cd12 "Alarm.__init__" = true)
    (k12 : PySem.W.keepIn K (.ref f12) = true)
    (t12 : K.lookup T12 = some ⟨tc12, td12, .seq [.int 1 tk12_0, .int 1 tk12_1].toArray tn12, ts12⟩)
    (c13 : PySem.W.codeIn K cd13 "Alarm.size" = true)
    (k13 : PySem.W.keepIn K (.ref f13) = true)
    (n13 : PySem.W.isFn K (.ref f13) = true)
    (c14 : PySem.W.codeIn K cd14 "Alarm._next" = true)
    (k14 : PySem.W.keepIn K (.ref f14) = true)
    (n14 : PySem.W.isFn K (.ref f14) = true)
    (c15 : PySem.W.codeIn K cd15 "Alarm.moves" = true)
    (k15 : PySem.W.keepIn K (.ref f15) = true)
    (n15 : PySem.W.isFn K (.ref f15) = true)
    (c16 : PySem.W.codeIn K cd16 "are_moves" = true)
    (k16 : PySem.W.keepIn K (.ref f16) = true)
    (c17 : PySem.W.codeIn K cd17 "then" = true)
    (k17 : PySem.W.keepIn K (.ref f17) = true)
    (c18 : PySem.W.codeIn K cd18 "possible" = true)
    (k18 : PySem.W.keepIn K (.ref f18) = true)
    (c19 : PySem.W.codeIn K cd19 "settled" = true)
    (k19 : PySem.W.keepIn K (.ref f19) = true)
    (c20 : PySem.W.codeIn K cd20 "_law_cell" = true)
    (k20 : PySem.W.keepIn K (.ref f20) = true)
    (c21 : PySem.W.codeIn K cd21 "_law_box" = true)
    (k21 : PySem.W.keepIn K (.ref f21) = true)
    (c22 : PySem.W.codeIn K cd22 "_law_take" = true)
    (k22 : PySem.W.keepIn K (.ref f22) = true)
    (c23 : PySem.W.codeIn K cd23 "_law_alarm" = true)
    (k23 : PySem.W.keepIn K (.ref f23) = true)
    (c24 : PySem.W.codeIn K cd24 "_law_one" = true)
    (k24 : PySem.W.keepIn K (.ref f24) = true)
    (c25 : PySem.W.codeIn K cd25 "_law_lowest" = true)
    (k25 : PySem.W.keepIn K (.ref f25) = true)
    (c26 : PySem.W.codeIn K cd26 "_law_is_high" = true)
    (k26 : PySem.W.keepIn K (.ref f26) = true)
    (c27 : PySem.W.codeIn K cd27 "_law_is_low" = true)
    (k27 : PySem.W.keepIn K (.ref f27) = true)
    (c28 : PySem.W.codeIn K cd28 "_law_states" = true)
    (k28 : PySem.W.keepIn K (.ref f28) = true)
    (c29 : PySem.W.codeIn K cd29 "_law_runs_in" = true)
    (k29 : PySem.W.keepIn K (.ref f29) = true)
    (c30 : PySem.W.codeIn K cd30 "_law_row" = true)
    (k30 : PySem.W.keepIn K (.ref f30) = true)
    (c31 : PySem.W.codeIn K cd31 "_law_moves" = true)
    (k31 : PySem.W.keepIn K (.ref f31) = true)
    (c32 : PySem.W.codeIn K cd32 "_law_put_together" = true)
    (k32 : PySem.W.keepIn K (.ref f32) = true)
    (c33 : PySem.W.codeIn K cd33 "_law_row_right" = true)
    (k33 : PySem.W.keepIn K (.ref f33) = true)
    (c34 : PySem.W.codeIn K cd34 "_law_refused" = true)
    (k34 : PySem.W.keepIn K (.ref f34) = true)
    (c35 : PySem.W.codeIn K cd35 "_law_not_moves" = true)
    (k35 : PySem.W.keepIn K (.ref f35) = true)
    (c36 : PySem.W.codeIn K cd36 "_law_by_hand_right" = true)
    (k36 : PySem.W.keepIn K (.ref f36) = true)
    (c37 : PySem.W.codeIn K cd37 "_law_answers_refused" = true)
    (k37 : PySem.W.keepIn K (.ref f37) = true)
    (c38 : PySem.W.codeIn K cd38 "_law_right" = true)
    (k38 : PySem.W.keepIn K (.ref f38) = true)
    (c39 : PySem.W.codeIn K cd39 "law" = true)
    (k39 : PySem.W.keepIn K (.ref f39) = true)
    (pg0 : PySem.W.plainGet K C0 Str.empty = true)
    (hd0 : PySem.W.hasDictIn K C0 = true)
    (po0 : PySem.W.plainOver K C0 = true)
    (sa0 : PySem.W.findIn K (.ref C0) "__setattr__" = some (some (.builtin "object.__setattr__")))
    (mk0 : PySem.W.makesIn K C0 = true)
    (if0 : PySem.W.isFn K (.ref f12) = true)
    (kc0 : PySem.W.keepIn K (.ref C0) = true)
    (na0_down : PySem.W.findIn K (.ref C0) "down" = some none)
    (na0_fall : PySem.W.findIn K (.ref C0) "fall" = some none)
    (na0_rise : PySem.W.findIn K (.ref C0) "rise" = some none)
    (na0_up : PySem.W.findIn K (.ref C0) "up" = some none)
    (sa1 : PySem.W.findIn K (.ref C1) "__setattr__" = some (some (.builtin "object.__setattr__")))
    (ga1 : PySem.W.findIn K (.ref C1) "__getattribute__" = some (some (.builtin "BaseException.__getattribute__")))
    (gg1 : PySem.W.findIn K (.ref C1) "__getattr__" = some none)
    (ex1 : PySem.W.subIn K (.ref C1) (.type "BaseException") = some true)
    (ty1 : PySem.W.typeIn K (.ref C1) = some (.type "type"))
    (ke1 : PySem.W.keepIn K (.ref C1) = true)
    (he1 : PySem.W.hasDictIn K C1 = true)
    (et1 : PySem.W.typeIn K (.ref f5) = some (.type "function"))
    (en1_given : PySem.W.findIn K (.ref C1) "given" = some none)
    (sa2 : PySem.W.findIn K (.ref C2) "__setattr__" = some (some (.builtin "object.__setattr__")))
    (ga2 : PySem.W.findIn K (.ref C2) "__getattribute__" = some (some (.builtin "BaseException.__getattribute__")))
    (gg2 : PySem.W.findIn K (.ref C2) "__getattr__" = some none)
    (ex2 : PySem.W.subIn K (.ref C2) (.type "BaseException") = some true)
    (ty2 : PySem.W.typeIn K (.ref C2) = some (.type "type"))
    (ke2 : PySem.W.keepIn K (.ref C2) = true)
    (he2 : PySem.W.hasDictIn K C2 = true)
    (et2 : PySem.W.typeIn K (.ref f6) = some (.type "function"))
    (en2_given : PySem.W.findIn K (.ref C2) "given" = some none)
    (sa3 : PySem.W.findIn K (.ref C3) "__setattr__" = some (some (.builtin "object.__setattr__")))
    (ga3 : PySem.W.findIn K (.ref C3) "__getattribute__" = some (some (.builtin "BaseException.__getattribute__")))
    (gg3 : PySem.W.findIn K (.ref C3) "__getattr__" = some none)
    (ex3 : PySem.W.subIn K (.ref C3) (.type "BaseException") = some true)
    (ty3 : PySem.W.typeIn K (.ref C3) = some (.type "type"))
    (ke3 : PySem.W.keepIn K (.ref C3) = true)
    (he3 : PySem.W.hasDictIn K C3 = true)
    (et3 : PySem.W.typeIn K (.ref f7) = some (.type "function"))
    (en3_given : PySem.W.findIn K (.ref C3) "given" = some none)
    (sa4 : PySem.W.findIn K (.ref C4) "__setattr__" = some (some (.builtin "object.__setattr__")))
    (ga4 : PySem.W.findIn K (.ref C4) "__getattribute__" = some (some (.builtin "BaseException.__getattribute__")))
    (gg4 : PySem.W.findIn K (.ref C4) "__getattr__" = some none)
    (ex4 : PySem.W.subIn K (.ref C4) (.type "BaseException") = some true)
    (ty4 : PySem.W.typeIn K (.ref C4) = some (.type "type"))
    (ke4 : PySem.W.keepIn K (.ref C4) = true)
    (he4 : PySem.W.hasDictIn K C4 = true)
    (et4 : PySem.W.typeIn K (.ref f8) = some (.type "function"))
    (en4_given : PySem.W.findIn K (.ref C4) "given" = some none)
    (ic1 : PySem.W.isClsIn K C1 = true)
    (su1_1 : PySem.W.subIn K (.ref C1) (.ref C1) = some true)
    (su2_1 : PySem.W.subIn K (.ref C2) (.ref C1) = some false)
    (su3_1 : PySem.W.subIn K (.ref C3) (.ref C1) = some false)
    (su4_1 : PySem.W.subIn K (.ref C4) (.ref C1) = some false)
    (ic4 : PySem.W.isClsIn K C4 = true)
    (su1_4 : PySem.W.subIn K (.ref C1) (.ref C4) = some false)
    (su2_4 : PySem.W.subIn K (.ref C2) (.ref C4) = some false)
    (su3_4 : PySem.W.subIn K (.ref C3) (.ref C4) = some false)
    (su4_4 : PySem.W.subIn K (.ref C4) (.ref C4) = some true)
    (spGE : PySem.W.specialIn K (.ref GE) "__getattribute__" = some (some (.builtin "type.__getattribute__")))
    (rdGE : PySem.W.readsIn K GE (.type "type") = true)
    (fcGE : PySem.W.findCls K (.ref GE) (.type "type") "__init__" = some (.val (.builtin "Exception.__init__")))
    (zabs : PySem.W.nsIn K mainGlobals "abs" = some none)
    (zall : PySem.W.nsIn K mainGlobals "all" = some none)
    (zbool : PySem.W.nsIn K mainGlobals "bool" = some none)
    (zgcd : PySem.W.nsIn K mainGlobals "gcd" = some (some (.builtin "math.gcd")))
    (zint : PySem.W.nsIn K mainGlobals "int" = some none)
    (zisinstance : PySem.W.nsIn K mainGlobals "isinstance" = some none)
    (zlen : PySem.W.nsIn K mainGlobals "len" = some none)
    (zlist : PySem.W.nsIn K mainGlobals "list" = some none)
    (zmax : PySem.W.nsIn K mainGlobals "max" = some none)
    (zrange : PySem.W.nsIn K mainGlobals "range" = some none)
    (zrepr : PySem.W.nsIn K mainGlobals "repr" = some none)
    (zset : PySem.W.nsIn K mainGlobals "set" = some none)
    (zsorted : PySem.W.nsIn K mainGlobals "sorted" = some none)
    (zstr : PySem.W.nsIn K mainGlobals "str" = some none)
    (zsum : PySem.W.nsIn K mainGlobals "sum" = some none)
    (ztuple : PySem.W.nsIn K mainGlobals "tuple" = some none)
    (zg_MOST_RUN : PySem.W.nsIn K mainGlobals "MOST_RUN" = some (some (.int 9 tg_MOST_RUN)))
    : ∃ (g : Gh.G) (fd : FuncData), g.K = K ∧ (∀ (s : Shared) (u : Value), BindsTo s fd ⟨[u], []⟩ [("script", u)]) ∧ ∀ base : Heap, K.In base → base.Ns mainGlobals mg → FnG P w K mg base 10 fa fd ["script"] (spP g 1 P_law) := by
  have e : f39 = fa := by
    have e := hfa.symm.trans (PySem.W.mg_of X G m39)
    injection e with e
    injection e with e
    exact e.symm
  subst e
  have T : Tx K mg (fun n => match n with | 0 => f0 | 1 => f1 | 2 => f2 | 3 => f3 | 4 => f4 | 5 => f5 | 6 => f6 | 7 => f7 | 8 => f8 | 9 => f9 | 10 => f10 | 11 => f11 | 12 => f12 | 13 => f13 | 14 => f14 | 15 => f15 | 16 => f16 | 17 => f17 | 18 => f18 | 19 => f19 | 20 => f20 | 21 => f21 | 22 => f22 | 23 => f23 | 24 => f24 | 25 => f25 | 26 => f26 | 27 => f27 | 28 => f28 | 29 => f29 | 30 => f30 | 31 => f31 | 32 => f32 | 33 => f33 | 34 => f34 | 35 => f35 | 36 => f36 | 37 => f37 | 38 => f38 | 39 => f39 | _ => f39) (fun n => match n with | 0 => PySem.W.fnOf "is_list" "is_list" (defArgs st_is_list) (defBody st_is_list) (defScope st_is_list) .none kV0 dc0 pm0 an0 cd0 ct0 | 1 => PySem.W.fnOf "is_integer" "is_integer" (defArgs st_is_integer) (defBody st_is_integer) (defScope st_is_integer) .none kV1 dc1 pm1 an1 cd1 ct1 | 2 => PySem.W.fnOf "is_value" "is_value" (defArgs st_is_value) (defBody st_is_value) (defScope st_is_value) .none kV2 dc2 pm2 an2 cd2 ct2 | 3 => PySem.W.fnOf "is_count" "is_count" (defArgs st_is_count) (defBody st_is_count) (defScope st_is_count) .none kV3 dc3 pm3 an3 cd3 ct3 | 4 => PySem.W.fnOf "is_fraction" "is_fraction" (defArgs st_is_fraction) (defBody st_is_fraction) (defScope st_is_fraction) .none kV4 dc4 pm4 an4 cd4 ct4 | 5 => PySem.W.fnOf "__init__" "InvalidAnswers.__init__" (defArgs st_InvalidAnswers___init) (defBody st_InvalidAnswers___init) (defScope st_InvalidAnswers___init) .none kV5 dc5 pm5 an5 cd5 ct5 | 6 => PySem.W.fnOf "__init__" "InvalidAlarm.__init__" (defArgs st_InvalidAlarm___init) (defBody st_InvalidAlarm___init) (defScope st_InvalidAlarm___init) .none kV6 dc6 pm6 an6 cd6 ct6 | 7 => PySem.W.fnOf "__init__" "InvalidState.__init__" (defArgs st_InvalidState___init) (defBody st_InvalidState___init) (defScope st_InvalidState___init) .none kV7 dc7 pm7 an7 cd7 ct7 | 8 => PySem.W.fnOf "__init__" "InvalidMoves.__init__" (defArgs st_InvalidMoves___init) (defBody st_InvalidMoves___init) (defScope st_InvalidMoves___init) .none kV8 dc8 pm8 an8 cd8 ct8 | 9 => PySem.W.fnOf "is_run" "is_run" (defArgs st_is_run) (defBody st_is_run) (defScope st_is_run) .none kV9 dc9 pm9 an9 cd9 ct9 | 10 => PySem.W.fnOf "is_told_answer" "is_told_answer" (defArgs st_is_told_answer) (defBody st_is_told_answer) (defScope st_is_told_answer) .none kV10 dc10 pm10 an10 cd10 ct10 | 11 => PySem.W.fnOf "check_answers" "check_answers" (defArgs st_check_answers) (defBody st_check_answers) (defScope st_check_answers) .none kV11 dc11 pm11 an11 cd11 ct11 | 12 => PySem.W.fnOf "__init__" "Alarm.__init__" (defArgs st_Alarm___init) (defBody st_Alarm___init) (defScope st_Alarm___init) (.ref T12) kV12 dc12 pm12 an12 cd12 ct12 | 13 => PySem.W.fnOf "size" "Alarm.size" (defArgs st_Alarm_size) (defBody st_Alarm_size) (defScope st_Alarm_size) .none kV13 dc13 pm13 an13 cd13 ct13 | 14 => PySem.W.fnOf "_next" "Alarm._next" (defArgs st_Alarm__next) (defBody st_Alarm__next) (defScope st_Alarm__next) .none kV14 dc14 pm14 an14 cd14 ct14 | 15 => PySem.W.fnOf "moves" "Alarm.moves" (defArgs st_Alarm_moves) (defBody st_Alarm_moves) (defScope st_Alarm_moves) .none kV15 dc15 pm15 an15 cd15 ct15 | 16 => PySem.W.fnOf "are_moves" "are_moves" (defArgs st_are_moves) (defBody st_are_moves) (defScope st_are_moves) .none kV16 dc16 pm16 an16 cd16 ct16 | 17 => PySem.W.fnOf "then" "then" (defArgs st_then) (defBody st_then) (defScope st_then) .none kV17 dc17 pm17 an17 cd17 ct17 | 18 => PySem.W.fnOf "possible" "possible" (defArgs st_possible) (defBody st_possible) (defScope st_possible) .none kV18 dc18 pm18 an18 cd18 ct18 | 19 => PySem.W.fnOf "settled" "settled" (defArgs st_settled) (defBody st_settled) (defScope st_settled) .none kV19 dc19 pm19 an19 cd19 ct19 | 20 => PySem.W.fnOf "_law_cell" "_law_cell" (defArgs st_law_cell) (defBody st_law_cell) (defScope st_law_cell) .none kV20 dc20 pm20 an20 cd20 ct20 | 21 => PySem.W.fnOf "_law_box" "_law_box" (defArgs st_law_box) (defBody st_law_box) (defScope st_law_box) .none kV21 dc21 pm21 an21 cd21 ct21 | 22 => PySem.W.fnOf "_law_take" "_law_take" (defArgs st_law_take) (defBody st_law_take) (defScope st_law_take) .none kV22 dc22 pm22 an22 cd22 ct22 | 23 => PySem.W.fnOf "_law_alarm" "_law_alarm" (defArgs st_law_alarm) (defBody st_law_alarm) (defScope st_law_alarm) .none kV23 dc23 pm23 an23 cd23 ct23 | 24 => PySem.W.fnOf "_law_one" "_law_one" (defArgs st_law_one) (defBody st_law_one) (defScope st_law_one) .none kV24 dc24 pm24 an24 cd24 ct24 | 25 => PySem.W.fnOf "_law_lowest" "_law_lowest" (defArgs st_law_lowest) (defBody st_law_lowest) (defScope st_law_lowest) .none kV25 dc25 pm25 an25 cd25 ct25 | 26 => PySem.W.fnOf "_law_is_high" "_law_is_high" (defArgs st_law_is_high) (defBody st_law_is_high) (defScope st_law_is_high) .none kV26 dc26 pm26 an26 cd26 ct26 | 27 => PySem.W.fnOf "_law_is_low" "_law_is_low" (defArgs st_law_is_low) (defBody st_law_is_low) (defScope st_law_is_low) .none kV27 dc27 pm27 an27 cd27 ct27 | 28 => PySem.W.fnOf "_law_states" "_law_states" (defArgs st_law_states) (defBody st_law_states) (defScope st_law_states) .none kV28 dc28 pm28 an28 cd28 ct28 | 29 => PySem.W.fnOf "_law_runs_in" "_law_runs_in" (defArgs st_law_runs_in) (defBody st_law_runs_in) (defScope st_law_runs_in) .none kV29 dc29 pm29 an29 cd29 ct29 | 30 => PySem.W.fnOf "_law_row" "_law_row" (defArgs st_law_row) (defBody st_law_row) (defScope st_law_row) .none kV30 dc30 pm30 an30 cd30 ct30 | 31 => PySem.W.fnOf "_law_moves" "_law_moves" (defArgs st_law_moves) (defBody st_law_moves) (defScope st_law_moves) .none kV31 dc31 pm31 an31 cd31 ct31 | 32 => PySem.W.fnOf "_law_put_together" "_law_put_together" (defArgs st_law_put_together) (defBody st_law_put_together) (defScope st_law_put_together) .none kV32 dc32 pm32 an32 cd32 ct32 | 33 => PySem.W.fnOf "_law_row_right" "_law_row_right" (defArgs st_law_row_right) (defBody st_law_row_right) (defScope st_law_row_right) .none kV33 dc33 pm33 an33 cd33 ct33 | 34 => PySem.W.fnOf "_law_refused" "_law_refused" (defArgs st_law_refused) (defBody st_law_refused) (defScope st_law_refused) .none kV34 dc34 pm34 an34 cd34 ct34 | 35 => PySem.W.fnOf "_law_not_moves" "_law_not_moves" (defArgs st_law_not_moves) (defBody st_law_not_moves) (defScope st_law_not_moves) .none kV35 dc35 pm35 an35 cd35 ct35 | 36 => PySem.W.fnOf "_law_by_hand_right" "_law_by_hand_right" (defArgs st_law_by_hand_right) (defBody st_law_by_hand_right) (defScope st_law_by_hand_right) .none kV36 dc36 pm36 an36 cd36 ct36 | 37 => PySem.W.fnOf "_law_answers_refused" "_law_answers_refused" (defArgs st_law_answers_refused) (defBody st_law_answers_refused) (defScope st_law_answers_refused) .none kV37 dc37 pm37 an37 cd37 ct37 | 38 => PySem.W.fnOf "_law_right" "_law_right" (defArgs st_law_right) (defBody st_law_right) (defScope st_law_right) .none kV38 dc38 pm38 an38 cd38 ct38 | 39 => PySem.W.fnOf "law" "law" (defArgs st_law) (defBody st_law) (defScope st_law) .none kV39 dc39 pm39 an39 cd39 ct39 | _ => PySem.W.fnOf "law" "law" (defArgs st_law) (defBody st_law) (defScope st_law) .none kV39 dc39 pm39 an39 cd39 ct39) (fun n => match n with | 0 => C0 | 1 => C1 | 2 => C2 | 3 => C3 | 4 => C4 | _ => GE) :=
    { d_is_list := ⟨⟨_, _, _, _, _, _, _, _, _, _, rfl, l0, c0, .inl ⟨rfl, rfl⟩, .inl rfl⟩, k0⟩,
      m_is_list := PySem.W.mg_of X G m0,
      kp_is_list := k0,
      d_is_integer := ⟨⟨_, _, _, _, _, _, _, _, _, _, rfl, l1, c1, .inl ⟨rfl, rfl⟩, .inl rfl⟩, k1⟩,
      m_is_integer := PySem.W.mg_of X G m1,
      kp_is_integer := k1,
      d_is_value := ⟨⟨_, _, _, _, _, _, _, _, _, _, rfl, l2, c2, .inl ⟨rfl, rfl⟩, .inl rfl⟩, k2⟩,
      m_is_value := PySem.W.mg_of X G m2,
      kp_is_value := k2,
      d_is_count := ⟨⟨_, _, _, _, _, _, _, _, _, _, rfl, l3, c3, .inl ⟨rfl, rfl⟩, .inl rfl⟩, k3⟩,
      m_is_count := PySem.W.mg_of X G m3,
      kp_is_count := k3,
      d_is_fraction := ⟨⟨_, _, _, _, _, _, _, _, _, _, rfl, l4, c4, .inl ⟨rfl, rfl⟩, .inl rfl⟩, k4⟩,
      m_is_fraction := PySem.W.mg_of X G m4,
      kp_is_fraction := k4,
      d_InvalidAnswers___init := ⟨⟨_, _, _, _, _, _, _, _, _, _, rfl, l5, c5, .inl ⟨rfl, rfl⟩, .inl rfl⟩, k5⟩,
      d_InvalidAlarm___init := ⟨⟨_, _, _, _, _, _, _, _, _, _, rfl, l6, c6, .inl ⟨rfl, rfl⟩, .inl rfl⟩, k6⟩,
      d_InvalidState___init := ⟨⟨_, _, _, _, _, _, _, _, _, _, rfl, l7, c7, .inl ⟨rfl, rfl⟩, .inl rfl⟩, k7⟩,
      d_InvalidMoves___init := ⟨⟨_, _, _, _, _, _, _, _, _, _, rfl, l8, c8, .inl ⟨rfl, rfl⟩, .inl rfl⟩, k8⟩,
      d_is_run := ⟨⟨_, _, _, _, _, _, _, _, _, _, rfl, l9, c9, .inl ⟨rfl, rfl⟩, .inl rfl⟩, k9⟩,
      m_is_run := PySem.W.mg_of X G m9,
      kp_is_run := k9,
      d_is_told_answer := ⟨⟨_, _, _, _, _, _, _, _, _, _, rfl, l10, c10, .inl ⟨rfl, rfl⟩, .inl rfl⟩, k10⟩,
      m_is_told_answer := PySem.W.mg_of X G m10,
      kp_is_told_answer := k10,
      d_check_answers := ⟨⟨_, _, _, _, _, _, _, _, _, _, rfl, l11, c11, .inl ⟨rfl, rfl⟩, .inl rfl⟩, k11⟩,
      m_check_answers := PySem.W.mg_of X G m11,
      kp_check_answers := k11,
      d_Alarm___init := ⟨⟨_, _, _, _, _, _, _, _, _, _, rfl, l12, c12, .inr ⟨by simp, T12, _, [.int 1 tk12_0, .int 1 tk12_1], tn12, rfl, t12, rfl, (.cons ⟨_, rfl⟩ (.cons ⟨_, rfl⟩ .nil))⟩, .inl rfl⟩, k12⟩,
      d_Alarm_size := ⟨⟨_, _, _, _, _, _, _, _, _, _, rfl, l13, c13, .inl ⟨rfl, rfl⟩, .inl rfl⟩, k13⟩,
      me_Alarm_size := ⟨a13, n13, k13⟩,
      d_Alarm__next := ⟨⟨_, _, _, _, _, _, _, _, _, _, rfl, l14, c14, .inl ⟨rfl, rfl⟩, .inl rfl⟩, k14⟩,
      me_Alarm__next := ⟨a14, n14, k14⟩,
      d_Alarm_moves := ⟨⟨_, _, _, _, _, _, _, _, _, _, rfl, l15, c15, .inl ⟨rfl, rfl⟩, .inl rfl⟩, k15⟩,
      me_Alarm_moves := ⟨a15, n15, k15⟩,
      d_are_moves := ⟨⟨_, _, _, _, _, _, _, _, _, _, rfl, l16, c16, .inl ⟨rfl, rfl⟩, .inl rfl⟩, k16⟩,
      m_are_moves := PySem.W.mg_of X G m16,
      kp_are_moves := k16,
      d_then := ⟨⟨_, _, _, _, _, _, _, _, _, _, rfl, l17, c17, .inl ⟨rfl, rfl⟩, .inl rfl⟩, k17⟩,
      m_then := PySem.W.mg_of X G m17,
      kp_then := k17,
      d_possible := ⟨⟨_, _, _, _, _, _, _, _, _, _, rfl, l18, c18, .inl ⟨rfl, rfl⟩, .inl rfl⟩, k18⟩,
      m_possible := PySem.W.mg_of X G m18,
      kp_possible := k18,
      d_settled := ⟨⟨_, _, _, _, _, _, _, _, _, _, rfl, l19, c19, .inl ⟨rfl, rfl⟩, .inl rfl⟩, k19⟩,
      m_settled := PySem.W.mg_of X G m19,
      kp_settled := k19,
      d_law_cell := ⟨⟨_, _, _, _, _, _, _, _, _, _, rfl, l20, c20, .inl ⟨rfl, rfl⟩, .inl rfl⟩, k20⟩,
      m_law_cell := PySem.W.mg_of X G m20,
      kp_law_cell := k20,
      d_law_box := ⟨⟨_, _, _, _, _, _, _, _, _, _, rfl, l21, c21, .inl ⟨rfl, rfl⟩, .inl rfl⟩, k21⟩,
      m_law_box := PySem.W.mg_of X G m21,
      kp_law_box := k21,
      d_law_take := ⟨⟨_, _, _, _, _, _, _, _, _, _, rfl, l22, c22, .inl ⟨rfl, rfl⟩, .inl rfl⟩, k22⟩,
      m_law_take := PySem.W.mg_of X G m22,
      kp_law_take := k22,
      d_law_alarm := ⟨⟨_, _, _, _, _, _, _, _, _, _, rfl, l23, c23, .inl ⟨rfl, rfl⟩, .inl rfl⟩, k23⟩,
      m_law_alarm := PySem.W.mg_of X G m23,
      kp_law_alarm := k23,
      d_law_one := ⟨⟨_, _, _, _, _, _, _, _, _, _, rfl, l24, c24, .inl ⟨rfl, rfl⟩, .inl rfl⟩, k24⟩,
      m_law_one := PySem.W.mg_of X G m24,
      kp_law_one := k24,
      d_law_lowest := ⟨⟨_, _, _, _, _, _, _, _, _, _, rfl, l25, c25, .inl ⟨rfl, rfl⟩, .inl rfl⟩, k25⟩,
      m_law_lowest := PySem.W.mg_of X G m25,
      kp_law_lowest := k25,
      d_law_is_high := ⟨⟨_, _, _, _, _, _, _, _, _, _, rfl, l26, c26, .inl ⟨rfl, rfl⟩, .inl rfl⟩, k26⟩,
      m_law_is_high := PySem.W.mg_of X G m26,
      kp_law_is_high := k26,
      d_law_is_low := ⟨⟨_, _, _, _, _, _, _, _, _, _, rfl, l27, c27, .inl ⟨rfl, rfl⟩, .inl rfl⟩, k27⟩,
      m_law_is_low := PySem.W.mg_of X G m27,
      kp_law_is_low := k27,
      d_law_states := ⟨⟨_, _, _, _, _, _, _, _, _, _, rfl, l28, c28, .inl ⟨rfl, rfl⟩, .inl rfl⟩, k28⟩,
      m_law_states := PySem.W.mg_of X G m28,
      kp_law_states := k28,
      d_law_runs_in := ⟨⟨_, _, _, _, _, _, _, _, _, _, rfl, l29, c29, .inl ⟨rfl, rfl⟩, .inl rfl⟩, k29⟩,
      m_law_runs_in := PySem.W.mg_of X G m29,
      kp_law_runs_in := k29,
      d_law_row := ⟨⟨_, _, _, _, _, _, _, _, _, _, rfl, l30, c30, .inl ⟨rfl, rfl⟩, .inl rfl⟩, k30⟩,
      m_law_row := PySem.W.mg_of X G m30,
      kp_law_row := k30,
      d_law_moves := ⟨⟨_, _, _, _, _, _, _, _, _, _, rfl, l31, c31, .inl ⟨rfl, rfl⟩, .inl rfl⟩, k31⟩,
      m_law_moves := PySem.W.mg_of X G m31,
      kp_law_moves := k31,
      d_law_put_together := ⟨⟨_, _, _, _, _, _, _, _, _, _, rfl, l32, c32, .inl ⟨rfl, rfl⟩, .inl rfl⟩, k32⟩,
      m_law_put_together := PySem.W.mg_of X G m32,
      kp_law_put_together := k32,
      d_law_row_right := ⟨⟨_, _, _, _, _, _, _, _, _, _, rfl, l33, c33, .inl ⟨rfl, rfl⟩, .inl rfl⟩, k33⟩,
      m_law_row_right := PySem.W.mg_of X G m33,
      kp_law_row_right := k33,
      d_law_refused := ⟨⟨_, _, _, _, _, _, _, _, _, _, rfl, l34, c34, .inl ⟨rfl, rfl⟩, .inl rfl⟩, k34⟩,
      m_law_refused := PySem.W.mg_of X G m34,
      kp_law_refused := k34,
      d_law_not_moves := ⟨⟨_, _, _, _, _, _, _, _, _, _, rfl, l35, c35, .inl ⟨rfl, rfl⟩, .inl rfl⟩, k35⟩,
      m_law_not_moves := PySem.W.mg_of X G m35,
      kp_law_not_moves := k35,
      d_law_by_hand_right := ⟨⟨_, _, _, _, _, _, _, _, _, _, rfl, l36, c36, .inl ⟨rfl, rfl⟩, .inl rfl⟩, k36⟩,
      m_law_by_hand_right := PySem.W.mg_of X G m36,
      kp_law_by_hand_right := k36,
      d_law_answers_refused := ⟨⟨_, _, _, _, _, _, _, _, _, _, rfl, l37, c37, .inl ⟨rfl, rfl⟩, .inl rfl⟩, k37⟩,
      m_law_answers_refused := PySem.W.mg_of X G m37,
      kp_law_answers_refused := k37,
      d_law_right := ⟨⟨_, _, _, _, _, _, _, _, _, _, rfl, l38, c38, .inl ⟨rfl, rfl⟩, .inl rfl⟩, k38⟩,
      m_law_right := PySem.W.mg_of X G m38,
      kp_law_right := k38,
      d_law := ⟨⟨_, _, _, _, _, _, _, _, _, _, rfl, l39, c39, .inl ⟨rfl, rfl⟩, .inl rfl⟩, k39⟩,
      m_law := PySem.W.mg_of X G m39,
      kp_law := k39,
      cl_Alarm := ⟨pg0, hd0, po0, sa0⟩,
      mc_Alarm := PySem.W.mg_of X G gC0,
      mk_Alarm := ⟨mk0, in0, if0, kc0⟩,
      na_Alarm_down := na0_down,
      na_Alarm_fall := na0_fall,
      na_Alarm_rise := na0_rise,
      na_Alarm_up := na0_up,
      e_InvalidAnswers := ⟨⟨_, _, _, _, _, _, _, _, _, _, _, _, _, _, _, xl1, (by decide +kernel : (tailE == tailE) = true)⟩, sa1, ga1, gg1, ex1, ty1, ke1, he1⟩,
      mc_InvalidAnswers := PySem.W.mg_of X G gC1,
      ei_InvalidAnswers := ei1,
      et_InvalidAnswers := et1,
      ea_InvalidAnswers_given := en1_given,
      e_InvalidAlarm := ⟨⟨_, _, _, _, _, _, _, _, _, _, _, _, _, _, _, xl2, (by decide +kernel : (tailE == tailE) = true)⟩, sa2, ga2, gg2, ex2, ty2, ke2, he2⟩,
      mc_InvalidAlarm := PySem.W.mg_of X G gC2,
      ei_InvalidAlarm := ei2,
      et_InvalidAlarm := et2,
      ea_InvalidAlarm_given := en2_given,
      e_InvalidState := ⟨⟨_, _, _, _, _, _, _, _, _, _, _, _, _, _, _, xl3, (by decide +kernel : (tailE == tailE) = true)⟩, sa3, ga3, gg3, ex3, ty3, ke3, he3⟩,
      mc_InvalidState := PySem.W.mg_of X G gC3,
      ei_InvalidState := ei3,
      et_InvalidState := et3,
      ea_InvalidState_given := en3_given,
      e_InvalidMoves := ⟨⟨_, _, _, _, _, _, _, _, _, _, _, _, _, _, _, xl4, (by decide +kernel : (tailE == tailE) = true)⟩, sa4, ga4, gg4, ex4, ty4, ke4, he4⟩,
      mc_InvalidMoves := PySem.W.mg_of X G gC4,
      ei_InvalidMoves := ei4,
      et_InvalidMoves := et4,
      ea_InvalidMoves_given := en4_given,
      x_InvalidAnswers := (by
      intro n b h
      have m := mt_mem h
      simp only [mt_InvalidAnswers, List.mem_cons, List.not_mem_nil, or_false, Prod.mk.injEq] at m
      rcases m with ⟨rfl, rfl⟩ | ⟨rfl, rfl⟩ | ⟨rfl, rfl⟩ | ⟨rfl, rfl⟩
      · exact exm_of ex1 ic1 ty1 su1_1
      · exact exm_of ex1 ic1 ty1 su2_1
      · exact exm_of ex1 ic1 ty1 su3_1
      · exact exm_of ex1 ic1 ty1 su4_1),
      x_InvalidMoves := (by
      intro n b h
      have m := mt_mem h
      simp only [mt_InvalidMoves, List.mem_cons, List.not_mem_nil, or_false, Prod.mk.injEq] at m
      rcases m with ⟨rfl, rfl⟩ | ⟨rfl, rfl⟩ | ⟨rfl, rfl⟩ | ⟨rfl, rfl⟩
      · exact exm_of ex4 ic4 ty4 su1_4
      · exact exm_of ex4 ic4 ty4 su2_4
      · exact exm_of ex4 ic4 ty4 su3_4
      · exact exm_of ex4 ic4 ty4 su4_4),
      par := ⟨GE, PySem.W.mg_of X G gGE, spGE, _, rdGE, fcGE⟩,
      b_abs := PySem.W.mg_none_of X G zabs,
      b_all := PySem.W.mg_none_of X G zall,
      b_bool := PySem.W.mg_none_of X G zbool,
      b_gcd := PySem.W.mg_of X G zgcd,
      b_int := PySem.W.mg_none_of X G zint,
      b_isinstance := PySem.W.mg_none_of X G zisinstance,
      b_len := PySem.W.mg_none_of X G zlen,
      b_list := PySem.W.mg_none_of X G zlist,
      b_max := PySem.W.mg_none_of X G zmax,
      b_range := PySem.W.mg_none_of X G zrange,
      b_repr := PySem.W.mg_none_of X G zrepr,
      b_set := PySem.W.mg_none_of X G zset,
      b_sorted := PySem.W.mg_none_of X G zsorted,
      b_str := PySem.W.mg_none_of X G zstr,
      b_sum := PySem.W.mg_none_of X G zsum,
      b_tuple := PySem.W.mg_none_of X G ztuple,
      g_MOST_RUN := ⟨_, PySem.W.mg_of X G zg_MOST_RUN, _, rfl⟩ }
  exact ⟨_, _, rfl, fun s u => .of_eq rfl, fun base _ _ => okp_law T⟩
end K75
open PySem PySem.W PyProof.Rows
set_option maxRecDepth 100000 in
set_option maxHeartbeats 0 in
theorem PySem.Challenge.cw_grainhouse_k75_whole_moves_joined_and_se_holds : PySem.Challenge.rw_grainhouse_k75_whole_moves_joined_and_se.Holds := by
  w_on; o_law; k_head; (case hw => w_witness2)
  k_fill
  refine Gh.walk_g (l := PySem.Challenge.rw_grainhouse_k75_whole_moves_joined_and_se) (n := 63) (k := 10) (x := "script") (fP := K75.P_law) rfl (by decide) rfl ⟨⟨rfl, by decide, by decide⟩, rfl⟩ (fun w h Y => PySem.W.kIn_of Y) ?F K75.plain
  case F =>
    intro w mg fa h KX Gm hmg
    refine' K75.all_mk KX Gm hmg ?m0 ?m1 ?m2 ?m3 ?m4 ?m9 ?m10 ?m11 ?m16 ?m17 ?m18 ?m19 ?m20 ?m21 ?m22 ?m23 ?m24 ?m25 ?m26 ?m27 ?m28 ?m29 ?m30 ?m31 ?m32 ?m33 ?m34 ?m35 ?m36 ?m37 ?m38 ?m39 ?gC0 ?gC1 ?gC2 ?gC3 ?gC4 ?gGE ?a13 ?a14 ?a15 ?in0 ?ei1 ?ei2 ?ei3 ?ei4 ?l0 ?l1 ?l2 ?l3 ?l4 ?l5 ?l6 ?l7 ?l8 ?l9 ?l10 ?l11 ?l12 ?l13 ?l14 ?l15 ?l16 ?l17 ?l18 ?l19 ?l20 ?l21 ?l22 ?l23 ?l24 ?l25 ?l26 ?l27 ?l28 ?l29 ?l30 ?l31 ?l32 ?l33 ?l34 ?l35 ?l36 ?l37 ?l38 ?l39 ?xl1 ?xl2 ?xl3 ?xl4 ?c0 ?k0 ?c1 ?k1 ?c2 ?k2 ?c3 ?k3 ?c4 ?k4 ?c5 ?k5 ?c6 ?k6 ?c7 ?k7 ?c8 ?k8 ?c9 ?k9 ?c10 ?k10 ?c11 ?k11 ?c12 ?k12 ?t12 ?c13 ?k13 ?n13 ?c14 ?k14 ?n14 ?c15 ?k15 ?n15 ?c16 ?k16 ?c17 ?k17 ?c18 ?k18 ?c19 ?k19 ?c20 ?k20 ?c21 ?k21 ?c22 ?k22 ?c23 ?k23 ?c24 ?k24 ?c25 ?k25 ?c26 ?k26 ?c27 ?k27 ?c28 ?k28 ?c29 ?k29 ?c30 ?k30 ?c31 ?k31 ?c32 ?k32 ?c33 ?k33 ?c34 ?k34 ?c35 ?k35 ?c36 ?k36 ?c37 ?k37 ?c38 ?k38 ?c39 ?k39 ?pg0 ?hd0 ?po0 ?sa0 ?mk0 ?if0 ?kc0 ?na0_down ?na0_fall ?na0_rise ?na0_up ?sa1 ?ga1 ?gg1 ?ex1 ?ty1 ?ke1 ?he1 ?et1 ?en1_given ?sa2 ?ga2 ?gg2 ?ex2 ?ty2 ?ke2 ?he2 ?et2 ?en2_given ?sa3 ?ga3 ?gg3 ?ex3 ?ty3 ?ke3 ?he3 ?et3 ?en3_given ?sa4 ?ga4 ?gg4 ?ex4 ?ty4 ?ke4 ?he4 ?et4 ?en4_given ?ic1 ?su1_1 ?su2_1 ?su3_1 ?su4_1 ?ic4 ?su1_4 ?su2_4 ?su3_4 ?su4_4 ?spGE ?rdGE ?fcGE ?zabs ?zall ?zbool ?zgcd ?zint ?zisinstance ?zlen ?zlist ?zmax ?zrange ?zrepr ?zset ?zsorted ?zstr ?zsum ?ztuple ?zg_MOST_RUN
    (case m0 => k_is); (case m1 => k_is); (case m2 => k_is); (case m3 => k_is); (case m4 => k_is); (case m9 => k_is)
    (case m10 => k_is); (case m11 => k_is); (case m16 => k_is); (case m17 => k_is); (case m18 => k_is); (case m19 => k_is)
    (case m20 => k_is); (case m21 => k_is); (case m22 => k_is); (case m23 => k_is); (case m24 => k_is); (case m25 => k_is)
    (case m26 => k_is); (case m27 => k_is); (case m28 => k_is); (case m29 => k_is); (case m30 => k_is); (case m31 => k_is)
    (case m32 => k_is); (case m33 => k_is); (case m34 => k_is); (case m35 => k_is); (case m36 => k_is); (case m37 => k_is)
    (case m38 => k_is); (case m39 => k_is); (case gC0 => k_is); (case gC1 => k_is); (case gC2 => k_is); (case gC3 => k_is)
    (case gC4 => k_is); (case gGE => k_is); (case a13 => k_is); (case a14 => k_is); (case a15 => k_is); (case in0 => k_is)
    (case ei1 => k_is); (case ei2 => k_is); (case ei3 => k_is); (case ei4 => k_is); (case l0 => k_is); (case l1 => k_is)
    (case l2 => k_is); (case l3 => k_is); (case l4 => k_is); (case l5 => k_is); (case l6 => k_is); (case l7 => k_is)
    (case l8 => k_is); (case l9 => k_is); (case l10 => k_is); (case l11 => k_is); (case l12 => k_is); (case l13 => k_is)
    (case l14 => k_is); (case l15 => k_is); (case l16 => k_is); (case l17 => k_is); (case l18 => k_is); (case l19 => k_is)
    (case l20 => k_is); (case l21 => k_is); (case l22 => k_is); (case l23 => k_is); (case l24 => k_is); (case l25 => k_is)
    (case l26 => k_is); (case l27 => k_is); (case l28 => k_is); (case l29 => k_is); (case l30 => k_is); (case l31 => k_is)
    (case l32 => k_is); (case l33 => k_is); (case l34 => k_is); (case l35 => k_is); (case l36 => k_is); (case l37 => k_is)
    (case l38 => k_is); (case l39 => k_is); (case xl1 => k_is); (case xl2 => k_is); (case xl3 => k_is); (case xl4 => k_is)
    (case c0 => k_is); (case k0 => k_is); (case c1 => k_is); (case k1 => k_is); (case c2 => k_is); (case k2 => k_is)
    (case c3 => k_is); (case k3 => k_is); (case c4 => k_is); (case k4 => k_is); (case c5 => k_is); (case k5 => k_is)
    (case c6 => k_is); (case k6 => k_is); (case c7 => k_is); (case k7 => k_is); (case c8 => k_is); (case k8 => k_is)
    (case c9 => k_is); (case k9 => k_is); (case c10 => k_is); (case k10 => k_is); (case c11 => k_is); (case k11 => k_is)
    (case c12 => k_is); (case k12 => k_is); (case t12 => k_is); (case c13 => k_is); (case k13 => k_is); (case n13 => k_is)
    (case c14 => k_is); (case k14 => k_is); (case n14 => k_is); (case c15 => k_is); (case k15 => k_is); (case n15 => k_is)
    (case c16 => k_is); (case k16 => k_is); (case c17 => k_is); (case k17 => k_is); (case c18 => k_is); (case k18 => k_is)
    (case c19 => k_is); (case k19 => k_is); (case c20 => k_is); (case k20 => k_is); (case c21 => k_is); (case k21 => k_is)
    (case c22 => k_is); (case k22 => k_is); (case c23 => k_is); (case k23 => k_is); (case c24 => k_is); (case k24 => k_is)
    (case c25 => k_is); (case k25 => k_is); (case c26 => k_is); (case k26 => k_is); (case c27 => k_is); (case k27 => k_is)
    (case c28 => k_is); (case k28 => k_is); (case c29 => k_is); (case k29 => k_is); (case c30 => k_is); (case k30 => k_is)
    (case c31 => k_is); (case k31 => k_is); (case c32 => k_is); (case k32 => k_is); (case c33 => k_is); (case k33 => k_is)
    (case c34 => k_is); (case k34 => k_is); (case c35 => k_is); (case k35 => k_is); (case c36 => k_is); (case k36 => k_is)
    (case c37 => k_is); (case k37 => k_is); (case c38 => k_is); (case k38 => k_is); (case c39 => k_is); (case k39 => k_is)
    (case pg0 => k_is); (case hd0 => k_is); (case po0 => k_is); (case sa0 => k_is); (case mk0 => k_is); (case if0 => k_is)
    (case kc0 => k_is); (case na0_down => k_is); (case na0_fall => k_is); (case na0_rise => k_is); (case na0_up => k_is); (case sa1 => k_is)
    (case ga1 => k_is); (case gg1 => k_is); (case ex1 => k_is); (case ty1 => k_is); (case ke1 => k_is); (case he1 => k_is)
    (case et1 => k_is); (case en1_given => k_is); (case sa2 => k_is); (case ga2 => k_is); (case gg2 => k_is); (case ex2 => k_is)
    (case ty2 => k_is); (case ke2 => k_is); (case he2 => k_is); (case et2 => k_is); (case en2_given => k_is); (case sa3 => k_is)
    (case ga3 => k_is); (case gg3 => k_is); (case ex3 => k_is); (case ty3 => k_is); (case ke3 => k_is); (case he3 => k_is)
    (case et3 => k_is); (case en3_given => k_is); (case sa4 => k_is); (case ga4 => k_is); (case gg4 => k_is); (case ex4 => k_is)
    (case ty4 => k_is); (case ke4 => k_is); (case he4 => k_is); (case et4 => k_is); (case en4_given => k_is); (case ic1 => k_is)
    (case su1_1 => k_is); (case su2_1 => k_is); (case su3_1 => k_is); (case su4_1 => k_is); (case ic4 => k_is); (case su1_4 => k_is)
    (case su2_4 => k_is); (case su3_4 => k_is); (case su4_4 => k_is); (case spGE => k_is); (case rdGE => k_is); (case fcGE => k_is)
    (case zabs => k_is); (case zall => k_is); (case zbool => k_is); (case zgcd => k_is); (case zint => k_is); (case zisinstance => k_is)
    (case zlen => k_is); (case zlist => k_is); (case zmax => k_is); (case zrange => k_is); (case zrepr => k_is); (case zset => k_is)
    (case zsorted => k_is); (case zstr => k_is); (case zsum => k_is); (case ztuple => k_is); (case zg_MOST_RUN => k_is)
