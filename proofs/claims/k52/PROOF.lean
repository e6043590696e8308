import PyProof.Rows.All
import Wide.All
import OpenK.AllK
import Wide.FinOn
import HandS.ForMost
import HandS.Exc
import HandS.Strs
import HandS.TupSets
import HandS.SortOrd
import HandS.SortInts
import HandS.SetKeys
import HandS.IsInst
import HandS.TupAny
import HandS.Deep
import HandS.Flow
import HandS.ExcSuper
import HandS.Property
import HandS.OwnEq
import HandS.Conv
import HandS.SortKw
import HandS.TupMul
import HandS.Zip
import KE.KSortTupG
import HandS.TupLe
import PySem.Challenge.RW_followsortable_k52_derivations_taken
import KE.RegKIsAll
set_option Elab.async false
set_option linter.all false
set_option autoImplicit false
set_option maxRecDepth 100000
set_option maxHeartbeats 4000000
/-! A layer of plain data over HandS: values are trees, what is mutable stands in a short store. -/
namespace DL
open PySem PySem.Spec PyProof.Rows L2

/-! ### data -/
inductive D where
  | non | bl (b : Bool) | int (i : Int) | str (x : Str)
  | tup (ds : List D) | lst (ds : List D)
  /-- a list that is locked (the script) -/
  | frz (ds : List D)
  | ob (c : Str) (fs : List (Str × D))
  | cell (n : Nat)
  /-- a built-in type, a class of the module -/
  | ty (n : String) | cls (c : Str)
/-- what is mutable -/
inductive MO where
  | dead | lst (ds : List D) | dK (kvs : List (Key × D)) | dT (kvs : List (List Key × D)) | ob (c : Str) (fs : List (Str × D))
abbrev Sto := List MO
abbrev Dn := List (Option D)

/-- the written part and the module's names -/
structure Gx where
  K : PySem.W.Frag
  mg : Str → Option Value
/-- the frozen heap, the addresses of the store -/
structure Wd where
  F : Hp
  io : List Addr

structure Wd.Le (a b : Wd) : Prop where
  ex : Same a.F b.F
  pre : ∃ r, b.io = a.io ++ r
theorem Wd.Le.refl (a : Wd) : a.Le a := ⟨Same.refl _, [], by simp⟩
theorem Wd.Le.trans {a b c : Wd} (h : a.Le b) (k : b.Le c) : a.Le c := ⟨h.ex.trans k.ex, by
  obtain ⟨r, e⟩ := h.pre
  obtain ⟨r2, e2⟩ := k.pre
  exact ⟨r ++ r2, by rw [e2, e, List.append_assoc]⟩⟩
theorem Wd.Le.io {a b : Wd} (h : a.Le b) {n : Nat} {p : Addr} (e : a.io[n]? = some p) : b.io[n]? = some p := by
  obtain ⟨r, q⟩ := h.pre
  rw [q, List.getElem?_append_left (List.getElem?_eq_some_iff.mp e).1]
  exact e

mutual
inductive Rep (G : Gx) (w : Wd) : V → D → Prop
  | non : Rep G w .non .non
  | bl (b : Bool) : Rep G w (.bl b) (.bl b)
  | int (i : Int) : Rep G w (.int i) (.int i)
  | str (x : Str) : Rep G w (.str x) (.str x)
  | tup {a : Addr} {vs : List V} {ds : List D} : w.F a = some (.tup vs) → Reps G w vs ds → Rep G w (.ref a) (.tup ds)
  | lst {a : Addr} {vs : List V} {ds : List D} : w.F a = some (.lst vs) → Reps G w vs ds → Rep G w (.ref a) (.lst ds)
  | frz {a : Addr} {vs : List V} {ds : List D} : SqL G.K w.F a vs → Reps G w vs ds → Rep G w (.ref a) (.frz ds)
  | ob {a C dx : Addr} {vs : List (Str × V)} {c : Str} {fs : List (Str × D)} : w.F a = some (.ins C dx vs) → G.mg c = some (.ref C) → RepF G w vs fs → Rep G w (.ref a) (.ob c fs)
  | cell {n : Nat} {a : Addr} : w.io[n]? = some a → Rep G w (.ref a) (.cell n)
  | ty (n : String) : Rep G w (.ty n) (.ty n)
  | cls {c : Str} {C : Addr} : G.mg c = some (.ref C) → Rep G w (.ref C) (.cls c)
inductive Reps (G : Gx) (w : Wd) : List V → List D → Prop
  | nil : Reps G w [] []
  | cons {v : V} {d : D} {vs : List V} {ds : List D} : Rep G w v d → Reps G w vs ds → Reps G w (v :: vs) (d :: ds)
inductive RepF (G : Gx) (w : Wd) : List (Str × V) → List (Str × D) → Prop
  | nil : RepF G w [] []
  | cons {f : Str} {v : V} {d : D} {vs : List (Str × V)} {ds : List (Str × D)} : Rep G w v d → RepF G w vs ds → RepF G w ((f, v) :: vs) ((f, d) :: ds)
end
section
variable {G : Gx} {a b w : Wd}
mutual
theorem Rep.mono (l : a.Le b) : ∀ {v : V} {d : D}, Rep G a v d → Rep G b v d
  | _, _, .non => .non
  | _, _, .bl x => .bl x
  | _, _, .int x => .int x
  | _, _, .str x => .str x
  | _, _, .tup h r => .tup (l.ex _ _ h) (Reps.mono l r)
  | _, _, .lst h r => .lst (l.ex _ _ h) (Reps.mono l r)
  | _, _, .frz h r => .frz (l.ex.seq h) (Reps.mono l r)
  | _, _, .ob h m r => .ob (l.ex _ _ h) m (RepF.mono l r)
  | _, _, .cell h => .cell (l.io h)
  | _, _, .ty n => .ty n
  | _, _, .cls h => .cls h
theorem Reps.mono (l : a.Le b) : ∀ {v : List V} {d : List D}, Reps G a v d → Reps G b v d
  | _, _, .nil => .nil
  | _, _, .cons r t => .cons (Rep.mono l r) (Reps.mono l t)
theorem RepF.mono (l : a.Le b) : ∀ {v : List (Str × V)} {d : List (Str × D)}, RepF G a v d → RepF G b v d
  | _, _, .nil => .nil
  | _, _, .cons r t => .cons (Rep.mono l r) (RepF.mono l t)
end
theorem Reps.length : ∀ {vs : List V} {ds : List D}, Reps G w vs ds → vs.length = ds.length
  | _, _, .nil => rfl
  | _, _, .cons _ t => by simp [Reps.length t]
theorem Reps.append : ∀ {vs us : List V} {ds es : List D}, Reps G w vs ds → Reps G w us es → Reps G w (vs ++ us) (ds ++ es)
  | _, _, _, _, .nil, s => s
  | _, _, _, _, .cons r t, s => .cons r (Reps.append t s)
theorem Reps.get : ∀ {vs : List V} {ds : List D} {i : Nat} {d : D}, Reps G w vs ds → ds[i]? = some d → ∃ v, vs[i]? = some v ∧ Rep G w v d
  | _, _, _, _, .nil, e => by simp at e
  | _, _, 0, _, .cons r _, e => by simp at e; subst e; exact ⟨_, rfl, r⟩
  | _, _, i + 1, d, .cons _ t, e => by
    obtain ⟨v, h1, h2⟩ := Reps.get (i := i) (d := d) t (by simpa using e)
    exact ⟨v, by simpa using h1, h2⟩
theorem Reps.getV : ∀ {vs : List V} {ds : List D} {i : Nat} {v : V}, Reps G w vs ds → vs[i]? = some v → ∃ d, ds[i]? = some d ∧ Rep G w v d
  | _, _, _, _, .nil, e => by simp at e
  | _, _, 0, _, .cons r _, e => by simp at e; subst e; exact ⟨_, rfl, r⟩
  | _, _, i + 1, d, .cons _ t, e => by
    obtain ⟨v, h1, h2⟩ := Reps.getV (i := i) (v := d) t (by simpa using e)
    exact ⟨v, by simpa using h1, h2⟩
theorem Reps.set {v : V} {d : D} (r : Rep G w v d) : ∀ {vs : List V} {ds : List D} (i : Nat), Reps G w vs ds → Reps G w (vs.set i v) (ds.set i d)
  | _, _, _, .nil => .nil
  | _, _, 0, .cons _ t => .cons r t
  | _, _, i + 1, .cons q t => .cons q (Reps.set r i t)
theorem Reps.take : ∀ {vs : List V} {ds : List D} (n : Nat), Reps G w vs ds → Reps G w (vs.take n) (ds.take n)
  | _, _, 0, _ => by simpa using Reps.nil
  | _, _, _ + 1, .nil => .nil
  | _, _, n + 1, .cons r t => .cons r (Reps.take n t)
theorem Reps.drop : ∀ {vs : List V} {ds : List D} (n : Nat), Reps G w vs ds → Reps G w (vs.drop n) (ds.drop n)
  | _, _, 0, r => r
  | _, _, _ + 1, .nil => .nil
  | _, _, n + 1, .cons _ t => Reps.drop n t
theorem Reps.one {v : V} {d : D} (r : Rep G w v d) : Reps G w [v] [d] := .cons r .nil
theorem Reps.int : ∀ {vs : List V} {ns : List Int}, Reps G w vs (ns.map D.int) → vs = ns.map V.int
  | _, [], .nil => rfl
  | _, n :: ns, .cons r t => by
    cases r
    rw [Reps.int t]
    rfl
theorem Reps.ofInts : ∀ (ns : List Int), Reps G w (ns.map V.int) (ns.map D.int)
  | [] => .nil
  | n :: ns => .cons (.int n) (Reps.ofInts ns)
theorem Reps.strs : ∀ {vs : List V} {ns : List Str}, Reps G w vs (ns.map D.str) → vs = ns.map V.str
  | _, [], .nil => rfl
  | _, n :: ns, .cons r t => by
    cases r
    rw [Reps.strs t]
    rfl
theorem Reps.ofStrs : ∀ (ns : List Str), Reps G w (ns.map V.str) (ns.map D.str)
  | [] => .nil
  | n :: ns => .cons (.str n) (Reps.ofStrs ns)
theorem Reps.bls : ∀ {vs : List V} {ns : List Bool}, Reps G w vs (ns.map D.bl) → vs = ns.map V.bl
  | _, [], .nil => rfl
  | _, n :: ns, .cons r t => by
    cases r
    rw [Reps.bls t]
    rfl
theorem RepF.look : ∀ {vs : List (Str × V)} {ds : List (Str × D)} {f : Str} {d : D}, RepF G w vs ds → ds.lookup f = some d → ∃ v, vs.lookup f = some v ∧ Rep G w v d
  | _, _, _, _, .nil, e => by simp at e
  | _, _, f, d, .cons (f := g) r t, e => by
    by_cases h : f = g
    · subst h
      simp only [List.lookup_cons, beq_self_eq_true, Option.some.injEq] at e ⊢
      subst e
      exact ⟨_, rfl, r⟩
    · have hb : (f == g) = false := beq_eq_false_iff_ne.mpr h
      simp only [List.lookup_cons, hb] at e ⊢
      exact RepF.look t e
theorem RepF.lookN : ∀ {vs : List (Str × V)} {ds : List (Str × D)} {f : Str}, RepF G w vs ds → ds.lookup f = none → vs.lookup f = none
  | _, _, _, .nil, _ => rfl
  | _, _, f, .cons (f := g) r t, e => by
    by_cases h : f = g
    · subst h
      simp only [List.lookup_cons, beq_self_eq_true] at e
      cases e
    · have hb : (f == g) = false := beq_eq_false_iff_ne.mpr h
      simp only [List.lookup_cons, hb] at e ⊢
      exact RepF.lookN t e
theorem RepF.length : ∀ {vs : List (Str × V)} {ds : List (Str × D)}, RepF G w vs ds → vs.length = ds.length
  | _, _, .nil => rfl
  | _, _, .cons _ t => by simp [RepF.length t]
end
/-- a field stored -/
def putD (f : Str) (v : D) : List (Str × D) → List (Str × D)
  | [] => [(f, v)]
  | (g, u) :: r => if g = f then (g, v) :: r else (g, u) :: putD f v r
theorem RepF.put {G : Gx} {w : Wd} {f : Str} {v : V} {d : D} (r : Rep G w v d) : ∀ {vs : List (Str × V)} {ds : List (Str × D)}, RepF G w vs ds → RepF G w (putF f v vs) (putD f d ds)
  | _, _, .nil => .cons r .nil
  | _, _, .cons (f := g) q t => by
    unfold putF putD
    by_cases h : g = f
    · rw [if_pos h, if_pos h]
      exact .cons r t
    · rw [if_neg h, if_neg h]
      exact .cons q (RepF.put r t)

abbrev RepK (G : Gx) (w : Wd) {κ : Type} : List (κ × V) → List (κ × D) → Prop := Paired fun (p : κ × V) (q : κ × D) => p.1 = q.1 ∧ Rep G w p.2 q.2

/-! ### the store -/
def CellR (G : Gx) (w : Wd) (H : Hp) (a : Addr) : MO → Prop
  | .dead => True
  | .lst ds => w.F a = none ∧ ∃ vs, H a = some (.lst vs) ∧ Reps G w vs ds
  | .dK kvs => w.F a = none ∧ ∃ vs, H a = some (.dK vs) ∧ RepK G w vs kvs
  | .dT kvs => w.F a = none ∧ ∃ vs, H a = some (.dT vs) ∧ RepK G w vs kvs
  | .ob c fs => w.F a = none ∧ ∃ C dx vs, H a = some (.ins C dx vs) ∧ G.mg c = some (.ref C) ∧ RepF G w vs fs
structure Sim (G : Gx) (w : Wd) (H : Hp) (M : Sto) : Prop where
  same : Same w.F H
  len : w.io.length = M.length
  cell : ∀ (n : Nat) a mo, w.io[n]? = some a → M[n]? = some mo → CellR G w H a mo
  nd : w.io.Nodup
  tr : ∀ a ∈ w.io, ∃ o, H a = some o
def EnvR (G : Gx) (w : Wd) (σ : L2.St) (δ : Dn) : Prop := σ.length = δ.length ∧ ∀ (i : Nat) d, δ[i]? = some (some d) → ∃ v, σ[i]? = some (some v) ∧ Rep G w v d

section
variable {G : Gx} {w w' : Wd} {H : Hp} {M : Sto} {σ : L2.St} {δ : Dn}
theorem RepK.mono {κ : Type} {a b : Wd} (l : a.Le b) {vs : List (κ × V)} {ds : List (κ × D)} (h : RepK G a vs ds) : RepK G b vs ds := Paired.mapP h fun _ _ z => ⟨z.1, z.2.mono l⟩
theorem EnvR.mono (l : w.Le w') (e : EnvR G w σ δ) : EnvR G w' σ δ := ⟨e.1, fun i d h => by
  obtain ⟨v, h1, h2⟩ := e.2 i d h
  exact ⟨v, h1, h2.mono l⟩⟩
theorem EnvR.set {v : V} {d : D} (e : EnvR G w σ δ) (r : Rep G w v d) (i : Nat) : EnvR G w (σ.set i (some v)) (δ.set i (some d)) := ⟨by simp [e.1], fun j d' h => by
  by_cases hj : i = j
  · subst hj
    have hl : i < δ.length := by
      have := (List.getElem?_eq_some_iff.mp h).1
      simpa using this
    rw [List.getElem?_set_self hl] at h
    cases h
    exact ⟨v, by rw [List.getElem?_set_self (by rw [e.1]; exact hl)], r⟩
  · rw [List.getElem?_set_ne hj] at h ⊢
    exact e.2 j d' h⟩
/-- the frozen heap grows by what is new -/
theorem Le.new {p : Addr} {o : HO} (h : w.F p = none) : w.Le ⟨upd w.F p o, w.io⟩ := ⟨fun b u e => by rw [show (Wd.mk (upd w.F p o) w.io).F = upd w.F p o from rfl, upd_ne (ne_of_none e h)]; exact e, [], by simp⟩
theorem Sim.free (s : Sim G w H M) {p : Addr} (h : H p = none) : w.F p = none := s.same.free h
theorem Sim.notin (s : Sim G w H M) {p : Addr} (h : H p = none) : p ∉ w.io := fun hm => by
  obtain ⟨o, e⟩ := s.tr p hm
  rw [h] at e
  cases e
/-- the heap grows, the world too, the cells are as they were -/
theorem CellR.keep {H' : Hp} {a : Addr} {mo : MO} (l : w.Le w') (hH : ∀ o, H a = some o → H' a = some o) (hF : w.F a = none → w'.F a = none) (c : CellR G w H a mo) : CellR G w' H' a mo := by
  cases mo with
  | dead => trivial
  | lst ds =>
    obtain ⟨f, vs, h, r⟩ := c
    exact ⟨hF f, vs, hH _ h, r.mono l⟩
  | dK ds =>
    obtain ⟨f, vs, h, r⟩ := c
    exact ⟨hF f, vs, hH _ h, RepK.mono l r⟩
  | dT ds =>
    obtain ⟨f, vs, h, r⟩ := c
    exact ⟨hF f, vs, hH _ h, RepK.mono l r⟩
  | ob cc fs =>
    obtain ⟨f, C, dx, vs, h, m, r⟩ := c
    exact ⟨hF f, C, dx, vs, hH _ h, m, r.mono l⟩
/-- a new object that is frozen at once -/
theorem Sim.new {p : Addr} {o : HO} (s : Sim G w H M) (h : H p = none) : Sim G ⟨upd w.F p o, w.io⟩ (upd H p o) M where
  same := fun b u e => by
    by_cases hb : b = p
    · subst hb
      rw [show (Wd.mk (upd w.F b o) w.io).F = upd w.F b o from rfl, upd_same] at e
      rw [upd_same]
      exact e
    · rw [show (Wd.mk (upd w.F p o) w.io).F = upd w.F p o from rfl, upd_ne hb] at e
      rw [upd_ne hb]
      exact s.same b u e
  len := s.len
  cell := fun n a mo e1 e2 => by
    have ha : a ≠ p := fun z => s.notin h (z ▸ List.mem_of_getElem? e1)
    exact (s.cell n a mo e1 e2).keep (Le.new (s.free h)) (fun u hu => by rw [upd_ne ha]; exact hu) (fun hf => by
      show upd w.F p o a = none
      rw [upd_ne ha]
      exact hf)
  nd := s.nd
  tr := fun a ha => by
    have hn : a ≠ p := fun z => s.notin h (z ▸ ha)
    obtain ⟨u, e⟩ := s.tr a ha
    exact ⟨u, by rw [upd_ne hn]; exact e⟩
/-- an object that H has and no one looks at (an instance's dict) -/
theorem Sim.side {p : Addr} {o : HO} (s : Sim G w H M) (h : H p = none) : Sim G w (upd H p o) M where
  same := fun b u e => by
    have e' := s.same b u e
    rw [upd_ne (ne_of_none e' h)]
    exact e'
  len := s.len
  cell := fun n a mo e1 e2 => by
    have ha : a ≠ p := fun z => s.notin h (z ▸ List.mem_of_getElem? e1)
    exact (s.cell n a mo e1 e2).keep (Wd.Le.refl _) (fun u hu => by rw [upd_ne ha]; exact hu) id
  nd := s.nd
  tr := fun a ha => by
    have hn : a ≠ p := fun z => s.notin h (z ▸ ha)
    obtain ⟨u, e⟩ := s.tr a ha
    exact ⟨u, by rw [upd_ne hn]; exact e⟩
/-- a new mutable object -/
theorem Le.cell {p : Addr} : w.Le ⟨w.F, w.io ++ [p]⟩ := ⟨Same.refl _, [p], rfl⟩
theorem Sim.newCell {p : Addr} {o : HO} {mo : MO} (s : Sim G w H M) (h : H p = none) (c : CellR G ⟨w.F, w.io ++ [p]⟩ (upd H p o) p mo) : Sim G ⟨w.F, w.io ++ [p]⟩ (upd H p o) (M ++ [mo]) where
  same := fun b u e => by
    have e' := s.same b u e
    rw [upd_ne (ne_of_none e' h)]
    exact e'
  len := by simp [s.len]
  cell := fun n a mo' e1 e2 => by
    by_cases hn : n < w.io.length
    · have e1' : w.io[n]? = some a := by
        rw [show (Wd.mk w.F (w.io ++ [p])).io = w.io ++ [p] from rfl, List.getElem?_append_left hn] at e1
        exact e1
      have e2' : M[n]? = some mo' := by
        rw [List.getElem?_append_left (by rw [← s.len]; exact hn)] at e2
        exact e2
      have ha : a ≠ p := fun z => s.notin h (z ▸ List.mem_of_getElem? e1')
      exact (s.cell n a mo' e1' e2').keep Le.cell (fun u hu => by rw [upd_ne ha]; exact hu) id
    · have hl : n = w.io.length := by
        have := (List.getElem?_eq_some_iff.mp e1).1
        simp at this
        omega
      subst hl
      simp only [List.getElem?_concat_length, Option.some.injEq] at e1
      rw [s.len, List.getElem?_concat_length] at e2
      cases e2
      subst e1
      exact c
  nd := by
    show (w.io ++ [p]).Nodup
    rw [List.nodup_append]
    refine ⟨s.nd, by simp, fun a ha b hb => ?_⟩
    simp at hb
    subst hb
    exact fun z => s.notin h (z ▸ ha)
  tr := fun a ha => by
    rcases List.mem_append.mp ha with ha | ha
    · have hn : a ≠ p := fun z => s.notin h (z ▸ ha)
      obtain ⟨u, e⟩ := s.tr a ha
      exact ⟨u, by rw [upd_ne hn]; exact e⟩
    · simp at ha
      subst ha
      exact ⟨o, upd_same⟩
/-- a mutable object changes -/
theorem Sim.write {n : Nat} {a : Addr} {o : HO} {mo : MO} (s : Sim G w H M) (ha : w.io[n]? = some a) (hf : w.F a = none) (c : CellR G w (upd H a o) a mo) : Sim G w (upd H a o) (M.set n mo) where
  same := fun b u e => by
    have e' := s.same b u e
    have hb : b ≠ a := ne_of_none e hf
    rw [upd_ne hb]
    exact e'
  len := by simp [s.len]
  cell := fun m b mo' e1 e2 => by
    by_cases hm : n = m
    · subst hm
      rw [ha] at e1
      cases e1
      have hl : n < M.length := by rw [← s.len]; exact (List.getElem?_eq_some_iff.mp ha).1
      rw [List.getElem?_set_self hl] at e2
      cases e2
      exact c
    · rw [List.getElem?_set_ne hm] at e2
      have hb : b ≠ a := fun z => by
        subst z
        exact hm ((List.getElem?_inj (List.getElem?_eq_some_iff.mp ha).1 s.nd).mp (ha.trans e1.symm))
      exact (s.cell m b mo' e1 e2).keep (Wd.Le.refl _) (fun u hu => by rw [upd_ne hb]; exact hu) id
  nd := s.nd
  tr := fun b hb => by
    by_cases h : b = a
    · subst h
      exact ⟨o, upd_same⟩
    · obtain ⟨u, e⟩ := s.tr b hb
      exact ⟨u, by rw [upd_ne h]; exact e⟩
/-- a mutable object is frozen -/
theorem Sim.freeze {n : Nat} {a : Addr} {o : HO} (s : Sim G w H M) (ha : w.io[n]? = some a) (hf : w.F a = none) (ho : H a = some o) : Sim G ⟨upd w.F a o, w.io⟩ H (M.set n .dead) where
  same := fun b u e => by
    by_cases hb : b = a
    · subst hb
      rw [show (Wd.mk (upd w.F b o) w.io).F = upd w.F b o from rfl, upd_same] at e
      cases e
      exact ho
    · rw [show (Wd.mk (upd w.F a o) w.io).F = upd w.F a o from rfl, upd_ne hb] at e
      exact s.same b u e
  len := by simp [s.len]
  cell := fun m b mo' e1 e2 => by
    by_cases hm : n = m
    · subst hm
      rw [show (Wd.mk (upd w.F a o) w.io).io = w.io from rfl, ha] at e1
      cases e1
      have hl : n < M.length := by rw [← s.len]; exact (List.getElem?_eq_some_iff.mp ha).1
      rw [List.getElem?_set_self hl] at e2
      cases e2
      trivial
    · rw [List.getElem?_set_ne hm] at e2
      have hb : b ≠ a := fun z => by
        subst z
        exact hm ((List.getElem?_inj (List.getElem?_eq_some_iff.mp ha).1 s.nd).mp (ha.trans e1.symm))
      exact (s.cell m b mo' e1 e2).keep (Le.new hf) (fun u hu => hu) (fun h => by
        show upd w.F a o b = none
        rw [upd_ne hb]
        exact h)
  nd := s.nd
  tr := s.tr
theorem Sim.at {n : Nat} {mo : MO} (s : Sim G w H M) (e : M[n]? = some mo) : ∃ a, w.io[n]? = some a ∧ CellR G w H a mo := by
  have hl : n < w.io.length := by rw [s.len]; exact (List.getElem?_eq_some_iff.mp e).1
  exact ⟨w.io[n], by simp [hl], s.cell n _ mo (by simp [hl]) e⟩
end

/-! ### a step: the world grows, what nobody looks at stays -/
structure Stp (w : Wd) (H : Hp) (w' : Wd) (H' : Hp) : Prop where
  le : w.Le w'
  un : ∀ a o, H a = some o → a ∉ w.io → w.F a = none → H' a = some o ∧ a ∉ w'.io ∧ w'.F a = none
theorem Stp.refl (w : Wd) (H : Hp) : Stp w H w H := ⟨Wd.Le.refl w, fun _ _ h1 h2 h3 => ⟨h1, h2, h3⟩⟩
theorem Stp.trans {w w1 w2 : Wd} {H H1 H2 : Hp} (a : Stp w H w1 H1) (b : Stp w1 H1 w2 H2) : Stp w H w2 H2 := ⟨a.le.trans b.le, fun p o h1 h2 h3 => by
  obtain ⟨q1, q2, q3⟩ := a.un p o h1 h2 h3
  exact b.un p o q1 q2 q3⟩
section
variable {w : Wd} {H : Hp}
theorem Stp.new {p : Addr} {o : HO} (h : H p = none) (hf : w.F p = none) : Stp w H ⟨upd w.F p o, w.io⟩ (upd H p o) := ⟨Le.new hf, fun a u h1 h2 h3 => by
  have ha : a ≠ p := ne_of_none h1 h
  exact ⟨by rw [upd_ne ha]; exact h1, h2, by show upd w.F p o a = none; rw [upd_ne ha]; exact h3⟩⟩
theorem Stp.side {p : Addr} {o : HO} (h : H p = none) : Stp w H w (upd H p o) := ⟨Wd.Le.refl w, fun a u h1 h2 h3 => by
  have ha : a ≠ p := ne_of_none h1 h
  exact ⟨by rw [upd_ne ha]; exact h1, h2, h3⟩⟩
theorem Stp.cell {p : Addr} {o : HO} (h : H p = none) : Stp w H ⟨w.F, w.io ++ [p]⟩ (upd H p o) := ⟨Le.cell, fun a u h1 h2 h3 => by
  have ha : a ≠ p := ne_of_none h1 h
  exact ⟨by rw [upd_ne ha]; exact h1, by simp [h2, ha], h3⟩⟩
theorem Stp.write {n : Nat} {p : Addr} {o : HO} (h : w.io[n]? = some p) : Stp w H w (upd H p o) := ⟨Wd.Le.refl w, fun a u h1 h2 h3 => by
  have ha : a ≠ p := fun z => h2 (z ▸ List.mem_of_getElem? h)
  exact ⟨by rw [upd_ne ha]; exact h1, h2, h3⟩⟩
theorem Stp.freeze {n : Nat} {p : Addr} {o : HO} (h : w.io[n]? = some p) (hf : w.F p = none) : Stp w H ⟨upd w.F p o, w.io⟩ H := ⟨Le.new hf, fun a u h1 h2 h3 => by
  have ha : a ≠ p := fun z => h2 (z ▸ List.mem_of_getElem? h)
  exact ⟨h1, h2, by show upd w.F p o a = none; rw [upd_ne ha]; exact h3⟩⟩
/-- an object that was nobody's comes into the world, frozen -/
theorem Stp.own {a : Addr} {o : HO} (w0 : Wd) (H0 : Hp) (h0 : H0 a = none) (k : Stp w0 H0 w H) (hf : w.F a = none) (hio : a ∉ w.io) : Stp w0 H0 ⟨upd w.F a o, w.io⟩ H := ⟨k.le.trans (Le.new hf), fun b u h1 h2 h3 => by
  have hb : b ≠ a := ne_of_none h1 h0
  obtain ⟨q1, q2, q3⟩ := k.un b u h1 h2 h3
  exact ⟨q1, q2, by show upd w.F a o b = none; rw [upd_ne hb]; exact q3⟩⟩
theorem Stp.ownC {a : Addr} (w0 : Wd) (H0 : Hp) (h0 : H0 a = none) (k : Stp w0 H0 w H) : Stp w0 H0 ⟨w.F, w.io ++ [a]⟩ H := ⟨k.le.trans Le.cell, fun b u h1 h2 h3 => by
  have hb : b ≠ a := ne_of_none h1 h0
  obtain ⟨q1, q2, q3⟩ := k.un b u h1 h2 h3
  exact ⟨q1, by simp [q2, hb], q3⟩⟩
end

/-! ### transformers over data -/
abbrev WE := Dn → Sto → (D → Sto → Prop) → Prop
abbrev WT := Dn → Sto → (Bool → Sto → Prop) → Prop
abbrev WA := Dn → Sto → (List D → Sto → Prop) → Prop
structure DE where
  nx : Dn → Sto → Prop
  rt : D → Sto → Prop
  bk : Dn → Sto → Prop := fun _ _ => False
  ct : Dn → Sto → Prop := fun _ _ => False
abbrev WS := DE → Dn → Sto → Prop

/-- what follows a value -/
def KQ (G : Gx) (w : Wd) (H : Hp) (Qd : D → Sto → Prop) (Q : VK) : Prop := ∀ w' v H' d M', Stp w H w' H' → Sim G w' H' M' → Rep G w' v d → Qd d M' → Q v H'
def KT (G : Gx) (w : Wd) (H : Hp) (Qd : Bool → Sto → Prop) (Q : Bool → Hp → Prop) : Prop := ∀ w' b H' M', Stp w H w' H' → Sim G w' H' M' → Qd b M' → Q b H'
def KA (G : Gx) (w : Wd) (H : Hp) (Qd : List D → Sto → Prop) (Q : List V → Hp → Prop) : Prop := ∀ w' v H' d M', Stp w H w' H' → Sim G w' H' M' → Reps G w' v d → Qd d M' → Q v H'
def KN (G : Gx) (w : Wd) (H : Hp) (Qd : Dn → Sto → Prop) (Q : L2.St → Hp → Prop) : Prop := ∀ w' σ' H' δ' M', Stp w H w' H' → Sim G w' H' M' → EnvR G w' σ' δ' → Qd δ' M' → Q σ' H'
structure KE (G : Gx) (w : Wd) (H : Hp) (E : DE) (D : L2.Ends) : Prop where
  nx : KN G w H E.nx D.nx
  rt : KQ G w H E.rt D.rt
  bk : KN G w H E.bk D.bk
  ct : KN G w H E.ct D.ct
section
variable {G : Gx} {w w' : Wd} {H H' : Hp}
theorem KQ.mono {Qd : D → Sto → Prop} {Q : VK} (l : Stp w H w' H') (k : KQ G w H Qd Q) : KQ G w' H' Qd Q := fun w2 v H' d M' l2 => k w2 v H' d M' (l.trans l2)
theorem KT.mono {Qd : Bool → Sto → Prop} {Q : Bool → Hp → Prop} (l : Stp w H w' H') (k : KT G w H Qd Q) : KT G w' H' Qd Q := fun w2 v H' M' l2 => k w2 v H' M' (l.trans l2)
theorem KA.mono {Qd : List D → Sto → Prop} {Q : List V → Hp → Prop} (l : Stp w H w' H') (k : KA G w H Qd Q) : KA G w' H' Qd Q := fun w2 v H' d M' l2 => k w2 v H' d M' (l.trans l2)
theorem KN.mono {Qd : Dn → Sto → Prop} {Q : L2.St → Hp → Prop} (l : Stp w H w' H') (k : KN G w H Qd Q) : KN G w' H' Qd Q := fun w2 v H' d M' l2 => k w2 v H' d M' (l.trans l2)
theorem KE.mono {E : DE} {D : L2.Ends} (l : Stp w H w' H') (k : KE G w H E D) : KE G w' H' E D := ⟨k.nx.mono l, k.rt.mono l, k.bk.mono l, k.ct.mono l⟩
end

def up (G : Gx) (A : WE) : TE := fun σ H Q => ∃ w δ M Qd, Sim G w H M ∧ EnvR G w σ δ ∧ A δ M Qd ∧ KQ G w H Qd Q
def upT (G : Gx) (A : WT) : TT := fun σ H Q => ∃ w δ M Qd, Sim G w H M ∧ EnvR G w σ δ ∧ A δ M Qd ∧ KT G w H Qd Q
def upA (G : Gx) (A : WA) : TA := fun σ H Q => ∃ w δ M Qd, Sim G w H M ∧ EnvR G w σ δ ∧ A δ M Qd ∧ KA G w H Qd Q
def upS (G : Gx) (S : WS) : TS := fun D σ H => ∃ w δ M E, Sim G w H M ∧ EnvR G w σ δ ∧ S E δ M ∧ KE G w H E D

abbrev gx (X : Cx) : Gx := ⟨X.K, X.mg⟩
abbrev CE (X : Cx) (e : Expr) (A : WE) : Prop := PE X e (up (gx X) A)
abbrev CT (X : Cx) (e : Expr) (A : WT) : Prop := PT X e (upT (gx X) A)
abbrev CW (X : Cx) (e : Expr) (A : WT) : Prop := PW X e (upT (gx X) A)
abbrev CA (X : Cx) (es : List Expr) (A : WA) : Prop := PA X es (upA (gx X) A)
abbrev CS (X : Cx) (st : Stmt) (S : WS) : Prop := PS X st (upS (gx X) S)
abbrev CSs (X : Cx) (st : List Stmt) (S : WS) : Prop := PSs X st (upS (gx X) S)

section
variable {X : Cx} {e : Expr} {es : List Expr}
theorem pe_weak {t t' : TE} (h : PE X e t) (k : ∀ σ H Q, t' σ H Q → t σ H Q) : PE X e t' := ⟨fun pins s σ H Q I q => h.run pins s σ H Q I (k σ H Q q)⟩
theorem pt_weak {t t' : TT} (h : PT X e t) (k : ∀ σ H Q, t' σ H Q → t σ H Q) : PT X e t' := ⟨fun pins s σ H Q I q => h.run pins s σ H Q I (k σ H Q q)⟩
theorem pw_weak {t t' : TT} (h : PW X e t) (k : ∀ σ H Q, t' σ H Q → t σ H Q) : PW X e t' := ⟨fun wh pins s σ H Q I q => h.run wh pins s σ H Q I (k σ H Q q)⟩
theorem pa_weak {t t' : TA} (h : PA X es t) (k : ∀ σ H Q, t' σ H Q → t σ H Q) : PA X es t' := ⟨fun pos pins s σ H Q I q => h.run pos pins s σ H Q I (k σ H Q q)⟩
theorem ps_weak {st : Stmt} {t t' : TS} (h : PS X st t) (k : ∀ D σ H, t' D σ H → t D σ H) : PS X st t' := ⟨fun pins s σ H D I q => h.run pins s σ H D I (k D σ H q)⟩
theorem pss_weak {st : List Stmt} {t t' : TS} (h : PSs X st t) (k : ∀ D σ H, t' D σ H → t D σ H) : PSs X st t' := ⟨fun pins s σ H D I q => h.run pins s σ H D I (k D σ H q)⟩
end
section
variable {G : Gx} {w : Wd} {σ : L2.St} {H : Hp} {δ : Dn} {M : Sto}
theorem up1 {A : WE} {Qd : D → Sto → Prop} {Q : VK} (s : Sim G w H M) (e : EnvR G w σ δ) (h : A δ M Qd) (k : KQ G w H Qd Q) : up G A σ H Q := ⟨w, δ, M, Qd, s, e, h, k⟩
theorem up2 {A B : WE} {R : D → D → Sto → Prop} {Q : V → V → Hp → Prop} (s : Sim G w H M) (e : EnvR G w σ δ) (h : A δ M fun d1 M1 => B δ M1 fun d2 M2 => R d1 d2 M2)
    (k : ∀ w' v1 v2 H' d1 d2 M', Stp w H w' H' → Sim G w' H' M' → Rep G w' v1 d1 → Rep G w' v2 d2 → R d1 d2 M' → Q v1 v2 H') : up G A σ H fun x H1 => up G B σ H1 fun y H2 => Q x y H2 :=
  ⟨w, δ, M, _, s, e, h, fun w1 v1 H1 d1 M1 l1 s1 r1 h1 => ⟨w1, δ, M1, _, s1, e.mono l1.le, h1, fun w2 v2 H2 d2 M2 l2 s2 r2 h2 => k w2 v1 v2 H2 d1 d2 M2 (l1.trans l2) s2 (r1.mono l2.le) r2 h2⟩⟩
end

/-! ### names, constants -/
@[simp] def dVar (i : Nat) : WE := fun δ M Q => ∃ d, δ[i]? = some (some d) ∧ Q d M
@[simp] def dC (d : D) : WE := fun _ M Q => Q d M
section
variable {X : Cx} {pos : Pos}
theorem ce_var (i : Nat) {x : Str} (hN : X.N[i]? = some x := by rfl) (hv : Vis X.env.scope x := by first | exact Or.inl rfl | exact Or.inr (Or.inl rfl) | exact Or.inr (Or.inr rfl)) (hd : (x == ("__debug__" : Str)) = false := by decide)
    (hcd : (x == ("__classdict__" : Str)) = false := by decide) : CE X (.Name x pos) (dVar i) := pe_weak (pe_var hN hv hd hcd) fun σ H Q ⟨w, δ, M, Qd, s, e, ⟨d, h1, h2⟩, k⟩ => by
  obtain ⟨v, e1, r⟩ := e.2 i d h1
  exact ⟨v, e1, k w v H d M (Stp.refl _ _) s r h2⟩
theorem ce_int {i : Int} {j} : CE X (.Constant (.int i) j pos) (dC (.int i)) := pe_weak pe_int fun σ H Q ⟨w, δ, M, Qd, s, e, h, k⟩ => k w _ H _ M (Stp.refl _ _) s (.int i) h
theorem ce_bl {b : Bool} {j} : CE X (.Constant (.bool b) j pos) (dC (.bl b)) := pe_weak pe_bl fun σ H Q ⟨w, δ, M, Qd, s, e, h, k⟩ => k w _ H _ M (Stp.refl _ _) s (.bl b) h
theorem ce_non {j} : CE X (.Constant .none j pos) (dC .non) := pe_weak pe_non fun σ H Q ⟨w, δ, M, Qd, s, e, h, k⟩ => k w _ H _ M (Stp.refl _ _) s .non h
theorem ce_str {x : Str} {j} : CE X (.Constant (.str x) j pos) (dC (.str x)) := pe_weak pe_str fun σ H Q ⟨w, δ, M, Qd, s, e, h, k⟩ => k w _ H _ M (Stp.refl _ _) s (.str x) h
/-- a module's text -/
theorem ce_gstr {x y : Str} {t : Tok} (hm : X.mg x = some (.str y t)) (hg : Gl X x := by rfl) (hd : (x == ("__debug__" : Str)) = false := by decide) : CE X (.Name x pos) (dC (.str y)) :=
  pe_weak (pe_glob (v := .str y) hg hm ⟨t, rfl⟩ hd) fun σ H Q ⟨w, δ, M, Qd, s, e, h, k⟩ => k w _ H _ M (Stp.refl _ _) s (.str y) h
end

/-! ### two-place operations -/
abbrev F2 := D → D → Sto → (D → Sto → Prop) → Prop
@[simp] def dOp (f : F2) (A B : WE) : WE := fun δ M Q => A δ M fun x M1 => B δ M1 fun y M2 => f x y M2 Q
/-- an operation by data -/
def OpD (X : Cx) (F : Value → Value → Sem Value) (f : F2) : Prop :=
  ∀ (d1 d2 : D) (M : Sto) (Qd : D → Sto → Prop), f d1 d2 M Qd → ∀ (pins : List (Addr × Obj)) (s : Shared) (σ : L2.St) (H : Hp) (w : Wd) (v1 v2 : V) (u1 u2 : Value) (Q : VK), Inv X pins σ H s → RelV v1 u1 → RelV v2 u2 → Sim (gx X) w H M → Rep (gx X) w v1 d1 → Rep (gx X) w v2 d2 →
    KQ (gx X) w H Qd Q → wpAny (model X.prog X.w) X.A (F u1 u2) (EP X pins σ Q) X.xe s
/-- by a rule of the layer beneath -/
theorem OpD.of {X : Cx} {F : Value → Value → Sem Value} {r : R2} (h : OpR X F r) {d1 d2 : D} {M : Sto} {Qd : D → Sto → Prop}
    (k : ∀ (w : Wd) (H : Hp) (v1 v2 : V) (Q : VK), Sim (gx X) w H M → Rep (gx X) w v1 d1 → Rep (gx X) w v2 d2 → KQ (gx X) w H Qd Q → r v1 v2 H Q) :
    ∀ (pins : List (Addr × Obj)) (s : Shared) (σ : L2.St) (H : Hp) (w : Wd) (v1 v2 : V) (u1 u2 : Value) (Q : VK), Inv X pins σ H s → RelV v1 u1 → RelV v2 u2 → Sim (gx X) w H M → Rep (gx X) w v1 d1 → Rep (gx X) w v2 d2 →
    KQ (gx X) w H Qd Q → wpAny (model X.prog X.w) X.A (F u1 u2) (EP X pins σ Q) X.xe s :=
  fun pins s σ H w v1 v2 u1 u2 Q I r1 r2 sm p1 p2 kq => h pins s σ H v1 v2 u1 u2 Q I r1 r2 (k w H v1 v2 Q sm p1 p2 kq)
/-- the weakest reading of an operation -/
def rOp (X : Cx) (F : Value → Value → Sem Value) : R2 := fun x y H Q => ∀ (pins : List (Addr × Obj)) (s : Shared) (σ : L2.St) (u v : Value), Inv X pins σ H s → RelV x u → RelV y v → wpAny (model X.prog X.w) X.A (F u v) (EP X pins σ Q) X.xe s
theorem rOp_ok {X : Cx} {F : Value → Value → Sem Value} : OpR X F (rOp X F) := fun pins s σ H x y u v Q I r1 r2 h => h pins s σ u v I r1 r2
section
variable {X : Cx} {pos : Pos} {a b : Expr} {A B : WE}
theorem ce_op {op : Operator} {f : F2} (ho : OpD X (binaryOp op) f) (ha : CE X a A) (hb : CE X b B) : CE X (.BinOp a op b pos) (dOp f A B) :=
  pe_weak (pe_op rOp_ok ha hb) fun σ H Q ⟨w, δ, M, Qd, s, e, h, k⟩ => up2 s e h fun w' v1 v2 H' d1 d2 M' l s' r1 r2 h' pins sh σ' u v I q1 q2 =>
    ho d1 d2 M' Qd h' pins sh σ' H' w' v1 v2 u v Q I q1 q2 s' r1 r2 (k.mono l)
theorem ce_cmp {op : CmpOp} {f : F2} (ho : OpD X (compareOp op) f) (ha : CE X a A) (hb : CE X b B) (hm : behindInMarks op b = false := by first | exact nomark _ | rfl) : CE X (.Compare a [op] [b] pos) (dOp f A B) :=
  pe_weak (pe_cmpR rOp_ok ha hb hm) fun σ H Q ⟨w, δ, M, Qd, s, e, h, k⟩ => up2 s e h fun w' v1 v2 H' d1 d2 M' l s' r1 r2 h' pins sh σ' u v I q1 q2 =>
    ho d1 d2 M' Qd h' pins sh σ' H' w' v1 v2 u v Q I q1 q2 s' r1 r2 (k.mono l)
/-- a value that is True or False, as a test -/
def dTst (A : WE) : WT := fun δ M Q => A δ M fun d M1 => ∃ b, d = .bl b ∧ Q b M1
def isB (d : D) (Q : Bool → Prop) : Prop := ∃ b, d = .bl b ∧ Q b
@[simp] theorem isB_bl (b : Bool) (Q : Bool → Prop) : isB (.bl b) Q = Q b := propext ⟨fun ⟨_, e, q⟩ => by cases e; exact q, fun q => ⟨b, rfl, q⟩⟩
@[simp] theorem dTst_ev (A : WE) (δ : Dn) (M : Sto) (Q : Bool → Sto → Prop) : dTst A δ M Q = A δ M fun d M1 => isB d fun b => Q b M1 := rfl
theorem up_tst {G : Gx} {A : WE} {σ : L2.St} {H : Hp} {Q : Bool → Hp → Prop} (h : upT G (dTst A) σ H Q) : up G A σ H fun x H' => ∃ k, x = .bl k ∧ Q k H' := by
  obtain ⟨w, δ, M, Qd, s, e, h, k⟩ := h
  refine up1 s e h fun w' v H' d M' l s' r hd => ?_
  obtain ⟨b, rfl, q⟩ := hd
  cases r
  exact ⟨b, rfl, k w' b H' M' l s' q⟩
theorem ct_cmp {op : CmpOp} {f : F2} (ho : OpD X (compareOp op) f) (ha : CE X a A) (hb : CE X b B) (hm : behindInMarks op b = false := by first | exact nomark _ | rfl) : CT X (.Compare a [op] [b] pos) (dTst (dOp f A B)) :=
  pt_weak (pt_cmpR rOp_ok ha hb hm) fun σ H Q ⟨w, δ, M, Qd, s, e, h, k⟩ => up2 s e h fun w' v1 v2 H' d1 d2 M' l s' r1 r2 h' pins sh σ' u v I q1 q2 =>
    ho d1 d2 M' _ h' pins sh σ' H' w' v1 v2 u v _ I q1 q2 s' r1 r2 fun w2 v2 H2 d2 M2 l2 s2 rr ⟨b, eb, qb⟩ => by
      subst eb
      cases rr
      exact ⟨b, rfl, k w2 b H2 M2 (l.trans l2) s2 qb⟩
theorem ct_val {e : Expr} {A : WE} (h : CE X e A) (he : ∀ whole, isTrue e X.env whole = (do let v ← whole; standAt e.pos; holding [v] (truthy v)) := by intro _; rfl) : CT X e (dTst A) :=
  pt_weak (pt_val h he) fun σ H Q q => up_tst q
end

/-! ### ints -/
def fI2 (C : Int → Int → Prop) (g : Int → Int → D) : F2 := fun x y M Q => ∃ i j, x = .int i ∧ y = .int j ∧ C i j ∧ Q (g i j) M
def fI (g : Int → Int → Int) : F2 := fun x y M Q => ∃ i j, x = .int i ∧ y = .int j ∧ Q (.int (g i j)) M
def fB (g : Int → Int → Bool) : F2 := fun x y M Q => ∃ i j, x = .int i ∧ y = .int j ∧ Q (.bl (g i j)) M
section
variable {X : Cx} {G : Gx} {w : Wd} {H : Hp} {M : Sto}
theorem KQ.here {Qd : D → Sto → Prop} {Q : VK} {v : V} {d : D} (k : KQ G w H Qd Q) (s : Sim G w H M) (r : Rep G w v d) (q : Qd d M) : Q v H := k w v H d M (Stp.refl _ _) s r q
theorem od_fI {F : Value → Value → Sem Value} {g : Int → Int → Int} (h : OpR X F (rI0 fun i j => .int (g i j))) : OpD X F (fI g) := by
  rintro d1 d2 M Qd ⟨i, j, rfl, rfl, q⟩
  refine OpD.of h fun w H v1 v2 Q s r1 r2 k => ?_
  cases r1; cases r2
  exact ⟨i, j, rfl, rfl, k.here s (.int _) q⟩
theorem od_fB {F : Value → Value → Sem Value} {g : Int → Int → Bool} (h : OpR X F (rI0 fun i j => .bl (g i j))) : OpD X F (fB g) := by
  rintro d1 d2 M Qd ⟨i, j, rfl, rfl, q⟩
  refine OpD.of h fun w H v1 v2 Q s r1 r2 k => ?_
  cases r1; cases r2
  exact ⟨i, j, rfl, rfl, k.here s (.bl _) q⟩
theorem od_fI2 {F : Value → Value → Sem Value} {C : Int → Int → Prop} {g : Int → Int → Int} (h : OpR X F (rI C fun i j => .int (g i j))) : OpD X F (fI2 C fun i j => .int (g i j)) := by
  rintro d1 d2 M Qd ⟨i, j, rfl, rfl, c, q⟩
  refine OpD.of h fun w H v1 v2 Q s r1 r2 k => ?_
  cases r1; cases r2
  exact ⟨i, j, rfl, rfl, c, k.here s (.int _) q⟩
abbrev fSub : F2 := fI fun i j => i - j
abbrev fMul : F2 := fI2 CMul fun i j => .int (i * j)
abbrev fDiv : F2 := fI2 CDiv fun i j => .int (i / j)
abbrev fMod : F2 := fI2 (fun _ j => 0 < j) fun i j => .int (i % j)
abbrev fPow : F2 := fI2 CPow fun i j => .int (i ^ j.toNat)
abbrev fLt : F2 := fB fun i j => decide (i < j)
abbrev fLe : F2 := fB fun i j => decide (i ≤ j)
abbrev fGt : F2 := fB fun i j => decide (j < i)
abbrev fGe : F2 := fB fun i j => decide (j ≤ i)
theorem od_sub : OpD X (binaryOp .Sub) fSub := od_fI op_sub
theorem od_mul : OpD X (binaryOp .Mult) fMul := od_fI2 op_mul
theorem od_div : OpD X (binaryOp .FloorDiv) fDiv := od_fI2 op_fdiv
theorem od_mod : OpD X (binaryOp .Mod) fMod := od_fI2 op_mod
theorem od_pow : OpD X (binaryOp .Pow) fPow := od_fI2 op_pow
theorem od_lt : OpD X (compareOp .Lt) fLt := od_fB op_lt
theorem od_le : OpD X (compareOp .LtE) fLe := od_fB op_le
theorem od_gt : OpD X (compareOp .Gt) fGt := od_fB op_gt
theorem od_ge : OpD X (compareOp .GtE) fGe := od_fB op_ge
/-- is None -/
def fIsN : F2 := fun x y M Q => y = .non ∧ Q (.bl (match x with | .non => true | _ => false)) M
def fNotN : F2 := fun x y M Q => y = .non ∧ Q (.bl (match x with | .non => false | _ => true)) M
theorem od_isN : OpD X (compareOp .Is) fIsN := by
  rintro d1 d2 M Qd ⟨rfl, q⟩
  refine OpD.of op_isN fun w H v1 v2 Q s r1 r2 k => ?_
  cases r2
  refine ⟨rfl, ?_⟩
  cases r1 <;> exact k.here s (.bl _) q
theorem od_notN : OpD X (compareOp .IsNot) fNotN := by
  rintro d1 d2 M Qd ⟨rfl, q⟩
  refine OpD.of op_notN fun w H v1 v2 Q s r1 r2 k => ?_
  cases r2
  refine ⟨rfl, ?_⟩
  cases r1 <;> exact k.here s (.bl _) q
end
end DL


set_option Elab.async false
set_option linter.all false
set_option autoImplicit false
set_option maxRecDepth 100000
set_option maxHeartbeats 4000000
namespace DL
open PySem PySem.Spec PyProof.Rows L2

noncomputable instance instDecEqD : DecidableEq D := fun a b => Classical.propDecidable (a = b)

/-! ### sequences as they stand -/
def lstOf (M : Sto) : D → Option (List D)
  | .lst ds => some ds
  | .frz ds => some ds
  | .cell n => match M[n]? with | some (.lst ds) => some ds | _ => none
  | _ => none
def tupOf : D → Option (List D)
  | .tup ds => some ds
  | _ => none
def seqOf (M : Sto) (d : D) : Option (List D) := match tupOf d with | some ds => some ds | none => lstOf M d
/-- a list that is not locked -/
def lsdOf (M : Sto) : D → Option (List D)
  | .lst ds => some ds
  | .cell n => match M[n]? with | some (.lst ds) => some ds | _ => none
  | _ => none
@[simp] theorem lstOf_lst {M : Sto} {ds : List D} : lstOf M (.lst ds) = some ds := rfl
@[simp] theorem lstOf_frz {M : Sto} {ds : List D} : lstOf M (.frz ds) = some ds := rfl
@[simp] theorem lsdOf_lst {M : Sto} {ds : List D} : lsdOf M (.lst ds) = some ds := rfl
theorem lstOf_cell {M : Sto} {n : Nat} {ds : List D} (h : M[n]? = some (.lst ds)) : lstOf M (.cell n) = some ds := by simp [lstOf, h]
theorem lsdOf_cell {M : Sto} {n : Nat} {ds : List D} (h : M[n]? = some (.lst ds)) : lsdOf M (.cell n) = some ds := by simp [lsdOf, h]
@[simp] theorem tupOf_tup {ds : List D} : tupOf (.tup ds) = some ds := rfl
@[simp] theorem seqOf_tup {M : Sto} {ds : List D} : seqOf M (.tup ds) = some ds := rfl
@[simp] theorem seqOf_lst {M : Sto} {ds : List D} : seqOf M (.lst ds) = some ds := rfl
@[simp] theorem seqOf_frz {M : Sto} {ds : List D} : seqOf M (.frz ds) = some ds := rfl
theorem seqOf_cell {M : Sto} {n : Nat} {ds : List D} (h : M[n]? = some (.lst ds)) : seqOf M (.cell n) = some ds := by simp [seqOf, tupOf, lstOf, h]

section
variable {G : Gx} {w : Wd} {H : Hp} {M : Sto} {v : V} {d : D} {ds : List D}
theorem Sim.lsd (s : Sim G w H M) (r : Rep G w v d) (h : lsdOf M d = some ds) : ∃ a vs, v = .ref a ∧ H a = some (.lst vs) ∧ Reps G w vs ds := by
  cases r with
  | lst h1 h2 =>
    cases h
    exact ⟨_, _, rfl, s.same _ _ h1, h2⟩
  | @cell n a h1 =>
    have hm : M[n]? = some (.lst ds) := by
      simp only [lsdOf] at h
      split at h
      · rename_i e
        cases h
        exact e
      · cases h
    obtain ⟨_, vs, e1, e2⟩ := s.cell n a _ h1 hm
    exact ⟨a, vs, rfl, e1, e2⟩
  | _ => cases h
theorem Sim.lst (s : Sim G w H M) (r : Rep G w v d) (h : lstOf M d = some ds) (K : PySem.W.Frag) (hK : K = G.K := by rfl) : ∃ a vs, v = .ref a ∧ SqL K H a vs ∧ Reps G w vs ds := by
  by_cases hd : ∃ es, d = .frz es
  · obtain ⟨es, rfl⟩ := hd
    cases r with
    | frz h1 h2 =>
      cases h
      subst hK
      exact ⟨_, _, rfl, s.same.seq h1, h2⟩
  · have h' : lsdOf M d = some ds := by
      cases d <;> first | exact h | exact absurd ⟨_, rfl⟩ hd
    obtain ⟨a, vs, e1, e2, e3⟩ := s.lsd r h'
    exact ⟨a, vs, e1, .inl (.inl e2), e3⟩
theorem Sim.tup (s : Sim G w H M) (r : Rep G w v d) (h : tupOf d = some ds) : ∃ a vs, v = .ref a ∧ H a = some (.tup vs) ∧ Reps G w vs ds := by
  cases r with
  | tup h1 h2 =>
    cases h
    exact ⟨_, _, rfl, s.same _ _ h1, h2⟩
  | _ => cases h
theorem Sim.seq (s : Sim G w H M) (r : Rep G w v d) (h : seqOf M d = some ds) (K : PySem.W.Frag) (hK : K = G.K := by rfl) : ∃ a vs, v = .ref a ∧ (SqL K H a vs ∨ SqT K H a vs) ∧ Reps G w vs ds := by
  unfold seqOf at h
  split at h
  · rename_i e
    cases h
    obtain ⟨a, vs, e1, e2, e3⟩ := s.tup r e
    exact ⟨a, vs, e1, .inr (.inl (.inl e2)), e3⟩
  · obtain ⟨a, vs, e1, e2, e3⟩ := s.lst r h K hK
    exact ⟨a, vs, e1, .inl e2, e3⟩
/-- a new tuple, a new list handed on -/
theorem KQ.newTup {Qd : D → Sto → Prop} {Q : VK} {vs : List V} {p : Addr} (k : KQ G w H Qd Q) (s : Sim G w H M) (r : Reps G w vs ds) (hp : H p = none) (q : Qd (.tup ds) M) : Q (.ref p) (upd H p (.tup vs)) :=
  k _ _ _ _ M (Stp.new hp (s.free hp)) (s.new hp) (.tup (by show upd w.F p _ p = _; rw [upd_same]) (r.mono (Le.new (s.free hp)))) q
theorem KQ.newLst {Qd : D → Sto → Prop} {Q : VK} {vs : List V} {p : Addr} (k : KQ G w H Qd Q) (s : Sim G w H M) (r : Reps G w vs ds) (hp : H p = none) (q : Qd (.lst ds) M) : Q (.ref p) (upd H p (.lst vs)) :=
  k _ _ _ _ M (Stp.new hp (s.free hp)) (s.new hp) (.lst (by show upd w.F p _ p = _; rw [upd_same]) (r.mono (Le.new (s.free hp)))) q
theorem KQ.newCell {Qd : D → Sto → Prop} {Q : VK} {p : Addr} {o : HO} {mo : MO} (k : KQ G w H Qd Q) (s : Sim G w H M) (hp : H p = none) (c : CellR G ⟨w.F, w.io ++ [p]⟩ (upd H p o) p mo) (q : Qd (.cell M.length) (M ++ [mo])) : Q (.ref p) (upd H p o) :=
  k _ _ _ _ _ (Stp.cell hp) (s.newCell hp c) (.cell (by
    show (w.io ++ [p])[M.length]? = some p
    rw [← s.len]
    simp)) q
theorem cellLst {p : Addr} {vs : List V} (s : Sim G w H M) (hp : H p = none) (r : Reps G w vs ds) : CellR G ⟨w.F, w.io ++ [p]⟩ (upd H p (.lst vs)) p (.lst ds) := ⟨s.free hp, vs, upd_same, r.mono Le.cell⟩
end

/-! ### + and * -/
def fAdd : F2 := fun x y M Q =>
  (∃ i j, x = .int i ∧ y = .int j ∧ Q (.int (i + j)) M) ∨
  (∃ i j, x = .str i ∧ y = .str j ∧ i.length + j.length ≤ sizeLine ∧ Q (.str (i ++ j)) M) ∨
  (∃ i j, x = .tup i ∧ y = .tup j ∧ i.length + j.length ≤ sizeLine ∧ Q (.tup (i ++ j)) M) ∨
  ∃ i j, lsdOf M x = some i ∧ lsdOf M y = some j ∧ i.length + j.length ≤ sizeLine ∧ Q (.lst (i ++ j)) M
section
variable {X : Cx}
theorem od_add : OpD X (binaryOp .Add) fAdd := by
  rintro d1 d2 M Qd (⟨i, j, rfl, rfl, q⟩ | ⟨i, j, rfl, rfl, hl, q⟩ | ⟨i, j, rfl, rfl, hl, q⟩ | ⟨i, j, h1, h2, hl, q⟩)
  · refine OpD.of op_add fun w H v1 v2 Q s r1 r2 k => ?_
    cases r1; cases r2
    exact ⟨i, j, rfl, rfl, k.here s (.int _) q⟩
  · refine OpD.of op_add_str fun w H v1 v2 Q s r1 r2 k => ?_
    cases r1; cases r2
    exact ⟨i, j, rfl, rfl, hl, k.here s (.str _) q⟩
  · refine OpD.of op_catA fun w H v1 v2 Q s r1 r2 k => ?_
    cases r1 with
    | @tup a vs _ f1 g1 =>
    cases r2 with
    | @tup b us _ f2 g2 =>
    refine ⟨a, b, vs, us, rfl, rfl, .inl (.inl (s.same _ _ f1)), .inl (.inl (s.same _ _ f2)), by rw [g1.length, g2.length]; exact hl, fun z => ?_, fun _ z => ?_, fun _ _ p hp => ?_⟩
    · subst z
      cases g1
      rw [List.nil_append] at q
      exact k.here s (.tup f2 g2) q
    · subst z
      cases g2
      rw [List.append_nil] at q
      exact k.here s (.tup f1 g1) q
    · exact k.newTup s (g1.append g2) hp q
  · refine OpD.of op_cat fun w H v1 v2 Q s r1 r2 k => ?_
    obtain ⟨a, vs, rfl, f1, g1⟩ := s.lsd r1 h1
    obtain ⟨b, us, rfl, f2, g2⟩ := s.lsd r2 h2
    exact ⟨a, b, vs, us, rfl, rfl, f1, f2, by rw [g1.length, g2.length]; exact hl, fun p hp => k.newLst s (g1.append g2) hp q⟩
theorem Reps.rep {G : Gx} {w : Wd} {vs : List V} {ds : List D} (r : Reps G w vs ds) : ∀ n : Nat, Reps G w (List.replicate n vs).flatten (List.replicate n ds).flatten
  | 0 => .nil
  | n + 1 => by
    rw [List.replicate_succ, List.replicate_succ, List.flatten_cons, List.flatten_cons]
    exact r.append (Reps.rep r n)
/-- list * int: a new mutable list -/
def fRepM : F2 := fun x y M Q => ∃ i k, lsdOf M x = some i ∧ y = .int k ∧ -(2 ^ 63) ≤ k ∧ k < 2 ^ 63 ∧ i.length * k.toNat ≤ sizeLine ∧ Q (.cell M.length) (M ++ [.lst (List.replicate k.toNat i).flatten])
theorem od_repM : OpD X (binaryOp .Mult) fRepM := by
  rintro d1 d2 M Qd ⟨i, n, h1, rfl, a1, a2, hl, q⟩
  refine OpD.of op_rep fun w H v1 v2 Q s r1 r2 k => ?_
  cases r2
  obtain ⟨a, vs, rfl, f1, g1⟩ := s.lsd r1 h1
  exact ⟨a, n, vs, rfl, rfl, f1, a1, a2, by rw [g1.length]; exact hl, fun p hp => k.newCell s hp (cellLst s hp (g1.rep _)) q⟩
end

/-! ### equality of plain data -/
mutual
def toPy : D → PyData
  | .non => .none | .bl b => .bool b | .int i => .int i | .str x => .str x
  | .tup ds => .tuple (toPys ds) | .lst ds => .list (toPys ds) | .frz ds => .list (toPys ds)
  | .ob _ _ => .none | .cell _ => .none | .ty _ => .none | .cls _ => .none
def toPys : List D → List PyData
  | [] => []
  | d :: ds => toPy d :: toPys ds
end
/-- plain data of depth at most n: ints, texts, None, tuples and lists of such -/
def pl : Nat → D → Bool
  | _, .non => true
  | _, .int _ => true
  | _, .str x => PyData.canLay0 (.str x)
  | n + 1, .tup ds => ds.all (pl n)
  | n + 1, .lst ds => ds.all (pl n)
  | _, _ => false
@[simp] theorem pl_int (n : Nat) (i : Int) : pl n (.int i) = true := by cases n <;> rfl
@[simp] theorem pl_non (n : Nat) : pl n .non = true := by cases n <;> rfl
@[simp] theorem pl_tup (n : Nat) (ds : List D) : pl (n + 1) (.tup ds) = ds.all (pl n) := rfl
@[simp] theorem pl_lst (n : Nat) (ds : List D) : pl (n + 1) (.lst ds) = ds.all (pl n) := rfl
theorem pl_mono : ∀ {n : Nat} {d : D}, pl n d = true → pl (n + 1) d = true
  | _, .non, _ => by simp
  | _, .int _, _ => by simp
  | 0, .str x, h => h
  | n + 1, .str x, h => h
  | n + 1, .tup ds, h => by
    rw [pl_tup] at h ⊢
    rw [List.all_eq_true] at h ⊢
    exact fun x hx => pl_mono (h x hx)
  | n + 1, .lst ds, h => by
    rw [pl_lst] at h ⊢
    rw [List.all_eq_true] at h ⊢
    exact fun x hx => pl_mono (h x hx)
  | 0, .tup _, h => nomatch h
  | 0, .lst _, h => nomatch h
  | 0, .bl _, h => nomatch h
  | 0, .frz _, h => nomatch h
  | 0, .ob _ _, h => nomatch h
  | 0, .cell _, h => nomatch h
  | 0, .ty _, h => nomatch h
  | 0, .cls _, h => nomatch h
  | n + 1, .bl _, h => nomatch h
  | n + 1, .frz _, h => nomatch h
  | n + 1, .ob _ _, h => nomatch h
  | n + 1, .cell _, h => nomatch h
  | n + 1, .ty _, h => nomatch h
  | n + 1, .cls _, h => nomatch h
mutual
theorem pl_lay : ∀ (n : Nat) (d : D), pl n d = true → (toPy d).canLay0 = true ∧ (toPy d).depth ≤ n
  | n, .non, _ => by simp [toPy, PyData.canLay0, PyData.depth]
  | n, .int _, _ => by simp [toPy, PyData.canLay0, PyData.depth]
  | 0, .str x, h => ⟨h, by simp [toPy, PyData.depth]⟩
  | n + 1, .str x, h => ⟨h, by simp [toPy, PyData.depth]⟩
  | n + 1, .tup ds, h => by
    have := pl_lays n ds h
    exact ⟨by simpa [toPy, PyData.canLay0] using this.1, by simpa [toPy, PyData.depth] using this.2⟩
  | n + 1, .lst ds, h => by
    have := pl_lays n ds h
    exact ⟨by simpa [toPy, PyData.canLay0] using this.1, by simpa [toPy, PyData.depth] using this.2⟩
  | 0, .tup _, h => nomatch h
  | 0, .lst _, h => nomatch h
  | 0, .bl _, h => nomatch h
  | 0, .frz _, h => nomatch h
  | 0, .ob _ _, h => nomatch h
  | 0, .cell _, h => nomatch h
  | 0, .ty _, h => nomatch h
  | 0, .cls _, h => nomatch h
  | n + 1, .bl _, h => nomatch h
  | n + 1, .frz _, h => nomatch h
  | n + 1, .ob _ _, h => nomatch h
  | n + 1, .cell _, h => nomatch h
  | n + 1, .ty _, h => nomatch h
  | n + 1, .cls _, h => nomatch h
theorem pl_lays : ∀ (n : Nat) (ds : List D), ds.all (pl n) = true → PyData.canLayAll0 (toPys ds) = true ∧ PyData.depthAll (toPys ds) ≤ n
  | n, [], _ => by simp [toPys, PyData.canLayAll0, PyData.depthAll]
  | n, d :: ds, h => by
    simp only [List.all_cons, Bool.and_eq_true] at h
    have h1 := pl_lay n d h.1
    have h2 := pl_lays n ds h.2
    refine ⟨by simp [toPys, PyData.canLayAll0, h1.1, h2.1], ?_⟩
    simp only [toPys, PyData.depthAll]
    exact Nat.max_le.mpr ⟨h1.2, h2.2⟩
end
theorem pl_shaped {n : Nat} {d : D} (h : pl n d = true) (hn : n ≤ 60) : SeqAt.shaped (toPy d) = true := by
  have := pl_lay n d h
  simp only [SeqAt.shaped, Bool.and_eq_true, decide_eq_true_eq]
  exact ⟨this.1, by omega⟩
mutual
theorem pl_eqv : ∀ (n : Nat) (a b : D), pl n a = true → pl n b = true → (PyData.eqv (toPy a) (toPy b) = true ↔ a = b)
  | n, a, b, ha, hb => by
    cases a with
    | non => cases b <;> simp_all [toPy, PyData.eqv, pl]
    | int i => cases b <;> simp_all [toPy, PyData.eqv, pl]
    | str x => cases b <;> simp_all [toPy, PyData.eqv, pl]
    | tup ds =>
      cases n with
      | zero => cases ha
      | succ n =>
        cases b with
        | tup es =>
          have := pl_eqvs n ds es ha hb
          simpa [toPy, PyData.eqv] using this
        | _ => simp_all [toPy, PyData.eqv, pl]
    | lst ds =>
      cases n with
      | zero => cases ha
      | succ n =>
        cases b with
        | lst es =>
          have := pl_eqvs n ds es ha hb
          simpa [toPy, PyData.eqv] using this
        | _ => simp_all [toPy, PyData.eqv, pl]
    | _ => cases n <;> cases ha
theorem pl_eqvs : ∀ (n : Nat) (a b : List D), a.all (pl n) = true → b.all (pl n) = true → (PyData.eqvAll (toPys a) (toPys b) = true ↔ a = b)
  | n, [], [], _, _ => by simp [toPys, PyData.eqvAll]
  | n, [], _ :: _, _, _ => by simp [toPys, PyData.eqvAll]
  | n, _ :: _, [], _, _ => by simp [toPys, PyData.eqvAll]
  | n, a :: as, b :: bs, ha, hb => by
    simp only [List.all_cons, Bool.and_eq_true] at ha hb
    have h1 := pl_eqv n a b ha.1 hb.1
    have h2 := pl_eqvs n as bs ha.2 hb.2
    simp only [toPys, PyData.eqvAll, Bool.and_eq_true, h1, h2, List.cons.injEq]
end
theorem pl_eqv_dec {n : Nat} {a b : D} (ha : pl n a = true) (hb : pl n b = true) : PyData.eqv (toPy a) (toPy b) = decide (a = b) := by
  rw [Bool.eq_iff_iff, pl_eqv n a b ha hb, decide_eq_true_iff]

section
variable {G : Gx} {w : Wd} {H : Hp} {M : Sto}
mutual
theorem Rep.dp (s : Sim G w H M) (K : PySem.W.Frag) : ∀ {v : V} {d : D}, Rep G w v d → ∀ n, pl n d = true → Dp K H v (toPy d)
  | _, _, .non, _, _ => by simpa [toPy] using Dp.non
  | _, _, .bl b, _, _ => by simpa [toPy] using Dp.bl b
  | _, _, .int i, _, _ => by simpa [toPy] using Dp.int i
  | _, _, .str x, _, _ => by simpa [toPy] using Dp.str x
  | _, _, .tup h r, n, hp => by
    cases n with
    | zero => cases hp
    | succ n =>
      simp only [toPy]
      exact Dp.tup (.inl (.inl (s.same _ _ h))) (Reps.dp s K r n hp)
  | _, _, .lst h r, n, hp => by
    cases n with
    | zero => cases hp
    | succ n =>
      simp only [toPy]
      exact Dp.lst (.inl (.inl (s.same _ _ h))) (Reps.dp s K r n hp)
  | _, _, .frz h r, n, hp => by cases n <;> cases hp
  | _, _, .ob h m r, n, hp => by cases n <;> cases hp
  | _, _, .cell h, n, hp => by cases n <;> cases hp
  | _, _, .ty _, n, hp => by cases n <;> cases hp
  | _, _, .cls _, n, hp => by cases n <;> cases hp
theorem Reps.dp (s : Sim G w H M) (K : PySem.W.Frag) : ∀ {v : List V} {d : List D}, Reps G w v d → ∀ n, d.all (pl n) = true → DpAll K H v (toPys d)
  | _, _, .nil, _, _ => by simpa [toPys] using DpAll.nil
  | _, _, .cons r t, n, hp => by
    simp only [List.all_cons, Bool.and_eq_true] at hp
    simp only [toPys]
    exact DpAll.cons (Rep.dp s K r n hp.1) (Reps.dp s K t n hp.2)
end
end
/-- a list cell as the list that it holds -/
def viewD (M : Sto) (d : D) : D := match lsdOf M d with | some ds => .lst ds | none => d
@[simp] theorem viewD_int {M : Sto} {i : Int} : viewD M (.int i) = .int i := rfl
@[simp] theorem viewD_str {M : Sto} {i : Str} : viewD M (.str i) = .str i := rfl
@[simp] theorem viewD_non {M : Sto} : viewD M .non = .non := rfl
@[simp] theorem viewD_bl {M : Sto} {b : Bool} : viewD M (.bl b) = .bl b := rfl
@[simp] theorem viewD_tup {M : Sto} {ds : List D} : viewD M (.tup ds) = .tup ds := rfl
@[simp] theorem viewD_lst {M : Sto} {ds : List D} : viewD M (.lst ds) = .lst ds := rfl
theorem viewD_cell {M : Sto} {n : Nat} {ds : List D} (h : M[n]? = some (.lst ds)) : viewD M (.cell n) = .lst ds := by simp [viewD, lsdOf, h]
section
variable {G : Gx} {w : Wd} {H : Hp} {M : Sto} {X : Cx}
theorem Sim.view (s : Sim G w H M) (K : PySem.W.Frag) {v : V} {d : D} (r : Rep G w v d) {n : Nat} (hp : pl n (viewD M d) = true) : Dp K H v (toPy (viewD M d)) := by
  unfold viewD at hp ⊢
  split at hp
  · rename_i ds e
    obtain ⟨a, vs, rfl, h1, h2⟩ := s.lsd r e
    cases n with
    | zero => cases hp
    | succ n =>
      simp only [toPy]
      exact Dp.lst (.inl (.inl h1)) (h2.dp s K n hp)
  · exact r.dp s K n hp
def fEq : F2 := fun x y M Q => (pl 8 (viewD M x) = true ∧ pl 8 (viewD M y) = true ∧ Q (.bl (decide (viewD M x = viewD M y))) M) ∨ ∃ a b, x = .bl a ∧ y = .bl b ∧ Q (.bl (decide (a = b))) M
def fNe : F2 := fun x y M Q => (pl 8 (viewD M x) = true ∧ pl 8 (viewD M y) = true ∧ Q (.bl (!decide (viewD M x = viewD M y))) M) ∨ ∃ a b, x = .bl a ∧ y = .bl b ∧ Q (.bl (!decide (a = b))) M
theorem od_eq (hu : X.A.units + 64 < cLine) : OpD X (compareOp .Eq) fEq := by
  rintro d1 d2 M Qd (⟨h1, h2, q⟩ | ⟨a, b, rfl, rfl, q⟩)
  · refine OpD.of (op_eqD hu) fun w H v1 v2 Q s r1 r2 k => ?_
    refine ⟨_, _, s.view X.K r1 h1, s.view X.K r2 h2, pl_shaped h1 (by decide), pl_shaped h2 (by decide), ?_⟩
    rw [pl_eqv_dec h1 h2]
    exact k.here s (.bl _) q
  · refine OpD.of op_eq fun w H v1 v2 Q s r1 r2 k => ?_
    cases r1; cases r2
    refine ⟨rfl, ?_⟩
    rw [show decide (V.bl a = V.bl b) = decide (a = b) by simp]
    exact k.here s (.bl _) q
theorem od_ne (hu : X.A.units + 64 < cLine) : OpD X (compareOp .NotEq) fNe := by
  rintro d1 d2 M Qd (⟨h1, h2, q⟩ | ⟨a, b, rfl, rfl, q⟩)
  · refine OpD.of (op_neD hu) fun w H v1 v2 Q s r1 r2 k => ?_
    refine ⟨_, _, s.view X.K r1 h1, s.view X.K r2 h2, pl_shaped h1 (by decide), pl_shaped h2 (by decide), ?_⟩
    rw [pl_eqv_dec h1 h2]
    exact k.here s (.bl _) q
  · refine OpD.of op_ne fun w H v1 v2 Q s r1 r2 k => ?_
    cases r1; cases r2
    refine ⟨rfl, ?_⟩
    rw [show decide (V.bl a = V.bl b) = decide (a = b) by simp]
    exact k.here s (.bl _) q

/-! ### x in seq -/
/-- flat data: None, ints, texts -/
def flatD : D → Bool
  | .non => true | .int _ => true | .str _ => true | _ => false
theorem flat_rep {v : V} {d : D} (r : Rep G w v d) (h : flatD d = true) : flatV v = true := by cases r <;> first | rfl | cases h
theorem flats_rep : ∀ {vs : List V} {ds : List D}, Reps G w vs ds → ds.all flatD = true → vs.all flatV = true
  | _, _, .nil, _ => rfl
  | _, _, .cons r t, h => by
    simp only [List.all_cons, Bool.and_eq_true] at h ⊢
    exact ⟨flat_rep r h.1, flats_rep t h.2⟩
theorem eqV_rep {v u : V} {d e : D} (r : Rep G w v d) (q : Rep G w u e) (h : flatD d = true) (h' : flatD e = true) : eqV v u = decide (d = e) := by
  cases r <;> cases q <;> simp_all [eqV, flatD, Bool.beq_eq_decide_eq]
theorem inV_rep {v : V} {d : D} (r : Rep G w v d) (hd : flatD d = true) : ∀ {vs : List V} {ds : List D}, Reps G w vs ds → ds.all flatD = true → inV v vs = decide (d ∈ ds)
  | _, _, .nil, _ => by simp [inV]
  | _, _, .cons (v := u) (d := e) q t, h => by
    simp only [List.all_cons, Bool.and_eq_true] at h
    have ih := inV_rep r hd t h.2
    unfold inV at ih ⊢
    rw [List.any_cons, ih, eqV_rep q r h.1 hd]
    simp only [List.mem_cons, Bool.decide_or]
    congr 1
    simp only [decide_eq_decide]
    exact eq_comm
def fInC (neg : Bool) : F2 := fun x y M Q => (∃ ds, seqOf M y = some ds ∧ flatD x = true ∧ ds.all flatD = true ∧ Q (.bl (if neg then !decide (x ∈ ds) else decide (x ∈ ds))) M) ∨
  ∃ ds, lsdOf M y = some ds ∧ pl 8 x = true ∧ ds.all (pl 8) = true ∧ Q (.bl (if neg then !decide (x ∈ ds) else decide (x ∈ ds))) M
abbrev fIn : F2 := fInC false
abbrev fNin : F2 := fInC true
theorem any_eqv {n : Nat} {x : D} (hx : pl n x = true) : ∀ {ds : List D}, ds.all (pl n) = true → ((toPys ds).any fun z => PyData.eqv z (toPy x)) = decide (x ∈ ds)
  | [], _ => by simp [toPys]
  | d :: ds, h => by
    simp only [List.all_cons, Bool.and_eq_true] at h
    simp only [toPys, List.any_cons, any_eqv hx h.2, pl_eqv_dec h.1 hx, List.mem_cons, Bool.decide_or]
    congr 1
    simp only [decide_eq_decide]
    exact eq_comm
theorem Sim.dpl (s : Sim G w H M) (K : PySem.W.Frag) {v : V} {d : D} {ds : List D} (r : Rep G w v d) (e : lsdOf M d = some ds) {n : Nat} (hp : ds.all (pl n) = true) : Dp K H v (.list (toPys ds)) := by
  obtain ⟨a, vs, rfl, h1, h2⟩ := s.lsd r e
  exact Dp.lst (.inl (.inl h1)) (h2.dp s K n hp)
theorem shaped_l {n : Nat} {ds : List D} (h : ds.all (pl n) = true) (hn : n ≤ 59) : SeqAt.shaped (.list (toPys ds)) = true := by
  have := pl_shaped (n := n + 1) (d := .lst ds) h (by omega)
  simpa [toPy] using this
theorem od_in (hu : X.A.units + 65 < cLine) : OpD X (compareOp .In) fIn := by
  rintro d1 d2 M Qd (⟨ds, h1, h2, h3, q⟩ | ⟨ds, h1, h2, h3, q⟩)
  · refine OpD.of op_in_seq fun w H v1 v2 Q s r1 r2 k => ?_
    obtain ⟨a, vs, rfl, f1, g1⟩ := s.seq r2 h1 X.K
    refine ⟨a, vs, rfl, f1, flat_rep r1 h2, flats_rep g1 h3, ?_⟩
    rw [inV_rep r1 h2 g1 h3]
    exact k.here s (.bl _) q
  · refine OpD.of (op_inD hu) fun w H v1 v2 Q s r1 r2 k => ?_
    refine ⟨_, _, r1.dp s X.K 8 h2, s.dpl X.K r2 h1 h3, pl_shaped h2 (by decide), shaped_l h3 (by decide), ?_⟩
    rw [any_eqv h2 h3]
    exact k.here s (.bl _) q
theorem od_nin (hu : X.A.units + 65 < cLine) : OpD X (compareOp .NotIn) fNin := by
  rintro d1 d2 M Qd (⟨ds, h1, h2, h3, q⟩ | ⟨ds, h1, h2, h3, q⟩)
  · refine OpD.of op_notIn_seq fun w H v1 v2 Q s r1 r2 k => ?_
    obtain ⟨a, vs, rfl, f1, g1⟩ := s.seq r2 h1 X.K
    refine ⟨a, vs, rfl, f1, flat_rep r1 h2, flats_rep g1 h3, ?_⟩
    rw [inV_rep r1 h2 g1 h3]
    exact k.here s (.bl _) q
  · refine OpD.of (op_notInD hu) fun w H v1 v2 Q s r1 r2 k => ?_
    refine ⟨_, _, r1.dp s X.K 8 h2, s.dpl X.K r2 h1 h3, pl_shaped h2 (by decide), shaped_l h3 (by decide), ?_⟩
    rw [any_eqv h2 h3]
    exact k.here s (.bl _) q
end
end DL


set_option Elab.async false
set_option linter.all false
set_option autoImplicit false
set_option maxRecDepth 100000
set_option maxHeartbeats 4000000
namespace DL
open PySem PySem.Spec PyProof.Rows L2

/-! ### truth values -/
@[simp] def dYes : WT := fun _ M Q => Q true M
def dAnd (T U : WT) : WT := fun δ M Q => T δ M fun b M1 => if b = true then U δ M1 Q else Q false M1
def dOr (T U : WT) : WT := fun δ M Q => T δ M fun b M1 => if b = true then Q true M1 else U δ M1 Q
@[simp] def dNot (T : WT) : WT := fun δ M Q => T δ M fun b M1 => Q (!b) M1
def dAndV (A B : WE) : WE := fun δ M Q => A δ M fun x M1 => ∃ c, x = .bl c ∧ if c = true then B δ M1 Q else Q (.bl false) M1
def dOrV (A B : WE) : WE := fun δ M Q => A δ M fun x M1 => ∃ c, x = .bl c ∧ if c = true then Q (.bl true) M1 else B δ M1 Q
def dNotV (A : WE) : WE := fun δ M Q => A δ M fun x M1 => ∃ c, x = .bl c ∧ Q (.bl (!c)) M1
@[simp] theorem dNotV_ev (A : WE) (δ : Dn) (M : Sto) (Q : D → Sto → Prop) : dNotV A δ M Q = A δ M fun x M1 => isB x fun c => Q (.bl (!c)) M1 := rfl
def dIfE (T : WT) (A B : WE) : WE := fun δ M Q => T δ M fun b M1 => if b = true then A δ M1 Q else B δ M1 Q
theorem iteP {b : Bool} {X Y : Prop} : (if b = true then X else Y) = ((b = true → X) ∧ (b = false → Y)) := by cases b <;> simp
@[simp] theorem dAnd_ev (T U : WT) (δ : Dn) (M : Sto) (Q : Bool → Sto → Prop) : dAnd T U δ M Q = T δ M fun b M1 => (b = true → U δ M1 Q) ∧ (b = false → Q false M1) := by simp only [dAnd, iteP]
@[simp] theorem dOr_ev (T U : WT) (δ : Dn) (M : Sto) (Q : Bool → Sto → Prop) : dOr T U δ M Q = T δ M fun b M1 => (b = true → Q true M1) ∧ (b = false → U δ M1 Q) := by simp only [dOr, iteP]
@[simp] theorem dAndV_ev (A B : WE) (δ : Dn) (M : Sto) (Q : D → Sto → Prop) : dAndV A B δ M Q = A δ M fun x M1 => isB x fun c => (c = true → B δ M1 Q) ∧ (c = false → Q (.bl false) M1) := by simp only [dAndV, iteP, isB]
@[simp] theorem dOrV_ev (A B : WE) (δ : Dn) (M : Sto) (Q : D → Sto → Prop) : dOrV A B δ M Q = A δ M fun x M1 => isB x fun c => (c = true → Q (.bl true) M1) ∧ (c = false → B δ M1 Q) := by simp only [dOrV, iteP, isB]
@[simp] theorem dIfE_ev (T : WT) (A B : WE) (δ : Dn) (M : Sto) (Q : D → Sto → Prop) : dIfE T A B δ M Q = T δ M fun b M1 => (b = true → A δ M1 Q) ∧ (b = false → B δ M1 Q) := by simp only [dIfE, iteP]
section
variable {X : Cx} {pos : Pos} {a b c : Expr} {rest : List Expr} {T U : WT} {A B : WE}
theorem KT.here {G : Gx} {w : Wd} {H : Hp} {M : Sto} {Qd : Bool → Sto → Prop} {Q : Bool → Hp → Prop} {b : Bool} (k : KT G w H Qd Q) (s : Sim G w H M) (q : Qd b M) : Q b H := k w b H M (Stp.refl _ _) s q
theorem upT1 {G : Gx} {w : Wd} {σ : L2.St} {H : Hp} {δ : Dn} {M : Sto} {Qd : Bool → Sto → Prop} {Q : Bool → Hp → Prop} (s : Sim G w H M) (e : EnvR G w σ δ) (h : T δ M Qd) (k : KT G w H Qd Q) : upT G T σ H Q := ⟨w, δ, M, Qd, s, e, h, k⟩
theorem ct_not (h : CT X a T) : CT X (.UnaryOp .Not a pos) (dNot T) := pt_weak (pt_not h) fun σ H Q ⟨w, δ, M, Qd, s, e, h, k⟩ => upT1 s e h fun w' b H' M' l s' q => k w' _ H' M' l s' q
theorem cw_and1 (ha : CT X a T) : CW X (.BoolOp .And [a] pos) T := pw_and1 ha
theorem cw_or1 (ha : CT X a T) : CW X (.BoolOp .Or [a] pos) T := pw_or1 ha
theorem cw_and (ha : CT X a T) (hb : CW X (.BoolOp .And (b :: rest) pos) U) : CW X (.BoolOp .And (a :: b :: rest) pos) (dAnd T U) :=
  pw_weak (pw_and ha hb) fun σ H Q ⟨w, δ, M, Qd, s, e, h, k⟩ => upT1 s e h fun w' c H' M' l s' q => by
    cases c with
    | true =>
      rw [if_pos rfl] at q ⊢
      exact upT1 s' (e.mono l.le) q (k.mono l)
    | false =>
      rw [if_neg Bool.false_ne_true] at q ⊢
      exact k w' _ H' M' l s' q
theorem cw_or (ha : CT X a T) (hb : CW X (.BoolOp .Or (b :: rest) pos) U) : CW X (.BoolOp .Or (a :: b :: rest) pos) (dOr T U) :=
  pw_weak (pw_or ha hb) fun σ H Q ⟨w, δ, M, Qd, s, e, h, k⟩ => upT1 s e h fun w' c H' M' l s' q => by
    cases c with
    | false =>
      rw [if_neg Bool.false_ne_true] at q ⊢
      exact upT1 s' (e.mono l.le) q (k.mono l)
    | true =>
      rw [if_pos rfl] at q ⊢
      exact k w' _ H' M' l s' q
theorem ct_w (h : CW X a T) : CT X a T := PW.pt h
theorem ce_one {op} (h : CE X a A) : CE X (.BoolOp op [a] pos) A := pe_one h
theorem ce_and (ha : CE X a A) (hb : CE X (.BoolOp .And (b :: rest) pos) B) : CE X (.BoolOp .And (a :: b :: rest) pos) (dAndV A B) :=
  pe_weak (pe_and ha hb) fun σ H Q ⟨w, δ, M, Qd, s, e, h, k⟩ => up1 s e h fun w' v H' d M' l s' r ⟨c, ec, q⟩ => by
    subst ec
    cases r
    refine ⟨c, rfl, ?_⟩
    cases c with
    | true =>
      rw [if_pos rfl] at q ⊢
      exact up1 s' (e.mono l.le) q (k.mono l)
    | false =>
      rw [if_neg Bool.false_ne_true] at q ⊢
      exact k w' _ H' _ M' l s' (.bl _) q
theorem ce_or (ha : CE X a A) (hb : CE X (.BoolOp .Or (b :: rest) pos) B) : CE X (.BoolOp .Or (a :: b :: rest) pos) (dOrV A B) :=
  pe_weak (pe_or ha hb) fun σ H Q ⟨w, δ, M, Qd, s, e, h, k⟩ => up1 s e h fun w' v H' d M' l s' r ⟨c, ec, q⟩ => by
    subst ec
    cases r
    refine ⟨c, rfl, ?_⟩
    cases c with
    | false =>
      rw [if_neg Bool.false_ne_true] at q ⊢
      exact up1 s' (e.mono l.le) q (k.mono l)
    | true =>
      rw [if_pos rfl] at q ⊢
      exact k w' _ H' _ M' l s' (.bl _) q
theorem ce_not (ha : CE X a A) : CE X (.UnaryOp .Not a pos) (dNotV A) :=
  pe_weak (pe_not ha) fun σ H Q ⟨w, δ, M, Qd, s, e, h, k⟩ => up1 s e h fun w' v H' d M' l s' r ⟨c, ec, q⟩ => by
    subst ec
    cases r
    exact ⟨c, rfl, k w' _ H' _ M' l s' (.bl _) q⟩
theorem ce_ifE (hc : CT X c T) (ha : CE X a A) (hb : CE X b B) : CE X (.IfExp c a b pos) (dIfE T A B) :=
  pe_weak (pe_ifExp hc ha hb) fun σ H Q ⟨w, δ, M, Qd, s, e, h, k⟩ => upT1 s e h fun w' c H' M' l s' q => by
    cases c with
    | true =>
      rw [if_pos rfl] at q ⊢
      exact up1 s' (e.mono l.le) q (k.mono l)
    | false =>
      rw [if_neg Bool.false_ne_true] at q ⊢
      exact up1 s' (e.mono l.le) q (k.mono l)
def fNeg (A : WE) : WE := fun δ M Q => A δ M fun x M1 => ∃ i, x = .int i ∧ Q (.int (-i)) M1
theorem ce_neg (ha : CE X a A) : CE X (.UnaryOp .USub a pos) (fNeg A) :=
  pe_weak (pe_un un_neg ha) fun σ H Q ⟨w, δ, M, Qd, s, e, h, k⟩ => up1 s e h fun w' v H' d M' l s' r ⟨i, ei, q⟩ => by
    subst ei
    cases r
    exact ⟨i, rfl, k w' _ H' _ M' l s' (.int _) q⟩
/-- a < b < c -/
def dChain (f g : F2) (A B C : WE) : WE := fun δ M Q => A δ M fun x M1 => B δ M1 fun y M2 => f x y M2 fun z M3 => ∃ c, z = .bl c ∧ if c = true then C δ M3 fun u M4 => g y u M4 Q else Q (.bl false) M3
@[simp] theorem dChain_ev (f g : F2) (A B C : WE) (δ : Dn) (M : Sto) (Q : D → Sto → Prop) : dChain f g A B C δ M Q = A δ M fun x M1 => B δ M1 fun y M2 => f x y M2 fun z M3 => isB z fun c => (c = true → C δ M3 fun u M4 => g y u M4 Q) ∧ (c = false → Q (.bl false) M3) := by simp only [dChain, iteP, isB]
theorem chain_ok {op op' : CmpOp} {f g : F2} {C : WE} {σ : L2.St} {H : Hp} {Q : VK} (ho : OpD X (compareOp op) f) (ho' : OpD X (compareOp op') g) (h : up (gx X) (dChain f g A B C) σ H Q) :
    tChain (rOp X (compareOp op)) (rOp X (compareOp op')) (up (gx X) A) (up (gx X) B) (up (gx X) C) σ H Q := by
  obtain ⟨w, δ, M, Qd, s, e, h, k⟩ := h
  refine up2 s e h fun w' v1 v2 H' d1 d2 M' l s' r1 r2 h' pins sh σ' u v I q1 q2 => ?_
  refine ho d1 d2 M' _ h' pins sh σ' H' w' v1 v2 u v _ I q1 q2 s' r1 r2 fun w2 v3 H2 d3 M2 l2 s2 rr ⟨c, ec, qc⟩ => ?_
  subst ec
  cases rr
  refine ⟨c, rfl, ?_⟩
  cases c with
  | true =>
    rw [if_pos rfl] at qc ⊢
    exact up1 s2 (e.mono (l.trans l2).le) qc fun w3 v4 H3 d4 M3 l3 s3 r4 q4 pins3 sh3 σ3 u3 v3 I3 p1 p2 =>
      ho' d2 d4 M3 Qd q4 pins3 sh3 σ3 H3 w3 v2 v4 u3 v3 Q I3 p1 p2 s3 (r2.mono (l2.trans l3).le) r4 (k.mono ((l.trans l2).trans l3))
  | false =>
    rw [if_neg Bool.false_ne_true] at qc ⊢
    exact k w2 _ H2 _ M2 (l.trans l2) s2 (.bl _) qc
theorem ce_chain {op op' : CmpOp} {f g : F2} {C : WE} (ho : OpD X (compareOp op) f) (ho' : OpD X (compareOp op') g) (ha : CE X a A) (hb : CE X b B) (hc : CE X c C) (hm : lastMarks [op, op'] [b, c] = false := by with_unfolding_all rfl) :
    CE X (.Compare a [op, op'] [b, c] pos) (dChain f g A B C) := pe_weak (pe_chain rOp_ok rOp_ok ha hb hc hm) fun σ H Q h => chain_ok ho ho' h
theorem ct_chain {op op' : CmpOp} {f g : F2} {C : WE} (ho : OpD X (compareOp op) f) (ho' : OpD X (compareOp op') g) (ha : CE X a A) (hb : CE X b B) (hc : CE X c C) (hm : lastMarks [op, op'] [b, c] = false := by with_unfolding_all rfl) :
    CT X (.Compare a [op, op'] [b, c] pos) (dTst (dChain f g A B C)) := pt_weak (pt_chain rOp_ok rOp_ok ha hb hc hm) fun σ H Q h => by
  obtain ⟨w, δ, M, Qd, s, e, h, k⟩ := h
  refine chain_ok ho ho' ⟨w, δ, M, _, s, e, h, fun w' v H' d M' l s' r hd => ?_⟩
  obtain ⟨b, rfl, q⟩ := hd
  cases r
  exact ⟨b, rfl, k w' b H' M' l s' q⟩
/-- the truth of a sequence, a text, an int -/
def truD (M : Sto) (d : D) (b : Bool) : Prop := (∃ ds, seqOf M d = some ds ∧ b = !ds.isEmpty) ∨ (∃ i, d = .int i ∧ b = (i != 0)) ∨ (∃ c, d = .bl c ∧ b = c) ∨ (d = .non ∧ b = false) ∨ ∃ x : Str, d = .str x ∧ x.length ≤ sizeLine ∧ b = ((x.length : Int) != 0)
def dTru (A : WE) : WT := fun δ M Q => A δ M fun d M1 => ∃ b, truD M1 d b ∧ Q b M1
def isT (M : Sto) (d : D) (Q : Bool → Prop) : Prop := ∃ b, truD M d b ∧ Q b
@[simp] theorem dTru_ev (A : WE) (δ : Dn) (M : Sto) (Q : Bool → Sto → Prop) : dTru A δ M Q = A δ M fun d M1 => isT M1 d fun b => Q b M1 := rfl
theorem isT_seq {M : Sto} {d : D} {ds : List D} {Q : Bool → Prop} (h : seqOf M d = some ds) (q : Q (!ds.isEmpty)) : isT M d Q := ⟨_, .inl ⟨ds, h, rfl⟩, q⟩
@[simp] theorem isT_bl (M : Sto) (b : Bool) (Q : Bool → Prop) : isT M (.bl b) Q = Q b := by
  apply propext
  constructor
  · rintro ⟨c, h, q⟩
    simp [truD, seqOf, lstOf, tupOf] at h
    exact h ▸ q
  · exact fun q => ⟨b, .inr (.inr (.inl ⟨b, rfl, rfl⟩)), q⟩
@[simp] theorem isT_int (M : Sto) (i : Int) (Q : Bool → Prop) : isT M (.int i) Q = Q (i != 0) := by
  apply propext
  constructor
  · rintro ⟨c, h, q⟩
    simp [truD, seqOf, lstOf, tupOf] at h
    exact h ▸ q
  · exact fun q => ⟨_, .inr (.inl ⟨i, rfl, rfl⟩), q⟩
@[simp] theorem isT_non (M : Sto) (Q : Bool → Prop) : isT M .non Q = Q false := by
  apply propext
  constructor
  · rintro ⟨c, h, q⟩
    simp [truD, seqOf, lstOf, tupOf] at h
    exact h ▸ q
  · exact fun q => ⟨_, .inr (.inr (.inr (.inl ⟨rfl, rfl⟩))), q⟩
theorem ct_tru (ha : CE X a A) (he : ∀ whole, isTrue a X.env whole = (do let v ← whole; standAt a.pos; holding [v] (truthy v)) := by intro _; rfl) : CT X a (dTru A) :=
  pt_weak (pt_truth ha he) fun σ H Q ⟨w, δ, M, Qd, s, e, h, k⟩ => up1 s e h fun w' v H' d M' l s' r ⟨b, tb, q⟩ => by
    refine ⟨b, ?_, k w' b H' M' l s' q⟩
    rcases tb with ⟨ds, e1, rfl⟩ | ⟨i, rfl, rfl⟩ | ⟨c, rfl, rfl⟩ | ⟨rfl, rfl⟩ | ⟨x, rfl, hx, rfl⟩
    · obtain ⟨p, vs, rfl, f1, g1⟩ := s'.seq r e1 X.K
      have he : (!ds.isEmpty) = !vs.isEmpty := by cases g1 <;> rfl
      rcases f1 with f1 | f1
      · exact .inl ⟨vs, f1, he⟩
      · exact .inr (.inl ⟨vs, f1, he⟩)
    · cases r
      rfl
    · cases r
      rfl
    · cases r
      rfl
    · cases r
      exact ⟨hx, rfl⟩
end

/-! ### arguments, displays -/
@[simp] def aNil : WA := fun _ M Q => Q [] M
@[simp] def aCons (A : WE) (R : WA) : WA := fun δ M Q => A δ M fun d M1 => R δ M1 fun ds M2 => Q (d :: ds) M2
@[simp] def dTup (A : WA) : WE := fun δ M Q => A δ M fun ds M1 => ds.length ≤ sizeLine ∧ Q (.tup ds) M1
@[simp] def dLst (A : WA) : WE := fun δ M Q => A δ M fun ds M1 => ds.length ≤ sizeLine ∧ Q (.lst ds) M1
@[simp] def dLstM (A : WA) : WE := fun δ M Q => A δ M fun ds M1 => ds.length ≤ sizeLine ∧ Q (.cell M1.length) (M1 ++ [.lst ds])
section
variable {X : Cx} {pos : Pos} {e : Expr} {es : List Expr} {A : WE} {R : WA}
theorem upA1 {G : Gx} {w : Wd} {σ : L2.St} {H : Hp} {δ : Dn} {M : Sto} {Qd : List D → Sto → Prop} {Q : List V → Hp → Prop} (s : Sim G w H M) (e : EnvR G w σ δ) (h : R δ M Qd) (k : KA G w H Qd Q) : upA G R σ H Q := ⟨w, δ, M, Qd, s, e, h, k⟩
theorem ca_nil : CA X [] aNil := pa_weak pa_nil fun σ H Q ⟨w, δ, M, Qd, s, e, h, k⟩ => k w _ H _ M (Stp.refl _ _) s .nil h
theorem ca_cons (ha : CE X e A) (hr : CA X es R) (hs : starEach (e :: es) X.env = (false, eval e X.env) :: starEach es X.env := by rfl) : CA X (e :: es) (aCons A R) :=
  pa_weak (pa_cons ha hr hs) fun σ H Q ⟨w, δ, M, Qd, s, e, h, k⟩ => up1 s e h fun w' v H' d M' l s' r q => upA1 s' (e.mono l.le) q fun w2 vs H2 ds M2 l2 s2 rs q2 =>
    k w2 _ H2 _ M2 (l.trans l2) s2 (.cons (r.mono l2.le) rs) q2
theorem ce_tup {x1} (h : CA X es R) : CE X (.Tuple es x1 pos) (dTup R) := pe_weak (pe_tup h) fun σ H Q ⟨w, δ, M, Qd, s, e, h, k⟩ => upA1 s e h fun w' vs H' ds M' l s' r ⟨hl, q⟩ =>
  ⟨by rw [r.length]; exact hl, fun p hp => (k.mono l).newTup s' r hp q⟩
theorem ce_lst (h : CA X es R) : CE X (.List es pos) (dLst R) := pe_weak (pe_lst h) fun σ H Q ⟨w, δ, M, Qd, s, e, h, k⟩ => upA1 s e h fun w' vs H' ds M' l s' r ⟨hl, q⟩ =>
  ⟨by rw [r.length]; exact hl, fun p hp => (k.mono l).newLst s' r hp q⟩
theorem ce_lstM (h : CA X es R) : CE X (.List es pos) (dLstM R) := pe_weak (pe_lst h) fun σ H Q ⟨w, δ, M, Qd, s, e, h, k⟩ => upA1 s e h fun w' vs H' ds M' l s' r ⟨hl, q⟩ =>
  ⟨by rw [r.length]; exact hl, fun p hp => (k.mono l).newCell s' hp (cellLst s' hp r) q⟩
end

/-! ### built-in functions by data -/
abbrev FA := List D → Sto → (D → Sto → Prop) → Prop
@[simp] def dCB (f : FA) (R : WA) : WE := fun δ M Q => R δ M fun ds M1 => f ds M1 Q
def CalD (X : Cx) (f : Value) (g : FA) : Prop :=
  ∀ (ds : List D) (M : Sto) (Qd : D → Sto → Prop), g ds M Qd → ∀ (pins : List (Addr × Obj)) (s : Shared) (σ : L2.St) (H : Hp) (w : Wd) (vs : List V) (us : List Value) (Q : VK), Inv X pins σ H s → Vals vs us → Sim (gx X) w H M → Reps (gx X) w vs ds →
    KQ (gx X) w H Qd Q → wpAny (model X.prog X.w) X.A (call f us) (EP X pins σ Q) X.xe s
def rCal (X : Cx) (f : Value) : List V → Hp → VK → Prop := fun xs H Q => ∀ (pins : List (Addr × Obj)) (s : Shared) (σ : L2.St) (us : List Value), Inv X pins σ H s → Vals xs us → wpAny (model X.prog X.w) X.A (call f us) (EP X pins σ Q) X.xe s
theorem rCal_ok {X : Cx} {f : Value} : CallR X f (rCal X f) := fun pins s σ H xs us Q I r h => h pins s σ us I r
theorem CalD.of {X : Cx} {f : Value} {r : List V → Hp → VK → Prop} (h : CallR X f r) {ds : List D} {M : Sto} {Qd : D → Sto → Prop}
    (k : ∀ (w : Wd) (H : Hp) (vs : List V) (Q : VK), Sim (gx X) w H M → Reps (gx X) w vs ds → KQ (gx X) w H Qd Q → r vs H Q) :
    ∀ (pins : List (Addr × Obj)) (s : Shared) (σ : L2.St) (H : Hp) (w : Wd) (vs : List V) (us : List Value) (Q : VK), Inv X pins σ H s → Vals vs us → Sim (gx X) w H M → Reps (gx X) w vs ds →
    KQ (gx X) w H Qd Q → wpAny (model X.prog X.w) X.A (call f us) (EP X pins σ Q) X.xe s :=
  fun pins s σ H w vs us Q I r sm rp kq => h pins s σ H vs us Q I r (k w H vs Q sm rp kq)
section
variable {X : Cx} {pos p : Pos} {e : Expr} {es : List Expr} {R : WA} {x : Str} {id : String}
theorem cal_ok {f : Value} {g : FA} {σ : L2.St} {H : Hp} {Q : VK} (hc : CalD X f g) (h : up (gx X) (dCB g R) σ H Q) : tCB (rCal X f) (upA (gx X) R) σ H Q := by
  obtain ⟨w, δ, M, Qd, s, e, h, k⟩ := h
  exact upA1 s e h fun w' vs H' ds M' l s' r q pins sh σ' us I rv => hc ds M' Qd q pins sh σ' H' w' vs us Q I rv s' r (k.mono l)
theorem ce_callB {g : FA} (hc : CalD X (.builtin id) g) (hm : X.mg x = none) (ha : CA X (e :: es) R) (hg : Gl X x := by rfl) (hv : bootBuiltins x = some (.builtin id) := by decide +kernel) (hn : x ≠ "__name__" := by decide) (hdb : (x == ("__debug__" : Str)) = false := by decide)
    (he : starEach (e :: es) X.env = (false, eval e X.env) :: starEach es X.env := by rfl) (hpl : (backTo pos (starEach es X.env)).any (·.1) = false := by rfl) : CE X (.Call (.Name x p) (e :: es) [] pos) (dCB g R) :=
  pe_weak (pe_callB rCal_ok hg hm hv ha hn hdb he hpl) fun σ H Q h => cal_ok hc h
theorem ce_callT {g : FA} (hc : CalD X (.type id) g) (hm : X.mg x = none) (ha : CA X (e :: es) R) (hg : Gl X x := by rfl) (hv : bootBuiltins x = some (.type id) := by decide +kernel) (hn : x ≠ "__name__" := by decide) (hdb : (x == ("__debug__" : Str)) = false := by decide)
    (he : starEach (e :: es) X.env = (false, eval e X.env) :: starEach es X.env := by rfl) (hpl : (backTo pos (starEach es X.env)).any (·.1) = false := by rfl) : CE X (.Call (.Name x p) (e :: es) [] pos) (dCB g R) :=
  pe_weak (pe_callTy rCal_ok hg hm hv ha hn hdb he hpl) fun σ H Q h => cal_ok hc h
end

/-! ### subscripts, slices -/
def fIx : F2 := fun x y M Q => (∃ ds i d, seqOf M x = some ds ∧ y = .int i ∧ atI ds i = some d ∧ Q d M) ∨ ∃ z i c, x = .str z ∧ y = .int i ∧ z.length ≤ sizeLine ∧ atI z.cps.toList i = some c ∧ Q (.str ⟨#[c]⟩) M
section
variable {X : Cx} {pos p2 : Pos} {a b : Expr} {A B : WE}
theorem atI_rep {G : Gx} {w : Wd} {vs : List V} {ds : List D} {i : Int} {d : D} (r : Reps G w vs ds) (h : atI ds i = some d) : ∃ v, atI vs i = some v ∧ Rep G w v d := by
  unfold atI at h ⊢
  rw [r.length]
  cases e : ixN ds.length i with
  | none =>
    rw [e] at h
    cases h
  | some j =>
    rw [e] at h
    exact r.get h
theorem ce_ix (ha : CE X a A) (hb : CE X b B) (hs : PlainIx b := by intro _ _; rfl) : CE X (.Subscript a b pos) (dOp fIx A B) :=
  pe_weak (pe_ix ix_seq ha hb hs) fun σ H Q ⟨w, δ, M, Qd, s, e, h, k⟩ => up2 s e h fun w' v1 v2 H' d1 d2 M' l s' r1 r2 h' => by
    rcases h' with ⟨ds, i, d, e1, rfl, e3, q⟩ | ⟨z, i, c, rfl, rfl, hz, e3, q⟩
    · cases r2
      obtain ⟨p, vs, rfl, f1, g1⟩ := s'.seq r1 e1 X.K
      obtain ⟨v, e4, r4⟩ := atI_rep g1 e3
      rcases f1 with f1 | f1
      · exact .inl ⟨p, vs, i, v, rfl, rfl, f1, e4, k w' v H' d M' l s' r4 q⟩
      · exact .inr (.inl ⟨p, vs, i, v, rfl, rfl, f1, e4, k w' v H' d M' l s' r4 q⟩)
    · cases r1; cases r2
      exact .inr (.inr ⟨z, i, c, rfl, rfl, hz, e3, k w' _ H' _ M' l s' (.str _) q⟩)
abbrev WO := Dn → Sto → (Option Int → Sto → Prop) → Prop
@[simp] def oNone : WO := fun _ M Q => Q none M
@[simp] def oSome (A : WE) : WO := fun δ M Q => A δ M fun d M1 => ∃ i, d = .int i ∧ Q (some i) M1
def KO (G : Gx) (w : Wd) (H : Hp) (Qd : Option Int → Sto → Prop) (Q : Option Int → Hp → Prop) : Prop := ∀ w' b H' M', Stp w H w' H' → Sim G w' H' M' → Qd b M' → Q b H'
def upO (G : Gx) (A : WO) : TO := fun σ H Q => ∃ w δ M Qd, Sim G w H M ∧ EnvR G w σ δ ∧ A δ M Qd ∧ KO G w H Qd Q
abbrev CO (X : Cx) (e : Option Expr) (A : WO) : Prop := PO X e (upO (gx X) A)
theorem po_weak {e : Option Expr} {t t' : TO} (h : PO X e t) (k : ∀ σ H Q, t' σ H Q → t σ H Q) : PO X e t' := ⟨fun pins s σ H Q I q => h.run pins s σ H Q I (k σ H Q q)⟩
theorem co_none : CO X none oNone := po_weak po_none fun σ H Q ⟨w, δ, M, Qd, s, e, h, k⟩ => k w _ H M (Stp.refl _ _) s h
theorem co_some (ha : CE X a A) : CO X (some a) (oSome A) := po_weak (po_some ha) fun σ H Q ⟨w, δ, M, Qd, s, e, h, k⟩ => up1 s e h fun w' v H' d M' l s' r ⟨i, ei, q⟩ => by
  subst ei
  cases r
  exact ⟨i, rfl, k w' _ H' M' l s' q⟩
def cutD (xs : List D) (lo hi : Option Int) : List D := (xs.drop (HT.sIx xs.length 0 lo)).take (HT.sIx xs.length xs.length hi - HT.sIx xs.length 0 lo)
theorem cut_rep {G : Gx} {w : Wd} {vs : List V} {ds : List D} (r : Reps G w vs ds) (lo hi : Option Int) : Reps G w (cutV vs lo hi) (cutD ds lo hi) := by
  unfold cutV cutD
  rw [r.length]
  exact (r.drop _).take _
def dSl (A : WE) (L U : WO) : WE := fun δ M Q => A δ M fun d M1 => L δ M1 fun lo M2 => U δ M2 fun hi M3 =>
  (∃ ds, lstOf M3 d = some ds ∧ Q (.lst (cutD ds lo hi)) M3) ∨ (∃ ds, d = .tup ds ∧ Q (.tup (cutD ds lo hi)) M3) ∨ ∃ z, d = .str z ∧ z.length ≤ sizeLine ∧ Q (.str (cutS z lo hi)) M3
theorem ce_slice {lo hi : Option Expr} {L U : WO} (ha : CE X a A) (hl : CO X lo L) (hu : CO X hi U) : CE X (.Subscript a (.Slice lo hi none p2) pos) (dSl A L U) :=
  pe_weak (pe_slice (sl_list.or (sl_tupA.or sl_str)) ha hl hu) fun σ H Q ⟨w, δ, M, Qd, s, e, h, k⟩ => up1 s e h fun w1 v H1 d M1 l1 s1 r1 h1 =>
    ⟨w1, δ, M1, _, s1, e.mono l1.le, h1, fun w2 lo H2 M2 l2 s2 h2 => ⟨w2, δ, M2, _, s2, e.mono (l1.trans l2).le, h2, fun w3 hi H3 M3 l3 s3 h3 => by
      have l := (l1.trans l2).trans l3
      have r := r1.mono (l2.trans l3).le
      rcases h3 with ⟨ds, e1, q⟩ | ⟨ds, rfl, q⟩ | ⟨z, rfl, hz, q⟩
      · obtain ⟨a, vs, rfl, f1, g1⟩ := s3.lst r e1 X.K
        exact .inl ⟨a, vs, rfl, f1, fun p hp => (k.mono l).newLst s3 (cut_rep g1 lo hi) hp q⟩
      · cases r with
        | @tup a vs _ f1 g1 =>
          refine .inr (.inl ⟨a, vs, rfl, .inl (.inl (s3.same _ _ f1)), fun z => ?_, fun z p hp => (k.mono l).newTup s3 (cut_rep g1 lo hi) hp q⟩)
          have hw : cutD ds lo hi = ds := by
            unfold cutD
            rw [← g1.length, z.1, z.2]
            simp [g1.length]
          rw [hw] at q
          exact (k.mono l).here s3 (.tup f1 g1) q
      · cases r
        exact .inr (.inr ⟨z, rfl, hz, (k.mono l).here s3 (.str _) q⟩)⟩⟩
end

/-! ### blocks and small statements -/
@[simp] def dNext : WS := fun E δ M => E.nx δ M
@[simp] def dSeq (S T : WS) : WS := fun E δ M => S { E with nx := T E } δ M
@[simp] def dDrop (A : WE) : WS := fun E δ M => A δ M fun _ M1 => E.nx δ M1
@[simp] def dRet (A : WE) : WS := fun E δ M => A δ M E.rt
@[simp] def dRetN : WS := fun E _ M => E.rt .non M
@[simp] def dBrk : WS := fun E δ M => E.bk δ M
@[simp] def dCnt : WS := fun E δ M => E.ct δ M
def dIf (T : WT) (S U : WS) : WS := fun E δ M => T δ M fun b M1 => if b = true then S E δ M1 else U E δ M1
@[simp] theorem dIf_ev (T : WT) (S U : WS) (E : DE) (δ : Dn) (M : Sto) : dIf T S U E δ M = T δ M fun b M1 => (b = true → S E δ M1) ∧ (b = false → U E δ M1) := by simp only [dIf, iteP]
@[simp] def dSet (i : Nat) (A : WE) : WS := fun E δ M => A δ M fun d M1 => E.nx (δ.set i (some d)) M1
@[simp] def dNever : WS := fun _ _ _ => False
section
variable {X : Cx} {pos : Pos} {st : Stmt} {rest : List Stmt} {S T : WS} {A : WE} {e : Expr}
theorem upS1 {G : Gx} {w : Wd} {σ : L2.St} {H : Hp} {δ : Dn} {M : Sto} {E : DE} {D : L2.Ends} (s : Sim G w H M) (e : EnvR G w σ δ) (h : S E δ M) (k : KE G w H E D) : upS G S D σ H := ⟨w, δ, M, E, s, e, h, k⟩
theorem KE.next {G : Gx} {w : Wd} {σ : L2.St} {H : Hp} {δ : Dn} {M : Sto} {E : DE} {D : L2.Ends} (k : KE G w H E D) (s : Sim G w H M) (e : EnvR G w σ δ) (h : E.nx δ M) : D.nx σ H := k.nx w σ H δ M (Stp.refl _ _) s e h
theorem css_nil : CSs X [] dNext := pss_weak pss_nil fun D σ H ⟨w, δ, M, E, s, e, h, k⟩ => k.next s e h
theorem css_cons (h1 : CS X st S) (h2 : CSs X rest T) : CSs X (st :: rest) (dSeq S T) := pss_weak (pss_cons h1 h2) fun D σ H ⟨w, δ, M, E, s, e, h, k⟩ =>
  upS1 (S := S) s e h ⟨fun w' σ' H' δ' M' l s' e' q => upS1 s' e' q (k.mono l), k.rt, k.bk, k.ct⟩
theorem css_one (h1 : CS X st S) : CSs X [st] S := pss_one h1
theorem cs_pass : CS X (.Pass pos) dNext := ps_weak ps_pass fun D σ H ⟨w, δ, M, E, s, e, h, k⟩ => k.next s e h
theorem cs_break : CS X (.Break pos) dBrk := ps_weak ps_break fun D σ H ⟨w, δ, M, E, s, e, h, k⟩ => k.bk w σ H δ M (Stp.refl _ _) s e h
theorem cs_cont : CS X (.Continue pos) dCnt := ps_weak ps_continue fun D σ H ⟨w, δ, M, E, s, e, h, k⟩ => k.ct w σ H δ M (Stp.refl _ _) s e h
theorem cs_expr (he : CE X e A) (hs : swapsWith e none pos.line X.env = pure false := by rfl) : CS X (.Expr e pos) (dDrop A) := ps_weak (ps_expr he hs) fun D σ H ⟨w, δ, M, E, s, e, h, k⟩ =>
  up1 s e h fun w' v H' d M' l s' r q => k.nx w' σ H' δ M' l s' (e.mono l.le) q
theorem cs_ret (he : CE X e A) : CS X (.Return (some e) pos) (dRet A) := ps_weak (ps_ret he) fun D σ H ⟨w, δ, M, E, s, e, h, k⟩ => up1 s e h k.rt
theorem cs_retN : CS X (.Return none pos) dRetN := ps_weak ps_retN fun D σ H ⟨w, δ, M, E, s, e, h, k⟩ => k.rt.here s .non h
theorem cs_never : CS X st dNever := ps_weak ps_never fun D σ H ⟨w, δ, M, E, s, e, h, k⟩ => h
theorem css_never {sts : List Stmt} : CSs X sts dNever := pss_weak pss_never fun D σ H ⟨w, δ, M, E, s, e, h, k⟩ => h
theorem cs_if {c : Expr} {a b : List Stmt} {C : WT} (hc : CT X c C) (ha : CSs X a S) (hb : CSs X b T) : CS X (.If c a b pos) (dIf C S T) := ps_weak (ps_if hc ha hb) fun D σ H ⟨w, δ, M, E, s, e, h, k⟩ =>
  upT1 s e h fun w' b H' M' l s' q => by
    cases b with
    | true =>
      rw [if_pos rfl] at q ⊢
      exact upS1 s' (e.mono l.le) q (k.mono l)
    | false =>
      rw [if_neg Bool.false_ne_true] at q ⊢
      exact upS1 s' (e.mono l.le) q (k.mono l)
theorem cs_set (i : Nat) {x : Str} {pos' : Pos} (hN : X.N.Nodup) (he : CE X e A) (hi : X.N[i]? = some x := by rfl) (hx : Loc X.env.scope x := by first | exact Or.inl rfl | exact Or.inr rfl) (hs : swapsWith e (some (.Name x pos')) pos.line X.env = pure false := by rfl) (hf : X.fn x = true ∨ X.env.scope.names.lookup x = some .local := by first | exact .inl rfl | exact .inr rfl | assumption) :
    CS X (.Assign [.Name x pos'] e pos) (dSet i A) := ps_weak (ps_set hN hi hx he hs hf) fun D σ H ⟨w, δ, M, E, s, e, h, k⟩ =>
  up1 s e h fun w' v H' d M' l s' r q => k.nx w' _ H' _ M' l s' ((e.mono l.le).set r i) q
/-- x += e -/
@[simp] def dAug (f : F2) (i : Nat) (A : WE) : WS := fun E δ M => ∃ x, δ[i]? = some (some x) ∧ A δ M fun y M1 => f x y M1 fun z M2 => E.nx (δ.set i (some z)) M2
def rIp (X : Cx) (op : Operator) : TIp := fun x y H Q => ∀ (pins : List (Addr × Obj)) (s : Shared) (σ : L2.St) (u v : Value), Inv X pins σ H s → RelV x u → RelV y v → wpAny (model X.prog X.w) X.A (inplaceOp op u v) (EP X pins σ Q) X.xe s
theorem rIp_ok {op : Operator} : PIp X op (rIp X op) := fun pins s σ H x y u v Q I r1 r2 h => h pins s σ u v I r1 r2
theorem cs_aug (i : Nat) {x : Str} {op : Operator} {f : F2} {pos' : Pos} (hN : X.N.Nodup) (ho : OpD X (inplaceOp op) f) (he : CE X e A) (hi : X.N[i]? = some x := by rfl) (hx : Loc X.env.scope x := by first | exact Or.inl rfl | exact Or.inr rfl) (hf : X.fn x = true ∨ X.env.scope.names.lookup x = some .local := by first | exact .inl rfl | exact .inr rfl | assumption) :
    CS X (.AugAssign (.Name x pos') op e pos) (dAug f i A) := ps_weak (ps_aug hN hi hx he rIp_ok hf) fun D σ H ⟨w, δ, M, E, s, e, h, k⟩ => by
  obtain ⟨d, hd, h⟩ := h
  obtain ⟨v, hv, r⟩ := e.2 i d hd
  refine ⟨v, hv, up1 s e h fun w' v2 H' d2 M' l s' r2 q pins sh σ' u1 u2 I q1 q2 => ?_⟩
  exact ho d d2 M' _ q pins sh σ' H' w' v v2 u1 u2 _ I q1 q2 s' (r.mono l.le) r2 fun w3 v3 H3 d3 M3 l3 s3 r3 q3 => k.nx w3 _ H3 _ M3 (l.trans l3) s3 ((e.mono (l.trans l3).le).set r3 i) q3
theorem od_iadd : OpD X (inplaceOp .Add) (fI fun i j => i + j) := od_fI iop_add
theorem od_isub : OpD X (inplaceOp .Sub) (fI fun i j => i - j) := od_fI iop_sub
end

/-! ### freezing -/
section
variable {G : Gx} {w : Wd} {H : Hp} {M : Sto}
/-- the list cell n becomes a list for good -/
def frzD (M : Sto) (d : D) (k : D → Sto → Prop) : Prop := ∃ n ds, d = .cell n ∧ M[n]? = some (.lst ds) ∧ k (.lst ds) (M.set n .dead)
theorem frz_ok {v : V} {d : D} {k : D → Sto → Prop} (s : Sim G w H M) (r : Rep G w v d) (h : frzD M d k) : ∃ w' d' M', Stp w H w' H ∧ Sim G w' H M' ∧ Rep G w' v d' ∧ k d' M' := by
  obtain ⟨n, ds, rfl, hm, q⟩ := h
  cases r with
  | @cell _ a ha =>
    obtain ⟨hf, vs, h1, h2⟩ := s.cell n a _ ha hm
    exact ⟨_, _, _, Stp.freeze ha hf, s.freeze ha hf h1, .lst (by show upd w.F a _ a = _; rw [upd_same]) (h2.mono (Le.new hf)), q⟩
@[simp] def dFrz (A : WE) : WE := fun δ M Q => A δ M fun d M1 => frzD M1 d Q
theorem ce_frz {X : Cx} {e : Expr} {A : WE} (h : CE X e A) : CE X e (dFrz A) := pe_weak h fun σ H Q ⟨w, δ, M, Qd, s, e, h, k⟩ => up1 s e h fun w' v H' d M' l s' r q => by
  obtain ⟨w2, d2, M2, l2, s2, r2, q2⟩ := frz_ok s' r q
  exact k w2 v H' d2 M2 (l.trans l2) s2 r2 q2
/-- the name i's list becomes a list for good, ahead of some statements -/
@[simp] def dFrzV (i : Nat) (S : WS) : WS := fun E δ M => ∃ d, δ[i]? = some (some d) ∧ frzD M d fun d' M' => S E (δ.set i (some d')) M'
theorem EnvR.same {σ : L2.St} {δ : Dn} {v : V} {d : D} {i : Nat} (e : EnvR G w σ δ) (hv : σ[i]? = some (some v)) (r : Rep G w v d) : EnvR G w σ (δ.set i (some d)) := ⟨by simp [e.1], fun j d' h => by
  by_cases hj : i = j
  · subst hj
    have hl : i < δ.length := by
      have := (List.getElem?_eq_some_iff.mp h).1
      simpa using this
    rw [List.getElem?_set_self hl] at h
    cases h
    exact ⟨v, hv, r⟩
  · rw [List.getElem?_set_ne hj] at h
    exact e.2 j d' h⟩
theorem css_frz {X : Cx} {sts : List Stmt} {S : WS} (i : Nat) (h : CSs X sts S) : CSs X sts (dFrzV i S) := pss_weak h fun D σ H ⟨w, δ, M, E, s, e, h, k⟩ => by
  obtain ⟨d, hd, q⟩ := h
  obtain ⟨v, hv, r⟩ := e.2 i d hd
  obtain ⟨w2, d2, M2, l2, s2, r2, q2⟩ := frz_ok s r q
  exact upS1 s2 ((e.mono l2.le).same hv r2) q2 (k.mono l2)
/-- what is known of a name is forgotten -/
@[simp] def dFgt (i : Nat) (S : WS) : WS := fun E δ M => S E (δ.set i none) M
theorem css_fgt {X : Cx} {sts : List Stmt} {S : WS} (i : Nat) (h : CSs X sts S) : CSs X sts (dFgt i S) := pss_weak h fun D σ H ⟨w, δ, M, E, s, e, h, k⟩ =>
  upS1 s ⟨by simp [e.1], fun j d hd => by
    by_cases hj : i = j
    · subst hj
      have hl : i < δ.length := by
        have := (List.getElem?_eq_some_iff.mp hd).1
        simpa using this
      rw [List.getElem?_set_self hl] at hd
      cases hd
    · rw [List.getElem?_set_ne hj] at hd
      exact e.2 j d hd⟩ h k
end
end DL


set_option Elab.async false
set_option linter.all false
set_option autoImplicit false
set_option maxRecDepth 100000
set_option maxHeartbeats 4000000
namespace DL
open PySem PySem.Spec PyProof.Rows L2

/-! ### patterns -/
inductive Pat where
  | nm (i : Nat) | tp (is : List Nat)
def gSeq : List Nat → TGs
  | [] => gNil
  | i :: is => gCons (gName i) (gSeq is)
def tgP (K : PySem.W.Frag) : Pat → TG
  | .nm i => gName i
  | .tp is => gTup K is.length (gSeq is)
def setV : List Nat → List V → L2.St → L2.St
  | i :: is, v :: vs, σ => setV is vs (σ.set i (some v))
  | _, _, σ => σ
@[simp] def setDs : List Nat → List D → Dn → Dn
  | i :: is, d :: ds, δ => setDs is ds (δ.set i (some d))
  | _, _, δ => δ
@[simp] def patD : Pat → D → Dn → (Dn → Prop) → Prop
  | .nm i, d, δ, k => k (δ.set i (some d))
  | .tp is, d, δ, k => ∃ ds, d = .tup ds ∧ ds.length = is.length ∧ k (setDs is ds δ)
def Pat.slots : Pat → List Nat
  | .nm i => [i]
  | .tp is => is
abbrev CP (X : Cx) (tg : Expr) (p : Pat) : Prop := PG X tg (tgP X.K p)
section
variable {X : Cx} {pos : Pos}
theorem cp_nm (i : Nat) {x : Str} (hN : X.N.Nodup) (hi : X.N[i]? = some x := by rfl) (hx : Loc X.env.scope x := by first | exact Or.inl rfl | exact Or.inr rfl) (hf : X.fn x = true ∨ X.env.scope.names.lookup x = some .local := by first | exact .inl rfl | exact .inr rfl | assumption) : CP X (.Name x pos) (.nm i) := pg_name hN hi hx hf
theorem cps_nil : PGs X [] (gSeq []) := pgs_nil
theorem cps_cons (i : Nat) {x : Str} {es : List Expr} {is : List Nat} (hN : X.N.Nodup) (h2 : PGs X es (gSeq is)) (hi : X.N[i]? = some x := by rfl) (hx : Loc X.env.scope x := by first | exact Or.inl rfl | exact Or.inr rfl) (hf : X.fn x = true ∨ X.env.scope.names.lookup x = some .local := by first | exact .inl rfl | exact .inr rfl | assumption)
    (hs : (assignEach (.Name x pos :: es) X.env).map (·.2) = assign (.Name x pos) X.env :: (assignEach es X.env).map (·.2) := by rfl) : PGs X (.Name x pos :: es) (gSeq (i :: is)) := pgs_cons (pg_name hN hi hx hf) h2 hs
theorem cp_tp {es : List Expr} {k : Nat} {is : List Nat} (h : PGs X es (gSeq is)) (hc : X.calm = true := by rfl) (hn : (assignEach es X.env).length = is.length := by rfl) (hst : (assignEach es X.env).findIdx? (·.1) = none := by rfl) : CP X (.Tuple es k pos) (.tp is) := pg_tup hc h hn hst
end
theorem gSeq_ok : ∀ {is : List Nat} {vs : List V} {σ : L2.St} {H : Hp} {Q : L2.St → Hp → Prop}, vs.length = is.length → Q (setV is vs σ) H → gSeq is vs σ H Q
  | [], [], σ, H, Q, _, q => ⟨rfl, q⟩
  | i :: is, v :: vs, σ, H, Q, hl, q => ⟨v, vs, rfl, gSeq_ok (by simpa using hl) q⟩
  | [], _ :: _, _, _, _, hl, _ => by simp at hl
  | _ :: _, [], _, _, _, hl, _ => by simp at hl
/-- the slots vs are forgotten -/
@[simp] def wipeD (δ : Dn) : List Nat → Dn
  | [] => δ
  | v :: vs => (wipeD δ vs).set v none
theorem wipe_get (σ : L2.St) : ∀ (vs : List Nat) (j : Nat), (wipe σ vs)[j]? = if j ∈ vs then σ[j]?.map (fun _ => none) else σ[j]?
  | [], j => by simp [wipe]
  | v :: vs, j => by
    unfold wipe
    by_cases hv : v = j
    · subst hv
      rw [List.getElem?_set]
      simp only [if_true, List.mem_cons, true_or, wipe_length]
      by_cases hl : v < σ.length
      · simp [hl]
      · simp [hl]
    · rw [List.getElem?_set_ne hv, wipe_get σ vs j]
      have hj : j ≠ v := fun z => hv z.symm
      simp [List.mem_cons, hj]
theorem wipeD_get (σ : Dn) : ∀ (vs : List Nat) (j : Nat), (wipeD σ vs)[j]? = if j ∈ vs then σ[j]?.map (fun _ => none) else σ[j]?
  | [], j => by simp [wipeD]
  | v :: vs, j => by
    have hlen : (wipeD σ vs).length = σ.length := by
      clear wipeD_get
      induction vs with
      | nil => rfl
      | cons a r ih => simp [wipeD, ih]
    unfold wipeD
    by_cases hv : v = j
    · subst hv
      rw [List.getElem?_set]
      simp only [if_true, List.mem_cons, true_or, hlen]
      by_cases hl : v < σ.length
      · simp [hl]
      · simp [hl]
    · rw [List.getElem?_set_ne hv, wipeD_get σ vs j]
      have hj : j ≠ v := fun z => hv z.symm
      simp [List.mem_cons, hj]
theorem wipeD_length (σ : Dn) : ∀ vs : List Nat, (wipeD σ vs).length = σ.length
  | [] => rfl
  | v :: vs => by simp [wipeD, wipeD_length σ vs]
theorem EnvR.wipe {G : Gx} {w : Wd} {σ : L2.St} {δ : Dn} (e : EnvR G w σ δ) (vs : List Nat) : EnvR G w (wipe σ vs) (wipeD δ vs) := ⟨by rw [wipe_length, wipeD_length, e.1], fun i d h => by
  rw [wipeD_get] at h
  rw [wipe_get]
  by_cases hi : i ∈ vs
  · rw [if_pos hi] at h
    cases q : δ[i]? <;> rw [q] at h <;> cases h
  · rw [if_neg hi] at h ⊢
    exact e.2 i d h⟩
theorem setV_length : ∀ (is : List Nat) (vs : List V) (σ : L2.St), (setV is vs σ).length = σ.length
  | [], _, _ => by simp [setV]
  | _ :: _, [], _ => by simp [setV]
  | i :: is, v :: vs, σ => by simp [setV, setV_length is vs]
theorem setV_get : ∀ (is : List Nat) (vs : List V) (σ : L2.St) (j : Nat), j ∉ is → (setV is vs σ)[j]? = σ[j]?
  | [], _, _, _, _ => by simp [setV]
  | _ :: _, [], _, _, _ => by simp [setV]
  | i :: is, v :: vs, σ, j, h => by
    simp only [List.mem_cons, not_or] at h
    unfold setV
    rw [setV_get is vs _ j h.2, List.getElem?_set_ne (Ne.symm h.1)]
theorem wipe_setV {σ : L2.St} {vs is : List Nat} {xs : List V} (h : ∀ i ∈ is, i ∈ vs) : wipe (setV is xs (wipe σ vs)) vs = wipe σ vs := by
  apply List.ext_getElem?
  intro j
  rw [wipe_get]
  by_cases hj : j ∈ vs
  · rw [if_pos hj]
    have h1 : (setV is xs (wipe σ vs)).length = σ.length := by rw [setV_length, wipe_length]
    have h2 : (wipe σ vs).length = σ.length := wipe_length σ vs
    by_cases hl : j < σ.length
    · rw [List.getElem?_eq_getElem (by rw [h1]; exact hl)]
      rw [wipe_get, if_pos hj, List.getElem?_eq_getElem hl]
      rfl
    · rw [List.getElem?_eq_none (by rw [h1]; omega), List.getElem?_eq_none (by rw [h2]; omega)]
      rfl
  · rw [if_neg hj, setV_get is xs _ j (fun z => hj (h j z))]
theorem EnvR.setDs {G : Gx} {w : Wd} : ∀ {is : List Nat} {vs : List V} {ds : List D} {σ : L2.St} {δ : Dn}, EnvR G w σ δ → Reps G w vs ds → EnvR G w (setV is vs σ) (setDs is ds δ)
  | [], _, _, _, _, e, _ => by
    unfold DL.setV DL.setDs
    exact e
  | _ :: _, _, _, _, _, e, .nil => by
    unfold DL.setV DL.setDs
    exact e
  | i :: is, _, _, _, _, e, .cons r t => EnvR.setDs (is := is) (e.set r i) t
theorem pat_ok {G : Gx} {w : Wd} {H : Hp} {M : Sto} {σ : L2.St} {δ : Dn} {p : Pat} {x : V} {d : D} {k : Dn → Prop} {Q : L2.St → Hp → Prop} (K : PySem.W.Frag) (s : Sim G w H M) (e : EnvR G w σ δ) (r : Rep G w x d) (h : patD p d δ k)
    (q : ∀ vs δ2, EnvR G w (setV p.slots vs σ) δ2 → k δ2 → Q (setV p.slots vs σ) H) : tgP K p x σ H Q := by
  cases p with
  | nm i => exact q [x] _ (e.set r i) h
  | tp is =>
    obtain ⟨ds, rfl, hl, h⟩ := h
    cases r with
    | @tup a vs _ f1 g1 =>
      exact ⟨a, vs, rfl, .inl (.inl (s.same _ _ f1)), by rw [g1.length, hl], gSeq_ok (by rw [g1.length, hl]) (q vs _ (e.setDs g1) h)⟩

/-! ### what is walked -/
structure ItD where
  items : List D
  ok : Sto → Prop
abbrev WI := Dn → Sto → (ItD → Sto → Prop) → Prop
/-- an iterator of the layer beneath gives the items -/
def ItR (G : Gx) (w : Wd) (H : Hp) (J : It) (it : ItD) : Prop := ∀ w' H' M', Stp w H w' H' → Sim G w' H' M' → it.ok M' →
  (∀ (i : Nat) d, it.items[i]? = some d → J.go i H' ∧ ∀ x H'', J.yld i H' x H'' → ∃ w'', Stp w' H' w'' H'' ∧ Sim G w'' H'' M' ∧ Rep G w'' x d) ∧ J.stop it.items.length H'
def KI (G : Gx) (w : Wd) (H : Hp) (Qd : ItD → Sto → Prop) (R : It → Hp → Prop) : Prop := ∀ w' J H' it M', Stp w H w' H' → Sim G w' H' M' → ItR G w' H' J it → Qd it M' → R J H'
def upI (G : Gx) (B : WI) : TI := fun σ H R => ∃ w δ M Qd, Sim G w H M ∧ EnvR G w σ δ ∧ B δ M Qd ∧ KI G w H Qd R
abbrev CI (X : Cx) (tg e : Expr) (B : WI) : Prop := PI X tg e (upI (gx X) B)
theorem pi_weak {X : Cx} {tg e : Expr} {t t' : TI} (h : PI X tg e t) (k : ∀ σ H Q, t' σ H Q → t σ H Q) : PI X tg e t' := ⟨fun pins s σ H Q I q => h.run pins s σ H Q I (k σ H Q q)⟩
theorem pi_or {X : Cx} {tg e : Expr} {t u : TI} (h : PI X tg e t) (h' : PI X tg e u) : PI X tg e (fun σ H R => t σ H R ∨ u σ H R) := ⟨fun pins s σ H Q I q => by
  rcases q with q | q
  · exact h.run pins s σ H Q I q
  · exact h'.run pins s σ H Q I q⟩
/-- over a tuple, over a list as it stands (a mutable one must not change meanwhile) -/
def dItS (A : WE) : WI := fun δ M Q => A δ M fun d M1 => (∃ ds, d = .tup ds ∧ Q ⟨ds, fun _ => True⟩ M1) ∨ (∃ ds, d = .lst ds ∧ Q ⟨ds, fun _ => True⟩ M1) ∨ (∃ ds, d = .frz ds ∧ Q ⟨ds, fun _ => True⟩ M1) ∨
  ∃ n ds, d = .cell n ∧ M1[n]? = some (.lst ds) ∧ Q ⟨ds, fun M' => M'[n]? = some (.lst ds)⟩ M1
theorem itR_list {G : Gx} {w : Wd} {H : Hp} (K : PySem.W.Frag) {a : Addr} {it : ItD} (h : ∀ w' H' M', Stp w H w' H' → Sim G w' H' M' → it.ok M' → ∃ vs, SqL K H' a vs ∧ Reps G w' vs it.items)
    : ItR G w H (Itl K a) it := fun w' H' M' l s ok => by
  obtain ⟨vs, f, g⟩ := h w' H' M' l s ok
  refine ⟨fun i d hd => ?_, ⟨vs, f, by rw [g.length]; exact Nat.le_refl _⟩⟩
  obtain ⟨v, hv, r⟩ := g.get hd
  refine ⟨⟨vs, v, f, hv⟩, fun x H'' y => ?_⟩
  obtain ⟨rfl, y⟩ := y
  have := y vs f
  rw [hv] at this
  cases this
  exact ⟨w', Stp.refl _ _, s, r⟩
theorem itR_tup {G : Gx} {w : Wd} {H : Hp} (K : PySem.W.Frag) {a : Addr} {it : ItD} (h : ∀ w' H' M', Stp w H w' H' → Sim G w' H' M' → it.ok M' → ∃ vs, SqT K H' a vs ∧ Reps G w' vs it.items)
    : ItR G w H (Itt K a) it := fun w' H' M' l s ok => by
  obtain ⟨vs, f, g⟩ := h w' H' M' l s ok
  refine ⟨fun i d hd => ?_, ⟨vs, f, by rw [g.length]; exact Nat.le_refl _⟩⟩
  obtain ⟨v, hv, r⟩ := g.get hd
  refine ⟨⟨vs, v, f, hv⟩, fun x H'' y => ?_⟩
  obtain ⟨rfl, y⟩ := y
  have := y vs f
  rw [hv] at this
  cases this
  exact ⟨w', Stp.refl _ _, s, r⟩
def iDyn (K : PySem.W.Frag) (tl : TE) : TI := fun σ H R => tl σ H fun x H1 => (∃ a, x = .ref a ∧ (∃ xs, SqL K H1 a xs) ∧ R (Itl K a) H1) ∨ ∃ a, x = .ref a ∧ (∃ xs, SqT K H1 a xs) ∧ R (Itt K a) H1
theorem pi_dyn {X : Cx} {tg l : Expr} {tl : TE} (hl : PE X l tl) : PI X tg l (iDyn X.K tl) := by
  refine ⟨fun pins s σ H R I h => ?_⟩
  refine thn (hl.run pins s σ H _ I h) fun v s1 ⟨x, H1, I1, r1, q1⟩ => ?_
  rcases q1 with ⟨a, e, ⟨xs, hq⟩, q⟩ | ⟨a, e, ⟨xs, hq⟩, q⟩
  · subst e
    cases r1
    obtain ⟨its, rv, p, hz⟩ := I1.list hq
    refine wpAny_pyIter_list p.isList ?_
    refine ⟨s1.heap.objs.size, [s1.heap.objs.size], _, _, H1, rfl, I1.kept (t' := s1.toks) fun b o e => Heap.get?_push_of_some _ e, turn_list a _, ⟨_, Heap.get?_push_size _ rfl, rfl, rfl⟩, fun b hb => ?_, q⟩
    have e : b = s1.heap.objs.size := by simpa using hb
    subst e
    exact I1.fpOk (Nat.le_refl _) (I1.hok.fresh (Nat.le_refl _))
  · subst e
    cases r1
    obtain ⟨its, rv, p, hz⟩ := I1.tuple hq
    refine wpAny_pyIter_tuple (show s1.heap.IsTuple a its.toArray from p) ?_
    refine ⟨s1.heap.objs.size, [s1.heap.objs.size], _, _, H1, rfl, I1.kept (t' := s1.toks) fun b o e => Heap.get?_push_of_some _ e, turn_tuple a _, ⟨_, Heap.get?_push_size _ rfl, rfl, rfl⟩, fun b hb => ?_, q⟩
    have e : b = s1.heap.objs.size := by simpa using hb
    subst e
    exact I1.fpOk (Nat.le_refl _) (I1.hok.fresh (Nat.le_refl _))
section
variable {X : Cx} {tg e : Expr} {A : WE} {R : WA} {p pos : Pos}
theorem ci_seq (h : CE X e A) : CI X tg e (dItS A) := pi_weak (pi_dyn h) fun σ H Q ⟨w, δ, M, Qd, s, e, h, k⟩ => up1 s e h fun w1 v H1 d M1 l1 s1 r h1 => by
  rcases h1 with ⟨ds, rfl, q⟩ | ⟨ds, rfl, q⟩ | ⟨ds, rfl, q⟩ | ⟨n, ds, rfl, hm, q⟩
  · cases r with
    | @tup a vs _ f g =>
      exact .inr ⟨a, rfl, ⟨vs, .inl (.inl (s1.same _ _ f))⟩, k w1 _ H1 _ M1 l1 s1 (itR_tup X.K fun w' H' M' l s _ => ⟨vs, .inl (.inl (s.same _ _ (l.le.ex _ _ f))), g.mono l.le⟩) q⟩
  · cases r with
    | @lst a vs _ f g =>
      exact .inl ⟨a, rfl, ⟨vs, .inl (.inl (s1.same _ _ f))⟩, k w1 _ H1 _ M1 l1 s1 (itR_list X.K fun w' H' M' l s _ => ⟨vs, .inl (.inl (s.same _ _ (l.le.ex _ _ f))), g.mono l.le⟩) q⟩
  · cases r with
    | @frz a vs _ f g =>
      exact .inl ⟨a, rfl, ⟨vs, s1.same.seq f⟩, k w1 _ H1 _ M1 l1 s1 (itR_list X.K fun w' H' M' l s _ => ⟨vs, s.same.seq (l.le.ex.seq f), g.mono l.le⟩) q⟩
  · cases r with
    | @cell _ a f =>
      obtain ⟨_, vs, e1, g⟩ := s1.cell n a _ f hm
      exact .inl ⟨a, rfl, ⟨vs, .inl (.inl e1)⟩, k w1 _ H1 _ M1 l1 s1 (itR_list X.K fun w' H' M' l s ok => by
        obtain ⟨_, vs', e2, g'⟩ := s.cell n a _ (l.le.io f) ok
        exact ⟨vs', .inl (.inl e2), g'⟩) q⟩
def dRng (lo : Int) (n : Nat) : List D := (List.range n).map fun (i : Nat) => D.int (lo + (i : Int))
def dIt1 (R : WA) : WI := fun δ M Q => R δ M fun ds M1 => ∃ j : Int, ds = [.int j] ∧ j < 2 ^ 62 ∧ -(2 ^ 62) ≤ j ∧ Q ⟨dRng 0 j.toNat, fun _ => True⟩ M1
def dIt2 (R : WA) : WI := fun δ M Q => R δ M fun ds M1 => ∃ i j : Int, ds = [.int i, .int j] ∧ (-(2 ^ 62) ≤ i ∧ i < 2 ^ 62 ∧ -(2 ^ 62) ≤ j ∧ j < 2 ^ 62) ∧ Q ⟨dRng i (j - i).toNat, fun _ => True⟩ M1
theorem itR_rng {G : Gx} {w : Wd} {H : Hp} (lo : Int) (n : Nat) : ItR G w H (Itr lo n) ⟨dRng lo n, fun _ => True⟩ := fun w' H' M' l s _ => by
  refine ⟨fun i d hd => ?_, ?_⟩
  · unfold dRng at hd
    rw [List.getElem?_map] at hd
    have hl : i < n := by
      cases e : (List.range n)[i]? with
      | none =>
        rw [e] at hd
        cases hd
      | some j =>
        have := (List.getElem?_eq_some_iff.mp e).1
        simpa using this
    rw [List.getElem?_range hl] at hd
    cases hd
    refine ⟨hl, fun x H'' y => ?_⟩
    obtain ⟨rfl, rfl⟩ := y
    exact ⟨w', Stp.refl _ _, s, .int _⟩
  · show n ≤ (dRng lo n).length
    simp [dRng]
theorem ci_rng1 {a : Expr} (hm : X.mg "range" = none) (ha : CA X [a] R) (hg : Gl X "range" := by rfl) (hs : starEach [a] X.env = [(false, eval a X.env)] := by rfl) : CI X tg (.Call (.Name "range" p) [a] [] pos) (dIt1 R) :=
  pi_weak (pi_range1 hg hm ha hs) fun σ H Q ⟨w, δ, M, Qd, s, e, h, k⟩ => upA1 s e h fun w1 vs H1 ds M1 l1 s1 r ⟨j, ed, b1, b2, q⟩ => by
    subst ed
    cases r with
    | cons r t =>
      cases r
      cases t
      exact ⟨j, rfl, b2, b1, k w1 _ H1 _ M1 l1 s1 (itR_rng 0 _) q⟩
theorem ci_rng2 {a b : Expr} (hm : X.mg "range" = none) (ha : CA X [a, b] R) (hg : Gl X "range" := by rfl) (hs : starEach [a, b] X.env = [(false, eval a X.env), (false, eval b X.env)] := by rfl) (hs2 : starEach [b] X.env = [(false, eval b X.env)] := by rfl) :
    CI X tg (.Call (.Name "range" p) [a, b] [] pos) (dIt2 R) :=
  pi_weak (pi_range2 hg hm ha hs hs2) fun σ H Q ⟨w, δ, M, Qd, s, e, h, k⟩ => upA1 s e h fun w1 vs H1 ds M1 l1 s1 r ⟨i, j, ed, b, q⟩ => by
    subst ed
    cases r with
    | cons r t =>
      cases r
      cases t with
      | cons r t =>
        cases r
        cases t
        exact ⟨i, j, rfl, b, k w1 _ H1 _ M1 l1 s1 (itR_rng i _) q⟩
end

/-! ### for -/
def forD (it : ItD) (p : Pat) (S : WS) (E : DE) : List D → Dn → Sto → Prop
  | [], δ, M => it.ok M ∧ E.nx δ M
  | d :: ds, δ, M => it.ok M ∧ patD p d δ fun δ1 => S { E with nx := forD it p S E ds, ct := forD it p S E ds, bk := E.nx } δ1 M
@[simp] def dFor (B : WI) (p : Pat) (S : WS) : WS := fun E δ M => B δ M fun it M1 => forD it p S E it.items δ M1
section
variable {X : Cx} {tg iter : Expr} {body : List Stmt} {pos : Pos} {B : WI} {p : Pat} {S : WS}
theorem cs_for (hp : PassesOwn (model X.prog X.w) X.A X.env X.xe) (hi : CI X tg iter B) (hg : CP X tg p) (hb : CSs X body S) (hc : X.calm = true := by rfl) (hs : ∀ x, foldedSetIterable iter X.env x = pure x := by intro _; rfl) :
    CS X (.For tg iter body [] pos) (dFor B p S) := ps_weak (ps_for hp hc hi hg hb hs) fun D σ H ⟨w, δ, M, E, s, e, h, k⟩ => ⟨w, δ, M, _, s, e, h, fun w1 J H1 it M1 l1 s1 hit q => by
  refine ⟨fun i m σ' H' => i + m = it.items.length ∧ ∃ w' δ' M', Stp w1 H1 w' H' ∧ Sim (gx X) w' H' M' ∧ EnvR (gx X) w' σ' δ' ∧ forD it p S E (it.items.drop i) δ' M',
    ⟨it.items.length, by omega, w1, δ, M1, Stp.refl _ _, s1, e.mono l1.le, by rw [List.drop_zero]; exact q⟩, fun i m σ' H' ⟨em, w', δ', M', l', s', e', q'⟩ => ?_⟩
  by_cases hi : i < it.items.length
  · rw [List.drop_eq_getElem_cons hi] at q'
    obtain ⟨ok, q'⟩ := q'
    obtain ⟨go, yl⟩ := (hit w' H' M' l' s' ok).1 i _ (List.getElem?_eq_getElem hi)
    refine .inr ⟨go, fun σ'' H'' => ∃ w'' δ'' M'', Stp w1 H1 w'' H'' ∧ Sim (gx X) w'' H'' M'' ∧ EnvR (gx X) w'' σ'' δ'' ∧ forD it p S E (it.items.drop (i + 1)) δ'' M'',
      fun σ'' H'' hN => ⟨m - 1, by omega, by omega, hN⟩, fun x H'' y => ?_⟩
    obtain ⟨w2, l2, s2, r2⟩ := yl x H'' y
    refine pat_ok X.K s2 (e'.mono l2.le) r2 q' fun vs δ2 e2 q2 => ?_
    have kk := k.mono (l1.trans (l'.trans l2))
    exact upS1 s2 e2 q2 ⟨fun w3 σ3 H3 δ3 M3 l3 s3 e3 q3 => ⟨w3, δ3, M3, (l'.trans l2).trans l3, s3, e3, q3⟩, kk.rt, kk.nx, fun w3 σ3 H3 δ3 M3 l3 s3 e3 q3 => ⟨w3, δ3, M3, (l'.trans l2).trans l3, s3, e3, q3⟩⟩
  · have hi' : i = it.items.length := by omega
    subst hi'
    rw [List.drop_length] at q'
    obtain ⟨ok, q'⟩ := q'
    exact .inl ⟨(hit w' H' M' l' s' ok).2, (k.mono (l1.trans l')).next s' e' q'⟩⟩
end

/-! ### while -/
def dWhile (T : WT) (S : WS) : WS := fun E δ M => ∃ W : Nat → Dn → Sto → Prop, (∃ m, W m δ M) ∧ ∀ m δ M, W m δ M →
  T δ M fun b M1 => if b = true then S { E with nx := fun δ' M' => ∃ m', m' < m ∧ W m' δ' M', ct := fun δ' M' => ∃ m', m' < m ∧ W m' δ' M', bk := E.nx } δ M1 else E.nx δ M1
theorem cs_while {X : Cx} {pos : Pos} {c : Expr} {body : List Stmt} {T : WT} {S : WS} (hp : PassesOwn (model X.prog X.w) X.A X.env X.xe) (hc : CT X c T) (hb : CSs X body S) : CS X (.While c body [] pos) (dWhile T S) :=
  ps_weak (ps_while hp hc hb) fun D σ H ⟨w, δ, M, E, s, e, ⟨W, ⟨m, hW⟩, h⟩, k⟩ => by
    refine ⟨fun m σ' H' => ∃ w' δ' M', Stp w H w' H' ∧ Sim (gx X) w' H' M' ∧ EnvR (gx X) w' σ' δ' ∧ W m δ' M', ⟨m, w, δ, M, Stp.refl _ _, s, e, hW⟩, fun m σ' H' ⟨w', δ', M', l', s', e', hw⟩ => ?_⟩
    refine upT1 s' e' (h m δ' M' hw) fun w2 b H2 M2 l2 s2 q => ?_
    have kk := k.mono (l'.trans l2)
    cases b with
    | true =>
      rw [if_pos rfl] at q ⊢
      have nn : KN (gx X) w2 H2 (fun δ' M' => ∃ m', m' < m ∧ W m' δ' M') (fun σ'' H'' => ∃ m', m' < m ∧ ∃ w' δ' M', Stp w H w' H'' ∧ Sim (gx X) w' H'' M' ∧ EnvR (gx X) w' σ'' δ' ∧ W m' δ' M') :=
        fun w3 σ3 H3 δ3 M3 l3 s3 e3 ⟨m', hm, hw'⟩ => ⟨m', hm, w3, δ3, M3, (l'.trans l2).trans l3, s3, e3, hw'⟩
      exact ⟨_, fun σ'' H'' hN => hN, upS1 s2 (e'.mono l2.le) q ⟨nn, kk.rt, kk.nx, nn⟩⟩
    | false =>
      rw [if_neg Bool.false_ne_true] at q ⊢
      exact kk.next s2 (e'.mono l2.le) q

/-! ### comprehensions -/
def compD (it : ItD) (p : Pat) (T : WT) (A : WE) (δ0 : Dn) : List D → List D → Sto → (List D → Sto → Prop) → Prop
  | [], acc, M, Q => it.ok M ∧ Q acc M
  | d :: ds, acc, M, Q => it.ok M ∧ patD p d δ0 fun δ1 => T δ1 M fun b M1 => if b = true then A δ1 M1 fun e M2 => acc.length < sizeLine ∧ compD it p T A δ0 ds (acc ++ [e]) M2 Q else compD it p T A δ0 ds acc M1 Q
@[simp] def dComp (own : List Nat) (B : WI) (p : Pat) (T : WT) (A : WE) : WE := fun δ M Q => B δ M fun it M1 => compD it p T A (wipeD δ own) it.items [] M1 fun es M2 => Q (.lst es) M2
@[simp] def dCompM (own : List Nat) (B : WI) (p : Pat) (T : WT) (A : WE) : WE := fun δ M Q => B δ M fun it M1 => compD it p T A (wipeD δ own) it.items [] M1 fun es M2 => Q (.cell M2.length) (M2 ++ [.lst es])
abbrev CTs (X : Cx) (ifs : List Expr) (T : WT) : Prop := PTs X ifs (upT (gx X) T)
theorem cts_nil {X : Cx} : CTs X [] dYes := ⟨fun pins s σ H Q I ⟨w, δ, M, Qd, sm, e, h, k⟩ => pts_nil.run pins s σ H Q I (k.here sm h)⟩
theorem cts_one {X : Cx} {c : Expr} {T : WT} (h : CT X c T) : CTs X [c] T := pts_one h
/-- an object of nobody's is written -/
theorem Sim.other {G : Gx} {w : Wd} {H : Hp} {M : Sto} {p : Addr} {o : HO} (s : Sim G w H M) (h1 : p ∉ w.io) (h2 : w.F p = none) : Sim G w (upd H p o) M where
  same := fun b u e => by
    have hb : b ≠ p := ne_of_none e h2
    rw [upd_ne hb]
    exact s.same b u e
  len := s.len
  cell := fun n a mo e1 e2 => by
    have ha : a ≠ p := fun z => h1 (z ▸ List.mem_of_getElem? e1)
    exact (s.cell n a mo e1 e2).keep (Wd.Le.refl _) (fun u hu => by rw [upd_ne ha]; exact hu) id
  nd := s.nd
  tr := fun a ha => by
    have hn : a ≠ p := fun z => h1 (z ▸ ha)
    obtain ⟨u, e⟩ := s.tr a ha
    exact ⟨u, by rw [upd_ne hn]; exact e⟩
theorem Stp.other {w0 w : Wd} {H0 H : Hp} {p : Addr} {o : HO} (l : Stp w0 H0 w H) (h0 : H0 p = none) : Stp w0 H0 w (upd H p o) := ⟨l.le, fun a u h1 h2 h3 => by
  have ha : a ≠ p := ne_of_none h1 h0
  rw [upd_ne ha]
  exact l.un a u h1 h2 h3⟩
section
variable {X : Cx} {elt tg iter : Expr} {ifs : List Expr} {scope : Scope} {own : List (Str × Nat)} {pos : Pos} {B : WI} {p : Pat} {T : WT} {A : WE}
theorem lc_read {w : Wd} {H : Hp} {σ : L2.St} {δ : Dn} {M : Sto} {Qd : List D → Sto → Prop} {Q : VK} (s : Sim (gx X) w H M) (e : EnvR (gx X) w σ δ) (hsl : ∀ i ∈ p.slots, i ∈ own.map (·.2))
    (h : B δ M fun it M1 => compD it p T A (wipeD δ (own.map (·.2))) it.items [] M1 Qd)
    (k : ∀ w' H' D vs es M', Stp w H w' H' → Sim (gx X) w' H' M' → H D = none → H' D = some (.lst vs) → D ∉ w'.io → w'.F D = none → Reps (gx X) w' vs es → Qd es M' → Q (.ref D) H') :
    tLc (upI (gx X) B) (tgP X.K p) (upT (gx X) T) (up (gx X) A) (own.map (·.2)) σ H Q := by
  refine ⟨w, δ, M, _, s, e, h, fun w1 J H1 it M1 l1 s1 hit q D hD => ?_⟩
  have hD0 : H D = none := by
    cases e0 : H D with
    | none => rfl
    | some o =>
      by_cases hio : D ∈ w.io
      · obtain ⟨r, er⟩ := l1.le.pre
        have : D ∈ w1.io := by rw [er]; exact List.mem_append_left _ hio
        exact absurd this (s1.notin hD)
      · cases e1 : w.F D with
        | none =>
          have := (l1.un D o e0 hio e1).1
          rw [hD] at this
          cases this
        | some u =>
          have := s1.same D u (l1.le.ex D u e1)
          rw [hD] at this
          cases this
  refine ⟨fun i m H' => i + m = it.items.length ∧ ∃ w' M' vs acc, Stp w1 H1 w' H' ∧ Sim (gx X) w' H' M' ∧ H' D = some (.lst vs) ∧ D ∉ w'.io ∧ w'.F D = none ∧ Reps (gx X) w' vs acc ∧ compD it p T A (wipeD δ (own.map (·.2))) (it.items.drop i) acc M' Qd,
    ⟨it.items.length, by omega, w1, M1, [], [], (Stp.refl _ _).other hD, s1.other (s1.notin hD) (s1.free hD), upd_same, s1.notin hD, s1.free hD, .nil, by rw [List.drop_zero]; exact q⟩, fun i m H' ⟨em, w', M', vs, acc, l', s', hL, hio, hF, hr, q'⟩ => ?_⟩
  by_cases hi : i < it.items.length
  · rw [List.drop_eq_getElem_cons hi] at q'
    obtain ⟨ok, q'⟩ := q'
    obtain ⟨go, yl⟩ := (hit w' H' M' l' s' ok).1 i _ (List.getElem?_eq_getElem hi)
    refine .inr ⟨go, fun H'' => ∃ w'' M'' vs acc, Stp w1 H1 w'' H'' ∧ Sim (gx X) w'' H'' M'' ∧ H'' D = some (.lst vs) ∧ D ∉ w''.io ∧ w''.F D = none ∧ Reps (gx X) w'' vs acc ∧ compD it p T A (wipeD δ (own.map (·.2))) (it.items.drop (i + 1)) acc M'' Qd,
      fun H'' hN => ⟨m - 1, by omega, by omega, hN⟩, fun x H'' y => ?_⟩
    obtain ⟨w2, l2, s2, r2⟩ := yl x H'' y
    refine pat_ok X.K s2 ((e.mono (l1.trans (l'.trans l2)).le).wipe _) r2 q' fun xs δ2 e2 q2 => ?_
    refine ⟨wipe_setV hsl, upT1 s2 e2 q2 fun w3 b H3 M3 l3 s3 q3 => ?_⟩
    have u3 := (l2.trans l3).un D _ hL hio hF
    cases b with
    | true =>
      rw [if_pos rfl] at q3 ⊢
      refine up1 s3 (e2.mono l3.le) q3 fun w4 v H4 d M4 l4 s4 r4 q4 => ?_
      obtain ⟨hlen, q4⟩ := q4
      obtain ⟨f1, f2, f3⟩ := l4.un D _ u3.1 u3.2.1 u3.2.2
      refine ⟨vs, f1, by rw [hr.length]; exact hlen, w4, M4, vs ++ [v], acc ++ [d], (((l'.trans l2).trans l3).trans l4).other hD, s4.other f2 f3, upd_same, f2, f3, ((hr.mono ((l2.trans l3).trans l4).le).append (Reps.one r4)), q4⟩
    | false =>
      rw [if_neg Bool.false_ne_true] at q3 ⊢
      exact ⟨w3, M3, vs, acc, (l'.trans l2).trans l3, s3, u3.1, u3.2.1, u3.2.2, hr.mono (l2.trans l3).le, q3⟩
  · have hi' : i = it.items.length := by omega
    subst hi'
    rw [List.drop_length] at q'
    obtain ⟨ok, q'⟩ := q'
    exact .inl ⟨(hit w' H' M' l' s' ok).2, k w' H' D vs acc M' (l1.trans l') s' hD0 hL hio hF hr q'⟩
theorem Sim.adopt {G : Gx} {w : Wd} {H : Hp} {M : Sto} {p : Addr} {o : HO} (s : Sim G w H M) (h : H p = some o) (hio : p ∉ w.io) (hF : w.F p = none) : Sim G ⟨upd w.F p o, w.io⟩ H M where
  same := fun b u e => by
    by_cases hb : b = p
    · subst hb
      rw [show (Wd.mk (upd w.F b o) w.io).F = upd w.F b o from rfl, upd_same] at e
      cases e
      exact h
    · rw [show (Wd.mk (upd w.F p o) w.io).F = upd w.F p o from rfl, upd_ne hb] at e
      exact s.same b u e
  len := s.len
  cell := fun n a mo e1 e2 => by
    have ha : a ≠ p := fun z => hio (z ▸ List.mem_of_getElem? e1)
    exact (s.cell n a mo e1 e2).keep (Le.new hF) (fun u hu => hu) (fun hf => by
      show upd w.F p o a = none
      rw [upd_ne ha]
      exact hf)
  nd := s.nd
  tr := s.tr
theorem Sim.adoptC {G : Gx} {w : Wd} {H : Hp} {M : Sto} {p : Addr} {o : HO} {mo : MO} (s : Sim G w H M) (h : H p = some o) (hio : p ∉ w.io) (c : CellR G ⟨w.F, w.io ++ [p]⟩ H p mo) : Sim G ⟨w.F, w.io ++ [p]⟩ H (M ++ [mo]) where
  same := s.same
  len := by simp [s.len]
  cell := fun n a mo' e1 e2 => by
    by_cases hn : n < w.io.length
    · have e1' : w.io[n]? = some a := by
        rw [show (Wd.mk w.F (w.io ++ [p])).io = w.io ++ [p] from rfl, List.getElem?_append_left hn] at e1
        exact e1
      have e2' : M[n]? = some mo' := by
        rw [List.getElem?_append_left (by rw [← s.len]; exact hn)] at e2
        exact e2
      exact (s.cell n a mo' e1' e2').keep Le.cell (fun u hu => hu) id
    · have hl : n = w.io.length := by
        have := (List.getElem?_eq_some_iff.mp e1).1
        simp at this
        omega
      subst hl
      simp only [List.getElem?_concat_length, Option.some.injEq] at e1
      rw [s.len, List.getElem?_concat_length] at e2
      cases e2
      subst e1
      exact c
  nd := by
    show (w.io ++ [p]).Nodup
    rw [List.nodup_append]
    refine ⟨s.nd, by simp, fun a ha b hb => ?_⟩
    simp at hb
    subst hb
    exact fun z => hio (z ▸ ha)
  tr := fun a ha => by
    rcases List.mem_append.mp ha with ha | ha
    · exact s.tr a ha
    · simp at ha
      subst ha
      exact ⟨o, h⟩
theorem lc_lst {w : Wd} {H : Hp} {Qd : D → Sto → Prop} {Q : VK} (k : KQ (gx X) w H Qd Q) : ∀ w' H' D vs es M', Stp w H w' H' → Sim (gx X) w' H' M' → H D = none → H' D = some (.lst vs) → D ∉ w'.io → w'.F D = none → Reps (gx X) w' vs es → Qd (.lst es) M' → Q (.ref D) H' :=
  fun w' H' D vs es M' l s h0 hL hio hF r q => k _ _ H' _ M' (Stp.own w H h0 l hF hio) (s.adopt hL hio hF) (.lst (by show upd w'.F D _ D = _; rw [upd_same]) (r.mono (Le.new hF))) q
theorem lc_cell {w : Wd} {H : Hp} {Qd : D → Sto → Prop} {Q : VK} (k : KQ (gx X) w H Qd Q) : ∀ w' H' D vs es M', Stp w H w' H' → Sim (gx X) w' H' M' → H D = none → H' D = some (.lst vs) → D ∉ w'.io → w'.F D = none → Reps (gx X) w' vs es → Qd (.cell M'.length) (M' ++ [.lst es]) → Q (.ref D) H' :=
  fun w' H' D vs es M' l s h0 hL hio hF r q => k _ _ H' _ _ (Stp.ownC w H h0 l) (s.adoptC (mo := .lst es) hL hio ⟨hF, vs, hL, r.mono Le.cell⟩) (.cell (by
    show (w'.io ++ [D])[M'.length]? = some D
    rw [← s.len]
    simp)) q
theorem ce_comp (hN : X.N.Nodup) (hi : CI X tg iter B) (ok : BlkOk X.N X.env.scope scope own)
    (hg : ∀ (s : Shared) (H : Hp) (C : Addr) (cl : List (Str × Addr)) (fp : List Addr), CP (X.blk s H scope (compEnvC scope cl C X.env) fp) tg p) (ht : ∀ (s : Shared) (H : Hp) (C : Addr) (cl : List (Str × Addr)) (fp : List Addr), CTs (X.blk s H scope (compEnvC scope cl C X.env) fp) ifs T)
    (he : ∀ (s : Shared) (H : Hp) (C : Addr) (cl : List (Str × Addr)) (fp : List Addr), CE (X.blk s H scope (compEnvC scope cl C X.env) fp) elt A) (hsl : ∀ i ∈ p.slots, i ∈ own.map (·.2) := by decide) (hc : X.calm = true := by rfl) (hs : ∀ x, foldedSetIterable iter X.env x = pure x := by intro _; rfl) :
    CE X (.ListComp elt [⟨tg, iter, ifs, 0⟩] scope pos) (dComp (own.map (·.2)) B p T A) :=
  pe_weak (pe_lc hc hN hi ok hg ht he hs) fun σ H Q ⟨w, δ, M, Qd, s, e, h, k⟩ => lc_read s e hsl h (lc_lst k)
theorem ce_compM (hN : X.N.Nodup) (hi : CI X tg iter B) (ok : BlkOk X.N X.env.scope scope own)
    (hg : ∀ (s : Shared) (H : Hp) (C : Addr) (cl : List (Str × Addr)) (fp : List Addr), CP (X.blk s H scope (compEnvC scope cl C X.env) fp) tg p) (ht : ∀ (s : Shared) (H : Hp) (C : Addr) (cl : List (Str × Addr)) (fp : List Addr), CTs (X.blk s H scope (compEnvC scope cl C X.env) fp) ifs T)
    (he : ∀ (s : Shared) (H : Hp) (C : Addr) (cl : List (Str × Addr)) (fp : List Addr), CE (X.blk s H scope (compEnvC scope cl C X.env) fp) elt A) (hsl : ∀ i ∈ p.slots, i ∈ own.map (·.2) := by decide) (hc : X.calm = true := by rfl) (hs : ∀ x, foldedSetIterable iter X.env x = pure x := by intro _; rfl) :
    CE X (.ListComp elt [⟨tg, iter, ifs, 0⟩] scope pos) (dCompM (own.map (·.2)) B p T A) :=
  pe_weak (pe_lc hc hN hi ok hg ht he hs) fun σ H Q ⟨w, δ, M, Qd, s, e, h, k⟩ => lc_read s e hsl h (lc_cell k)
/-- name = [..] -/
theorem cs_setC (i : Nat) {y : Str} {py spos : Pos} (hN : X.N.Nodup) (hi : CI X tg iter B) (ok : BlkOk X.N X.env.scope scope own)
    (hg : ∀ (s : Shared) (H : Hp) (C : Addr) (cl : List (Str × Addr)) (fp : List Addr), CP (X.blk s H scope (compEnvC scope cl C X.env) fp) tg p) (ht : ∀ (s : Shared) (H : Hp) (C : Addr) (cl : List (Str × Addr)) (fp : List Addr), CTs (X.blk s H scope (compEnvC scope cl C X.env) fp) ifs T)
    (he : ∀ (s : Shared) (H : Hp) (C : Addr) (cl : List (Str × Addr)) (fp : List Addr), CE (X.blk s H scope (compEnvC scope cl C X.env) fp) elt A)
    (hsw : swapsWith (.ListComp elt [⟨tg, iter, ifs, 0⟩] scope pos) (some (.Name y py)) spos.line X.env = pure true) (hy : X.N[i]? = some y := by rfl) (hyl : X.env.scope.names.lookup y = some .local := by rfl)
    (hsl : ∀ i ∈ p.slots, i ∈ own.map (·.2) := by decide) (hc : X.calm = true := by rfl) (hs : ∀ x, foldedSetIterable iter X.env x = pure x := by intro _; rfl) :
    CS X (.Assign [.Name y py] (.ListComp elt [⟨tg, iter, ifs, 0⟩] scope pos) spos) (dSet i (dComp (own.map (·.2)) B p T A)) :=
  ps_weak (ps_setLc hc hN hy hyl hsw hi ok hg ht he hs) fun D σ H ⟨w, δ, M, E, s, e, h, k⟩ =>
    lc_read s e hsl h (lc_lst fun w' v H' d M' l s' r q => k.nx w' _ H' _ M' l s' ((e.mono l.le).set r i) q)
theorem cs_setCM (i : Nat) {y : Str} {py spos : Pos} (hN : X.N.Nodup) (hi : CI X tg iter B) (ok : BlkOk X.N X.env.scope scope own)
    (hg : ∀ (s : Shared) (H : Hp) (C : Addr) (cl : List (Str × Addr)) (fp : List Addr), CP (X.blk s H scope (compEnvC scope cl C X.env) fp) tg p) (ht : ∀ (s : Shared) (H : Hp) (C : Addr) (cl : List (Str × Addr)) (fp : List Addr), CTs (X.blk s H scope (compEnvC scope cl C X.env) fp) ifs T)
    (he : ∀ (s : Shared) (H : Hp) (C : Addr) (cl : List (Str × Addr)) (fp : List Addr), CE (X.blk s H scope (compEnvC scope cl C X.env) fp) elt A)
    (hsw : swapsWith (.ListComp elt [⟨tg, iter, ifs, 0⟩] scope pos) (some (.Name y py)) spos.line X.env = pure true) (hy : X.N[i]? = some y := by rfl) (hyl : X.env.scope.names.lookup y = some .local := by rfl)
    (hsl : ∀ i ∈ p.slots, i ∈ own.map (·.2) := by decide) (hc : X.calm = true := by rfl) (hs : ∀ x, foldedSetIterable iter X.env x = pure x := by intro _; rfl) :
    CS X (.Assign [.Name y py] (.ListComp elt [⟨tg, iter, ifs, 0⟩] scope pos) spos) (dSet i (dCompM (own.map (·.2)) B p T A)) :=
  ps_weak (ps_setLc hc hN hy hyl hsw hi ok hg ht he hs) fun D σ H ⟨w, δ, M, E, s, e, h, k⟩ =>
    lc_read s e hsl h (lc_cell fun w' v H' d M' l s' r q => k.nx w' _ H' _ M' l s' ((e.mono l.le).set r i) q)
end
end DL


set_option Elab.async false
set_option linter.all false
set_option autoImplicit false
set_option maxRecDepth 100000
set_option maxHeartbeats 4000000
namespace DL
open PySem PySem.Spec PyProof.Rows L2

/-! ### cells below a bound; the store is cut back -/
mutual
def clD (n : Nat) : D → Bool
  | .tup ds => clL n ds | .lst ds => clL n ds | .frz ds => clL n ds | .ob _ fs => clF n fs
  | .cell m => decide (m < n)
  | .non => true | .bl _ => true | .int _ => true | .str _ => true | .ty _ => true | .cls _ => true
def clL (n : Nat) : List D → Bool
  | [] => true
  | d :: ds => clD n d && clL n ds
def clF (n : Nat) : List (Str × D) → Bool
  | [] => true
  | (_, d) :: ds => clD n d && clF n ds
end
def clK (n : Nat) {κ : Type} : List (κ × D) → Bool
  | [] => true
  | (_, d) :: ds => clD n d && clK n ds
def clM (n : Nat) : MO → Bool
  | .dead => true | .lst ds => clL n ds | .dK ks => clK n ks | .dT ks => clK n ks | .ob _ fs => clF n fs
theorem clL_all (n : Nat) : ∀ ds : List D, clL n ds = ds.all (clD n)
  | [] => rfl
  | d :: ds => by simp [clL, clL_all n ds]
theorem clF_all (n : Nat) : ∀ ds : List (Str × D), clF n ds = ds.all fun p => clD n p.2
  | [] => rfl
  | (f, d) :: ds => by simp [clF, clF_all n ds]
section
variable {G : Gx} {w : Wd}
mutual
theorem Rep.cl : ∀ {v : V} {d : D}, Rep G w v d → clD w.io.length d = true
  | _, _, .non => rfl
  | _, _, .bl x => rfl
  | _, _, .int x => rfl
  | _, _, .str x => rfl
  | _, _, .tup h r => by simpa [clD] using Reps.cl r
  | _, _, .lst h r => by simpa [clD] using Reps.cl r
  | _, _, .frz h r => by simpa [clD] using Reps.cl r
  | _, _, .ob h m r => by simpa [clD] using RepF.cl r
  | _, _, .cell h => by simpa [clD] using (List.getElem?_eq_some_iff.mp h).1
  | _, _, .ty n => rfl
  | _, _, .cls h => rfl
theorem Reps.cl : ∀ {v : List V} {d : List D}, Reps G w v d → clL w.io.length d = true
  | _, _, .nil => rfl
  | _, _, .cons r t => by simp [clL, Rep.cl r, Reps.cl t]
theorem RepF.cl : ∀ {v : List (Str × V)} {d : List (Str × D)}, RepF G w v d → clF w.io.length d = true
  | _, _, .nil => rfl
  | _, _, .cons r t => by simp [clF, Rep.cl r, RepF.cl t]
end
mutual
theorem Rep.cut (n : Nat) : ∀ {v : V} {d : D}, Rep G w v d → clD n d = true → Rep G ⟨w.F, w.io.take n⟩ v d
  | _, _, .non, _ => .non
  | _, _, .bl x, _ => .bl x
  | _, _, .int x, _ => .int x
  | _, _, .str x, _ => .str x
  | _, _, .tup h r, c => .tup h (Reps.cut n r (by simpa [clD] using c))
  | _, _, .lst h r, c => .lst h (Reps.cut n r (by simpa [clD] using c))
  | _, _, .frz h r, c => .frz h (Reps.cut n r (by simpa [clD] using c))
  | _, _, .ob h m r, c => .ob h m (RepF.cut n r (by simpa [clD] using c))
  | _, _, .cell (n := m) h, c => .cell (by
      have hm : m < n := by simpa [clD] using c
      show (w.io.take n)[m]? = _
      rw [List.getElem?_take_of_lt hm]
      exact h)
  | _, _, .ty s, _ => .ty s
  | _, _, .cls h, _ => .cls h
theorem Reps.cut (n : Nat) : ∀ {v : List V} {d : List D}, Reps G w v d → clL n d = true → Reps G ⟨w.F, w.io.take n⟩ v d
  | _, _, .nil, _ => .nil
  | _, _, .cons r t, c => by
    simp only [clL, Bool.and_eq_true] at c
    exact .cons (Rep.cut n r c.1) (Reps.cut n t c.2)
theorem RepF.cut (n : Nat) : ∀ {v : List (Str × V)} {d : List (Str × D)}, RepF G w v d → clF n d = true → RepF G ⟨w.F, w.io.take n⟩ v d
  | _, _, .nil, _ => .nil
  | _, _, .cons r t, c => by
    simp only [clF, Bool.and_eq_true] at c
    exact .cons (Rep.cut n r c.1) (RepF.cut n t c.2)
end
theorem RepK.cl {κ : Type} : ∀ {v : List (κ × V)} {d : List (κ × D)}, RepK G w v d → clK w.io.length d = true
  | _, _, .nil => rfl
  | _, _, .cons r t => by simp [clK, Rep.cl r.2, RepK.cl t]
theorem RepK.cut {κ : Type} (n : Nat) : ∀ {v : List (κ × V)} {d : List (κ × D)}, RepK G w v d → clK n d = true → RepK G ⟨w.F, w.io.take n⟩ v d
  | _, _, .nil, _ => .nil
  | _, _, .cons r t, c => by
    simp only [clK, Bool.and_eq_true] at c
    exact .cons ⟨r.1, Rep.cut n r.2 c.1⟩ (RepK.cut n t c.2)
theorem CellR.cl {H : Hp} {a : Addr} {mo : MO} (c : CellR G w H a mo) : clM w.io.length mo = true := by
  cases mo with
  | dead => rfl
  | lst ds =>
    obtain ⟨_, vs, _, r⟩ := c
    exact r.cl
  | dK ds =>
    obtain ⟨_, vs, _, r⟩ := c
    exact RepK.cl r
  | dT ds =>
    obtain ⟨_, vs, _, r⟩ := c
    exact RepK.cl r
  | ob cc fs =>
    obtain ⟨_, C, dx, vs, _, m, r⟩ := c
    exact r.cl
theorem CellR.cut {H : Hp} {a : Addr} {mo : MO} (n : Nat) (c : CellR G w H a mo) (h : clM n mo = true) : CellR G ⟨w.F, w.io.take n⟩ H a mo := by
  cases mo with
  | dead => trivial
  | lst ds =>
    obtain ⟨f, vs, e, r⟩ := c
    exact ⟨f, vs, e, r.cut n h⟩
  | dK ds =>
    obtain ⟨f, vs, e, r⟩ := c
    exact ⟨f, vs, e, RepK.cut n r h⟩
  | dT ds =>
    obtain ⟨f, vs, e, r⟩ := c
    exact ⟨f, vs, e, RepK.cut n r h⟩
  | ob cc fs =>
    obtain ⟨f, C, dx, vs, e, m, r⟩ := c
    exact ⟨f, C, dx, vs, e, m, r.cut n h⟩
end
/-- the store M' is M1 behind which something stands that is no more needed; M0: the store at the entry -/
def Cut (M0 M' M1 : Sto) : Prop := ∃ R, M' = M1 ++ R ∧ M1.length = M0.length ∧ ∀ (n : Nat) mo, M1[n]? = some mo → M0[n]? = some mo ∨ clM M0.length mo = true
theorem cut_ok {G : Gx} {w0 w : Wd} {H0 H : Hp} {M0 M' M1 : Sto} (s0 : Sim G w0 H0 M0) (l : Stp w0 H0 w H) (s : Sim G w H M') (c : Cut M0 M' M1) :
    w.io.take M0.length = w0.io ∧ Stp w0 H0 ⟨w.F, w.io.take M0.length⟩ H ∧ Sim G ⟨w.F, w.io.take M0.length⟩ H M1 := by
  obtain ⟨R, rfl, hl, hc⟩ := c
  obtain ⟨r, er⟩ := l.le.pre
  have e0 : w.io.take M0.length = w0.io := by
    rw [er, ← s0.len]
    exact List.take_left' rfl
  refine ⟨e0, ⟨⟨l.le.ex, [], by rw [e0]; simp⟩, fun a o h1 h2 h3 => ?_⟩, ?_⟩
  · obtain ⟨q1, q2, q3⟩ := l.un a o h1 h2 h3
    exact ⟨q1, by rw [e0]; exact h2, q3⟩
  · refine ⟨s.same, ?_, fun n a mo e1 e2 => ?_, ?_, fun a ha => s.tr a (List.mem_of_mem_take ha)⟩
    · show (w.io.take M0.length).length = M1.length
      rw [e0, hl, s0.len]
    · have hn : n < M0.length := by
        have := (List.getElem?_eq_some_iff.mp e2).1
        omega
      have e1' : w.io[n]? = some a := by
        rw [show (Wd.mk w.F (w.io.take M0.length)).io = w.io.take M0.length from rfl, List.getElem?_take_of_lt hn] at e1
        exact e1
      have e2' : (M1 ++ R)[n]? = some mo := by
        rw [List.getElem?_append_left (by omega)]
        exact e2
      have c := s.cell n a mo e1' e2'
      refine c.cut _ ?_
      rcases hc n mo e2 with q | q
      · obtain ⟨a0, _, c0⟩ := s0.at q
        have := c0.cl
        rw [s0.len] at this
        exact this
      · exact q
    · show (w.io.take M0.length).Nodup
      rw [e0]
      exact s0.nd

/-! ### functions -/
abbrev Fn := List D → Sto → (D → Sto → Prop) → Prop
def spD (G : Gx) (n : Nat) (φ : Fn) : Sp := fun vs H Q _ => vs.length = n ∧ ∃ w ds M Qd, Sim G w H M ∧ Reps G w vs ds ∧ φ ds M Qd ∧ KQ G w H Qd Q
@[simp] def startD (N : Nat) (ds : List D) : Dn := ds.map some ++ List.replicate (N - ds.length) none
def retD (M0 : Sto) (Q : D → Sto → Prop) : D → Sto → Prop := fun d M' => Q d M' ∨ ∃ M1, Cut M0 M' M1 ∧ clD M0.length d = true ∧ Q d M1
@[simp] def fnD (N : Nat) (S : WS) : Fn := fun ds M Q => S { nx := fun _ M' => retD M Q .non M', rt := retD M Q } (startD N ds) M
theorem envR_start {G : Gx} {w : Wd} {vs : List V} {ds : List D} (r : Reps G w vs ds) (N : List Str) : EnvR G w (L2.start N vs) (startD N.length ds) := by
  refine ⟨by simp [L2.start, startD, r.length], fun i d h => ?_⟩
  unfold startD at h
  unfold L2.start
  by_cases hi : i < ds.length
  · rw [List.getElem?_append_left (by simpa using hi), List.getElem?_map] at h
    have hd : ds[i]? = some d := by
      cases e : ds[i]? with
      | none =>
        rw [e] at h
        cases h
      | some x =>
        rw [e] at h
        cases h
        rfl
    obtain ⟨v, hv, q⟩ := r.get hd
    refine ⟨v, ?_, q⟩
    rw [List.getElem?_append_left (by rw [List.length_map, r.length]; exact hi), List.getElem?_map, hv]
    rfl
  · rw [List.getElem?_append_right (by simpa using hi)] at h
    rw [List.getElem?_replicate] at h
    split at h <;> cases h
theorem ret_ok {G : Gx} {w0 : Wd} {H0 : Hp} {M0 : Sto} {Qd : D → Sto → Prop} {Q : VK} (s0 : Sim G w0 H0 M0) (k : KQ G w0 H0 Qd Q) : KQ G w0 H0 (retD M0 Qd) Q := fun w v H d M' l s r q => by
  rcases q with q | ⟨M1, c, hd, q⟩
  · exact k w v H d M' l s r q
  · obtain ⟨_, l1, s1⟩ := cut_ok s0 l s c
    exact k _ v H d M1 l1 s1 (r.cut _ hd) q
section
variable {P : Program} {w : World} {K : PySem.W.Frag} {mg : Str → Option Value} {base : Heap}
theorem fn_ok {x qual : Str} {st : Stmt} {f : Addr} {fd : FuncData} {N ps : List Str} {k : Nat} {S : WS} (F : Fun K x qual st f fd) (sc : FnScope N ps (defScope st))
    (h : ∀ (cdv : Value) (A : Around) (outer : List Env) (s : Shared) (H : Hp) (E : XK), Room k (A.deeper (envOfC qual (defScope st) s.heap.objs.size f cdv)) → CSs (cxOf CX0 P w K mg base N qual (defScope st) f cdv A outer s H E).nox (defBody st) S) :
    FnOk P w K mg base CX0 (k + 1) f fd ps (spD ⟨K, mg⟩ ps.length (fnD N.length S)) := by
  refine F.ok sc (fun vs H Q E q => q.1) (fun cdv A outer s H vs Q E hr q => ?_)
  obtain ⟨hl, w0, ds, M, Qd, sm, r, q, kq⟩ := q
  refine ⟨_, h cdv A outer s H E hr, upS1 sm (envR_start r N) q ⟨fun w' σ' H' δ' M' l s' e' q' => ?_, ret_ok sm kq, fun _ _ _ _ _ _ _ _ q => q.elim, fun _ _ _ _ _ _ _ _ q => q.elim⟩⟩
  exact ret_ok sm kq w' .non H' .non M' l s' .non q'
/-- a function that may be called -/
structure Cal (P : Program) (w : World) (K : PySem.W.Frag) (mg : Str → Option Value) (base : Heap) (k : Nat) (x : Str) (n : Nat) (φ : Fn) : Prop where
  ex : ∃ (f : Addr) (fd : FuncData) (ps : List Str), FnOk P w K mg base CX0 k f fd ps (spD ⟨K, mg⟩ n φ) ∧ mg x = some (.ref f) ∧ PySem.W.keepIn K (.ref f) = true ∧ Binds K fd ps []
/-- a method -/
structure CalM (P : Program) (w : World) (K : PySem.W.Frag) (mg : Str → Option Value) (base : Heap) (k : Nat) (c m : Str) (n : Nat) (φ : Fn) : Prop where
  ex : ∃ (C f : Addr) (fd : FuncData) (ps : List Str), mg c = some (.ref C) ∧ Cls K C ∧ Meth K C m f ∧ FnOk P w K mg base CX0 k f fd ps (spD ⟨K, mg⟩ n φ) ∧ Binds K fd ps []
/-- a class that may be made, by its __init__ -/
structure CalC (P : Program) (w : World) (K : PySem.W.Frag) (mg : Str → Option Value) (base : Heap) (k : Nat) (c : Str) (n : Nat) (φ : Fn) : Prop where
  ex : ∃ (C f : Addr) (fd : FuncData) (ps : List Str), mg c = some (.ref C) ∧ Mk K C f ∧ FnOk P w K mg base CX0 k f fd ps (spD ⟨K, mg⟩ n φ) ∧ Binds K fd ps []
end
@[simp] def dCall (n : Nat) (φ : Fn) (R : WA) : WE := fun δ M Q => R δ M fun ds M1 => ds.length = n ∧ φ ds M1 Q
/-- the fields of an object of the class c -/
def obOf (M : Sto) : D → Option (Str × List (Str × D))
  | .ob c fs => some (c, fs)
  | .cell n => match M[n]? with | some (.ob c fs) => some (c, fs) | _ => none
  | _ => none
@[simp] theorem obOf_ob {M : Sto} {c : Str} {fs : List (Str × D)} : obOf M (.ob c fs) = some (c, fs) := rfl
theorem obOf_cell {M : Sto} {n : Nat} {c : Str} {fs : List (Str × D)} (h : M[n]? = some (.ob c fs)) : obOf M (.cell n) = some (c, fs) := by simp [obOf, h]
theorem Sim.ob {G : Gx} {w : Wd} {H : Hp} {M : Sto} {v : V} {d : D} {c : Str} {fs : List (Str × D)} (s : Sim G w H M) (r : Rep G w v d) (h : obOf M d = some (c, fs)) : ∃ a C dx vs, v = .ref a ∧ H a = some (.ins C dx vs) ∧ G.mg c = some (.ref C) ∧ RepF G w vs fs := by
  cases r with
  | ob h1 h2 h3 =>
    cases h
    exact ⟨_, _, _, _, rfl, s.same _ _ h1, h2, h3⟩
  | @cell n a h1 =>
    have hm : M[n]? = some (.ob c fs) := by
      simp only [obOf] at h
      split at h
      · rename_i e
        cases h
        exact e
      · cases h
    obtain ⟨_, C, dx, vs, e1, e2, e3⟩ := s.cell n a _ h1 hm
    exact ⟨a, C, dx, vs, rfl, e1, e2, e3⟩
  | _ => cases h
def dMeth (c m : Str) (n : Nat) (φ : Fn) (A : WE) (R : WA) : WE := fun δ M Q => A δ M fun d M1 => ∃ fs, obOf M1 d = some (c, fs) ∧ fs.lookup m = none ∧ R δ M1 fun ds M2 => ds.length + 1 = n ∧ φ (d :: ds) M2 Q
/-- C(..), a mutable object -/
@[simp] def dMakeM (c : Str) (n : Nat) (φ : Fn) (R : WA) : WE := fun δ M Q => R δ M fun ds M1 => ds.length + 1 = n ∧ φ (.cell M1.length :: ds) (M1 ++ [.ob c []]) fun r M2 => r = .non ∧ Q (.cell M1.length) M2
/-- C(..), an object that never changes behind its making -/
@[simp] def dMake (c : Str) (n : Nat) (φ : Fn) (R : WA) : WE := fun δ M Q => R δ M fun ds M1 => ds.length + 1 = n ∧ φ (.cell M1.length :: ds) (M1 ++ [.ob c []]) fun r M2 => r = .non ∧ ∃ fs, M2 = M1 ++ [.ob c fs] ∧ clF M1.length fs = true ∧ Q (.ob c fs) M1
/-- a class's field -/
structure FldF (K : PySem.W.Frag) (mg : Str → Option Value) (c f : Str) : Prop where
  ex : ∃ C, mg c = some (.ref C) ∧ Cls K C ∧ NoAttr K C f
def dFld (cs : List Str) (f : Str) (A : WE) : WE := fun δ M Q => A δ M fun d M1 => ∃ c fs v, obOf M1 d = some (c, fs) ∧ c ∈ cs ∧ fs.lookup f = some v ∧ Q v M1
def dSetF (cs : List Str) (f : Str) (A B : WE) : WS := fun E δ M => B δ M fun v M1 => A δ M1 fun d M2 => ∃ n c fs, d = .cell n ∧ M2[n]? = some (.ob c fs) ∧ c ∈ cs ∧ fs.length < 1000 ∧ E.nx δ (M2.set n (.ob c (putD f v fs)))
section
variable {X : Cx} {k n : Nat} {φ : Fn} {x c m : Str} {e o value : Expr} {es : List Expr} {R : WA} {A B : WE} {p pos apos tpos : Pos}
theorem call_read {σ : L2.St} {H : Hp} {Q : VK} (h : up (gx X) (dCall n φ R) σ H Q) : tCall (spD (gx X) n φ) [] E0 (upA (gx X) R) σ H Q := by
  obtain ⟨w, δ, M, Qd, s, e, h, k⟩ := h
  refine upA1 s e h fun w' vs H' ds M' l s' r ⟨hl, q⟩ => ?_
  show spD (gx X) n φ (vs ++ []) H' Q E0
  rw [List.append_nil]
  exact ⟨by rw [r.length]; exact hl, w', ds, M', Qd, s', r, q, k.mono l⟩
theorem ce_call (F : Cal X.prog X.w X.K X.mg X.base k x n φ) (hr : Room k X.A) (ha : CA X (e :: es) R) (hg : Gl X x := by rfl) (hdb : (x == ("__debug__" : Str)) = false := by decide)
    (he : starEach (e :: es) X.env = (false, eval e X.env) :: starEach es X.env := by rfl) (hpl : (backTo pos (starEach es X.env)).any (·.1) = false := by rfl) : CE X (.Call (.Name x p) (e :: es) [] pos) (dCall n φ R) := by
  obtain ⟨f, fd, ps, F, hm, hk, hb⟩ := F.ex
  exact pe_weak (pe_call F hr hg hm hk hb .nil pass0 ha hdb he hpl) fun σ H Q h => call_read h
theorem ce_call0 (F : Cal X.prog X.w X.K X.mg X.base k x 0 φ) (hr : Room k X.A) (hg : Gl X x := by rfl) (hdb : (x == ("__debug__" : Str)) = false := by decide) : CE X (.Call (.Name x p) [] [] pos) (dCall 0 φ aNil) := by
  obtain ⟨f, fd, ps, F, hm, hk, hb⟩ := F.ex
  refine pe_weak (pe_call0 F hr hg hm hk hb .nil pass0 hdb) fun σ H Q ⟨w, δ, M, Qd, s, e, h, k⟩ => ?_
  obtain ⟨_, h⟩ := h
  exact ⟨rfl, w, [], M, Qd, s, .nil, h, k⟩
theorem meth_read {C : Addr} {σ : L2.St} {H : Hp} {Q : VK} {tr : TA} (hC : X.mg c = some (.ref C)) (htr : ∀ σ H Q, upA (gx X) R σ H Q → tr σ H Q) (h : up (gx X) (dMeth c m n φ A R) σ H Q) : tMeth C m (spD (gx X) n φ) [] E0 (up (gx X) A) tr σ H Q := by
  obtain ⟨w, δ, M, Qd, s, e, h, k⟩ := h
  refine up1 s e h fun w1 v H1 d M1 l1 s1 r1 ⟨fs, ho, hl, q⟩ => ?_
  obtain ⟨a, C', dx, vs, rfl, e1, e2, e3⟩ := s1.ob r1 ho
  have hCC : C' = C := by
    have := e2.symm.trans hC
    cases this
    rfl
  subst hCC
  refine ⟨a, dx, vs, rfl, e1, e3.lookN hl, htr _ _ _ (upA1 s1 (e.mono l1.le) q fun w2 us H2 ds M2 l2 s2 r2 ⟨hn, q2⟩ => ?_)⟩
  show spD (gx X) n φ (.ref a :: (us ++ [])) H2 Q E0
  rw [List.append_nil]
  exact ⟨by simp [r2.length]; exact hn, w2, d :: ds, M2, Qd, s2, .cons (r1.mono l2.le) r2, q2, k.mono (l1.trans l2)⟩
theorem ce_meth {pl : Sem Bool} (F : CalM X.prog X.w X.K X.mg X.base k c m n φ) (hr : Room k X.A) (ho : CE X o A) (ha : CA X (e :: es) R) (hst : starEach (e :: es) X.env = (false, eval e X.env) :: starEach es X.env := by rfl) (hpl : (backTo pos (starEach es X.env)).any (·.1) = false := by rfl)
    (ht : eval (.Call (.Attribute o m apos) (e :: es) [] pos) X.env = (do
      let ov ← eval o X.env
      standAt apos.atName
      let (f, first) ← holding [ov] (getMethod ov m pl)
      callWith pos f first (backTo pos (starEach (e :: es) X.env)) (backToKw pos (keywordEach [] X.env))) := by rfl) :
    CE X (.Call (.Attribute o m apos) (e :: es) [] pos) (dMeth c m n φ A R) := by
  obtain ⟨C, f, fd, ps, hC, cl, hm, F, hb⟩ := F.ex
  exact pe_weak (pe_meth ho cl hm F hr hb .nil pass0 ha hst hpl ht) fun σ H Q h => meth_read hC (fun _ _ _ h => h) h
theorem upA_nil {G : Gx} {σ : L2.St} {H : Hp} {Q : List V → Hp → Prop} (h : upA G aNil σ H Q) : tNil σ H Q := by
  obtain ⟨w, δ, M, Qd, s, e, h, k⟩ := h
  exact k w _ H _ M (Stp.refl _ _) s .nil h
theorem ce_meth0 {pl : Sem Bool} (F : CalM X.prog X.w X.K X.mg X.base k c m n φ) (hr : Room k X.A) (ho : CE X o A)
    (ht : eval (.Call (.Attribute o m apos) [] [] pos) X.env = (do
      let ov ← eval o X.env
      standAt apos.atName
      let (f, first) ← holding [ov] (getMethod ov m pl)
      callWith pos f first (backTo pos (starEach [] X.env)) (backToKw pos (keywordEach [] X.env))) := by rfl) :
    CE X (.Call (.Attribute o m apos) [] [] pos) (dMeth c m n φ A aNil) := by
  obtain ⟨C, f, fd, ps, hC, cl, hm, F, hb⟩ := F.ex
  exact pe_weak (pe_meth0 ho cl hm F hr hb .nil pass0 ht) fun σ H Q h => meth_read hC (fun _ _ _ h => upA_nil h) h
/-- a new instance comes into the world -/
theorem made_sim {G : Gx} {w : Wd} {H : Hp} {M : Sto} {C x dx : Addr} (s : Sim G w H M) (hx : H x = none) (hd : H dx = none) (ne : dx ≠ x) (hC : G.mg c = some (.ref C)) :
    Stp w H ⟨w.F, w.io ++ [x]⟩ (upd (upd H dx (.own x)) x (.ins C dx [])) ∧ Sim G ⟨w.F, w.io ++ [x]⟩ (upd (upd H dx (.own x)) x (.ins C dx [])) (M ++ [.ob c []]) := by
  have hx2 : (upd H dx (.own x)) x = none := by rw [upd_ne (Ne.symm ne)]; exact hx
  have s1 : Sim G w (upd H dx (.own x)) M := s.side hd
  refine ⟨(Stp.side hd).trans (Stp.cell hx2), s1.newCell hx2 ⟨s.free hx, C, dx, [], upd_same, hC, .nil⟩⟩
theorem makeM_read {C : Addr} {σ : L2.St} {H : Hp} {Q : VK} {tr : TA} (hC : X.mg c = some (.ref C)) (htr : ∀ σ H Q, upA (gx X) R σ H Q → tr σ H Q) (h : up (gx X) (dMakeM c n φ R) σ H Q) : tMake C (spD (gx X) n φ) [] E0 tr σ H Q := by
  obtain ⟨w, δ, M, Qd, s, e, h, k⟩ := h
  refine htr _ _ _ (upA1 s e h fun w1 vs H1 ds M1 l1 s1 r1 ⟨hl, q⟩ => ?_)
  intro x dx hx hd ne
  obtain ⟨l2, s2⟩ := made_sim s1 hx hd ne hC
  have rx : Rep (gx X) ⟨w1.F, w1.io ++ [x]⟩ (.ref x) (.cell M1.length) := .cell (by
    show (w1.io ++ [x])[M1.length]? = some x
    rw [← s1.len]
    simp)
  show spD (gx X) n φ (.ref x :: (vs ++ [])) _ _ E0
  rw [List.append_nil]
  refine ⟨by simp [r1.length]; exact hl, _, .cell M1.length :: ds, _, _, s2, .cons rx (r1.mono l2.le), q, fun w3 v H3 d M3 l3 s3 r3 ⟨hr, q3⟩ => ?_⟩
  subst hr
  cases r3
  exact ⟨rfl, k w3 _ H3 _ M3 ((l1.trans l2).trans l3) s3 (rx.mono l3.le) q3⟩
theorem make_read {C : Addr} {σ : L2.St} {H : Hp} {Q : VK} {tr : TA} (hC : X.mg c = some (.ref C)) (htr : ∀ σ H Q, upA (gx X) R σ H Q → tr σ H Q) (h : up (gx X) (dMake c n φ R) σ H Q) : tMake C (spD (gx X) n φ) [] E0 tr σ H Q := by
  obtain ⟨w, δ, M, Qd, s, e, h, k⟩ := h
  refine htr _ _ _ (upA1 s e h fun w1 vs H1 ds M1 l1 s1 r1 ⟨hl, q⟩ => ?_)
  intro x dx hx hd ne
  obtain ⟨l2, s2⟩ := made_sim s1 hx hd ne hC
  have rx : Rep (gx X) ⟨w1.F, w1.io ++ [x]⟩ (.ref x) (.cell M1.length) := .cell (by
    show (w1.io ++ [x])[M1.length]? = some x
    rw [← s1.len]
    simp)
  show spD (gx X) n φ (.ref x :: (vs ++ [])) _ _ E0
  rw [List.append_nil]
  refine ⟨by simp [r1.length]; exact hl, _, .cell M1.length :: ds, _, _, s2, .cons rx (r1.mono l2.le), q, fun w3 v H3 d M3 l3 s3 r3 ⟨hr, fs, hM, hcl, q3⟩ => ?_⟩
  subst hr hM
  cases r3
  refine ⟨rfl, ?_⟩
  -- the cell is the last one: it is frozen, and the store is cut back
  have hat : (M1 ++ [MO.ob c fs])[M1.length]? = some (MO.ob c fs) := by simp
  have hio : w3.io[M1.length]? = some x := by
    refine l3.le.io ?_
    show (w1.io ++ [x])[M1.length]? = some x
    rw [← s1.len]
    simp
  obtain ⟨hF, C', dx', vs', e1, e2, e3⟩ := s3.cell _ x _ hio hat
  have s4 := s3.freeze hio hF e1
  have l4 : Stp w3 H3 ⟨upd w3.F x (.ins C' dx' vs'), w3.io⟩ H3 := Stp.freeze hio hF
  have hset : (M1 ++ [MO.ob c fs]).set M1.length .dead = M1 ++ [MO.dead] := by
    rw [List.set_append_right _ _ (Nat.le_refl _), Nat.sub_self]
    rfl
  rw [hset] at s4
  obtain ⟨_, l5, s5⟩ := cut_ok s1 ((l2.trans l3).trans l4) s4 ⟨[.dead], rfl, rfl, fun n mo q => .inl q⟩
  refine k _ _ H3 _ M1 (l1.trans l5) s5 (.ob (C := C') (dx := dx') (vs := vs') ?_ e2 ?_) q3
  · show upd w3.F x _ x = _
    rw [upd_same]
  · exact (e3.mono l4.le).cut _ hcl
theorem ce_makeM (F : CalC X.prog X.w X.K X.mg X.base k c n φ) (hr : Room (k + 1) X.A) (ha : CA X (e :: es) R) (hg : Gl X c := by rfl) (hdb : (c == ("__debug__" : Str)) = false := by decide)
    (he : starEach (e :: es) X.env = (false, eval e X.env) :: starEach es X.env := by rfl) (hpl : (backTo pos (starEach es X.env)).any (·.1) = false := by rfl) : CE X (.Call (.Name c p) (e :: es) [] pos) (dMakeM c n φ R) := by
  obtain ⟨C, f, fd, ps, hC, M, F, hb⟩ := F.ex
  exact pe_weak (pe_make M F hr hg hC hb .nil pass0 ha hdb he hpl) fun σ H Q h => makeM_read hC (fun _ _ _ h => h) h
theorem ce_makeM0 (F : CalC X.prog X.w X.K X.mg X.base k c n φ) (hr : Room (k + 1) X.A) (hg : Gl X c := by rfl) (hdb : (c == ("__debug__" : Str)) = false := by decide) : CE X (.Call (.Name c p) [] [] pos) (dMakeM c n φ aNil) := by
  obtain ⟨C, f, fd, ps, hC, M, F, hb⟩ := F.ex
  exact pe_weak (pe_make0 M F hr hg hC hb .nil pass0 hdb) fun σ H Q h => makeM_read hC (fun _ _ _ h => upA_nil h) h
theorem ce_make (F : CalC X.prog X.w X.K X.mg X.base k c n φ) (hr : Room (k + 1) X.A) (ha : CA X (e :: es) R) (hg : Gl X c := by rfl) (hdb : (c == ("__debug__" : Str)) = false := by decide)
    (he : starEach (e :: es) X.env = (false, eval e X.env) :: starEach es X.env := by rfl) (hpl : (backTo pos (starEach es X.env)).any (·.1) = false := by rfl) : CE X (.Call (.Name c p) (e :: es) [] pos) (dMake c n φ R) := by
  obtain ⟨C, f, fd, ps, hC, M, F, hb⟩ := F.ex
  exact pe_weak (pe_make M F hr hg hC hb .nil pass0 ha hdb he hpl) fun σ H Q h => make_read hC (fun _ _ _ h => h) h
theorem ce_fld {cs : List Str} {f : Str} (hf : ∀ c ∈ cs, FldF X.K X.mg c f) (ho : CE X o A) (hb : attributeBase o f X.env (eval o X.env) = eval o X.env := by rfl) : CE X (.Attribute o f pos) (dFld cs f A) :=
  pe_weak (pe_fld ho hb) fun σ H Q ⟨w, δ, M, Qd, s, e, h, k⟩ => up1 s e h fun w1 v H1 d M1 l1 s1 r1 ⟨c, fs, u, h1, h2, h3, q⟩ => by
    obtain ⟨C, hC, cl, na⟩ := (hf c h2).ex
    obtain ⟨a, C', dx, vs, rfl, e1, e2, e3⟩ := s1.ob r1 h1
    obtain rfl : C = C' := by
      have := hC.symm.trans e2
      cases this
      rfl
    obtain ⟨y, e4, r4⟩ := e3.look h3
    exact ⟨a, C, dx, vs, y, rfl, e1, cl, na, e4, k w1 y H1 u M1 l1 s1 r4 q⟩
theorem cs_setF {cs : List Str} {f : Str} (hf : ∀ c ∈ cs, FldF X.K X.mg c f) (ho : CE X o A) (hv : CE X value B) (hs : swapsWith value (some (.Attribute o f tpos)) pos.line X.env = pure false := by rfl) : CS X (.Assign [.Attribute o f tpos] value pos) (dSetF cs f A B) :=
  ps_weak (ps_fld ho hv hs) fun D σ H ⟨w, δ, M, E, s, e, h, k⟩ => up1 s e h fun w1 v H1 v1x M1 l1 s1 r1 q1 => up1 s1 (e.mono l1.le) q1 fun w2 u H2 d2 M2 l2 s2 r2 ⟨n, c, fs, ed, hm, hc, hl, q⟩ => by
    subst ed
    obtain ⟨C, hC, cl, na⟩ := (hf c hc).ex
    cases r2 with
    | @cell _ a ha =>
      obtain ⟨hF, C', dx, vs, e1, e2, e3⟩ := s2.cell n a _ ha hm
      obtain rfl : C = C' := by
        have := hC.symm.trans e2
        cases this
        rfl
      have l := (l1.trans l2).trans (Stp.write (o := .ins C dx (putF f v vs)) (H := H2) ha)
      exact ⟨a, C, dx, vs, rfl, e1, cl, na, by rw [e3.length]; exact hl, k.nx w2 σ _ δ _ l (s2.write (mo := .ob c (putD f v1x fs)) ha hF ⟨hF, C, dx, _, upd_same, e2, RepF.put (r1.mono l2.le) e3⟩) (e.mono l.le) q⟩
end
end DL


set_option Elab.async false
set_option linter.all false
set_option autoImplicit false
set_option maxRecDepth 100000
set_option maxHeartbeats 6400000
namespace DL
open PySem PySem.Spec PyProof.Rows L2
/-! ### set(list of ints), at the library's level: the walk of set.__init__ over a list -/
abbrev freshSet (w : World) : Obj := { cls := .type "set", dict := none, data := .set #[] 0 (.fresh 0 0 (!w.params.followText "set-order")) }
section
variable {P : Program} {w : World} {A : Around} {E : Value → Shared → Prop} {s : Shared}
theorem set_lst_ints {l : Addr} {items : Array Value} (ns : List Int) {Q : Value → Shared → Prop} (hh : A.handled = none) (hl : s.heap.IsList l items) (hit : IntsAre items.toList ns) (hb : ns.length + 1 < scanBound)
    (h : ∀ (h' : Heap) (tk c : Nat), SetR w h' s.heap.objs.size (fun j => decide (j ∈ ns)) c → c ≤ ns.length → (∀ b o, s.heap.get? b = some o → h'.get? b = some o) → Q (.ref s.heap.objs.size) { s with heap := h', toks := tk }) :
    wpAny (model P w) A (call (.type "set") [.ref l]) Q E s := by
  have hisz : items.size = ns.length := (Array.length_toList (xs := items)).symm.trans (IntsAre.length hit)
  obtain ⟨c, tl, hmro⟩ := F.called_set.mro
  have hmade := F.called_set.made
  have hsub := F.called_set.sub
  have h1 := F.called_set.notType
  have h2 := F.called_set.canCreate
  have hct := F.typeCall_set_1 (.ref l)
  refine wpAny_call (codeAny_of_tree ?_)
  show wpAny _ _ (callAny (.type "set") _) _ _ _
  refine wpAny_pure ⟨Code.quiet_builtin _ (by decide +kernel), codeAny_builtin F.entry_type_call ?_⟩
  rw [Around.under_plain (weight_type_call_type "set" [.ref l] []) rfl]
  repeat (any_goals (first | assumption | wp_step))
  refine codeAny_mono (code_set_led1 (.ref l) (E := E) (Q₁ := fun obj z => obj = .ref s.heap.objs.size ∧ z = { s with heap := s.heap.push (freshSet w) }) ⟨rfl, rfl⟩) fun r z hr => ?_
  match r, hr with
  | .error e, hr => exact hr
  | .ok (.ret obj), hr =>
    obtain ⟨rfl, rfl⟩ := hr
    have hS : (s.heap.push (freshSet w)).get? s.heap.objs.size = some (freshSet w) := Heap.get?_push_size _ rfl
    have hT : Shared.TypeIs { s with heap := s.heap.push (freshSet w) } (.ref s.heap.objs.size) "set" := ⟨_, hS, rfl⟩
    have hli := F.called_set.init.lookup
    have hbi := F.called_set.init.bind (.ref s.heap.objs.size)
    repeat (any_goals (first | assumption | wp_step))
    refine codeAny_mono (codeAny_call_builtin (R := wants (fun r z2 => r = .none ∧ ∃ h' tk c, z2 = { s with heap := h', toks := tk } ∧ SetR w h' s.heap.objs.size (fun j => decide (j ∈ ns)) c ∧ c ≤ ns.length ∧ (∀ b o, s.heap.get? b = some o → h'.get? b = some o)) E)
      F.called_set.init.plain F.entry_set_init (check_set_init_1 hT ?_)) fun r2 z2 hr2 => ?_
    · obtain ⟨⟨ocls, odict, odata, oslots⟩, hol, hcl, nl, hdl⟩ := hl
      simp only at hcl hdl
      subst hcl hdl
      have hlS : l < s.heap.objs.size := Heap.lt_size hol
      have hol' := Heap.get?_push_of_some (freshSet w) hol
      have hsls := F.sub_list_set
      have hslf := F.sub_list_frozenset
      have hne : (Value.type "list" == Value.type "dict") = false := by decide
      have hl1 : (s.heap.push (freshSet w)).IsList l items := ⟨_, hol', rfl, nl, rfl⟩
      unfold Builtin.«set.__init__» noKeywords Builtin.Frozenset.updateFrom
      generalize hPI : pyIter = PI
      wp_walk
      subst hPI
      refine wpAny_pyIter_list hl1 (wpAny_bind (wpAny_runValue ?_))
      have hneI : l ≠ (s.heap.push (freshSet w)).objs.size := by
        rw [Heap.size_push]
        exact Nat.ne_of_lt (Nat.lt_succ_of_lt hlS)
      have hSf : s.heap.objs.size ∉ [(s.heap.push (freshSet w)).objs.size, l] := fun hm => by
        rw [Heap.size_push] at hm
        rcases List.mem_cons.mp hm with z | z
        · exact absurd z (Nat.ne_of_lt (Nat.lt_succ_self _))
        · exact absurd (List.mem_singleton.mp z) (Nat.ne_of_gt hlS)
      have hval : ∀ (i : Nat) (v : Value), items[i]? = some v → ∃ k t, ns[i]? = some k ∧ v = .int k t := fun i v hv => by
        have hi : i < ns.length := by rw [← hisz]; exact (Array.getElem?_eq_some_iff.mp hv).1
        obtain ⟨t, e⟩ := PyProof.Rows.IntsAre.int_at hit i v (by rw [Array.getElem?_toList]; exact hv)
        exact ⟨ns[i], t, List.getElem?_eq_getElem hi, by rw [e, List.getD_eq_getElem?_getD, List.getElem?_eq_getElem hi]; rfl⟩
      refine set_update_ints ((Walks.list (by simp [hh]) _ l hneI items).toS) s.heap.objs.size hSf ns hisz hb hval (items.size - 0) 0 _ (by omega) (Nat.zero_le _) ⟨⟨_, Heap.get?_push_size _ rfl, rfl, rfl⟩, hl1.push _⟩
        ⟨0, Nat.le_refl 0, setR_new_at (Heap.get?_push_of_some _ hS)⟩ fun z3 c3 hm hc3 hS3 => ?_
      obtain ⟨h3, g3, d3, tk3, os3⟩ := z3
      obtain rfl : g3 = s.gens := hm.gens
      obtain rfl : d3 = s.drawn := hm.drawn
      obtain rfl : os3 = s.os := hm.os
      show wpAny _ _ _ _ _ _
      refine wpAny_pure ?_
      show wpAny _ _ (ret Value.none) _ _ _
      refine wpAny_pure ⟨rfl, h3, tk3, c3, rfl, hS3, by rw [← hisz]; exact hc3, fun b o e => hm.heap b o (fun hb2 => ?_) (Heap.get?_push_of_some _ (Heap.get?_push_of_some _ e))⟩
      have hb0 : b < s.heap.objs.size := Heap.lt_size e
      rw [Heap.size_push] at hb2
      rcases List.mem_cons.mp hb2 with z | z
      · exact absurd z (Nat.ne_of_lt hb0)
      · exact absurd (List.mem_singleton.mp z) (Nat.ne_of_lt (Nat.lt_succ_of_lt hb0))
    · match r2, hr2 with
      | .error e, hr2 => exact hr2
      | .ok (.ret r), hr2 =>
        obtain ⟨rfl, h', tk, c', rfl, hS', hc', hk'⟩ := hr2
        repeat (any_goals (first | assumption | wp_step))
        exact h _ _ _ hS' hc' hk'
end
/-- set(xs), ints in a list or a tuple -/
def rSetI (K : PySem.W.Frag) (w : World) : List V → Hp → VK → Prop := fun xs H Q => ∃ (l : Addr) (ns : List Int), xs = [V.ref l] ∧ (SqL K H l (ns.map V.int) ∨ SqT K H l (ns.map V.int)) ∧ ns.length < 1000 ∧
  ∀ p c, H p = none → c ≤ ns.length → Q (.ref p) (upd H p (SetO w p (fun j => decide (j ∈ ns)) c))
theorem cr_setI {X : Cx} (hc : X.calm = true) : CallR X (.type "set") (rSetI X.K X.w) := by
  intro pins s σ H vs us Q I r h
  obtain ⟨l, ns, rfl, hq, hl, q⟩ := h
  rw [Vals.ref1 r]
  have fin : ∀ (h' : Heap) (tk c : Nat), SetR X.w h' s.heap.objs.size (fun j => decide (j ∈ ns)) c → c ≤ ns.length → (∀ b o, s.heap.get? b = some o → h'.get? b = some o) →
      EP X pins σ Q (.ref s.heap.objs.size) { s with heap := h', toks := tk } := fun h' tk c R hcn k =>
    ⟨.ref s.heap.objs.size, _, I.laid (t' := tk) k (Nat.le_refl _) (setO_new R), rfl, q _ c (I.hok.fresh (Nat.le_refl _)) hcn⟩
  rcases hq with hq | hq
  · obtain ⟨its, rv, pl, _⟩ := I.list hq
    exact set_lst_ints ns (I.ok.hd hc) pl.isList (ints_of_vals rv) (by unfold scanBound; omega) fin
  · obtain ⟨its, rv, pl, _⟩ := I.tuple hq
    exact call_set_tupI ns (I.ok.hd hc) (show s.heap.IsTuple l its.toArray from pl) (ints_of_vals rv) (by unfold scanBound; omega) fin
/-! ### sorted(set(xs)) -/
/-- a list of ints in ascending order without repeats -/
def insI (x : Int) : List Int → List Int
  | [] => [x]
  | y :: r => if x < y then x :: y :: r else if x = y then y :: r else y :: insI x r
def sset (ns : List Int) : List Int := ns.foldr insI []
theorem mem_insI (x k : Int) : ∀ l : List Int, k ∈ insI x l ↔ k = x ∨ k ∈ l
  | [] => by simp [insI]
  | y :: r => by
    unfold insI
    split
    · simp
    · split
      · rename_i h
        subst h
        simp
      · simp only [List.mem_cons, mem_insI x k r]
        constructor
        · rintro (h | h | h) <;> simp [h]
        · rintro (h | h | h) <;> simp [h]
theorem mem_sset (k : Int) : ∀ ns : List Int, k ∈ sset ns ↔ k ∈ ns
  | [] => by simp [sset]
  | x :: r => by
    show k ∈ insI x (sset r) ↔ _
    rw [mem_insI, mem_sset k r, List.mem_cons]
theorem insI_pw (x : Int) : ∀ {l : List Int}, l.Pairwise (· < ·) → (insI x l).Pairwise (· < ·)
  | [], _ => by simp [insI]
  | y :: r, h => by
    have hp := List.pairwise_cons.mp h
    unfold insI
    split
    · rename_i hxy
      refine List.pairwise_cons.mpr ⟨fun z hz => ?_, h⟩
      rcases List.mem_cons.mp hz with e | e
      · omega
      · have := hp.1 z e
        omega
    · split
      · exact h
      · refine List.pairwise_cons.mpr ⟨fun z hz => ?_, insI_pw x hp.2⟩
        rcases (mem_insI x z r).mp hz with e | e
        · omega
        · exact hp.1 z e
theorem sset_pw : ∀ ns : List Int, (sset ns).Pairwise (· < ·)
  | [] => List.Pairwise.nil
  | x :: r => insI_pw x (sset_pw r)
theorem pw_ext : ∀ {a b : List Int}, a.Pairwise (· < ·) → b.Pairwise (· < ·) → (∀ k, k ∈ a ↔ k ∈ b) → a = b
  | [], [], _, _, _ => rfl
  | [], y :: b, _, _, h => absurd ((h y).mpr List.mem_cons_self) (by simp)
  | x :: a, [], _, _, h => absurd ((h x).mp List.mem_cons_self) (by simp)
  | x :: a, y :: b, ha, hb, h => by
    have pa := List.pairwise_cons.mp ha
    have pb := List.pairwise_cons.mp hb
    have hxy : x = y := by
      have h1 := (h x).mp List.mem_cons_self
      have h2 := (h y).mpr List.mem_cons_self
      rcases List.mem_cons.mp h1 with e | e
      · exact e
      · rcases List.mem_cons.mp h2 with f | f
        · exact f.symm
        · have := pb.1 x e
          have := pa.1 y f
          omega
    subst hxy
    rw [pw_ext pa.2 pb.2 fun k => ?_]
    constructor
    · intro hk
      rcases List.mem_cons.mp ((h k).mp (List.mem_cons_of_mem _ hk)) with e | e
      · have := pa.1 k hk
        omega
      · exact e
    · intro hk
      rcases List.mem_cons.mp ((h k).mpr (List.mem_cons_of_mem _ hk)) with e | e
      · have := pb.1 k hk
        omega
      · exact e
theorem sset_id {ns : List Int} (h : ns.Pairwise (· < ·)) : sset ns = ns := pw_ext (sset_pw ns) h fun k => mem_sset k ns
theorem sset_eq {a b : List Int} (h : ∀ k, k ∈ a ↔ k ∈ b) : sset a = sset b := pw_ext (sset_pw a) (sset_pw b) fun k => by rw [mem_sset, mem_sset, h]
theorem sset_length_le : ∀ ns : List Int, (sset ns).length ≤ ns.length
  | [] => Nat.le_refl _
  | x :: r => by
    have h : ∀ l : List Int, (insI x l).length ≤ l.length + 1 := fun l => by
      induction l with
      | nil => simp [insI]
      | cons y l ih =>
        unfold insI
        split
        · simp
        · split
          · simp
          · simp only [List.length_cons]
            omega
    show (insI x (sset r)).length ≤ r.length + 1
    exact Nat.le_trans (h _) (Nat.succ_le_succ (sset_length_le r))
/-- sorted(set(e)) of ints -/
def dSSet (A : WE) : WE := fun δ M Q => A δ M fun d M1 => ∃ ns : List Int, seqOf M1 d = some (ns.map D.int) ∧ ns.length < 64 ∧ Q (.lst ((sset ns).map D.int)) M1
theorem ce_sset {X : Cx} {e : Expr} {A : WE} {p p2 pos pos2 : Pos} (hm : X.mg "sorted" = none) (hm2 : X.mg "set" = none) (h : CE X e A) (hc : X.calm = true := by rfl) (hg : Gl X "sorted" := by rfl) (hg2 : Gl X "set" := by rfl)
    (hs : starEach [e] X.env = (false, eval e X.env) :: starEach [] X.env := by rfl)
    (hs2 : starEach [.Call (.Name "set" p2) [e] [] pos2] X.env = (false, eval (.Call (.Name "set" p2) [e] [] pos2) X.env) :: starEach [] X.env := by rfl) :
    CE X (.Call (.Name "sorted" p) [.Call (.Name "set" p2) [e] [] pos2] [] pos) (dSSet A) :=
  pe_weak (pe_callB (cr_sortedSet hc) hg hm (by decide +kernel) (pa_cons (pe_callTy (cr_setI hc) hg2 hm2 (by decide +kernel) (pa_cons h pa_nil hs) (by decide) (by decide) hs rfl) pa_nil hs2) (by decide) (by decide) hs2 rfl) fun σ H Q ⟨w, δ, M, Qd, s, e, h, k⟩ =>
    up1 s e h fun w1 v H1 d M1 l1 s1 r1 ⟨ns, e1, hl, q⟩ => by
      obtain ⟨a, vs, rfl, f1, g1⟩ := s1.seq r1 e1 X.K
      have := g1.int
      subst this
      refine ⟨a, ns, rfl, f1, Nat.lt_trans hl (by decide), fun p c hp hcn => ?_⟩
      refine ⟨p, fun j => decide (j ∈ ns), c, rfl, upd_same, Nat.lt_of_le_of_lt hcn hl, fun ms p2 hpw hmem _ hp2 => ?_⟩
      have hms : ms = sset ns := pw_ext hpw (sset_pw ns) fun k => by
        rw [hmem, decide_eq_true_eq, mem_sset]
      subst hms
      exact (k.mono (l1.trans (Stp.side hp))).newLst (s1.side hp) (Reps.ofInts _) hp2 q
end DL


set_option Elab.async false
set_option linter.all false
set_option autoImplicit false
set_option maxRecDepth 100000
set_option maxHeartbeats 4000000
namespace DL
open PySem PySem.Spec PyProof.Rows L2

/-! ### built-in functions -/
def fLen : FA := fun ds M Q => ∃ d, ds = [d] ∧ ((∃ es, seqOf M d = some es ∧ Q (.int (es.length : Nat)) M) ∨ ∃ x : Str, d = .str x ∧ x.length ≤ sizeLine ∧ Q (.int (x.length : Nat)) M)
def fTuple : FA := fun ds M Q => ∃ d es, ds = [d] ∧ seqOf M d = some es ∧ Q (.tup es) M
def fList : FA := fun ds M Q => ∃ d es, ds = [d] ∧ seqOf M d = some es ∧ Q (.lst es) M
def fListM : FA := fun ds M Q => ∃ d es, ds = [d] ∧ seqOf M d = some es ∧ Q (.cell M.length) (M ++ [.lst es])
def fAll : FA := fun ds M Q => ∃ d, ∃ bs : List Bool, ds = [d] ∧ lstOf M d = some (bs.map D.bl) ∧ Q (.bl (bs.all id)) M
def fAny : FA := fun ds M Q => ∃ d, ∃ bs : List Bool, ds = [d] ∧ lstOf M d = some (bs.map D.bl) ∧ Q (.bl (bs.any id)) M
def fInt : FA := fun ds M Q => (∃ i, ds = [.int i] ∧ Q (.int i) M) ∨ ∃ b, ds = [.bl b] ∧ Q (.int (if b then 1 else 0)) M
def fStr : FA := fun ds M Q => ∃ i : Int, ds = [.int i] ∧ i.natAbs.log2 < 1920 ∧ Q (.str (toString i)) M
def fMax2 : FA := fun ds M Q => ∃ i j, ds = [.int i, .int j] ∧ Q (.int (if j > i then j else i)) M
def fMin2 : FA := fun ds M Q => ∃ i j, ds = [.int i, .int j] ∧ Q (.int (if j < i then j else i)) M
def fSortI : FA := fun ds M Q => ∃ d, ∃ ns : List Int, ds = [d] ∧ lstOf M d = some (ns.map D.int) ∧ ∀ ms : List Int, ms.Perm ns → ms.Pairwise (· ≤ ·) → Q (.lst (ms.map D.int)) M
def fMaxL : FA := fun ds M Q => ∃ d, ∃ ns : List Int, ds = [d] ∧ lstOf M d = some (ns.map D.int) ∧ ns ≠ [] ∧ ∀ m, m ∈ ns → (∀ x ∈ ns, x ≤ m) → Q (.int m) M
section
variable {X : Cx}
theorem reps1 {G : Gx} {w : Wd} {vs : List V} {d : D} (r : Reps G w vs [d]) : ∃ v, vs = [v] ∧ Rep G w v d := by
  cases r with
  | cons r t =>
    cases t
    exact ⟨_, rfl, r⟩
theorem reps2 {G : Gx} {w : Wd} {vs : List V} {d e : D} (r : Reps G w vs [d, e]) : ∃ v u, vs = [v, u] ∧ Rep G w v d ∧ Rep G w u e := by
  cases r with
  | cons r t =>
    obtain ⟨u, rfl, q⟩ := reps1 t
    exact ⟨_, u, rfl, r, q⟩
theorem cal_len : CalD X (.builtin "len") fLen := by
  rintro ds M Qd ⟨d, rfl, h⟩
  refine CalD.of call_len fun w H vs Q s rr k => ?_
  obtain ⟨v, rfl, r⟩ := reps1 rr
  rcases h with ⟨es, e1, q⟩ | ⟨x, rfl, hx, q⟩
  · obtain ⟨a, us, rfl, f, g⟩ := s.seq r e1 X.K
    refine ⟨.ref a, us.length, rfl, ?_, by rw [g.length]; exact k.here s (.int _) q⟩
    rcases f with f | f
    · exact .inl ⟨us, f, rfl⟩
    · exact .inr ⟨us, f, rfl⟩
  · cases r
    exact ⟨.str x, x.length, rfl, ⟨hx, rfl⟩, k.here s (.int _) q⟩
theorem cal_tuple : CalD X (.type "tuple") fTuple := by
  rintro ds M Qd ⟨d, es, rfl, h, q⟩
  refine CalD.of call_tuple_of fun w H vs Q s rr k => ?_
  obtain ⟨v, rfl, r⟩ := reps1 rr
  by_cases ht : ∃ es', d = .tup es'
  · obtain ⟨es', rfl⟩ := ht
    cases h
    cases r with
    | @tup a us _ f g =>
      exact ⟨a, us, rfl, .inr ⟨.inl (.inl (s.same _ _ f)), k.here s (.tup f g) q⟩⟩
  · have hl : lstOf M d = some es := by
      cases d <;> first | exact h | exact absurd ⟨_, rfl⟩ ht
    obtain ⟨a, us, rfl, f, g⟩ := s.lst r hl X.K
    exact ⟨a, us, rfl, .inl ⟨f, fun p hp => k.newTup s g hp q⟩⟩
theorem cal_list : CalD X (.type "list") fList := by
  rintro ds M Qd ⟨d, es, rfl, h, q⟩
  refine CalD.of call_list_of fun w H vs Q s rr k => ?_
  obtain ⟨v, rfl, r⟩ := reps1 rr
  obtain ⟨a, us, rfl, f, g⟩ := s.seq r h X.K
  exact ⟨a, us, rfl, f, fun p hp => k.newLst s g hp q⟩
theorem cal_listM : CalD X (.type "list") fListM := by
  rintro ds M Qd ⟨d, es, rfl, h, q⟩
  refine CalD.of call_list_of fun w H vs Q s rr k => ?_
  obtain ⟨v, rfl, r⟩ := reps1 rr
  obtain ⟨a, us, rfl, f, g⟩ := s.seq r h X.K
  exact ⟨a, us, rfl, f, fun p hp => k.newCell s hp (cellLst s hp g) q⟩
theorem cal_all (hc : X.calm = true) : CalD X (.builtin "all") fAll := by
  rintro ds M Qd ⟨d, bs, rfl, h, q⟩
  refine CalD.of (cr_all hc) fun w H vs Q s rr k => ?_
  obtain ⟨v, rfl, r⟩ := reps1 rr
  obtain ⟨a, us, rfl, f, g⟩ := s.lst r h X.K
  have := g.bls
  subst this
  exact ⟨a, bs, rfl, f, k.here s (.bl _) q⟩
theorem cal_any (hc : X.calm = true) : CalD X (.builtin "any") fAny := by
  rintro ds M Qd ⟨d, bs, rfl, h, q⟩
  refine CalD.of (cr_any hc) fun w H vs Q s rr k => ?_
  obtain ⟨v, rfl, r⟩ := reps1 rr
  obtain ⟨a, us, rfl, f, g⟩ := s.lst r h X.K
  have := g.bls
  subst this
  exact ⟨a, bs, rfl, f, k.here s (.bl _) q⟩
theorem cal_int : CalD X (.type "int") fInt := by
  rintro ds M Qd (⟨i, rfl, q⟩ | ⟨b, rfl, q⟩)
  · refine CalD.of call_int1 fun w H vs Q s rr k => ?_
    obtain ⟨v, rfl, r⟩ := reps1 rr
    cases r
    exact .inl ⟨i, rfl, k.here s (.int _) q⟩
  · refine CalD.of call_int1 fun w H vs Q s rr k => ?_
    obtain ⟨v, rfl, r⟩ := reps1 rr
    cases r
    exact .inr ⟨b, rfl, k.here s (.int _) q⟩
theorem cal_str : CalD X (.type "str") fStr := by
  rintro ds M Qd ⟨i, rfl, hl, q⟩
  refine CalD.of call_str_int fun w H vs Q s rr k => ?_
  obtain ⟨v, rfl, r⟩ := reps1 rr
  cases r
  exact ⟨i, rfl, hl, k.here s (.str _) q⟩
theorem cal_max2 (hc : X.calm = true) : CalD X (.builtin "max") fMax2 := by
  rintro ds M Qd ⟨i, j, rfl, q⟩
  refine CalD.of (call_max2 hc) fun w H vs Q s r k => ?_
  obtain ⟨v, u, rfl, r1, r2⟩ := reps2 r
  cases r1; cases r2
  exact ⟨i, j, rfl, k.here s (.int _) q⟩
theorem cal_min2 (hc : X.calm = true) : CalD X (.builtin "min") fMin2 := by
  rintro ds M Qd ⟨i, j, rfl, q⟩
  refine CalD.of (call_min2 hc) fun w H vs Q s r k => ?_
  obtain ⟨v, u, rfl, r1, r2⟩ := reps2 r
  cases r1; cases r2
  exact ⟨i, j, rfl, k.here s (.int _) q⟩
theorem cal_sortI : CalD X (.builtin "sorted") fSortI := by
  rintro ds M Qd ⟨d, ns, rfl, h, q⟩
  refine CalD.of cr_sortedI fun w H vs Q s rr k => ?_
  obtain ⟨v, rfl, r⟩ := reps1 rr
  obtain ⟨a, us, rfl, f, g⟩ := s.lst r h X.K
  have := g.int
  subst this
  exact ⟨a, ns, rfl, f, fun ms p hpm hpw hp => k.newLst s (Reps.ofInts _) hp (q ms hpm hpw)⟩
theorem cal_maxL (hc : X.calm = true) : CalD X (.builtin "max") fMaxL := by
  rintro ds M Qd ⟨d, ns, rfl, h, hn, q⟩
  refine CalD.of (cr_max hc) fun w H vs Q s rr k => ?_
  obtain ⟨v, rfl, r⟩ := reps1 rr
  obtain ⟨a, us, rfl, f, g⟩ := s.lst r h X.K
  have := g.int
  subst this
  exact ⟨a, ns, rfl, f, List.length_pos_iff.mpr hn, fun m hm hx => k.here s (.int _) (q m hm hx)⟩
end

/-! ### tuple(range(n)), list(range(n)) -/
@[simp] def dTupR (A : WE) : WE := fun δ M Q => A δ M fun d M1 => ∃ n : Int, d = .int n ∧ n ≤ 16777216 ∧ 0 ≤ n ∧ Q (.tup (dRng 0 n.toNat)) M1
@[simp] def dLstR (A : WE) : WE := fun δ M Q => A δ M fun d M1 => ∃ n : Int, d = .int n ∧ n ≤ 16777216 ∧ 0 ≤ n ∧ Q (.lst (dRng 0 n.toNat)) M1
section
variable {X : Cx} {e : Expr} {A : WE} {p p2 pos pos2 : Pos}
theorem rep_rng {G : Gx} {w : Wd} (n : Int) : Reps G w (rgV 0 n) (dRng 0 n.toNat) := by
  have e1 : rgV 0 n = ((List.range n.toNat).map fun (i : Nat) => (0 : Int) + (i : Int)).map V.int := by
    unfold rgV
    rw [List.map_map]
    simp [Function.comp_def]
  have e2 : dRng 0 n.toNat = ((List.range n.toNat).map fun (i : Nat) => (0 : Int) + (i : Int)).map D.int := by
    unfold dRng
    rw [List.map_map]
    rfl
  rw [e1, e2]
  exact Reps.ofInts _
theorem ce_tupR (hm : X.mg "tuple" = none) (hm2 : X.mg "range" = none) (h : CE X e A) (hc : X.calm = true := by rfl) (hg : Gl X "tuple" := by rfl) (hg2 : Gl X "range" := by rfl) (hs : starEach [e] X.env = (false, eval e X.env) :: starEach [] X.env := by rfl)
    (hs2 : starEach [.Call (.Name "range" p2) [e] [] pos2] X.env = (false, eval (.Call (.Name "range" p2) [e] [] pos2) X.env) :: starEach [] X.env := by rfl) : CE X (.Call (.Name "tuple" p) [.Call (.Name "range" p2) [e] [] pos2] [] pos) (dTupR A) :=
  pe_weak (pe_tupRg hc hg hm (prg_1 hg2 hm2 h hs) hs2) fun σ H Q ⟨w, δ, M, Qd, s, e, h, k⟩ => up1 s e h fun w1 v H1 d M1 l1 s1 r1 ⟨n, ed, h1, h2, q⟩ => by
    subst ed
    cases r1
    exact ⟨n, rfl, RgOk.of_le (Int.le_refl 0) h1 (by decide) h2, fun p hp => (k.mono l1).newTup s1 (rep_rng n) hp q⟩
theorem ce_lstR (hm : X.mg "list" = none) (hm2 : X.mg "range" = none) (h : CE X e A) (hc : X.calm = true := by rfl) (hg : Gl X "list" := by rfl) (hg2 : Gl X "range" := by rfl) (hs : starEach [e] X.env = (false, eval e X.env) :: starEach [] X.env := by rfl)
    (hs2 : starEach [.Call (.Name "range" p2) [e] [] pos2] X.env = (false, eval (.Call (.Name "range" p2) [e] [] pos2) X.env) :: starEach [] X.env := by rfl) : CE X (.Call (.Name "list" p) [.Call (.Name "range" p2) [e] [] pos2] [] pos) (dLstR A) :=
  pe_weak (pe_listRg hc hg hm (prg_1 hg2 hm2 h hs) hs2) fun σ H Q ⟨w, δ, M, Qd, s, e, h, k⟩ => up1 s e h fun w1 v H1 d M1 l1 s1 r1 ⟨n, ed, h1, h2, q⟩ => by
    subst ed
    cases r1
    exact ⟨n, rfl, RgOk.of_le (Int.le_refl 0) h1 (by decide) h2, fun p hp => (k.mono l1).newLst s1 (rep_rng n) hp q⟩
end

/-! ### methods of built-in types -/
abbrev FM := D → List D → Sto → (D → Sto → Prop) → Prop
@[simp] def dBM (ty : Sto → D → Prop) (f : FM) (A : WE) (R : WA) : WE := fun δ M Q => A δ M fun d M1 => ty M1 d ∧ R δ M1 fun ds M2 => f d ds M2 Q
def MtD (X : Cx) (id : String) (f : FM) : Prop :=
  ∀ (d : D) (ds : List D) (M : Sto) (Qd : D → Sto → Prop), f d ds M Qd → ∀ (pins : List (Addr × Obj)) (s : Shared) (σ : L2.St) (H : Hp) (w : Wd) (v : V) (vs : List V) (u : Value) (us : List Value) (Q : VK), Inv X pins σ H s → RelV v u → Vals vs us → Sim (gx X) w H M → Rep (gx X) w v d → Reps (gx X) w vs ds →
    KQ (gx X) w H Qd Q → wpAny (model X.prog X.w) X.A (call (.builtin id) (u :: us)) (EP X pins σ Q) X.xe s
def rMt (X : Cx) (id : String) : V → List V → Hp → VK → Prop := fun x xs H Q => ∀ (pins : List (Addr × Obj)) (s : Shared) (σ : L2.St) (u : Value) (us : List Value), Inv X pins σ H s → RelV x u → Vals xs us → wpAny (model X.prog X.w) X.A (call (.builtin id) (u :: us)) (EP X pins σ Q) X.xe s
theorem rMt_ok {X : Cx} {id : String} : MtR X id (rMt X id) := fun pins s σ H x xs v us Q I r1 r2 h => h pins s σ v us I r1 r2
theorem MtD.of {X : Cx} {id : String} {r : V → List V → Hp → VK → Prop} (h : MtR X id r) {d : D} {ds : List D} {M : Sto} {Qd : D → Sto → Prop}
    (k : ∀ (w : Wd) (H : Hp) (v : V) (vs : List V) (Q : VK), Sim (gx X) w H M → Rep (gx X) w v d → Reps (gx X) w vs ds → KQ (gx X) w H Qd Q → r v vs H Q) :
    ∀ (pins : List (Addr × Obj)) (s : Shared) (σ : L2.St) (H : Hp) (w : Wd) (v : V) (vs : List V) (u : Value) (us : List Value) (Q : VK), Inv X pins σ H s → RelV v u → Vals vs us → Sim (gx X) w H M → Rep (gx X) w v d → Reps (gx X) w vs ds →
    KQ (gx X) w H Qd Q → wpAny (model X.prog X.w) X.A (call (.builtin id) (u :: us)) (EP X pins σ Q) X.xe s :=
  fun pins s σ H w v vs u us Q I r1 r2 sm p1 p2 kq => h pins s σ H v vs u us Q I r1 r2 (k w H v vs Q sm p1 p2 kq)
section
variable {X : Cx} {o e : Expr} {es : List Expr} {A : WE} {R : WA} {name : Str} {apos cpos : Pos} {T id : String} {f : FM} {ty : Sto → D → Prop}
theorem ce_bm (pa : PlainAttrs T) (slot : Slot T name id) (hty : typeOf (.builtin id) = pure (.type "method_descriptor")) (hm : MtD X id f) (ht : ∀ (w : Wd) (H : Hp) (M : Sto) (v : V) (d : D), Sim (gx X) w H M → Rep (gx X) w v d → ty M d → tyV X.K T v H) (ho : CE X o A) (ha : CA X (e :: es) R)
    (hbase : attributeBase o name X.env (eval o X.env) = eval o X.env := by rfl)
    (hfew : ((backTo cpos (starEach (e :: es) X.env)).all (fun x => !x.1) && (backToKw cpos (keywordEach [] X.env)).all (fun x => x.1.isSome)
      && decide ((e :: es).length + ([] : List Keyword).length + (if ([] : List Keyword).isEmpty then 0 else 1) < 30)) = true := by rfl)
    (hline : (apos.endLine == cpos.line) = true := by rfl) (hs : starEach (e :: es) X.env = (false, eval e X.env) :: starEach es X.env := by rfl) (hplain : (backTo cpos (starEach es X.env)).any (·.1) = false := by rfl) :
    CE X (.Call (.Attribute o name apos) (e :: es) [] cpos) (dBM ty f A R) :=
  pe_weak (pe_bm pa slot hty rMt_ok ho ha hbase hfew hline hs hplain) fun σ H Q ⟨w, δ, M, Qd, s, e, h, k⟩ => up1 s e h fun w1 v H1 d M1 l1 s1 r1 ⟨h1, q⟩ =>
    ⟨ht w1 H1 M1 v d s1 r1 h1, upA1 s1 (e.mono l1.le) q fun w2 vs H2 ds M2 l2 s2 r2 q2 pins sh σ' u us I p1 p2 => hm d ds M2 Qd q2 pins sh σ' H2 w2 v vs u us Q I p1 p2 s2 (r1.mono l2.le) r2 (k.mono (l1.trans l2))⟩
theorem ce_bm0 (pa : PlainAttrs T) (slot : Slot T name id) (hty : typeOf (.builtin id) = pure (.type "method_descriptor")) (hm : MtD X id f) (ht : ∀ (w : Wd) (H : Hp) (M : Sto) (v : V) (d : D), Sim (gx X) w H M → Rep (gx X) w v d → ty M d → tyV X.K T v H) (ho : CE X o A)
    (hbase : attributeBase o name X.env (eval o X.env) = eval o X.env := by rfl) (hline : (apos.endLine == cpos.line) = true := by rfl) :
    CE X (.Call (.Attribute o name apos) [] [] cpos) (dBM ty f A aNil) :=
  pe_weak (pe_bm0 pa slot hty rMt_ok ho hbase hline) fun σ H Q ⟨w, δ, M, Qd, s, e, h, k⟩ => up1 s e h fun w1 v H1 d M1 l1 s1 r1 ⟨h1, q⟩ =>
    ⟨ht w1 H1 M1 v d s1 r1 h1, fun pins sh σ' u us I p1 p2 => hm d [] M1 Qd q pins sh σ' H1 w1 v [] u us Q I p1 p2 s1 r1 .nil (k.mono l1)⟩
end
/-! ### lists -/
@[simp] def tyLst (M : Sto) (d : D) : Prop := ∃ es, lstOf M d = some es
theorem tyLst_ok {X : Cx} (w : Wd) (H : Hp) (M : Sto) (v : V) (d : D) (s : Sim (gx X) w H M) (r : Rep (gx X) w v d) (h : tyLst M d) : tyV X.K "list" v H := by
  obtain ⟨es, h⟩ := h
  obtain ⟨a, vs, rfl, f, _⟩ := s.lst r h X.K
  exact .inl ⟨rfl, vs, f⟩
def fAppend : FM := fun d ds M Q => ∃ n xs y, d = .cell n ∧ ds = [y] ∧ M[n]? = some (.lst xs) ∧ xs.length < sizeLine ∧ Q .non (M.set n (.lst (xs ++ [y])))
def fExtend : FM := fun d ds M Q => ∃ n xs y ys, d = .cell n ∧ ds = [y] ∧ M[n]? = some (.lst xs) ∧ lsdOf M y = some ys ∧ xs.length + ys.length ≤ sizeLine ∧ Q .non (M.set n (.lst (xs ++ ys)))
def fPop : FM := fun d ds M Q => ∃ n xs y, d = .cell n ∧ ds = [] ∧ M[n]? = some (.lst (xs ++ [y])) ∧ Q y (M.set n (.lst xs))
section
variable {X : Cx}
theorem md_append : MtD X "list.append" fAppend := by
  rintro d ds M Qd ⟨n, xs, y, rfl, rfl, hm, hl, q⟩
  refine MtD.of mt_append fun w H v vs Q s r rs k => ?_
  obtain ⟨u, rfl, ru⟩ := reps1 rs
  cases r with
  | @cell _ a ha =>
    obtain ⟨hF, us, e1, g⟩ := s.cell n a _ ha hm
    exact ⟨a, us, u, rfl, rfl, e1, by rw [g.length]; exact hl, k w _ _ _ _ (Stp.write ha) (s.write (mo := .lst (xs ++ [y])) ha hF ⟨hF, _, upd_same, g.append (Reps.one ru)⟩) .non q⟩
theorem md_extend : MtD X "list.extend" fExtend := by
  rintro d ds M Qd ⟨n, xs, y, ys, rfl, rfl, hm, hy, hl, q⟩
  refine MtD.of mt_extend fun w H v vs Q s r rs k => ?_
  obtain ⟨u, rfl, ru⟩ := reps1 rs
  obtain ⟨b, zs, rfl, e2, g2⟩ := s.lsd ru hy
  cases r with
  | @cell _ a ha =>
    obtain ⟨hF, us, e1, g⟩ := s.cell n a _ ha hm
    exact ⟨a, b, us, zs, rfl, rfl, e1, e2, by rw [g.length, g2.length]; exact hl, k w _ _ _ _ (Stp.write ha) (s.write (mo := .lst (xs ++ ys)) ha hF ⟨hF, _, upd_same, g.append g2⟩) .non q⟩
theorem md_pop : MtD X "list.pop" fPop := by
  rintro d ds M Qd ⟨n, xs, y, rfl, rfl, hm, q⟩
  refine MtD.of mt_pop fun w H v vs Q s r rs k => ?_
  cases rs
  cases r with
  | @cell _ a ha =>
    obtain ⟨hF, us, e1, g⟩ := s.cell n a _ ha hm
    have hlen : us.length = xs.length + 1 := by rw [g.length]; simp
    obtain ⟨u, hu, ru⟩ := g.get (i := xs.length) (d := y) (by simp)
    refine ⟨a, us, u, rfl, rfl, e1, by rw [hlen]; exact hu, k w _ _ _ _ (Stp.write ha) (s.write (mo := .lst xs) ha hF ⟨hF, us.dropLast, upd_same, ?_⟩) ru q⟩
    have := g.take xs.length
    rw [List.take_left' rfl] at this
    rw [List.dropLast_eq_take, hlen]
    exact this
end

/-! ### isinstance -/
/-- a type: a built-in one, or a class of the module -/
inductive Tg where
  | ty (n : String) | cls (c : Str)
@[simp] def tagOf (M : Sto) : D → Option Tg
  | .non => some (.ty "NoneType") | .bl _ => some (.ty "bool") | .int _ => some (.ty "int") | .str _ => some (.ty "str")
  | .tup _ => some (.ty "tuple") | .lst _ => some (.ty "list") | .frz _ => none | .ob c _ => some (.cls c)
  | .cell n => match M[n]? with | some (.lst _) => some (.ty "list") | some (.ob c _) => some (.cls c) | some (.dK _) => some (.ty "dict") | some (.dT _) => some (.ty "dict") | _ => none
  | .ty _ => none | .cls _ => none
def Tg.val (mg : Str → Option Value) : Tg → Value → Prop
  | .ty n, u => u = .type n
  | .cls c, u => mg c = some u ∧ ∃ C, u = .ref C
/-- an own class whose instances isinstance may be asked of -/
structure OwnF (K : PySem.W.Frag) (mg : Str → Option Value) (c : Str) : Prop where
  ex : ∃ C, mg c = some (.ref C) ∧ Cls K C ∧ PySem.W.findIn K (.ref C) "__class__" = some (some (.builtin "object.__class__")) ∧
    PySem.W.specialIn K (.builtin "object.__class__") "__get__" = some (some (.builtin "getset_descriptor.__get__")) ∧ PySem.W.takesIn K (.builtin "object.__class__") = some true ∧ PySem.W.mroIn K C (.type "object") = some true
/-- what is known of one pair: an object of the type a is one of b, or is none -/
structure IsiF (K : PySem.W.Frag) (mg : Str → Option Value) (a b : Tg) (r : Bool) : Prop where
  own : ∀ c, a = .cls c → OwnF K mg c
  ans : ∃ T U, a.val mg T ∧ b.val mg U ∧ PySem.W.kitOne K T U = some r
def fIsi (tbl : List (Tg × Tg × Bool)) : FA := fun ds M Q => ∃ x c a b r, ds = [x, c] ∧ tagOf M x = some a ∧ ((∃ n, c = .ty n ∧ b = .ty n) ∨ ∃ n, c = .cls n ∧ b = .cls n) ∧ (a, b, r) ∈ tbl ∧ Q (.bl r) M
theorem tag_ok {G : Gx} {w : Wd} {H : Hp} {M : Sto} {v : V} {d : D} {a : Tg} {T : Value} (s : Sim G w H M) (r : Rep G w v d) (h : tagOf M d = some a) (ho : ∀ c, a = .cls c → OwnF G.K G.mg c) (hv : a.val G.mg T) : TyX G.K H v T := by
  have own : ∀ {p C dx : Addr} {vs : List (Str × V)} {c : Str}, H p = some (.ins C dx vs) → G.mg c = some (.ref C) → a = .cls c → TyX G.K H (.ref p) T := fun {p C dx vs c} e1 e2 ea => by
    subst ea
    obtain ⟨C', hC, cl, h1, h2, h3, h4⟩ := (ho c rfl).ex
    obtain ⟨hv1, _, _⟩ := hv
    have := e2.symm.trans hC
    cases this
    have := hv1.symm.trans hC
    cases this
    exact .base (.ins e1 cl h1 h2 h3 h4)
  cases r with
  | non => cases h; cases hv; exact .base .non
  | bl b => cases h; cases hv; exact .base (.bl b)
  | int b => cases h; cases hv; exact .base (.int b)
  | str b => cases h; cases hv; exact .base (.str b)
  | tup f g => cases h; cases hv; exact .base (.tup (s.same _ _ f))
  | lst f g => cases h; cases hv; exact .base (.lst (s.same _ _ f))
  | frz f g => cases h
  | ob f m g => cases h; exact own (s.same _ _ f) m rfl
  | ty n => cases h
  | cls m => cases h
  | @cell n p hp =>
    simp only [tagOf] at h
    split at h
    · rename_i e
      cases h; cases hv
      obtain ⟨_, vs, e1, _⟩ := s.cell n p _ hp e
      exact .base (.lst e1)
    · rename_i e
      cases h
      obtain ⟨_, C, dx, vs, e1, e2, _⟩ := s.cell n p _ hp e
      exact own e1 e2 rfl
    · rename_i e
      cases h; cases hv
      obtain ⟨_, vs, e1, _⟩ := s.cell n p _ hp e
      exact .base (.dK e1)
    · rename_i e
      cases h; cases hv
      obtain ⟨_, vs, e1, _⟩ := s.cell n p _ hp e
      exact .base (.dT e1)
    · cases h
section
variable {X : Cx} {pos : Pos}
theorem cal_isi {tbl : List (Tg × Tg × Bool)} (ht : ∀ a b r, (a, b, r) ∈ tbl → IsiF X.K X.mg a b r) : CalD X (.builtin "isinstance") (fIsi tbl) := by
  rintro ds M Qd ⟨x, c, a, b, r, rfl, h1, h2, h3, q⟩
  refine CalD.of call_isi fun w H vs Q s rs k => ?_
  obtain ⟨v, u, rfl, r1, r2⟩ := reps2 rs
  obtain ⟨own, T, U, hT, hU, hk⟩ := ht a b r h3
  have ty := tag_ok s r1 h1 own hT
  rcases h2 with ⟨n, rfl, rfl⟩ | ⟨n, rfl, rfl⟩
  · cases r2
    cases hU
    exact ⟨v, _, T, _, r, rfl, .ty n, ty, hk, k.here s (.bl _) q⟩
  · cases r2 with
    | cls hm =>
      obtain ⟨e, _⟩ := hU
      have := e.symm.trans hm
      cases this
      exact ⟨v, _, T, _, r, rfl, .own _, ty, hk, k.here s (.bl _) q⟩
theorem ce_ty {x : Str} {n : String} (hm : X.mg x = none) (hg : Gl X x := by rfl) (hv : bootBuiltins x = some (.type n) := by decide +kernel) (hn : x ≠ "__name__" := by decide) (hdb : (x == ("__debug__" : Str)) = false := by decide) : CE X (.Name x pos) (dC (.ty n)) :=
  pe_weak (pe_bltn (v := .ty n) hg hm hv rfl hn hdb) fun σ H Q ⟨w, δ, M, Qd, s, e, h, k⟩ => k.here s (.ty n) h
theorem ce_cls {x : Str} (hm : ∃ C, X.mg x = some (.ref C)) (hg : Gl X x := by rfl) (hdb : (x == ("__debug__" : Str)) = false := by decide) : CE X (.Name x pos) (dC (.cls x)) := by
  obtain ⟨C, hm⟩ := hm
  exact pe_weak (pe_glob (v := .ref C) hg hm rfl hdb) fun σ H Q ⟨w, δ, M, Qd, s, e, h, k⟩ => k.here s (.cls hm) h
end
end DL


set_option Elab.async false
set_option linter.all false
set_option autoImplicit false
set_option maxRecDepth 100000
set_option maxHeartbeats 6400000
namespace DL
open PySem PySem.Spec PyProof.Rows L2
/-! ### list.sort of tuples of ints, any ints -/
/-- the order of tuples of ints, as lists -/
abbrev ltL : List Int → List Int → Bool := HT.lexLt
theorem ltL_lex : ∀ a b : List Int, PyProof.Rows.lexLt itemOrd (a.map Sum.inl) (b.map Sum.inl) = ltL a b
  | [], [] => rfl
  | [], _ :: _ => rfl
  | _ :: _, [] => rfl
  | x :: a, y :: b => by
    rw [List.map_cons, List.map_cons, lex_cons, ltL_lex a b]
    show (decide (x < y) || (!decide (y < x) && ltL a b)) = (if x = y then ltL a b else decide (x < y))
    by_cases h : x = y
    · subst h
      simp
    · rw [if_neg h]
      by_cases h2 : x < y
      · simp [h2]
      · have h3 : y < x := by omega
        simp [h2, h3]
theorem items_inl {its : List Value} {ns : List Int} (h : IntsAre its ns) : ∀ i, tupItems (fun _ => false) i its = some (ns.map Sum.inl) := by
  induction h with
  | nil => intro i; rfl
  | cons k t _ ih =>
    intro i
    unfold tupItems
    rw [if_neg Bool.false_ne_true, ih (i + 1)]
    rfl
theorem key_ints {h : Heap} {v : Value} {ns : List Int} (x : TS.TupInts h v ns) : PyProof.Rows.G.tupKeyC h (fun _ => false) v = some (ns.map Sum.inl) := by
  obtain ⟨a, xs, rfl, ⟨o, ho, hc, n, hd⟩, hi⟩ := x
  unfold PyProof.Rows.G.tupKeyC
  have h1 : PyProof.Rows.G.isTupObj h (.ref a) = true := by
    simp [PyProof.Rows.G.isTupObj, ho, hc]
  rw [if_pos h1]
  simp only [tupKey, ho, hd]
  exact items_inl hi 0
theorem zip_self2 : ∀ vs : List Value, (vs.zip vs).map (·.2) = vs
  | [] => rfl
  | v :: vs => by rw [List.zip_cons_cons, List.map_cons, zip_self2 vs]
theorem inj_key {α β : Type} {f : α → β} : ∀ {L : List α}, (L.map f).Nodup → ∀ {q r : α}, q ∈ L → r ∈ L → f q = f r → q = r
  | [], _, _, _, h, _, _ => by cases h
  | x :: L, nd, q, r, hq, hr, e => by
    rw [List.map_cons, List.nodup_cons] at nd
    rcases List.mem_cons.mp hq with rfl | hq'
    · rcases List.mem_cons.mp hr with rfl | hr'
      · rfl
      · exact absurd (e ▸ List.mem_map.mpr ⟨r, hr', rfl⟩) nd.1
    · rcases List.mem_cons.mp hr with rfl | hr'
      · exact absurd (e ▸ List.mem_map.mpr ⟨q, hq', rfl⟩) nd.1
      · exact inj_key nd.2 hq' hr' e
/-- what the sort leaves: keys and values go together -/
theorem pair_self {vs : List Value} {ks : Array Keyed} (hp : ks.Perm (pairsOf vs)) : ∀ p ∈ ks.toList, p.1 = p.2 ∧ p.1 ∈ vs := fun p hm => by
  have hm' : p ∈ (pairsOf vs).toList := (Array.perm_iff_toList_perm.mp hp).mem_iff.mp hm
  rw [pairsOf_toList] at hm'
  exact mem_zip_self hm'
section
variable {prog : Program} {w : World} {A : Around} {E : Value → Shared → Prop} {s : Shared}
theorem sort_tupsI {a : Addr} {vs : List Value} {n : Nat} {P : Fin → Shared → Prop} (ho : s.heap.get? a = some (seqObj "list" vs.toArray n)) (x : ∀ v ∈ vs, ∃ ns, TS.TupInts s.heap v ns ∧ (2 ≤ vs.length → ns ≠ [])) (hL : vs.length ≤ sizeLine)
    (h : ∀ out : Array Value, out.toList.Perm vs → out.toList.Pairwise (fun u v => ltL (TS.intsOf s.heap v) (TS.intsOf s.heap u) = false) → P (.done (.ret .none)) { s with heap := sortedHeap s.heap a vs out }) :
    wpAny (model prog w) A (Builtin.«list.sort» ⟨[.ref a], []⟩) P E s := by
  have hk : ∀ v, v ∈ vs → ∃ l, PyProof.Rows.G.tupKeyC s.heap (fun _ => false) v = some l := fun v hv => by
    obtain ⟨ns, t, _⟩ := x v hv
    exact ⟨_, key_ints t⟩
  have k6 := PyProof.Rows.G.keeps_sort6 (vs := vs) ho
  refine PyProof.Rows.G.list_sort_treeG (κ := PyProof.Rows.G.tupKindC s.heap (fun _ => false)) (kd := tuples' true) ho (PyProof.Rows.G.tupKeys hk) (PyProof.Rows.G.tupC_ltAt (s := { s with heap := PyProof.Rows.G.sortHeap6 s.heap a vs }) true k6) (fun h2 Q hq => ?_) hL fun st hp hs _ => ?_
  · -- the first items
    have ex : ∀ us : List Value, (∀ v ∈ us, ∃ ns, TS.TupInts s.heap v ns ∧ ns ≠ []) → ∃ fs, TupsOf s.heap (fun _ => false) us fs ∧ fs.length = us.length := by
      intro us
      induction us with
      | nil => intro _; exact ⟨[], .nil, rfl⟩
      | cons v us ih =>
        intro hx
        obtain ⟨fs, t, hl⟩ := ih fun u hu => hx u (List.mem_cons_of_mem _ hu)
        obtain ⟨ns, ⟨b, xs, rfl, ⟨o, ho, hc, n, hd⟩, hi⟩, hne⟩ := hx v List.mem_cons_self
        cases ns with
        | nil => exact absurd rfl hne
        | cons k ns =>
          obtain ⟨xs⟩ := xs
          cases hi with
          | cons _ tk hi =>
            exact ⟨_ :: fs, .cons ⟨b, o, _, n, rfl, ho, hc, hd, rfl, fun _ => ⟨k, tk, rfl⟩, fun z => nomatch z⟩ t, by simp [hl]⟩
    obtain ⟨fs, t, hl⟩ := ex vs fun v hv => by
      obtain ⟨ns, t, hn⟩ := x v hv
      exact ⟨ns, t, hn h2⟩
    exact tup_kind (s := { s with heap := PyProof.Rows.G.sortHeap6 s.heap a vs }) (by rw [hl]; omega) (PyProof.Rows.G.TupsOf.keep k6 t) hq
  · have hpl := Array.perm_iff_toList_perm.mp hp
    have hsz : (arrOf st).size = vs.length := by
      have := hpl.length_eq
      simpa [pairsOf] using this
    refine h _ ?_ ?_
    · rw [Array.toList_map]
      have := hpl.map (·.2)
      rw [pairsOf_toList] at this
      rw [zip_self2] at this
      exact this
    · rw [Array.toList_map, List.pairwise_map, List.pairwise_iff_getElem]
      intro i j hi hj hij
      have hi' : i < (arrOf st).size := by simpa using hi
      have hj' : j < (arrOf st).size := by simpa using hj
      have hle := hs i j (Nat.le_of_lt hij) (by rw [pairsOf_size, ← hsz]; exact hj')
      have val : ∀ (m : Nat) (hm : m < (arrOf st).size), KK (PyProof.Rows.G.tupKindC s.heap (fun _ => false)) (arrOf st) m = (TS.intsOf s.heap (arrOf st)[m].2).map Sum.inl := fun m hm => by
        obtain ⟨e1, e2⟩ := pair_self hp (arrOf st)[m] (by simp)
        obtain ⟨ns, t, _⟩ := x _ e2
        unfold KK
        rw [getElem?_pos (arrOf st) m hm]
        show ((PyProof.Rows.G.tupKeyC s.heap (fun _ => false) (arrOf st)[m].1).getD []) = _
        rw [key_ints t, ← e1, t.ints]
        rfl
      have h2 : PyProof.Rows.lexLt itemOrd (KK (PyProof.Rows.G.tupKindC s.heap (fun _ => false)) (arrOf st) j) (KK (PyProof.Rows.G.tupKindC s.heap (fun _ => false)) (arrOf st) i) = false := hle
      rw [val i hi', val j hj', ltL_lex] at h2
      simpa using h2
end
section
variable {P : Program} {w : World} {A : Around} {E : Value → Shared → Prop} {s : Shared}
/-- every list of the set's addresses is a list of its members -/
theorem rows_of (L : List (Addr × List Int)) : ∀ vs : List Value, (∀ v ∈ vs, ∃ q ∈ L, v = Value.ref q.1) → ∃ L1 : List (Addr × List Int), vs = L1.map (fun q => Value.ref q.1) ∧ ∀ q ∈ L1, q ∈ L
  | [], _ => ⟨[], rfl, fun q hq => by cases hq⟩
  | v :: vs, hv => by
    obtain ⟨q, hq, e⟩ := hv v List.mem_cons_self
    obtain ⟨L1, e1, hs⟩ := rows_of L vs fun u hu => hv u (List.mem_cons_of_mem _ hu)
    exact ⟨q :: L1, by rw [List.map_cons, e, e1], fun r hr => (List.mem_cons.mp hr).elim (fun z => z ▸ hq) (hs r)⟩
theorem sorted_setTI {a : Addr} {L : List (Addr × List Int)} {es : Array (Int × Value)} {ep : Nat} {t : SetTable} {Q : Value → Shared → Prop} (R : SetTR P w s.heap a L es ep t) (hh : A.handled = none)
    (hne : 2 ≤ L.length → ∀ p ∈ L, p.2 ≠ [])
    (hQ : ∀ s' p (out : Array Value) (c : Nat) (L' : List (Addr × List Int)), (∀ b o, s.heap.get? b = some o → s'.heap.get? b = some o) → s'.gens = s.gens → s'.os = s.os → s.heap.objs.size ≤ p →
      s'.heap.get? p = some (seqObj "list" out c) → out.toList = L'.map (fun q => Value.ref q.1) → L'.length = L.length → (∀ q ∈ L', q ∈ L) → (∀ q ∈ L, ∃ r ∈ L', r.2 = q.2) → (L'.map (·.2)).Nodup → L'.Pairwise (fun q r => ltL r.2 q.2 = false) → Q (.ref p) s') :
    wpAny (model P w) A (call (.builtin "sorted") [.ref a]) Q E s := by
  obtain ⟨o, ho, hex, hd⟩ := R.ob
  have hsz := R.size
  have hfew := R.few
  refine Calls.call_function_entry kind_sorted plain_sorted entry_sorted (args_sorted1 _) ?_
  unfold Builtin.«sorted»
  refine wpAny_bind (m := checkCount "sorted" 1 1 _) (wpAny_pure ?_)
  refine wpAny_bind (collect_set (A := A.in1) hh ⟨o, ho, hex.1, hd⟩ R.fits (by unfold scanBound; omega) R.tab.ris R.led fun s1 vs k1 hz g1 o1 pm => ?_)
  have hes : es.toList.map (·.2) = L.map fun q => Value.ref q.1 := by
    rw [R.rows, rowsOf, List.map_map]
    rfl
  rw [hes] at pm
  have hvl : vs.length = L.length := by rw [pm.length_eq, List.length_map]
  refine wpAny_bind (wpAny_newList ?_ (by rw [sizeLine_eq]; omega))
  have hoL : (s1.heap.push (seqObj "list" vs.toArray 0)).get? s1.heap.objs.size = some (seqObj "list" vs.toArray 0) := Heap.get?_push_size _ rfl
  have tk : ∀ q ∈ L, TS.TupInts (s1.heap.push (seqObj "list" vs.toArray 0)) (.ref q.1) q.2 := fun q hq => tupInts_of (P := P) (w := w) (isT_keep (R.tup q hq) fun b u e => Heap.get?_push_of_some _ (k1 b u e))
  have mem : ∀ v ∈ vs, ∃ q ∈ L, v = Value.ref q.1 := fun v hv => by
    obtain ⟨q, hq, e⟩ := List.mem_map.mp (pm.mem_iff.mp hv)
    exact ⟨q, hq, e.symm⟩
  refine wpAny_bind (wpAny_holding (wpAny_call_entry slot_list_sort ⟨_, hoL, rfl⟩ entry_list_sort (sort_tupsI (s := { s1 with heap := s1.heap.push (seqObj "list" vs.toArray 0) }) hoL (fun v hv => ?_) (by rw [sizeLine_eq]; omega) fun out a1 a2 => ⟨_, rfl, ?_⟩) (args_list_sort _)))
  · obtain ⟨q, hq, rfl⟩ := mem v hv
    exact ⟨q.2, tk q hq, fun h2 => hne (by omega) q hq⟩
  · obtain ⟨c, hc⟩ := sortedHeap_at (vs := vs) (out := out) hoL
    obtain ⟨L', e', hs'⟩ := rows_of L out.toList fun v hv => mem v (a1.mem_iff.mp hv)
    refine wpAny_pure ⟨_, rfl, hQ _ s1.heap.objs.size out c L' (fun b u e => ?_) g1 o1 hz hc e' ?_ hs' (fun q hq => ?_) ?_ ?_⟩
    · have q := k1 b u e
      have hlt := Heap.lt_size q
      show (sortedHeap (s1.heap.push (seqObj "list" vs.toArray 0)) s1.heap.objs.size vs out).get? b = some u
      rw [sortedHeap_old (Nat.ne_of_lt hlt) (by rw [size_push']; exact Nat.lt_succ_of_lt hlt)]
      exact Heap.get?_push_of_some _ q
    · have := congrArg List.length e'
      rw [a1.length_eq, List.length_map, hvl] at this
      exact this.symm
    · have hm : Value.ref q.1 ∈ out.toList := a1.mem_iff.mpr (pm.mem_iff.mpr (List.mem_map.mpr ⟨q, hq, rfl⟩))
      rw [e'] at hm
      obtain ⟨r, hr, er⟩ := List.mem_map.mp hm
      injection er with er
      have h1 := R.tup r (hs' r hr)
      have h2 := R.tup q hq
      rw [er] at h1
      exact ⟨r, hr, h1.inj h2⟩
    · have pm2 : (L'.map fun q => Value.ref q.1).Perm (L.map fun q => Value.ref q.1) := by
        rw [← e']
        exact a1.trans pm
      have nref : (L.map fun q => Value.ref q.1).Nodup := by
        refine List.pairwise_map.mpr (List.Pairwise.imp_of_mem (fun {q r} hq hr hne e => hne ?_) (List.pairwise_map.mp R.nd))
        injection e with e
        have h1 := R.tup q hq
        rw [e] at h1
        exact h1.inj (R.tup r hr)
      refine List.pairwise_map.mpr (List.Pairwise.imp_of_mem (fun {q r} hq hr hne e => hne ?_) (List.pairwise_map.mp (pm2.nodup_iff.mpr nref)))
      rw [inj_key R.nd (hs' q hq) (hs' r hr) e]
    · rw [e'] at a2
      refine List.Pairwise.imp_of_mem (fun {q r} hq hr hle => ?_) (List.pairwise_map.mp a2)
      have f1 := (tk q (hs' q hq)).ints
      have f2 := (tk r (hs' r hr)).ints
      have hle' : ltL (TS.intsOf (s1.heap.push (seqObj "list" vs.toArray 0)) (.ref r.1)) (TS.intsOf (s1.heap.push (seqObj "list" vs.toArray 0)) (.ref q.1)) = false := hle
      rw [f1, f2] at hle'
      exact hle'
end
/-- sorted(set): tuples of any ints -/
def rSortedTI (K : PySem.W.Frag) (P : Program) (w : World) : List V → Hp → VK → Prop := fun vs H Q => ∃ (a : Addr) (L : List (Addr × List Int)), vs = [V.ref a] ∧ H a = some (SetTO P w a L) ∧ (∀ p ∈ L, SqT K H p.1 (p.2.map V.int)) ∧ (∀ p ∈ L, ∀ q ∈ L, p.2 ≠ q.2 → p.2 ≠ []) ∧
  ∀ (L' : List (Addr × List Int)) (p : Addr), L'.length = L.length → (L'.map (·.2)).Nodup → (∀ q ∈ L', q ∈ L) → (∀ q ∈ L, ∃ r ∈ L', r.2 = q.2) → L'.Pairwise (fun q r => ltL r.2 q.2 = false) → H p = none → Q (.ref p) (upd H p (.lst (L'.map fun q => V.ref q.1)))
theorem cr_sortedTI {X : Cx} (hc : X.calm = true) : CallR X (.builtin "sorted") (rSortedTI X.K X.prog X.w) := by
  intro pins s σ H vs us Q I r h
  obtain ⟨a, L, rfl, ha, hk, hne, q⟩ := h
  obtain ⟨es, ep, t, R⟩ := ((I.hok a _ ha).1 : SetT0 X.prog X.w s.heap a L).full fun p hp => I.isT (hk p hp)
  rw [Vals.ref1 r]
  refine sorted_setTI R (I.ok.hd hc) (fun h2 p hp => ?_) fun s' p out c L' k g o hp hg hout hl hs hal nd pw => ?_
  · have nd := R.nd
    cases L with
    | nil => cases hp
    | cons x L =>
      cases L with
      | nil => simp at h2
      | cons y L =>
        rw [List.map_cons, List.map_cons, List.nodup_cons] at nd
        have hxy : x.2 ≠ y.2 := fun e => nd.1 (by rw [e]; exact List.mem_cons_self)
        by_cases hpx : p.2 = x.2
        · rw [hpx]
          exact hne x List.mem_cons_self y (List.mem_cons_of_mem _ List.mem_cons_self) hxy
        · exact hne p hp x List.mem_cons_self hpx
  have hn : H p = none := I.hok.fresh hp
  have hlen : (L'.map fun q => V.ref q.1).length ≤ sizeLine := by
    have := R.few
    rw [List.length_map, sizeLine_eq]
    omega
  have e : s' = { s with heap := s'.heap, gens := s'.gens, drawn := s'.drawn, toks := s'.toks } := by
    obtain ⟨_, _, _, _, _⟩ := s'
    obtain ⟨_, _, _, _, _⟩ := s
    cases o
    rfl
  have J : Inv X pins σ (upd H p (.lst (L'.map fun q => V.ref q.1))) { s with heap := s'.heap, gens := s'.gens, drawn := s'.drawn, toks := s'.toks } :=
    I.call (ch := []) (Un.laid k hp hn) (I.hok.laid k hp ⟨hlen, out.toList, c, by rw [hout]; exact vals_of_refs L', hg⟩) (by rw [g]; exact I.bare) (fun _ z => nomatch z)
  rw [e]
  exact ⟨.ref p, _, J, rfl, q L' p hl nd hs hal pw hn⟩

/-! ### tuples in ascending order without repeats -/
theorem ltL_irrefl : ∀ a : List Int, ltL a a = false
  | [] => rfl
  | x :: a => by
    show (if x = x then ltL a a else decide (x < x)) = false
    rw [if_pos rfl, ltL_irrefl a]
theorem ltL_total : ∀ a b : List Int, ltL a b = false → ltL b a = false → a = b
  | [], [], _, _ => rfl
  | [], _ :: _, h, _ => nomatch h
  | _ :: _, [], _, h => nomatch h
  | x :: a, y :: b, h1, h2 => by
    have h1' : (if x = y then ltL a b else decide (x < y)) = false := h1
    have h2' : (if y = x then ltL b a else decide (y < x)) = false := h2
    by_cases e : x = y
    · subst e
      rw [if_pos rfl] at h1' h2'
      rw [ltL_total a b h1' h2']
    · rw [if_neg e, decide_eq_false_iff_not] at h1'
      rw [if_neg (Ne.symm e), decide_eq_false_iff_not] at h2'
      omega
theorem ltL_trans : ∀ a b c : List Int, ltL a b = true → ltL b c = true → ltL a c = true
  | [], [], _, h, _ => nomatch h
  | _ :: _, [], _, h, _ => nomatch h
  | [], _ :: _, [], _, h => nomatch h
  | _ :: _, _ :: _, [], _, h => nomatch h
  | [], _ :: _, _ :: _, _, _ => rfl
  | x :: a, y :: b, z :: c, h1, h2 => by
    have h1' : (if x = y then ltL a b else decide (x < y)) = true := h1
    have h2' : (if y = z then ltL b c else decide (y < z)) = true := h2
    show (if x = z then ltL a c else decide (x < z)) = true
    by_cases e : x = y
    · subst e
      rw [if_pos rfl] at h1'
      by_cases e2 : x = z
      · subst e2
        rw [if_pos rfl] at h2' ⊢
        exact ltL_trans a b c h1' h2'
      · rw [if_neg e2] at h2' ⊢
        exact h2'
    · rw [if_neg e, decide_eq_true_eq] at h1'
      by_cases e2 : y = z
      · subst e2
        rw [if_neg (by omega)]
        simpa using h1'
      · rw [if_neg e2, decide_eq_true_eq] at h2'
        rw [if_neg (by omega)]
        simp
        omega
theorem ltL_asymm {a b : List Int} (h : ltL a b = true) : ltL b a = false := by
  cases e : ltL b a with
  | false => rfl
  | true =>
    have := ltL_trans a b a h e
    rw [ltL_irrefl] at this
    cases this
def insT (x : List Int) : List (List Int) → List (List Int)
  | [] => [x]
  | y :: r => if ltL x y = true then x :: y :: r else if x = y then y :: r else y :: insT x r
def tset (ns : List (List Int)) : List (List Int) := ns.foldr insT []
theorem mem_insT (x k : List Int) : ∀ l, k ∈ insT x l ↔ k = x ∨ k ∈ l
  | [] => by simp [insT]
  | y :: r => by
    unfold insT
    split
    · simp
    · split
      · rename_i h
        subst h
        simp
      · simp only [List.mem_cons, mem_insT x k r]
        constructor
        · rintro (h | h | h) <;> simp [h]
        · rintro (h | h | h) <;> simp [h]
theorem mem_tset (k : List Int) : ∀ ns, k ∈ tset ns ↔ k ∈ ns
  | [] => by simp [tset]
  | x :: r => by
    show k ∈ insT x (tset r) ↔ _
    rw [mem_insT, mem_tset k r, List.mem_cons]
abbrev AscT (l : List (List Int)) : Prop := l.Pairwise fun a b => ltL a b = true
theorem insT_pw (x : List Int) : ∀ {l : List (List Int)}, AscT l → AscT (insT x l)
  | [], _ => by simp [insT, AscT]
  | y :: r, h => by
    have hp := List.pairwise_cons.mp h
    unfold insT
    split
    · rename_i hxy
      refine List.pairwise_cons.mpr ⟨fun z hz => ?_, h⟩
      rcases List.mem_cons.mp hz with e | e
      · rw [e]
        exact hxy
      · exact ltL_trans _ _ _ hxy (hp.1 z e)
    · split
      · exact h
      · rename_i h1 h2
        refine List.pairwise_cons.mpr ⟨fun z hz => ?_, insT_pw x hp.2⟩
        rcases (mem_insT x z r).mp hz with e | e
        · subst e
          cases hyz : ltL y z with
          | true => rfl
          | false => exact absurd (ltL_total z y (by simpa using h1) hyz) h2
        · exact hp.1 z e
theorem tset_pw : ∀ ns, AscT (tset ns)
  | [] => List.Pairwise.nil
  | x :: r => insT_pw x (tset_pw r)
theorem ascT_ext : ∀ {a b : List (List Int)}, AscT a → AscT b → (∀ k, k ∈ a ↔ k ∈ b) → a = b
  | [], [], _, _, _ => rfl
  | [], y :: b, _, _, h => absurd ((h y).mpr List.mem_cons_self) (by simp)
  | x :: a, [], _, _, h => absurd ((h x).mp List.mem_cons_self) (by simp)
  | x :: a, y :: b, ha, hb, h => by
    have pa := List.pairwise_cons.mp ha
    have pb := List.pairwise_cons.mp hb
    have hxy : x = y := by
      rcases List.mem_cons.mp ((h x).mp List.mem_cons_self) with e | e
      · exact e
      · rcases List.mem_cons.mp ((h y).mpr List.mem_cons_self) with f | f
        · exact f.symm
        · have h1 := pb.1 x e
          have h2 := pa.1 y f
          rw [ltL_asymm h1] at h2
          cases h2
    subst hxy
    rw [ascT_ext pa.2 pb.2 fun k => ?_]
    have no : ∀ {l : List (List Int)}, (∀ z ∈ l, ltL x z = true) → k ∈ l → k ≠ x := fun {l} hl hk e => by
      subst e
      have := hl k hk
      rw [ltL_irrefl] at this
      cases this
    constructor
    · intro hk
      exact (List.mem_cons.mp ((h k).mp (List.mem_cons_of_mem _ hk))).resolve_left (no pa.1 hk)
    · intro hk
      exact (List.mem_cons.mp ((h k).mpr (List.mem_cons_of_mem _ hk))).resolve_left (no pb.1 hk)
theorem tset_id {ns : List (List Int)} (h : AscT ns) : tset ns = ns := ascT_ext (tset_pw ns) h fun k => mem_tset k ns
/-- a tuple of ints as data -/
abbrev tupI (ns : List Int) : D := .tup (ns.map D.int)
/-- sorted(set(e)) of tuples of ints -/
def dSSetT (A : WE) : WE := fun δ M Q => A δ M fun d M1 => ∃ rs : List (List Int), lstOf M1 d = some (rs.map tupI) ∧ rs.length < 64 ∧ (∀ r ∈ rs, ∀ r' ∈ rs, r ≠ r' → r ≠ []) ∧ Q (.lst ((tset rs).map tupI)) M1
theorem reps_tups {G : Gx} {w : Wd} : ∀ {vs : List V} {rs : List (List Int)}, Reps G w vs (rs.map tupI) → ∃ ks : List (Addr × List Int), vs = ks.map (fun p => V.ref p.1) ∧ ks.map (·.2) = rs ∧ ∀ p ∈ ks, w.F p.1 = some (.tup (p.2.map V.int))
  | _, [], .nil => ⟨[], rfl, rfl, fun p hp => by cases hp⟩
  | _, r :: rs, .cons q t => by
    obtain ⟨ks, e1, e2, e3⟩ := reps_tups t
    cases q with
    | @tup a us _ f g =>
      have := g.int
      subst this
      exact ⟨(a, r) :: ks, by rw [List.map_cons, e1], by rw [List.map_cons, e2], fun p hp => (List.mem_cons.mp hp).elim (fun z => by rw [z]; exact f) (e3 p)⟩
theorem reps_back {G : Gx} {w : Wd} : ∀ (ks : List (Addr × List Int)), (∀ p ∈ ks, w.F p.1 = some (.tup (p.2.map V.int))) → Reps G w (ks.map fun p => V.ref p.1) ((ks.map (·.2)).map tupI)
  | [], _ => .nil
  | p :: ks, h => .cons (.tup (h p List.mem_cons_self) (Reps.ofInts _)) (reps_back ks fun q hq => h q (List.mem_cons_of_mem _ hq))
theorem ce_ssetT {X : Cx} {e : Expr} {A : WE} {p p2 pos pos2 : Pos} (hm : X.mg "sorted" = none) (hm2 : X.mg "set" = none) (hu : X.A.units + 65 < cLine) (h : CE X e A) (hc : X.calm = true := by rfl) (hg : Gl X "sorted" := by rfl) (hg2 : Gl X "set" := by rfl)
    (hs : starEach [e] X.env = (false, eval e X.env) :: starEach [] X.env := by rfl)
    (hs2 : starEach [.Call (.Name "set" p2) [e] [] pos2] X.env = (false, eval (.Call (.Name "set" p2) [e] [] pos2) X.env) :: starEach [] X.env := by rfl) :
    CE X (.Call (.Name "sorted" p) [.Call (.Name "set" p2) [e] [] pos2] [] pos) (dSSetT A) :=
  pe_weak (pe_callB (cr_sortedTI hc) hg hm (by decide +kernel) (pa_cons (pe_callTy (cr_setOfT hc (by omega)) hg2 hm2 (by decide +kernel) (pa_cons h pa_nil hs) (by decide) (by decide) hs rfl) pa_nil hs2) (by decide) (by decide) hs2 rfl) fun σ H Q ⟨w, δ, M, Qd, s, e, h, k⟩ =>
    up1 s e h fun w1 v H1 d M1 l1 s1 r1 ⟨rs, e1, hl, hne, q⟩ => by
      obtain ⟨a, vs, rfl, f1, g1⟩ := s1.lst r1 e1 X.K
      obtain ⟨ks, rfl, rfl, hF⟩ := reps_tups g1
      refine ⟨a, ks, rfl, f1, fun p hp => .inl (.inl (s1.same _ _ (hF p hp))), by simpa using hl, fun b L hb hsub hall => ?_⟩
      refine ⟨b, L, rfl, upd_same, fun p hp => .inl (.inl ?_), fun p hp q' hq' hd => ?_, fun L' p2 hlen nd hs hal pw hp2 => ?_⟩
      · rw [upd_ne (ne_of_none (s1.same _ _ (hF p (hsub p hp))) hb)]
        exact s1.same _ _ (hF p (hsub p hp))
      · exact hne p.2 (List.mem_map.mpr ⟨p, hsub p hp, rfl⟩) q'.2 (List.mem_map.mpr ⟨q', hsub q' hq', rfl⟩) hd
      · have e2 : L'.map (·.2) = tset (ks.map (·.2)) := ascT_ext (List.pairwise_map.mpr (List.Pairwise.imp_of_mem (fun {q r} hq hr ⟨h1, h2⟩ => by
            cases e3 : ltL q.2 r.2 with
            | true => rfl
            | false => exact absurd (ltL_total _ _ e3 h1) h2) (pw.and (List.pairwise_map.mp nd)))) (tset_pw _) fun k => by
          rw [mem_tset]
          constructor
          · intro hk
            obtain ⟨q, hq, rfl⟩ := List.mem_map.mp hk
            exact List.mem_map.mpr ⟨q, hsub q (hs q hq), rfl⟩
          · intro hk
            obtain ⟨q, hq, rfl⟩ := List.mem_map.mp hk
            obtain ⟨r, hr, er⟩ := List.mem_map.mp (hall q hq)
            obtain ⟨r', hr', er'⟩ := hal r hr
            exact List.mem_map.mpr ⟨r', hr', er'.trans er⟩
        rw [← e2] at q
        exact (k.mono (l1.trans (Stp.side hb))).newLst (s1.side hb) (reps_back L' fun p hp => hF p (hsub p (hs p hp))) hp2 q
end DL


set_option Elab.async false
set_option linter.all false
set_option autoImplicit false
set_option maxRecDepth 100000
set_option maxHeartbeats 4000000
namespace DL
open PySem PySem.Spec PyProof.Rows L2

theorem u65 {k : Nat} {A : Around} (r : Room k A) : A.units + 65 < cLine := by
  have := r.un
  omega
theorem all1 {α : Type} {P : α → Prop} {a : α} (h : P a) : ∀ c ∈ [a], P c := fun c hc => by
  rw [List.mem_singleton.mp hc]
  exact h
theorem all2 {α : Type} {P : α → Prop} {a b : α} (h : P a) (h2 : P b) : ∀ c ∈ [a, b], P c := fun c hc => (List.mem_cons.mp hc).elim (fun e => e ▸ h) (all1 h2 c)
theorem all3 {α : Type} {P : α → Prop} {a b d : α} (h : P a) (h2 : P b) (h3 : P d) : ∀ c ∈ [a, b, d], P c := fun c hc => (List.mem_cons.mp hc).elim (fun e => e ▸ h) (all2 h2 h3 c)
theorem all4 {α : Type} {P : α → Prop} {a b d e : α} (h : P a) (h2 : P b) (h3 : P d) (h4 : P e) : ∀ c ∈ [a, b, d, e], P c := fun c hc => (List.mem_cons.mp hc).elim (fun e => e ▸ h) (all3 h2 h3 h4 c)
section
variable {X : Cx} {pos apos cpos : Pos} {o e : Expr} {A B : WE}
/-- a module's text -/
theorem ce_gs {x y : Str} (h : ∃ t, X.mg x = some (.str y t)) (hg : Gl X x := by rfl) (hd : (x == ("__debug__" : Str)) = false := by decide) : CE X (.Name x pos) (dC (.str y)) := by
  obtain ⟨t, h⟩ := h
  exact ce_gstr h hg hd

/-! ### texts -/
def dJoin (A B : WE) : WE := fun δ M Q => A δ M fun x M1 => ∃ a : Str, x = .str a ∧ B δ M1 fun y M2 => ∃ ys : List Str, seqOf M2 y = some (ys.map D.str) ∧ (ys.map (·.length)).sum + ys.length * a.length ≤ 16777216 ∧ Q (.str (Txt.join a ys)) M2
def dSplit (A B : WE) : WE := fun δ M Q => A δ M fun x M1 => ∃ a : Str, x = .str a ∧ B δ M1 fun y M2 => ∃ b : Str, y = .str b ∧ (b.length == 0) = false ∧ a.length + 2 ≤ sizeLine ∧ Q (.lst ((Txt.split a b).map D.str)) M2
def dStartswith (A B : WE) : WE := fun δ M Q => A δ M fun x M1 => ∃ a : Str, x = .str a ∧ B δ M1 fun y M2 => ∃ b : Str, y = .str b ∧ Q (.bl (Txt.startswith a b)) M2
theorem ce_join (ha : CE X o A) (hb : CE X e B) (hs : starEach [e] X.env = [(false, eval e X.env)] := by rfl) (hbase : attributeBase o "join" X.env (eval o X.env) = eval o X.env := by rfl) (hline : (apos.endLine == cpos.line) = true := by rfl) :
    CE X (.Call (.Attribute o "join" apos) [e] [] cpos) (dJoin A B) :=
  pe_weak (pe_join ha hb hs hbase hline) fun σ H Q ⟨w, δ, M, Qd, s, e, h, k⟩ => up1 s e h fun w1 v H1 d M1 l1 s1 r1 ⟨a, ed, q⟩ => by
    subst ed
    cases r1
    refine ⟨⟨a, rfl⟩, up1 s1 (e.mono l1.le) q fun w2 u H2 d2 M2 l2 s2 r2 ⟨ys, h1, h2, q2⟩ => ?_⟩
    obtain ⟨p, us, rfl, f, g⟩ := s2.seq r2 h1 X.K
    have := g.strs
    subst this
    exact ⟨a, p, ys, rfl, rfl, f, h2, (k.mono (l1.trans l2)).here s2 (.str _) q2⟩
theorem ce_split (ha : CE X o A) (hb : CE X e B) (hs : starEach [e] X.env = [(false, eval e X.env)] := by rfl) (hbase : attributeBase o "split" X.env (eval o X.env) = eval o X.env := by rfl) (hline : (apos.endLine == cpos.line) = true := by rfl) :
    CE X (.Call (.Attribute o "split" apos) [e] [] cpos) (dSplit A B) :=
  pe_weak (pe_split ha hb hs hbase hline) fun σ H Q ⟨w, δ, M, Qd, s, e, h, k⟩ => up1 s e h fun w1 v H1 d M1 l1 s1 r1 ⟨a, ed, q⟩ => by
    subst ed
    cases r1
    refine ⟨⟨a, rfl⟩, up1 s1 (e.mono l1.le) q fun w2 u H2 d2 M2 l2 s2 r2 ⟨b, eb, h1, h2, q2⟩ => ?_⟩
    subst eb
    cases r2
    exact ⟨a, b, rfl, rfl, h1, h2, fun p hp => (k.mono (l1.trans l2)).newLst s2 (Reps.ofStrs _) hp q2⟩
theorem ce_startswith (ha : CE X o A) (hb : CE X e B) (hs : starEach [e] X.env = [(false, eval e X.env)] := by rfl) (hbase : attributeBase o "startswith" X.env (eval o X.env) = eval o X.env := by rfl) (hline : (apos.endLine == cpos.line) = true := by rfl) :
    CE X (.Call (.Attribute o "startswith" apos) [e] [] cpos) (dStartswith A B) :=
  pe_weak (pe_m1 PySem.F.slot_str_startswith PySem.F.type_str_startswith mt_startswith ha hb hs hbase hline) fun σ H Q ⟨w, δ, M, Qd, s, e, h, k⟩ => up1 s e h fun w1 v H1 d M1 l1 s1 r1 ⟨a, ed, q⟩ => by
    subst ed
    cases r1
    refine ⟨⟨a, rfl⟩, up1 s1 (e.mono l1.le) q fun w2 u H2 d2 M2 l2 s2 r2 ⟨b, eb, q2⟩ => ?_⟩
    subst eb
    cases r2
    exact ⟨a, b, rfl, rfl, (k.mono (l1.trans l2)).here s2 (.bl _) q2⟩
/-- int(text) -/
def fIntS : FA := fun ds M Q => ∃ (a : Str) (n : Int), ds = [.str a] ∧ PySem.intText? a = some n ∧ a.length ≤ 640 ∧ Q (.int n) M
theorem cal_intS : CalD X (.type "int") fIntS := by
  rintro ds M Qd ⟨a, n, rfl, h1, h2, q⟩
  refine CalD.of call_int_str fun w H vs Q s rr k => ?_
  obtain ⟨v, rfl, r⟩ := reps1 rr
  cases r
  exact ⟨a, n, rfl, h1, h2, k.here s (.int _) q⟩
/-- one sign in a text -/
def fInS : F2 := fun x y M Q => ∃ (c : Nat) (z : Str), x = .str ⟨#[c]⟩ ∧ y = .str z ∧ Q (.bl (decide (c ∈ z.cps.toList))) M
theorem od_inS : OpD X (compareOp .In) fInS := by
  rintro d1 d2 M Qd ⟨c, z, rfl, rfl, q⟩
  refine OpD.of op_in_sign fun w H v1 v2 Q s r1 r2 k => ?_
  cases r1; cases r2
  exact ⟨c, z, rfl, rfl, k.here s (.bl _) q⟩
theorem ce_inS {a b : Expr} (ha : CE X a A) (hb : CE X b B) (hm : behindInMarks .In b = false := by with_unfolding_all rfl) : CE X (.Compare a [.In] [b] pos) (dOp fInS A B) := ce_cmp od_inS ha hb hm
/-- tuples of ints in order -/
def fLtT : F2 := fun x y M Q => ∃ a b : List Int, x = tupI a ∧ y = tupI b ∧ Q (.bl (ltL a b)) M
theorem od_ltT (hu : X.A.units < cLine) : OpD X (compareOp .Lt) fLtT := by
  rintro d1 d2 M Qd ⟨a, b, rfl, rfl, q⟩
  refine OpD.of (op_ltT hu) fun w H v1 v2 Q s r1 r2 k => ?_
  cases r1 with
  | @tup p vs _ f g =>
  cases r2 with
  | @tup p2 vs2 _ f2 g2 =>
    have := g.int
    subst this
    have := g2.int
    subst this
    exact ⟨p, p2, a, b, rfl, rfl, .inl (.inl (s.same _ _ f)), .inl (.inl (s.same _ _ f2)), k.here s (.bl _) q⟩
/-- walked sign by sign -/
def dItC (A : WE) : WI := fun δ M Q => A δ M fun d M1 => ∃ x : Str, d = .str x ∧ Q ⟨x.cps.toList.map fun c => D.str ⟨#[c]⟩, fun _ => True⟩ M1
theorem ci_str {tg : Expr} (h : CE X e A) : CI X tg e (dItC A) := pi_weak (pi_str h) fun σ H Q ⟨w, δ, M, Qd, s, e, h, k⟩ => up1 s e h fun w1 v H1 d M1 l1 s1 r1 ⟨x, ed, q⟩ => by
  subst ed
  cases r1
  refine ⟨x, rfl, k w1 _ H1 _ M1 l1 s1 (fun w' H' M' l s _ => ⟨fun i d hd => ?_, ?_⟩) q⟩
  · rw [List.getElem?_map, Array.getElem?_toList] at hd
    cases hc : x.cps[i]? with
    | none =>
      rw [hc] at hd
      cases hd
    | some c =>
      rw [hc] at hd
      cases hd
      refine ⟨(Array.getElem?_eq_some_iff.mp hc).1, fun y H'' hy => ?_⟩
      obtain ⟨rfl, c', hc', rfl⟩ := hy
      have := hc.symm.trans hc'
      cases this
      exact ⟨w', Stp.refl _ _, s, .str _⟩
  · show x.cps.size ≤ _
    simp

/-! ### o.f += e -/
def dAugF (cs : List Str) (f : Str) (A B : WE) : WS := fun E δ M => A δ M fun d M1 => ∃ n c fs i, d = .cell n ∧ M1[n]? = some (.ob c fs) ∧ c ∈ cs ∧ fs.lookup f = some (.int i) ∧ B δ M1 fun y M2 => ∃ j fs2, y = .int j ∧ M2[n]? = some (.ob c fs2) ∧ fs2.length < 1000 ∧ E.nx δ (M2.set n (.ob c (putD f (.int (i + j)) fs2)))
theorem cs_augF {cs : List Str} {f : Str} {tpos : Pos} (hf : ∀ c ∈ cs, FldF X.K X.mg c f) (ho : CE X o A) (hv : CE X e B) : CS X (.AugAssign (.Attribute o f tpos) .Add e pos) (dAugF cs f A B) :=
  ps_weak (ps_fldaug ho hv in_add) fun D σ H ⟨w, δ, M, E, s, e, h, k⟩ => up1 s e h fun w1 v H1 d M1 l1 s1 r1 ⟨n, c, fs, i, ed, hm, hc, hl, q⟩ => by
    subst ed
    obtain ⟨C, hC, cl, na⟩ := (hf c hc).ex
    cases r1 with
    | @cell _ a ha =>
      obtain ⟨hF, C', dx, vs, e1, e2, e3⟩ := s1.cell n a _ ha hm
      obtain rfl : C = C' := by
        have := hC.symm.trans e2
        cases this
        rfl
      obtain ⟨u, e4, r4⟩ := e3.look hl
      cases r4
      refine ⟨a, C, dx, vs, _, rfl, e1, cl, na, e4, up1 s1 (e.mono l1.le) q fun w2 u H2 d2 M2 l2 s2 r2 ⟨j, fs2, ej, hm2, hlen, q2⟩ => ?_⟩
      subst ej
      cases r2
      have ha2 := l2.le.io ha
      obtain ⟨hF2, C2, dx2, vs2, f1, f2, f3⟩ := s2.cell n a _ ha2 hm2
      obtain rfl : C = C2 := by
        have := hC.symm.trans f2
        cases this
        rfl
      have l := (l1.trans l2).trans (Stp.write (o := .ins C dx2 (putF f (.int (i + j)) vs2)) (H := H2) ha2)
      exact ⟨i, j, rfl, rfl, dx2, vs2, f1, by rw [f3.length]; exact hlen, k.nx w2 σ _ δ _ l (s2.write (mo := .ob c (putD f (.int (i + j)) fs2)) ha2 hF2 ⟨hF2, C, dx2, _, upd_same, f2, RepF.put (.int _) f3⟩) (e.mono l.le) q2⟩

/-! ### == by the text's own __eq__ -/
structure NotF (K : PySem.W.Frag) (mg : Str → Option Value) (c c' : Str) : Prop where
  ex : ∃ C C', mg c = some (.ref C) ∧ mg c' = some (.ref C') ∧ PySem.W.notFirst K C (.ref C') = true
/-- the left side is of the class c, the right one of a class of cs -/
def fOwn (c : Str) (cs : List Str) (φ : Fn) : F2 := fun x y M Q => ∃ fs c' gs, obOf M x = some (c, fs) ∧ obOf M y = some (c', gs) ∧ c' ∈ cs ∧ φ [x, y] M Q
theorem od_own {k : Nat} {c : Str} {cs : List Str} {φ : Fn} (F : CalM X.prog X.w X.K X.mg X.base k c "__eq__" 2 φ) (hr : Room k X.A) (hn : ∀ c' ∈ cs, NotF X.K X.mg c c') : OpD X (compareOp .Eq) (fOwn c cs φ) := by
  rintro d1 d2 M Qd ⟨fs, c', gs, h1, h2, h3, q⟩
  intro pins s σ H w v1 v2 u1 u2 Q I p1 p2 sm r1 r2 kq
  obtain ⟨C, f, fd, ps, hC, cl, hm, F, hb⟩ := F.ex
  obtain ⟨C0, C', hc0, hc', hnf⟩ := (hn c' h3).ex
  obtain rfl : C0 = C := by
    have := hc0.symm.trans hC
    cases this
    rfl
  obtain ⟨a, A1, dx, vs, rfl, e1, e2, _⟩ := sm.ob r1 h1
  obtain ⟨b, B1, dy, us, rfl, f1, f2, _⟩ := sm.ob r2 h2
  obtain rfl : C0 = A1 := by
    have := hC.symm.trans e2
    cases this
    rfl
  obtain rfl : C' = B1 := by
    have := hc'.symm.trans f2
    cases this
    rfl
  cases p1
  cases p2
  obtain ⟨mA, J, _⟩ := ins_get I.hok e1
  obtain ⟨mB, J', _⟩ := ins_get I.hok f1
  obtain ⟨od, J, _⟩ := J.look
  obtain ⟨od', J', _⟩ := J'.look
  obtain ⟨m, hF⟩ := I.fr
  show wpAny (model X.prog X.w) X.A (richCompare .Eq (.ref a) (.ref b)) (EP X pins σ Q) X.xe s
  refine PySem.W.cmp_K (op := .Eq) (tb := .ref C') hr.units0 hF I.ok.mod.kin J J'.type hnf hm.at_ hm.fn ?_
  have hrun := run_fn (E := E0) (Q := Q) (us := [.ref a, .ref b]) (vs := [.ref a, .ref b]) F hr hb .nil pass0 I (.cons rfl (.cons rfl .nil)) ⟨rfl, w, [d1, d2], M, Qd, sm, .cons r1 (.cons r2 .nil), q, kq⟩
  refine wpAny_mono hrun (fun u s' hq => ?_) fun _ _ x => x
  obtain ⟨v, H', I', rv, qv⟩ := hq
  have fin : EP X pins σ Q u s' := ⟨v, H', I', rv, qv⟩
  cases v with
  | non => cases rv; exact fin
  | bl _ => cases rv; exact fin
  | int _ => obtain ⟨t, rfl⟩ := rv; exact fin
  | str _ => obtain ⟨t, rfl⟩ := rv; exact fin
  | byt _ => obtain ⟨t, rfl⟩ := rv; exact fin
  | flt _ => obtain ⟨t, rfl⟩ := rv; exact fin
  | ref _ => cases rv; exact fin
  | ty _ => cases rv; exact fin
end
end DL


set_option Elab.async false
set_option linter.all false
set_option autoImplicit false
set_option maxRecDepth 100000
set_option maxHeartbeats 4000000
namespace DL
open PySem PySem.Spec PyProof.Rows L2
/-- the end of a law over data -/
theorem walkD {l : PySem.W.OpenLaw} {k : Nat} {q : Program} {loose : List Str} {XP : (Str → Option Value) → Heap → Prop} {YP : World → Heap → Prop} {d : DefRec} {K : Params → PySem.W.Frag} {x : Str} {φ : Fn}
    (hn : l.most = some 63) (hdf : d.params.defaults = []) (hr : Room k callerA) (hY : ∀ (w : World) (h : Heap), YP w h → (K w.params).In h)
    (F : ∀ (w : World) (mg : Str → Option Value) (fa : Addr) (h : Heap), (K w.params).In h → h.Ns mainGlobals mg → mg d.name = some (.ref fa) →
      ∃ fd : FuncData, (∀ (s : Shared) (u : Value), BindsTo s fd ⟨[u], []⟩ [(x, u)]) ∧ ∀ base : Heap, (K w.params).In base → base.Ns mainGlobals mg → FnOk l.prog w (K w.params) mg base CX0 k fa fd [x] (spD ⟨K w.params, mg⟩ 1 φ))
    (law : ∀ ns : List Int, ns.length ≤ 63 → φ [.frz (ns.map D.int)] [] fun r _ => r = .bl true) :
    PySem.W.WalkO q loose XP YP l.row.toRowW d [] (fun f vs => PySem.call f vs) := by
  refine Att.attach_call hn hdf fun w s₀ s₁ mg mb fa o pm cd doc a vs ns G Y ho hd hcd hmg hobj hints hlen hg => ?_
  have KX := hY w _ Y
  obtain ⟨fd, hb, hF⟩ := F w mg fa _ KX G.T.g hmg
  refine law_call KX G.T.g G.T.b G.T.builtins G.T.nolimit hg hobj hints (Nat.le_trans hlen (by decide)) hr hF hb (fun H hO hS => ?_) fun H e s' h => h
  refine ⟨rfl, ⟨H, []⟩, [.frz (ns.map D.int)], [], fun r _ => r = .bl true, ⟨Same.refl _, rfl, fun n a mo e => by simp at e, List.nodup_nil, fun a ha => by cases ha⟩, .cons (.frz hS (Reps.ofInts ns)) .nil, law ns hlen, fun w' v H' d M' _ _ r hd => ?_⟩
  subst hd
  cases r
  rfl
end DL


set_option Elab.async false
set_option linter.all false
set_option autoImplicit false
set_option maxRecDepth 100000
set_option maxHeartbeats 4000000
namespace DL
open PySem PySem.Spec PyProof.Rows L2 HT
/-! ### t[::-1] of a tuple -/
section
variable {prog : Program} {w : World} {A : Around} {E : Value → Shared → Prop} {s : Shared}
theorem adjust_rev (n : Nat) : Builtin.Slice.sliceAdjust none none (-1) (n : Int) = ((n : Int) - 1, -1) := rfl
theorem places_rev (n : Nat) : Builtin.Slice.slicePlaces ((n : Int) - 1) (-1) (-1) = n := by
  unfold Builtin.Slice.slicePlaces
  have h1 : ¬ ((-1 : Int) > 0) := by decide
  simp only [h1, if_false]
  have e : (-(-1) : Int) = 1 := by decide
  rw [e, Int.ediv_one]
  split <;> omega
theorem sliceApplied_rev {sl : Addr} {vs : Value} {n : Nat} {Q : Int × Int × Nat → Shared → Prop} (hs : s.heap.IsSliceOf sl .none .none vs) (ps : IsPart vs (some (-1)))
    (h : Q ((n : Int) - 1, -1, n) s) : wpAny (model prog w) A (Builtin.Slice.sliceApplied (.ref sl) (pure (n : Int))) Q E s := by
  obtain ⟨os, hos, hcs, hds⟩ := id hs
  unfold Builtin.Slice.sliceApplied Builtin.Slice.sliceFields
  refine wpAny_bind (wpAny_bind (wpAny_field hos hds (x := .none) rfl (wpAny_bind (wpAny_field hos hds (x := .none) rfl (wpAny_bind (wpAny_field hos hds (x := vs) rfl (wpAny_pure ?_)))))))
  refine wpAny_bind (slicePart_ ps ?_)
  show wpAny _ _ (if ((-1 : Int) == 0) = true then _ else _) _ _ s
  rw [if_neg (by decide)]
  refine wpAny_bind (slicePart_ .none (wpAny_bind (slicePart_ .none (wpAny_bind (wpAny_pure ?_)))))
  show wpAny _ _ (match Builtin.Slice.sliceAdjust none none (-1) (n : Int) with | (lo, hi) => pure (lo, (-1 : Int), Builtin.Slice.slicePlaces lo hi (-1))) _ _ s
  rw [adjust_rev n]
  show wpAny _ _ (pure ((n : Int) - 1, (-1 : Int), Builtin.Slice.slicePlaces ((n : Int) - 1) (-1) (-1))) _ _ s
  rw [places_rev]
  exact wpAny_pure h
theorem fm_congr {α β : Type} {f g : α → Option β} : ∀ (l : List α), (∀ a ∈ l, f a = g a) → l.filterMap f = l.filterMap g
  | [], _ => rfl
  | a :: l, h => by
    rw [List.filterMap_cons, List.filterMap_cons, h a List.mem_cons_self, fm_congr l fun b hb => h b (List.mem_cons_of_mem _ hb)]
theorem pick_rev (xs : List Value) : ((List.range xs.length).filterMap fun (k : Nat) => xs.toArray[((xs.length : Int) - 1 + (k : Int) * (-1)).toNat]?) = xs.reverse := by
  have e : ∀ k ∈ List.range xs.length, xs.toArray[((xs.length : Int) - 1 + (k : Int) * (-1)).toNat]? = xs.reverse[k]? := by
    intro k hk
    have hk := List.mem_range.mp hk
    have e1 : ((xs.length : Int) - 1 + (k : Int) * (-1)).toNat = xs.length - 1 - k := by omega
    rw [e1, List.getElem?_toArray, List.getElem?_reverse hk]
  rw [fm_congr _ e]
  have : ∀ ys : List Value, (List.range ys.length).filterMap (fun k => ys[k]?) = ys := by
    intro ys
    induction ys with
    | nil => rfl
    | cons y ys ih =>
      rw [List.length_cons, List.range_succ_eq_map, List.filterMap_cons]
      simp only [List.getElem?_cons_zero, List.filterMap_map]
      congr 1
  have h2 := this xs.reverse
  rw [List.length_reverse] at h2
  exact h2
theorem getItem_tuple_rev {t sl : Addr} {items : List Value} {vs : Value} {Q : Value → Shared → Prop} (ht : IsTup s.heap t items.toArray) (hs : s.heap.IsSliceOf sl .none .none vs) (ps : IsPart vs (some (-1)))
    (h : Q (.ref s.heap.objs.size) { s with heap := s.heap.push { cls := .type "tuple", data := .seq items.reverse.toArray } }) (hsz : items.length ≤ sizeLine) : wpAny (model prog w) A (getItem (.ref t) (.ref sl)) Q E s := by
  have htake : sizeOk (.seq items.reverse.toArray) := by
    show items.reverse.toArray.size ≤ sizeLine
    rw [List.size_toArray, List.length_reverse]
    exact hsz
  obtain ⟨os, hos, hcs, hds⟩ := id hs
  have hTs : s.TypeIs (.ref sl) "slice" := ⟨os, hos, hcs⟩
  unfold getItem
  try with_reducible refine wpAny_holding ?_
  first | refine wpAny_bind (wpAny_pure ?_) | skip
  refine wpAny_bind (wpAny_sequenceKey ht.typeIs (by decide) ?_)
  refine wpAny_bind (wpAny_callSpecial?_slot (name := Str.ofString "__getitem__") ht.typeIs PyProof.Rows.slot_tuple_getitem
    (wpAny_call_entry PyProof.Rows.slot_tuple_getitem ht.typeIs entry_tuple_getitem ?_ (args_tuple_getitem _ _)))
  show wpAny _ _ (Builtin.Tuple.tupleItemsOf (.ref t) >>= _) _ _ s
  refine wpAny_bind (tupleItemsOf_ ht ?_)
  refine wpAny_bind (wpAny_typeOf hTs ?_)
  rw [if_pos (by decide)]
  refine wpAny_bind (sliceApplied_rev hs ps ?_)
  have hno : ¬ ((((items.toArray.size : Int) - 1 == 0) && (-1 : Int) == 1 && (items.toArray.size == items.toArray.size)) = true) := by
    intro q
    rw [Bool.and_eq_true, Bool.and_eq_true] at q
    exact absurd q.1.2 (by decide)
  show wpAny _ _ (if (((items.toArray.size : Int) - 1 == 0) && (-1 : Int) == 1 && (items.toArray.size == items.toArray.size)) = true then _ else _) _ _ s
  rw [if_neg hno]
  have hp : ((List.range items.toArray.size).filterMap fun (k : Nat) => items.toArray[((items.toArray.size : Int) - 1 + (k : Int) * (-1)).toNat]?).toArray = items.reverse.toArray := by
    rw [List.size_toArray, pick_rev]
  rw [hp]
  first
    | exact wpAny_bind (m := Builtin.Tuple.tupleExact _) (wpAny_newObj_type (wpAny_pure ⟨_, rfl, wpAny_pure h⟩) htake)
    | exact wpAny_bind (m := Builtin.Tuple.tupleExact _) (wpAny_newObj_type (wpAny_bind (wpAny_pure (wpAny_pure ⟨_, rfl, wpAny_pure h⟩))) htake)
    | exact wpAny_bind (wpAny_bind (m := Builtin.Tuple.tupleExact _) (wpAny_newObj_type (wpAny_pure (wpAny_pure ⟨_, rfl, wpAny_pure h⟩)) htake))
    | exact wpAny_bind (wpAny_bind (m := Builtin.Tuple.tupleExact _) (wpAny_newObj_type (wpAny_pure ⟨_, rfl, wpAny_pure h⟩) htake))
end
def tRevT (K : PySem.W.Frag) (te : TE) : TE := fun σ H Q => te σ H fun x H1 => ∃ a xs, x = .ref a ∧ SqT K H1 a xs ∧ ∀ p, H1 p = none → Q (.ref p) (upd H1 p (.tup xs.reverse))
theorem pe_revT {X : Cx} {e : Expr} {te : TE} {k : Nat} {p1 p2 p3 pos : Pos} (he : PE X e te) : PE X (.Subscript e (.Slice none none (some (.UnaryOp .USub (.Constant (.int 1) k p1) p2)) p3) pos) (tRevT X.K te) := by
  refine ⟨fun pins s σ H Q I h => ?_⟩
  refine Subscript_ (thn (he.run pins s σ H _ I h) fun v s1 ⟨x, H1, I1, r1, q1⟩ => ?_)
  obtain ⟨a, xs, ex, hx, q⟩ := q1
  subst ex
  cases r1
  have hst : PO X (some (.UnaryOp .USub (.Constant (.int 1) k p1) p2)) (tPart (tUn (rU fun i => .int (-i)) (tC (.int 1)))) := po_some (pe_un un_neg pe_int)
  refine wpAny_Slice (thn (po_none.run pins s1 σ H1 (fun o H2 => o = none ∧ H2 = H1) I1 ⟨rfl, rfl⟩) fun vl s2 ⟨l, H2, I2, pl, el, e2⟩ => ?_)
  subst el e2
  refine thn (po_none.run pins s2 σ H2 (fun o H3 => o = none ∧ H3 = H2) I2 ⟨rfl, rfl⟩) fun vu s3 ⟨u, H3, I3, pu, eu, e3⟩ => ?_
  subst eu e3
  refine thn (hst.run pins s3 σ H3 (fun o H4 => o = some (-1) ∧ H4 = H3) I3 ⟨1, rfl, -1, rfl, rfl, rfl⟩) fun vs s4 ⟨o, H4, I4, ps, eo, e4⟩ => ?_
  subst eo e4
  cases pl
  cases pu
  have I5 : Inv X pins σ H4 { s4 with heap := s4.heap.push { cls := .type "slice", data := .fields #[.none, .none, vs] } } := I4.kept (t' := s4.toks) fun b ob q => Heap.get?_push_of_some _ q
  obtain ⟨its, r, ht, hz⟩ := I5.tuple hx
  have hlen := r.length
  show wpAny (model X.prog X.w) X.A (subscriptTail e (.Slice none none (some (.UnaryOp .USub (.Constant (.int 1) k p1) p2)) p3) (.ref a) (.ref s4.heap.objs.size)) (EP X pins σ Q) X.xe { s4 with heap := s4.heap.push { cls := .type "slice", data := .fields #[.none, .none, vs] } }
  refine tail_any (ops := [.ref a, .ref s4.heap.objs.size]) ht.typeIs (PyProof.Rows.slot_tuple_getitem.lookup) ?_ (by with_unfolding_all rfl)
  refine getItem_tuple_rev ht (Heap.IsSliceOf.new _ .none .none vs) ps ?_ (by omega)
  refine ⟨.ref _, _, I5.laid (t' := s4.toks) (o := .tup xs.reverse) (fun b ob q => Heap.get?_push_of_some _ q) (Nat.le_refl _) ?_, rfl, q _ (I5.hok.fresh (Nat.le_refl _))⟩
  exact ⟨by rw [List.length_reverse]; omega, its.reverse, r.reverse, _, Heap.get?_push_size _ rfl, rfl, 0, rfl⟩
theorem revR {G : Gx} {w : Wd} : ∀ {vs : List V} {ds : List D}, Reps G w vs ds → Reps G w vs.reverse ds.reverse
  | _, _, .nil => .nil
  | _, _, .cons q t => by
    rw [List.reverse_cons, List.reverse_cons]
    exact (revR t).append (.cons q .nil)
section
variable {X : Cx} {pos apos : Pos} {a o e : Expr} {A : WE}
def dRevT (A : WE) : WE := fun δ M Q => A δ M fun d M1 => ∃ ds, d = .tup ds ∧ Q (.tup ds.reverse) M1
theorem ce_revT {k : Nat} {p1 p2 p3 : Pos} (ha : CE X a A) : CE X (.Subscript a (.Slice none none (some (.UnaryOp .USub (.Constant (.int 1) k p1) p2)) p3) pos) (dRevT A) :=
  pe_weak (pe_revT ha) fun σ H Q ⟨w, δ, M, Qd, s, e, h, k⟩ => up1 s e h fun w1 v H1 d M1 l1 s1 r1 ⟨ds, ed, q⟩ => by
    subst ed
    cases r1 with
    | @tup a vs _ f1 g1 => exact ⟨a, vs, rfl, .inl (.inl (s1.same _ _ f1)), fun p hp => (k.mono l1).newTup s1 (revR g1) hp q⟩
/-! ### is, is not of truths -/
def fIsB : F2 := fun x y M Q => ∃ a b, x = .bl a ∧ y = .bl b ∧ Q (.bl (decide (a = b))) M
def fNotB : F2 := fun x y M Q => ∃ a b, x = .bl a ∧ y = .bl b ∧ Q (.bl (!decide (a = b))) M
theorem od_isB : OpD X (compareOp .Is) fIsB := by
  rintro d1 d2 M Qd ⟨a, b, rfl, rfl, q⟩
  refine OpD.of op_is_bl fun w H v1 v2 Q s r1 r2 k => ?_
  cases r1; cases r2
  exact ⟨a, b, rfl, rfl, k.here s (.bl _) q⟩
theorem od_notB : OpD X (compareOp .IsNot) fNotB := by
  rintro d1 d2 M Qd ⟨a, b, rfl, rfl, q⟩
  refine OpD.of op_isnot_bl fun w H v1 v2 Q s r1 r2 k => ?_
  cases r1; cases r2
  exact ⟨a, b, rfl, rfl, k.here s (.bl _) q⟩
/-! ### one of two rules -/
def fOr (f g : F2) : F2 := fun x y M Q => f x y M Q ∨ g x y M Q
theorem od_or {op : Value → Value → Sem Value} {f g : F2} (hf : OpD X op f) (hg : OpD X op g) : OpD X op (fOr f g) := by
  rintro d1 d2 M Qd (q | q)
  · exact hf d1 d2 M Qd q
  · exact hg d1 d2 M Qd q
/-! ### properties -/
structure CalP (P : Program) (w : World) (K : PySem.W.Frag) (mg : Str → Option Value) (base : Heap) (k : Nat) (c m : Str) (φ : Fn) : Prop where
  ex : ∃ (C p g : Addr) (fd : FuncData) (ps : List Str), mg c = some (.ref C) ∧ Cls K C ∧ PropOf K C m p g ∧ FnOk P w K mg base CX0 k g fd ps (spD ⟨K, mg⟩ 1 φ) ∧ Binds K fd ps []
def propD (M : Sto) (c : Str) (d : D) (Q : Prop) : Prop := ∃ fs, obOf M d = some (c, fs) ∧ Q
def dProp (c : Str) (φ : Fn) (A : WE) : WE := fun δ M Q => A δ M fun d M1 => propD M1 c d (φ [d] M1 Q)
theorem ce_prop {k : Nat} {c m : Str} {φ : Fn} (F : CalP X.prog X.w X.K X.mg X.base k c m φ) (hr : Room (k + 1) X.A) (ho : CE X o A) (hab : attributeBase o m X.env (eval o X.env) = eval o X.env := by rfl) : CE X (.Attribute o m pos) (dProp c φ A) := by
  obtain ⟨C, p, g, fd, ps, hC, cl, hp, F, hb⟩ := F.ex
  refine pe_weak (pe_prop (sp := spD ⟨X.K, X.mg⟩ 1 φ) (dvs := []) (E := E0) ho cl hp F hr hb .nil pass0 hab) fun σ H Q ⟨w, δ, M, Qd, s, e, h, k⟩ => up1 s e h fun w1 v H1 d M1 l1 s1 r1 ⟨fs, hob, q⟩ => ?_
  obtain ⟨a, C', dx, vs, rfl, e1, e2, e3⟩ := s1.ob r1 hob
  have hCC : C' = C := by
    have := e2.symm.trans hC
    cases this
    rfl
  subst hCC
  exact ⟨a, dx, vs, rfl, e1, rfl, w1, [d], M1, Qd, s1, .cons r1 .nil, q, k.mono l1⟩
end
end DL


set_option Elab.async false
set_option linter.all false
set_option autoImplicit false
set_option maxRecDepth 100000
set_option maxHeartbeats 4000000
namespace DL
open PySem PySem.Spec PyProof.Rows L2
/-! ### comprehensions and loops over data -/
/-- a comprehension whose tests and elements leave the store as it is -/
theorem comp_all {α : Type} {it : ItD} {p : Pat} {T : WT} {A : WE} {δ0 : Dn} {M : Sto} {Q : List D → Sto → Prop} (F f : α → D) (c : α → Bool) (ok : it.ok M)
    : ∀ (xs : List α) (acc : List D), (∀ x ∈ xs, ∀ (k1 : D → Sto → Prop) (k0 : Sto → Prop), (c x = true → k1 (f x) M) → (c x = false → k0 M) → patD p (F x) δ0 fun δ1 => T δ1 M fun b M1 => (b = true → A δ1 M1 k1) ∧ (b = false → k0 M1)) →
      acc.length + xs.length ≤ sizeLine → Q (acc ++ (xs.filter c).map f) M → compD it p T A δ0 (xs.map F) acc M Q
  | [], acc, _, _, q => ⟨ok, by simpa using q⟩
  | x :: xs, acc, h, hl, q => by
    rw [List.length_cons] at hl
    refine ⟨ok, ?_⟩
    simp only [iteP]
    refine h x List.mem_cons_self _ _ (fun hc => ⟨by omega, ?_⟩) fun hc => ?_
    · refine comp_all F f c ok xs _ (fun y hy => h y (List.mem_cons_of_mem _ hy)) (by rw [List.length_append, List.length_singleton]; omega) ?_
      rw [List.filter_cons_of_pos hc] at q
      simpa using q
    · refine comp_all F f c ok xs _ (fun y hy => h y (List.mem_cons_of_mem _ hy)) (by omega) ?_
      rw [List.filter_cons_of_neg (by simp [hc])] at q
      exact q
theorem comp_map {α : Type} {it : ItD} {p : Pat} {A : WE} {δ0 : Dn} {M : Sto} {Q : List D → Sto → Prop} (F f : α → D) (xs : List α) (ok : it.ok M)
    (h : ∀ x ∈ xs, ∀ k : D → Sto → Prop, k (f x) M → patD p (F x) δ0 fun δ1 => A δ1 M k) (hl : xs.length ≤ sizeLine) (q : Q (xs.map f) M) : compD it p dYes A δ0 (xs.map F) [] M Q :=
  comp_all F f (fun _ => true) ok xs [] (fun x hx k1 k0 h1 _ => by
    have := h x hx k1 (h1 rfl)
    cases p with
    | nm i =>
      simp only [patD, dYes] at this ⊢
      exact ⟨fun _ => this, fun h => Bool.noConfusion h⟩
    | tp is =>
      obtain ⟨ds, e1, e2, e3⟩ := this
      exact ⟨ds, e1, e2, ⟨fun _ => e3, fun h => Bool.noConfusion h⟩⟩) (by simpa using hl) (by rw [List.filter_eq_self.mpr fun _ _ => rfl]; simpa using q)
/-- a for over items, by an invariant of what has been walked -/
theorem for_inv {α : Type} {it : ItD} {p : Pat} {S : WS} {E : DE} (F : α → D) (Inv : List α → Dn → Sto → Prop) (all : List α)
    (hs : ∀ (pre : List α) (x : α) (post : List α) (δ : Dn) (M : Sto), all = pre ++ x :: post → Inv pre δ M → it.ok M ∧ ∀ N : Dn → Sto → Prop, (∀ δ' M', Inv (pre ++ [x]) δ' M' → N δ' M') → patD p (F x) δ fun δ1 => S { E with nx := N, ct := N, bk := E.nx } δ1 M)
    (hd : ∀ (δ : Dn) (M : Sto), Inv all δ M → it.ok M ∧ E.nx δ M) : ∀ (post pre : List α) (δ : Dn) (M : Sto), all = pre ++ post → Inv pre δ M → forD it p S E (post.map F) δ M
  | [], pre, δ, M, e, h => by
    rw [List.append_nil] at e
    subst e
    exact hd δ M h
  | x :: post, pre, δ, M, e, h => by
    obtain ⟨ok, k⟩ := hs pre x post δ M e h
    exact ⟨ok, k _ fun δ' M' h' => for_inv F Inv all hs hd post (pre ++ [x]) δ' M' (by rw [e]; simp) h'⟩
theorem for_inv0 {α : Type} {it : ItD} {p : Pat} {S : WS} {E : DE} {δ : Dn} {M : Sto} (F : α → D) (Inv : List α → Dn → Sto → Prop) (all : List α) (h0 : Inv [] δ M)
    (hs : ∀ (pre : List α) (x : α) (post : List α) (δ : Dn) (M : Sto), all = pre ++ x :: post → Inv pre δ M → it.ok M ∧ ∀ N : Dn → Sto → Prop, (∀ δ' M', Inv (pre ++ [x]) δ' M' → N δ' M') → patD p (F x) δ fun δ1 => S { E with nx := N, ct := N, bk := E.nx } δ1 M)
    (hd : ∀ (δ : Dn) (M : Sto), Inv all δ M → it.ok M ∧ E.nx δ M) : forD it p S E (all.map F) δ M := for_inv F Inv all hs hd all [] δ M rfl h0
theorem dRng_map (lo : Int) (n : Nat) : dRng lo n = (List.range n).map fun (i : Nat) => D.int (lo + (i : Int)) := rfl
/-- what is cut off behind a function: nothing was there that is still wanted -/
theorem cut_app {M R : Sto} : Cut M (M ++ R) M := ⟨R, rfl, rfl, fun n mo h => .inl h⟩
theorem ret_cut {M R : Sto} {Q : D → Sto → Prop} {d : D} (h : clD M.length d = true) (q : Q d M) : retD M Q d (M ++ R) := .inr ⟨M, cut_app, h, q⟩
theorem ret_same {M : Sto} {Q : D → Sto → Prop} {d : D} (q : Q d M) : retD M Q d M := .inl q
@[simp] theorem clD_int (n : Nat) (i : Int) : clD n (.int i) = true := rfl
@[simp] theorem clD_bl (n : Nat) (i : Bool) : clD n (.bl i) = true := rfl
@[simp] theorem clD_str (n : Nat) (i : Str) : clD n (.str i) = true := rfl
@[simp] theorem clD_non (n : Nat) : clD n .non = true := rfl
@[simp] theorem clD_tup (n : Nat) (ds : List D) : clD n (.tup ds) = clL n ds := rfl
@[simp] theorem clD_lst (n : Nat) (ds : List D) : clD n (.lst ds) = clL n ds := rfl
@[simp] theorem clD_ob (n : Nat) (c : Str) (fs : List (Str × D)) : clD n (.ob c fs) = clF n fs := rfl
@[simp] theorem clL_nil (n : Nat) : clL n [] = true := rfl
@[simp] theorem clL_cons (n : Nat) (d : D) (ds : List D) : clL n (d :: ds) = (clD n d && clL n ds) := rfl
@[simp] theorem clF_nil (n : Nat) : clF n [] = true := rfl
@[simp] theorem clF_cons (n : Nat) (f : Str) (d : D) (ds : List (Str × D)) : clF n ((f, d) :: ds) = (clD n d && clF n ds) := rfl
@[simp] theorem clL_ints (n : Nat) (ns : List Int) : clL n (ns.map D.int) = true := by
  induction ns with
  | nil => rfl
  | cons x r ih => simp [ih]
@[simp] theorem clL_strs (n : Nat) (ns : List Str) : clL n (ns.map D.str) = true := by
  induction ns with
  | nil => rfl
  | cons x r ih => simp [ih]
@[simp] theorem clL_tups (n : Nat) (ns : List (List Int)) : clL n (ns.map tupI) = true := by
  induction ns with
  | nil => rfl
  | cons x r ih => simp [ih]
theorem clL_map {α : Type} (n : Nat) (f : α → D) (xs : List α) (h : ∀ x ∈ xs, clD n (f x) = true) : clL n (xs.map f) = true := by
  rw [clL_all, List.all_eq_true]
  intro d hd
  obtain ⟨x, hx, rfl⟩ := List.mem_map.mp hd
  exact h x hx
@[simp] theorem set_last {M : Sto} {a b : MO} : (M ++ [a]).set M.length b = M ++ [b] := by
  rw [List.set_append_right _ _ (Nat.le_refl _), Nat.sub_self]
  rfl
@[simp] theorem get_last {M : Sto} {a : MO} : (M ++ [a])[M.length]? = some a := by simp
theorem atI_natE {α : Type} (xs : List α) (m : Nat) : atI xs (m : Int) = xs[m]? := by
  cases e : xs[m]? with
  | none =>
    have hm := List.getElem?_eq_none_iff.mp e
    unfold atI ixN
    rw [if_pos (by omega), if_neg (by omega)]
    rfl
  | some v => exact atI_nat e
@[simp] theorem atI_zero {α : Type} (xs : List α) : atI xs 0 = xs[0]? := atI_natE xs 0
@[simp] theorem atI_one {α : Type} (xs : List α) : atI xs 1 = xs[1]? := atI_natE xs 1
@[simp] theorem atI_lit {α : Type} (xs : List α) (n : Nat) : atI xs (OfNat.ofNat n : Int) = xs[n]? := atI_natE xs n
/-- for an index that is no written one -/
theorem atI_of {α : Type} {xs : List α} {i : Int} (h : 0 ≤ i) : atI xs i = xs[i.toNat]? := by
  have := atI_natE xs i.toNat
  rwa [Int.toNat_of_nonneg h] at this
end DL


set_option Elab.async false
set_option linter.all false
set_option autoImplicit false
set_option maxRecDepth 100000
set_option maxHeartbeats 4000000
namespace DL
open PySem PySem.Spec PyProof.Rows L2
/-! ### side goals over ints -/
@[simp] theorem cPow_of {i j : Int} (h1 : 0 ≤ j) (h2 : j ≤ 1000000) (h3 : i.natAbs < 18446744073709551616) : CPow i j := ⟨h1, h2, h3⟩
@[simp] theorem cMul_r {i j : Int} (h1 : -18446744073709551616 < j) (h2 : j < 18446744073709551616) : CMul i j := .inr ⟨h1, h2⟩
@[simp] theorem cMul_l {i j : Int} (h1 : -18446744073709551616 < i) (h2 : i < 18446744073709551616) : CMul i j := .inl ⟨h1, h2⟩
@[simp] theorem cDiv_of {i j : Int} (h1 : 0 < j) (h2 : j < 1073741824) : CDiv i j := ⟨h1, h2⟩
@[simp] theorem atI_pos {α : Type} {xs : List α} {i : Int} (h : 0 ≤ i) : atI xs i = xs[i.toNat]? := atI_of h
@[simp] theorem atI_neg1 {α : Type} (xs : List α) : atI xs (-1) = xs[xs.length - 1]? := by
  unfold atI ixN
  cases xs with
  | nil => rfl
  | cons x r =>
    have e : ((-1 : Int) + ((x :: r).length : Int)).toNat = (x :: r).length - 1 := by omega
    rw [if_neg (by decide), if_pos (by simp; omega)]
    show (x :: r)[((-1 : Int) + ((x :: r).length : Int)).toNat]? = _
    rw [e]
@[simp] theorem le_sizeLine (n : Nat) : n ≤ sizeLine ↔ n ≤ 16777216 := by
  have : sizeLine = 16777216 := by decide
  rw [this]
@[simp] theorem lt_sizeLine (n : Nat) : n < sizeLine ↔ n < 16777216 := by
  have : sizeLine = 16777216 := by decide
  rw [this]
/-! ### cells behind a store -/
@[simp] theorem get_app0 {M R : Sto} : (M ++ R)[M.length]? = R[0]? := by rw [List.getElem?_append_right (Nat.le_refl _), Nat.sub_self]
@[simp] theorem get_appk {M R : Sto} (k : Nat) : (M ++ R)[M.length + k]? = R[k]? := by rw [List.getElem?_append_right (by omega)]; congr 1; omega
@[simp] theorem set_app0 {M R : Sto} {v : MO} : (M ++ R).set M.length v = M ++ R.set 0 v := by rw [List.set_append_right _ _ (Nat.le_refl _), Nat.sub_self]
@[simp] theorem set_appk {M R : Sto} {v : MO} (k : Nat) : (M ++ R).set (M.length + k) v = M ++ R.set k v := by rw [List.set_append_right _ _ (by omega)]; congr 2; omega
@[simp] theorem lstOf_app0 {M R : Sto} {es : List D} : lstOf (M ++ (.lst es :: R)) (.cell M.length) = some es := by simp [lstOf]
@[simp] theorem lstOf_app1 {M R : Sto} {a : MO} {es : List D} : lstOf (M ++ (a :: .lst es :: R)) (.cell (M.length + 1)) = some es := by simp [lstOf]
@[simp] theorem lstOf_app2 {M R : Sto} {a b : MO} {es : List D} : lstOf (M ++ (a :: b :: .lst es :: R)) (.cell (M.length + 2)) = some es := by simp [lstOf]
/-! ### what a primitive does at what it is given -/
def isS {α : Type} (o : Option α) (Q : α → Prop) : Prop := ∃ d, o = some d ∧ Q d
@[simp] theorem isS_some {α : Type} (d : α) (Q : α → Prop) : isS (some d) Q = Q d := propext ⟨fun ⟨_, e, q⟩ => by cases e; exact q, fun q => ⟨d, rfl, q⟩⟩
@[simp] theorem isS_none {α : Type} (Q : α → Prop) : isS none Q = False := propext ⟨fun ⟨_, e, _⟩ => (nomatch e), fun q => q.elim⟩
@[simp] theorem isS_map {α β : Type} (f : α → β) (o : Option α) (Q : β → Prop) : isS (o.map f) Q = isS o fun a => Q (f a) := by
  rcases o with _ | a
  · simp
  · simp

def isI (d : D) (Q : Int → Prop) : Prop := ∃ i, d = .int i ∧ Q i
@[simp] theorem isI_int (i : Int) (Q : Int → Prop) : isI (.int i) Q = Q i := by simp [isI]
def isX (d : D) (Q : Str → Prop) : Prop := ∃ i, d = .str i ∧ Q i
@[simp] theorem isX_str (i : Str) (Q : Str → Prop) : isX (.str i) Q = Q i := by simp [isX]
@[simp] theorem ofString_eq (a b : String) : (Str.ofString a = Str.ofString b) = (a = b) := by
  apply propext
  refine ⟨fun h => ?_, fun h => by rw [h]⟩
  have e := congrArg TL.tl h
  rw [TL.tl_ofString, TL.tl_ofString] at e
  have hi : Function.Injective Char.toNat := fun x y hxy => Char.toNat_inj.mp hxy
  exact String.toList_inj.mp ((List.map_inj_right fun x y hxy => hi hxy).mp e)
@[simp] theorem ofString_beq (a b : String) : (Str.ofString a == Str.ofString b) = (a == b) := by
  rw [Bool.eq_iff_iff, beq_iff_eq, beq_iff_eq, ofString_eq]
@[simp] theorem seqOf_cellE (M : Sto) (n : Nat) : seqOf M (.cell n) = lstOf M (.cell n) := rfl
@[simp] theorem fI2_ev (C : Int → Int → Prop) (g : Int → Int → D) (i j : Int) (M : Sto) (Q : D → Sto → Prop) : fI2 C g (.int i) (.int j) M Q = (C i j ∧ Q (g i j) M) := by simp [fI2]
@[simp] theorem fI_ev (g : Int → Int → Int) (i j : Int) (M : Sto) (Q : D → Sto → Prop) : fI g (.int i) (.int j) M Q = Q (.int (g i j)) M := by simp [fI]
@[simp] theorem fB_ev (g : Int → Int → Bool) (i j : Int) (M : Sto) (Q : D → Sto → Prop) : fB g (.int i) (.int j) M Q = Q (.bl (g i j)) M := by simp [fB]
@[simp] theorem fNeg_ev (A : WE) (δ : Dn) (M : Sto) (Q : D → Sto → Prop) : fNeg A δ M Q = A δ M fun x M1 => isI x fun i => Q (.int (-i)) M1 := rfl
@[simp] theorem oSome_ev (A : WE) (δ : Dn) (M : Sto) (Q : Option Int → Sto → Prop) : oSome A δ M Q = A δ M fun x M1 => isI x fun i => Q (some i) M1 := rfl
@[simp] theorem fIsN_non (M : Sto) (Q : D → Sto → Prop) : fIsN .non .non M Q = Q (.bl true) M := by simp [fIsN]
@[simp] theorem fIsN_tup (ds : List D) (M : Sto) (Q : D → Sto → Prop) : fIsN (.tup ds) .non M Q = Q (.bl false) M := by simp [fIsN]
@[simp] theorem fIsN_lst (ds : List D) (M : Sto) (Q : D → Sto → Prop) : fIsN (.lst ds) .non M Q = Q (.bl false) M := by simp [fIsN]
@[simp] theorem fIsN_int (i : Int) (M : Sto) (Q : D → Sto → Prop) : fIsN (.int i) .non M Q = Q (.bl false) M := by simp [fIsN]
@[simp] theorem fIsN_str (i : Str) (M : Sto) (Q : D → Sto → Prop) : fIsN (.str i) .non M Q = Q (.bl false) M := by simp [fIsN]
@[simp] theorem fIsN_cell (i : Nat) (M : Sto) (Q : D → Sto → Prop) : fIsN (.cell i) .non M Q = Q (.bl false) M := by simp [fIsN]
@[simp] theorem fIsN_ob (c : Str) (fs : List (Str × D)) (M : Sto) (Q : D → Sto → Prop) : fIsN (.ob c fs) .non M Q = Q (.bl false) M := by simp [fIsN]
@[simp] theorem fNotN_non (M : Sto) (Q : D → Sto → Prop) : fNotN .non .non M Q = Q (.bl false) M := by simp [fNotN]
@[simp] theorem fNotN_tup (ds : List D) (M : Sto) (Q : D → Sto → Prop) : fNotN (.tup ds) .non M Q = Q (.bl true) M := by simp [fNotN]
@[simp] theorem fNotN_lst (ds : List D) (M : Sto) (Q : D → Sto → Prop) : fNotN (.lst ds) .non M Q = Q (.bl true) M := by simp [fNotN]
@[simp] theorem fNotN_int (i : Int) (M : Sto) (Q : D → Sto → Prop) : fNotN (.int i) .non M Q = Q (.bl true) M := by simp [fNotN]
@[simp] theorem fNotN_str (i : Str) (M : Sto) (Q : D → Sto → Prop) : fNotN (.str i) .non M Q = Q (.bl true) M := by simp [fNotN]
@[simp] theorem fNotN_ob (c : Str) (fs : List (Str × D)) (M : Sto) (Q : D → Sto → Prop) : fNotN (.ob c fs) .non M Q = Q (.bl true) M := by simp [fNotN]
@[simp] theorem fAdd_int (i j : Int) (M : Sto) (Q : D → Sto → Prop) : fAdd (.int i) (.int j) M Q = Q (.int (i + j)) M := by simp [fAdd, lsdOf]
@[simp] theorem fAdd_str (i j : Str) (M : Sto) (Q : D → Sto → Prop) : fAdd (.str i) (.str j) M Q = (i.length + j.length ≤ 16777216 ∧ Q (.str (i ++ j)) M) := by simp [fAdd, lsdOf]
@[simp] theorem fAdd_tup (i j : List D) (M : Sto) (Q : D → Sto → Prop) : fAdd (.tup i) (.tup j) M Q = (i.length + j.length ≤ 16777216 ∧ Q (.tup (i ++ j)) M) := by simp [fAdd, lsdOf]
@[simp] theorem fAdd_lst (i j : List D) (M : Sto) (Q : D → Sto → Prop) : fAdd (.lst i) (.lst j) M Q = (i.length + j.length ≤ 16777216 ∧ Q (.lst (i ++ j)) M) := by simp [fAdd, lsdOf]
@[simp] theorem fEq_int (i j : Int) (M : Sto) (Q : D → Sto → Prop) : fEq (.int i) (.int j) M Q = Q (.bl (decide (i = j))) M := by simp [fEq]
@[simp] theorem fEq_bl (i j : Bool) (M : Sto) (Q : D → Sto → Prop) : fEq (.bl i) (.bl j) M Q = Q (.bl (decide (i = j))) M := by simp [fEq, pl]
@[simp] theorem fEq_str (i j : Str) (M : Sto) (Q : D → Sto → Prop) : fEq (.str i) (.str j) M Q = (pl 8 (.str i) = true ∧ pl 8 (.str j) = true ∧ Q (.bl (decide (i = j))) M) := by simp [fEq]
@[simp] theorem fEq_tup (i j : List D) (M : Sto) (Q : D → Sto → Prop) : fEq (.tup i) (.tup j) M Q = (pl 8 (.tup i) = true ∧ pl 8 (.tup j) = true ∧ Q (.bl (decide (i = j))) M) := by simp [fEq]
@[simp] theorem fEq_lst (i j : List D) (M : Sto) (Q : D → Sto → Prop) : fEq (.lst i) (.lst j) M Q = (pl 8 (.lst i) = true ∧ pl 8 (.lst j) = true ∧ Q (.bl (decide (i = j))) M) := by simp [fEq]
@[simp] theorem fNe_int (i j : Int) (M : Sto) (Q : D → Sto → Prop) : fNe (.int i) (.int j) M Q = Q (.bl (!decide (i = j))) M := by simp [fNe]
@[simp] theorem fNe_bl (i j : Bool) (M : Sto) (Q : D → Sto → Prop) : fNe (.bl i) (.bl j) M Q = Q (.bl (!decide (i = j))) M := by simp [fNe, pl]
@[simp] theorem fNe_str (i j : Str) (M : Sto) (Q : D → Sto → Prop) : fNe (.str i) (.str j) M Q = (pl 8 (.str i) = true ∧ pl 8 (.str j) = true ∧ Q (.bl (!decide (i = j))) M) := by simp [fNe]
@[simp] theorem fNe_tup (i j : List D) (M : Sto) (Q : D → Sto → Prop) : fNe (.tup i) (.tup j) M Q = (pl 8 (.tup i) = true ∧ pl 8 (.tup j) = true ∧ Q (.bl (!decide (i = j))) M) := by simp [fNe]
@[simp] theorem fNe_lst (i j : List D) (M : Sto) (Q : D → Sto → Prop) : fNe (.lst i) (.lst j) M Q = (pl 8 (.lst i) = true ∧ pl 8 (.lst j) = true ∧ Q (.bl (!decide (i = j))) M) := by simp [fNe]
@[simp] theorem pl_str8 (x : Str) (n : Nat) : pl n (.str x) = PyData.canLay0 (.str x) := by cases n <;> rfl
def slD (M : Sto) (d : D) (lo hi : Option Int) (Q : D → Sto → Prop) : Prop := (∃ ds, lstOf M d = some ds ∧ Q (.lst (cutD ds lo hi)) M) ∨ (∃ ds, d = .tup ds ∧ Q (.tup (cutD ds lo hi)) M) ∨ ∃ z, d = .str z ∧ z.length ≤ sizeLine ∧ Q (.str (cutS z lo hi)) M
@[simp] theorem dSl_ev (A : WE) (L U : WO) (δ : Dn) (M : Sto) (Q : D → Sto → Prop) : dSl A L U δ M Q = A δ M fun d M1 => L δ M1 fun lo M2 => U δ M2 fun hi M3 => slD M3 d lo hi Q := rfl
@[simp] theorem slD_lst (M : Sto) (ds : List D) (lo hi : Option Int) (Q : D → Sto → Prop) : slD M (.lst ds) lo hi Q = Q (.lst (cutD ds lo hi)) M := by simp [slD]
@[simp] theorem slD_frz (M : Sto) (ds : List D) (lo hi : Option Int) (Q : D → Sto → Prop) : slD M (.frz ds) lo hi Q = Q (.lst (cutD ds lo hi)) M := by simp [slD]
@[simp] theorem slD_tup (M : Sto) (ds : List D) (lo hi : Option Int) (Q : D → Sto → Prop) : slD M (.tup ds) lo hi Q = Q (.tup (cutD ds lo hi)) M := by simp [slD, lstOf]
@[simp] theorem slD_str (M : Sto) (z : Str) (lo hi : Option Int) (Q : D → Sto → Prop) : slD M (.str z) lo hi Q = (z.length ≤ 16777216 ∧ Q (.str (cutS z lo hi)) M) := by simp [slD, lstOf]
@[simp] theorem slD_cell (M : Sto) (n : Nat) (lo hi : Option Int) (Q : D → Sto → Prop) : slD M (.cell n) lo hi Q = isS (lstOf M (.cell n)) fun ds => Q (.lst (cutD ds lo hi)) M := by simp [slD, isS]
def itS (M : Sto) (d : D) (Q : ItD → Sto → Prop) : Prop := (∃ ds, d = .tup ds ∧ Q ⟨ds, fun _ => True⟩ M) ∨ (∃ ds, d = .lst ds ∧ Q ⟨ds, fun _ => True⟩ M) ∨ (∃ ds, d = .frz ds ∧ Q ⟨ds, fun _ => True⟩ M) ∨
  ∃ n ds, d = .cell n ∧ M[n]? = some (.lst ds) ∧ Q ⟨ds, fun M' => M'[n]? = some (.lst ds)⟩ M
@[simp] theorem dItS_ev (A : WE) (δ : Dn) (M : Sto) (Q : ItD → Sto → Prop) : dItS A δ M Q = A δ M fun d M1 => itS M1 d Q := rfl
@[simp] theorem itS_tup (M : Sto) (ds : List D) (Q : ItD → Sto → Prop) : itS M (.tup ds) Q = Q ⟨ds, fun _ => True⟩ M := by simp [itS]
@[simp] theorem itS_lst (M : Sto) (ds : List D) (Q : ItD → Sto → Prop) : itS M (.lst ds) Q = Q ⟨ds, fun _ => True⟩ M := by simp [itS]
@[simp] theorem itS_frz (M : Sto) (ds : List D) (Q : ItD → Sto → Prop) : itS M (.frz ds) Q = Q ⟨ds, fun _ => True⟩ M := by simp [itS]
@[simp] theorem itS_cell (M : Sto) (n : Nat) (Q : ItD → Sto → Prop) : itS M (.cell n) Q = ∃ ds, M[n]? = some (.lst ds) ∧ Q ⟨ds, fun M' => M'[n]? = some (.lst ds)⟩ M := by simp [itS]
def it1 (M : Sto) (ds : List D) (Q : ItD → Sto → Prop) : Prop := ∃ j : Int, ds = [.int j] ∧ j < 2 ^ 62 ∧ -(2 ^ 62) ≤ j ∧ Q ⟨dRng 0 j.toNat, fun _ => True⟩ M
@[simp] theorem dIt1_ev (R : WA) (δ : Dn) (M : Sto) (Q : ItD → Sto → Prop) : dIt1 R δ M Q = R δ M fun ds M1 => it1 M1 ds Q := rfl
@[simp] theorem it1_int (M : Sto) (j : Int) (Q : ItD → Sto → Prop) : it1 M [.int j] Q = (j < 4611686018427387904 ∧ -4611686018427387904 ≤ j ∧ Q ⟨dRng 0 j.toNat, fun _ => True⟩ M) := by simp [it1]
def it2 (M : Sto) (ds : List D) (Q : ItD → Sto → Prop) : Prop := ∃ i j : Int, ds = [.int i, .int j] ∧ (-(2 ^ 62) ≤ i ∧ i < 2 ^ 62 ∧ -(2 ^ 62) ≤ j ∧ j < 2 ^ 62) ∧ Q ⟨dRng i (j - i).toNat, fun _ => True⟩ M
@[simp] theorem dIt2_ev (R : WA) (δ : Dn) (M : Sto) (Q : ItD → Sto → Prop) : dIt2 R δ M Q = R δ M fun ds M1 => it2 M1 ds Q := rfl
@[simp] theorem it2_int (M : Sto) (i j : Int) (Q : ItD → Sto → Prop) : it2 M [.int i, .int j] Q = ((-4611686018427387904 ≤ i ∧ i < 4611686018427387904 ∧ -4611686018427387904 ≤ j ∧ j < 4611686018427387904) ∧ Q ⟨dRng i (j - i).toNat, fun _ => True⟩ M) := by
  apply propext
  constructor
  · rintro ⟨a, b, e, h, q⟩
    simp at e
    obtain ⟨rfl, rfl⟩ := e
    exact ⟨h, q⟩
  · rintro ⟨h, q⟩
    exact ⟨i, j, rfl, h, q⟩
@[simp] theorem fLen_tup (ds : List D) (M : Sto) (Q : D → Sto → Prop) : fLen [.tup ds] M Q = Q (.int (ds.length : Nat)) M := by simp [fLen]
@[simp] theorem fLen_lst (ds : List D) (M : Sto) (Q : D → Sto → Prop) : fLen [.lst ds] M Q = Q (.int (ds.length : Nat)) M := by simp [fLen]
@[simp] theorem fLen_frz (ds : List D) (M : Sto) (Q : D → Sto → Prop) : fLen [.frz ds] M Q = Q (.int (ds.length : Nat)) M := by simp [fLen]
@[simp] theorem fLen_cell (n : Nat) (M : Sto) (Q : D → Sto → Prop) : fLen [.cell n] M Q = isS (lstOf M (.cell n)) fun es => Q (.int (es.length : Nat)) M := by simp [fLen, isS]
@[simp] theorem fLen_str (x : Str) (M : Sto) (Q : D → Sto → Prop) : fLen [.str x] M Q = (x.length ≤ 16777216 ∧ Q (.int (x.length : Nat)) M) := by simp [fLen, seqOf, tupOf, lstOf]
@[simp] theorem fTuple_ev (d : D) (M : Sto) (Q : D → Sto → Prop) : fTuple [d] M Q = isS (seqOf M d) fun es => Q (.tup es) M := by simp [fTuple, isS]
@[simp] theorem fList_ev (d : D) (M : Sto) (Q : D → Sto → Prop) : fList [d] M Q = isS (seqOf M d) fun es => Q (.lst es) M := by simp [fList, isS]
@[simp] theorem fListM_ev (d : D) (M : Sto) (Q : D → Sto → Prop) : fListM [d] M Q = isS (seqOf M d) fun es => Q (.cell M.length) (M ++ [.lst es]) := by simp [fListM, isS]
theorem bls_inj {a b : List Bool} (h : a.map D.bl = b.map D.bl) : a = b := (List.map_inj_right fun x y hxy => by injection hxy).mp h
@[simp] theorem fAll_ev {α : Type} (f : α → Bool) (xs : List α) (M : Sto) (Q : D → Sto → Prop) : fAll [.lst (xs.map fun a => D.bl (f a))] M Q = Q (.bl (xs.all f)) M := by
  have e : (xs.map fun a => D.bl (f a)) = (xs.map f).map D.bl := by simp
  have e2 : (xs.map f).all id = xs.all f := by simp [List.all_map]
  rw [e, ← e2]
  apply propext
  constructor
  · rintro ⟨d, bs, h1, h2, q⟩
    injection h1 with h1
    subst h1
    have := bls_inj (Option.some.inj h2)
    rw [this]
    exact q
  · exact fun q => ⟨_, _, rfl, rfl, q⟩
@[simp] theorem fAny_ev {α : Type} (f : α → Bool) (xs : List α) (M : Sto) (Q : D → Sto → Prop) : fAny [.lst (xs.map fun a => D.bl (f a))] M Q = Q (.bl (xs.any f)) M := by
  have e : (xs.map fun a => D.bl (f a)) = (xs.map f).map D.bl := by simp
  have e2 : (xs.map f).any id = xs.any f := by simp [List.any_map]
  rw [e, ← e2]
  apply propext
  constructor
  · rintro ⟨d, bs, h1, h2, q⟩
    injection h1 with h1
    subst h1
    have := bls_inj (Option.some.inj h2)
    rw [this]
    exact q
  · exact fun q => ⟨_, _, rfl, rfl, q⟩
@[simp] theorem fInt_int (i : Int) (M : Sto) (Q : D → Sto → Prop) : fInt [.int i] M Q = Q (.int i) M := by simp [fInt]
@[simp] theorem fInt_bl (i : Bool) (M : Sto) (Q : D → Sto → Prop) : fInt [.bl i] M Q = Q (.int (if i = true then 1 else 0)) M := by simp [fInt]
/-- the numeral of an int -/
def num (n : Int) : Str := Str.ofString (toString n)
@[simp] theorem fStr_ev (i : Int) (M : Sto) (Q : D → Sto → Prop) : fStr [.int i] M Q = (i.natAbs.log2 < 1920 ∧ Q (.str (num i)) M) := by simp [fStr, num]
@[simp] theorem fMax2_ev (i j : Int) (M : Sto) (Q : D → Sto → Prop) : fMax2 [.int i, .int j] M Q = Q (.int (if j > i then j else i)) M := by
  apply propext
  constructor
  · rintro ⟨a, b, e, q⟩
    simp at e
    obtain ⟨rfl, rfl⟩ := e
    exact q
  · exact fun q => ⟨i, j, rfl, q⟩
@[simp] theorem fMin2_ev (i j : Int) (M : Sto) (Q : D → Sto → Prop) : fMin2 [.int i, .int j] M Q = Q (.int (if j < i then j else i)) M := by
  apply propext
  constructor
  · rintro ⟨a, b, e, q⟩
    simp at e
    obtain ⟨rfl, rfl⟩ := e
    exact q
  · exact fun q => ⟨i, j, rfl, q⟩
@[simp] theorem putD_nil (f : Str) (v : D) : putD f v [] = [(f, v)] := rfl
@[simp] theorem putD_cons (f g : Str) (v u : D) (r : List (Str × D)) : putD f v ((g, u) :: r) = if g = f then (g, v) :: r else (g, u) :: putD f v r := by rw [putD]
/-- a cell that holds a list -/
def isL (M : Sto) (n : Nat) (Q : List D → Prop) : Prop := ∃ xs, M[n]? = some (.lst xs) ∧ Q xs
def isLo (o : Option MO) (Q : List D → Prop) : Prop := ∃ xs, o = some (.lst xs) ∧ Q xs
@[simp] theorem isL_ev (M : Sto) (n : Nat) (Q : List D → Prop) : isL M n Q = isLo M[n]? Q := rfl
@[simp] theorem isLo_lst (xs : List D) (Q : List D → Prop) : isLo (some (.lst xs)) Q = Q xs := by simp [isLo]
def isOo (o : Option MO) (Q : Str → List (Str × D) → Prop) : Prop := ∃ c fs, o = some (.ob c fs) ∧ Q c fs
@[simp] theorem isOo_ob (c : Str) (fs : List (Str × D)) (Q : Str → List (Str × D) → Prop) : isOo (some (.ob c fs)) Q = Q c fs := by
  apply propext
  constructor
  · rintro ⟨a, b, e, q⟩
    cases e
    exact q
  · exact fun q => ⟨_, _, rfl, q⟩
@[simp] theorem fAppend_ev (n : Nat) (y : D) (M : Sto) (Q : D → Sto → Prop) : fAppend (.cell n) [y] M Q = isLo M[n]? fun xs => xs.length < 16777216 ∧ Q .non (M.set n (.lst (xs ++ [y]))) := by
  apply propext
  constructor
  · rintro ⟨a, b, c, e1, e2, h, q⟩
    cases e1
    cases e2
    exact ⟨b, h, q⟩
  · rintro ⟨b, h, q⟩
    exact ⟨_, b, y, rfl, rfl, h, q⟩
@[simp] theorem fExtend_ev (n : Nat) (y : D) (M : Sto) (Q : D → Sto → Prop) : fExtend (.cell n) [y] M Q = isLo M[n]? fun xs => isS (lsdOf M y) fun ys => xs.length + ys.length ≤ 16777216 ∧ Q .non (M.set n (.lst (xs ++ ys))) := by
  apply propext
  constructor
  · rintro ⟨a, b, c, d, e1, e2, h, h2, q⟩
    cases e1
    cases e2
    exact ⟨b, h, d, h2, q⟩
  · rintro ⟨b, h, d, h2, q⟩
    exact ⟨_, b, y, d, rfl, rfl, h, h2, q⟩
@[simp] theorem lstOf_cons (a : MO) (M : Sto) (n : Nat) : lstOf (a :: M) (.cell (n + 1)) = lstOf M (.cell n) := by simp [lstOf]
@[simp] theorem lstOf_cons0 (es : List D) (M : Sto) : lstOf (.lst es :: M) (.cell 0) = some es := by simp [lstOf]
@[simp] theorem tyLst_app0 {M R : Sto} {es : List D} : lstOf (M ++ (.lst es :: R)) (.cell M.length) = some es := by simp [lstOf]
@[simp] theorem fInS_ev (c : Nat) (z : Str) (M : Sto) (Q : D → Sto → Prop) : fInS (.str ⟨#[c]⟩) (.str z) M Q = Q (.bl (decide (c ∈ z.cps.toList))) M := by
  apply propext
  constructor
  · rintro ⟨a, b, e1, e2, q⟩
    simp at e1 e2
    subst e1 e2
    exact q
  · exact fun q => ⟨c, z, rfl, rfl, q⟩
theorem ints_inj {a b : List Int} (h : a.map D.int = b.map D.int) : a = b := (List.map_inj_right fun x y hxy => by injection hxy).mp h
theorem tupI_inj {a b : List Int} (h : tupI a = tupI b) : a = b := by
  unfold tupI at h
  injection h with h
  exact ints_inj h
@[simp] theorem fLtT_ev (a b : List Int) (M : Sto) (Q : D → Sto → Prop) : fLtT (tupI a) (tupI b) M Q = Q (.bl (ltL a b)) M := by
  apply propext
  constructor
  · rintro ⟨x, y, e1, e2, q⟩
    rw [tupI_inj e1, tupI_inj e2]
    exact q
  · exact fun q => ⟨a, b, rfl, rfl, q⟩
def fldD (M : Sto) (cs : List Str) (f : Str) (d : D) (Q : D → Prop) : Prop := ∃ c fs v, obOf M d = some (c, fs) ∧ c ∈ cs ∧ fs.lookup f = some v ∧ Q v
@[simp] theorem dFld_ev (cs : List Str) (f : Str) (A : WE) (δ : Dn) (M : Sto) (Q : D → Sto → Prop) : dFld cs f A δ M Q = A δ M fun d M1 => fldD M1 cs f d fun v => Q v M1 := rfl
@[simp] theorem fldD_ob (M : Sto) (cs : List Str) (f c : Str) (fs : List (Str × D)) (Q : D → Prop) : fldD M cs f (.ob c fs) Q = (c ∈ cs ∧ isS (fs.lookup f) Q) := by
  apply propext
  constructor
  · rintro ⟨a, b, v, e, h, h2, q⟩
    cases e
    exact ⟨h, v, h2, q⟩
  · rintro ⟨h, v, h2, q⟩
    exact ⟨_, _, v, rfl, h, h2, q⟩
@[simp] theorem fldD_cell (M : Sto) (cs : List Str) (f : Str) (n : Nat) (Q : D → Prop) : fldD M cs f (.cell n) Q = isOo M[n]? fun c fs => c ∈ cs ∧ isS (fs.lookup f) Q := by
  apply propext
  constructor
  · rintro ⟨a, b, v, e, h, h2, q⟩
    refine ⟨a, b, ?_, h, v, h2, q⟩
    unfold obOf at e
    simp only at e
    split at e
    · rename_i e2
      cases e
      exact e2
    · cases e
  · rintro ⟨c, fs, e, h, v, h2, q⟩
    exact ⟨c, fs, v, by simp [obOf, e], h, h2, q⟩
def setfD (M : Sto) (cs : List Str) (f : Str) (d v : D) (Q : Sto → Prop) : Prop := ∃ n c fs, d = .cell n ∧ M[n]? = some (.ob c fs) ∧ c ∈ cs ∧ fs.length < 1000 ∧ Q (M.set n (.ob c (putD f v fs)))
@[simp] theorem setfD_cell (M : Sto) (cs : List Str) (f : Str) (n : Nat) (v : D) (Q : Sto → Prop) : setfD M cs f (.cell n) v Q = isOo M[n]? fun c fs => c ∈ cs ∧ fs.length < 1000 ∧ Q (M.set n (.ob c (putD f v fs))) := by
  apply propext
  constructor
  · rintro ⟨a, c, fs, e, h, q⟩
    cases e
    exact ⟨c, fs, h, q⟩
  · rintro ⟨c, fs, h, q⟩
    exact ⟨n, c, fs, rfl, h, q⟩
@[simp] theorem dSetF_ev (cs : List Str) (f : Str) (A B : WE) (E : DE) (δ : Dn) (M : Sto) : dSetF cs f A B E δ M = B δ M fun v M1 => A δ M1 fun d M2 => setfD M2 cs f d v fun M3 => E.nx δ M3 := rfl
@[simp] theorem fIx_lst (xs : List D) (i : Int) (M : Sto) (Q : D → Sto → Prop) : fIx (.lst xs) (.int i) M Q = isS (atI xs i) fun d => Q d M := by simp [fIx, isS]
@[simp] theorem fIx_frz (xs : List D) (i : Int) (M : Sto) (Q : D → Sto → Prop) : fIx (.frz xs) (.int i) M Q = isS (atI xs i) fun d => Q d M := by simp [fIx, isS]
@[simp] theorem fIx_tup (xs : List D) (i : Int) (M : Sto) (Q : D → Sto → Prop) : fIx (.tup xs) (.int i) M Q = isS (atI xs i) fun d => Q d M := by simp [fIx, isS]
@[simp] theorem fIx_cell (n : Nat) (i : Int) (M : Sto) (Q : D → Sto → Prop) : fIx (.cell n) (.int i) M Q = isS (lstOf M (.cell n)) fun xs => isS (atI xs i) fun d => Q d M := by simp [fIx, isS, seqOf, tupOf]
@[simp] theorem fIx_str (z : Str) (i : Int) (M : Sto) (Q : D → Sto → Prop) : fIx (.str z) (.int i) M Q = (z.length ≤ sizeLine ∧ isS (atI z.cps.toList i) fun c => Q (.str ⟨#[c]⟩) M) := by simp [fIx, isS, seqOf, tupOf, lstOf]
@[simp] theorem atI_map {α β : Type} (f : α → β) (xs : List α) (i : Int) : atI (xs.map f) i = (atI xs i).map f := by
  unfold atI
  rw [List.length_map]
  cases ixN xs.length i with
  | none => rfl
  | some k => simp
theorem atI_mod {α : Type} {xs : List α} (i : Int) (h : 0 < xs.length) : ∃ v ∈ xs, atI xs (i % (xs.length : Int)) = some v := by
  have h0 : 0 ≤ i % (xs.length : Int) := Int.emod_nonneg _ (by omega)
  have h1 : i % (xs.length : Int) < xs.length := Int.emod_lt_of_pos _ (by omega)
  rw [atI_of h0]
  have : (i % (xs.length : Int)).toNat < xs.length := by omega
  exact ⟨_, List.getElem_mem this, List.getElem?_eq_getElem this⟩
/-! ### more of what a primitive does -/
@[simp] theorem lookE (f g : Str) (v : D) (r : List (Str × D)) : List.lookup f ((g, v) :: r) = if f = g then some v else List.lookup f r := by
  rw [List.lookup_cons]
  by_cases h : f = g
  · subst h
    simp
  · have : (f == g) = false := by simpa using h
    rw [this, if_neg h]
@[simp] theorem lookN (f : Str) : List.lookup f ([] : List (Str × D)) = none := rfl
def joinD (M : Sto) (a : Str) (y : D) (Q : Str → Prop) : Prop := ∃ ys : List Str, seqOf M y = some (ys.map D.str) ∧ (ys.map (·.length)).sum + ys.length * a.length ≤ 16777216 ∧ Q (Txt.join a ys)
@[simp] theorem dJoin_ev (A B : WE) (δ : Dn) (M : Sto) (Q : D → Sto → Prop) : dJoin A B δ M Q = A δ M fun x M1 => isX x fun a => B δ M1 fun y M2 => joinD M2 a y fun z => Q (.str z) M2 := rfl
theorem strs_inj {a b : List Str} (h : a.map D.str = b.map D.str) : a = b := (List.map_inj_right fun x y hxy => by injection hxy).mp h
theorem joinD_of {M : Sto} {a : Str} {y : D} {ys : List Str} {Q : Str → Prop} (h : seqOf M y = some (ys.map D.str)) : joinD M a y Q = ((ys.map (·.length)).sum + ys.length * a.length ≤ 16777216 ∧ Q (Txt.join a ys)) := by
  apply propext
  constructor
  · rintro ⟨zs, e, q⟩
    rw [h] at e
    rw [strs_inj (Option.some.inj e)]
    exact q
  · exact fun q => ⟨ys, h, q⟩
@[simp] theorem joinD_map {α : Type} (M : Sto) (a : Str) (xs : List α) (f : α → Str) (Q : Str → Prop) : joinD M a (.lst (xs.map fun b => D.str (f b))) Q = ((xs.map fun b => (f b).length).sum + xs.length * a.length ≤ 16777216 ∧ Q (Txt.join a (xs.map f))) := by
  rw [joinD_of (ys := xs.map f) (by simp)]
  simp only [List.map_map, List.length_map]
  rfl
@[simp] theorem joinD_map2 (M : Sto) (a : Str) (xs : List Str) (Q : Str → Prop) : joinD M a (.lst (xs.map D.str)) Q = ((xs.map (·.length)).sum + xs.length * a.length ≤ 16777216 ∧ Q (Txt.join a xs)) := joinD_of rfl
@[simp] theorem dSplit_ev (A B : WE) (δ : Dn) (M : Sto) (Q : D → Sto → Prop) : dSplit A B δ M Q = A δ M fun x M1 => isX x fun a => B δ M1 fun y M2 => isX y fun b => (b.length == 0) = false ∧ a.length + 2 ≤ 16777216 ∧ Q (.lst ((Txt.split a b).map D.str)) M2 := by
  simp [dSplit, isX]
@[simp] theorem dStartswith_ev (A B : WE) (δ : Dn) (M : Sto) (Q : D → Sto → Prop) : dStartswith A B δ M Q = A δ M fun x M1 => isX x fun a => B δ M1 fun y M2 => isX y fun b => Q (.bl (Txt.startswith a b)) M2 := rfl
@[simp] theorem frzD_cell (M : Sto) (n : Nat) (k : D → Sto → Prop) : frzD M (.cell n) k = isLo M[n]? fun ds => k (.lst ds) (M.set n .dead) := by
  apply propext
  constructor
  · rintro ⟨a, ds, e, h, q⟩
    cases e
    exact ⟨ds, h, q⟩
  · rintro ⟨ds, h, q⟩
    exact ⟨n, ds, rfl, h, q⟩
@[simp] theorem dItC_ev (A : WE) (δ : Dn) (M : Sto) (Q : ItD → Sto → Prop) : dItC A δ M Q = A δ M fun d M1 => isX d fun x => Q ⟨x.cps.toList.map fun c => D.str ⟨#[c]⟩, fun _ => True⟩ M1 := rfl
@[simp] theorem fIntS_ev (a : Str) (M : Sto) (Q : D → Sto → Prop) : fIntS [.str a] M Q = isS (PySem.intText? a) fun n => a.length ≤ 640 ∧ Q (.int n) M := by simp [fIntS, isS]
def methD (M : Sto) (c m : Str) (d : D) (Q : Prop) : Prop := ∃ fs, obOf M d = some (c, fs) ∧ fs.lookup m = none ∧ Q
@[simp] theorem dMeth_ev (c m : Str) (n : Nat) (φ : Fn) (A : WE) (R : WA) (δ : Dn) (M : Sto) (Q : D → Sto → Prop) : dMeth c m n φ A R δ M Q = A δ M fun d M1 => methD M1 c m d (R δ M1 fun ds M2 => ds.length + 1 = n ∧ φ (d :: ds) M2 Q) := rfl
def noK (m : Str) : List (Str × D) → Prop
  | [] => True
  | (g, _) :: r => m ≠ g ∧ noK m r
@[simp] theorem noK_nil (m : Str) : noK m [] = True := rfl
@[simp] theorem noK_cons (m g : Str) (d : D) (r : List (Str × D)) : noK m ((g, d) :: r) = (m ≠ g ∧ noK m r) := rfl
theorem noK_iff (m : Str) : ∀ fs : List (Str × D), (fs.lookup m = none) = noK m fs
  | [] => by simp [lookN]
  | (g, d) :: r => by
    have := noK_iff m r
    simp only [lookE, noK_cons]
    by_cases h : m = g
    · simp [h]
    · rw [if_neg h, this]
      simp [h]
@[simp] theorem methD_ob (M : Sto) (c m c' : Str) (fs : List (Str × D)) (Q : Prop) : methD M c m (.ob c' fs) Q = (c' = c ∧ noK m fs ∧ Q) := by
  rw [← noK_iff]
  apply propext
  constructor
  · rintro ⟨gs, e, h⟩
    cases e
    exact ⟨rfl, h⟩
  · rintro ⟨rfl, h⟩
    exact ⟨fs, rfl, h⟩
@[simp] theorem methD_cell (M : Sto) (c m : Str) (n : Nat) (Q : Prop) : methD M c m (.cell n) Q = isOo M[n]? fun c' fs => c' = c ∧ noK m fs ∧ Q := by
  simp only [← noK_iff]
  apply propext
  constructor
  · rintro ⟨gs, e, h⟩
    refine ⟨c, gs, ?_, rfl, h⟩
    unfold obOf at e
    simp only at e
    split at e
    · rename_i e2
      cases e
      exact e2
    · cases e
  · rintro ⟨c', fs, e, rfl, h⟩
    exact ⟨fs, by simp [obOf, e], h⟩
def sset1 (M : Sto) (d : D) (Q : List Int → Prop) : Prop := ∃ ns : List Int, seqOf M d = some (ns.map D.int) ∧ ns.length < 64 ∧ Q (sset ns)
@[simp] theorem dSSet_ev (A : WE) (δ : Dn) (M : Sto) (Q : D → Sto → Prop) : dSSet A δ M Q = A δ M fun d M1 => sset1 M1 d fun ns => Q (.lst (ns.map D.int)) M1 := rfl
theorem sset1_of {M : Sto} {d : D} {ns : List Int} {Q : List Int → Prop} (h : seqOf M d = some (ns.map D.int)) : sset1 M d Q = (ns.length < 64 ∧ Q (sset ns)) := by
  apply propext
  constructor
  · rintro ⟨ms, e, q⟩
    rw [h] at e
    rw [ints_inj (Option.some.inj e)]
    exact q
  · exact fun q => ⟨ns, h, q⟩
@[simp] theorem sset1_lst (M : Sto) (ns : List Int) (Q : List Int → Prop) : sset1 M (.lst (ns.map D.int)) Q = (ns.length < 64 ∧ Q (sset ns)) := sset1_of rfl
@[simp] theorem sset1_tup (M : Sto) (ns : List Int) (Q : List Int → Prop) : sset1 M (.tup (ns.map D.int)) Q = (ns.length < 64 ∧ Q (sset ns)) := sset1_of rfl
@[simp] theorem sset1_lstm {α : Type} (f : α → Int) (M : Sto) (ns : List α) (Q : List Int → Prop) : sset1 M (.lst (ns.map fun a => D.int (f a))) Q = (ns.length < 64 ∧ Q (sset (ns.map f))) := by
  rw [sset1_of (ns := ns.map f) (by simp), List.length_map]
def ssetT1 (M : Sto) (d : D) (Q : List (List Int) → Prop) : Prop := ∃ rs : List (List Int), lstOf M d = some (rs.map tupI) ∧ rs.length < 64 ∧ (∀ r ∈ rs, ∀ r' ∈ rs, r ≠ r' → r ≠ []) ∧ Q (tset rs)
@[simp] theorem dSSetT_ev (A : WE) (δ : Dn) (M : Sto) (Q : D → Sto → Prop) : dSSetT A δ M Q = A δ M fun d M1 => ssetT1 M1 d fun rs => Q (.lst (rs.map tupI)) M1 := rfl
theorem tups_inj {a b : List (List Int)} (h : a.map tupI = b.map tupI) : a = b := (List.map_inj_right fun x y hxy => tupI_inj hxy).mp h
theorem ssetT1_of {M : Sto} {d : D} {ns : List (List Int)} {Q : List (List Int) → Prop} (h : lstOf M d = some (ns.map tupI)) : ssetT1 M d Q = (ns.length < 64 ∧ (∀ r ∈ ns, ∀ r' ∈ ns, r ≠ r' → r ≠ []) ∧ Q (tset ns)) := by
  apply propext
  constructor
  · rintro ⟨ms, e, q⟩
    rw [h] at e
    rw [tups_inj (Option.some.inj e)]
    exact q
  · exact fun q => ⟨ns, h, q⟩
@[simp] theorem ssetT1_lst (M : Sto) (ns : List (List Int)) (Q : List (List Int) → Prop) : ssetT1 M (.lst (ns.map tupI)) Q = (ns.length < 64 ∧ (∀ r ∈ ns, ∀ r' ∈ ns, r ≠ r' → r ≠ []) ∧ Q (tset ns)) := ssetT1_of rfl
@[simp] theorem fIsi_ty (tbl : List (Tg × Tg × Bool)) (x : D) (n : String) (M : Sto) (Q : D → Sto → Prop) : fIsi tbl [x, .ty n] M Q = isS (tagOf M x) fun a => ∃ r, (a, .ty n, r) ∈ tbl ∧ Q (.bl r) M := by
  apply propext
  constructor
  · rintro ⟨x, c, a, b, r, e, h, h2, h3, q⟩
    simp at e
    obtain ⟨rfl, rfl⟩ := e
    rcases h2 with ⟨m, e1, rfl⟩ | ⟨m, e1, rfl⟩
    · cases e1
      exact ⟨a, h, r, h3, q⟩
    · cases e1
  · rintro ⟨a, h, r, h3, q⟩
    exact ⟨x, _, a, _, r, rfl, h, .inl ⟨n, rfl, rfl⟩, h3, q⟩
@[simp] theorem fIsi_cls (tbl : List (Tg × Tg × Bool)) (x : D) (n : Str) (M : Sto) (Q : D → Sto → Prop) : fIsi tbl [x, .cls n] M Q = isS (tagOf M x) fun a => ∃ r, (a, .cls n, r) ∈ tbl ∧ Q (.bl r) M := by
  apply propext
  constructor
  · rintro ⟨x, c, a, b, r, e, h, h2, h3, q⟩
    simp at e
    obtain ⟨rfl, rfl⟩ := e
    rcases h2 with ⟨m, e1, rfl⟩ | ⟨m, e1, rfl⟩
    · cases e1
    · cases e1
      exact ⟨a, h, r, h3, q⟩
  · rintro ⟨a, h, r, h3, q⟩
    exact ⟨x, _, a, _, r, rfl, h, .inr ⟨n, rfl, rfl⟩, h3, q⟩
@[simp] theorem fOwn_ob (c c1 c2 : Str) (cs : List Str) (φ : Fn) (fs gs : List (Str × D)) (M : Sto) (Q : D → Sto → Prop) : fOwn c cs φ (.ob c1 fs) (.ob c2 gs) M Q = (c1 = c ∧ c2 ∈ cs ∧ φ [.ob c1 fs, .ob c2 gs] M Q) := by
  apply propext
  constructor
  · rintro ⟨a, b, d, e1, e2, h, q⟩
    cases e1
    cases e2
    exact ⟨rfl, h, q⟩
  · rintro ⟨rfl, h, q⟩
    exact ⟨_, _, _, rfl, rfl, h, q⟩
theorem tset_len : ∀ ns : List (List Int), (tset ns).length ≤ ns.length
  | [] => by simp [tset]
  | x :: r => by
    have h := tset_len r
    have hi : ∀ l : List (List Int), (insT x l).length ≤ l.length + 1 := by
      intro l
      induction l with
      | nil => simp [insT]
      | cons y l ih =>
        unfold insT
        split
        · simp
        · split
          · simp
          · simp only [List.length_cons]
            omega
    have h2 := hi (tset r)
    show (insT x (tset r)).length ≤ _
    rw [List.length_cons]
    omega
theorem sum_le {α : Type} (f : α → Nat) (k : Nat) : ∀ xs : List α, (∀ x ∈ xs, f x ≤ k) → (xs.map f).sum ≤ xs.length * k
  | [], _ => by simp
  | x :: xs, h => by
    have h1 := h x List.mem_cons_self
    have h2 := sum_le f k xs fun y hy => h y (List.mem_cons_of_mem _ hy)
    simp only [List.map_cons, List.sum_cons, List.length_cons]
    rw [Nat.succ_mul]
    omega
def revD (d : D) (Q : D → Prop) : Prop := ∃ ds, d = .tup ds ∧ Q (.tup ds.reverse)
@[simp] theorem dRevT_ev (A : WE) (δ : Dn) (M : Sto) (Q : D → Sto → Prop) : dRevT A δ M Q = A δ M fun d M1 => revD d fun r => Q r M1 := rfl
@[simp] theorem revD_tup (ds : List D) (Q : D → Prop) : revD (.tup ds) Q = Q (.tup ds.reverse) := by simp [revD]
@[simp] theorem fIsB_ev (a b : Bool) (M : Sto) (Q : D → Sto → Prop) : fIsB (.bl a) (.bl b) M Q = Q (.bl (decide (a = b))) M := by simp [fIsB]
@[simp] theorem fNotB_ev (a b : Bool) (M : Sto) (Q : D → Sto → Prop) : fNotB (.bl a) (.bl b) M Q = Q (.bl (!decide (a = b))) M := by simp [fNotB]
@[simp] theorem dProp_ev (c : Str) (φ : Fn) (A : WE) (δ : Dn) (M : Sto) (Q : D → Sto → Prop) : dProp c φ A δ M Q = A δ M fun d M1 => propD M1 c d (φ [d] M1 Q) := rfl
@[simp] theorem propD_ob (M : Sto) (c c' : Str) (fs : List (Str × D)) (Q : Prop) : propD M c (.ob c' fs) Q = (c' = c ∧ Q) := by
  apply propext
  constructor
  · rintro ⟨gs, e, h⟩
    cases e
    exact ⟨rfl, h⟩
  · rintro ⟨rfl, h⟩
    exact ⟨fs, rfl, h⟩
@[simp] theorem propD_cell (M : Sto) (c : Str) (n : Nat) (Q : Prop) : propD M c (.cell n) Q = isOo M[n]? fun c' fs => c' = c ∧ Q := by
  apply propext
  constructor
  · rintro ⟨gs, e, h⟩
    refine ⟨c, gs, ?_, rfl, h⟩
    unfold obOf at e
    simp only at e
    split at e
    · rename_i e2
      cases e
      exact e2
    · cases e
  · rintro ⟨c', fs, e, rfl, h⟩
    exact ⟨fs, by simp [obOf, e], h⟩
theorem flat_ints (xs : List Int) : (xs.map D.int).all flatD = true := by
  rw [List.all_eq_true]
  intro d hd
  obtain ⟨i, _, rfl⟩ := List.mem_map.mp hd
  rfl
theorem mem_ints (a : Int) (xs : List Int) : D.int a ∈ xs.map D.int ↔ a ∈ xs := by
  constructor
  · intro h
    obtain ⟨b, hb, e⟩ := List.mem_map.mp h
    cases e
    exact hb
  · exact fun h => List.mem_map.mpr ⟨a, h, rfl⟩
theorem fInC_seq (neg : Bool) (a : Int) (xs : List Int) (d : D) (M : Sto) (Q : D → Sto → Prop) (h : seqOf M d = some (xs.map D.int)) : fInC neg (.int a) d M Q = Q (.bl (if neg = true then !decide (a ∈ xs) else decide (a ∈ xs))) M := by
  have e : decide (D.int a ∈ xs.map D.int) = decide (a ∈ xs) := decide_eq_decide.mpr (mem_ints a xs)
  apply propext
  constructor
  · rintro (⟨ds, e1, _, _, q⟩ | ⟨ds, e1, _, _, q⟩)
    · rw [h] at e1
      cases e1
      rw [e] at q
      exact q
    · have : seqOf M d = some ds := by
        cases d with
        | tup es => cases e1
        | lst es => exact e1
        | cell n => exact e1
        | _ => cases e1
      rw [h] at this
      cases this
      rw [e] at q
      exact q
  · intro q
    refine .inl ⟨_, h, rfl, flat_ints xs, ?_⟩
    rw [e]
    exact q
@[simp] theorem fIn_tup (a : Int) (xs : List Int) (M : Sto) (Q : D → Sto → Prop) : fInC false (.int a) (.tup (xs.map D.int)) M Q = Q (.bl (decide (a ∈ xs))) M := fInC_seq false a xs _ M Q rfl
@[simp] theorem fNin_tup (a : Int) (xs : List Int) (M : Sto) (Q : D → Sto → Prop) : fInC true (.int a) (.tup (xs.map D.int)) M Q = Q (.bl (!decide (a ∈ xs))) M := fInC_seq true a xs _ M Q rfl
@[simp] theorem fIn_lst (a : Int) (xs : List Int) (M : Sto) (Q : D → Sto → Prop) : fInC false (.int a) (.lst (xs.map D.int)) M Q = Q (.bl (decide (a ∈ xs))) M := fInC_seq false a xs _ M Q rfl
@[simp] theorem fNin_lst (a : Int) (xs : List Int) (M : Sto) (Q : D → Sto → Prop) : fInC true (.int a) (.lst (xs.map D.int)) M Q = Q (.bl (!decide (a ∈ xs))) M := fInC_seq true a xs _ M Q rfl
def isC (d : D) (Q : Nat → Prop) : Prop := ∃ i, d = .cell i ∧ Q i
@[simp] theorem isC_cell (i : Nat) (Q : Nat → Prop) : isC (.cell i) Q = Q i := by simp [isC]
@[simp] theorem dAugF_ev (cs : List Str) (f : Str) (A B : WE) (E : DE) (δ : Dn) (M : Sto) : dAugF cs f A B E δ M = A δ M fun d M1 => isC d fun n => isOo M1[n]? fun c fs => c ∈ cs ∧ isS (fs.lookup f) fun v => isI v fun i =>
    B δ M1 fun y M2 => isI y fun j => isOo M2[n]? fun c2 fs2 => c2 = c ∧ fs2.length < 1000 ∧ E.nx δ (M2.set n (.ob c (putD f (.int (i + j)) fs2))) := by
  unfold dAugF
  refine congrArg (A δ M) (funext fun d => funext fun M1 => propext ⟨?_, ?_⟩)
  · rintro ⟨n, c, fs, i, rfl, h1, h2, h3, h4⟩
    refine ⟨n, rfl, c, fs, h1, h2, _, h3, i, rfl, ?_⟩
    have e : (fun (y : D) (M2 : Sto) => isI y fun j => isOo M2[n]? fun c2 fs2 => c2 = c ∧ fs2.length < 1000 ∧ E.nx δ (M2.set n (.ob c (putD f (.int (i + j)) fs2)))) = fun y M2 => ∃ j fs2, y = .int j ∧ M2[n]? = some (.ob c fs2) ∧ fs2.length < 1000 ∧ E.nx δ (M2.set n (.ob c (putD f (.int (i + j)) fs2))) := by
      refine funext fun y => funext fun M2 => propext ⟨?_, ?_⟩
      · rintro ⟨j, rfl, c2, fs2, e, rfl, q⟩
        exact ⟨j, fs2, rfl, e, q⟩
      · rintro ⟨j, fs2, rfl, e, q⟩
        exact ⟨j, rfl, c, fs2, e, rfl, q⟩
    exact (congrArg (B δ M1) e).mpr h4
  · rintro ⟨n, rfl, c, fs, h1, h2, _, h3, i, rfl, h4⟩
    refine ⟨n, c, fs, i, rfl, h1, h2, h3, ?_⟩
    have e : (fun (y : D) (M2 : Sto) => isI y fun j => isOo M2[n]? fun c2 fs2 => c2 = c ∧ fs2.length < 1000 ∧ E.nx δ (M2.set n (.ob c (putD f (.int (i + j)) fs2)))) = fun y M2 => ∃ j fs2, y = .int j ∧ M2[n]? = some (.ob c fs2) ∧ fs2.length < 1000 ∧ E.nx δ (M2.set n (.ob c (putD f (.int (i + j)) fs2))) := by
      refine funext fun y => funext fun M2 => propext ⟨?_, ?_⟩
      · rintro ⟨j, rfl, c2, fs2, e, rfl, q⟩
        exact ⟨j, fs2, rfl, e, q⟩
      · rintro ⟨j, fs2, rfl, e, q⟩
        exact ⟨j, rfl, c, fs2, e, rfl, q⟩
    exact (congrArg (B δ M1) e).mp h4
end DL


set_option Elab.async false
set_option linter.all false
set_option autoImplicit false
set_option maxRecDepth 100000
set_option maxHeartbeats 4000000
namespace DL
open PySem PySem.Spec PyProof.Rows L2 TL
/-! ### numerals -/
theorem num_pos {n : Int} (h : 0 ≤ n) : tl (num n) = numL n.toNat := by
  obtain ⟨m, rfl⟩ := Int.eq_ofNat_of_zero_le h
  unfold num
  rw [tl_num]
  rfl
theorem num_neg {n : Int} (h : n < 0) : tl (num n) = 45 :: numL (-n).toNat := by
  have e : tl (num n) = ("-" ++ toString (0 - n)).toList.map Char.toNat := by
    unfold num
    rw [tl_ofString, toString_neg h]
  have e2 := num_pos (n := 0 - n) (by omega)
  unfold num at e2
  rw [tl_ofString] at e2
  rw [e, String.toList_append, List.map_append, e2]
  have : (0 - n).toNat = (-n).toNat := by omega
  rw [this]
  rfl
/-- the digits of an int -/
def dig (n : Int) : List Nat := numL n.natAbs
theorem num_cases (n : Int) : (0 ≤ n ∧ tl (num n) = dig n) ∨ (n < 0 ∧ tl (num n) = 45 :: dig n) := by
  by_cases h : 0 ≤ n
  · refine .inl ⟨h, ?_⟩
    rw [num_pos h]
    unfold dig
    congr 1
    omega
  · refine .inr ⟨by omega, ?_⟩
    rw [num_neg (by omega)]
    unfold dig
    congr 2
    omega
theorem num_free {n : Int} {s : Nat} (h : s ≠ 45 ∧ (s < 48 ∨ 57 < s)) : s ∉ tl (num n) := by
  rcases num_cases n with ⟨_, e⟩ | ⟨_, e⟩
  · rw [e]
    exact numL_free h.2
  · rw [e]
    intro hm
    rcases List.mem_cons.mp hm with hm | hm
    · exact h.1 hm
    · exact numL_free h.2 hm
theorem num_len {n : Int} {k : Nat} (hk : 0 < k) (h : n.natAbs < 10 ^ k) : (num n).length ≤ k + 1 := by
  have h1 := numL_len hk h
  rw [len_tl]
  rcases num_cases n with ⟨_, e⟩ | ⟨_, e⟩
  · rw [e]
    unfold dig
    omega
  · rw [e, List.length_cons]
    unfold dig
    omega
theorem num_int {n : Int} (h : (num n).length ≤ 640) : PySem.intText? (num n) = some n := by
  rw [len_tl] at h
  rcases num_cases n with ⟨h0, e⟩ | ⟨h0, e⟩
  · obtain ⟨m, rfl⟩ := Int.eq_ofNat_of_zero_le h0
    unfold num at h ⊢
    rw [tl_num] at h
    exact int_num (by omega)
  · rw [e, List.length_cons] at h
    have := PySem.intText_neg (x := num n) (cs := dig n) e (numL_digits _) (numL_ne _) (by rw [len_tl, e, List.length_cons]; omega)
    refine Eq.trans this ?_
    unfold dig
    rw [numL_val]
    congr 1
    omega
theorem numL_head {n : Nat} (h : 0 < n) : ∃ c r, numL n = c :: r ∧ c ≠ 48 := by
  induction n using Nat.strongRecOn with
  | _ n ih =>
    by_cases h1 : n < 10
    · rw [numL_lt h1]
      exact ⟨_, _, rfl, by omega⟩
    · rw [numL_step (by omega)]
      obtain ⟨c, r, e, hc⟩ := ih (n / 10) (by omega) (by omega)
      rw [e]
      exact ⟨c, r ++ [48 + n % 10], rfl, hc⟩
theorem log2_of {i : Int} {k : Nat} (h : i.natAbs < 2 ^ k) (hk : 0 < k) : i.natAbs.log2 < k := by
  by_cases h0 : i.natAbs = 0
  · rw [h0]
    simpa using hk
  · exact (Nat.log2_lt h0).mpr h
/-! ### texts by their signs -/
theorem startswith_pre {x y : Str} (hy : tl y ≠ []) : Txt.startswith x y = pre (tl y) (tl x) := by
  have h := at_iff (x := x) hy 0
  rw [List.drop_zero] at h
  unfold Txt.startswith
  by_cases hp : pre (tl y) (tl x) = true
  · rw [hp]
    have := h.mpr hp
    rw [decide_eq_true this.1, this.2]
    rfl
  · have hn : pre (tl y) (tl x) = false := by simpa using hp
    rw [hn]
    cases hc : (decide (0 + y.length ≤ x.length) && Builtin.Str.subAt x y 0)
    · rfl
    · rw [Bool.and_eq_true] at hc
      exact absurd (h.mp ⟨of_decide_eq_true hc.1, hc.2⟩) hp
theorem cutS_one (x : Str) : tl (cutS x (some 1) none) = (tl x).drop 1 := by
  unfold cutS
  show ((x.cps.toList.drop (HT.sIx x.length 0 (some ((1 : Nat) : Int)))).take (HT.sIx x.length x.length none - HT.sIx x.length 0 (some ((1 : Nat) : Int)))) = _
  rw [HT.sIx_nat, HT.sIx_none]
  have hl := len_tl x
  by_cases h : 1 ≤ x.length
  · rw [Nat.min_eq_left h, List.take_of_length_le]
    rw [List.length_drop, ← len_tl]
    omega
  · have e : tl x = [] := List.eq_nil_of_length_eq_zero (by omega)
    show ((tl x).drop _).take _ = _
    rw [e]
    simp
theorem cutD_one (xs : List D) : cutD xs (some 1) none = xs.drop 1 := by
  unfold cutD
  show ((xs.drop (HT.sIx xs.length 0 (some ((1 : Nat) : Int)))).take (HT.sIx xs.length xs.length none - HT.sIx xs.length 0 (some ((1 : Nat) : Int)))) = _
  rw [HT.sIx_nat, HT.sIx_none, List.take_of_length_le]
  · by_cases h : 1 ≤ xs.length
    · rw [Nat.min_eq_left h]
    · have e : xs = [] := List.eq_nil_of_length_eq_zero (by omega)
      rw [e]
      simp
  · rw [List.length_drop]
    omega
theorem cutD_to (xs : List D) (k : Nat) : cutD xs none (some (k : Int)) = xs.take k := by
  unfold cutD
  rw [HT.sIx_nat, HT.sIx_none, List.drop_zero, Nat.sub_zero]
  by_cases h : k ≤ xs.length
  · rw [Nat.min_eq_left h]
  · rw [Nat.min_eq_right (by omega), List.take_of_length_le (Nat.le_refl _), List.take_of_length_le (by omega)]
theorem cutD_butlast (xs : List D) : cutD xs none (some (-1)) = xs.take (xs.length - 1) := by
  unfold cutD
  rw [HT.sIx_none, List.drop_zero, Nat.sub_zero]
  show xs.take (if (-1 : Int) < 0 then (-1 + (xs.length : Int)).toNat else min (-1 : Int).toNat xs.length) = _
  rw [if_pos (by decide)]
  congr 1
  omega
theorem cutD_from (xs : List D) (k : Nat) : cutD xs (some (k : Int)) none = xs.drop k := by
  unfold cutD
  rw [HT.sIx_nat, HT.sIx_none]
  by_cases h : k ≤ xs.length
  · rw [Nat.min_eq_left h, List.take_of_length_le]
    rw [List.length_drop]
    omega
  · rw [Nat.min_eq_right (by omega), List.drop_of_length_le (Nat.le_refl _), List.drop_of_length_le (by omega), List.take_nil]
theorem joinL_nil : ∀ ls : List (List Nat), joinL [] ls = ls.flatten
  | [] => rfl
  | [p] => by simp [joinL]
  | p :: q :: r => by
    show p ++ ([] ++ joinL [] (q :: r)) = _
    rw [joinL_nil (q :: r)]
    simp
theorem len_app (x y : Str) : (x ++ y).length = x.length + y.length := by
  rw [len_tl, len_tl, len_tl, tl_append, List.length_append]
theorem tl_join0 (xs : List Str) : tl (Txt.join (Str.ofString "") xs) = (xs.map tl).flatten := by
  rw [join_eq, tl_join]
  exact joinL_nil _
theorem len_join0 (xs : List Str) : (Txt.join (Str.ofString "") xs).length = (xs.map (·.length)).sum := by
  rw [len_tl, tl_join0, List.length_flatten, List.map_map]
  have e : xs.map ((fun l : List Nat => l.length) ∘ tl) = xs.map (·.length) := List.map_congr_left fun x _ => (len_tl x).symm
  first
    | rw [e]
    | exact congrArg List.sum e
theorem len_joinL (S : List Nat) : ∀ ls : List (List Nat), (joinL S ls).length ≤ (ls.map (·.length)).sum + ls.length * S.length
  | [] => by simp [joinL]
  | [p] => by simp [joinL]
  | p :: q :: r => by
    have := len_joinL S (q :: r)
    show (p ++ (S ++ joinL S (q :: r))).length ≤ _
    rw [List.length_append, List.length_append]
    simp only [List.map_cons, List.sum_cons, List.length_cons, Nat.succ_mul] at this ⊢
    omega
theorem len_join (y : Str) (xs : List Str) : (Txt.join y xs).length ≤ (xs.map (·.length)).sum + xs.length * y.length := by
  have := len_joinL (tl y) (xs.map tl)
  rw [List.map_map, List.length_map] at this
  rw [len_tl, join_eq, tl_join]
  have e : xs.map ((fun l : List Nat => l.length) ∘ tl) = xs.map (·.length) := List.map_congr_left fun x _ => (len_tl x).symm
  rw [e, ← len_tl y] at this
  exact this
@[simp] theorem len_lit (s : String) : (Str.ofString s).length = s.toList.length := by rw [len_tl, tl_ofString, List.length_map]
theorem num_ne (n : Int) : tl (num n) ≠ [] := by
  rcases num_cases n with ⟨_, e⟩ | ⟨_, e⟩
  · rw [e]
    exact numL_ne _
  · rw [e]
    simp
theorem num_inj {m n : Int} (hm : (num m).length ≤ 640) (h : num m = num n) : m = n := by
  have h1 := num_int hm
  rw [h, num_int (h ▸ hm)] at h1
  exact (Option.some.inj h1).symm
end DL


set_option Elab.async false
set_option linter.all false
set_option autoImplicit false
set_option maxRecDepth 100000
set_option maxHeartbeats 4000000
namespace DL
open PySem PySem.Spec PyProof.Rows L2
/-! ### equations for whole functions -/
@[simp] theorem retD_same (M : Sto) (Q : D → Sto → Prop) (d : D) : retD M Q d M = Q d M := by
  apply propext
  constructor
  · rintro (q | ⟨M1, ⟨R, e, hl, _⟩, _, q⟩)
    · exact q
    · have h := congrArg List.length e
      rw [List.length_append] at h
      have : R = [] := List.eq_nil_of_length_eq_zero (by omega)
      subst this
      rw [List.append_nil] at e
      rw [e]
      exact q
  · exact .inl
theorem retD_same2 (M : Sto) (Q : D → Sto → Prop) : (fun d => retD M Q d M) = fun d => Q d M := funext fun d => retD_same M Q d
theorem compD_eq {α : Type} {it : ItD} {p : Pat} {T : WT} {A : WE} {δ0 : Dn} {M : Sto} {Q : List D → Sto → Prop} (F f : α → D) (c : α → Bool) (ok : it.ok M)
    : ∀ (xs : List α) (acc : List D), (∀ x ∈ xs, ∀ (k1 : D → Sto → Prop) (k0 : Sto → Prop), (patD p (F x) δ0 fun δ1 => T δ1 M fun b M1 => (b = true → A δ1 M1 k1) ∧ (b = false → k0 M1)) = ((c x = true → k1 (f x) M) ∧ (c x = false → k0 M))) →
      acc.length + xs.length ≤ sizeLine → compD it p T A δ0 (xs.map F) acc M Q = Q (acc ++ (xs.filter c).map f) M
  | [], acc, _, _ => by
    show (it.ok M ∧ Q acc M) = _
    simp [ok]
  | x :: xs, acc, h, hl => by
    rw [List.length_cons] at hl
    have h1 := compD_eq F f c ok (Q := Q) xs (acc ++ [f x]) (fun y hy => h y (List.mem_cons_of_mem _ hy)) (by rw [List.length_append, List.length_singleton]; omega)
    have h2 := compD_eq F f c ok (Q := Q) xs acc (fun y hy => h y (List.mem_cons_of_mem _ hy)) (by omega)
    have hx := h x List.mem_cons_self (fun e M2 => acc.length < sizeLine ∧ compD it p T A δ0 (xs.map F) (acc ++ [e]) M2 Q) (fun M1 => compD it p T A δ0 (xs.map F) acc M1 Q)
    have hd : acc.length < sizeLine := by omega
    show (it.ok M ∧ patD p (F x) δ0 fun δ1 => T δ1 M fun b M1 => if b = true then A δ1 M1 fun e M2 => acc.length < sizeLine ∧ compD it p T A δ0 (xs.map F) (acc ++ [e]) M2 Q else compD it p T A δ0 (xs.map F) acc M1 Q) = _
    simp only [iteP]
    rw [hx, h1, h2]
    cases hc : c x with
    | true => simp [ok, hd, List.filter_cons, hc]
    | false => simp [ok, List.filter_cons, hc]
theorem compD_map {α : Type} {it : ItD} {p : Pat} {A : WE} {δ0 : Dn} {M : Sto} {Q : List D → Sto → Prop} (F f : α → D) (xs : List α) (ok : it.ok M)
    (h : ∀ x ∈ xs, ∀ k : D → Sto → Prop, (patD p (F x) δ0 fun δ1 => A δ1 M k) = k (f x) M) (hl : xs.length ≤ sizeLine) : compD it p dYes A δ0 (xs.map F) [] M Q = Q (xs.map f) M := by
  rw [compD_eq F f (fun _ => true) ok xs [] (fun x hx k1 k0 => ?_) (by simpa using hl)]
  · rw [List.filter_eq_self.mpr fun _ _ => rfl, List.nil_append]
  · have := h x hx k1
    simp only [dYes, true_implies, Bool.true_eq_false, false_implies, and_true, Bool.false_eq_true, reduceCtorEq] at this ⊢
    exact this
@[simp] theorem ints_eq (a b : List Int) : (a.map D.int = b.map D.int) = (a = b) := propext ⟨ints_inj, fun h => by rw [h]⟩
@[simp] theorem tups_eq (a b : List (List Int)) : (a.map tupI = b.map tupI) = (a = b) := propext ⟨tups_inj, fun h => by rw [h]⟩
@[simp] theorem dTupR_ev (A : WE) (δ : Dn) (M : Sto) (Q : D → Sto → Prop) : dTupR A δ M Q = A δ M fun d M1 => isI d fun n => n ≤ 16777216 ∧ 0 ≤ n ∧ Q (.tup (dRng 0 n.toNat)) M1 := rfl
theorem ok_str {x : Str} (h : ∀ c ∈ TL.tl x, c < 1114112) : PyData.canLay0 (.str x) = true := by
  show x.cps.all (· < 0x110000) = true
  rw [Array.all_eq_true]
  intro i hi
  refine decide_eq_true (h _ ?_)
  show x.cps[i] ∈ x.cps.toList
  exact Array.getElem_mem_toList hi
theorem ok_lit {s : String} : PyData.canLay0 (.str (Str.ofString s)) = true := by
  refine ok_str fun c hc => ?_
  rw [TL.tl_ofString] at hc
  obtain ⟨ch, _, rfl⟩ := List.mem_map.mp hc
  have := ch.valid
  have h2 : ch.toNat = ch.val.toNat := rfl
  rw [h2]
  rcases this with h | h
  · have : ch.val.toNat < 55296 := h
    omega
  · have : ch.val.toNat < 1114112 := h.2
    omega
/-! ### sets within 0 .. n-1 -/
def rangeI (n : Int) : List Int := (List.range n.toNat).map fun (i : Nat) => (i : Int)
theorem dRng_int (n : Int) : dRng 0 n.toNat = (rangeI n).map D.int := by
  rw [dRng_map, rangeI, List.map_map]
  simp only [Int.zero_add]
  rfl
theorem mem_rangeI {n c : Int} : c ∈ rangeI n ↔ 0 ≤ c ∧ c < n := by
  unfold rangeI
  rw [List.mem_map]
  constructor
  · rintro ⟨a, ha, rfl⟩
    have := List.mem_range.mp ha
    omega
  · rintro ⟨h0, h1⟩
    exact ⟨c.toNat, List.mem_range.mpr (by omega), by omega⟩
theorem rangeI_pw (n : Int) : (rangeI n).Pairwise (· < ·) := by
  unfold rangeI
  rw [List.pairwise_map]
  exact List.pairwise_lt_range.imp fun h => by omega
theorem rangeI_len (n : Int) : (rangeI n).length = n.toNat := by simp [rangeI]
def St (n : Int) (a : List Int) : Prop := a.Pairwise (· < ·) ∧ ∀ c ∈ a, 0 ≤ c ∧ c < n
theorem st_range (n : Int) : St n (rangeI n) := ⟨rangeI_pw n, fun c h => mem_rangeI.mp h⟩
theorem pw_len (n : Int) : ∀ (a : List Int) (lo : Int), a.Pairwise (· < ·) → (∀ c ∈ a, lo ≤ c ∧ c < n) → (a.length : Int) ≤ max 0 (n - lo)
  | [], lo, _, _ => by
    simp only [List.length_nil]
    omega
  | x :: a, lo, h, hb => by
    have h1 := List.pairwise_cons.mp h
    have hx := hb x List.mem_cons_self
    have ih := pw_len n a (x + 1) h1.2 fun c hc => ⟨by have := h1.1 c hc; omega, (hb c (List.mem_cons_of_mem _ hc)).2⟩
    rw [List.length_cons]
    omega
theorem St.len {n : Int} {a : List Int} (h : St n a) : a.length ≤ n.toNat := by
  have := pw_len n a 0 h.1 h.2
  omega
theorem St.sub {n : Int} {a b : List Int} (h : St n a) (hs : b.Sublist a) : St n b := ⟨h.1.sublist hs, fun c hc => h.2 c (hs.subset hc)⟩
theorem St.filter {n : Int} {a : List Int} (h : St n a) (p : Int → Bool) : St n (a.filter p) := h.sub List.filter_sublist
theorem st_sset {n : Int} {a : List Int} (h : ∀ c ∈ a, 0 ≤ c ∧ c < n) : St n (sset a) := ⟨sset_pw a, fun c hc => h c ((mem_sset c a).mp hc)⟩
theorem St.id {n : Int} {a : List Int} (h : St n a) : sset a = a := sset_id h.1
theorem St.union {n : Int} {a b : List Int} (ha : St n a) (hb : St n b) : St n (sset (a ++ b)) := st_sset fun c hc => (List.mem_append.mp hc).elim (ha.2 c) (hb.2 c)
theorem St.ext {n m : Int} {a b : List Int} (ha : St n a) (hb : St m b) (h : ∀ k, k ∈ a ↔ k ∈ b) : a = b := pw_ext ha.1 hb.1 h
instance (n : Int) (a : List Int) : Decidable (St n a) := by unfold St; infer_instance
theorem st_filter_range (n : Int) (a : List Int) : (a = (rangeI n).filter fun k => decide (k ∈ a)) ↔ St n a := by
  constructor
  · intro h
    rw [h]
    exact (st_range n).filter _
  · intro h
    refine h.ext ((st_range n).filter _) fun k => ?_
    rw [List.mem_filter, decide_eq_true_iff, mem_rangeI]
    exact ⟨fun hk => ⟨h.2 k hk, hk⟩, fun hk => hk.2⟩
theorem st_sset_range (n : Int) (a : List Int) : (a = sset a ∧ ∀ c ∈ a, c ∈ rangeI n) ↔ St n a := by
  constructor
  · rintro ⟨h, hb⟩
    refine ⟨?_, fun c hc => mem_rangeI.mp (hb c hc)⟩
    rw [h]
    exact sset_pw a
  · exact fun h => ⟨h.id.symm, fun c hc => mem_rangeI.mpr (h.2 c hc)⟩
@[simp] theorem retD_len (M0 M' : Sto) (Q : D → Sto → Prop) (d : D) (h : M'.length = M0.length) : retD M0 Q d M' = Q d M' := by
  apply propext
  constructor
  · rintro (q | ⟨M1, ⟨R, e, hl, _⟩, _, q⟩)
    · exact q
    · have h2 := congrArg List.length e
      rw [List.length_append] at h2
      have : R = [] := List.eq_nil_of_length_eq_zero (by omega)
      subst this
      rw [List.append_nil] at e
      rw [e]
      exact q
  · exact .inl
end DL


set_option Elab.async false
set_option linter.all false
set_option autoImplicit false
set_option maxRecDepth 100000
set_option maxHeartbeats 4000000
namespace Law
open PySem PySem.Spec PyProof.Rows L2 DL
/-! ### the text -/
def topS (i : Nat) : Stmt := PySem.Challenge.pw_followsortable_k52_derivations_taken.main.body.getD i (.Pass ⟨0, 0, 0, 0⟩)
def isiTbl : List (Tg × Tg × Bool) := [(.cls "Fd", .cls "Fd", true), (.cls "Fd", .cls "Mvd", false), (.cls "Fd", .cls "Jd", false), (.cls "Mvd", .cls "Fd", false), (.cls "Mvd", .cls "Mvd", true), (.cls "Mvd", .cls "Jd", false), (.cls "Jd", .cls "Fd", false), (.cls "Jd", .cls "Mvd", false), (.cls "Jd", .cls "Jd", true), (.ty "NoneType", .cls "Fd", false), (.ty "NoneType", .cls "Mvd", false), (.ty "int", .ty "tuple", false), (.ty "tuple", .ty "tuple", true), (.ty "bool", .ty "bool", true)]
structure Blt (mg : Str → Option Value) : Prop where
  len : mg "len" = none
  range : mg "range" = none
  enumerate : mg "enumerate" = none
  zip : mg "zip" = none
  sorted : mg "sorted" = none
  set : mg "set" = none
  all : mg "all" = none
  any : mg "any" = none
  isinstance : mg "isinstance" = none
  max : mg "max" = none
  min : mg "min" = none
  reversed : mg "reversed" = none
  tuple_ : mg "tuple" = none
  list_ : mg "list" = none
  int_ : mg "int" = none
  str_ : mg "str" = none
  dict_ : mg "dict" = none
  bool_ : mg "bool" = none
structure Txt (K : PySem.W.Frag) (mg : Str → Option Value) : Prop where
  f_Fd_left : FldF K mg "Fd" "left"
  f_Fd_right : FldF K mg "Fd" "right"
  f_Jd_parts : FldF K mg "Jd" "parts"
  f_Mvd_left : FldF K mg "Mvd" "left"
  f_Mvd_right : FldF K mg "Mvd" "right"
  c_Fd : ∃ C, mg "Fd" = some (.ref C)
  c_Jd : ∃ C, mg "Jd" = some (.ref C)
  c_Mvd : ∃ C, mg "Mvd" = some (.ref C)
  n_Fd_Fd : NotF K mg "Fd" "Fd"
  n_Fd_Jd : NotF K mg "Fd" "Jd"
  n_Fd_Mvd : NotF K mg "Fd" "Mvd"
  n_Mvd_Fd : NotF K mg "Mvd" "Fd"
  n_Mvd_Jd : NotF K mg "Mvd" "Jd"
  n_Mvd_Mvd : NotF K mg "Mvd" "Mvd"
  isi : ∀ a b r, (a, b, r) ∈ isiTbl → IsiF K mg a b r
structure Cst (mg : Str → Option Value) : Prop where
  triv : True
abbrev s_as_set : Stmt := topS 1
abbrev N_as_set : List Str := ["columns"]
theorem sc_as_set : FnScope ["columns"] ["columns"] (defScope s_as_set) := ⟨rfl, rfl, rfl, by decide +kernel, rfl, by decide +kernel, by decide +kernel⟩
def phi_as_set : Fn := fnD 1 (
  dRet (dCB fTuple (aCons (dSSet (dVar 0)) (aNil))))
abbrev s_united : Stmt := topS 2
abbrev N_united : List Str := ["a", "b"]
theorem sc_united : FnScope ["a", "b"] ["a", "b"] (defScope s_united) := ⟨rfl, rfl, rfl, by decide +kernel, rfl, by decide +kernel, by decide +kernel⟩
def phi_united : Fn := fnD 2 (
  dRet (dCall 1 phi_as_set (aCons (dOp fAdd (dCB fList (aCons (dVar 0) (aNil))) (dCB fList (aCons (dVar 1) (aNil)))) (aNil))))
abbrev s_met : Stmt := topS 3
abbrev N_met : List Str := ["a", "b", "column"]
theorem sc_met : FnScope ["a", "b", "column"] ["a", "b"] (defScope s_met) := ⟨rfl, rfl, rfl, by decide +kernel, rfl, by decide +kernel, by decide +kernel⟩
def phi_met : Fn := fnD 3 (
  dRet (dCB fTuple (aCons (dComp [2] (dItS (dVar 0)) (.nm 2) (dTst (dOp fIn (dVar 2) (dVar 1))) (dVar 2)) (aNil))))
abbrev s_less : Stmt := topS 4
abbrev N_less : List Str := ["a", "b", "column"]
theorem sc_less : FnScope ["a", "b", "column"] ["a", "b"] (defScope s_less) := ⟨rfl, rfl, rfl, by decide +kernel, rfl, by decide +kernel, by decide +kernel⟩
def phi_less : Fn := fnD 3 (
  dRet (dCB fTuple (aCons (dComp [2] (dItS (dVar 0)) (.nm 2) (dTst (dOp fNin (dVar 2) (dVar 1))) (dVar 2)) (aNil))))
abbrev s_is_within : Stmt := topS 5
abbrev N_is_within : List Str := ["a", "b", "column"]
theorem sc_is_within : FnScope ["a", "b", "column"] ["a", "b"] (defScope s_is_within) := ⟨rfl, rfl, rfl, by decide +kernel, rfl, by decide +kernel, by decide +kernel⟩
def phi_is_within : Fn := fnD 3 (
  dRet (dCB fAll (aCons (dComp [2] (dItS (dVar 0)) (.nm 2) (dYes) (dOp fIn (dVar 2) (dVar 1))) (aNil))))
abbrev s_whole : Stmt := topS 6
abbrev N_whole : List Str := ["count"]
theorem sc_whole : FnScope ["count"] ["count"] (defScope s_whole) := ⟨rfl, rfl, rfl, by decide +kernel, rfl, by decide +kernel, by decide +kernel⟩
def phi_whole : Fn := fnD 1 (
  dRet (dTupR (dVar 0)))
abbrev s_Sides___init__ : Stmt := inClass (topS 8) 0
abbrev N_Sides___init__ : List Str := ["self", "left", "right"]
theorem sc_Sides___init__ : FnScope ["self", "left", "right"] ["self", "left", "right"] (defScope s_Sides___init__) := ⟨rfl, rfl, rfl, by decide +kernel, rfl, by decide +kernel, by decide +kernel⟩
def phi_Sides___init__ : Fn := fnD 3 (
  dSeq (dSetF ["Fd", "Mvd"] "left" (dVar 0) (dCall 1 phi_as_set (aCons (dVar 1) (aNil))))
  (dSetF ["Fd", "Mvd"] "right" (dVar 0) (dCall 1 phi_as_set (aCons (dVar 2) (aNil)))))
abbrev s_Sides_key : Stmt := inClass (topS 8) 1
abbrev N_Sides_key : List Str := ["self"]
theorem sc_Sides_key : FnScope ["self"] ["self"] (defScope s_Sides_key) := ⟨rfl, rfl, rfl, by decide +kernel, rfl, by decide +kernel, by decide +kernel⟩
def phi_Sides_key : Fn := fnD 1 (
  dRet (dTup (aCons (dFld ["Fd", "Mvd"] "left" (dVar 0)) (aCons (dFld ["Fd", "Mvd"] "right" (dVar 0)) (aNil)))))
abbrev s_Fd___eq__ : Stmt := inClass (topS 9) 0
abbrev N_Fd___eq__ : List Str := ["self", "other"]
theorem sc_Fd___eq__ : FnScope ["self", "other"] ["self", "other"] (defScope s_Fd___eq__) := ⟨rfl, rfl, rfl, by decide +kernel, rfl, by decide +kernel, by decide +kernel⟩
def phi_Fd___eq__ : Fn := fnD 2 (
  dRet (dAndV (dCB (fIsi isiTbl) (aCons (dVar 1) (aCons (dC (.cls "Fd")) (aNil)))) (dOp fEq (dProp "Fd" phi_Sides_key (dVar 0)) (dProp "Fd" phi_Sides_key (dVar 1)))))
abbrev s_Mvd___eq__ : Stmt := inClass (topS 10) 0
abbrev N_Mvd___eq__ : List Str := ["self", "other"]
theorem sc_Mvd___eq__ : FnScope ["self", "other"] ["self", "other"] (defScope s_Mvd___eq__) := ⟨rfl, rfl, rfl, by decide +kernel, rfl, by decide +kernel, by decide +kernel⟩
def phi_Mvd___eq__ : Fn := fnD 2 (
  dRet (dAndV (dCB (fIsi isiTbl) (aCons (dVar 1) (aCons (dC (.cls "Mvd")) (aNil)))) (dOp fEq (dProp "Mvd" phi_Sides_key (dVar 0)) (dProp "Mvd" phi_Sides_key (dVar 1)))))
abbrev s_Jd___init__ : Stmt := inClass (topS 11) 0
abbrev N_Jd___init__ : List Str := ["self", "parts", "part"]
theorem sc_Jd___init__ : FnScope ["self", "parts", "part"] ["self", "parts"] (defScope s_Jd___init__) := ⟨rfl, rfl, rfl, by decide +kernel, rfl, by decide +kernel, by decide +kernel⟩
def phi_Jd___init__ : Fn := fnD 3 (
  dSetF ["Jd"] "parts" (dVar 0) (dCB fTuple (aCons (dComp [2] (dItS (dVar 1)) (.nm 2) (dYes) (dCall 1 phi_as_set (aCons (dVar 2) (aNil)))) (aNil))))
abbrev s_is_set : Stmt := topS 13
abbrev N_is_set : List Str := ["columns", "count"]
theorem sc_is_set : FnScope ["columns", "count"] ["columns", "count"] (defScope s_is_set) := ⟨rfl, rfl, rfl, by decide +kernel, rfl, by decide +kernel, by decide +kernel⟩
def phi_is_set : Fn := fnD 2 (
  dRet (dAndV (dOp fEq (dVar 0) (dCall 1 phi_as_set (aCons (dVar 0) (aNil)))) (dCall 2 phi_is_within (aCons (dVar 0) (aCons (dCall 1 phi_whole (aCons (dVar 1) (aNil))) (aNil))))))
abbrev s_earlier : Stmt := topS 14
abbrev N_earlier : List Str := ["made", "index"]
theorem sc_earlier : FnScope ["made", "index"] ["made", "index"] (defScope s_earlier) := ⟨rfl, rfl, rfl, by decide +kernel, rfl, by decide +kernel, by decide +kernel⟩
def phi_earlier : Fn := fnD 2 (
  dSeq (dIf (dTst (dChain fLe fLt (dC (.int 0)) (dVar 1) (dCB fLen (aCons (dVar 0) (aNil))))) (dRet (dOp fIx (dVar 0) (dVar 1))) (dNext))
  (dRet (dC .non)))
abbrev s_by_told : Stmt := topS 15
abbrev N_by_told : List Str := ["dependencies", "index"]
theorem sc_by_told : FnScope ["dependencies", "index"] ["dependencies", "index"] (defScope s_by_told) := ⟨rfl, rfl, rfl, by decide +kernel, rfl, by decide +kernel, by decide +kernel⟩
def phi_by_told : Fn := fnD 2 (
  dSeq (dIf (dAnd (dTst (dChain fLe fLt (dC (.int 0)) (dVar 1) (dCB fLen (aCons (dVar 0) (aNil))))) (dNot (dTst (dCB (fIsi isiTbl) (aCons (dOp fIx (dVar 0) (dVar 1)) (aCons (dC (.cls "Jd")) (aNil))))))) (dRet (dOp fIx (dVar 0) (dVar 1))) (dNext))
  (dRet (dC .non)))
abbrev s_by_within : Stmt := topS 16
abbrev N_by_within : List Str := ["count", "left", "right"]
theorem sc_by_within : FnScope ["count", "left", "right"] ["count", "left", "right"] (defScope s_by_within) := ⟨rfl, rfl, rfl, by decide +kernel, rfl, by decide +kernel, by decide +kernel⟩
def phi_by_within : Fn := fnD 3 (
  dSeq (dIf (dAnd (dTst (dCall 2 phi_is_set (aCons (dVar 1) (aCons (dVar 0) (aNil))))) (dAnd (dTst (dCall 2 phi_is_set (aCons (dVar 2) (aCons (dVar 0) (aNil))))) (dTst (dCall 2 phi_is_within (aCons (dVar 2) (aCons (dVar 1) (aNil))))))) (dRet (dMake "Fd" 3 phi_Sides___init__ (aCons (dVar 1) (aCons (dVar 2) (aNil))))) (dNext))
  (dRet (dC .non)))
abbrev s_by_with : Stmt := topS 17
abbrev N_by_with : List Str := ["count", "first", "columns"]
theorem sc_by_with : FnScope ["count", "first", "columns"] ["count", "first", "columns"] (defScope s_by_with) := ⟨rfl, rfl, rfl, by decide +kernel, rfl, by decide +kernel, by decide +kernel⟩
def phi_by_with : Fn := fnD 3 (
  dSeq (dIf (dAnd (dTst (dCB (fIsi isiTbl) (aCons (dVar 1) (aCons (dC (.cls "Fd")) (aNil))))) (dTst (dCall 2 phi_is_set (aCons (dVar 2) (aCons (dVar 0) (aNil)))))) (dRet (dMake "Fd" 3 phi_Sides___init__ (aCons (dCall 2 phi_united (aCons (dFld ["Fd", "Mvd"] "left" (dVar 1)) (aCons (dVar 2) (aNil)))) (aCons (dCall 2 phi_united (aCons (dFld ["Fd", "Mvd"] "right" (dVar 1)) (aCons (dVar 2) (aNil)))) (aNil))))) (dNext))
  (dRet (dC .non)))
abbrev s_by_through : Stmt := topS 18
abbrev N_by_through : List Str := ["first", "second"]
theorem sc_by_through : FnScope ["first", "second"] ["first", "second"] (defScope s_by_through) := ⟨rfl, rfl, rfl, by decide +kernel, rfl, by decide +kernel, by decide +kernel⟩
def phi_by_through : Fn := fnD 2 (
  dSeq (dIf (dAnd (dTst (dCB (fIsi isiTbl) (aCons (dVar 0) (aCons (dC (.cls "Fd")) (aNil))))) (dAnd (dTst (dCB (fIsi isiTbl) (aCons (dVar 1) (aCons (dC (.cls "Fd")) (aNil))))) (dTst (dOp fEq (dFld ["Fd", "Mvd"] "right" (dVar 0)) (dFld ["Fd", "Mvd"] "left" (dVar 1)))))) (dRet (dMake "Fd" 3 phi_Sides___init__ (aCons (dFld ["Fd", "Mvd"] "left" (dVar 0)) (aCons (dFld ["Fd", "Mvd"] "right" (dVar 1)) (aNil))))) (dNext))
  (dRet (dC .non)))
abbrev s_by_also : Stmt := topS 19
abbrev N_by_also : List Str := ["first"]
theorem sc_by_also : FnScope ["first"] ["first"] (defScope s_by_also) := ⟨rfl, rfl, rfl, by decide +kernel, rfl, by decide +kernel, by decide +kernel⟩
def phi_by_also : Fn := fnD 1 (
  dSeq (dIf (dTst (dCB (fIsi isiTbl) (aCons (dVar 0) (aCons (dC (.cls "Fd")) (aNil))))) (dRet (dMake "Mvd" 3 phi_Sides___init__ (aCons (dFld ["Fd", "Mvd"] "left" (dVar 0)) (aCons (dFld ["Fd", "Mvd"] "right" (dVar 0)) (aNil))))) (dNext))
  (dRet (dC .non)))
abbrev s_by_other : Stmt := topS 20
abbrev N_by_other : List Str := ["count", "first"]
theorem sc_by_other : FnScope ["count", "first"] ["count", "first"] (defScope s_by_other) := ⟨rfl, rfl, rfl, by decide +kernel, rfl, by decide +kernel, by decide +kernel⟩
def phi_by_other : Fn := fnD 2 (
  dSeq (dIf (dTst (dCB (fIsi isiTbl) (aCons (dVar 1) (aCons (dC (.cls "Mvd")) (aNil))))) (dRet (dMake "Mvd" 3 phi_Sides___init__ (aCons (dFld ["Fd", "Mvd"] "left" (dVar 1)) (aCons (dCall 2 phi_less (aCons (dCall 1 phi_whole (aCons (dVar 0) (aNil))) (aCons (dCall 2 phi_united (aCons (dFld ["Fd", "Mvd"] "left" (dVar 1)) (aCons (dFld ["Fd", "Mvd"] "right" (dVar 1)) (aNil)))) (aNil)))) (aNil))))) (dNext))
  (dRet (dC .non)))
abbrev s_by_wide : Stmt := topS 21
abbrev N_by_wide : List Str := ["count", "first", "columns", "some"]
theorem sc_by_wide : FnScope ["count", "first", "columns", "some"] ["count", "first", "columns", "some"] (defScope s_by_wide) := ⟨rfl, rfl, rfl, by decide +kernel, rfl, by decide +kernel, by decide +kernel⟩
def phi_by_wide : Fn := fnD 4 (
  dSeq (dIf (dOr (dNot (dTst (dCall 2 phi_is_set (aCons (dVar 2) (aCons (dVar 0) (aNil)))))) (dNot (dTst (dCall 2 phi_is_set (aCons (dVar 3) (aCons (dVar 0) (aNil))))))) (dRet (dC .non)) (dNext))
  (dSeq (dIf (dAnd (dTst (dCB (fIsi isiTbl) (aCons (dVar 1) (aCons (dC (.cls "Mvd")) (aNil))))) (dTst (dCall 2 phi_is_within (aCons (dVar 3) (aCons (dVar 2) (aNil)))))) (dRet (dMake "Mvd" 3 phi_Sides___init__ (aCons (dCall 2 phi_united (aCons (dFld ["Fd", "Mvd"] "left" (dVar 1)) (aCons (dVar 2) (aNil)))) (aCons (dCall 2 phi_united (aCons (dFld ["Fd", "Mvd"] "right" (dVar 1)) (aCons (dVar 3) (aNil)))) (aNil))))) (dNext))
  (dRet (dC .non))))
abbrev s_by_beyond : Stmt := topS 22
abbrev N_by_beyond : List Str := ["first", "second"]
theorem sc_by_beyond : FnScope ["first", "second"] ["first", "second"] (defScope s_by_beyond) := ⟨rfl, rfl, rfl, by decide +kernel, rfl, by decide +kernel, by decide +kernel⟩
def phi_by_beyond : Fn := fnD 2 (
  dSeq (dIf (dAnd (dTst (dCB (fIsi isiTbl) (aCons (dVar 0) (aCons (dC (.cls "Mvd")) (aNil))))) (dAnd (dTst (dCB (fIsi isiTbl) (aCons (dVar 1) (aCons (dC (.cls "Mvd")) (aNil))))) (dTst (dOp fEq (dFld ["Fd", "Mvd"] "right" (dVar 0)) (dFld ["Fd", "Mvd"] "left" (dVar 1)))))) (dRet (dMake "Mvd" 3 phi_Sides___init__ (aCons (dFld ["Fd", "Mvd"] "left" (dVar 0)) (aCons (dCall 2 phi_less (aCons (dFld ["Fd", "Mvd"] "right" (dVar 1)) (aCons (dFld ["Fd", "Mvd"] "right" (dVar 0)) (aNil)))) (aNil))))) (dNext))
  (dRet (dC .non)))
abbrev s_by_meets : Stmt := topS 23
abbrev N_by_meets : List Str := ["first", "second"]
theorem sc_by_meets : FnScope ["first", "second"] ["first", "second"] (defScope s_by_meets) := ⟨rfl, rfl, rfl, by decide +kernel, rfl, by decide +kernel, by decide +kernel⟩
def phi_by_meets : Fn := fnD 2 (
  dSeq (dIf (dOr (dNot (dTst (dCB (fIsi isiTbl) (aCons (dVar 0) (aCons (dC (.cls "Mvd")) (aNil)))))) (dNot (dTst (dCB (fIsi isiTbl) (aCons (dVar 1) (aCons (dC (.cls "Fd")) (aNil))))))) (dRet (dC .non)) (dNext))
  (dSeq (dIf (dAnd (dTst (dCall 2 phi_is_within (aCons (dFld ["Fd", "Mvd"] "right" (dVar 1)) (aCons (dFld ["Fd", "Mvd"] "right" (dVar 0)) (aNil))))) (dTst (dOp fEq (dCB fLen (aCons (dCall 2 phi_met (aCons (dFld ["Fd", "Mvd"] "left" (dVar 1)) (aCons (dFld ["Fd", "Mvd"] "right" (dVar 0)) (aNil)))) (aNil))) (dC (.int 0))))) (dRet (dMake "Fd" 3 phi_Sides___init__ (aCons (dFld ["Fd", "Mvd"] "left" (dVar 0)) (aCons (dFld ["Fd", "Mvd"] "right" (dVar 1)) (aNil))))) (dNext))
  (dRet (dC .non))))
abbrev s_of_one : Stmt := topS 24
abbrev N_of_one : List Str := ["count", "first", "row"]
theorem sc_of_one : FnScope ["count", "first", "row"] ["count", "first", "row"] (defScope s_of_one) := ⟨rfl, rfl, rfl, by decide +kernel, rfl, by decide +kernel, by decide +kernel⟩
def phi_of_one : Fn := fnD 3 (
  dSeq (dIf (dTst (dOp fEq (dOp fIx (dVar 2) (dC (.int 0))) (dC (.str "with")))) (dRet (dCall 3 phi_by_with (aCons (dVar 0) (aCons (dVar 1) (aCons (dOp fIx (dVar 2) (dC (.int 2))) (aNil)))))) (dNext))
  (dSeq (dIf (dTst (dOp fEq (dOp fIx (dVar 2) (dC (.int 0))) (dC (.str "also")))) (dRet (dCall 1 phi_by_also (aCons (dVar 1) (aNil)))) (dNext))
  (dSeq (dIf (dTst (dOp fEq (dOp fIx (dVar 2) (dC (.int 0))) (dC (.str "other")))) (dRet (dCall 2 phi_by_other (aCons (dVar 0) (aCons (dVar 1) (aNil))))) (dNext))
  (dRet (dCall 4 phi_by_wide (aCons (dVar 0) (aCons (dVar 1) (aCons (dOp fIx (dVar 2) (dC (.int 2))) (aCons (dOp fIx (dVar 2) (dC (.int 3))) (aNil))))))))))
abbrev s_of_two : Stmt := topS 25
abbrev N_of_two : List Str := ["first", "second", "word"]
theorem sc_of_two : FnScope ["first", "second", "word"] ["first", "second", "word"] (defScope s_of_two) := ⟨rfl, rfl, rfl, by decide +kernel, rfl, by decide +kernel, by decide +kernel⟩
def phi_of_two : Fn := fnD 3 (
  dSeq (dIf (dTst (dOp fEq (dVar 2) (dC (.str "through")))) (dRet (dCall 2 phi_by_through (aCons (dVar 0) (aCons (dVar 1) (aNil))))) (dNext))
  (dSeq (dIf (dTst (dOp fEq (dVar 2) (dC (.str "beyond")))) (dRet (dCall 2 phi_by_beyond (aCons (dVar 0) (aCons (dVar 1) (aNil))))) (dNext))
  (dRet (dCall 2 phi_by_meets (aCons (dVar 0) (aCons (dVar 1) (aNil)))))))
abbrev s_row_tells : Stmt := topS 26
abbrev N_row_tells : List Str := ["count", "dependencies", "made", "row", "first"]
theorem sc_row_tells : FnScope ["count", "dependencies", "made", "row", "first"] ["count", "dependencies", "made", "row"] (defScope s_row_tells) := ⟨rfl, rfl, rfl, by decide +kernel, rfl, by decide +kernel, by decide +kernel⟩
def phi_row_tells : Fn := fnD 5 (
  dSeq (dIf (dTst (dOp fEq (dOp fIx (dVar 3) (dC (.int 0))) (dC (.str "told")))) (dRet (dCall 2 phi_by_told (aCons (dVar 1) (aCons (dOp fIx (dVar 3) (dC (.int 1))) (aNil))))) (dNext))
  (dSeq (dIf (dTst (dOp fEq (dOp fIx (dVar 3) (dC (.int 0))) (dC (.str "within")))) (dRet (dCall 3 phi_by_within (aCons (dVar 0) (aCons (dOp fIx (dVar 3) (dC (.int 1))) (aCons (dOp fIx (dVar 3) (dC (.int 2))) (aNil)))))) (dNext))
  (dSeq (dSet 4 (dCall 2 phi_earlier (aCons (dVar 2) (aCons (dOp fIx (dVar 3) (dC (.int 1))) (aNil)))))
  (dSeq (dIf (dOr (dTst (dOp fEq (dOp fIx (dVar 3) (dC (.int 0))) (dC (.str "through")))) (dOr (dTst (dOp fEq (dOp fIx (dVar 3) (dC (.int 0))) (dC (.str "beyond")))) (dTst (dOp fEq (dOp fIx (dVar 3) (dC (.int 0))) (dC (.str "meets")))))) (dRet (dCall 3 phi_of_two (aCons (dVar 4) (aCons (dCall 2 phi_earlier (aCons (dVar 2) (aCons (dOp fIx (dVar 3) (dC (.int 2))) (aNil)))) (aCons (dOp fIx (dVar 3) (dC (.int 0))) (aNil)))))) (dNext))
  (dRet (dCall 3 phi_of_one (aCons (dVar 0) (aCons (dVar 4) (aCons (dVar 3) (aNil))))))))))
abbrev s_derives : Stmt := topS 27
abbrev N_derives : List Str := ["count", "dependencies", "target", "rows", "made", "row", "found"]
theorem sc_derives : FnScope ["count", "dependencies", "target", "rows", "made", "row", "found"] ["count", "dependencies", "target", "rows"] (defScope s_derives) := ⟨rfl, rfl, rfl, by decide +kernel, rfl, by decide +kernel, by decide +kernel⟩
def phi_derives : Fn := fnD 7 (
  dSeq (dSet 4 (dLstM (aNil)))
  (dSeq (dFor (dItS (dVar 3)) (.nm 5)
  (dSeq (dSet 6 (dCall 4 phi_row_tells (aCons (dVar 0) (aCons (dVar 1) (aCons (dVar 4) (aCons (dVar 5) (aNil)))))))
  (dSeq (dIf (dTst (dOp fIsN (dVar 6) (dC .non))) (dRet (dC (.bl false))) (dNext))
  (dDrop (dBM tyLst fAppend (dVar 4) (aCons (dVar 6) (aNil)))))))
  (dFrzV 4 (dRet (dAndV (dOp fGt (dCB fLen (aCons (dVar 4) (aNil))) (dC (.int 0))) (dOp (fOr (fOwn "Fd" ["Fd", "Mvd", "Jd"] phi_Fd___eq__) (fOwn "Mvd" ["Fd", "Mvd", "Jd"] phi_Mvd___eq__)) (dOp fIx (dVar 4) (fNeg (dC (.int 1)))) (dVar 2)))))))
abbrev s_takes : Stmt := topS 50
abbrev N_takes : List Str := ["count", "dependencies", "target", "verdict", "paper"]
theorem sc_takes : FnScope ["count", "dependencies", "target", "verdict", "paper"] ["count", "dependencies", "target", "verdict", "paper"] (defScope s_takes) := ⟨rfl, rfl, rfl, by decide +kernel, rfl, by decide +kernel, by decide +kernel⟩
def phi_takes : Fn := fnD 5 (
  dSeq (dIf (dAnd (dTst (dVar 3)) (dTst (dOp fEq (dOp fIx (dVar 4) (dC (.int 0))) (dC (.str "derived"))))) (dRet (dCall 4 phi_derives (aCons (dVar 0) (aCons (dVar 1) (aCons (dVar 2) (aCons (dOp fIx (dVar 4) (dC (.int 1))) (aNil))))))) (dNext))
  (dSeq (dIf (dAnd (dTst (dVar 3)) (dTst (dOp fEq (dOp fIx (dVar 4) (dC (.int 0))) (dC (.str "chased"))))) (dNever) (dNext))
  (dSeq (dIf (dAnd (dNot (dTst (dVar 3))) (dTst (dOp fEq (dOp fIx (dVar 4) (dC (.int 0))) (dC (.str "table"))))) (dNever) (dNext))
  (dRet (dC (.bl false))))))
abbrev s__law_numbers : Stmt := topS 52
abbrev N__law_numbers : List Str := ["_law_script", "_law_count", "_law_rest", "_law_by_digits", "_law_numbers_here", "_law_k", "_law_cell"]
theorem sc__law_numbers : FnScope ["_law_script", "_law_count", "_law_rest", "_law_by_digits", "_law_numbers_here", "_law_k", "_law_cell"] ["_law_script", "_law_count"] (defScope s__law_numbers) := ⟨rfl, rfl, rfl, by decide +kernel, rfl, by decide +kernel, by decide +kernel⟩
def phi__law_numbers : Fn := fnD 7 (
  dSeq (dSet 2 (dC (.int 0)))
  (dSeq (dIf (dTst (dOp fGt (dCB fLen (aCons (dVar 0) (aNil))) (dC (.int 0)))) (dSet 2 (dOp fIx (dVar 0) (dC (.int 0)))) (dNext))
  (dSeq (dSet 3 (dOp fGe (dVar 2) (dOp fPow (dC (.int 10)) (dC (.int 18)))))
  (dSeq (dSet 4 (dLstM (aNil)))
  (dSeq (dFor (dIt1 (aCons (dVar 1) (aNil))) (.nm 5)
  (dIf (dAnd (dTst (dVar 3)) (dTst (dOp fGt (dVar 2) (dC (.int 0))))) (dSeq (dDrop (dBM tyLst fAppend (dVar 4) (aCons (dOp fMod (dVar 2) (dC (.int 1000000))) (aNil))))
  (dSet 2 (dOp fDiv (dVar 2) (dC (.int 1000000))))) (dSeq (dSet 6 (dC (.int 13)))
  (dSeq (dIf (dTst (dOp fGt (dCB fLen (aCons (dVar 0) (aNil))) (dC (.int 0)))) (dSet 6 (dOp fAdd (dOp fIx (dVar 0) (dOp fMod (dVar 5) (dCB fLen (aCons (dVar 0) (aNil))))) (dOp fMul (dC (.int 7919)) (dVar 5)))) (dNext))
  (dDrop (dBM tyLst fAppend (dVar 4) (aCons (dOp fMod (dOp fMod (dOp fMul (dOp fMod (dOp fMul (dVar 6) (dC (.int 48271))) (dC (.int 2147483647))) (dC (.int 69621))) (dC (.int 2147483629))) (dC (.int 1000000))) (aNil))))))))
  (dFrzV 4 (dRet (dVar 4))))))))
abbrev s__law_set : Stmt := topS 53
abbrev N__law_set : List Str := ["_law_number", "_law_count", "_law_k"]
theorem sc__law_set : FnScope ["_law_number", "_law_count", "_law_k"] ["_law_number", "_law_count"] (defScope s__law_set) := ⟨rfl, rfl, rfl, by decide +kernel, rfl, by decide +kernel, by decide +kernel⟩
def phi__law_set : Fn := fnD 3 (
  dRet (dCB fTuple (aCons (dComp [2] (dIt1 (aCons (dVar 1) (aNil))) (.nm 2) (dTst (dOp fEq (dOp fMod (dOp fDiv (dVar 0) (dOp fIx (dLst (aCons (dC (.int 1)) (aCons (dC (.int 2)) (aCons (dC (.int 4)) (aCons (dC (.int 8)) (aCons (dC (.int 16)) (aCons (dC (.int 32)) (aCons (dC (.int 64)) (aCons (dC (.int 128)) (aCons (dC (.int 256)) (aCons (dC (.int 512)) (aNil)))))))))))) (dVar 2))) (dC (.int 2))) (dC (.int 1)))) (dVar 2)) (aNil))))
abbrev s__law_sparse : Stmt := topS 54
abbrev N__law_sparse : List Str := ["_law_number", "_law_count", "_law_k"]
theorem sc__law_sparse : FnScope ["_law_number", "_law_count", "_law_k"] ["_law_number", "_law_count"] (defScope s__law_sparse) := ⟨rfl, rfl, rfl, by decide +kernel, rfl, by decide +kernel, by decide +kernel⟩
def phi__law_sparse : Fn := fnD 3 (
  dRet (dCB fTuple (aCons (dComp [2] (dIt1 (aCons (dVar 1) (aNil))) (.nm 2) (dTst (dOp fEq (dOp fMod (dOp fDiv (dVar 0) (dOp fIx (dLst (aCons (dC (.int 1)) (aCons (dC (.int 3)) (aCons (dC (.int 9)) (aCons (dC (.int 27)) (aCons (dC (.int 81)) (aCons (dC (.int 243)) (aCons (dC (.int 729)) (aCons (dC (.int 2187)) (aCons (dC (.int 6561)) (aCons (dC (.int 19683)) (aNil)))))))))))) (dVar 2))) (dC (.int 3))) (dC (.int 1)))) (dVar 2)) (aNil))))
abbrev s__law_united : Stmt := topS 55
abbrev N__law_united : List Str := ["_law_a", "_law_b"]
theorem sc__law_united : FnScope ["_law_a", "_law_b"] ["_law_a", "_law_b"] (defScope s__law_united) := ⟨rfl, rfl, rfl, by decide +kernel, rfl, by decide +kernel, by decide +kernel⟩
def phi__law_united : Fn := fnD 2 (
  dRet (dCB fTuple (aCons (dSSet (dOp fAdd (dVar 0) (dVar 1))) (aNil))))
abbrev s__law_met : Stmt := topS 56
abbrev N__law_met : List Str := ["_law_a", "_law_b", "_law_k"]
theorem sc__law_met : FnScope ["_law_a", "_law_b", "_law_k"] ["_law_a", "_law_b"] (defScope s__law_met) := ⟨rfl, rfl, rfl, by decide +kernel, rfl, by decide +kernel, by decide +kernel⟩
def phi__law_met : Fn := fnD 3 (
  dRet (dCB fTuple (aCons (dComp [2] (dItS (dVar 0)) (.nm 2) (dTst (dOp fIn (dVar 2) (dVar 1))) (dVar 2)) (aNil))))
abbrev s__law_less : Stmt := topS 57
abbrev N__law_less : List Str := ["_law_a", "_law_b", "_law_k"]
theorem sc__law_less : FnScope ["_law_a", "_law_b", "_law_k"] ["_law_a", "_law_b"] (defScope s__law_less) := ⟨rfl, rfl, rfl, by decide +kernel, rfl, by decide +kernel, by decide +kernel⟩
def phi__law_less : Fn := fnD 3 (
  dRet (dCB fTuple (aCons (dComp [2] (dItS (dVar 0)) (.nm 2) (dTst (dOp fNin (dVar 2) (dVar 1))) (dVar 2)) (aNil))))
abbrev s__law_is_within : Stmt := topS 58
abbrev N__law_is_within : List Str := ["_law_a", "_law_b"]
theorem sc__law_is_within : FnScope ["_law_a", "_law_b"] ["_law_a", "_law_b"] (defScope s__law_is_within) := ⟨rfl, rfl, rfl, by decide +kernel, rfl, by decide +kernel, by decide +kernel⟩
def phi__law_is_within : Fn := fnD 2 (
  dRet (dOp fEq (dCB fLen (aCons (dCall 2 phi__law_less (aCons (dVar 0) (aCons (dVar 1) (aNil)))) (aNil))) (dC (.int 0))))
abbrev s__law_dependency : Stmt := topS 59
abbrev N__law_dependency : List Str := ["_law_numbers_here", "_law_place", "_law_count", "_law_kind", "_law_left", "_law_right", "_law_rest", "_law_parts"]
theorem sc__law_dependency : FnScope ["_law_numbers_here", "_law_place", "_law_count", "_law_kind", "_law_left", "_law_right", "_law_rest", "_law_parts"] ["_law_numbers_here", "_law_place", "_law_count"] (defScope s__law_dependency) := ⟨rfl, rfl, rfl, by decide +kernel, rfl, by decide +kernel, by decide +kernel⟩
def phi__law_dependency : Fn := fnD 8 (
  dSeq (dSet 3 (dOp fMod (dOp fIx (dVar 0) (dVar 1)) (dC (.int 5))))
  (dSeq (dSet 4 (dCall 2 phi__law_sparse (aCons (dOp fDiv (dOp fIx (dVar 0) (dVar 1)) (dC (.int 5))) (aCons (dVar 2) (aNil)))))
  (dSeq (dSet 5 (dCall 2 phi__law_sparse (aCons (dOp fIx (dVar 0) (dOp fAdd (dVar 1) (dC (.int 1)))) (aCons (dVar 2) (aNil)))))
  (dSeq (dIf (dTst (dOp fLt (dVar 3) (dC (.int 2)))) (dRet (dTup (aCons (dC (.str "fd")) (aCons (dVar 4) (aCons (dVar 5) (aNil)))))) (dNext))
  (dSeq (dIf (dTst (dOp fLt (dVar 3) (dC (.int 4)))) (dRet (dTup (aCons (dC (.str "mvd")) (aCons (dVar 4) (aCons (dVar 5) (aNil)))))) (dNext))
  (dSeq (dSet 6 (dCall 2 phi__law_less (aCons (dTupR (dVar 2)) (aCons (dVar 5) (aNil)))))
  (dSeq (dSet 7 (dTup (aCons (dCall 2 phi__law_united (aCons (dVar 6) (aCons (dVar 4) (aNil)))) (aCons (dVar 5) (aNil)))))
  (dSeq (dIf (dTst (dOp fEq (dOp fMod (dOp fDiv (dOp fIx (dVar 0) (dOp fAdd (dVar 1) (dC (.int 1)))) (dC (.int 59049))) (dC (.int 3))) (dC (.int 1)))) (dSet 7 (dTup (aCons (dVar 5) (aCons (dVar 4) (aCons (dVar 6) (aNil)))))) (dNext))
  (dRet (dTup (aCons (dC (.str "jd")) (aCons (dVar 7) (aNil)))))))))))))
abbrev s__law_told : Stmt := topS 60
abbrev N__law_told : List Str := ["_law_numbers_here", "_law_place", "_law_count", "_law_many", "_law_found", "_law_k", "_law_one", "_law_theme", "_law_before"]
theorem sc__law_told : FnScope ["_law_numbers_here", "_law_place", "_law_count", "_law_many", "_law_found", "_law_k", "_law_one", "_law_theme", "_law_before"] ["_law_numbers_here", "_law_place", "_law_count", "_law_many"] (defScope s__law_told) := ⟨rfl, rfl, rfl, by decide +kernel, rfl, by decide +kernel, by decide +kernel⟩
def phi__law_told : Fn := fnD 9 (
  dSeq (dSet 4 (dLstM (aNil)))
  (dSeq (dFor (dIt1 (aCons (dVar 3) (aNil))) (.nm 5)
  (dSeq (dSet 6 (dCall 3 phi__law_dependency (aCons (dVar 0) (aCons (dOp fAdd (dVar 1) (dOp fMul (dC (.int 2)) (dVar 5))) (aCons (dVar 2) (aNil))))))
  (dSeq (dSet 7 (dOp fMod (dOp fDiv (dOp fIx (dVar 0) (dOp fAdd (dOp fAdd (dVar 1) (dOp fMul (dC (.int 2)) (dVar 5))) (dC (.int 1)))) (dC (.int 59049))) (dC (.int 4))))
  (dSeq (dIf (dAnd (dTst (dOp fGt (dVar 5) (dC (.int 0)))) (dAnd (dTst (dOp fNe (dOp fIx (dVar 6) (dC (.int 0))) (dC (.str "jd")))) (dAnd (dTst (dOp fNe (dOp fIx (dOp fIx (dVar 4) (dOp fSub (dVar 5) (dC (.int 1)))) (dC (.int 0))) (dC (.str "jd")))) (dTst (dOp fGt (dVar 7) (dC (.int 0))))))) (dSeq (dSet 8 (dOp fIx (dVar 4) (dOp fSub (dVar 5) (dC (.int 1)))))
  (dIf (dTst (dOp fEq (dVar 7) (dC (.int 3)))) (dSet 6 (dTup (aCons (dC (.str "fd")) (aCons (dCall 2 phi__law_less (aCons (dOp fIx (dVar 6) (dC (.int 1))) (aCons (dOp fIx (dVar 8) (dC (.int 2))) (aNil)))) (aCons (dSl (dOp fIx (dVar 8) (dC (.int 2))) (oNone) (oSome (dC (.int 1)))) (aNil)))))) (dSet 6 (dTup (aCons (dOp fIx (dVar 8) (dC (.int 0))) (aCons (dOp fIx (dVar 8) (dC (.int 2))) (aCons (dOp fIx (dVar 6) (dC (.int 2))) (aNil)))))))) (dNext))
  (dDrop (dBM tyLst fAppend (dVar 4) (aCons (dVar 6) (aNil))))))))
  (dFrzV 4 (dRet (dVar 4)))))
abbrev s__law_object : Stmt := topS 61
abbrev N__law_object : List Str := ["_law_dependency_here", "_law_part"]
theorem sc__law_object : FnScope ["_law_dependency_here", "_law_part"] ["_law_dependency_here"] (defScope s__law_object) := ⟨rfl, rfl, rfl, by decide +kernel, rfl, by decide +kernel, by decide +kernel⟩
def phi__law_object : Fn := fnD 2 (
  dSeq (dIf (dTst (dOp fEq (dOp fIx (dVar 0) (dC (.int 0))) (dC (.str "fd")))) (dRet (dMake "Fd" 3 phi_Sides___init__ (aCons (dCB fList (aCons (dOp fIx (dVar 0) (dC (.int 1))) (aNil))) (aCons (dCB fList (aCons (dOp fIx (dVar 0) (dC (.int 2))) (aNil))) (aNil))))) (dNext))
  (dSeq (dIf (dTst (dOp fEq (dOp fIx (dVar 0) (dC (.int 0))) (dC (.str "mvd")))) (dRet (dMake "Mvd" 3 phi_Sides___init__ (aCons (dCB fList (aCons (dOp fIx (dVar 0) (dC (.int 1))) (aNil))) (aCons (dCB fList (aCons (dOp fIx (dVar 0) (dC (.int 2))) (aNil))) (aNil))))) (dNext))
  (dRet (dMake "Jd" 2 phi_Jd___init__ (aCons (dComp [1] (dItS (dOp fIx (dVar 0) (dC (.int 1)))) (.nm 1) (dYes) (dCB fList (aCons (dVar 1) (aNil)))) (aNil))))))
abbrev s__law_is_kept : Stmt := topS 62
abbrev N__law_is_kept : List Str := ["_law_objects", "_law_told_here", "_law_k"]
theorem sc__law_is_kept : FnScope ["_law_objects", "_law_told_here", "_law_k"] ["_law_objects", "_law_told_here"] (defScope s__law_is_kept) := ⟨rfl, rfl, rfl, by decide +kernel, rfl, by decide +kernel, by decide +kernel⟩
def phi__law_is_kept : Fn := fnD 3 (
  dSeq (dFor (dIt1 (aCons (dCB fLen (aCons (dVar 1) (aNil))) (aNil))) (.nm 2)
  (dIf (dTst (dOp fEq (dOp fIx (dOp fIx (dVar 1) (dVar 2)) (dC (.int 0))) (dC (.str "jd")))) (dIf (dTst (dOp fNe (dFld ["Jd"] "parts" (dOp fIx (dVar 0) (dVar 2))) (dOp fIx (dOp fIx (dVar 1) (dVar 2)) (dC (.int 1))))) (dRet (dC (.bl false))) (dNext)) (dIf (dTst (dOp fNe (dTup (aCons (dFld ["Fd", "Mvd"] "left" (dOp fIx (dVar 0) (dVar 2))) (aCons (dFld ["Fd", "Mvd"] "right" (dOp fIx (dVar 0) (dVar 2))) (aNil)))) (dTup (aCons (dOp fIx (dOp fIx (dVar 1) (dVar 2)) (dC (.int 1))) (aCons (dOp fIx (dOp fIx (dVar 1) (dVar 2)) (dC (.int 2))) (aNil)))))) (dRet (dC (.bl false))) (dNext))))
  (dRet (dOp fEq (dCB fLen (aCons (dVar 0) (aNil))) (dCB fLen (aCons (dVar 1) (aNil))))))
abbrev s__law_is_set : Stmt := topS 63
abbrev N__law_is_set : List Str := ["_law_columns", "_law_count", "_law_k"]
theorem sc__law_is_set : FnScope ["_law_columns", "_law_count", "_law_k"] ["_law_columns", "_law_count"] (defScope s__law_is_set) := ⟨rfl, rfl, rfl, by decide +kernel, rfl, by decide +kernel, by decide +kernel⟩
def phi__law_is_set : Fn := fnD 3 (
  dRet (dOp fEq (dVar 0) (dCB fTuple (aCons (dComp [2] (dIt1 (aCons (dVar 1) (aNil))) (.nm 2) (dTst (dOp fIn (dVar 2) (dVar 0))) (dVar 2)) (aNil)))))
abbrev s__law_of_one : Stmt := topS 64
abbrev N__law_of_one : List Str := ["_law_count", "_law_one", "_law_row_here"]
theorem sc__law_of_one : FnScope ["_law_count", "_law_one", "_law_row_here"] ["_law_count", "_law_one", "_law_row_here"] (defScope s__law_of_one) := ⟨rfl, rfl, rfl, by decide +kernel, rfl, by decide +kernel, by decide +kernel⟩
def phi__law_of_one : Fn := fnD 3 (
  dSeq (dIf (dTst (dOp fEq (dOp fIx (dVar 2) (dC (.int 0))) (dC (.str "also")))) (dSeq (dIf (dTst (dOp fEq (dOp fIx (dVar 1) (dC (.int 0))) (dC (.str "fd")))) (dRet (dTup (aCons (dC (.str "mvd")) (aCons (dOp fIx (dVar 1) (dC (.int 1))) (aCons (dOp fIx (dVar 1) (dC (.int 2))) (aNil)))))) (dNext))
  (dRet (dC .non))) (dNext))
  (dSeq (dIf (dTst (dOp fEq (dOp fIx (dVar 2) (dC (.int 0))) (dC (.str "other")))) (dSeq (dIf (dTst (dOp fEq (dOp fIx (dVar 1) (dC (.int 0))) (dC (.str "mvd")))) (dRet (dTup (aCons (dC (.str "mvd")) (aCons (dOp fIx (dVar 1) (dC (.int 1))) (aCons (dCall 2 phi__law_less (aCons (dTupR (dVar 0)) (aCons (dCall 2 phi__law_united (aCons (dOp fIx (dVar 1) (dC (.int 1))) (aCons (dOp fIx (dVar 1) (dC (.int 2))) (aNil)))) (aNil)))) (aNil)))))) (dNext))
  (dRet (dC .non))) (dNext))
  (dSeq (dIf (dNot (dTst (dCall 2 phi__law_is_set (aCons (dOp fIx (dVar 2) (dC (.int 2))) (aCons (dVar 0) (aNil)))))) (dRet (dC .non)) (dNext))
  (dSeq (dIf (dTst (dOp fEq (dOp fIx (dVar 2) (dC (.int 0))) (dC (.str "with")))) (dSeq (dIf (dTst (dOp fEq (dOp fIx (dVar 1) (dC (.int 0))) (dC (.str "fd")))) (dRet (dTup (aCons (dC (.str "fd")) (aCons (dCall 2 phi__law_united (aCons (dOp fIx (dVar 1) (dC (.int 1))) (aCons (dOp fIx (dVar 2) (dC (.int 2))) (aNil)))) (aCons (dCall 2 phi__law_united (aCons (dOp fIx (dVar 1) (dC (.int 2))) (aCons (dOp fIx (dVar 2) (dC (.int 2))) (aNil)))) (aNil)))))) (dNext))
  (dRet (dC .non))) (dNext))
  (dSeq (dIf (dAnd (dTst (dOp fEq (dOp fIx (dVar 1) (dC (.int 0))) (dC (.str "mvd")))) (dAnd (dTst (dCall 2 phi__law_is_set (aCons (dOp fIx (dVar 2) (dC (.int 3))) (aCons (dVar 0) (aNil))))) (dTst (dCall 2 phi__law_is_within (aCons (dOp fIx (dVar 2) (dC (.int 3))) (aCons (dOp fIx (dVar 2) (dC (.int 2))) (aNil))))))) (dRet (dTup (aCons (dC (.str "mvd")) (aCons (dCall 2 phi__law_united (aCons (dOp fIx (dVar 1) (dC (.int 1))) (aCons (dOp fIx (dVar 2) (dC (.int 2))) (aNil)))) (aCons (dCall 2 phi__law_united (aCons (dOp fIx (dVar 1) (dC (.int 2))) (aCons (dOp fIx (dVar 2) (dC (.int 3))) (aNil)))) (aNil)))))) (dNext))
  (dRet (dC .non)))))))
abbrev s__law_of_two : Stmt := topS 65
abbrev N__law_of_two : List Str := ["_law_one", "_law_two", "_law_word"]
theorem sc__law_of_two : FnScope ["_law_one", "_law_two", "_law_word"] ["_law_one", "_law_two", "_law_word"] (defScope s__law_of_two) := ⟨rfl, rfl, rfl, by decide +kernel, rfl, by decide +kernel, by decide +kernel⟩
def phi__law_of_two : Fn := fnD 3 (
  dSeq (dIf (dTst (dOp fEq (dVar 2) (dC (.str "through")))) (dSeq (dIf (dAnd (dTst (dOp fEq (dOp fIx (dVar 0) (dC (.int 0))) (dC (.str "fd")))) (dAnd (dTst (dOp fEq (dOp fIx (dVar 1) (dC (.int 0))) (dC (.str "fd")))) (dTst (dOp fEq (dOp fIx (dVar 0) (dC (.int 2))) (dOp fIx (dVar 1) (dC (.int 1))))))) (dRet (dTup (aCons (dC (.str "fd")) (aCons (dOp fIx (dVar 0) (dC (.int 1))) (aCons (dOp fIx (dVar 1) (dC (.int 2))) (aNil)))))) (dNext))
  (dRet (dC .non))) (dNext))
  (dSeq (dIf (dTst (dOp fNe (dOp fIx (dVar 0) (dC (.int 0))) (dC (.str "mvd")))) (dRet (dC .non)) (dNext))
  (dSeq (dIf (dTst (dOp fEq (dVar 2) (dC (.str "beyond")))) (dSeq (dIf (dAnd (dTst (dOp fEq (dOp fIx (dVar 1) (dC (.int 0))) (dC (.str "mvd")))) (dTst (dOp fEq (dOp fIx (dVar 0) (dC (.int 2))) (dOp fIx (dVar 1) (dC (.int 1)))))) (dRet (dTup (aCons (dC (.str "mvd")) (aCons (dOp fIx (dVar 0) (dC (.int 1))) (aCons (dCall 2 phi__law_less (aCons (dOp fIx (dVar 1) (dC (.int 2))) (aCons (dOp fIx (dVar 0) (dC (.int 2))) (aNil)))) (aNil)))))) (dNext))
  (dRet (dC .non))) (dNext))
  (dSeq (dIf (dAnd (dTst (dOp fEq (dOp fIx (dVar 1) (dC (.int 0))) (dC (.str "fd")))) (dAnd (dTst (dCall 2 phi__law_is_within (aCons (dOp fIx (dVar 1) (dC (.int 2))) (aCons (dOp fIx (dVar 0) (dC (.int 2))) (aNil))))) (dTst (dOp fEq (dCB fLen (aCons (dCall 2 phi__law_met (aCons (dOp fIx (dVar 1) (dC (.int 1))) (aCons (dOp fIx (dVar 0) (dC (.int 2))) (aNil)))) (aNil))) (dC (.int 0)))))) (dRet (dTup (aCons (dC (.str "fd")) (aCons (dOp fIx (dVar 0) (dC (.int 1))) (aCons (dOp fIx (dVar 1) (dC (.int 2))) (aNil)))))) (dNext))
  (dRet (dC .non))))))
abbrev s__law_row : Stmt := topS 66
abbrev N__law_row : List Str := ["_law_count", "_law_told_here", "_law_made_here", "_law_row_here"]
theorem sc__law_row : FnScope ["_law_count", "_law_told_here", "_law_made_here", "_law_row_here"] ["_law_count", "_law_told_here", "_law_made_here", "_law_row_here"] (defScope s__law_row) := ⟨rfl, rfl, rfl, by decide +kernel, rfl, by decide +kernel, by decide +kernel⟩
def phi__law_row : Fn := fnD 4 (
  dSeq (dIf (dTst (dOp fEq (dOp fIx (dVar 3) (dC (.int 0))) (dC (.str "told")))) (dSeq (dIf (dAnd (dTst (dChain fLe fLt (dC (.int 0)) (dOp fIx (dVar 3) (dC (.int 1))) (dCB fLen (aCons (dVar 1) (aNil))))) (dTst (dOp fNe (dOp fIx (dOp fIx (dVar 1) (dOp fIx (dVar 3) (dC (.int 1)))) (dC (.int 0))) (dC (.str "jd"))))) (dRet (dOp fIx (dVar 1) (dOp fIx (dVar 3) (dC (.int 1))))) (dNext))
  (dRet (dC .non))) (dNext))
  (dSeq (dIf (dTst (dOp fEq (dOp fIx (dVar 3) (dC (.int 0))) (dC (.str "within")))) (dSeq (dIf (dAnd (dTst (dCall 2 phi__law_is_set (aCons (dOp fIx (dVar 3) (dC (.int 1))) (aCons (dVar 0) (aNil))))) (dAnd (dTst (dCall 2 phi__law_is_set (aCons (dOp fIx (dVar 3) (dC (.int 2))) (aCons (dVar 0) (aNil))))) (dTst (dCall 2 phi__law_is_within (aCons (dOp fIx (dVar 3) (dC (.int 2))) (aCons (dOp fIx (dVar 3) (dC (.int 1))) (aNil))))))) (dRet (dTup (aCons (dC (.str "fd")) (aCons (dOp fIx (dVar 3) (dC (.int 1))) (aCons (dOp fIx (dVar 3) (dC (.int 2))) (aNil)))))) (dNext))
  (dRet (dC .non))) (dNext))
  (dSeq (dIf (dNot (dTst (dChain fLe fLt (dC (.int 0)) (dOp fIx (dVar 3) (dC (.int 1))) (dCB fLen (aCons (dVar 2) (aNil)))))) (dRet (dC .non)) (dNext))
  (dSeq (dIf (dOr (dTst (dOp fEq (dOp fIx (dVar 3) (dC (.int 0))) (dC (.str "through")))) (dOr (dTst (dOp fEq (dOp fIx (dVar 3) (dC (.int 0))) (dC (.str "beyond")))) (dTst (dOp fEq (dOp fIx (dVar 3) (dC (.int 0))) (dC (.str "meets")))))) (dSeq (dIf (dNot (dTst (dChain fLe fLt (dC (.int 0)) (dOp fIx (dVar 3) (dC (.int 2))) (dCB fLen (aCons (dVar 2) (aNil)))))) (dRet (dC .non)) (dNext))
  (dRet (dCall 3 phi__law_of_two (aCons (dOp fIx (dVar 2) (dOp fIx (dVar 3) (dC (.int 1)))) (aCons (dOp fIx (dVar 2) (dOp fIx (dVar 3) (dC (.int 2)))) (aCons (dOp fIx (dVar 3) (dC (.int 0))) (aNil))))))) (dNext))
  (dRet (dCall 3 phi__law_of_one (aCons (dVar 0) (aCons (dOp fIx (dVar 2) (dOp fIx (dVar 3) (dC (.int 1)))) (aCons (dVar 3) (aNil))))))))))
abbrev s__law_made : Stmt := topS 67
abbrev N__law_made : List Str := ["_law_count", "_law_told_here", "_law_rows", "_law_made_here", "_law_row_here", "_law_found"]
theorem sc__law_made : FnScope ["_law_count", "_law_told_here", "_law_rows", "_law_made_here", "_law_row_here", "_law_found"] ["_law_count", "_law_told_here", "_law_rows"] (defScope s__law_made) := ⟨rfl, rfl, rfl, by decide +kernel, rfl, by decide +kernel, by decide +kernel⟩
def phi__law_made : Fn := fnD 6 (
  dSeq (dSet 3 (dLstM (aNil)))
  (dSeq (dFor (dItS (dVar 2)) (.nm 4)
  (dSeq (dSet 5 (dCall 4 phi__law_row (aCons (dVar 0) (aCons (dVar 1) (aCons (dVar 3) (aCons (dVar 4) (aNil)))))))
  (dSeq (dIf (dTst (dOp fIsN (dVar 5) (dC .non))) (dRet (dC .non)) (dNext))
  (dDrop (dBM tyLst fAppend (dVar 3) (aCons (dVar 5) (aNil)))))))
  (dFrzV 3 (dRet (dVar 3)))))
abbrev s__law_tried : Stmt := topS 68
abbrev N__law_tried : List Str := ["_law_numbers_here", "_law_place", "_law_count", "_law_made_here", "_law_told_here", "_law_word", "_law_columns", "_law_some", "_law_found", "_law_i", "_law_j", "_law_k"]
theorem sc__law_tried : FnScope ["_law_numbers_here", "_law_place", "_law_count", "_law_made_here", "_law_told_here", "_law_word", "_law_columns", "_law_some", "_law_found", "_law_i", "_law_j", "_law_k"] ["_law_numbers_here", "_law_place", "_law_count", "_law_made_here", "_law_told_here", "_law_word"] (defScope s__law_tried) := ⟨rfl, rfl, rfl, by decide +kernel, rfl, by decide +kernel, by decide +kernel⟩
def phi__law_tried : Fn := fnD 12 (
  dSeq (dSet 6 (dCall 2 phi__law_sparse (aCons (dOp fIx (dVar 0) (dOp fAdd (dVar 1) (dC (.int 1)))) (aCons (dVar 2) (aNil)))))
  (dSeq (dSet 7 (dCall 2 phi__law_met (aCons (dVar 6) (aCons (dCall 2 phi__law_set (aCons (dOp fDiv (dOp fIx (dVar 0) (dOp fAdd (dVar 1) (dC (.int 1)))) (dC (.int 977))) (aCons (dVar 2) (aNil)))) (aNil)))))
  (dSeq (dIf (dTst (dOp fEq (dVar 5) (dC (.str "told")))) (dRet (dComp [11] (dIt1 (aCons (dCB fLen (aCons (dVar 4) (aNil))) (aNil))) (.nm 11) (dYes) (dTup (aCons (dVar 5) (aCons (dVar 11) (aNil)))))) (dNext))
  (dSeq (dIf (dTst (dOp fEq (dVar 5) (dC (.str "within")))) (dRet (dLst (aCons (dTup (aCons (dVar 5) (aCons (dVar 6) (aCons (dVar 7) (aNil))))) (aNil)))) (dNext))
  (dSeq (dIf (dTst (dOp fEq (dVar 5) (dC (.str "with")))) (dRet (dComp [11] (dIt1 (aCons (dCB fLen (aCons (dVar 3) (aNil))) (aNil))) (.nm 11) (dYes) (dTup (aCons (dVar 5) (aCons (dVar 11) (aCons (dVar 6) (aNil))))))) (dNext))
  (dSeq (dIf (dTst (dOp fEq (dVar 5) (dC (.str "wide")))) (dRet (dComp [11] (dIt1 (aCons (dCB fLen (aCons (dVar 3) (aNil))) (aNil))) (.nm 11) (dYes) (dTup (aCons (dVar 5) (aCons (dVar 11) (aCons (dVar 6) (aCons (dVar 7) (aNil)))))))) (dNext))
  (dSeq (dIf (dOr (dTst (dOp fEq (dVar 5) (dC (.str "also")))) (dTst (dOp fEq (dVar 5) (dC (.str "other"))))) (dRet (dComp [11] (dIt1 (aCons (dCB fLen (aCons (dVar 3) (aNil))) (aNil))) (.nm 11) (dYes) (dTup (aCons (dVar 5) (aCons (dVar 11) (aNil)))))) (dNext))
  (dSeq (dSet 8 (dLstM (aNil)))
  (dSeq (dFor (dIt1 (aCons (dCB fLen (aCons (dVar 3) (aNil))) (aNil))) (.nm 9)
  (dFor (dIt1 (aCons (dCB fLen (aCons (dVar 3) (aNil))) (aNil))) (.nm 10)
  (dDrop (dBM tyLst fAppend (dVar 8) (aCons (dTup (aCons (dVar 5) (aCons (dVar 9) (aCons (dVar 10) (aNil))))) (aNil))))))
  (dFrzV 8 (dRet (dVar 8))))))))))))
abbrev s__law_next : Stmt := topS 69
abbrev N__law_next : List Str := ["_law_numbers_here", "_law_place", "_law_count", "_law_told_here", "_law_made_here", "_law_words", "_law_tried_here", "_law_right", "_law_row_here"]
theorem sc__law_next : FnScope ["_law_numbers_here", "_law_place", "_law_count", "_law_told_here", "_law_made_here", "_law_words", "_law_tried_here", "_law_right", "_law_row_here"] ["_law_numbers_here", "_law_place", "_law_count", "_law_told_here", "_law_made_here"] (defScope s__law_next) := ⟨rfl, rfl, rfl, by decide +kernel, rfl, by decide +kernel, by decide +kernel⟩
def phi__law_next : Fn := fnD 9 (
  dSeq (dSet 5 (dLst (aCons (dC (.str "told")) (aCons (dC (.str "within")) (aCons (dC (.str "with")) (aCons (dC (.str "through")) (aCons (dC (.str "also")) (aCons (dC (.str "other")) (aCons (dC (.str "wide")) (aCons (dC (.str "beyond")) (aCons (dC (.str "meets")) (aNil))))))))))))
  (dSeq (dSet 6 (dCall 6 phi__law_tried (aCons (dVar 0) (aCons (dVar 1) (aCons (dVar 2) (aCons (dVar 4) (aCons (dVar 3) (aCons (dOp fIx (dVar 5) (dOp fMod (dOp fIx (dVar 0) (dVar 1)) (dC (.int 9)))) (aNil)))))))))
  (dSeq (dSet 7 (dComp [8] (dItS (dVar 6)) (.nm 8) (dTst (dOp fNotN (dCall 4 phi__law_row (aCons (dVar 2) (aCons (dVar 3) (aCons (dVar 4) (aCons (dVar 8) (aNil)))))) (dC .non))) (dVar 8)))
  (dSeq (dIf (dTst (dOp fEq (dCB fLen (aCons (dVar 7) (aNil))) (dC (.int 0)))) (dSet 7 (dCall 6 phi__law_tried (aCons (dVar 0) (aCons (dVar 1) (aCons (dVar 2) (aCons (dVar 4) (aCons (dVar 3) (aCons (dC (.str "within")) (aNil))))))))) (dNext))
  (dRet (dOp fIx (dVar 7) (dOp fMod (dOp fDiv (dOp fIx (dVar 0) (dVar 1)) (dC (.int 9))) (dCB fLen (aCons (dVar 7) (aNil))))))))))
abbrev s__law_derivation : Stmt := topS 70
abbrev N__law_derivation : List Str := ["_law_numbers_here", "_law_place", "_law_count", "_law_told_here", "_law_size", "_law_rows", "_law_made_here", "_law_k", "_law_row_here"]
theorem sc__law_derivation : FnScope ["_law_numbers_here", "_law_place", "_law_count", "_law_told_here", "_law_size", "_law_rows", "_law_made_here", "_law_k", "_law_row_here"] ["_law_numbers_here", "_law_place", "_law_count", "_law_told_here", "_law_size"] (defScope s__law_derivation) := ⟨rfl, rfl, rfl, by decide +kernel, rfl, by decide +kernel, by decide +kernel⟩
def phi__law_derivation : Fn := fnD 9 (
  dSeq (dSet 5 (dCompM [7] (dIt1 (aCons (dCB fLen (aCons (dVar 3) (aNil))) (aNil))) (.nm 7) (dTst (dOp fNe (dOp fIx (dOp fIx (dVar 3) (dVar 7)) (dC (.int 0))) (dC (.str "jd")))) (dTup (aCons (dC (.str "told")) (aCons (dVar 7) (aNil))))))
  (dSeq (dSet 6 (dCompM [8] (dItS (dVar 5)) (.nm 8) (dYes) (dOp fIx (dVar 3) (dOp fIx (dVar 8) (dC (.int 1))))))
  (dSeq (dFor (dIt1 (aCons (dVar 4) (aNil))) (.nm 7)
  (dSeq (dSet 8 (dCall 5 phi__law_next (aCons (dVar 0) (aCons (dOp fAdd (dVar 1) (dOp fMul (dC (.int 2)) (dVar 7))) (aCons (dVar 2) (aCons (dVar 3) (aCons (dVar 6) (aNil))))))))
  (dSeq (dDrop (dBM tyLst fAppend (dVar 6) (aCons (dCall 4 phi__law_row (aCons (dVar 2) (aCons (dVar 3) (aCons (dVar 6) (aCons (dVar 8) (aNil)))))) (aNil))))
  (dDrop (dBM tyLst fAppend (dVar 5) (aCons (dVar 8) (aNil)))))))
  (dFrzV 5 (dFrzV 6 (dRet (dVar 5)))))))
abbrev s_law : Stmt := topS 71
abbrev N_law : List Str := ["_law_script", "_law_numbers_here", "_law_count", "_law_told_here", "_law_rows", "_law_made_here", "_law_objects", "_law_k", "_law_target", "_law_paper", "_law_changed", "_law_actual", "_law_one"]
theorem sc_law : FnScope ["_law_script", "_law_numbers_here", "_law_count", "_law_told_here", "_law_rows", "_law_made_here", "_law_objects", "_law_k", "_law_target", "_law_paper", "_law_changed", "_law_actual", "_law_one"] ["_law_script"] (defScope s_law) := ⟨rfl, rfl, rfl, by decide +kernel, rfl, by decide +kernel, by decide +kernel⟩
def phi_law : Fn := fnD 13 (
  dSeq (dSet 1 (dCall 2 phi__law_numbers (aCons (dVar 0) (aCons (dC (.int 18)) (aNil)))))
  (dSeq (dSet 2 (dOp fIx (dLst (aCons (dC (.int 1)) (aCons (dC (.int 2)) (aCons (dC (.int 3)) (aCons (dC (.int 4)) (aCons (dC (.int 5)) (aCons (dC (.int 6)) (aCons (dC (.int 3)) (aCons (dC (.int 4)) (aCons (dC (.int 5)) (aCons (dC (.int 10)) (aNil)))))))))))) (dOp fMod (dOp fIx (dVar 1) (dC (.int 0))) (dC (.int 10)))))
  (dSeq (dSet 3 (dCall 4 phi__law_told (aCons (dVar 1) (aCons (dC (.int 1)) (aCons (dVar 2) (aCons (dOp fMod (dOp fDiv (dOp fIx (dVar 1) (dC (.int 0))) (dC (.int 10))) (dC (.int 4))) (aNil)))))))
  (dSeq (dSet 4 (dCall 5 phi__law_derivation (aCons (dVar 1) (aCons (dC (.int 8)) (aCons (dVar 2) (aCons (dVar 3) (aCons (dOp fAdd (dOp fMod (dOp fIx (dVar 1) (dC (.int 7))) (dC (.int 5))) (dC (.int 1))) (aNil))))))))
  (dSeq (dSet 5 (dCall 3 phi__law_made (aCons (dVar 2) (aCons (dVar 3) (aCons (dVar 4) (aNil))))))
  (dSeq (dSet 6 (dComp [12] (dItS (dVar 3)) (.nm 12) (dYes) (dCall 1 phi__law_object (aCons (dVar 12) (aNil)))))
  (dSeq (dFor (dIt1 (aCons (dCB fLen (aCons (dVar 4) (aNil))) (aNil))) (.nm 7)
  (dSeq (dSet 8 (dCall 1 phi__law_object (aCons (dOp fIx (dVar 5) (dVar 7)) (aNil))))
  (dSeq (dSet 9 (dTup (aCons (dC (.str "derived")) (aCons (dCB fTuple (aCons (dSl (dVar 4) (oNone) (oSome (dOp fAdd (dVar 7) (dC (.int 1))))) (aNil))) (aNil)))))
  (dSeq (dIf (dTst (dOp fNotB (dCall 5 phi_takes (aCons (dVar 2) (aCons (dVar 6) (aCons (dVar 8) (aCons (dC (.bl true)) (aCons (dVar 9) (aNil))))))) (dC (.bl true)))) (dRet (dC (.bl false))) (dNext))
  (dSeq (dIf (dTst (dOp fNotB (dCall 5 phi_takes (aCons (dVar 2) (aCons (dVar 6) (aCons (dVar 8) (aCons (dC (.bl false)) (aCons (dVar 9) (aNil))))))) (dC (.bl false)))) (dRet (dC (.bl false))) (dNext))
  (dSeq (dSet 10 (dTup (aCons (dOp fIx (dLst (aCons (dC (.str "fd")) (aCons (dC (.str "mvd")) (aNil)))) (dCB fInt (aCons (dOp fEq (dOp fIx (dOp fIx (dVar 5) (dVar 7)) (dC (.int 0))) (dC (.str "fd"))) (aNil)))) (aCons (dOp fIx (dOp fIx (dVar 5) (dVar 7)) (dC (.int 1))) (aCons (dOp fIx (dOp fIx (dVar 5) (dVar 7)) (dC (.int 2))) (aNil))))))
  (dSeq (dIf (dTst (dOp fNotB (dCall 5 phi_takes (aCons (dVar 2) (aCons (dVar 6) (aCons (dCall 1 phi__law_object (aCons (dVar 10) (aNil))) (aCons (dC (.bl true)) (aCons (dVar 9) (aNil))))))) (dC (.bl false)))) (dRet (dC (.bl false))) (dNext))
  (dSeq (dIf (dTst (dOp fNotB (dCall 5 phi_takes (aCons (dVar 2) (aCons (dVar 6) (aCons (dVar 8) (aCons (dC (.bl true)) (aCons (dTup (aCons (dC (.str "derived")) (aCons (dTup (aNil)) (aNil)))) (aNil))))))) (dC (.bl false)))) (dRet (dC (.bl false))) (dNext))
  (dSeq (dSet 11 (dCall 5 phi_takes (aCons (dVar 2) (aCons (dVar 6) (aCons (dVar 8) (aCons (dC (.bl true)) (aCons (dTup (aCons (dC (.str "derived")) (aCons (dCB fTuple (aCons (dVar 4) (aNil))) (aNil)))) (aNil))))))))
  (dIf (dOr (dNot (dTst (dCB (fIsi isiTbl) (aCons (dVar 11) (aCons (dC (.ty "bool")) (aNil)))))) (dTst (dOp fNe (dVar 11) (dOp fEq (dOp fIx (dVar 5) (dVar 7)) (dOp fIx (dVar 5) (dOp fSub (dCB fLen (aCons (dVar 5) (aNil))) (dC (.int 1)))))))) (dRet (dC (.bl false))) (dNext)))))))))))
  (dRet (dCall 2 phi__law_is_kept (aCons (dVar 6) (aCons (dVar 3) (aNil))))))))))))
section
variable {P : Program} {w : World} {K : PySem.W.Frag} {mg : Str → Option Value} {base : Heap}
theorem ok_as_set {f : Addr} {fd : FuncData} (F : Fun K "as_set" "as_set" s_as_set f fd) (B : Blt mg) (T : Txt K mg) (C : Cst mg) : FnOk P w K mg base CX0 1 f fd ["columns"] (spD ⟨K, mg⟩ 1 phi_as_set) :=
  fn_ok F sc_as_set fun cdv A outer s H E hr => css_one (cs_ret (ce_callT cal_tuple B.tuple_ (ca_cons (ce_sset B.sorted B.set (ce_var 0)) (ca_nil))))
theorem ok_united {f : Addr} {fd : FuncData} (F : Fun K "united" "united" s_united f fd) (B : Blt mg) (T : Txt K mg) (C : Cst mg) (C_as_set : Cal P w K mg base 1 "as_set" 1 phi_as_set) : FnOk P w K mg base CX0 2 f fd ["a", "b"] (spD ⟨K, mg⟩ 2 phi_united) :=
  fn_ok F sc_united fun cdv A outer s H E hr => css_one (cs_ret (ce_call C_as_set (hr.mono (by decide)) (ca_cons (ce_op od_add (ce_callT cal_list B.list_ (ca_cons (ce_var 0) (ca_nil))) (ce_callT cal_list B.list_ (ca_cons (ce_var 1) (ca_nil)))) (ca_nil))))
theorem ok_met {f : Addr} {fd : FuncData} (F : Fun K "met" "met" s_met f fd) (B : Blt mg) (T : Txt K mg) (C : Cst mg) : FnOk P w K mg base CX0 1 f fd ["a", "b"] (spD ⟨K, mg⟩ 2 phi_met) :=
  fn_ok F sc_met fun cdv A outer s H E hr => css_one (cs_ret (ce_callT cal_tuple B.tuple_ (ca_cons (ce_comp sc_met.nd (own := [("column", 2)]) (ci_seq (ce_var 0)) (blkOk_by (N := N_met) (sc := defScope s_met) (by decide +kernel)) (fun _ _ _ _ _ => cp_nm 2 sc_met.nd) (fun _ _ _ _ _ => cts_one (ct_cmp (od_in (u65 hr)) (ce_var 2) (ce_var 1))) (fun _ _ _ _ _ => ce_var 2)) (ca_nil))))
theorem ok_less {f : Addr} {fd : FuncData} (F : Fun K "less" "less" s_less f fd) (B : Blt mg) (T : Txt K mg) (C : Cst mg) : FnOk P w K mg base CX0 1 f fd ["a", "b"] (spD ⟨K, mg⟩ 2 phi_less) :=
  fn_ok F sc_less fun cdv A outer s H E hr => css_one (cs_ret (ce_callT cal_tuple B.tuple_ (ca_cons (ce_comp sc_less.nd (own := [("column", 2)]) (ci_seq (ce_var 0)) (blkOk_by (N := N_less) (sc := defScope s_less) (by decide +kernel)) (fun _ _ _ _ _ => cp_nm 2 sc_less.nd) (fun _ _ _ _ _ => cts_one (ct_cmp (od_nin (u65 hr)) (ce_var 2) (ce_var 1))) (fun _ _ _ _ _ => ce_var 2)) (ca_nil))))
theorem ok_is_within {f : Addr} {fd : FuncData} (F : Fun K "is_within" "is_within" s_is_within f fd) (B : Blt mg) (T : Txt K mg) (C : Cst mg) : FnOk P w K mg base CX0 1 f fd ["a", "b"] (spD ⟨K, mg⟩ 2 phi_is_within) :=
  fn_ok F sc_is_within fun cdv A outer s H E hr => css_one (cs_ret (ce_callB (cal_all rfl) B.all (ca_cons (ce_comp sc_is_within.nd (own := [("column", 2)]) (ci_seq (ce_var 0)) (blkOk_by (N := N_is_within) (sc := defScope s_is_within) (by decide +kernel)) (fun _ _ _ _ _ => cp_nm 2 sc_is_within.nd) (fun _ _ _ _ _ => cts_nil) (fun _ _ _ _ _ => ce_cmp (od_in (u65 hr)) (ce_var 2) (ce_var 1))) (ca_nil))))
theorem ok_whole {f : Addr} {fd : FuncData} (F : Fun K "whole" "whole" s_whole f fd) (B : Blt mg) (T : Txt K mg) (C : Cst mg) : FnOk P w K mg base CX0 1 f fd ["count"] (spD ⟨K, mg⟩ 1 phi_whole) :=
  fn_ok F sc_whole fun cdv A outer s H E hr => css_one (cs_ret (ce_tupR B.tuple_ B.range (ce_var 0)))
theorem ok_Sides___init__ {f : Addr} {fd : FuncData} (F : Fun K "__init__" "Sides.__init__" s_Sides___init__ f fd) (B : Blt mg) (T : Txt K mg) (C : Cst mg) (C_as_set : Cal P w K mg base 1 "as_set" 1 phi_as_set) : FnOk P w K mg base CX0 2 f fd ["self", "left", "right"] (spD ⟨K, mg⟩ 3 phi_Sides___init__) :=
  fn_ok F sc_Sides___init__ fun cdv A outer s H E hr => css_cons (cs_setF (all2 T.f_Fd_left T.f_Mvd_left) (ce_var 0) (ce_call C_as_set (hr.mono (by decide)) (ca_cons (ce_var 1) (ca_nil))))
  (css_one (cs_setF (all2 T.f_Fd_right T.f_Mvd_right) (ce_var 0) (ce_call C_as_set (hr.mono (by decide)) (ca_cons (ce_var 2) (ca_nil)))))
theorem ok_Sides_key {f : Addr} {fd : FuncData} (F : Fun K "key" "Sides.key" s_Sides_key f fd) (B : Blt mg) (T : Txt K mg) (C : Cst mg) : FnOk P w K mg base CX0 1 f fd ["self"] (spD ⟨K, mg⟩ 1 phi_Sides_key) :=
  fn_ok F sc_Sides_key fun cdv A outer s H E hr => css_one (cs_ret (ce_tup (ca_cons (ce_fld (all2 T.f_Fd_left T.f_Mvd_left) (ce_var 0)) (ca_cons (ce_fld (all2 T.f_Fd_right T.f_Mvd_right) (ce_var 0)) (ca_nil)))))
theorem ok_Fd___eq__ {f : Addr} {fd : FuncData} (F : Fun K "__eq__" "Fd.__eq__" s_Fd___eq__ f fd) (B : Blt mg) (T : Txt K mg) (C : Cst mg) (C_Fd_key : CalP P w K mg base 1 "Fd" "key" phi_Sides_key) : FnOk P w K mg base CX0 3 f fd ["self", "other"] (spD ⟨K, mg⟩ 2 phi_Fd___eq__) :=
  fn_ok F sc_Fd___eq__ fun cdv A outer s H E hr => css_one (cs_ret (ce_and (ce_callB (cal_isi T.isi) B.isinstance (ca_cons (ce_var 1) (ca_cons (ce_cls T.c_Fd) (ca_nil)))) (ce_one (ce_cmp (od_eq hr.units) (ce_prop C_Fd_key (hr.mono (by decide)) (ce_var 0)) (ce_prop C_Fd_key (hr.mono (by decide)) (ce_var 1))))))
theorem ok_Mvd___eq__ {f : Addr} {fd : FuncData} (F : Fun K "__eq__" "Mvd.__eq__" s_Mvd___eq__ f fd) (B : Blt mg) (T : Txt K mg) (C : Cst mg) (C_Mvd_key : CalP P w K mg base 1 "Mvd" "key" phi_Sides_key) : FnOk P w K mg base CX0 3 f fd ["self", "other"] (spD ⟨K, mg⟩ 2 phi_Mvd___eq__) :=
  fn_ok F sc_Mvd___eq__ fun cdv A outer s H E hr => css_one (cs_ret (ce_and (ce_callB (cal_isi T.isi) B.isinstance (ca_cons (ce_var 1) (ca_cons (ce_cls T.c_Mvd) (ca_nil)))) (ce_one (ce_cmp (od_eq hr.units) (ce_prop C_Mvd_key (hr.mono (by decide)) (ce_var 0)) (ce_prop C_Mvd_key (hr.mono (by decide)) (ce_var 1))))))
theorem ok_Jd___init__ {f : Addr} {fd : FuncData} (F : Fun K "__init__" "Jd.__init__" s_Jd___init__ f fd) (B : Blt mg) (T : Txt K mg) (C : Cst mg) (C_as_set : Cal P w K mg base 1 "as_set" 1 phi_as_set) : FnOk P w K mg base CX0 2 f fd ["self", "parts"] (spD ⟨K, mg⟩ 2 phi_Jd___init__) :=
  fn_ok F sc_Jd___init__ fun cdv A outer s H E hr => css_one (cs_setF (all1 T.f_Jd_parts) (ce_var 0) (ce_callT cal_tuple B.tuple_ (ca_cons (ce_comp sc_Jd___init__.nd (own := [("part", 2)]) (ci_seq (ce_var 1)) (blkOk_by (N := N_Jd___init__) (sc := defScope s_Jd___init__) (by decide +kernel)) (fun _ _ _ _ _ => cp_nm 2 sc_Jd___init__.nd) (fun _ _ _ _ _ => cts_nil) (fun _ _ _ _ _ => ce_call C_as_set (hr.mono (by decide)) (ca_cons (ce_var 2) (ca_nil)))) (ca_nil))))
theorem ok_is_set {f : Addr} {fd : FuncData} (F : Fun K "is_set" "is_set" s_is_set f fd) (B : Blt mg) (T : Txt K mg) (C : Cst mg) (C_as_set : Cal P w K mg base 1 "as_set" 1 phi_as_set) (C_whole : Cal P w K mg base 1 "whole" 1 phi_whole) (C_is_within : Cal P w K mg base 1 "is_within" 2 phi_is_within) : FnOk P w K mg base CX0 2 f fd ["columns", "count"] (spD ⟨K, mg⟩ 2 phi_is_set) :=
  fn_ok F sc_is_set fun cdv A outer s H E hr => css_one (cs_ret (ce_and (ce_cmp (od_eq hr.units) (ce_var 0) (ce_call C_as_set (hr.mono (by decide)) (ca_cons (ce_var 0) (ca_nil)))) (ce_one (ce_call C_is_within (hr.mono (by decide)) (ca_cons (ce_var 0) (ca_cons (ce_call C_whole (hr.mono (by decide)) (ca_cons (ce_var 1) (ca_nil))) (ca_nil)))))))
theorem ok_earlier {f : Addr} {fd : FuncData} (F : Fun K "earlier" "earlier" s_earlier f fd) (B : Blt mg) (T : Txt K mg) (C : Cst mg) : FnOk P w K mg base CX0 1 f fd ["made", "index"] (spD ⟨K, mg⟩ 2 phi_earlier) :=
  fn_ok F sc_earlier fun cdv A outer s H E hr => css_cons (cs_if (ct_chain od_le od_lt (ce_int) (ce_var 1) (ce_callB cal_len B.len (ca_cons (ce_var 0) (ca_nil)))) (css_one (cs_ret (ce_ix (ce_var 0) (ce_var 1)))) (css_nil))
  (css_one (cs_ret (ce_non)))
theorem ok_by_told {f : Addr} {fd : FuncData} (F : Fun K "by_told" "by_told" s_by_told f fd) (B : Blt mg) (T : Txt K mg) (C : Cst mg) : FnOk P w K mg base CX0 1 f fd ["dependencies", "index"] (spD ⟨K, mg⟩ 2 phi_by_told) :=
  fn_ok F sc_by_told fun cdv A outer s H E hr => css_cons (cs_if (ct_w (cw_and (ct_chain od_le od_lt (ce_int) (ce_var 1) (ce_callB cal_len B.len (ca_cons (ce_var 0) (ca_nil)))) (cw_and1 (ct_not (ct_val (ce_callB (cal_isi T.isi) B.isinstance (ca_cons (ce_ix (ce_var 0) (ce_var 1)) (ca_cons (ce_cls T.c_Jd) (ca_nil))))))))) (css_one (cs_ret (ce_ix (ce_var 0) (ce_var 1)))) (css_nil))
  (css_one (cs_ret (ce_non)))
theorem ok_by_within {f : Addr} {fd : FuncData} (F : Fun K "by_within" "by_within" s_by_within f fd) (B : Blt mg) (T : Txt K mg) (C : Cst mg) (C_is_set : Cal P w K mg base 2 "is_set" 2 phi_is_set) (C_is_within : Cal P w K mg base 1 "is_within" 2 phi_is_within) (C_Fd : CalC P w K mg base 2 "Fd" 3 phi_Sides___init__) : FnOk P w K mg base CX0 4 f fd ["count", "left", "right"] (spD ⟨K, mg⟩ 3 phi_by_within) :=
  fn_ok F sc_by_within fun cdv A outer s H E hr => css_cons (cs_if (ct_w (cw_and (ct_val (ce_call C_is_set (hr.mono (by decide)) (ca_cons (ce_var 1) (ca_cons (ce_var 0) (ca_nil))))) (cw_and (ct_val (ce_call C_is_set (hr.mono (by decide)) (ca_cons (ce_var 2) (ca_cons (ce_var 0) (ca_nil))))) (cw_and1 (ct_val (ce_call C_is_within (hr.mono (by decide)) (ca_cons (ce_var 2) (ca_cons (ce_var 1) (ca_nil))))))))) (css_one (cs_ret (ce_make C_Fd (hr.mono (by decide)) (ca_cons (ce_var 1) (ca_cons (ce_var 2) (ca_nil)))))) (css_nil))
  (css_one (cs_ret (ce_non)))
theorem ok_by_with {f : Addr} {fd : FuncData} (F : Fun K "by_with" "by_with" s_by_with f fd) (B : Blt mg) (T : Txt K mg) (C : Cst mg) (C_is_set : Cal P w K mg base 2 "is_set" 2 phi_is_set) (C_Fd : CalC P w K mg base 2 "Fd" 3 phi_Sides___init__) (C_united : Cal P w K mg base 2 "united" 2 phi_united) : FnOk P w K mg base CX0 4 f fd ["count", "first", "columns"] (spD ⟨K, mg⟩ 3 phi_by_with) :=
  fn_ok F sc_by_with fun cdv A outer s H E hr => css_cons (cs_if (ct_w (cw_and (ct_val (ce_callB (cal_isi T.isi) B.isinstance (ca_cons (ce_var 1) (ca_cons (ce_cls T.c_Fd) (ca_nil))))) (cw_and1 (ct_val (ce_call C_is_set (hr.mono (by decide)) (ca_cons (ce_var 2) (ca_cons (ce_var 0) (ca_nil)))))))) (css_one (cs_ret (ce_make C_Fd (hr.mono (by decide)) (ca_cons (ce_call C_united (hr.mono (by decide)) (ca_cons (ce_fld (all2 T.f_Fd_left T.f_Mvd_left) (ce_var 1)) (ca_cons (ce_var 2) (ca_nil)))) (ca_cons (ce_call C_united (hr.mono (by decide)) (ca_cons (ce_fld (all2 T.f_Fd_right T.f_Mvd_right) (ce_var 1)) (ca_cons (ce_var 2) (ca_nil)))) (ca_nil)))))) (css_nil))
  (css_one (cs_ret (ce_non)))
theorem ok_by_through {f : Addr} {fd : FuncData} (F : Fun K "by_through" "by_through" s_by_through f fd) (B : Blt mg) (T : Txt K mg) (C : Cst mg) (C_Fd : CalC P w K mg base 2 "Fd" 3 phi_Sides___init__) : FnOk P w K mg base CX0 4 f fd ["first", "second"] (spD ⟨K, mg⟩ 2 phi_by_through) :=
  fn_ok F sc_by_through fun cdv A outer s H E hr => css_cons (cs_if (ct_w (cw_and (ct_val (ce_callB (cal_isi T.isi) B.isinstance (ca_cons (ce_var 0) (ca_cons (ce_cls T.c_Fd) (ca_nil))))) (cw_and (ct_val (ce_callB (cal_isi T.isi) B.isinstance (ca_cons (ce_var 1) (ca_cons (ce_cls T.c_Fd) (ca_nil))))) (cw_and1 (ct_cmp (od_eq hr.units) (ce_fld (all2 T.f_Fd_right T.f_Mvd_right) (ce_var 0)) (ce_fld (all2 T.f_Fd_left T.f_Mvd_left) (ce_var 1))))))) (css_one (cs_ret (ce_make C_Fd (hr.mono (by decide)) (ca_cons (ce_fld (all2 T.f_Fd_left T.f_Mvd_left) (ce_var 0)) (ca_cons (ce_fld (all2 T.f_Fd_right T.f_Mvd_right) (ce_var 1)) (ca_nil)))))) (css_nil))
  (css_one (cs_ret (ce_non)))
theorem ok_by_also {f : Addr} {fd : FuncData} (F : Fun K "by_also" "by_also" s_by_also f fd) (B : Blt mg) (T : Txt K mg) (C : Cst mg) (C_Mvd : CalC P w K mg base 2 "Mvd" 3 phi_Sides___init__) : FnOk P w K mg base CX0 4 f fd ["first"] (spD ⟨K, mg⟩ 1 phi_by_also) :=
  fn_ok F sc_by_also fun cdv A outer s H E hr => css_cons (cs_if (ct_val (ce_callB (cal_isi T.isi) B.isinstance (ca_cons (ce_var 0) (ca_cons (ce_cls T.c_Fd) (ca_nil))))) (css_one (cs_ret (ce_make C_Mvd (hr.mono (by decide)) (ca_cons (ce_fld (all2 T.f_Fd_left T.f_Mvd_left) (ce_var 0)) (ca_cons (ce_fld (all2 T.f_Fd_right T.f_Mvd_right) (ce_var 0)) (ca_nil)))))) (css_nil))
  (css_one (cs_ret (ce_non)))
theorem ok_by_other {f : Addr} {fd : FuncData} (F : Fun K "by_other" "by_other" s_by_other f fd) (B : Blt mg) (T : Txt K mg) (C : Cst mg) (C_Mvd : CalC P w K mg base 2 "Mvd" 3 phi_Sides___init__) (C_whole : Cal P w K mg base 1 "whole" 1 phi_whole) (C_united : Cal P w K mg base 2 "united" 2 phi_united) (C_less : Cal P w K mg base 1 "less" 2 phi_less) : FnOk P w K mg base CX0 4 f fd ["count", "first"] (spD ⟨K, mg⟩ 2 phi_by_other) :=
  fn_ok F sc_by_other fun cdv A outer s H E hr => css_cons (cs_if (ct_val (ce_callB (cal_isi T.isi) B.isinstance (ca_cons (ce_var 1) (ca_cons (ce_cls T.c_Mvd) (ca_nil))))) (css_one (cs_ret (ce_make C_Mvd (hr.mono (by decide)) (ca_cons (ce_fld (all2 T.f_Fd_left T.f_Mvd_left) (ce_var 1)) (ca_cons (ce_call C_less (hr.mono (by decide)) (ca_cons (ce_call C_whole (hr.mono (by decide)) (ca_cons (ce_var 0) (ca_nil))) (ca_cons (ce_call C_united (hr.mono (by decide)) (ca_cons (ce_fld (all2 T.f_Fd_left T.f_Mvd_left) (ce_var 1)) (ca_cons (ce_fld (all2 T.f_Fd_right T.f_Mvd_right) (ce_var 1)) (ca_nil)))) (ca_nil)))) (ca_nil)))))) (css_nil))
  (css_one (cs_ret (ce_non)))
theorem ok_by_wide {f : Addr} {fd : FuncData} (F : Fun K "by_wide" "by_wide" s_by_wide f fd) (B : Blt mg) (T : Txt K mg) (C : Cst mg) (C_is_set : Cal P w K mg base 2 "is_set" 2 phi_is_set) (C_is_within : Cal P w K mg base 1 "is_within" 2 phi_is_within) (C_Mvd : CalC P w K mg base 2 "Mvd" 3 phi_Sides___init__) (C_united : Cal P w K mg base 2 "united" 2 phi_united) : FnOk P w K mg base CX0 4 f fd ["count", "first", "columns", "some"] (spD ⟨K, mg⟩ 4 phi_by_wide) :=
  fn_ok F sc_by_wide fun cdv A outer s H E hr => css_cons (cs_if (ct_w (cw_or (ct_not (ct_val (ce_call C_is_set (hr.mono (by decide)) (ca_cons (ce_var 2) (ca_cons (ce_var 0) (ca_nil)))))) (cw_or1 (ct_not (ct_val (ce_call C_is_set (hr.mono (by decide)) (ca_cons (ce_var 3) (ca_cons (ce_var 0) (ca_nil))))))))) (css_one (cs_ret (ce_non))) (css_nil))
  (css_cons (cs_if (ct_w (cw_and (ct_val (ce_callB (cal_isi T.isi) B.isinstance (ca_cons (ce_var 1) (ca_cons (ce_cls T.c_Mvd) (ca_nil))))) (cw_and1 (ct_val (ce_call C_is_within (hr.mono (by decide)) (ca_cons (ce_var 3) (ca_cons (ce_var 2) (ca_nil)))))))) (css_one (cs_ret (ce_make C_Mvd (hr.mono (by decide)) (ca_cons (ce_call C_united (hr.mono (by decide)) (ca_cons (ce_fld (all2 T.f_Fd_left T.f_Mvd_left) (ce_var 1)) (ca_cons (ce_var 2) (ca_nil)))) (ca_cons (ce_call C_united (hr.mono (by decide)) (ca_cons (ce_fld (all2 T.f_Fd_right T.f_Mvd_right) (ce_var 1)) (ca_cons (ce_var 3) (ca_nil)))) (ca_nil)))))) (css_nil))
  (css_one (cs_ret (ce_non))))
theorem ok_by_beyond {f : Addr} {fd : FuncData} (F : Fun K "by_beyond" "by_beyond" s_by_beyond f fd) (B : Blt mg) (T : Txt K mg) (C : Cst mg) (C_Mvd : CalC P w K mg base 2 "Mvd" 3 phi_Sides___init__) (C_less : Cal P w K mg base 1 "less" 2 phi_less) : FnOk P w K mg base CX0 4 f fd ["first", "second"] (spD ⟨K, mg⟩ 2 phi_by_beyond) :=
  fn_ok F sc_by_beyond fun cdv A outer s H E hr => css_cons (cs_if (ct_w (cw_and (ct_val (ce_callB (cal_isi T.isi) B.isinstance (ca_cons (ce_var 0) (ca_cons (ce_cls T.c_Mvd) (ca_nil))))) (cw_and (ct_val (ce_callB (cal_isi T.isi) B.isinstance (ca_cons (ce_var 1) (ca_cons (ce_cls T.c_Mvd) (ca_nil))))) (cw_and1 (ct_cmp (od_eq hr.units) (ce_fld (all2 T.f_Fd_right T.f_Mvd_right) (ce_var 0)) (ce_fld (all2 T.f_Fd_left T.f_Mvd_left) (ce_var 1))))))) (css_one (cs_ret (ce_make C_Mvd (hr.mono (by decide)) (ca_cons (ce_fld (all2 T.f_Fd_left T.f_Mvd_left) (ce_var 0)) (ca_cons (ce_call C_less (hr.mono (by decide)) (ca_cons (ce_fld (all2 T.f_Fd_right T.f_Mvd_right) (ce_var 1)) (ca_cons (ce_fld (all2 T.f_Fd_right T.f_Mvd_right) (ce_var 0)) (ca_nil)))) (ca_nil)))))) (css_nil))
  (css_one (cs_ret (ce_non)))
theorem ok_by_meets {f : Addr} {fd : FuncData} (F : Fun K "by_meets" "by_meets" s_by_meets f fd) (B : Blt mg) (T : Txt K mg) (C : Cst mg) (C_is_within : Cal P w K mg base 1 "is_within" 2 phi_is_within) (C_met : Cal P w K mg base 1 "met" 2 phi_met) (C_Fd : CalC P w K mg base 2 "Fd" 3 phi_Sides___init__) : FnOk P w K mg base CX0 4 f fd ["first", "second"] (spD ⟨K, mg⟩ 2 phi_by_meets) :=
  fn_ok F sc_by_meets fun cdv A outer s H E hr => css_cons (cs_if (ct_w (cw_or (ct_not (ct_val (ce_callB (cal_isi T.isi) B.isinstance (ca_cons (ce_var 0) (ca_cons (ce_cls T.c_Mvd) (ca_nil)))))) (cw_or1 (ct_not (ct_val (ce_callB (cal_isi T.isi) B.isinstance (ca_cons (ce_var 1) (ca_cons (ce_cls T.c_Fd) (ca_nil))))))))) (css_one (cs_ret (ce_non))) (css_nil))
  (css_cons (cs_if (ct_w (cw_and (ct_val (ce_call C_is_within (hr.mono (by decide)) (ca_cons (ce_fld (all2 T.f_Fd_right T.f_Mvd_right) (ce_var 1)) (ca_cons (ce_fld (all2 T.f_Fd_right T.f_Mvd_right) (ce_var 0)) (ca_nil))))) (cw_and1 (ct_cmp (od_eq hr.units) (ce_callB cal_len B.len (ca_cons (ce_call C_met (hr.mono (by decide)) (ca_cons (ce_fld (all2 T.f_Fd_left T.f_Mvd_left) (ce_var 1)) (ca_cons (ce_fld (all2 T.f_Fd_right T.f_Mvd_right) (ce_var 0)) (ca_nil)))) (ca_nil))) (ce_int))))) (css_one (cs_ret (ce_make C_Fd (hr.mono (by decide)) (ca_cons (ce_fld (all2 T.f_Fd_left T.f_Mvd_left) (ce_var 0)) (ca_cons (ce_fld (all2 T.f_Fd_right T.f_Mvd_right) (ce_var 1)) (ca_nil)))))) (css_nil))
  (css_one (cs_ret (ce_non))))
theorem ok_of_one {f : Addr} {fd : FuncData} (F : Fun K "of_one" "of_one" s_of_one f fd) (B : Blt mg) (T : Txt K mg) (C : Cst mg) (C_by_with : Cal P w K mg base 4 "by_with" 3 phi_by_with) (C_by_also : Cal P w K mg base 4 "by_also" 1 phi_by_also) (C_by_other : Cal P w K mg base 4 "by_other" 2 phi_by_other) (C_by_wide : Cal P w K mg base 4 "by_wide" 4 phi_by_wide) : FnOk P w K mg base CX0 5 f fd ["count", "first", "row"] (spD ⟨K, mg⟩ 3 phi_of_one) :=
  fn_ok F sc_of_one fun cdv A outer s H E hr => css_cons (cs_if (ct_cmp (od_eq hr.units) (ce_ix (ce_var 2) (ce_int)) (ce_str)) (css_one (cs_ret (ce_call C_by_with (hr.mono (by decide)) (ca_cons (ce_var 0) (ca_cons (ce_var 1) (ca_cons (ce_ix (ce_var 2) (ce_int)) (ca_nil))))))) (css_nil))
  (css_cons (cs_if (ct_cmp (od_eq hr.units) (ce_ix (ce_var 2) (ce_int)) (ce_str)) (css_one (cs_ret (ce_call C_by_also (hr.mono (by decide)) (ca_cons (ce_var 1) (ca_nil))))) (css_nil))
  (css_cons (cs_if (ct_cmp (od_eq hr.units) (ce_ix (ce_var 2) (ce_int)) (ce_str)) (css_one (cs_ret (ce_call C_by_other (hr.mono (by decide)) (ca_cons (ce_var 0) (ca_cons (ce_var 1) (ca_nil)))))) (css_nil))
  (css_one (cs_ret (ce_call C_by_wide (hr.mono (by decide)) (ca_cons (ce_var 0) (ca_cons (ce_var 1) (ca_cons (ce_ix (ce_var 2) (ce_int)) (ca_cons (ce_ix (ce_var 2) (ce_int)) (ca_nil))))))))))
theorem ok_of_two {f : Addr} {fd : FuncData} (F : Fun K "of_two" "of_two" s_of_two f fd) (B : Blt mg) (T : Txt K mg) (C : Cst mg) (C_by_through : Cal P w K mg base 4 "by_through" 2 phi_by_through) (C_by_beyond : Cal P w K mg base 4 "by_beyond" 2 phi_by_beyond) (C_by_meets : Cal P w K mg base 4 "by_meets" 2 phi_by_meets) : FnOk P w K mg base CX0 5 f fd ["first", "second", "word"] (spD ⟨K, mg⟩ 3 phi_of_two) :=
  fn_ok F sc_of_two fun cdv A outer s H E hr => css_cons (cs_if (ct_cmp (od_eq hr.units) (ce_var 2) (ce_str)) (css_one (cs_ret (ce_call C_by_through (hr.mono (by decide)) (ca_cons (ce_var 0) (ca_cons (ce_var 1) (ca_nil)))))) (css_nil))
  (css_cons (cs_if (ct_cmp (od_eq hr.units) (ce_var 2) (ce_str)) (css_one (cs_ret (ce_call C_by_beyond (hr.mono (by decide)) (ca_cons (ce_var 0) (ca_cons (ce_var 1) (ca_nil)))))) (css_nil))
  (css_one (cs_ret (ce_call C_by_meets (hr.mono (by decide)) (ca_cons (ce_var 0) (ca_cons (ce_var 1) (ca_nil)))))))
theorem ok_row_tells {f : Addr} {fd : FuncData} (F : Fun K "row_tells" "row_tells" s_row_tells f fd) (B : Blt mg) (T : Txt K mg) (C : Cst mg) (C_by_told : Cal P w K mg base 1 "by_told" 2 phi_by_told) (C_by_within : Cal P w K mg base 4 "by_within" 3 phi_by_within) (C_earlier : Cal P w K mg base 1 "earlier" 2 phi_earlier) (C_of_two : Cal P w K mg base 5 "of_two" 3 phi_of_two) (C_of_one : Cal P w K mg base 5 "of_one" 3 phi_of_one) : FnOk P w K mg base CX0 6 f fd ["count", "dependencies", "made", "row"] (spD ⟨K, mg⟩ 4 phi_row_tells) :=
  fn_ok F sc_row_tells fun cdv A outer s H E hr => css_cons (cs_if (ct_cmp (od_eq hr.units) (ce_ix (ce_var 3) (ce_int)) (ce_str)) (css_one (cs_ret (ce_call C_by_told (hr.mono (by decide)) (ca_cons (ce_var 1) (ca_cons (ce_ix (ce_var 3) (ce_int)) (ca_nil)))))) (css_nil))
  (css_cons (cs_if (ct_cmp (od_eq hr.units) (ce_ix (ce_var 3) (ce_int)) (ce_str)) (css_one (cs_ret (ce_call C_by_within (hr.mono (by decide)) (ca_cons (ce_var 0) (ca_cons (ce_ix (ce_var 3) (ce_int)) (ca_cons (ce_ix (ce_var 3) (ce_int)) (ca_nil))))))) (css_nil))
  (css_cons (cs_set 4 sc_row_tells.nd (ce_call C_earlier (hr.mono (by decide)) (ca_cons (ce_var 2) (ca_cons (ce_ix (ce_var 3) (ce_int)) (ca_nil)))))
  (css_cons (cs_if (ct_w (cw_or (ct_cmp (od_eq hr.units) (ce_ix (ce_var 3) (ce_int)) (ce_str)) (cw_or (ct_cmp (od_eq hr.units) (ce_ix (ce_var 3) (ce_int)) (ce_str)) (cw_or1 (ct_cmp (od_eq hr.units) (ce_ix (ce_var 3) (ce_int)) (ce_str)))))) (css_one (cs_ret (ce_call C_of_two (hr.mono (by decide)) (ca_cons (ce_var 4) (ca_cons (ce_call C_earlier (hr.mono (by decide)) (ca_cons (ce_var 2) (ca_cons (ce_ix (ce_var 3) (ce_int)) (ca_nil)))) (ca_cons (ce_ix (ce_var 3) (ce_int)) (ca_nil))))))) (css_nil))
  (css_one (cs_ret (ce_call C_of_one (hr.mono (by decide)) (ca_cons (ce_var 0) (ca_cons (ce_var 4) (ca_cons (ce_var 3) (ca_nil))))))))))
theorem ok_derives {f : Addr} {fd : FuncData} (F : Fun K "derives" "derives" s_derives f fd) (B : Blt mg) (T : Txt K mg) (C : Cst mg) (C_row_tells : Cal P w K mg base 6 "row_tells" 4 phi_row_tells) (C_Fd___eq__ : CalM P w K mg base 3 "Fd" "__eq__" 2 phi_Fd___eq__) (C_Mvd___eq__ : CalM P w K mg base 3 "Mvd" "__eq__" 2 phi_Mvd___eq__) : FnOk P w K mg base CX0 7 f fd ["count", "dependencies", "target", "rows"] (spD ⟨K, mg⟩ 4 phi_derives) :=
  fn_ok F sc_derives fun cdv A outer s H E hr => css_cons (cs_set 4 sc_derives.nd (ce_lstM (ca_nil)))
  (css_cons (cs_for PassesOwn.never (ci_seq (ce_var 3)) (cp_nm 5 sc_derives.nd)
  (css_cons (cs_set 6 sc_derives.nd (ce_call C_row_tells (hr.mono (by decide)) (ca_cons (ce_var 0) (ca_cons (ce_var 1) (ca_cons (ce_var 4) (ca_cons (ce_var 5) (ca_nil)))))))
  (css_cons (cs_if (ct_cmp od_isN (ce_var 6) (ce_non)) (css_one (cs_ret (ce_bl))) (css_nil))
  (css_one (cs_expr (ce_bm PySem.F.plainAttrs_list PySem.F.slot_list_append PySem.F.type_list_append md_append tyLst_ok (ce_var 4) (ca_cons (ce_var 6) (ca_nil))))))))
  (css_frz 4 (css_one (cs_ret (ce_and (ce_cmp od_gt (ce_callB cal_len B.len (ca_cons (ce_var 4) (ca_nil))) (ce_int)) (ce_one (ce_cmp (od_or (od_own C_Fd___eq__ (hr.mono (by decide)) (all3 T.n_Fd_Fd T.n_Fd_Mvd T.n_Fd_Jd)) (od_own C_Mvd___eq__ (hr.mono (by decide)) (all3 T.n_Mvd_Fd T.n_Mvd_Mvd T.n_Mvd_Jd))) (ce_ix (ce_var 4) (ce_neg (ce_int))) (ce_var 2))))))))
theorem ok_takes {f : Addr} {fd : FuncData} (F : Fun K "takes" "takes" s_takes f fd) (B : Blt mg) (T : Txt K mg) (C : Cst mg) (C_derives : Cal P w K mg base 7 "derives" 4 phi_derives) : FnOk P w K mg base CX0 8 f fd ["count", "dependencies", "target", "verdict", "paper"] (spD ⟨K, mg⟩ 5 phi_takes) :=
  fn_ok F sc_takes fun cdv A outer s H E hr => css_cons (cs_if (ct_w (cw_and (ct_val (ce_var 3)) (cw_and1 (ct_cmp (od_eq hr.units) (ce_ix (ce_var 4) (ce_int)) (ce_str))))) (css_one (cs_ret (ce_call C_derives (hr.mono (by decide)) (ca_cons (ce_var 0) (ca_cons (ce_var 1) (ca_cons (ce_var 2) (ca_cons (ce_ix (ce_var 4) (ce_int)) (ca_nil)))))))) (css_nil))
  (css_cons (cs_if (ct_w (cw_and (ct_val (ce_var 3)) (cw_and1 (ct_cmp (od_eq hr.units) (ce_ix (ce_var 4) (ce_int)) (ce_str))))) (css_one (cs_never)) (css_nil))
  (css_cons (cs_if (ct_w (cw_and (ct_not (ct_val (ce_var 3))) (cw_and1 (ct_cmp (od_eq hr.units) (ce_ix (ce_var 4) (ce_int)) (ce_str))))) (css_one (cs_never)) (css_nil))
  (css_one (cs_ret (ce_bl)))))
theorem ok__law_numbers {f : Addr} {fd : FuncData} (F : Fun K "_law_numbers" "_law_numbers" s__law_numbers f fd) (B : Blt mg) (T : Txt K mg) (C : Cst mg) : FnOk P w K mg base CX0 1 f fd ["_law_script", "_law_count"] (spD ⟨K, mg⟩ 2 phi__law_numbers) :=
  fn_ok F sc__law_numbers fun cdv A outer s H E hr => css_cons (cs_set 2 sc__law_numbers.nd (ce_int))
  (css_cons (cs_if (ct_cmp od_gt (ce_callB cal_len B.len (ca_cons (ce_var 0) (ca_nil))) (ce_int)) (css_one (cs_set 2 sc__law_numbers.nd (ce_ix (ce_var 0) (ce_int)))) (css_nil))
  (css_cons (cs_set 3 sc__law_numbers.nd (ce_cmp od_ge (ce_var 2) (ce_op od_pow (ce_int) (ce_int))))
  (css_cons (cs_set 4 sc__law_numbers.nd (ce_lstM (ca_nil)))
  (css_cons (cs_for PassesOwn.never (ci_rng1 B.range (ca_cons (ce_var 1) (ca_nil))) (cp_nm 5 sc__law_numbers.nd)
  (css_one (cs_if (ct_w (cw_and (ct_val (ce_var 3)) (cw_and1 (ct_cmp od_gt (ce_var 2) (ce_int))))) (css_cons (cs_expr (ce_bm PySem.F.plainAttrs_list PySem.F.slot_list_append PySem.F.type_list_append md_append tyLst_ok (ce_var 4) (ca_cons (ce_op od_mod (ce_var 2) (ce_int)) (ca_nil))))
  (css_one (cs_set 2 sc__law_numbers.nd (ce_op od_div (ce_var 2) (ce_int))))) (css_cons (cs_set 6 sc__law_numbers.nd (ce_int))
  (css_cons (cs_if (ct_cmp od_gt (ce_callB cal_len B.len (ca_cons (ce_var 0) (ca_nil))) (ce_int)) (css_one (cs_set 6 sc__law_numbers.nd (ce_op od_add (ce_ix (ce_var 0) (ce_op od_mod (ce_var 5) (ce_callB cal_len B.len (ca_cons (ce_var 0) (ca_nil))))) (ce_op od_mul (ce_int) (ce_var 5))))) (css_nil))
  (css_one (cs_expr (ce_bm PySem.F.plainAttrs_list PySem.F.slot_list_append PySem.F.type_list_append md_append tyLst_ok (ce_var 4) (ca_cons (ce_op od_mod (ce_op od_mod (ce_op od_mul (ce_op od_mod (ce_op od_mul (ce_var 6) (ce_int)) (ce_int)) (ce_int)) (ce_int)) (ce_int)) (ca_nil))))))))))
  (css_frz 4 (css_one (cs_ret (ce_var 4))))))))
theorem ok__law_set {f : Addr} {fd : FuncData} (F : Fun K "_law_set" "_law_set" s__law_set f fd) (B : Blt mg) (T : Txt K mg) (C : Cst mg) : FnOk P w K mg base CX0 1 f fd ["_law_number", "_law_count"] (spD ⟨K, mg⟩ 2 phi__law_set) :=
  fn_ok F sc__law_set fun cdv A outer s H E hr => css_one (cs_ret (ce_callT cal_tuple B.tuple_ (ca_cons (ce_comp sc__law_set.nd (own := [("_law_k", 2)]) (ci_rng1 B.range (ca_cons (ce_var 1) (ca_nil))) (blkOk_by (N := N__law_set) (sc := defScope s__law_set) (by decide +kernel)) (fun _ _ _ _ _ => cp_nm 2 sc__law_set.nd) (fun _ _ _ _ _ => cts_one (ct_cmp (od_eq hr.units) (ce_op od_mod (ce_op od_div (ce_var 0) (ce_ix (ce_lst (ca_cons (ce_int) (ca_cons (ce_int) (ca_cons (ce_int) (ca_cons (ce_int) (ca_cons (ce_int) (ca_cons (ce_int) (ca_cons (ce_int) (ca_cons (ce_int) (ca_cons (ce_int) (ca_cons (ce_int) (ca_nil)))))))))))) (ce_var 2))) (ce_int)) (ce_int))) (fun _ _ _ _ _ => ce_var 2)) (ca_nil))))
theorem ok__law_sparse {f : Addr} {fd : FuncData} (F : Fun K "_law_sparse" "_law_sparse" s__law_sparse f fd) (B : Blt mg) (T : Txt K mg) (C : Cst mg) : FnOk P w K mg base CX0 1 f fd ["_law_number", "_law_count"] (spD ⟨K, mg⟩ 2 phi__law_sparse) :=
  fn_ok F sc__law_sparse fun cdv A outer s H E hr => css_one (cs_ret (ce_callT cal_tuple B.tuple_ (ca_cons (ce_comp sc__law_sparse.nd (own := [("_law_k", 2)]) (ci_rng1 B.range (ca_cons (ce_var 1) (ca_nil))) (blkOk_by (N := N__law_sparse) (sc := defScope s__law_sparse) (by decide +kernel)) (fun _ _ _ _ _ => cp_nm 2 sc__law_sparse.nd) (fun _ _ _ _ _ => cts_one (ct_cmp (od_eq hr.units) (ce_op od_mod (ce_op od_div (ce_var 0) (ce_ix (ce_lst (ca_cons (ce_int) (ca_cons (ce_int) (ca_cons (ce_int) (ca_cons (ce_int) (ca_cons (ce_int) (ca_cons (ce_int) (ca_cons (ce_int) (ca_cons (ce_int) (ca_cons (ce_int) (ca_cons (ce_int) (ca_nil)))))))))))) (ce_var 2))) (ce_int)) (ce_int))) (fun _ _ _ _ _ => ce_var 2)) (ca_nil))))
theorem ok__law_united {f : Addr} {fd : FuncData} (F : Fun K "_law_united" "_law_united" s__law_united f fd) (B : Blt mg) (T : Txt K mg) (C : Cst mg) : FnOk P w K mg base CX0 1 f fd ["_law_a", "_law_b"] (spD ⟨K, mg⟩ 2 phi__law_united) :=
  fn_ok F sc__law_united fun cdv A outer s H E hr => css_one (cs_ret (ce_callT cal_tuple B.tuple_ (ca_cons (ce_sset B.sorted B.set (ce_op od_add (ce_var 0) (ce_var 1))) (ca_nil))))
theorem ok__law_met {f : Addr} {fd : FuncData} (F : Fun K "_law_met" "_law_met" s__law_met f fd) (B : Blt mg) (T : Txt K mg) (C : Cst mg) : FnOk P w K mg base CX0 1 f fd ["_law_a", "_law_b"] (spD ⟨K, mg⟩ 2 phi__law_met) :=
  fn_ok F sc__law_met fun cdv A outer s H E hr => css_one (cs_ret (ce_callT cal_tuple B.tuple_ (ca_cons (ce_comp sc__law_met.nd (own := [("_law_k", 2)]) (ci_seq (ce_var 0)) (blkOk_by (N := N__law_met) (sc := defScope s__law_met) (by decide +kernel)) (fun _ _ _ _ _ => cp_nm 2 sc__law_met.nd) (fun _ _ _ _ _ => cts_one (ct_cmp (od_in (u65 hr)) (ce_var 2) (ce_var 1))) (fun _ _ _ _ _ => ce_var 2)) (ca_nil))))
theorem ok__law_less {f : Addr} {fd : FuncData} (F : Fun K "_law_less" "_law_less" s__law_less f fd) (B : Blt mg) (T : Txt K mg) (C : Cst mg) : FnOk P w K mg base CX0 1 f fd ["_law_a", "_law_b"] (spD ⟨K, mg⟩ 2 phi__law_less) :=
  fn_ok F sc__law_less fun cdv A outer s H E hr => css_one (cs_ret (ce_callT cal_tuple B.tuple_ (ca_cons (ce_comp sc__law_less.nd (own := [("_law_k", 2)]) (ci_seq (ce_var 0)) (blkOk_by (N := N__law_less) (sc := defScope s__law_less) (by decide +kernel)) (fun _ _ _ _ _ => cp_nm 2 sc__law_less.nd) (fun _ _ _ _ _ => cts_one (ct_cmp (od_nin (u65 hr)) (ce_var 2) (ce_var 1))) (fun _ _ _ _ _ => ce_var 2)) (ca_nil))))
theorem ok__law_is_within {f : Addr} {fd : FuncData} (F : Fun K "_law_is_within" "_law_is_within" s__law_is_within f fd) (B : Blt mg) (T : Txt K mg) (C : Cst mg) (C__law_less : Cal P w K mg base 1 "_law_less" 2 phi__law_less) : FnOk P w K mg base CX0 2 f fd ["_law_a", "_law_b"] (spD ⟨K, mg⟩ 2 phi__law_is_within) :=
  fn_ok F sc__law_is_within fun cdv A outer s H E hr => css_one (cs_ret (ce_cmp (od_eq hr.units) (ce_callB cal_len B.len (ca_cons (ce_call C__law_less (hr.mono (by decide)) (ca_cons (ce_var 0) (ca_cons (ce_var 1) (ca_nil)))) (ca_nil))) (ce_int)))
theorem ok__law_dependency {f : Addr} {fd : FuncData} (F : Fun K "_law_dependency" "_law_dependency" s__law_dependency f fd) (B : Blt mg) (T : Txt K mg) (C : Cst mg) (C__law_sparse : Cal P w K mg base 1 "_law_sparse" 2 phi__law_sparse) (C__law_less : Cal P w K mg base 1 "_law_less" 2 phi__law_less) (C__law_united : Cal P w K mg base 1 "_law_united" 2 phi__law_united) : FnOk P w K mg base CX0 2 f fd ["_law_numbers_here", "_law_place", "_law_count"] (spD ⟨K, mg⟩ 3 phi__law_dependency) :=
  fn_ok F sc__law_dependency fun cdv A outer s H E hr => css_cons (cs_set 3 sc__law_dependency.nd (ce_op od_mod (ce_ix (ce_var 0) (ce_var 1)) (ce_int)))
  (css_cons (cs_set 4 sc__law_dependency.nd (ce_call C__law_sparse (hr.mono (by decide)) (ca_cons (ce_op od_div (ce_ix (ce_var 0) (ce_var 1)) (ce_int)) (ca_cons (ce_var 2) (ca_nil)))))
  (css_cons (cs_set 5 sc__law_dependency.nd (ce_call C__law_sparse (hr.mono (by decide)) (ca_cons (ce_ix (ce_var 0) (ce_op od_add (ce_var 1) (ce_int))) (ca_cons (ce_var 2) (ca_nil)))))
  (css_cons (cs_if (ct_cmp od_lt (ce_var 3) (ce_int)) (css_one (cs_ret (ce_tup (ca_cons (ce_str) (ca_cons (ce_var 4) (ca_cons (ce_var 5) (ca_nil))))))) (css_nil))
  (css_cons (cs_if (ct_cmp od_lt (ce_var 3) (ce_int)) (css_one (cs_ret (ce_tup (ca_cons (ce_str) (ca_cons (ce_var 4) (ca_cons (ce_var 5) (ca_nil))))))) (css_nil))
  (css_cons (cs_set 6 sc__law_dependency.nd (ce_call C__law_less (hr.mono (by decide)) (ca_cons (ce_tupR B.tuple_ B.range (ce_var 2)) (ca_cons (ce_var 5) (ca_nil)))))
  (css_cons (cs_set 7 sc__law_dependency.nd (ce_tup (ca_cons (ce_call C__law_united (hr.mono (by decide)) (ca_cons (ce_var 6) (ca_cons (ce_var 4) (ca_nil)))) (ca_cons (ce_var 5) (ca_nil)))))
  (css_cons (cs_if (ct_cmp (od_eq hr.units) (ce_op od_mod (ce_op od_div (ce_ix (ce_var 0) (ce_op od_add (ce_var 1) (ce_int))) (ce_int)) (ce_int)) (ce_int)) (css_one (cs_set 7 sc__law_dependency.nd (ce_tup (ca_cons (ce_var 5) (ca_cons (ce_var 4) (ca_cons (ce_var 6) (ca_nil))))))) (css_nil))
  (css_one (cs_ret (ce_tup (ca_cons (ce_str) (ca_cons (ce_var 7) (ca_nil)))))))))))))
theorem ok__law_told {f : Addr} {fd : FuncData} (F : Fun K "_law_told" "_law_told" s__law_told f fd) (B : Blt mg) (T : Txt K mg) (C : Cst mg) (C__law_dependency : Cal P w K mg base 2 "_law_dependency" 3 phi__law_dependency) (C__law_less : Cal P w K mg base 1 "_law_less" 2 phi__law_less) : FnOk P w K mg base CX0 3 f fd ["_law_numbers_here", "_law_place", "_law_count", "_law_many"] (spD ⟨K, mg⟩ 4 phi__law_told) :=
  fn_ok F sc__law_told fun cdv A outer s H E hr => css_cons (cs_set 4 sc__law_told.nd (ce_lstM (ca_nil)))
  (css_cons (cs_for PassesOwn.never (ci_rng1 B.range (ca_cons (ce_var 3) (ca_nil))) (cp_nm 5 sc__law_told.nd)
  (css_cons (cs_set 6 sc__law_told.nd (ce_call C__law_dependency (hr.mono (by decide)) (ca_cons (ce_var 0) (ca_cons (ce_op od_add (ce_var 1) (ce_op od_mul (ce_int) (ce_var 5))) (ca_cons (ce_var 2) (ca_nil))))))
  (css_cons (cs_set 7 sc__law_told.nd (ce_op od_mod (ce_op od_div (ce_ix (ce_var 0) (ce_op od_add (ce_op od_add (ce_var 1) (ce_op od_mul (ce_int) (ce_var 5))) (ce_int))) (ce_int)) (ce_int)))
  (css_cons (cs_if (ct_w (cw_and (ct_cmp od_gt (ce_var 5) (ce_int)) (cw_and (ct_cmp (od_ne hr.units) (ce_ix (ce_var 6) (ce_int)) (ce_str)) (cw_and (ct_cmp (od_ne hr.units) (ce_ix (ce_ix (ce_var 4) (ce_op od_sub (ce_var 5) (ce_int))) (ce_int)) (ce_str)) (cw_and1 (ct_cmp od_gt (ce_var 7) (ce_int))))))) (css_cons (cs_set 8 sc__law_told.nd (ce_ix (ce_var 4) (ce_op od_sub (ce_var 5) (ce_int))))
  (css_one (cs_if (ct_cmp (od_eq hr.units) (ce_var 7) (ce_int)) (css_one (cs_set 6 sc__law_told.nd (ce_tup (ca_cons (ce_str) (ca_cons (ce_call C__law_less (hr.mono (by decide)) (ca_cons (ce_ix (ce_var 6) (ce_int)) (ca_cons (ce_ix (ce_var 8) (ce_int)) (ca_nil)))) (ca_cons (ce_slice (ce_ix (ce_var 8) (ce_int)) (co_none) (co_some (ce_int))) (ca_nil))))))) (css_one (cs_set 6 sc__law_told.nd (ce_tup (ca_cons (ce_ix (ce_var 8) (ce_int)) (ca_cons (ce_ix (ce_var 8) (ce_int)) (ca_cons (ce_ix (ce_var 6) (ce_int)) (ca_nil)))))))))) (css_nil))
  (css_one (cs_expr (ce_bm PySem.F.plainAttrs_list PySem.F.slot_list_append PySem.F.type_list_append md_append tyLst_ok (ce_var 4) (ca_cons (ce_var 6) (ca_nil)))))))))
  (css_frz 4 (css_one (cs_ret (ce_var 4)))))
theorem ok__law_object {f : Addr} {fd : FuncData} (F : Fun K "_law_object" "_law_object" s__law_object f fd) (B : Blt mg) (T : Txt K mg) (C : Cst mg) (C_Fd : CalC P w K mg base 2 "Fd" 3 phi_Sides___init__) (C_Mvd : CalC P w K mg base 2 "Mvd" 3 phi_Sides___init__) (C_Jd : CalC P w K mg base 2 "Jd" 2 phi_Jd___init__) : FnOk P w K mg base CX0 4 f fd ["_law_dependency_here"] (spD ⟨K, mg⟩ 1 phi__law_object) :=
  fn_ok F sc__law_object fun cdv A outer s H E hr => css_cons (cs_if (ct_cmp (od_eq hr.units) (ce_ix (ce_var 0) (ce_int)) (ce_str)) (css_one (cs_ret (ce_make C_Fd (hr.mono (by decide)) (ca_cons (ce_callT cal_list B.list_ (ca_cons (ce_ix (ce_var 0) (ce_int)) (ca_nil))) (ca_cons (ce_callT cal_list B.list_ (ca_cons (ce_ix (ce_var 0) (ce_int)) (ca_nil))) (ca_nil)))))) (css_nil))
  (css_cons (cs_if (ct_cmp (od_eq hr.units) (ce_ix (ce_var 0) (ce_int)) (ce_str)) (css_one (cs_ret (ce_make C_Mvd (hr.mono (by decide)) (ca_cons (ce_callT cal_list B.list_ (ca_cons (ce_ix (ce_var 0) (ce_int)) (ca_nil))) (ca_cons (ce_callT cal_list B.list_ (ca_cons (ce_ix (ce_var 0) (ce_int)) (ca_nil))) (ca_nil)))))) (css_nil))
  (css_one (cs_ret (ce_make C_Jd (hr.mono (by decide)) (ca_cons (ce_comp sc__law_object.nd (own := [("_law_part", 1)]) (ci_seq (ce_ix (ce_var 0) (ce_int))) (blkOk_by (N := N__law_object) (sc := defScope s__law_object) (by decide +kernel)) (fun _ _ _ _ _ => cp_nm 1 sc__law_object.nd) (fun _ _ _ _ _ => cts_nil) (fun _ _ _ _ _ => ce_callT cal_list B.list_ (ca_cons (ce_var 1) (ca_nil)))) (ca_nil))))))
theorem ok__law_is_kept {f : Addr} {fd : FuncData} (F : Fun K "_law_is_kept" "_law_is_kept" s__law_is_kept f fd) (B : Blt mg) (T : Txt K mg) (C : Cst mg) : FnOk P w K mg base CX0 1 f fd ["_law_objects", "_law_told_here"] (spD ⟨K, mg⟩ 2 phi__law_is_kept) :=
  fn_ok F sc__law_is_kept fun cdv A outer s H E hr => css_cons (cs_for PassesOwn.never (ci_rng1 B.range (ca_cons (ce_callB cal_len B.len (ca_cons (ce_var 1) (ca_nil))) (ca_nil))) (cp_nm 2 sc__law_is_kept.nd)
  (css_one (cs_if (ct_cmp (od_eq hr.units) (ce_ix (ce_ix (ce_var 1) (ce_var 2)) (ce_int)) (ce_str)) (css_one (cs_if (ct_cmp (od_ne hr.units) (ce_fld (all1 T.f_Jd_parts) (ce_ix (ce_var 0) (ce_var 2))) (ce_ix (ce_ix (ce_var 1) (ce_var 2)) (ce_int))) (css_one (cs_ret (ce_bl))) (css_nil))) (css_one (cs_if (ct_cmp (od_ne hr.units) (ce_tup (ca_cons (ce_fld (all2 T.f_Fd_left T.f_Mvd_left) (ce_ix (ce_var 0) (ce_var 2))) (ca_cons (ce_fld (all2 T.f_Fd_right T.f_Mvd_right) (ce_ix (ce_var 0) (ce_var 2))) (ca_nil)))) (ce_tup (ca_cons (ce_ix (ce_ix (ce_var 1) (ce_var 2)) (ce_int)) (ca_cons (ce_ix (ce_ix (ce_var 1) (ce_var 2)) (ce_int)) (ca_nil))))) (css_one (cs_ret (ce_bl))) (css_nil))))))
  (css_one (cs_ret (ce_cmp (od_eq hr.units) (ce_callB cal_len B.len (ca_cons (ce_var 0) (ca_nil))) (ce_callB cal_len B.len (ca_cons (ce_var 1) (ca_nil))))))
theorem ok__law_is_set {f : Addr} {fd : FuncData} (F : Fun K "_law_is_set" "_law_is_set" s__law_is_set f fd) (B : Blt mg) (T : Txt K mg) (C : Cst mg) : FnOk P w K mg base CX0 1 f fd ["_law_columns", "_law_count"] (spD ⟨K, mg⟩ 2 phi__law_is_set) :=
  fn_ok F sc__law_is_set fun cdv A outer s H E hr => css_one (cs_ret (ce_cmp (od_eq hr.units) (ce_var 0) (ce_callT cal_tuple B.tuple_ (ca_cons (ce_comp sc__law_is_set.nd (own := [("_law_k", 2)]) (ci_rng1 B.range (ca_cons (ce_var 1) (ca_nil))) (blkOk_by (N := N__law_is_set) (sc := defScope s__law_is_set) (by decide +kernel)) (fun _ _ _ _ _ => cp_nm 2 sc__law_is_set.nd) (fun _ _ _ _ _ => cts_one (ct_cmp (od_in (u65 hr)) (ce_var 2) (ce_var 0))) (fun _ _ _ _ _ => ce_var 2)) (ca_nil)))))
theorem ok__law_of_one {f : Addr} {fd : FuncData} (F : Fun K "_law_of_one" "_law_of_one" s__law_of_one f fd) (B : Blt mg) (T : Txt K mg) (C : Cst mg) (C__law_united : Cal P w K mg base 1 "_law_united" 2 phi__law_united) (C__law_less : Cal P w K mg base 1 "_law_less" 2 phi__law_less) (C__law_is_set : Cal P w K mg base 1 "_law_is_set" 2 phi__law_is_set) (C__law_is_within : Cal P w K mg base 2 "_law_is_within" 2 phi__law_is_within) : FnOk P w K mg base CX0 3 f fd ["_law_count", "_law_one", "_law_row_here"] (spD ⟨K, mg⟩ 3 phi__law_of_one) :=
  fn_ok F sc__law_of_one fun cdv A outer s H E hr => css_cons (cs_if (ct_cmp (od_eq hr.units) (ce_ix (ce_var 2) (ce_int)) (ce_str)) (css_cons (cs_if (ct_cmp (od_eq hr.units) (ce_ix (ce_var 1) (ce_int)) (ce_str)) (css_one (cs_ret (ce_tup (ca_cons (ce_str) (ca_cons (ce_ix (ce_var 1) (ce_int)) (ca_cons (ce_ix (ce_var 1) (ce_int)) (ca_nil))))))) (css_nil))
  (css_one (cs_ret (ce_non)))) (css_nil))
  (css_cons (cs_if (ct_cmp (od_eq hr.units) (ce_ix (ce_var 2) (ce_int)) (ce_str)) (css_cons (cs_if (ct_cmp (od_eq hr.units) (ce_ix (ce_var 1) (ce_int)) (ce_str)) (css_one (cs_ret (ce_tup (ca_cons (ce_str) (ca_cons (ce_ix (ce_var 1) (ce_int)) (ca_cons (ce_call C__law_less (hr.mono (by decide)) (ca_cons (ce_tupR B.tuple_ B.range (ce_var 0)) (ca_cons (ce_call C__law_united (hr.mono (by decide)) (ca_cons (ce_ix (ce_var 1) (ce_int)) (ca_cons (ce_ix (ce_var 1) (ce_int)) (ca_nil)))) (ca_nil)))) (ca_nil))))))) (css_nil))
  (css_one (cs_ret (ce_non)))) (css_nil))
  (css_cons (cs_if (ct_not (ct_val (ce_call C__law_is_set (hr.mono (by decide)) (ca_cons (ce_ix (ce_var 2) (ce_int)) (ca_cons (ce_var 0) (ca_nil)))))) (css_one (cs_ret (ce_non))) (css_nil))
  (css_cons (cs_if (ct_cmp (od_eq hr.units) (ce_ix (ce_var 2) (ce_int)) (ce_str)) (css_cons (cs_if (ct_cmp (od_eq hr.units) (ce_ix (ce_var 1) (ce_int)) (ce_str)) (css_one (cs_ret (ce_tup (ca_cons (ce_str) (ca_cons (ce_call C__law_united (hr.mono (by decide)) (ca_cons (ce_ix (ce_var 1) (ce_int)) (ca_cons (ce_ix (ce_var 2) (ce_int)) (ca_nil)))) (ca_cons (ce_call C__law_united (hr.mono (by decide)) (ca_cons (ce_ix (ce_var 1) (ce_int)) (ca_cons (ce_ix (ce_var 2) (ce_int)) (ca_nil)))) (ca_nil))))))) (css_nil))
  (css_one (cs_ret (ce_non)))) (css_nil))
  (css_cons (cs_if (ct_w (cw_and (ct_cmp (od_eq hr.units) (ce_ix (ce_var 1) (ce_int)) (ce_str)) (cw_and (ct_val (ce_call C__law_is_set (hr.mono (by decide)) (ca_cons (ce_ix (ce_var 2) (ce_int)) (ca_cons (ce_var 0) (ca_nil))))) (cw_and1 (ct_val (ce_call C__law_is_within (hr.mono (by decide)) (ca_cons (ce_ix (ce_var 2) (ce_int)) (ca_cons (ce_ix (ce_var 2) (ce_int)) (ca_nil))))))))) (css_one (cs_ret (ce_tup (ca_cons (ce_str) (ca_cons (ce_call C__law_united (hr.mono (by decide)) (ca_cons (ce_ix (ce_var 1) (ce_int)) (ca_cons (ce_ix (ce_var 2) (ce_int)) (ca_nil)))) (ca_cons (ce_call C__law_united (hr.mono (by decide)) (ca_cons (ce_ix (ce_var 1) (ce_int)) (ca_cons (ce_ix (ce_var 2) (ce_int)) (ca_nil)))) (ca_nil))))))) (css_nil))
  (css_one (cs_ret (ce_non)))))))
theorem ok__law_of_two {f : Addr} {fd : FuncData} (F : Fun K "_law_of_two" "_law_of_two" s__law_of_two f fd) (B : Blt mg) (T : Txt K mg) (C : Cst mg) (C__law_less : Cal P w K mg base 1 "_law_less" 2 phi__law_less) (C__law_is_within : Cal P w K mg base 2 "_law_is_within" 2 phi__law_is_within) (C__law_met : Cal P w K mg base 1 "_law_met" 2 phi__law_met) : FnOk P w K mg base CX0 3 f fd ["_law_one", "_law_two", "_law_word"] (spD ⟨K, mg⟩ 3 phi__law_of_two) :=
  fn_ok F sc__law_of_two fun cdv A outer s H E hr => css_cons (cs_if (ct_cmp (od_eq hr.units) (ce_var 2) (ce_str)) (css_cons (cs_if (ct_w (cw_and (ct_cmp (od_eq hr.units) (ce_ix (ce_var 0) (ce_int)) (ce_str)) (cw_and (ct_cmp (od_eq hr.units) (ce_ix (ce_var 1) (ce_int)) (ce_str)) (cw_and1 (ct_cmp (od_eq hr.units) (ce_ix (ce_var 0) (ce_int)) (ce_ix (ce_var 1) (ce_int))))))) (css_one (cs_ret (ce_tup (ca_cons (ce_str) (ca_cons (ce_ix (ce_var 0) (ce_int)) (ca_cons (ce_ix (ce_var 1) (ce_int)) (ca_nil))))))) (css_nil))
  (css_one (cs_ret (ce_non)))) (css_nil))
  (css_cons (cs_if (ct_cmp (od_ne hr.units) (ce_ix (ce_var 0) (ce_int)) (ce_str)) (css_one (cs_ret (ce_non))) (css_nil))
  (css_cons (cs_if (ct_cmp (od_eq hr.units) (ce_var 2) (ce_str)) (css_cons (cs_if (ct_w (cw_and (ct_cmp (od_eq hr.units) (ce_ix (ce_var 1) (ce_int)) (ce_str)) (cw_and1 (ct_cmp (od_eq hr.units) (ce_ix (ce_var 0) (ce_int)) (ce_ix (ce_var 1) (ce_int)))))) (css_one (cs_ret (ce_tup (ca_cons (ce_str) (ca_cons (ce_ix (ce_var 0) (ce_int)) (ca_cons (ce_call C__law_less (hr.mono (by decide)) (ca_cons (ce_ix (ce_var 1) (ce_int)) (ca_cons (ce_ix (ce_var 0) (ce_int)) (ca_nil)))) (ca_nil))))))) (css_nil))
  (css_one (cs_ret (ce_non)))) (css_nil))
  (css_cons (cs_if (ct_w (cw_and (ct_cmp (od_eq hr.units) (ce_ix (ce_var 1) (ce_int)) (ce_str)) (cw_and (ct_val (ce_call C__law_is_within (hr.mono (by decide)) (ca_cons (ce_ix (ce_var 1) (ce_int)) (ca_cons (ce_ix (ce_var 0) (ce_int)) (ca_nil))))) (cw_and1 (ct_cmp (od_eq hr.units) (ce_callB cal_len B.len (ca_cons (ce_call C__law_met (hr.mono (by decide)) (ca_cons (ce_ix (ce_var 1) (ce_int)) (ca_cons (ce_ix (ce_var 0) (ce_int)) (ca_nil)))) (ca_nil))) (ce_int)))))) (css_one (cs_ret (ce_tup (ca_cons (ce_str) (ca_cons (ce_ix (ce_var 0) (ce_int)) (ca_cons (ce_ix (ce_var 1) (ce_int)) (ca_nil))))))) (css_nil))
  (css_one (cs_ret (ce_non))))))
theorem ok__law_row {f : Addr} {fd : FuncData} (F : Fun K "_law_row" "_law_row" s__law_row f fd) (B : Blt mg) (T : Txt K mg) (C : Cst mg) (C__law_is_set : Cal P w K mg base 1 "_law_is_set" 2 phi__law_is_set) (C__law_is_within : Cal P w K mg base 2 "_law_is_within" 2 phi__law_is_within) (C__law_of_two : Cal P w K mg base 3 "_law_of_two" 3 phi__law_of_two) (C__law_of_one : Cal P w K mg base 3 "_law_of_one" 3 phi__law_of_one) : FnOk P w K mg base CX0 4 f fd ["_law_count", "_law_told_here", "_law_made_here", "_law_row_here"] (spD ⟨K, mg⟩ 4 phi__law_row) :=
  fn_ok F sc__law_row fun cdv A outer s H E hr => css_cons (cs_if (ct_cmp (od_eq hr.units) (ce_ix (ce_var 3) (ce_int)) (ce_str)) (css_cons (cs_if (ct_w (cw_and (ct_chain od_le od_lt (ce_int) (ce_ix (ce_var 3) (ce_int)) (ce_callB cal_len B.len (ca_cons (ce_var 1) (ca_nil)))) (cw_and1 (ct_cmp (od_ne hr.units) (ce_ix (ce_ix (ce_var 1) (ce_ix (ce_var 3) (ce_int))) (ce_int)) (ce_str))))) (css_one (cs_ret (ce_ix (ce_var 1) (ce_ix (ce_var 3) (ce_int))))) (css_nil))
  (css_one (cs_ret (ce_non)))) (css_nil))
  (css_cons (cs_if (ct_cmp (od_eq hr.units) (ce_ix (ce_var 3) (ce_int)) (ce_str)) (css_cons (cs_if (ct_w (cw_and (ct_val (ce_call C__law_is_set (hr.mono (by decide)) (ca_cons (ce_ix (ce_var 3) (ce_int)) (ca_cons (ce_var 0) (ca_nil))))) (cw_and (ct_val (ce_call C__law_is_set (hr.mono (by decide)) (ca_cons (ce_ix (ce_var 3) (ce_int)) (ca_cons (ce_var 0) (ca_nil))))) (cw_and1 (ct_val (ce_call C__law_is_within (hr.mono (by decide)) (ca_cons (ce_ix (ce_var 3) (ce_int)) (ca_cons (ce_ix (ce_var 3) (ce_int)) (ca_nil))))))))) (css_one (cs_ret (ce_tup (ca_cons (ce_str) (ca_cons (ce_ix (ce_var 3) (ce_int)) (ca_cons (ce_ix (ce_var 3) (ce_int)) (ca_nil))))))) (css_nil))
  (css_one (cs_ret (ce_non)))) (css_nil))
  (css_cons (cs_if (ct_not (ct_chain od_le od_lt (ce_int) (ce_ix (ce_var 3) (ce_int)) (ce_callB cal_len B.len (ca_cons (ce_var 2) (ca_nil))))) (css_one (cs_ret (ce_non))) (css_nil))
  (css_cons (cs_if (ct_w (cw_or (ct_cmp (od_eq hr.units) (ce_ix (ce_var 3) (ce_int)) (ce_str)) (cw_or (ct_cmp (od_eq hr.units) (ce_ix (ce_var 3) (ce_int)) (ce_str)) (cw_or1 (ct_cmp (od_eq hr.units) (ce_ix (ce_var 3) (ce_int)) (ce_str)))))) (css_cons (cs_if (ct_not (ct_chain od_le od_lt (ce_int) (ce_ix (ce_var 3) (ce_int)) (ce_callB cal_len B.len (ca_cons (ce_var 2) (ca_nil))))) (css_one (cs_ret (ce_non))) (css_nil))
  (css_one (cs_ret (ce_call C__law_of_two (hr.mono (by decide)) (ca_cons (ce_ix (ce_var 2) (ce_ix (ce_var 3) (ce_int))) (ca_cons (ce_ix (ce_var 2) (ce_ix (ce_var 3) (ce_int))) (ca_cons (ce_ix (ce_var 3) (ce_int)) (ca_nil)))))))) (css_nil))
  (css_one (cs_ret (ce_call C__law_of_one (hr.mono (by decide)) (ca_cons (ce_var 0) (ca_cons (ce_ix (ce_var 2) (ce_ix (ce_var 3) (ce_int))) (ca_cons (ce_var 3) (ca_nil))))))))))
theorem ok__law_made {f : Addr} {fd : FuncData} (F : Fun K "_law_made" "_law_made" s__law_made f fd) (B : Blt mg) (T : Txt K mg) (C : Cst mg) (C__law_row : Cal P w K mg base 4 "_law_row" 4 phi__law_row) : FnOk P w K mg base CX0 5 f fd ["_law_count", "_law_told_here", "_law_rows"] (spD ⟨K, mg⟩ 3 phi__law_made) :=
  fn_ok F sc__law_made fun cdv A outer s H E hr => css_cons (cs_set 3 sc__law_made.nd (ce_lstM (ca_nil)))
  (css_cons (cs_for PassesOwn.never (ci_seq (ce_var 2)) (cp_nm 4 sc__law_made.nd)
  (css_cons (cs_set 5 sc__law_made.nd (ce_call C__law_row (hr.mono (by decide)) (ca_cons (ce_var 0) (ca_cons (ce_var 1) (ca_cons (ce_var 3) (ca_cons (ce_var 4) (ca_nil)))))))
  (css_cons (cs_if (ct_cmp od_isN (ce_var 5) (ce_non)) (css_one (cs_ret (ce_non))) (css_nil))
  (css_one (cs_expr (ce_bm PySem.F.plainAttrs_list PySem.F.slot_list_append PySem.F.type_list_append md_append tyLst_ok (ce_var 3) (ca_cons (ce_var 5) (ca_nil))))))))
  (css_frz 3 (css_one (cs_ret (ce_var 3)))))
theorem ok__law_tried {f : Addr} {fd : FuncData} (F : Fun K "_law_tried" "_law_tried" s__law_tried f fd) (B : Blt mg) (T : Txt K mg) (C : Cst mg) (C__law_sparse : Cal P w K mg base 1 "_law_sparse" 2 phi__law_sparse) (C__law_set : Cal P w K mg base 1 "_law_set" 2 phi__law_set) (C__law_met : Cal P w K mg base 1 "_law_met" 2 phi__law_met) : FnOk P w K mg base CX0 2 f fd ["_law_numbers_here", "_law_place", "_law_count", "_law_made_here", "_law_told_here", "_law_word"] (spD ⟨K, mg⟩ 6 phi__law_tried) :=
  fn_ok F sc__law_tried fun cdv A outer s H E hr => css_cons (cs_set 6 sc__law_tried.nd (ce_call C__law_sparse (hr.mono (by decide)) (ca_cons (ce_ix (ce_var 0) (ce_op od_add (ce_var 1) (ce_int))) (ca_cons (ce_var 2) (ca_nil)))))
  (css_cons (cs_set 7 sc__law_tried.nd (ce_call C__law_met (hr.mono (by decide)) (ca_cons (ce_var 6) (ca_cons (ce_call C__law_set (hr.mono (by decide)) (ca_cons (ce_op od_div (ce_ix (ce_var 0) (ce_op od_add (ce_var 1) (ce_int))) (ce_int)) (ca_cons (ce_var 2) (ca_nil)))) (ca_nil)))))
  (css_cons (cs_if (ct_cmp (od_eq hr.units) (ce_var 5) (ce_str)) (css_one (cs_ret (ce_comp sc__law_tried.nd (own := [("_law_k", 11)]) (ci_rng1 B.range (ca_cons (ce_callB cal_len B.len (ca_cons (ce_var 4) (ca_nil))) (ca_nil))) (blkOk_by (N := N__law_tried) (sc := defScope s__law_tried) (by decide +kernel)) (fun _ _ _ _ _ => cp_nm 11 sc__law_tried.nd) (fun _ _ _ _ _ => cts_nil) (fun _ _ _ _ _ => ce_tup (ca_cons (ce_var 5) (ca_cons (ce_var 11) (ca_nil))))))) (css_nil))
  (css_cons (cs_if (ct_cmp (od_eq hr.units) (ce_var 5) (ce_str)) (css_one (cs_ret (ce_lst (ca_cons (ce_tup (ca_cons (ce_var 5) (ca_cons (ce_var 6) (ca_cons (ce_var 7) (ca_nil))))) (ca_nil))))) (css_nil))
  (css_cons (cs_if (ct_cmp (od_eq hr.units) (ce_var 5) (ce_str)) (css_one (cs_ret (ce_comp sc__law_tried.nd (own := [("_law_k", 11)]) (ci_rng1 B.range (ca_cons (ce_callB cal_len B.len (ca_cons (ce_var 3) (ca_nil))) (ca_nil))) (blkOk_by (N := N__law_tried) (sc := defScope s__law_tried) (by decide +kernel)) (fun _ _ _ _ _ => cp_nm 11 sc__law_tried.nd) (fun _ _ _ _ _ => cts_nil) (fun _ _ _ _ _ => ce_tup (ca_cons (ce_var 5) (ca_cons (ce_var 11) (ca_cons (ce_var 6) (ca_nil)))))))) (css_nil))
  (css_cons (cs_if (ct_cmp (od_eq hr.units) (ce_var 5) (ce_str)) (css_one (cs_ret (ce_comp sc__law_tried.nd (own := [("_law_k", 11)]) (ci_rng1 B.range (ca_cons (ce_callB cal_len B.len (ca_cons (ce_var 3) (ca_nil))) (ca_nil))) (blkOk_by (N := N__law_tried) (sc := defScope s__law_tried) (by decide +kernel)) (fun _ _ _ _ _ => cp_nm 11 sc__law_tried.nd) (fun _ _ _ _ _ => cts_nil) (fun _ _ _ _ _ => ce_tup (ca_cons (ce_var 5) (ca_cons (ce_var 11) (ca_cons (ce_var 6) (ca_cons (ce_var 7) (ca_nil))))))))) (css_nil))
  (css_cons (cs_if (ct_w (cw_or (ct_cmp (od_eq hr.units) (ce_var 5) (ce_str)) (cw_or1 (ct_cmp (od_eq hr.units) (ce_var 5) (ce_str))))) (css_one (cs_ret (ce_comp sc__law_tried.nd (own := [("_law_k", 11)]) (ci_rng1 B.range (ca_cons (ce_callB cal_len B.len (ca_cons (ce_var 3) (ca_nil))) (ca_nil))) (blkOk_by (N := N__law_tried) (sc := defScope s__law_tried) (by decide +kernel)) (fun _ _ _ _ _ => cp_nm 11 sc__law_tried.nd) (fun _ _ _ _ _ => cts_nil) (fun _ _ _ _ _ => ce_tup (ca_cons (ce_var 5) (ca_cons (ce_var 11) (ca_nil))))))) (css_nil))
  (css_cons (cs_set 8 sc__law_tried.nd (ce_lstM (ca_nil)))
  (css_cons (cs_for PassesOwn.never (ci_rng1 B.range (ca_cons (ce_callB cal_len B.len (ca_cons (ce_var 3) (ca_nil))) (ca_nil))) (cp_nm 9 sc__law_tried.nd)
  (css_one (cs_for PassesOwn.never (ci_rng1 B.range (ca_cons (ce_callB cal_len B.len (ca_cons (ce_var 3) (ca_nil))) (ca_nil))) (cp_nm 10 sc__law_tried.nd)
  (css_one (cs_expr (ce_bm PySem.F.plainAttrs_list PySem.F.slot_list_append PySem.F.type_list_append md_append tyLst_ok (ce_var 8) (ca_cons (ce_tup (ca_cons (ce_var 5) (ca_cons (ce_var 9) (ca_cons (ce_var 10) (ca_nil))))) (ca_nil))))))))
  (css_frz 8 (css_one (cs_ret (ce_var 8))))))))))))
theorem ok__law_next {f : Addr} {fd : FuncData} (F : Fun K "_law_next" "_law_next" s__law_next f fd) (B : Blt mg) (T : Txt K mg) (C : Cst mg) (C__law_tried : Cal P w K mg base 2 "_law_tried" 6 phi__law_tried) (C__law_row : Cal P w K mg base 4 "_law_row" 4 phi__law_row) : FnOk P w K mg base CX0 5 f fd ["_law_numbers_here", "_law_place", "_law_count", "_law_told_here", "_law_made_here"] (spD ⟨K, mg⟩ 5 phi__law_next) :=
  fn_ok F sc__law_next fun cdv A outer s H E hr => css_cons (cs_set 5 sc__law_next.nd (ce_lst (ca_cons (ce_str) (ca_cons (ce_str) (ca_cons (ce_str) (ca_cons (ce_str) (ca_cons (ce_str) (ca_cons (ce_str) (ca_cons (ce_str) (ca_cons (ce_str) (ca_cons (ce_str) (ca_nil))))))))))))
  (css_cons (cs_set 6 sc__law_next.nd (ce_call C__law_tried (hr.mono (by decide)) (ca_cons (ce_var 0) (ca_cons (ce_var 1) (ca_cons (ce_var 2) (ca_cons (ce_var 4) (ca_cons (ce_var 3) (ca_cons (ce_ix (ce_var 5) (ce_op od_mod (ce_ix (ce_var 0) (ce_var 1)) (ce_int))) (ca_nil)))))))))
  (css_cons (cs_setC 7 sc__law_next.nd (own := [("_law_row_here", 8)]) (ci_seq (ce_var 6)) (blkOk_by (N := N__law_next) (sc := defScope s__law_next) (by decide +kernel)) (fun _ _ _ _ _ => cp_nm 8 sc__law_next.nd) (fun _ _ _ _ _ => cts_one (ct_cmp od_notN (ce_call C__law_row (hr.mono (by decide)) (ca_cons (ce_var 2) (ca_cons (ce_var 3) (ca_cons (ce_var 4) (ca_cons (ce_var 8) (ca_nil)))))) (ce_non))) (fun _ _ _ _ _ => ce_var 8) (sw_true rfl rfl rfl (by decide +kernel)))
  (css_cons (cs_if (ct_cmp (od_eq hr.units) (ce_callB cal_len B.len (ca_cons (ce_var 7) (ca_nil))) (ce_int)) (css_one (cs_set 7 sc__law_next.nd (ce_call C__law_tried (hr.mono (by decide)) (ca_cons (ce_var 0) (ca_cons (ce_var 1) (ca_cons (ce_var 2) (ca_cons (ce_var 4) (ca_cons (ce_var 3) (ca_cons (ce_str) (ca_nil)))))))))) (css_nil))
  (css_one (cs_ret (ce_ix (ce_var 7) (ce_op od_mod (ce_op od_div (ce_ix (ce_var 0) (ce_var 1)) (ce_int)) (ce_callB cal_len B.len (ca_cons (ce_var 7) (ca_nil))))))))))
theorem ok__law_derivation {f : Addr} {fd : FuncData} (F : Fun K "_law_derivation" "_law_derivation" s__law_derivation f fd) (B : Blt mg) (T : Txt K mg) (C : Cst mg) (C__law_next : Cal P w K mg base 5 "_law_next" 5 phi__law_next) (C__law_row : Cal P w K mg base 4 "_law_row" 4 phi__law_row) : FnOk P w K mg base CX0 6 f fd ["_law_numbers_here", "_law_place", "_law_count", "_law_told_here", "_law_size"] (spD ⟨K, mg⟩ 5 phi__law_derivation) :=
  fn_ok F sc__law_derivation fun cdv A outer s H E hr => css_cons (cs_setCM 5 sc__law_derivation.nd (own := [("_law_k", 7)]) (ci_rng1 B.range (ca_cons (ce_callB cal_len B.len (ca_cons (ce_var 3) (ca_nil))) (ca_nil))) (blkOk_by (N := N__law_derivation) (sc := defScope s__law_derivation) (by decide +kernel)) (fun _ _ _ _ _ => cp_nm 7 sc__law_derivation.nd) (fun _ _ _ _ _ => cts_one (ct_cmp (od_ne hr.units) (ce_ix (ce_ix (ce_var 3) (ce_var 7)) (ce_int)) (ce_str))) (fun _ _ _ _ _ => ce_tup (ca_cons (ce_str) (ca_cons (ce_var 7) (ca_nil)))) (sw_true rfl rfl rfl (by decide +kernel)))
  (css_cons (cs_setCM 6 sc__law_derivation.nd (own := [("_law_row_here", 8)]) (ci_seq (ce_var 5)) (blkOk_by (N := N__law_derivation) (sc := defScope s__law_derivation) (by decide +kernel)) (fun _ _ _ _ _ => cp_nm 8 sc__law_derivation.nd) (fun _ _ _ _ _ => cts_nil) (fun _ _ _ _ _ => ce_ix (ce_var 3) (ce_ix (ce_var 8) (ce_int))) (sw_true rfl rfl rfl (by decide +kernel)))
  (css_cons (cs_for PassesOwn.never (ci_rng1 B.range (ca_cons (ce_var 4) (ca_nil))) (cp_nm 7 sc__law_derivation.nd)
  (css_cons (cs_set 8 sc__law_derivation.nd (ce_call C__law_next (hr.mono (by decide)) (ca_cons (ce_var 0) (ca_cons (ce_op od_add (ce_var 1) (ce_op od_mul (ce_int) (ce_var 7))) (ca_cons (ce_var 2) (ca_cons (ce_var 3) (ca_cons (ce_var 6) (ca_nil))))))))
  (css_cons (cs_expr (ce_bm PySem.F.plainAttrs_list PySem.F.slot_list_append PySem.F.type_list_append md_append tyLst_ok (ce_var 6) (ca_cons (ce_call C__law_row (hr.mono (by decide)) (ca_cons (ce_var 2) (ca_cons (ce_var 3) (ca_cons (ce_var 6) (ca_cons (ce_var 8) (ca_nil)))))) (ca_nil))))
  (css_one (cs_expr (ce_bm PySem.F.plainAttrs_list PySem.F.slot_list_append PySem.F.type_list_append md_append tyLst_ok (ce_var 5) (ca_cons (ce_var 8) (ca_nil))))))))
  (css_frz 5 (css_frz 6 (css_one (cs_ret (ce_var 5)))))))
theorem ok_law {f : Addr} {fd : FuncData} (F : Fun K "law" "law" s_law f fd) (B : Blt mg) (T : Txt K mg) (C : Cst mg) (C__law_numbers : Cal P w K mg base 1 "_law_numbers" 2 phi__law_numbers) (C__law_told : Cal P w K mg base 3 "_law_told" 4 phi__law_told) (C__law_derivation : Cal P w K mg base 6 "_law_derivation" 5 phi__law_derivation) (C__law_made : Cal P w K mg base 5 "_law_made" 3 phi__law_made) (C__law_object : Cal P w K mg base 4 "_law_object" 1 phi__law_object) (C_takes : Cal P w K mg base 8 "takes" 5 phi_takes) (C__law_is_kept : Cal P w K mg base 1 "_law_is_kept" 2 phi__law_is_kept) : FnOk P w K mg base CX0 9 f fd ["_law_script"] (spD ⟨K, mg⟩ 1 phi_law) :=
  fn_ok F sc_law fun cdv A outer s H E hr => css_cons (cs_set 1 sc_law.nd (ce_call C__law_numbers (hr.mono (by decide)) (ca_cons (ce_var 0) (ca_cons (ce_int) (ca_nil)))))
  (css_cons (cs_set 2 sc_law.nd (ce_ix (ce_lst (ca_cons (ce_int) (ca_cons (ce_int) (ca_cons (ce_int) (ca_cons (ce_int) (ca_cons (ce_int) (ca_cons (ce_int) (ca_cons (ce_int) (ca_cons (ce_int) (ca_cons (ce_int) (ca_cons (ce_int) (ca_nil)))))))))))) (ce_op od_mod (ce_ix (ce_var 1) (ce_int)) (ce_int))))
  (css_cons (cs_set 3 sc_law.nd (ce_call C__law_told (hr.mono (by decide)) (ca_cons (ce_var 1) (ca_cons (ce_int) (ca_cons (ce_var 2) (ca_cons (ce_op od_mod (ce_op od_div (ce_ix (ce_var 1) (ce_int)) (ce_int)) (ce_int)) (ca_nil)))))))
  (css_cons (cs_set 4 sc_law.nd (ce_call C__law_derivation (hr.mono (by decide)) (ca_cons (ce_var 1) (ca_cons (ce_int) (ca_cons (ce_var 2) (ca_cons (ce_var 3) (ca_cons (ce_op od_add (ce_op od_mod (ce_ix (ce_var 1) (ce_int)) (ce_int)) (ce_int)) (ca_nil))))))))
  (css_cons (cs_set 5 sc_law.nd (ce_call C__law_made (hr.mono (by decide)) (ca_cons (ce_var 2) (ca_cons (ce_var 3) (ca_cons (ce_var 4) (ca_nil))))))
  (css_cons (cs_setC 6 sc_law.nd (own := [("_law_one", 12)]) (ci_seq (ce_var 3)) (blkOk_by (N := N_law) (sc := defScope s_law) (by decide +kernel)) (fun _ _ _ _ _ => cp_nm 12 sc_law.nd) (fun _ _ _ _ _ => cts_nil) (fun _ _ _ _ _ => ce_call C__law_object (hr.mono (by decide)) (ca_cons (ce_var 12) (ca_nil))) (sw_true rfl rfl rfl (by decide +kernel)))
  (css_cons (cs_for PassesOwn.never (ci_rng1 B.range (ca_cons (ce_callB cal_len B.len (ca_cons (ce_var 4) (ca_nil))) (ca_nil))) (cp_nm 7 sc_law.nd)
  (css_cons (cs_set 8 sc_law.nd (ce_call C__law_object (hr.mono (by decide)) (ca_cons (ce_ix (ce_var 5) (ce_var 7)) (ca_nil))))
  (css_cons (cs_set 9 sc_law.nd (ce_tup (ca_cons (ce_str) (ca_cons (ce_callT cal_tuple B.tuple_ (ca_cons (ce_slice (ce_var 4) (co_none) (co_some (ce_op od_add (ce_var 7) (ce_int)))) (ca_nil))) (ca_nil)))))
  (css_cons (cs_if (ct_cmp od_notB (ce_call C_takes (hr.mono (by decide)) (ca_cons (ce_var 2) (ca_cons (ce_var 6) (ca_cons (ce_var 8) (ca_cons (ce_bl) (ca_cons (ce_var 9) (ca_nil))))))) (ce_bl)) (css_one (cs_ret (ce_bl))) (css_nil))
  (css_cons (cs_if (ct_cmp od_notB (ce_call C_takes (hr.mono (by decide)) (ca_cons (ce_var 2) (ca_cons (ce_var 6) (ca_cons (ce_var 8) (ca_cons (ce_bl) (ca_cons (ce_var 9) (ca_nil))))))) (ce_bl)) (css_one (cs_ret (ce_bl))) (css_nil))
  (css_cons (cs_set 10 sc_law.nd (ce_tup (ca_cons (ce_ix (ce_lst (ca_cons (ce_str) (ca_cons (ce_str) (ca_nil)))) (ce_callT cal_int B.int_ (ca_cons (ce_cmp (od_eq hr.units) (ce_ix (ce_ix (ce_var 5) (ce_var 7)) (ce_int)) (ce_str)) (ca_nil)))) (ca_cons (ce_ix (ce_ix (ce_var 5) (ce_var 7)) (ce_int)) (ca_cons (ce_ix (ce_ix (ce_var 5) (ce_var 7)) (ce_int)) (ca_nil))))))
  (css_cons (cs_if (ct_cmp od_notB (ce_call C_takes (hr.mono (by decide)) (ca_cons (ce_var 2) (ca_cons (ce_var 6) (ca_cons (ce_call C__law_object (hr.mono (by decide)) (ca_cons (ce_var 10) (ca_nil))) (ca_cons (ce_bl) (ca_cons (ce_var 9) (ca_nil))))))) (ce_bl)) (css_one (cs_ret (ce_bl))) (css_nil))
  (css_cons (cs_if (ct_cmp od_notB (ce_call C_takes (hr.mono (by decide)) (ca_cons (ce_var 2) (ca_cons (ce_var 6) (ca_cons (ce_var 8) (ca_cons (ce_bl) (ca_cons (ce_tup (ca_cons (ce_str) (ca_cons (ce_tup (ca_nil)) (ca_nil)))) (ca_nil))))))) (ce_bl)) (css_one (cs_ret (ce_bl))) (css_nil))
  (css_cons (cs_set 11 sc_law.nd (ce_call C_takes (hr.mono (by decide)) (ca_cons (ce_var 2) (ca_cons (ce_var 6) (ca_cons (ce_var 8) (ca_cons (ce_bl) (ca_cons (ce_tup (ca_cons (ce_str) (ca_cons (ce_callT cal_tuple B.tuple_ (ca_cons (ce_var 4) (ca_nil))) (ca_nil)))) (ca_nil))))))))
  (css_one (cs_if (ct_w (cw_or (ct_not (ct_val (ce_callB (cal_isi T.isi) B.isinstance (ca_cons (ce_var 11) (ca_cons (ce_ty B.bool_) (ca_nil)))))) (cw_or1 (ct_cmp (od_ne hr.units) (ce_var 11) (ce_cmp (od_eq hr.units) (ce_ix (ce_var 5) (ce_var 7)) (ce_ix (ce_var 5) (ce_op od_sub (ce_callB cal_len B.len (ca_cons (ce_var 5) (ca_nil))) (ce_int)))))))) (css_one (cs_ret (ce_bl))) (css_nil))))))))))))
  (css_one (cs_ret (ce_call C__law_is_kept (hr.mono (by decide)) (ca_cons (ce_var 6) (ca_cons (ce_var 3) (ca_nil))))))))))))
end
end Law


set_option linter.all false
set_option autoImplicit false
set_option maxRecDepth 100000
set_option maxHeartbeats 400000
namespace Law
open PySem PySem.Spec PyProof.Rows L2 DL
/-! ### sets -/
theorem q_as_set (a : List Int) (d : D) (M : Sto) (Q : D → Sto → Prop) (hd : seqOf M d = some (a.map D.int)) (h : a.length < 64) : phi_as_set [d] M Q = Q (tupI (sset a)) M := by
  simp [phi_as_set, sset1_of hd, h, retD_same2]
theorem q_as_set_t (a : List Int) (M : Sto) (Q : D → Sto → Prop) (h : a.length < 64) : phi_as_set [.tup (a.map D.int)] M Q = Q (tupI (sset a)) M := q_as_set a _ M Q rfl h
theorem q_as_set_l (a : List Int) (M : Sto) (Q : D → Sto → Prop) (h : a.length < 64) : phi_as_set [.lst (a.map D.int)] M Q = Q (tupI (sset a)) M := q_as_set a _ M Q rfl h
theorem q_united (a b : List Int) (M : Sto) (Q : D → Sto → Prop) (h : a.length + b.length < 64) : phi_united [.tup (a.map D.int), .tup (b.map D.int)] M Q = Q (tupI (sset (a ++ b))) M := by
  have h2 : a.length + b.length ≤ 16777216 := by omega
  simp [phi_united, h2]
  rw [← List.map_append, q_as_set_l _ _ _ (by simpa using h)]
  simp
theorem q_met (a b : List Int) (M : Sto) (Q : D → Sto → Prop) (h : a.length < 64) : phi_met [.tup (a.map D.int), .tup (b.map D.int)] M Q = Q (tupI (a.filter fun k => decide (k ∈ b))) M := by
  simp [phi_met]
  rw [compD_eq D.int D.int (fun k => decide (k ∈ b)) trivial a [] (fun x hx k1 k0 => by simp) (by simp; omega)]
  simp
theorem q_less (a b : List Int) (M : Sto) (Q : D → Sto → Prop) (h : a.length < 64) : phi_less [.tup (a.map D.int), .tup (b.map D.int)] M Q = Q (tupI (a.filter fun k => !decide (k ∈ b))) M := by
  simp [phi_less]
  rw [compD_eq D.int D.int (fun k => !decide (k ∈ b)) trivial a [] (fun x hx k1 k0 => by simp) (by simp; omega)]
  simp
def within (a b : List Int) : Bool := a.all fun k => decide (k ∈ b)
def isSt (n : Int) (a : List Int) : Bool := decide (DL.St n a)
theorem isSt_iff {n : Int} {a : List Int} : isSt n a = true ↔ DL.St n a := by simp [isSt]
theorem within_iff {a b : List Int} : within a b = true ↔ ∀ k ∈ a, k ∈ b := by simp [within]
theorem q_is_within (a b : List Int) (M : Sto) (Q : D → Sto → Prop) (h : a.length < 64) : phi_is_within [.tup (a.map D.int), .tup (b.map D.int)] M Q = Q (.bl (within a b)) M := by
  simp [phi_is_within]
  rw [compD_map D.int (fun k => D.bl (decide (k ∈ b))) a trivial (fun x hx k1 => by simp) (by simp; omega)]
  rw [fAll_ev]
  simp [within]
theorem q_whole (n : Int) (M : Sto) (Q : D → Sto → Prop) (h0 : 0 ≤ n) (h : n ≤ 10) : phi_whole [.int n] M Q = Q (tupI (rangeI n)) M := by
  have h2 : n ≤ 16777216 := by omega
  simp [phi_whole, h0, h2, dRng_int]
theorem q_is_set (n : Int) (a : List Int) (M : Sto) (Q : D → Sto → Prop) (h0 : 0 ≤ n) (h : n ≤ 10) (ha : a.length < 64) : phi_is_set [.tup (a.map D.int), .int n] M Q = Q (.bl (isSt n a)) M := by
  have e : isSt n a = (decide (a = sset a) && within a (rangeI n)) := by
    rw [Bool.eq_iff_iff, isSt_iff, Bool.and_eq_true, decide_eq_true_iff, within_iff, ← st_sset_range]
  simp [phi_is_set, q_as_set_t _ _ _ ha, q_whole n _ _ h0 h, q_is_within _ _ _ _ ha]
  rw [e]
  by_cases hh : a = sset a
  · have e2 : decide (a = sset a) = true := decide_eq_true hh
    rw [e2]
    simp [eq_true hh]
  · have e2 : decide (a = sset a) = false := decide_eq_false hh
    rw [e2]
    simp [eq_false hh]
/-! ### dependencies -/
inductive Dep where
  | fd (a b : List Int) | mvd (a b : List Int) | jd (ps : List (List Int))
/-- the object -/
def dOf : Dep → D
  | .fd a b => .ob (Str.ofString "Fd") [(Str.ofString "left", tupI a), (Str.ofString "right", tupI b)]
  | .mvd a b => .ob (Str.ofString "Mvd") [(Str.ofString "left", tupI a), (Str.ofString "right", tupI b)]
  | .jd ps => .ob (Str.ofString "Jd") [(Str.ofString "parts", .tup (ps.map tupI))]
/-- the law's tuple -/
def lOf : Dep → D
  | .fd a b => .tup [.str (Str.ofString "fd"), tupI a, tupI b]
  | .mvd a b => .tup [.str (Str.ofString "mvd"), tupI a, tupI b]
  | .jd ps => .tup [.str (Str.ofString "jd"), .tup (ps.map tupI)]
@[simp] theorem dOf_fd (a b : List Int) : dOf (.fd a b) = .ob (Str.ofString "Fd") [(Str.ofString "left", tupI a), (Str.ofString "right", tupI b)] := rfl
@[simp] theorem dOf_mvd (a b : List Int) : dOf (.mvd a b) = .ob (Str.ofString "Mvd") [(Str.ofString "left", tupI a), (Str.ofString "right", tupI b)] := rfl
@[simp] theorem dOf_jd (ps : List (List Int)) : dOf (.jd ps) = .ob (Str.ofString "Jd") [(Str.ofString "parts", .tup (ps.map tupI))] := rfl
@[simp] theorem lOf_fd (a b : List Int) : lOf (.fd a b) = .tup [.str (Str.ofString "fd"), tupI a, tupI b] := rfl
@[simp] theorem lOf_mvd (a b : List Int) : lOf (.mvd a b) = .tup [.str (Str.ofString "mvd"), tupI a, tupI b] := rfl
@[simp] theorem lOf_jd (ps : List (List Int)) : lOf (.jd ps) = .tup [.str (Str.ofString "jd"), .tup (ps.map tupI)] := rfl
def oOf : Option Dep → D
  | none => .non
  | some d => dOf d
def lopt : Option Dep → D
  | none => .non
  | some d => lOf d
/-- its sides are sets within the columns -/
def Ok (n : Int) : Dep → Prop
  | .fd a b => St n a ∧ St n b
  | .mvd a b => St n a ∧ St n b
  | .jd ps => ps ≠ [] ∧ ∀ p ∈ ps, St n p
theorem q_sides (c : Str) (a b : List Int) (M : Sto) (K : List (Str × D) → Prop) (hc : c = Str.ofString "Fd" ∨ c = Str.ofString "Mvd") (ha : a.length < 64) (hb : b.length < 64) :
    (phi_Sides___init__ [.cell M.length, .tup (a.map D.int), .tup (b.map D.int)] (M ++ [.ob c []]) fun r M2 => r = .non ∧ ∃ fs, M2 = M ++ [.ob c fs] ∧ clF M.length fs = true ∧ K fs) =
      K [(Str.ofString "left", tupI (sset a)), (Str.ofString "right", tupI (sset b))] := by
  have hc2 : c ∈ [Str.ofString "Fd", Str.ofString "Mvd"] := by rcases hc with rfl | rfl <;> simp
  simp [phi_Sides___init__, q_as_set_t _ _ _ ha, q_as_set_t _ _ _ hb]
  rcases hc with rfl | rfl
  · simp
  · simp
theorem sset_idem (a : List Int) : sset (sset a) = sset a := sset_id (sset_pw a)
/-! ### the nine words -/
def tWithin (n : Int) (a b : List Int) : Option Dep := if (isSt n a && isSt n b && within b a) = true then some (.fd a b) else none
def tWith (n : Int) : Option Dep → List Int → Option Dep
  | some (.fd x y), c => if isSt n c = true then some (.fd (sset (x ++ c)) (sset (y ++ c))) else none
  | _, _ => none
def tThrough : Option Dep → Option Dep → Option Dep
  | some (.fd x y), some (.fd z u) => if y = z then some (.fd x u) else none
  | _, _ => none
def tAlso : Option Dep → Option Dep
  | some (.fd x y) => some (.mvd x y)
  | _ => none
def tOther (n : Int) : Option Dep → Option Dep
  | some (.mvd x y) => some (.mvd x ((rangeI n).filter fun k => !decide (k ∈ sset (x ++ y))))
  | _ => none
def tWide (n : Int) : Option Dep → List Int → List Int → Option Dep
  | some (.mvd x y), c, s => if (isSt n c && isSt n s && within s c) = true then some (.mvd (sset (x ++ c)) (sset (y ++ s))) else none
  | _, _, _ => none
def tBeyond : Option Dep → Option Dep → Option Dep
  | some (.mvd x y), some (.mvd z u) => if y = z then some (.mvd x (u.filter fun k => !decide (k ∈ y))) else none
  | _, _ => none
def tMeets : Option Dep → Option Dep → Option Dep
  | some (.mvd x y), some (.fd z u) => if (within u y && decide ((z.filter fun k => decide (k ∈ y)).length = 0)) = true then some (.fd x u) else none
  | _, _ => none
def OkO (n : Int) (f : Option Dep) : Prop := ∀ d, f = some d → Ok n d
theorem q_by_within (n : Int) (a b : List Int) (M : Sto) (Q : D → Sto → Prop) (h0 : 0 ≤ n) (h : n ≤ 10) (ha : a.length < 64) (hb : b.length < 64) :
    phi_by_within [.int n, .tup (a.map D.int), .tup (b.map D.int)] M Q = Q (oOf (tWithin n a b)) M := by
  simp [phi_by_within, q_is_set n _ _ _ h0 h ha, q_is_set n _ _ _ h0 h hb, q_is_within _ _ _ _ hb, q_sides _ _ _ _ _ (.inl rfl) ha hb, tWithin]
  cases h1 : isSt n a
  · simp [oOf]
  · cases h2 : isSt n b
    · simp [oOf]
    · have e1 := (isSt_iff.mp h1).id
      have e2 := (isSt_iff.mp h2).id
      cases h3 : within b a
      · simp [oOf]
      · simp [oOf, e1, e2]
theorem q_by_with (n : Int) (f : Option Dep) (c : List Int) (M : Sto) (Q : D → Sto → Prop) (h0 : 0 ≤ n) (h : n ≤ 10) (hf : OkO n f) (hc : c.length < 30) :
    phi_by_with [.int n, oOf f, .tup (c.map D.int)] M Q = Q (oOf (tWith n f c)) M := by
  have hc2 : c.length < 64 := by omega
  rcases f with _ | ⟨x, y⟩ | ⟨x, y⟩ | ps
  · simp [phi_by_with, oOf, tWith, isiTbl]
  · obtain ⟨hx, hy⟩ := hf _ rfl
    have lx := hx.len
    have ly := hy.len
    have e1 : x.length + c.length < 64 := by omega
    have e2 : y.length + c.length < 64 := by omega
    have e3 : (sset (x ++ c)).length < 64 := Nat.lt_of_le_of_lt (sset_length_le _) (by simpa using e1)
    have e4 : (sset (y ++ c)).length < 64 := Nat.lt_of_le_of_lt (sset_length_le _) (by simpa using e2)
    simp [phi_by_with, oOf, tWith, isiTbl, q_is_set n _ _ _ h0 h hc2, q_united _ _ _ _ e1, q_united _ _ _ _ e2, q_sides _ _ _ _ _ (.inl rfl) e3 e4, sset_idem]
    cases h1 : isSt n c
    · simp
    · simp
  · simp [phi_by_with, oOf, tWith, isiTbl]
  · simp [phi_by_with, oOf, tWith, isiTbl]
theorem q_by_through (n : Int) (f g : Option Dep) (M : Sto) (Q : D → Sto → Prop) (h : n ≤ 10) (hf : OkO n f) (hg : OkO n g) :
    phi_by_through [oOf f, oOf g] M Q = Q (oOf (tThrough f g)) M := by
  rcases f with _ | ⟨x, y⟩ | ⟨x, y⟩ | ps
  · simp [phi_by_through, oOf, tThrough, isiTbl]
  · obtain ⟨hx, hy⟩ := hf _ rfl
    have lx := hx.len
    rcases g with _ | ⟨z, u⟩ | ⟨z, u⟩ | ps
    · simp [phi_by_through, oOf, tThrough, isiTbl]
    · obtain ⟨hz, hu⟩ := hg _ rfl
      have lu := hu.len
      have e1 : x.length < 64 := by omega
      have e2 : u.length < 64 := by omega
      simp [phi_by_through, oOf, tThrough, isiTbl, q_sides _ _ _ _ _ (.inl rfl) e1 e2, hx.id, hu.id]
      by_cases h1 : y = z
      · simp [h1]
      · simp [h1]
    · simp [phi_by_through, oOf, tThrough, isiTbl]
    · simp [phi_by_through, oOf, tThrough, isiTbl]
  · simp [phi_by_through, oOf, tThrough, isiTbl]
  · simp [phi_by_through, oOf, tThrough, isiTbl]
theorem q_by_also (n : Int) (f : Option Dep) (M : Sto) (Q : D → Sto → Prop) (h : n ≤ 10) (hf : OkO n f) :
    phi_by_also [oOf f] M Q = Q (oOf (tAlso f)) M := by
  rcases f with _ | ⟨x, y⟩ | ⟨x, y⟩ | ps
  · simp [phi_by_also, oOf, tAlso, isiTbl]
  · obtain ⟨hx, hy⟩ := hf _ rfl
    have lx := hx.len
    have ly := hy.len
    have e1 : x.length < 64 := by omega
    have e2 : y.length < 64 := by omega
    simp [phi_by_also, oOf, tAlso, isiTbl, q_sides _ _ _ _ _ (.inr rfl) e1 e2, hx.id, hy.id]
  · simp [phi_by_also, oOf, tAlso, isiTbl]
  · simp [phi_by_also, oOf, tAlso, isiTbl]
theorem q_by_other (n : Int) (f : Option Dep) (M : Sto) (Q : D → Sto → Prop) (h0 : 0 ≤ n) (h : n ≤ 10) (hf : OkO n f) :
    phi_by_other [.int n, oOf f] M Q = Q (oOf (tOther n f)) M := by
  rcases f with _ | ⟨x, y⟩ | ⟨x, y⟩ | ps
  · simp [phi_by_other, oOf, tOther, isiTbl]
  · simp [phi_by_other, oOf, tOther, isiTbl]
  · obtain ⟨hx, hy⟩ := hf _ rfl
    have lx := hx.len
    have ly := hy.len
    have e1 : x.length + y.length < 64 := by omega
    have e2 : (rangeI n).length < 64 := by rw [rangeI_len]; omega
    have e3 : x.length < 64 := by omega
    have e4 : ((rangeI n).filter fun k => !decide (k ∈ sset (x ++ y))).length < 64 := Nat.lt_of_le_of_lt (List.length_filter_le _ _) e2
    simp [phi_by_other, oOf, tOther, isiTbl, q_whole n _ _ h0 h, q_united _ _ _ _ e1]
    rw [q_less _ _ _ _ e2]
    simp [q_sides _ _ _ _ _ (.inr rfl) e3 e4, hx.id, ((st_range n).filter _).id]
  · simp [phi_by_other, oOf, tOther, isiTbl]
theorem q_by_wide (n : Int) (f : Option Dep) (c s : List Int) (M : Sto) (Q : D → Sto → Prop) (h0 : 0 ≤ n) (h : n ≤ 10) (hf : OkO n f) (hc : c.length < 30) (hs : s.length < 30) :
    phi_by_wide [.int n, oOf f, .tup (c.map D.int), .tup (s.map D.int)] M Q = Q (oOf (tWide n f c s)) M := by
  have hc2 : c.length < 64 := by omega
  have hs2 : s.length < 64 := by omega
  rcases f with _ | ⟨x, y⟩ | ⟨x, y⟩ | ps
  · simp [phi_by_wide, oOf, tWide, isiTbl, q_is_set n _ _ _ h0 h hc2, q_is_set n _ _ _ h0 h hs2]
    cases isSt n c <;> cases isSt n s <;> simp
  · simp [phi_by_wide, oOf, tWide, isiTbl, q_is_set n _ _ _ h0 h hc2, q_is_set n _ _ _ h0 h hs2]
    cases isSt n c <;> cases isSt n s <;> simp
  · obtain ⟨hx, hy⟩ := hf _ rfl
    have lx := hx.len
    have ly := hy.len
    have e1 : x.length + c.length < 64 := by omega
    have e2 : y.length + s.length < 64 := by omega
    have e3 : (sset (x ++ c)).length < 64 := Nat.lt_of_le_of_lt (sset_length_le _) (by simpa using e1)
    have e4 : (sset (y ++ s)).length < 64 := Nat.lt_of_le_of_lt (sset_length_le _) (by simpa using e2)
    simp [phi_by_wide, oOf, tWide, isiTbl, q_is_set n _ _ _ h0 h hc2, q_is_set n _ _ _ h0 h hs2, q_is_within _ _ _ _ hs2, q_united _ _ _ _ e1, q_united _ _ _ _ e2, q_sides _ _ _ _ _ (.inr rfl) e3 e4, sset_idem]
    cases isSt n c <;> cases isSt n s <;> cases within s c <;> simp
  · simp [phi_by_wide, oOf, tWide, isiTbl, q_is_set n _ _ _ h0 h hc2, q_is_set n _ _ _ h0 h hs2]
    cases isSt n c <;> cases isSt n s <;> simp
theorem q_by_beyond (n : Int) (f g : Option Dep) (M : Sto) (Q : D → Sto → Prop) (h : n ≤ 10) (hf : OkO n f) (hg : OkO n g) :
    phi_by_beyond [oOf f, oOf g] M Q = Q (oOf (tBeyond f g)) M := by
  rcases f with _ | ⟨x, y⟩ | ⟨x, y⟩ | ps
  · simp [phi_by_beyond, oOf, tBeyond, isiTbl]
  · simp [phi_by_beyond, oOf, tBeyond, isiTbl]
  · obtain ⟨hx, hy⟩ := hf _ rfl
    have lx := hx.len
    rcases g with _ | ⟨z, u⟩ | ⟨z, u⟩ | ps
    · simp [phi_by_beyond, oOf, tBeyond, isiTbl]
    · simp [phi_by_beyond, oOf, tBeyond, isiTbl]
    · obtain ⟨hz, hu⟩ := hg _ rfl
      have lu := hu.len
      have e1 : x.length < 64 := by omega
      have e2 : u.length < 64 := by omega
      have e3 : (u.filter fun k => !decide (k ∈ y)).length < 64 := Nat.lt_of_le_of_lt (List.length_filter_le _ _) e2
      simp [phi_by_beyond, oOf, tBeyond, isiTbl, q_less _ _ _ _ e2]
      simp [q_sides _ _ _ _ _ (.inr rfl) e1 e3, hx.id, (hu.filter _).id]
      by_cases h1 : y = z
      · simp [h1]
      · simp [h1]
    · simp [phi_by_beyond, oOf, tBeyond, isiTbl]
  · simp [phi_by_beyond, oOf, tBeyond, isiTbl]
theorem q_by_meets (n : Int) (f g : Option Dep) (M : Sto) (Q : D → Sto → Prop) (h : n ≤ 10) (hf : OkO n f) (hg : OkO n g) :
    phi_by_meets [oOf f, oOf g] M Q = Q (oOf (tMeets f g)) M := by
  rcases f with _ | ⟨x, y⟩ | ⟨x, y⟩ | ps
  · simp [phi_by_meets, oOf, tMeets, isiTbl]
  · simp [phi_by_meets, oOf, tMeets, isiTbl]
  · obtain ⟨hx, hy⟩ := hf _ rfl
    have lx := hx.len
    rcases g with _ | ⟨z, u⟩ | ⟨z, u⟩ | ps
    · simp [phi_by_meets, oOf, tMeets, isiTbl]
    · obtain ⟨hz, hu⟩ := hg _ rfl
      have lu := hu.len
      have lz := hz.len
      have e1 : x.length < 64 := by omega
      have e2 : u.length < 64 := by omega
      have e3 : z.length < 64 := by omega
      simp only [oOf, tMeets]
      generalize hb : decide ((z.filter fun k => decide (k ∈ y)).length = 0) = b
      have hb2 : decide (((z.filter fun k => decide (k ∈ y)).length : Int) = 0) = b := by
        rw [← hb]
        exact decide_eq_decide.mpr (by omega)
      simp only [dOf, phi_by_meets]
      simp [isiTbl, q_is_within _ _ _ _ e2]
      rw [q_met _ _ _ _ e3]
      simp [q_sides _ _ _ _ _ (.inl rfl) e1 e2, hx.id, hu.id]
      by_cases h1 : ∀ a, a ∈ z → ¬ a ∈ y
      · have hb3 : b = true := by
          rw [← hb]
          simpa using h1
        have hA : (∀ a, a ∈ z → ¬ a ∈ y) = True := eq_true h1
        have hB : (∀ a, a ∈ z → a ∈ y → Q .non M) = True := eq_true fun a ha hy => absurd hy (h1 a ha)
        cases within u y
        · simp
        · simp [hA, hB, hb3]
      · have hb3 : b = false := by
          rw [← hb]
          simpa using h1
        have hA : (∀ a, a ∈ z → ¬ a ∈ y) = False := eq_false h1
        have hB : (∀ a, a ∈ z → a ∈ y → Q .non M) = Q .non M := by
          apply propext
          constructor
          · intro hq
            simp at h1
            obtain ⟨k, hk, hk2⟩ := h1
            exact hq k hk hk2
          · exact fun hq _ _ _ => hq
        cases within u y
        · simp
        · simp [hA, hB, hb3]
    · simp [phi_by_meets, oOf, tMeets, isiTbl]
    · simp [phi_by_meets, oOf, tMeets, isiTbl]
  · simp [phi_by_meets, oOf, tMeets, isiTbl]
/-! ### rows -/
inductive Row where
  | told (k : Int) | within (a b : List Int) | wth (k : Int) (a : List Int) | thr (i j : Int) | also (i : Int) | other (i : Int) | wide (i : Int) (a b : List Int) | beyond (i j : Int) | meets (i j : Int)
def rOf : Row → D
  | .told k => .tup [.str (Str.ofString "told"), .int k]
  | .within a b => .tup [.str (Str.ofString "within"), tupI a, tupI b]
  | .wth k a => .tup [.str (Str.ofString "with"), .int k, tupI a]
  | .thr i j => .tup [.str (Str.ofString "through"), .int i, .int j]
  | .also i => .tup [.str (Str.ofString "also"), .int i]
  | .other i => .tup [.str (Str.ofString "other"), .int i]
  | .wide i a b => .tup [.str (Str.ofString "wide"), .int i, tupI a, tupI b]
  | .beyond i j => .tup [.str (Str.ofString "beyond"), .int i, .int j]
  | .meets i j => .tup [.str (Str.ofString "meets"), .int i, .int j]
/-- the sets in it are not longer than k -/
def Rk (k : Nat) : Row → Prop
  | .within a b => a.length ≤ k ∧ b.length ≤ k
  | .wth _ a => a.length ≤ k
  | .wide _ a b => a.length ≤ k ∧ b.length ≤ k
  | _ => True
theorem Rk.mono {k m : Nat} {r : Row} (h : Rk k r) (hk : k ≤ m) : Rk m r := by
  cases r with
  | within a b => exact ⟨Nat.le_trans h.1 hk, Nat.le_trans h.2 hk⟩
  | wth i a => exact Nat.le_trans h hk
  | wide i a b => exact ⟨Nat.le_trans h.1 hk, Nat.le_trans h.2 hk⟩
  | _ => trivial
def RSm (r : Row) : Prop := Rk 29 r
def ear (made : List Dep) (i : Int) : Option Dep := if 0 ≤ i then made[i.toNat]? else none
def noJ : Option Dep → Option Dep
  | some (.jd _) => none
  | x => x
def tells (n : Int) (told made : List Dep) : Row → Option Dep
  | .told k => noJ (ear told k)
  | .within a b => tWithin n a b
  | .wth k a => tWith n (ear made k) a
  | .thr i j => tThrough (ear made i) (ear made j)
  | .also i => tAlso (ear made i)
  | .other i => tOther n (ear made i)
  | .wide i a b => tWide n (ear made i) a b
  | .beyond i j => tBeyond (ear made i) (ear made j)
  | .meets i j => tMeets (ear made i) (ear made j)
def IsL (M : Sto) (d : D) (xs : List D) : Prop := d = .lst xs ∨ ∃ k, d = .cell k ∧ M[k]? = some (.lst xs)
theorem IsL.ofS {M : Sto} {d : D} {xs : List D} (h : IsL M d xs) : lstOf M d = some xs := by
  rcases h with rfl | ⟨k, rfl, h⟩
  · rfl
  · exact DL.lstOf_cell h
theorem q_len {M : Sto} {d : D} {xs : List D} (h : IsL M d xs) (Q : D → Sto → Prop) : fLen [d] M Q = Q (.int (xs.length : Nat)) M := by
  rcases h with rfl | ⟨k, rfl, h⟩
  · simp
  · simp [DL.lstOf_cell h]
theorem q_ix {M : Sto} {d : D} {xs : List D} (h : IsL M d xs) (i : Int) (Q : D → Sto → Prop) : fIx d (.int i) M Q = isS (atI xs i) fun d => Q d M := by
  rcases h with rfl | ⟨k, rfl, h⟩
  · simp
  · simp [DL.lstOf_cell h]
theorem ear_ok {n : Int} {made : List Dep} (h : ∀ d ∈ made, Ok n d) (i : Int) : OkO n (ear made i) := by
  intro d hd
  unfold ear at hd
  split at hd
  · exact h d (List.mem_of_getElem? hd)
  · cases hd
theorem q_earlier (made : List Dep) (d : D) (i : Int) (M : Sto) (Q : D → Sto → Prop) (h : IsL M d (made.map dOf)) : phi_earlier [d, .int i] M Q = Q (oOf (ear made i)) M := by
  by_cases h0 : 0 ≤ i
  · by_cases h1 : i < made.length
    · have h2 : i.toNat < made.length := by omega
      simp [phi_earlier, q_len h, q_ix h, ear, h0, h1, h2, oOf]
    · have h2 : made[i.toNat]? = none := List.getElem?_eq_none_iff.mpr (by omega)
      simp [phi_earlier, q_len h, q_ix h, ear, h0, h1, h2, oOf]
  · simp [phi_earlier, ear, h0, oOf]
theorem q_by_told (told : List Dep) (i : Int) (M : Sto) (Q : D → Sto → Prop) : phi_by_told [.lst (told.map dOf), .int i] M Q = Q (oOf (noJ (ear told i))) M := by
  by_cases h0 : 0 ≤ i
  · by_cases h1 : i < told.length
    · have h2 : i.toNat < told.length := by omega
      have e : ∃ a, told[i.toNat] = a := ⟨_, rfl⟩
      obtain ⟨a, e⟩ := e
      rcases a with ⟨x, y⟩ | ⟨x, y⟩ | ps
      · simp [phi_by_told, ear, h0, h1, e, oOf, noJ, isiTbl]
      · simp [phi_by_told, ear, h0, h1, e, oOf, noJ, isiTbl]
      · simp [phi_by_told, ear, h0, h1, e, oOf, noJ, isiTbl]
    · have h2 : told[i.toNat]? = none := List.getElem?_eq_none_iff.mpr (by omega)
      simp [phi_by_told, ear, h0, h1, h2, oOf, noJ]
  · simp [phi_by_told, ear, h0, oOf, noJ]
theorem q_of_two (n : Int) (f g : Option Dep) (M : Sto) (Q : D → Sto → Prop) (h : n ≤ 10) (hf : OkO n f) (hg : OkO n g) :
    phi_of_two [oOf f, oOf g, .str (Str.ofString "through")] M Q = Q (oOf (tThrough f g)) M ∧
    phi_of_two [oOf f, oOf g, .str (Str.ofString "beyond")] M Q = Q (oOf (tBeyond f g)) M ∧
    phi_of_two [oOf f, oOf g, .str (Str.ofString "meets")] M Q = Q (oOf (tMeets f g)) M := by
  refine ⟨?_, ?_, ?_⟩
  · simp [phi_of_two, ok_lit, q_by_through n f g _ _ h hf hg]
  · simp [phi_of_two, ok_lit, q_by_beyond n f g _ _ h hf hg]
  · simp [phi_of_two, ok_lit, q_by_meets n f g _ _ h hf hg]
theorem q_row_tells (n : Int) (told made : List Dep) (d : D) (r : Row) (M : Sto) (Q : D → Sto → Prop) (h0 : 0 ≤ n) (h : n ≤ 10) (hd : IsL M d (made.map dOf)) (hm : ∀ d ∈ made, Ok n d) (hr : RSm r) :
    phi_row_tells [.int n, .lst (told.map dOf), d, rOf r] M Q = Q (oOf (tells n told made r)) M := by
  have hk := ear_ok hm
  cases r with
  | told k => simp [phi_row_tells, rOf, ok_lit, tells, q_by_told]
  | within a b => simp [phi_row_tells, rOf, ok_lit, tells, q_by_within n a b _ _ h0 h (Nat.lt_of_le_of_lt hr.1 (by decide)) (Nat.lt_of_le_of_lt hr.2 (by decide))]
  | wth k a => simp [phi_row_tells, rOf, ok_lit, tells, q_earlier made d _ _ _ hd, phi_of_one, q_by_with n _ a _ _ h0 h (hk k) (Nat.lt_succ_of_le hr)]
  | thr i j => simp [phi_row_tells, rOf, ok_lit, tells, q_earlier made d _ _ _ hd, (q_of_two n _ _ _ _ h (hk i) (hk j)).1]
  | also i => simp [phi_row_tells, rOf, ok_lit, tells, q_earlier made d _ _ _ hd, phi_of_one, q_by_also n _ _ _ h (hk i)]
  | other i => simp [phi_row_tells, rOf, ok_lit, tells, q_earlier made d _ _ _ hd, phi_of_one, q_by_other n _ _ _ h0 h (hk i)]
  | wide i a b => simp [phi_row_tells, rOf, ok_lit, tells, q_earlier made d _ _ _ hd, phi_of_one, q_by_wide n _ a b _ _ h0 h (hk i) (Nat.lt_succ_of_le hr.1) (Nat.lt_succ_of_le hr.2)]
  | beyond i j => simp [phi_row_tells, rOf, ok_lit, tells, q_earlier made d _ _ _ hd, (q_of_two n _ _ _ _ h (hk i) (hk j)).2.1]
  | meets i j => simp [phi_row_tells, rOf, ok_lit, tells, q_earlier made d _ _ _ hd, (q_of_two n _ _ _ _ h (hk i) (hk j)).2.2]
end Law


set_option linter.all false
set_option autoImplicit false
set_option maxRecDepth 100000
set_option maxHeartbeats 400000
namespace Law
open PySem PySem.Spec PyProof.Rows L2 DL
/-! ### the law's own functions -/
def lset (z n : Int) : List Int := (rangeI n).filter fun k => decide (z / ([1, 2, 4, 8, 16, 32, 64, 128, 256, (512 : Int)].getD k.toNat 1) % 2 = 1)
def lspa (z n : Int) : List Int := (rangeI n).filter fun k => decide (z / ([1, 3, 9, 27, 81, 243, 729, 2187, 6561, (19683 : Int)].getD k.toNat 1) % 3 = 1)
theorem st_lset (z n : Int) : DL.St n (lset z n) := (st_range n).filter _
theorem st_lspa (z n : Int) : DL.St n (lspa z n) := (st_range n).filter _
theorem at_ints (ps : List Int) (k : Int) (h0 : 0 ≤ k) (h : k < ps.length) : (ps.map D.int)[k.toNat]? = some (.int (ps.getD k.toNat 1)) ∧ ps.getD k.toNat 1 ∈ ps := by
  have hl : k.toNat < ps.length := by omega
  rw [List.getElem?_map, List.getD_eq_getElem?_getD, List.getElem?_eq_getElem hl]
  exact ⟨rfl, List.getElem_mem hl⟩
theorem q_law_set (z n : Int) (M : Sto) (Q : D → Sto → Prop) (h0 : 0 ≤ n) (h : n ≤ 10) : phi__law_set [.int z, .int n] M Q = Q (tupI (lset z n)) M := by
  have hn : n < 4611686018427387904 ∧ -4611686018427387904 ≤ n := by omega
  simp [phi__law_set, hn, dRng_int]
  rw [compD_eq D.int D.int (fun k => decide (z / ([1, 2, 4, 8, 16, 32, 64, 128, 256, (512 : Int)].getD k.toNat 1) % 2 = 1)) trivial (rangeI n) [] (fun k hk k1 k0 => ?_) (by rw [rangeI_len]; simp; omega)]
  · simp [lset]
  · have hk := mem_rangeI.mp hk
    obtain ⟨e1, e2⟩ := at_ints [1, 2, 4, 8, 16, 32, 64, 128, 256, 512] k hk.1 (by simp; omega)
    have e1 : [D.int 1, D.int 2, D.int 4, D.int 8, D.int 16, D.int 32, D.int 64, D.int 128, D.int 256, D.int 512][k.toNat]? = _ := e1
    generalize [1, 2, 4, 8, 16, 32, 64, 128, 256, (512 : Int)].getD k.toNat 1 = v at *
    have hv : 0 < v ∧ v < 1073741824 := by simp at e2; omega
    simp [hk.1, e1, hv.1, hv.2]
theorem q_law_sparse (z n : Int) (M : Sto) (Q : D → Sto → Prop) (h0 : 0 ≤ n) (h : n ≤ 10) : phi__law_sparse [.int z, .int n] M Q = Q (tupI (lspa z n)) M := by
  have hn : n < 4611686018427387904 ∧ -4611686018427387904 ≤ n := by omega
  simp [phi__law_sparse, hn, dRng_int]
  rw [compD_eq D.int D.int (fun k => decide (z / ([1, 3, 9, 27, 81, 243, 729, 2187, 6561, (19683 : Int)].getD k.toNat 1) % 3 = 1)) trivial (rangeI n) [] (fun k hk k1 k0 => ?_) (by rw [rangeI_len]; simp; omega)]
  · simp [lspa]
  · have hk := mem_rangeI.mp hk
    obtain ⟨e1, e2⟩ := at_ints [1, 3, 9, 27, 81, 243, 729, 2187, 6561, 19683] k hk.1 (by simp; omega)
    have e1 : [D.int 1, D.int 3, D.int 9, D.int 27, D.int 81, D.int 243, D.int 729, D.int 2187, D.int 6561, D.int 19683][k.toNat]? = _ := e1
    generalize [1, 3, 9, 27, 81, 243, 729, 2187, 6561, (19683 : Int)].getD k.toNat 1 = v at *
    have hv : 0 < v ∧ v < 1073741824 := by simp at e2; omega
    simp [hk.1, e1, hv.1, hv.2]
theorem q_law_united (a b : List Int) (M : Sto) (Q : D → Sto → Prop) (h : a.length + b.length < 64) : phi__law_united [.tup (a.map D.int), .tup (b.map D.int)] M Q = Q (tupI (sset (a ++ b))) M := by
  have h2 : a.length + b.length ≤ 16777216 := by omega
  simp [phi__law_united, h2]
  rw [← List.map_append, sset1_tup]
  simp [h]
theorem q_law_met (a b : List Int) (M : Sto) (Q : D → Sto → Prop) (h : a.length < 64) : phi__law_met [.tup (a.map D.int), .tup (b.map D.int)] M Q = Q (tupI (a.filter fun k => decide (k ∈ b))) M := by
  simp [phi__law_met]
  rw [compD_eq D.int D.int (fun k => decide (k ∈ b)) trivial a [] (fun x hx k1 k0 => by simp) (by simp; omega)]
  simp
theorem q_law_less (a b : List Int) (M : Sto) (Q : D → Sto → Prop) (h : a.length < 64) : phi__law_less [.tup (a.map D.int), .tup (b.map D.int)] M Q = Q (tupI (a.filter fun k => !decide (k ∈ b))) M := by
  simp [phi__law_less]
  rw [compD_eq D.int D.int (fun k => !decide (k ∈ b)) trivial a [] (fun x hx k1 k0 => by simp) (by simp; omega)]
  simp
theorem q_law_is_within (a b : List Int) (M : Sto) (Q : D → Sto → Prop) (h : a.length < 64) : phi__law_is_within [.tup (a.map D.int), .tup (b.map D.int)] M Q = Q (.bl (within a b)) M := by
  have e : decide (((a.filter fun k => !decide (k ∈ b)).length : Int) = 0) = within a b := by
    rw [Bool.eq_iff_iff, decide_eq_true_iff, within_iff]
    constructor
    · intro h
      have : (a.filter fun k => !decide (k ∈ b)) = [] := List.eq_nil_of_length_eq_zero (by omega)
      intro k hk
      have := List.filter_eq_nil_iff.mp this k hk
      simpa using this
    · intro h
      have : (a.filter fun k => !decide (k ∈ b)) = [] := List.filter_eq_nil_iff.mpr fun k hk => by simpa using h k hk
      rw [this]
      rfl
  simp only [phi__law_is_within, fnD, dRet, dOp, dCB, dCall, aCons, aNil, dVar, startD]
  simp
  rw [q_law_less _ _ _ _ h]
  rw [fLen_tup, fEq_int, List.length_map, e, retD_same]
theorem q_law_is_set (n : Int) (a : List Int) (M : Sto) (Q : D → Sto → Prop) (h0 : 0 ≤ n) (h : n ≤ 10) : phi__law_is_set [.tup (a.map D.int), .int n] M Q = Q (.bl (isSt n a)) M := by
  have hn : n < 4611686018427387904 ∧ -4611686018427387904 ≤ n := by omega
  simp [phi__law_is_set, hn, dRng_int]
  rw [compD_eq D.int D.int (fun k => decide (k ∈ a)) trivial (rangeI n) [] (fun x hx k1 k0 => by simp) (by rw [rangeI_len]; simp; omega)]
  have e : decide (a = (rangeI n).filter fun k => decide (k ∈ a)) = isSt n a := decide_eq_decide.mpr (st_filter_range n a)
  simp [e]
  intro _ x y _ _ hx
  rw [← hx]
  simp
theorem q_law_of_one (n : Int) (f : Dep) (M : Sto) (Q : D → Sto → Prop) (h0 : 0 ≤ n) (h : n ≤ 10) (hf : Ok n f) :
    (∀ i, phi__law_of_one [.int n, lOf f, rOf (.also i)] M Q = Q (lopt (tAlso (some f))) M) ∧
    (∀ i, phi__law_of_one [.int n, lOf f, rOf (.other i)] M Q = Q (lopt (tOther n (some f))) M) ∧
    (∀ i a, a.length < 30 → phi__law_of_one [.int n, lOf f, rOf (.wth i a)] M Q = Q (lopt (tWith n (some f) a)) M) ∧
    (∀ i a b, a.length < 30 → b.length < 30 → phi__law_of_one [.int n, lOf f, rOf (.wide i a b)] M Q = Q (lopt (tWide n (some f) a b)) M) := by
  have hn : n ≤ 16777216 := by omega
  have hr : (rangeI n).length < 64 := by rw [rangeI_len]; omega
  rcases f with ⟨x, y⟩ | ⟨x, y⟩ | ps
  · have lx := hf.1.len
    have ly := hf.2.len
    have e0 : x.length + y.length < 64 := by omega
    refine ⟨?_, ?_, ?_, ?_⟩
    · intro i
      simp [phi__law_of_one, rOf, ok_lit, tAlso, lopt]
    · intro i
      simp [phi__law_of_one, rOf, ok_lit, tOther, lopt]
    · intro i a ha
      have e1 : x.length + a.length < 64 := by omega
      have e2 : y.length + a.length < 64 := by omega
      simp [phi__law_of_one, rOf, ok_lit, tWith, lopt, q_law_is_set n _ _ _ h0 h, q_law_united _ _ _ _ e1, q_law_united _ _ _ _ e2]
      cases isSt n a <;> simp
    · intro i a b ha hb
      simp [phi__law_of_one, rOf, ok_lit, tWide, lopt, q_law_is_set n _ _ _ h0 h]
      cases isSt n a <;> simp
  · have lx := hf.1.len
    have ly := hf.2.len
    have e0 : x.length + y.length < 64 := by omega
    refine ⟨?_, ?_, ?_, ?_⟩
    · intro i
      simp [phi__law_of_one, rOf, ok_lit, tAlso, lopt]
    · intro i
      simp [phi__law_of_one, rOf, ok_lit, tOther, lopt, hn, h0, dRng_int, q_law_united _ _ _ _ e0]
      rw [q_law_less _ _ _ _ hr]
      simp
    · intro i a ha
      simp [phi__law_of_one, rOf, ok_lit, tWith, lopt, q_law_is_set n _ _ _ h0 h]
      cases isSt n a <;> simp
    · intro i a b ha hb
      have e1 : x.length + a.length < 64 := by omega
      have e2 : y.length + b.length < 64 := by omega
      have e3 : b.length < 64 := by omega
      simp [phi__law_of_one, rOf, ok_lit, tWide, lopt, q_law_is_set n _ _ _ h0 h, q_law_united _ _ _ _ e1, q_law_united _ _ _ _ e2, q_law_is_within _ _ _ _ e3]
      cases isSt n a <;> cases isSt n b <;> cases within b a <;> simp
  · refine ⟨?_, ?_, ?_, ?_⟩
    · intro i
      simp [phi__law_of_one, rOf, ok_lit, tAlso, lopt]
    · intro i
      simp [phi__law_of_one, rOf, ok_lit, tOther, lopt]
    · intro i a ha
      simp [phi__law_of_one, rOf, ok_lit, tWith, lopt, q_law_is_set n _ _ _ h0 h]
      cases isSt n a <;> simp
    · intro i a b ha hb
      simp [phi__law_of_one, rOf, ok_lit, tWide, lopt, q_law_is_set n _ _ _ h0 h]
      cases isSt n a <;> simp
/-- the law's two rows -/
theorem q_law_of_two (n : Int) (f g : Dep) (M : Sto) (Q : D → Sto → Prop) (h : n ≤ 10) (hf : Ok n f) (hg : Ok n g) :
    phi__law_of_two [lOf f, lOf g, .str (Str.ofString "through")] M Q = Q (lopt (tThrough (some f) (some g))) M ∧
    phi__law_of_two [lOf f, lOf g, .str (Str.ofString "beyond")] M Q = Q (lopt (tBeyond (some f) (some g))) M ∧
    phi__law_of_two [lOf f, lOf g, .str (Str.ofString "meets")] M Q = Q (lopt (tMeets (some f) (some g))) M := by
  refine ⟨?_, ?_, ?_⟩
  · rcases f with ⟨x, y⟩ | ⟨x, y⟩ | ps
    · rcases g with ⟨z, u⟩ | ⟨z, u⟩ | ps
      · simp [phi__law_of_two, ok_lit, tThrough, lopt]
        by_cases h1 : y = z
        · simp [h1]
        · simp [h1]
      · simp [phi__law_of_two, ok_lit, tThrough, lopt]
      · simp [phi__law_of_two, ok_lit, tThrough, lopt]
    · simp [phi__law_of_two, ok_lit, tThrough, lopt]
    · simp [phi__law_of_two, ok_lit, tThrough, lopt]
  · rcases f with ⟨x, y⟩ | ⟨x, y⟩ | ps
    · simp [phi__law_of_two, ok_lit, tBeyond, lopt]
    · rcases g with ⟨z, u⟩ | ⟨z, u⟩ | ps
      · simp [phi__law_of_two, ok_lit, tBeyond, lopt]
      · have lu := hg.2.len
        have e : u.length < 64 := by omega
        simp [phi__law_of_two, ok_lit, tBeyond, lopt]
        rw [q_law_less _ _ _ _ e]
        by_cases h1 : y = z
        · simp [h1]
        · simp [h1]
      · simp [phi__law_of_two, ok_lit, tBeyond, lopt]
    · simp [phi__law_of_two, ok_lit, tBeyond, lopt]
  · rcases f with ⟨x, y⟩ | ⟨x, y⟩ | ps
    · simp [phi__law_of_two, ok_lit, tMeets, lopt]
    · rcases g with ⟨z, u⟩ | ⟨z, u⟩ | ps
      · have lu := hg.2.len
        have lz := hg.1.len
        have e2 : u.length < 64 := by omega
        have e3 : z.length < 64 := by omega
        simp only [lopt, tMeets]
        generalize hb : decide ((z.filter fun k => decide (k ∈ y)).length = 0) = b
        simp [phi__law_of_two, ok_lit, q_law_is_within _ _ _ _ e2]
        rw [q_law_met _ _ _ _ e3]
        simp
        by_cases h1 : ∀ a, a ∈ z → ¬ a ∈ y
        · have hb3 : b = true := by
            rw [← hb]
            simpa using h1
          have hA : (∀ a, a ∈ z → ¬ a ∈ y) = True := eq_true h1
          have hB : (∀ a, a ∈ z → a ∈ y → Q .non M) = True := eq_true fun a ha hy => absurd hy (h1 a ha)
          cases within u y
          · simp
          · simp [hA, hB, hb3]
        · have hb3 : b = false := by
            rw [← hb]
            simpa using h1
          have hA : (∀ a, a ∈ z → ¬ a ∈ y) = False := eq_false h1
          have hB : (∀ a, a ∈ z → a ∈ y → Q .non M) = Q .non M := by
            apply propext
            constructor
            · intro hq
              simp at h1
              obtain ⟨k, hk, hk2⟩ := h1
              exact hq k hk hk2
            · exact fun hq _ _ _ => hq
          cases within u y
          · simp
          · simp [hA, hB, hb3]
      · simp [phi__law_of_two, ok_lit, tMeets, lopt]
      · simp [phi__law_of_two, ok_lit, tMeets, lopt]
    · simp [phi__law_of_two, ok_lit, tMeets, lopt]
theorem ear_cases (made : List Dep) (i : Int) : (0 ≤ i ∧ i < made.length ∧ ∃ f, f ∈ made ∧ (∀ h : i.toNat < made.length, made[i.toNat] = f) ∧ ear made i = some f) ∨ ((¬ 0 ≤ i ∨ (0 ≤ i ∧ ¬ i < made.length)) ∧ ear made i = none) := by
  by_cases h0 : 0 ≤ i
  · by_cases h1 : i < made.length
    · have h2 : i.toNat < made.length := by omega
      exact .inl ⟨h0, h1, _, List.getElem_mem h2, fun _ => rfl, by rw [ear, if_pos h0, List.getElem?_eq_getElem h2]⟩
    · refine .inr ⟨.inr ⟨h0, h1⟩, ?_⟩
      rw [ear, if_pos h0]
      exact List.getElem?_eq_none_iff.mpr (by omega)
  · exact .inr ⟨.inl h0, by rw [ear, if_neg h0]⟩
theorem tNone (n : Int) (g : Option Dep) (a b : List Int) : tThrough none g = none ∧ tBeyond none g = none ∧ tMeets none g = none ∧ tAlso none = none ∧ tOther n none = none ∧ tWith n none a = none ∧ tWide n none a b = none := ⟨rfl, rfl, rfl, rfl, rfl, rfl, rfl⟩
theorem tNone2 (f : Option Dep) : tThrough f none = none ∧ tBeyond f none = none ∧ tMeets f none = none := by
  refine ⟨?_, ?_, ?_⟩
  all_goals
    rcases f with _ | ⟨x, y⟩ | ⟨x, y⟩ | ps
    all_goals rfl
theorem q_law_row (n : Int) (told made : List Dep) (d : D) (r : Row) (M : Sto) (Q : D → Sto → Prop) (h0 : 0 ≤ n) (h : n ≤ 10) (hd : IsL M d (made.map lOf)) (hm : ∀ d ∈ made, Ok n d) (hr : RSm r) :
    phi__law_row [.int n, .lst (told.map lOf), d, rOf r] M Q = Q (lopt (tells n told made r)) M := by
  cases r with
  | told k =>
    rcases ear_cases told k with ⟨p1, p2, f, hf, e1, e2⟩ | ⟨p | ⟨p1, p2⟩, e2⟩
    · rcases f with ⟨x, y⟩ | ⟨x, y⟩ | ps
      · simp [phi__law_row, rOf, ok_lit, tells, p1, p2, e1, e2, lopt, noJ]
      · simp [phi__law_row, rOf, ok_lit, tells, p1, p2, e1, e2, lopt, noJ]
      · simp [phi__law_row, rOf, ok_lit, tells, p1, p2, e1, e2, lopt, noJ]
    · simp [phi__law_row, rOf, ok_lit, tells, p, e2, lopt, noJ]
    · simp [phi__law_row, rOf, ok_lit, tells, p1, p2, e2, lopt, noJ]
  | within a b =>
    have hb : b.length < 64 := Nat.lt_of_le_of_lt hr.2 (by decide)
    simp [phi__law_row, rOf, ok_lit, tells, tWithin, q_law_is_set n _ _ _ h0 h, q_law_is_within _ _ _ _ hb]
    cases isSt n a <;> cases isSt n b <;> cases within b a <;> simp [lopt]
  | wth i a =>
    rcases ear_cases made i with ⟨p1, p2, f, hf, e1, e2⟩ | ⟨p | ⟨p1, p2⟩, e2⟩
    · have e3 := (q_law_of_one n f M (retD M Q) h0 h (hm f hf)).2.2.1 i a (Nat.lt_succ_of_le hr)
      simp [rOf] at e3
      simp [phi__law_row, rOf, ok_lit, tells, q_len hd, q_ix hd, p1, p2, e1, e2, e3]
    · simp [phi__law_row, rOf, ok_lit, tells, q_len hd, q_ix hd, p, e2, lopt, tNone n none [] []]
      rfl
    · simp [phi__law_row, rOf, ok_lit, tells, q_len hd, q_ix hd, p1, p2, e2, lopt, tNone n none [] []]
      rfl
  | also i =>
    rcases ear_cases made i with ⟨p1, p2, f, hf, e1, e2⟩ | ⟨p | ⟨p1, p2⟩, e2⟩
    · have e3 := (q_law_of_one n f M (retD M Q) h0 h (hm f hf)).1 i
      simp [rOf] at e3
      simp [phi__law_row, rOf, ok_lit, tells, q_len hd, q_ix hd, p1, p2, e1, e2, e3]
    · simp [phi__law_row, rOf, ok_lit, tells, q_len hd, q_ix hd, p, e2, lopt, tNone n none [] []]
    · simp [phi__law_row, rOf, ok_lit, tells, q_len hd, q_ix hd, p1, p2, e2, lopt, tNone n none [] []]
  | other i =>
    rcases ear_cases made i with ⟨p1, p2, f, hf, e1, e2⟩ | ⟨p | ⟨p1, p2⟩, e2⟩
    · have e3 := (q_law_of_one n f M (retD M Q) h0 h (hm f hf)).2.1 i
      simp [rOf] at e3
      simp [phi__law_row, rOf, ok_lit, tells, q_len hd, q_ix hd, p1, p2, e1, e2, e3]
    · simp [phi__law_row, rOf, ok_lit, tells, q_len hd, q_ix hd, p, e2, lopt, tNone n none [] []]
    · simp [phi__law_row, rOf, ok_lit, tells, q_len hd, q_ix hd, p1, p2, e2, lopt, tNone n none [] []]
  | wide i a b =>
    rcases ear_cases made i with ⟨p1, p2, f, hf, e1, e2⟩ | ⟨p | ⟨p1, p2⟩, e2⟩
    · have e3 := (q_law_of_one n f M (retD M Q) h0 h (hm f hf)).2.2.2 i a b (Nat.lt_succ_of_le hr.1) (Nat.lt_succ_of_le hr.2)
      simp [rOf] at e3
      simp [phi__law_row, rOf, ok_lit, tells, q_len hd, q_ix hd, p1, p2, e1, e2, e3]
    · simp [phi__law_row, rOf, ok_lit, tells, q_len hd, q_ix hd, p, e2, lopt, tNone n none [] []]
      rfl
    · simp [phi__law_row, rOf, ok_lit, tells, q_len hd, q_ix hd, p1, p2, e2, lopt, tNone n none [] []]
      rfl
  | thr i j =>
    rcases ear_cases made i with ⟨p1, p2, f, hf, e1, e2⟩ | ⟨p | ⟨p1, p2⟩, e2⟩
    · rcases ear_cases made j with ⟨r1, r2, g, hg, e4, e5⟩ | ⟨p | ⟨r1, r2⟩, e5⟩
      · have e3 := (q_law_of_two n f g M (retD M Q) h (hm f hf) (hm g hg)).1
        simp [phi__law_row, rOf, ok_lit, tells, q_len hd, q_ix hd, p1, p2, e1, e2, e3, r1, r2, e4, e5]
      · simp [phi__law_row, rOf, ok_lit, tells, q_len hd, q_ix hd, p1, p2, e1, e2, p, e5, (tNone2 _).1, lopt]
      · simp [phi__law_row, rOf, ok_lit, tells, q_len hd, q_ix hd, p1, p2, e1, e2, r1, r2, e5, (tNone2 _).1, lopt]
    · simp [phi__law_row, rOf, ok_lit, tells, q_len hd, q_ix hd, p, e2, (tNone n _ [] []).1, lopt]
    · simp [phi__law_row, rOf, ok_lit, tells, q_len hd, q_ix hd, p1, p2, e2, (tNone n _ [] []).1, lopt]
  | beyond i j =>
    rcases ear_cases made i with ⟨p1, p2, f, hf, e1, e2⟩ | ⟨p | ⟨p1, p2⟩, e2⟩
    · rcases ear_cases made j with ⟨r1, r2, g, hg, e4, e5⟩ | ⟨p | ⟨r1, r2⟩, e5⟩
      · have e3 := (q_law_of_two n f g M (retD M Q) h (hm f hf) (hm g hg)).2.1
        simp [phi__law_row, rOf, ok_lit, tells, q_len hd, q_ix hd, p1, p2, e1, e2, e3, r1, r2, e4, e5]
      · simp [phi__law_row, rOf, ok_lit, tells, q_len hd, q_ix hd, p1, p2, e1, e2, p, e5, (tNone2 _).2.1, lopt]
      · simp [phi__law_row, rOf, ok_lit, tells, q_len hd, q_ix hd, p1, p2, e1, e2, r1, r2, e5, (tNone2 _).2.1, lopt]
    · simp [phi__law_row, rOf, ok_lit, tells, q_len hd, q_ix hd, p, e2, (tNone n _ [] []).2.1, lopt]
    · simp [phi__law_row, rOf, ok_lit, tells, q_len hd, q_ix hd, p1, p2, e2, (tNone n _ [] []).2.1, lopt]
  | meets i j =>
    rcases ear_cases made i with ⟨p1, p2, f, hf, e1, e2⟩ | ⟨p | ⟨p1, p2⟩, e2⟩
    · rcases ear_cases made j with ⟨r1, r2, g, hg, e4, e5⟩ | ⟨p | ⟨r1, r2⟩, e5⟩
      · have e3 := (q_law_of_two n f g M (retD M Q) h (hm f hf) (hm g hg)).2.2
        simp [phi__law_row, rOf, ok_lit, tells, q_len hd, q_ix hd, p1, p2, e1, e2, e3, r1, r2, e4, e5]
      · simp [phi__law_row, rOf, ok_lit, tells, q_len hd, q_ix hd, p1, p2, e1, e2, p, e5, (tNone2 _).2.2, lopt]
      · simp [phi__law_row, rOf, ok_lit, tells, q_len hd, q_ix hd, p1, p2, e1, e2, r1, r2, e5, (tNone2 _).2.2, lopt]
    · simp [phi__law_row, rOf, ok_lit, tells, q_len hd, q_ix hd, p, e2, (tNone n _ [] []).2.2.1, lopt]
    · simp [phi__law_row, rOf, ok_lit, tells, q_len hd, q_ix hd, p1, p2, e2, (tNone n _ [] []).2.2.1, lopt]
end Law


set_option linter.all false
set_option autoImplicit false
set_option maxRecDepth 100000
set_option maxHeartbeats 400000
namespace Law
open PySem PySem.Spec PyProof.Rows L2 DL
/-! ### derivations -/
def notJ : Dep → Prop
  | .jd _ => False
  | _ => True
def Ok2 (n : Int) (d : Dep) : Prop := Ok n d ∧ notJ d
def run (n : Int) (told : List Dep) : List Row → List Dep → Option (List Dep)
  | [], made => some made
  | r :: rs, made => match tells n told made r with
    | none => none
    | some d => run n told rs (made ++ [d])
theorem run_app (n : Int) (told : List Dep) : ∀ (p q : List Row) (made : List Dep), run n told (p ++ q) made = (run n told p made).bind (run n told q)
  | [], q, made => rfl
  | r :: p, q, made => by
    show (match tells n told made r with | none => none | some d => run n told (p ++ q) (made ++ [d])) = (match tells n told made r with | none => none | some d => run n told p (made ++ [d])).bind (run n told q)
    cases tells n told made r with
    | none => rfl
    | some d => exact run_app n told p q _
theorem run_len (n : Int) (told : List Dep) : ∀ (p : List Row) (made out : List Dep), run n told p made = some out → out.length = made.length + p.length
  | [], made, out, h => by
    cases h
    rfl
  | r :: p, made, out, h => by
    have h : (match tells n told made r with | none => none | some d => run n told p (made ++ [d])) = some out := h
    cases ht : tells n told made r with
    | none =>
      rw [ht] at h
      cases h
    | some d =>
      rw [ht] at h
      have := run_len n told p _ out h
      simp at this ⊢
      omega
theorem tells_ok {n : Int} {told made : List Dep} {r : Row} {d : Dep} (ht : ∀ x ∈ told, Ok n x) (hm : ∀ x ∈ made, Ok n x) (h : tells n told made r = some d) : Ok2 n d := by
  have hk := ear_ok hm
  have hk2 := ear_ok ht
  cases r with
  | told k =>
    have h : noJ (ear told k) = some d := h
    cases e : ear told k with
    | none =>
      rw [e] at h
      cases h
    | some f =>
      rw [e] at h
      have hf := hk2 k f e
      rcases f with ⟨x, y⟩ | ⟨x, y⟩ | ps
      · cases h
        exact ⟨hf, trivial⟩
      · cases h
        exact ⟨hf, trivial⟩
      · cases h
  | within a b =>
    have h : (if (isSt n a && isSt n b && within b a) = true then some (Dep.fd a b) else none) = some d := h
    split at h
    · rename_i hc
      cases h
      rw [Bool.and_eq_true, Bool.and_eq_true] at hc
      exact ⟨⟨isSt_iff.mp hc.1.1, isSt_iff.mp hc.1.2⟩, trivial⟩
    · cases h
  | wth i a =>
    have h : tWith n (ear made i) a = some d := h
    cases e : ear made i with
    | none => rw [e] at h; cases h
    | some f =>
      rw [e] at h
      have hf := hk i f e
      rcases f with ⟨x, y⟩ | ⟨x, y⟩ | ps
      · have h : (if isSt n a = true then some (Dep.fd (sset (x ++ a)) (sset (y ++ a))) else none) = some d := h
        split at h
        · rename_i hc
          cases h
          exact ⟨⟨hf.1.union (isSt_iff.mp hc), hf.2.union (isSt_iff.mp hc)⟩, trivial⟩
        · cases h
      · cases h
      · cases h
  | thr i j =>
    have h : tThrough (ear made i) (ear made j) = some d := h
    cases e : ear made i with
    | none => rw [e] at h; cases h
    | some f =>
      cases e2 : ear made j with
      | none => rw [e, e2, (tNone2 _).1] at h; cases h
      | some g =>
        rw [e, e2] at h
        have hf := hk i f e
        have hg := hk j g e2
        rcases f with ⟨x, y⟩ | ⟨x, y⟩ | ps
        · rcases g with ⟨z, u⟩ | ⟨z, u⟩ | ps
          · have h : (if y = z then some (Dep.fd x u) else none) = some d := h
            split at h
            · cases h
              exact ⟨⟨hf.1, hg.2⟩, trivial⟩
            · cases h
          · cases h
          · cases h
        · cases h
        · cases h
  | also i =>
    have h : tAlso (ear made i) = some d := h
    cases e : ear made i with
    | none => rw [e] at h; cases h
    | some f =>
      rw [e] at h
      have hf := hk i f e
      rcases f with ⟨x, y⟩ | ⟨x, y⟩ | ps
      · cases h
        exact ⟨hf, trivial⟩
      · cases h
      · cases h
  | other i =>
    have h : tOther n (ear made i) = some d := h
    cases e : ear made i with
    | none => rw [e] at h; cases h
    | some f =>
      rw [e] at h
      have hf := hk i f e
      rcases f with ⟨x, y⟩ | ⟨x, y⟩ | ps
      · cases h
      · cases h
        exact ⟨⟨hf.1, (st_range n).filter _⟩, trivial⟩
      · cases h
  | wide i a b =>
    have h : tWide n (ear made i) a b = some d := h
    cases e : ear made i with
    | none => rw [e] at h; cases h
    | some f =>
      rw [e] at h
      have hf := hk i f e
      rcases f with ⟨x, y⟩ | ⟨x, y⟩ | ps
      · cases h
      · have h : (if (isSt n a && isSt n b && within b a) = true then some (Dep.mvd (sset (x ++ a)) (sset (y ++ b))) else none) = some d := h
        split at h
        · rename_i hc
          cases h
          rw [Bool.and_eq_true, Bool.and_eq_true] at hc
          exact ⟨⟨hf.1.union (isSt_iff.mp hc.1.1), hf.2.union (isSt_iff.mp hc.1.2)⟩, trivial⟩
        · cases h
      · cases h
  | beyond i j =>
    have h : tBeyond (ear made i) (ear made j) = some d := h
    cases e : ear made i with
    | none => rw [e] at h; cases h
    | some f =>
      cases e2 : ear made j with
      | none => rw [e, e2, (tNone2 _).2.1] at h; cases h
      | some g =>
        rw [e, e2] at h
        have hf := hk i f e
        have hg := hk j g e2
        rcases f with ⟨x, y⟩ | ⟨x, y⟩ | ps
        · cases h
        · rcases g with ⟨z, u⟩ | ⟨z, u⟩ | ps
          · cases h
          · have h : (if y = z then some (Dep.mvd x (u.filter fun k => !decide (k ∈ y))) else none) = some d := h
            split at h
            · cases h
              exact ⟨⟨hf.1, hg.2.filter _⟩, trivial⟩
            · cases h
          · cases h
        · cases h
  | meets i j =>
    have h : tMeets (ear made i) (ear made j) = some d := h
    cases e : ear made i with
    | none => rw [e] at h; cases h
    | some f =>
      cases e2 : ear made j with
      | none => rw [e, e2, (tNone2 _).2.2] at h; cases h
      | some g =>
        rw [e, e2] at h
        have hf := hk i f e
        have hg := hk j g e2
        rcases f with ⟨x, y⟩ | ⟨x, y⟩ | ps
        · cases h
        · rcases g with ⟨z, u⟩ | ⟨z, u⟩ | ps
          · have h : (if (within u y && decide ((z.filter fun k => decide (k ∈ y)).length = 0)) = true then some (Dep.fd x u) else none) = some d := h
            split at h
            · cases h
              exact ⟨⟨hf.1, hg.2⟩, trivial⟩
            · cases h
          · cases h
          · cases h
        · cases h
theorem run_ok {n : Int} {told : List Dep} (ht : ∀ x ∈ told, Ok n x) : ∀ (p : List Row) (made out : List Dep), (∀ x ∈ made, Ok2 n x) → run n told p made = some out → ∀ x ∈ out, Ok2 n x
  | [], made, out, hm, h => by
    cases h
    exact hm
  | r :: p, made, out, hm, h => by
    have h : (match tells n told made r with | none => none | some d => run n told p (made ++ [d])) = some out := h
    cases e : tells n told made r with
    | none =>
      rw [e] at h
      cases h
    | some d =>
      rw [e] at h
      refine run_ok ht p _ out (fun x hx => ?_) h
      rcases List.mem_append.mp hx with hx | hx
      · exact hm x hx
      · rw [List.mem_singleton.mp hx]
        exact tells_ok ht (fun y hy => (hm y hy).1) e
def eqDep : Dep → Dep → Bool
  | .fd a b, .fd c d => decide (a = c) && decide (b = d)
  | .mvd a b, .mvd c d => decide (a = c) && decide (b = d)
  | .jd p, .jd q => decide (p = q)
  | _, _ => false
theorem q_fd_eq (a b : List Int) (t : Dep) (M : Sto) (Q : D → Sto → Prop) : phi_Fd___eq__ [dOf (.fd a b), dOf t] M Q = Q (.bl (eqDep (.fd a b) t)) M := by
  rcases t with ⟨c, d⟩ | ⟨c, d⟩ | ps
  · simp [phi_Fd___eq__, phi_Sides_key, isiTbl, eqDep]
  · simp [phi_Fd___eq__, phi_Sides_key, isiTbl, eqDep]
  · simp [phi_Fd___eq__, phi_Sides_key, isiTbl, eqDep]
theorem q_mvd_eq (a b : List Int) (t : Dep) (M : Sto) (Q : D → Sto → Prop) : phi_Mvd___eq__ [dOf (.mvd a b), dOf t] M Q = Q (.bl (eqDep (.mvd a b) t)) M := by
  rcases t with ⟨c, d⟩ | ⟨c, d⟩ | ps
  · simp [phi_Mvd___eq__, phi_Sides_key, isiTbl, eqDep]
  · simp [phi_Mvd___eq__, phi_Sides_key, isiTbl, eqDep]
  · simp [phi_Mvd___eq__, phi_Sides_key, isiTbl, eqDep]
def verdict (n : Int) (told : List Dep) (t : Dep) (rows : List Row) : Bool := match run n told rows [] with
  | none => false
  | some made => match made.getLast? with
    | none => false
    | some d => eqDep d t
theorem w_own (d t : Dep) (M : Sto) (Q : D → Sto → Prop) (hd : notJ d) (q : Q (.bl (eqDep d t)) M) :
    fOr (fOwn (Str.ofString "Fd") [Str.ofString "Fd", Str.ofString "Mvd", Str.ofString "Jd"] phi_Fd___eq__) (fOwn (Str.ofString "Mvd") [Str.ofString "Fd", Str.ofString "Mvd", Str.ofString "Jd"] phi_Mvd___eq__) (dOf d) (dOf t) M Q := by
  rcases d with ⟨a, b⟩ | ⟨a, b⟩ | ps
  · left
    have h := q_fd_eq a b t M Q
    rcases t with ⟨c, d⟩ | ⟨c, d⟩ | ps
    all_goals
      simp at h ⊢
      exact h.mpr q
  · right
    have h := q_mvd_eq a b t M Q
    rcases t with ⟨c, d⟩ | ⟨c, d⟩ | ps
    all_goals
      simp at h ⊢
      exact h.mpr q
  · exact hd.elim
theorem w_derives (n : Int) (told : List Dep) (t : Dep) (rows : List Row) (M : Sto) (Q : D → Sto → Prop) (h0 : 0 ≤ n) (h : n ≤ 10) (ht : ∀ x ∈ told, Ok n x) (hr : ∀ r ∈ rows, RSm r) (hl : rows.length ≤ 1000)
    (q : Q (.bl (verdict n told t rows)) M) : phi_derives [.int n, .lst (told.map dOf), dOf t, .tup (rows.map rOf)] M Q := by
  simp [phi_derives]
  refine for_inv0 _ (fun pre δ M' => ∃ (x y : Option D) (made : List Dep), δ = [some (.int n), some (.lst (told.map dOf)), some (dOf t), some (.tup (rows.map rOf)), some (.cell M.length), x, y] ∧ M' = M ++ [.lst (made.map dOf)] ∧ run n told pre [] = some made) rows ⟨_, _, [], rfl, rfl, rfl⟩ ?_ ?_
  · rintro pre r post δ M' e ⟨x, y, made, rfl, rfl, hrun⟩
    refine ⟨trivial, fun N hN => ?_⟩
    have hmade := run_ok ht pre [] made (by simp) hrun
    have hml : made.length < 1000 := by
      have h1 := run_len n told pre [] made hrun
      have h2 := congrArg List.length e
      simp at h1 h2
      omega
    have hd : IsL (M ++ [.lst (made.map dOf)]) (.cell M.length) (made.map dOf) := .inr ⟨_, rfl, by simp⟩
    simp
    rw [q_row_tells n told made _ r _ _ h0 h hd (fun x hx => (hmade x hx).1) (hr r (by rw [e]; simp))]
    cases ht2 : tells n told made r with
    | none =>
      have hv : verdict n told t rows = false := by
        unfold verdict
        rw [e, run_app, hrun]
        show (match (match tells n told made r with | none => none | some d => run n told post (made ++ [d])) with | none => false | some made => _) = false
        rw [ht2]
      simp [oOf]
      rw [hv] at q
      exact ret_cut (by simp) q
    | some d =>
      have hnext : run n told (pre ++ [r]) [] = some (made ++ [d]) := by
        rw [run_app, hrun]
        show (match tells n told made r with | none => none | some d => run n told [] (made ++ [d])) = _
        rw [ht2]
        rfl
      have hfin := hN [some (.int n), some (.lst (told.map dOf)), some (dOf t), some (.tup (rows.map rOf)), some (.cell M.length), some (rOf r), some (dOf d)] (M ++ [.lst ((made ++ [d]).map dOf)]) ⟨_, _, _, rfl, rfl, hnext⟩
      simp at hfin
      rcases d with ⟨a, b⟩ | ⟨a, b⟩ | ps
      all_goals
        simp [oOf] at hfin ⊢
        exact ⟨by omega, hfin⟩
  · rintro δ M' ⟨x, y, made, rfl, rfl, hrun⟩
    refine ⟨trivial, ?_⟩
    have hmade := run_ok ht rows [] made (by simp) hrun
    have hv : verdict n told t rows = match made.getLast? with | none => false | some d => eqDep d t := by
      unfold verdict
      rw [hrun]
    simp
    refine ⟨fun hp => ?_, fun hm => ?_⟩
    · have hl2 : made.length - 1 < made.length := by omega
      have hg : made.getLast? = some made[made.length - 1] := by rw [List.getLast?_eq_getElem?, List.getElem?_eq_getElem hl2]
      rw [hv, hg] at q
      rw [List.getElem?_eq_getElem hl2, isS_some]
      exact w_own _ t _ _ (hmade _ (List.getElem_mem hl2)).2 (ret_cut (by simp) q)
    · rw [hv, hm] at q
      exact ret_cut (by simp) q
theorem w_takes (n : Int) (told : List Dep) (t : Dep) (rows : List Row) (M : Sto) (Q : D → Sto → Prop) (h0 : 0 ≤ n) (h : n ≤ 10) (ht : ∀ x ∈ told, Ok n x) (hr : ∀ r ∈ rows, RSm r) (hl : rows.length ≤ 1000)
    (q : Q (.bl (verdict n told t rows)) M) : phi_takes [.int n, .lst (told.map dOf), dOf t, .bl true, .tup [.str (Str.ofString "derived"), .tup (rows.map rOf)]] M Q := by
  simp [phi_takes, ok_lit]
  exact w_derives n told t rows M _ h0 h ht hr hl (by simpa using q)
theorem q_takes_no (n : Int) (told : List Dep) (t : Dep) (x : D) (M : Sto) (Q : D → Sto → Prop) : phi_takes [.int n, .lst (told.map dOf), dOf t, .bl false, .tup [.str (Str.ofString "derived"), x]] M Q = Q (.bl false) M := by
  simp [phi_takes, ok_lit]
def rOpt (o : Option (List Dep)) : D := match o with | none => .non | some made => .lst (made.map lOf)
theorem clD_lOf (m : Nat) (d : Dep) : clD m (lOf d) = true := by
  rcases d with ⟨a, b⟩ | ⟨a, b⟩ | ps
  all_goals simp
theorem w_law_made (n : Int) (told : List Dep) (rows : List Row) (M : Sto) (Q : D → Sto → Prop) (h0 : 0 ≤ n) (h : n ≤ 10) (ht : ∀ x ∈ told, Ok n x) (hr : ∀ r ∈ rows, RSm r) (hl : rows.length ≤ 1000)
    (q : Q (rOpt (run n told rows [])) M) : phi__law_made [.int n, .lst (told.map lOf), .lst (rows.map rOf)] M Q := by
  simp [phi__law_made]
  refine for_inv0 _ (fun pre δ M' => ∃ (x y : Option D) (made : List Dep), δ = [some (.int n), some (.lst (told.map lOf)), some (.lst (rows.map rOf)), some (.cell M.length), x, y] ∧ M' = M ++ [.lst (made.map lOf)] ∧ run n told pre [] = some made) rows ⟨_, _, [], rfl, rfl, rfl⟩ ?_ ?_
  · rintro pre r post δ M' e ⟨x, y, made, rfl, rfl, hrun⟩
    refine ⟨trivial, fun N hN => ?_⟩
    have hmade := run_ok ht pre [] made (by simp) hrun
    have hml : made.length < 1000 := by
      have h1 := run_len n told pre [] made hrun
      have h2 := congrArg List.length e
      simp at h1 h2
      omega
    have hd : IsL (M ++ [.lst (made.map lOf)]) (.cell M.length) (made.map lOf) := .inr ⟨_, rfl, by simp⟩
    simp
    rw [q_law_row n told made _ r _ _ h0 h hd (fun x hx => (hmade x hx).1) (hr r (by rw [e]; simp))]
    cases ht2 : tells n told made r with
    | none =>
      have hv : run n told rows [] = none := by
        rw [e, run_app, hrun]
        show (match tells n told made r with | none => none | some d => run n told post (made ++ [d])) = none
        rw [ht2]
      simp [lopt]
      rw [hv] at q
      exact ret_cut (by simp) q
    | some d =>
      have hnext : run n told (pre ++ [r]) [] = some (made ++ [d]) := by
        rw [run_app, hrun]
        show (match tells n told made r with | none => none | some d => run n told [] (made ++ [d])) = _
        rw [ht2]
        rfl
      have hfin := hN [some (.int n), some (.lst (told.map lOf)), some (.lst (rows.map rOf)), some (.cell M.length), some (rOf r), some (lOf d)] (M ++ [.lst ((made ++ [d]).map lOf)]) ⟨_, _, _, rfl, rfl, hnext⟩
      simp at hfin
      rcases d with ⟨a, b⟩ | ⟨a, b⟩ | ps
      all_goals
        simp [lopt] at hfin ⊢
        exact ⟨by omega, hfin⟩
  · rintro δ M' ⟨x, y, made, rfl, rfl, hrun⟩
    refine ⟨trivial, ?_⟩
    rw [hrun] at q
    simp
    exact ret_cut (by
      rw [clD_lst]
      exact clL_map _ _ _ fun x _ => clD_lOf _ x) q
theorem q_sides_l (c : Str) (a b : List Int) (M : Sto) (K : List (Str × D) → Prop) (hc : c = Str.ofString "Fd" ∨ c = Str.ofString "Mvd") (ha : a.length < 64) (hb : b.length < 64) :
    (phi_Sides___init__ [.cell M.length, .lst (a.map D.int), .lst (b.map D.int)] (M ++ [.ob c []]) fun r M2 => r = .non ∧ ∃ fs, M2 = M ++ [.ob c fs] ∧ clF M.length fs = true ∧ K fs) =
      K [(Str.ofString "left", tupI (sset a)), (Str.ofString "right", tupI (sset b))] := by
  have hc2 : c ∈ [Str.ofString "Fd", Str.ofString "Mvd"] := by rcases hc with rfl | rfl <;> simp
  simp [phi_Sides___init__, q_as_set_l _ _ _ ha, q_as_set_l _ _ _ hb]
  rcases hc with rfl | rfl
  · simp
  · simp
theorem q_law_object (n : Int) (d : Dep) (M : Sto) (Q : D → Sto → Prop) (h : n ≤ 10) (hd : Ok n d) (hj : ∀ ps, d = .jd ps → ps.length < 1000) : phi__law_object [lOf d] M Q = Q (dOf d) M := by
  rcases d with ⟨a, b⟩ | ⟨a, b⟩ | ps
  · have la := hd.1.len
    have lb := hd.2.len
    simp [phi__law_object, ok_lit, q_sides_l _ _ _ _ _ (.inl rfl) (show a.length < 64 by omega) (show b.length < 64 by omega), hd.1.id, hd.2.id]
  · have la := hd.1.len
    have lb := hd.2.len
    simp [phi__law_object, ok_lit, q_sides_l _ _ _ _ _ (.inr rfl) (show a.length < 64 by omega) (show b.length < 64 by omega), hd.1.id, hd.2.id]
  · have hl := hj ps rfl
    simp [phi__law_object, ok_lit]
    rw [compD_map tupI (fun p => D.lst (p.map D.int)) ps trivial (fun x hx k1 => by simp) (by simp; omega)]
    simp [phi_Jd___init__]
    rw [compD_map (fun p => D.lst (p.map D.int)) tupI ps trivial (fun x hx k1 => by
      have hx2 := hd.2 x hx
      have := hx2.len
      simp [q_as_set_l _ _ _ (show x.length < 64 by omega), hx2.id]) (by simp; omega)]
    simp
end Law


set_option linter.all false
set_option autoImplicit false
set_option maxRecDepth 100000
set_option maxHeartbeats 400000
namespace Law
open PySem PySem.Spec PyProof.Rows L2 DL
/-! ### the law's drawing -/
theorem dOf_parts (ps : List (List Int)) : ps.map tupI = ps.map fun p => D.tup (p.map D.int) := rfl
theorem w_is_kept (told : List Dep) (M : Sto) (Q : D → Sto → Prop) (hl : told.length ≤ 1000) (q : Q (.bl true) M) : phi__law_is_kept [.lst (told.map dOf), .lst (told.map lOf)] M Q := by
  simp [phi__law_is_kept]
  refine ⟨by omega, ?_⟩
  rw [dRng_map]
  refine for_inv0 _ (fun pre δ M' => ∃ x : Option D, δ = [some (.lst (told.map dOf)), some (.lst (told.map lOf)), x] ∧ M' = M) _ ⟨_, rfl, rfl⟩ ?_ ?_
  · rintro pre i post δ M' e ⟨x, rfl, rfl⟩
    refine ⟨trivial, fun N hN => ?_⟩
    have hi : i < told.length := by
      have : i ∈ List.range told.length := by rw [e]; simp
      exact List.mem_range.mp this
    have hfin := hN [some (.lst (told.map dOf)), some (.lst (told.map lOf)), some (.int (i : Int))] M' ⟨_, rfl, rfl⟩
    have ed : ∃ d, told[i] = d := ⟨_, rfl⟩
    obtain ⟨d, ed⟩ := ed
    rcases d with ⟨a, b⟩ | ⟨a, b⟩ | ps
    · simp [hi, ed, ok_lit, hfin]
    · simp [hi, ed, ok_lit, hfin]
    · simp [hi, ed, ok_lit, hfin]
  · rintro δ M' ⟨x, rfl, rfl⟩
    refine ⟨trivial, ?_⟩
    simp
    exact q
theorem atI_in {α : Type} {xs : List α} {i : Int} (h0 : 0 ≤ i) (h : i < xs.length) : ∃ v ∈ xs, atI xs i = some v := by
  have : i.toNat < xs.length := by omega
  rw [atI_of h0]
  exact ⟨_, List.getElem_mem this, List.getElem?_eq_getElem this⟩
/-- what is drawn at a place -/
def At (zs : List Int) (i z : Int) : Prop := 0 ≤ i ∧ atI zs i = some z
def len2 (d : Dep) : Prop := ∀ ps, d = .jd ps → ps.length < 1000
theorem w_law_dep (zs : List Int) (p n : Int) (M : Sto) (Q : D → Sto → Prop) (h0 : 0 ≤ n) (h : n ≤ 10) (z z1 : Int) (e1 : atI zs p = some z) (e2 : atI zs (p + 1) = some z1)
    (q : ∀ d, Ok n d → len2 d → Q (lOf d) M) : phi__law_dependency [.lst (zs.map D.int), .int p, .int n] M Q := by
  have hn : n ≤ 16777216 := by omega
  have hr : (rangeI n).length < 64 := by rw [rangeI_len]; omega
  have l1 := (st_lspa (z / 5) n).len
  have s1 := st_lspa (z / 5) n
  have l2 := (st_lspa z1 n).len
  have s2 := st_lspa z1 n
  generalize ha : lspa (z / 5) n = a at *
  generalize hb : lspa z1 n = b at *
  have e0 : ((rangeI n).filter fun k => !decide (k ∈ b)).length + a.length < 64 := by
    have := List.length_filter_le (fun k => !decide (k ∈ b)) (rangeI n)
    rw [rangeI_len] at this
    omega
  have s3 : DL.St n ((rangeI n).filter fun k => !decide (k ∈ b)) := (st_range n).filter _
  simp [-atI_pos, phi__law_dependency, e1, e2, q_law_sparse _ n _ _ h0 h, ha, hb, hn, h0, dRng_int]
  refine ⟨fun _ => q (.fd a b) ⟨s1, s2⟩ (fun _ h => by cases h), fun _ => ⟨fun _ => q (.mvd a b) ⟨s1, s2⟩ (fun _ h => by cases h), fun _ => ?_⟩⟩
  rw [q_law_less _ _ _ _ hr]
  rw [q_law_united _ _ _ _ e0]
  simp
  refine ⟨fun _ => ?_, fun _ => ?_⟩
  · exact q (.jd [b, a, (rangeI n).filter fun k => !decide (k ∈ b)]) ⟨by simp, fun p hp => by
      simp at hp
      rcases hp with rfl | rfl | rfl
      · exact s2
      · exact s1
      · exact s3⟩ (fun ps h => by cases h; simp)
  · exact q (.jd [sset (((rangeI n).filter fun k => !decide (k ∈ b)) ++ a), b]) ⟨by simp, fun p hp => by
      simp at hp
      rcases hp with rfl | rfl
      · exact s3.union s1
      · exact s2⟩ (fun ps h => by cases h; simp)
theorem ok_take {n : Int} {a : List Int} (h : DL.St n a) (k : Nat) : DL.St n (a.take k) := h.sub (List.take_sublist k a)
theorem w_law_told (zs : List Int) (p n m : Int) (M : Sto) (Q : D → Sto → Prop) (h0 : 0 ≤ n) (h : n ≤ 10) (hm0 : 0 ≤ m) (hm : m ≤ 100) (hz : ∀ i, p ≤ i → i < p + 2 * m → ∃ z, atI zs i = some z)
    (q : ∀ told : List Dep, told.length = m.toNat → (∀ x ∈ told, Ok n x ∧ len2 x) → Q (.lst (told.map lOf)) M) : phi__law_told [.lst (zs.map D.int), .int p, .int n, .int m] M Q := by
  have hm2 : m < 4611686018427387904 ∧ -4611686018427387904 ≤ m := by omega
  simp [phi__law_told, hm2]
  rw [dRng_map]
  refine for_inv0 _ (fun pre δ M' => ∃ (x5 x6 x7 x8 : Option D) (told : List Dep), δ = [some (.lst (zs.map D.int)), some (.int p), some (.int n), some (.int m), some (.cell M.length), x5, x6, x7, x8] ∧ M' = M ++ [.lst (told.map lOf)] ∧ told.length = pre.length ∧ ∀ x ∈ told, Ok n x ∧ len2 x) _ ⟨_, _, _, _, [], rfl, rfl, rfl, by simp⟩ ?_ ?_
  · rintro pre i post δ M' e ⟨x5, x6, x7, x8, told, rfl, rfl, hl, hok⟩
    refine ⟨trivial, fun N hN => ?_⟩
    have hpl : pre.length = i := by
      have h1 := congrArg (fun l => l[pre.length]?) e
      have h2 := congrArg List.length e
      simp at h1 h2
      rw [List.getElem?_range (by omega)] at h1
      exact Option.some.inj h1
    have hi : i < m.toNat := by
      have : i ∈ List.range m.toNat := by rw [e]; simp
      exact List.mem_range.mp this
    obtain ⟨z, e1⟩ := hz (p + 2 * i) (by omega) (by omega)
    obtain ⟨z1, e2⟩ := hz (p + 2 * i + 1) (by omega) (by omega)
    have htl : told.length < 16777216 := by omega
    have hfin : ∀ (d : Dep) (y8 : Option D) (w : Int), Ok n d → len2 d → N [some (.lst (zs.map D.int)), some (.int p), some (.int n), some (.int m), some (.cell M.length), some (.int i), some (lOf d), some (.int w), y8] (M ++ [.lst (told.map lOf ++ [lOf d])]) := by
      intro d y8 w hd hd2
      refine hN _ _ ⟨_, _, _, _, told ++ [d], rfl, by simp, by simp [hl], fun x hx => ?_⟩
      rcases List.mem_append.mp hx with hx | hx
      · exact hok x hx
      · rw [List.mem_singleton.mp hx]
        exact ⟨hd, hd2⟩
    simp [-atI_pos]
    refine w_law_dep zs (p + 2 * i) n _ _ h0 h z z1 e1 e2 fun d hd hd2 => ?_
    have hprev : 0 < i → ∃ f, f ∈ told ∧ atI told ((i : Int) - 1) = some f := fun hi0 => by
      obtain ⟨f, hf, ef⟩ := atI_in (xs := told) (i := (i : Int) - 1) (by omega) (by omega)
      exact ⟨f, hf, ef⟩
    have hcut : ∀ y : List Int, DL.cutD (y.map D.int) none (some 1) = (y.take 1).map D.int := fun y => by
      have := cutD_to (y.map D.int) 1
      rw [List.map_take]
      exact this
    generalize hw : z1 / 59049 % 4 = w
    have at2 : ∀ a b c : D, atI [a, b, c] 2 = some c := fun _ _ _ => rfl
    by_cases hi0 : 0 < i
    · have hi1 : i ≠ 0 := by omega
      obtain ⟨f, hf, ef⟩ := hprev hi0
      have hfo := (hok f hf).1
      rcases d with ⟨a, b⟩ | ⟨a, b⟩ | ps
      · have la : a.length < 64 := by have := hd.1.len; omega
        rcases f with ⟨x, y⟩ | ⟨x, y⟩ | qs
        · simp [-atI_pos, -List.map_take, e2, hw, hi0, hi1, at2, ef, ok_lit, htl, hcut]
          rw [q_law_less _ _ _ _ la]
          simp [-List.map_take, htl]
          exact ⟨fun _ => ⟨fun _ => hfin (.fd (a.filter fun k => !decide (k ∈ y)) (y.take 1)) _ _ ⟨hd.1.filter _, ok_take hfo.2 1⟩ (fun _ h => by cases h), fun _ => hfin (.fd y b) _ _ ⟨hfo.2, hd.2⟩ (fun _ h => by cases h)⟩, fun _ => hfin (.fd a b) _ _ hd hd2⟩
        · simp [-atI_pos, -List.map_take, e2, hw, hi0, hi1, at2, ef, ok_lit, htl, hcut]
          rw [q_law_less _ _ _ _ la]
          simp [-List.map_take, htl]
          exact ⟨fun _ => ⟨fun _ => hfin (.fd (a.filter fun k => !decide (k ∈ y)) (y.take 1)) _ _ ⟨hd.1.filter _, ok_take hfo.2 1⟩ (fun _ h => by cases h), fun _ => hfin (.mvd y b) _ _ ⟨hfo.2, hd.2⟩ (fun _ h => by cases h)⟩, fun _ => hfin (.fd a b) _ _ hd hd2⟩
        · simp [-atI_pos, e2, hw, hi0, hi1, at2, ef, ok_lit, htl]
          exact hfin (.fd a b) _ _ hd hd2
      · have la : a.length < 64 := by have := hd.1.len; omega
        rcases f with ⟨x, y⟩ | ⟨x, y⟩ | qs
        · simp [-atI_pos, -List.map_take, e2, hw, hi0, hi1, at2, ef, ok_lit, htl, hcut]
          rw [q_law_less _ _ _ _ la]
          simp [-List.map_take, htl]
          exact ⟨fun _ => ⟨fun _ => hfin (.fd (a.filter fun k => !decide (k ∈ y)) (y.take 1)) _ _ ⟨hd.1.filter _, ok_take hfo.2 1⟩ (fun _ h => by cases h), fun _ => hfin (.fd y b) _ _ ⟨hfo.2, hd.2⟩ (fun _ h => by cases h)⟩, fun _ => hfin (.mvd a b) _ _ hd hd2⟩
        · simp [-atI_pos, -List.map_take, e2, hw, hi0, hi1, at2, ef, ok_lit, htl, hcut]
          rw [q_law_less _ _ _ _ la]
          simp [-List.map_take, htl]
          exact ⟨fun _ => ⟨fun _ => hfin (.fd (a.filter fun k => !decide (k ∈ y)) (y.take 1)) _ _ ⟨hd.1.filter _, ok_take hfo.2 1⟩ (fun _ h => by cases h), fun _ => hfin (.mvd y b) _ _ ⟨hfo.2, hd.2⟩ (fun _ h => by cases h)⟩, fun _ => hfin (.mvd a b) _ _ hd hd2⟩
        · simp [-atI_pos, e2, hw, hi0, hi1, at2, ef, ok_lit, htl]
          exact hfin (.mvd a b) _ _ hd hd2
      · simp [-atI_pos, e2, hw, hi0, hi1, ok_lit, htl]
        exact hfin (.jd ps) _ _ hd hd2
    · simp [-atI_pos, e2, hw, hi0, ok_lit, htl]
      exact fun _ => hfin d _ _ hd hd2
  · rintro δ M' ⟨x5, x6, x7, x8, told, rfl, rfl, hl, hok⟩
    refine ⟨trivial, ?_⟩
    simp
    exact ret_cut (by
      rw [clD_lst]
      exact clL_map _ _ _ fun x _ => clD_lOf _ x) (q told (by simpa using hl) hok)
end Law


set_option linter.all false
set_option autoImplicit false
set_option maxRecDepth 100000
set_option maxHeartbeats 400000
namespace Law
open PySem PySem.Spec PyProof.Rows L2 DL
theorem IsL.app {M : Sto} {d : D} {xs : List D} (h : IsL M d xs) (R : Sto) : IsL (M ++ R) d xs := by
  rcases h with rfl | ⟨k, rfl, h⟩
  · exact .inl rfl
  · refine .inr ⟨k, rfl, ?_⟩
    obtain ⟨hk, _⟩ := List.getElem?_eq_some_iff.mp h
    rw [List.getElem?_append_left hk, h]
def words : List String := ["told", "within", "with", "through", "also", "other", "wide", "beyond", "meets"]
theorem rng_ix {m : Nat} {pre post : List Nat} {i : Nat} (e : List.range m = pre ++ i :: post) : i < m ∧ pre.length = i := by
  have hi : i ∈ List.range m := by rw [e]; simp
  have h1 := congrArg (fun l => l[pre.length]?) e
  have h2 := congrArg List.length e
  simp at h1 h2
  rw [List.getElem?_range (by omega)] at h1
  exact ⟨List.mem_range.mp hi, Option.some.inj h1⟩
theorem w_pairs (s : Str) (K : Int → Int → Row) (hK : ∀ i j, rOf (K i j) = .tup [.str s, .int i, .int j]) (hKr : ∀ i j, Rk 10 (K i j)) (made : List Dep) (d0 d1 d2 d3 d4 : D) (x6 x7 x9 x10 x11 : Option D) (M : Sto) (Q : D → Sto → Prop) (E : DE) (hd3 : IsL M d3 (made.map lOf)) (lm : made.length ≤ 100) (hE : E.nx = fun δ M' => dFrzV 8 (dRet (dVar 8)) { nx := fun x M' => retD M Q D.non M', rt := retD M Q } δ M')
    (q : ∀ rows : List Row, (made ≠ [] → rows ≠ []) → rows.length ≤ 10000 → (∀ r ∈ rows, Rk 10 r) → Q (.lst (rows.map rOf)) M) :
    forD { items := dRng 0 made.length, ok := fun x => True } (Pat.nm 9)
      (dFor (dIt1 (aCons (dCB fLen (aCons (dVar 3) aNil)) aNil)) (Pat.nm 10)
        (dDrop
          (dBM tyLst fAppend (dVar 8) (aCons (dTup (aCons (dVar 5) (aCons (dVar 9) (aCons (dVar 10) aNil)))) aNil))))
      E
      (dRng 0 made.length)
      [some d0, some d1, some d2, some d3, some d4, some (D.str s), x6, x7, some (D.cell (List.length M)), x9, x10, x11]
      (M ++ [MO.lst []]) := by
  rw [dRng_map]
  refine for_inv0 _ (fun pre δ M' => ∃ (y9 y10 : Option D) (rows : List Row), δ = [some d0, some d1, some d2, some d3, some d4, some (D.str s), x6, x7, some (D.cell (List.length M)), y9, y10, x11] ∧ M' = M ++ [.lst (rows.map rOf)] ∧ rows.length = pre.length * made.length ∧ ∀ r ∈ rows, Rk 10 r) _ ⟨_, _, [], rfl, rfl, by simp, by simp⟩ ?_ ?_
  · rintro pre i post δ M' e ⟨y9, y10, rows, rfl, rfl, hl, hr⟩
    refine ⟨trivial, fun N hN => ?_⟩
    obtain ⟨hi, hpl⟩ := rng_ix e
    simp
    rw [q_len (hd3.app _)]
    simp
    refine ⟨by omega, ?_⟩
    rw [dRng_map]
    refine for_inv0 _ (fun pre2 δ M' => ∃ (y10 : Option D) (rows2 : List Row), δ = [some d0, some d1, some d2, some d3, some d4, some (D.str s), x6, x7, some (D.cell (List.length M)), some (.int (i : Int)), y10, x11] ∧ M' = M ++ [.lst (rows2.map rOf)] ∧ rows2.length = pre.length * made.length + pre2.length ∧ ∀ r ∈ rows2, Rk 10 r) _ ⟨_, rows, rfl, rfl, by simpa using hl, hr⟩ ?_ ?_
    · rintro pre2 j post2 δ M' e2 ⟨y10, rows2, rfl, rfl, hl2, hr2⟩
      refine ⟨trivial, fun N2 hN2 => ?_⟩
      obtain ⟨hj, hpl2⟩ := rng_ix e2
      have hb : pre.length * made.length ≤ 100 * 100 := Nat.mul_le_mul (by omega) lm
      simp
      refine ⟨by omega, hN2 _ _ ⟨_, rows2 ++ [K i j], rfl, by simp [hK], by simp [hl2]; omega, fun r hr => ?_⟩⟩
      rcases List.mem_append.mp hr with hr | hr
      · exact hr2 r hr
      · rw [List.mem_singleton.mp hr]
        exact hKr _ _
    · rintro δ M' ⟨y10, rows2, rfl, rfl, hl2, hr2⟩
      refine ⟨trivial, hN _ _ ⟨_, _, rows2, rfl, rfl, ?_, hr2⟩⟩
      simp at hl2
      rw [hl2, List.length_append, List.length_singleton, Nat.succ_mul]
  · rintro δ M' ⟨y9, y10, rows, rfl, rfl, hl, hr⟩
    refine ⟨trivial, ?_⟩
    rw [hE]
    simp at hl
    have hb : made.length * made.length ≤ 100 * 100 := Nat.mul_le_mul lm lm
    simp
    refine ret_cut ?_ (q rows (fun hm e => by
      have hme := List.length_pos_iff.mpr hm
      have hpos : 0 < made.length * made.length := Nat.mul_pos hme hme
      subst e
      simp at hl
      omega) (by omega) hr)
    rw [clD_lst]
    refine clL_map _ _ _ fun r _ => ?_
    cases r
    all_goals simp [rOf]
theorem w_tried (zs : List Int) (p n : Int) (told made : List Dep) (s : String) (M : Sto) (Q : D → Sto → Prop) (h0 : 0 ≤ n) (h : n ≤ 10) (z1 : Int) (e1 : atI zs (p + 1) = some z1) (hs : s ∈ words) (d3 : D) (hd3 : IsL M d3 (made.map lOf)) (lm : made.length ≤ 100) (lt : told.length ≤ 100)
    (q : ∀ rows : List Row, (told ≠ [] → made ≠ [] → rows ≠ []) → rows.length ≤ 10000 → (∀ r ∈ rows, Rk 10 r) → (s = "within" → rows = [.within (lspa z1 n) ((lspa z1 n).filter fun k => decide (k ∈ lset (z1 / 977) n))]) → Q (.lst (rows.map rOf)) M) : phi__law_tried [.lst (zs.map D.int), .int p, .int n, d3, .lst (told.map lOf), .str (Str.ofString s)] M Q := by
  have l1 := (st_lspa z1 n).len
  have lc : (lspa z1 n).length < 64 := by omega
  have hlm : (made.length : Int) < 4611686018427387904 ∧ -4611686018427387904 ≤ (made.length : Int) := by omega
  have hlt : (told.length : Int) < 4611686018427387904 ∧ -4611686018427387904 ≤ (told.length : Int) := by omega
  have ls : ((lspa z1 n).filter fun k => decide (k ∈ lset (z1 / 977) n)).length ≤ 10 := Nat.le_trans (List.length_filter_le _ _) (by omega)
  have lm2 : made.length < 4611686018427387904 := by omega
  have lt2 : told.length < 4611686018427387904 := by omega
  simp [words] at hs
  generalize hc : lspa z1 n = c at *
  rcases hs with rfl | rfl | rfl | rfl | rfl | rfl | rfl | rfl | rfl
  · simp [-atI_pos, phi__law_tried, e1, q_law_sparse _ n _ _ h0 h, hc, q_law_set _ n _ _ h0 h]
    rw [q_law_met _ _ _ _ lc]
    simp [ok_lit, lt2]
    rw [dRng_map, compD_map (fun (i : Nat) => D.int (0 + (i : Int))) (fun (i : Nat) => rOf (.told i)) (List.range told.length) trivial (fun x hx k1 => by simp [rOf]) (by simp; omega)]
    have := q ((List.range told.length).map fun (i : Nat) => Row.told (i : Int)) (fun a b => by simpa using a) (by simp; omega) (by simp [Rk]) (by simp)
    rw [List.map_map] at this
    rw [retD_same]
    exact ⟨by omega, this⟩
  · simp [-atI_pos, phi__law_tried, e1, q_law_sparse _ n _ _ h0 h, hc, q_law_set _ n _ _ h0 h]
    rw [q_law_met _ _ _ _ lc]
    simp [ok_lit]
    exact q [.within c (c.filter fun k => decide (k ∈ lset (z1 / 977) n))] (by simp) (by simp) (by simp [Rk]; exact ⟨by omega, ls⟩) (by simp)
  · simp [-atI_pos, phi__law_tried, e1, q_law_sparse _ n _ _ h0 h, hc, q_law_set _ n _ _ h0 h]
    rw [q_law_met _ _ _ _ lc]
    simp [ok_lit]
    rw [q_len hd3]
    simp [lm2]
    rw [dRng_map, compD_map (fun (i : Nat) => D.int (0 + (i : Int))) (fun (i : Nat) => rOf (.wth i c)) (List.range made.length) trivial (fun x hx k1 => by simp [rOf]) (by simp; omega)]
    have := q ((List.range made.length).map fun (i : Nat) => Row.wth (i : Int) c) (fun a b => by simpa using b) (by simp; omega) (by simp [Rk]; omega) (by simp)
    rw [List.map_map] at this
    rw [retD_same]
    exact ⟨by omega, this⟩
  · simp [-atI_pos, phi__law_tried, e1, q_law_sparse _ n _ _ h0 h, hc, q_law_set _ n _ _ h0 h]
    rw [q_law_met _ _ _ _ lc]
    simp [ok_lit]
    rw [q_len (hd3.app _)]
    simp
    refine ⟨by omega, ?_⟩
    exact w_pairs (Str.ofString "through") Row.thr (fun i j => rfl) (fun i j => trivial) made _ _ _ d3 _ _ _ _ _ _ M Q _ hd3 lm rfl (fun rows a b c => q rows (fun _ => a) b c (by simp))
  · simp [-atI_pos, phi__law_tried, e1, q_law_sparse _ n _ _ h0 h, hc, q_law_set _ n _ _ h0 h]
    rw [q_law_met _ _ _ _ lc]
    simp [ok_lit]
    rw [q_len hd3]
    simp [lm2]
    rw [dRng_map, compD_map (fun (i : Nat) => D.int (0 + (i : Int))) (fun (i : Nat) => rOf (.also i)) (List.range made.length) trivial (fun x hx k1 => by simp [rOf]) (by simp; omega)]
    have := q ((List.range made.length).map fun (i : Nat) => Row.also (i : Int)) (fun a b => by simpa using b) (by simp; omega) (by simp [Rk]) (by simp)
    rw [List.map_map] at this
    rw [retD_same]
    exact ⟨by omega, this⟩
  · simp [-atI_pos, phi__law_tried, e1, q_law_sparse _ n _ _ h0 h, hc, q_law_set _ n _ _ h0 h]
    rw [q_law_met _ _ _ _ lc]
    simp [ok_lit]
    rw [q_len hd3]
    simp [lm2]
    rw [dRng_map, compD_map (fun (i : Nat) => D.int (0 + (i : Int))) (fun (i : Nat) => rOf (.other i)) (List.range made.length) trivial (fun x hx k1 => by simp [rOf]) (by simp; omega)]
    have := q ((List.range made.length).map fun (i : Nat) => Row.other (i : Int)) (fun a b => by simpa using b) (by simp; omega) (by simp [Rk]) (by simp)
    rw [List.map_map] at this
    rw [retD_same]
    exact ⟨by omega, this⟩
  · simp [-atI_pos, phi__law_tried, e1, q_law_sparse _ n _ _ h0 h, hc, q_law_set _ n _ _ h0 h]
    rw [q_law_met _ _ _ _ lc]
    simp [ok_lit]
    rw [q_len hd3]
    simp [lm2]
    rw [dRng_map, compD_map (fun (i : Nat) => D.int (0 + (i : Int))) (fun (i : Nat) => rOf (.wide i c (c.filter fun k => decide (k ∈ lset (z1 / 977) n)))) (List.range made.length) trivial (fun x hx k1 => by simp [rOf]) (by simp; omega)]
    have := q ((List.range made.length).map fun (i : Nat) => Row.wide (i : Int) c (c.filter fun k => decide (k ∈ lset (z1 / 977) n))) (fun a b => by simpa using b) (by simp; omega) (by simp only [List.mem_map]; rintro r ⟨i, _, rfl⟩; exact ⟨by omega, ls⟩) (by simp)
    rw [List.map_map] at this
    rw [retD_same]
    exact ⟨by omega, this⟩
  · simp [-atI_pos, phi__law_tried, e1, q_law_sparse _ n _ _ h0 h, hc, q_law_set _ n _ _ h0 h]
    rw [q_law_met _ _ _ _ lc]
    simp [ok_lit]
    rw [q_len (hd3.app _)]
    simp
    refine ⟨by omega, ?_⟩
    exact w_pairs (Str.ofString "beyond") Row.beyond (fun i j => rfl) (fun i j => trivial) made _ _ _ d3 _ _ _ _ _ _ M Q _ hd3 lm rfl (fun rows a b c => q rows (fun _ => a) b c (by simp))
  · simp [-atI_pos, phi__law_tried, e1, q_law_sparse _ n _ _ h0 h, hc, q_law_set _ n _ _ h0 h]
    rw [q_law_met _ _ _ _ lc]
    simp [ok_lit]
    rw [q_len (hd3.app _)]
    simp
    refine ⟨by omega, ?_⟩
    exact w_pairs (Str.ofString "meets") Row.meets (fun i j => rfl) (fun i j => trivial) made _ _ _ d3 _ _ _ _ _ _ M Q _ hd3 lm rfl (fun rows a b c => q rows (fun _ => a) b c (by simp))
theorem q_law_within (n : Int) (c x : List Int) (told made : List Dep) (hc : DL.St n c) : (tells n told made (.within c (c.filter fun k => decide (k ∈ x)))).isSome = true := by
  have e1 : isSt n c = true := isSt_iff.mpr hc
  have e2 : isSt n (c.filter fun k => decide (k ∈ x)) = true := isSt_iff.mpr (hc.filter _)
  have e3 : within (c.filter fun k => decide (k ∈ x)) c = true := within_iff.mpr fun k hk => (List.mem_filter.mp hk).1
  show (if (isSt n c && isSt n (c.filter fun k => decide (k ∈ x)) && within (c.filter fun k => decide (k ∈ x)) c) = true then some (Dep.fd c _) else none).isSome = true
  rw [e1, e2, e3]
  rfl
theorem lopt_non (o : Option Dep) (M : Sto) (Q : D → Sto → Prop) : fNotN (lopt o) .non M Q = Q (.bl o.isSome) M := by
  rcases o with _ | ⟨a, b⟩ | ⟨a, b⟩ | ps
  all_goals simp [lopt]
theorem words_at (i : Int) (h0 : 0 ≤ i) (h : i < 9) : ∃ s, s ∈ words ∧ atI [D.str (Str.ofString "told"), D.str (Str.ofString "within"), D.str (Str.ofString "with"), D.str (Str.ofString "through"), D.str (Str.ofString "also"), D.str (Str.ofString "other"), D.str (Str.ofString "wide"), D.str (Str.ofString "beyond"), D.str (Str.ofString "meets")] i = some (D.str (Str.ofString s)) := by
  obtain ⟨s, hs, e⟩ := atI_in (xs := words) (i := i) h0 (by simpa [words] using h)
  refine ⟨s, hs, ?_⟩
  have := congrArg (Option.map fun s => D.str (Str.ofString s)) e
  rw [← atI_map] at this
  exact this
theorem w_next (zs : List Int) (p n : Int) (told made : List Dep) (M : Sto) (Q : D → Sto → Prop) (h0 : 0 ≤ n) (h : n ≤ 10) (z z1 : Int) (e0 : atI zs p = some z) (e1 : atI zs (p + 1) = some z1) (d3 : D) (hd3 : IsL M d3 (made.map lOf)) (lm : made.length ≤ 100) (lt : told.length ≤ 100)
    (hok : ∀ x ∈ made, Ok n x)
    (q : ∀ r : Row, Rk 10 r → (tells n told made r).isSome = true → Q (rOf r) M) : phi__law_next [.lst (zs.map D.int), .int p, .int n, .lst (told.map lOf), d3] M Q := by
  obtain ⟨s, hs, es⟩ := words_at (z % 9) (Int.emod_nonneg _ (by decide)) (Int.emod_lt_of_pos _ (by decide))
  simp [-atI_pos, phi__law_next, e0]
  rw [es, isS_some]
  refine w_tried zs p n told made s M _ h0 h z1 e1 hs d3 hd3 lm lt fun rows hne hrl hr _ => ?_
  simp [-atI_pos]
  rw [compD_eq rOf rOf (fun r => (tells n told made r).isSome) trivial rows [] (fun r hr1 k1 k0 => by
    simp
    rw [q_law_row n told made _ r _ _ h0 h hd3 hok (Rk.mono (hr r hr1) (by decide))]
    rw [lopt_non]
    simp) (by simp; omega)]
  have hpick : ∀ rs : List Row, rs ≠ [] → (∀ r ∈ rs, Rk 10 r ∧ (tells n told made r).isSome = true) → ∃ r, Rk 10 r ∧ (tells n told made r).isSome = true ∧ atI rs (z / 9 % (rs.length : Int)) = some r := fun rs h1 h2 => by
    obtain ⟨r, hr, er⟩ := atI_mod (xs := rs) (z / 9) (List.length_pos_iff.mpr h1)
    exact ⟨r, (h2 r hr).1, (h2 r hr).2, er⟩
  by_cases hf : rows.filter (fun r => (tells n told made r).isSome) = []
  · rw [hf]
    simp [-atI_pos]
    refine w_tried zs p n told made "within" M _ h0 h z1 e1 (by simp [words]) d3 hd3 lm lt fun rows2 hne2 hrl2 hr2 hw => ?_
    have hne2 : rows2 ≠ [] := by rw [hw rfl]; simp
    obtain ⟨r, a, b, c⟩ := hpick rows2 hne2 (fun r hr3 => ⟨hr2 r hr3, by
      rw [hw rfl] at hr3
      rw [List.mem_singleton.mp hr3]
      exact q_law_within n _ _ told made (st_lspa z1 n)⟩)
    have hl2 := List.length_pos_iff.mpr hne2
    simp [-atI_pos, e0]
    exact ⟨hl2, _, c, q r a b⟩
  · generalize hrs : rows.filter (fun r => (tells n told made r).isSome) = rs at hf
    obtain ⟨r, a, b, c⟩ := hpick rs hf (fun r hr3 => by
      rw [← hrs] at hr3
      have := List.mem_filter.mp hr3
      exact ⟨hr r this.1, this.2⟩)
    have hl2 := List.length_pos_iff.mpr hf
    simp [-atI_pos, e0]
    exact ⟨fun e => absurd e hf, fun _ => ⟨hl2, _, c, q r a b⟩⟩
end Law


set_option linter.all false
set_option autoImplicit false
set_option maxRecDepth 100000
set_option maxHeartbeats 400000
namespace Law
open PySem PySem.Spec PyProof.Rows L2 DL
theorem q_eq_lOf (d t : Dep) (M : Sto) (Q : D → Sto → Prop) : fEq (lOf d) (lOf t) M Q = Q (.bl (eqDep d t)) M := by
  rcases d with ⟨a, b⟩ | ⟨a, b⟩ | ps
  · rcases t with ⟨c, e⟩ | ⟨c, e⟩ | qs
    all_goals simp [eqDep, ok_lit]
  · rcases t with ⟨c, e⟩ | ⟨c, e⟩ | qs
    all_goals simp [eqDep, ok_lit]
  · rcases t with ⟨c, e⟩ | ⟨c, e⟩ | qs
    all_goals simp [eqDep, ok_lit]
theorem lOf_notN (d : Dep) (M : Sto) (Q : D → Sto → Prop) : fNotN (lOf d) .non M Q = Q (.bl true) M := by
  rcases d with ⟨a, b⟩ | ⟨a, b⟩ | ps
  all_goals simp
def isJ (told : List Dep) (i : Nat) : Bool := match told[i]? with
  | some (.jd _) => true
  | _ => false
def gt (told : List Dep) (i : Nat) : Dep := told.getD i (.jd [])
theorem gt_at {told : List Dep} {i : Nat} (h : i < told.length) : told[i]? = some (gt told i) := by
  unfold gt
  rw [List.getD_eq_getElem?_getD, List.getElem?_eq_getElem h]
  rfl
theorem run_told {n : Int} {told : List Dep} : ∀ (is : List Nat) (made : List Dep), (∀ i ∈ is, i < told.length ∧ isJ told i = false) → run n told (is.map fun (i : Nat) => Row.told (i : Int)) made = some (made ++ is.map (gt told))
  | [], made, _ => by simp [run]
  | i :: is, made, h => by
    obtain ⟨hi, hj⟩ := h i List.mem_cons_self
    have e : tells n told made (.told (i : Int)) = some (gt told i) := by
      show noJ (ear told (i : Int)) = _
      unfold ear
      rw [if_pos (by omega), Int.toNat_natCast]
      unfold isJ at hj
      rw [gt_at hi] at hj ⊢
      rcases hd : gt told i with ⟨a, b⟩ | ⟨a, b⟩ | ps
      · rfl
      · rfl
      · rw [hd] at hj
        cases hj
    have ih := run_told (n := n) is (made ++ [gt told i]) fun j hj => h j (List.mem_cons_of_mem _ hj)
    show (match tells n told made (.told (i : Int)) with | none => none | some d => run n told (is.map fun (i : Nat) => Row.told (i : Int)) (made ++ [d])) = _
    rw [e]
    refine Eq.trans ih ?_
    simp
theorem clD_rOf (m : Nat) (r : Row) : clD m (rOf r) = true := by
  cases r
  all_goals simp [rOf]
theorem w_derivation (zs : List Int) (p n sz : Int) (told : List Dep) (M : Sto) (Q : D → Sto → Prop) (h0 : 0 ≤ n) (h : n ≤ 10) (ht : ∀ x ∈ told, Ok n x ∧ len2 x) (lt : told.length ≤ 10) (s0 : 1 ≤ sz) (s1 : sz ≤ 10) (hz : ∀ i, p ≤ i → i < p + 2 * sz → ∃ z, atI zs i = some z)
    (q : ∀ (rows : List Row) (made : List Dep), (∀ r ∈ rows, Rk 10 r) → rows.length ≤ 20 → rows ≠ [] → run n told rows [] = some made → Q (.lst (rows.map rOf)) M) : phi__law_derivation [.lst (zs.map D.int), .int p, .int n, .lst (told.map lOf), .int sz] M Q := by
  have hsz : sz < 4611686018427387904 ∧ -4611686018427387904 ≤ sz := by omega
  have hlt : told.length < 4611686018427387904 := by omega
  simp [phi__law_derivation]
  refine ⟨by omega, ?_⟩
  rw [dRng_map, compD_eq (fun (i : Nat) => D.int (0 + (i : Int))) (fun (i : Nat) => rOf (.told (i : Int))) (fun i => !isJ told i) trivial (List.range told.length) [] (fun i hi k1 k0 => by
    have hi2 : i < told.length := List.mem_range.mp hi
    have ed : ∃ d, told[i] = d := ⟨_, rfl⟩
    obtain ⟨d, ed⟩ := ed
    rcases d with ⟨a, b⟩ | ⟨a, b⟩ | ps
    all_goals simp [hi2, ed, ok_lit, isJ, rOf]) (by simp; omega)]
  generalize hbase : ((List.range told.length).filter fun i => !isJ told i) = is
  have his : ∀ i ∈ is, i < told.length ∧ isJ told i = false := fun i hi => by
    rw [← hbase] at hi
    have h := List.mem_filter.mp hi
    have h1 := List.mem_range.mp h.1
    exact ⟨h1, by simpa using h.2⟩
  have hil : is.length ≤ 10 := by
    rw [← hbase]
    have := List.length_filter_le (fun i => !isJ told i) (List.range told.length)
    simp at this ⊢
    omega
  simp
  rw [compD_map (fun (i : Nat) => rOf (.told (i : Int))) (fun i => lOf (gt told i)) is (by simp) (fun i hi k1 => by
    have e := gt_at (his i hi).1
    have hi2 := (his i hi).1
    have e2 : told[i] = gt told i := by
      rw [List.getElem?_eq_getElem hi2] at e
      exact Option.some.inj e
    simp [rOf, e2, hi2]) (by simp; omega)]
  simp [hsz]
  rw [dRng_map]
  have hrun0 := run_told (n := n) is [] his
  refine for_inv0 _ (fun pre δ M' => ∃ (x7 x8 : Option D) (rows : List Row) (made : List Dep), δ = [some (.lst (zs.map D.int)), some (.int p), some (.int n), some (.lst (told.map lOf)), some (.int sz), some (.cell M.length), some (.cell (M.length + 1)), x7, x8] ∧ M' = M ++ [.lst (rows.map rOf), .lst (made.map lOf)] ∧ run n told rows [] = some made ∧ rows.length = is.length + pre.length ∧ ∀ r ∈ rows, Rk 10 r) _
    ⟨_, _, is.map fun (i : Nat) => Row.told (i : Int), is.map (gt told), rfl, by simp, by simpa using hrun0, by simp, by simp [Rk]⟩ ?_ ?_
  · rintro pre k post δ M' e ⟨x7, x8, rows, made, rfl, rfl, hrun, hl, hr⟩
    refine ⟨trivial, fun N hN => ?_⟩
    obtain ⟨hk, hpl⟩ := rng_ix e
    obtain ⟨z, e1⟩ := hz (p + 2 * k) (by omega) (by omega)
    obtain ⟨z1, e2⟩ := hz (p + 2 * k + 1) (by omega) (by omega)
    have hmade := run_ok (fun x hx => (ht x hx).1) rows [] made (by simp) hrun
    have hml := run_len n told rows [] made hrun
    have hml : made.length = rows.length := by simpa using hml
    have hd3 : IsL (M ++ [.lst (rows.map rOf), .lst (made.map lOf)]) (.cell (M.length + 1)) (made.map lOf) := .inr ⟨_, rfl, by simp⟩
    simp [-atI_pos]
    refine w_next zs (p + 2 * k) n told made _ _ h0 h z z1 e1 e2 _ hd3 (by omega) (by omega) (fun x hx => (hmade x hx).1) fun r hr1 hr2 => ?_
    simp
    rw [q_law_row n told made _ r _ _ h0 h hd3 (fun x hx => (hmade x hx).1) (Rk.mono hr1 (by decide))]
    obtain ⟨d, hd⟩ := Option.isSome_iff_exists.mp hr2
    rw [hd]
    simp [lopt]
    have hnext : run n told (rows ++ [r]) [] = some (made ++ [d]) := by
      rw [run_app, hrun]
      show (match tells n told made r with | none => none | some d => run n told [] (made ++ [d])) = _
      rw [hd]
      rfl
    refine ⟨by omega, by omega, hN _ _ ⟨_, _, rows ++ [r], made ++ [d], rfl, by simp, hnext, by simp [hl]; omega, fun x hx => ?_⟩⟩
    rcases List.mem_append.mp hx with hx | hx
    · exact hr x hx
    · rw [List.mem_singleton.mp hx]
      exact hr1
  · rintro δ M' ⟨x7, x8, rows, made, rfl, rfl, hrun, hl, hr⟩
    refine ⟨trivial, ?_⟩
    simp at hl
    simp
    refine ret_cut ?_ (q rows made hr (by omega) (fun e => by subst e; simp at hl; omega) hrun)
    rw [clD_lst]
    exact clL_map _ _ _ fun r _ => clD_rOf _ r
end Law


set_option linter.all false
set_option autoImplicit false
set_option maxRecDepth 100000
set_option maxHeartbeats 400000
namespace Law
open PySem PySem.Spec PyProof.Rows L2 DL
theorem spec_numbers (ns : List Int) (c : Int) (M : Sto) (Q : D → Sto → Prop) (hc : 0 ≤ c) (hc2 : c < 1000)
    (q : ∀ zs : List Int, zs.length = c.toNat → (∀ z ∈ zs, 0 ≤ z ∧ z < 1000000) → Q (.lst (zs.map D.int)) M) : phi__law_numbers [.frz (ns.map D.int), .int c] M Q := by
  have hl : ∀ (r : Int) (b : Bool), forD { items := dRng 0 c.toNat, ok := fun x => True } (Pat.nm 5)
              (dIf (dAnd (dTst (dVar 3)) (dTst (dOp fGt (dVar 2) (dC (D.int 0)))))
                (dSeq (dDrop (dBM tyLst fAppend (dVar 4) (aCons (dOp fMod (dVar 2) (dC (D.int 1000000))) aNil)))
                  (dSet 2 (dOp fDiv (dVar 2) (dC (D.int 1000000)))))
                (dSeq (dSet 6 (dC (D.int 13)))
                  (dSeq
                    (dIf (dTst (dOp fGt (dCB fLen (aCons (dVar 0) aNil)) (dC (D.int 0))))
                      (dSet 6
                        (dOp fAdd (dOp fIx (dVar 0) (dOp fMod (dVar 5) (dCB fLen (aCons (dVar 0) aNil))))
                          (dOp fMul (dC (D.int 7919)) (dVar 5))))
                      dNext)
                    (dDrop
                      (dBM tyLst fAppend (dVar 4)
                        (aCons
                          (dOp fMod
                            (dOp fMod
                              (dOp fMul (dOp fMod (dOp fMul (dVar 6) (dC (D.int 48271))) (dC (D.int 2147483647)))
                                (dC (D.int 69621)))
                              (dC (D.int 2147483629)))
                            (dC (D.int 1000000)))
                          aNil))))))
              { nx := dFrzV 4 (dRet (dVar 4)) { nx := fun x M' => retD M Q D.non M', rt := retD M Q }, rt := retD M Q }
              (dRng 0 c.toNat)
              [some (D.frz (List.map D.int ns)), some (D.int c), some (D.int r), some (D.bl b),
                some (D.cell (List.length M)), none, none]
              (M ++ [MO.lst []]) := by
    intro r b
    rw [dRng_map]
    refine for_inv0 _ (fun pre δ M' => ∃ (zs : List Int) (r : Int) (x y : Option D), δ = [some (D.frz (List.map D.int ns)), some (D.int c), some (D.int r), some (D.bl b),
                some (D.cell (List.length M)), x, y] ∧ M' = M ++ [MO.lst (zs.map D.int)] ∧ zs.length = pre.length ∧ ∀ z ∈ zs, 0 ≤ z ∧ z < 1000000) _ ⟨[], r, none, none, rfl, rfl, rfl, by simp⟩ ?_ ?_
    · rintro pre x post δ M' e ⟨zs, r', x', y', rfl, rfl, hzl, hzs⟩
      refine ⟨trivial, fun N hN => ?_⟩
      have hx : pre.length < c.toNat := by
        have := congrArg List.length e
        simp at this
        omega
      have hap : ∀ (v : Int) (r2 : Int) (a b2 : Option D), 0 ≤ v → v < 1000000 → N [some (D.frz (List.map D.int ns)), some (D.int c), some (D.int r2), some (D.bl b),
                some (D.cell (List.length M)), a, b2] (M ++ [MO.lst (zs.map D.int ++ [D.int v])]) := by
        intro v r2 a b2 h1 h2
        refine hN _ _ ⟨zs ++ [v], r2, a, b2, rfl, by simp, by simp [hzl], ?_⟩
        intro z hz
        rcases List.mem_append.mp hz with h | h
        · exact hzs z h
        · simp at h
          omega
      have hsz : zs.length < sizeLine := by
        have : (1000 : Nat) ≤ sizeLine := by decide
        omega
      have h1 : ∀ v : Int, 0 ≤ v % 1000000 ∧ v % 1000000 < 1000000 := fun v => ⟨Int.emod_nonneg _ (by decide), Int.emod_lt_of_pos _ (by decide)⟩
      have hsz2 : zs.length < 16777216 := hsz
      have hd : (0 < ns.length → 0 < ns.length ∧ ∃ a, atI ns (↑x % ↑ns.length) = some a ∧ zs.length < 16777216 ∧ N [some (D.frz (List.map D.int ns)), some (D.int c), some (D.int r'), some (D.bl b), some (D.cell (List.length M)), some (D.int ↑x), some (D.int (a + 7919 * ↑x))] (M ++ [MO.lst (List.map D.int zs ++ [D.int ((a + 7919 * ↑x) * 48271 % 2147483647 * 69621 % 2147483629 % 1000000)])])) ∧
          (ns = [] → zs.length < 16777216 ∧ N [some (D.frz (List.map D.int ns)), some (D.int c), some (D.int r'), some (D.bl b), some (D.cell (List.length M)), some (D.int ↑x), some (D.int 13)] (M ++ [MO.lst (List.map D.int zs ++ [D.int 106203])])) := by
        refine ⟨fun h => ?_, fun _ => ⟨hsz2, hap _ _ _ _ (by decide) (by decide)⟩⟩
        obtain ⟨a, _, ha⟩ := atI_mod (x : Int) h
        exact ⟨h, a, ha, hsz2, hap _ _ _ _ (h1 _).1 (h1 _).2⟩
      simp [hsz2] at hd ⊢
      exact ⟨fun _ => ⟨fun _ => hap _ _ _ _ (h1 _).1 (h1 _).2, fun _ => hd⟩, fun _ => hd⟩
    · rintro δ M' ⟨zs, r', x', y', rfl, rfl, hzl, hzs⟩
      simp
      exact ret_cut (by simp) (q _ (by simpa using hzl) hzs)
  have hc3 : c < 4611686018427387904 ∧ -4611686018427387904 ≤ c := by omega
  cases ns with
  | nil =>
    simp [phi__law_numbers, hc3]
    exact hl _ _
  | cons n ns =>
    simp [phi__law_numbers, hc3]
    exact hl _ _
theorem run_pre {n : Int} {told : List Dep} : ∀ (p : List Row) (made out : List Dep), run n told p made = some out → ∃ l, out = made ++ l
  | [], made, out, h => by
    cases h
    exact ⟨[], by simp⟩
  | r :: p, made, out, h => by
    have h : (match tells n told made r with | none => none | some d => run n told p (made ++ [d])) = some out := h
    cases e : tells n told made r with
    | none =>
      rw [e] at h
      cases h
    | some d =>
      rw [e] at h
      obtain ⟨l, hl⟩ := run_pre p _ out h
      exact ⟨d :: l, by rw [hl]; simp⟩
theorem run_take {n : Int} {told made : List Dep} {rows : List Row} (k : Nat) (h : run n told rows [] = some made) : run n told (rows.take k) [] = some (made.take k) := by
  have e : rows.take k ++ rows.drop k = rows := List.take_append_drop k rows
  rw [← e, run_app] at h
  cases h1 : run n told (rows.take k) [] with
  | none =>
    rw [h1] at h
    cases h
  | some m1 =>
    rw [h1] at h
    have h : run n told (rows.drop k) m1 = some made := h
    obtain ⟨l, hl⟩ := run_pre _ _ _ h
    have h2 := run_len n told _ _ _ h1
    have h3 := run_len n told _ _ _ h
    simp at h2 h3
    rw [hl]
    congr 1
    by_cases hk : k ≤ rows.length
    · have : m1.length = k := by omega
      rw [← this, List.take_left]
    · have hl0 : l = [] := by
        have := congrArg List.length hl
        simp at this
        exact List.eq_nil_of_length_eq_zero (by omega)
      rw [hl0, List.append_nil, List.take_of_length_le (by omega)]
theorem eqDep_refl (d : Dep) : eqDep d d = true := by
  rcases d with ⟨a, b⟩ | ⟨a, b⟩ | ps
  all_goals simp [eqDep]
theorem eqDep_symm (d e : Dep) : eqDep d e = eqDep e d := by
  rcases d with ⟨a, b⟩ | ⟨a, b⟩ | ps
  all_goals
    rcases e with ⟨c, f⟩ | ⟨c, f⟩ | qs
    all_goals simp [eqDep, eq_comm]
theorem len2_of {n : Int} {d : Dep} (h : Ok2 n d) : len2 d := fun ps e => by
  subst e
  exact h.2.elim
def flip : Dep → Dep
  | .fd a b => .mvd a b
  | .mvd a b => .fd a b
  | d => d
theorem q_flip {n : Int} {d : Dep} (h : Ok2 n d) : Ok n (flip d) ∧ len2 (flip d) ∧ eqDep d (flip d) = false := by
  rcases d with ⟨a, b⟩ | ⟨a, b⟩ | ps
  · exact ⟨h.1, (fun _ e => nomatch e), rfl⟩
  · exact ⟨h.1, (fun _ e => nomatch e), rfl⟩
  · exact h.2.elim
theorem law_holds : ∀ ns : List Int, ns.length ≤ 63 → phi_law [.frz (ns.map D.int)] [] fun r _ => r = .bl true := by
  intro ns hns
  simp [phi_law]
  refine spec_numbers ns 18 _ _ (by decide) (by decide) fun zs hzl hz => ?_
  have hzl : zs.length = 18 := hzl
  have hat : ∀ i : Int, 0 ≤ i → i < 18 → ∃ v, atI zs i = some v := fun i h0 h1 => by
    obtain ⟨v, _, e⟩ := atI_in (xs := zs) h0 (by omega)
    exact ⟨v, e⟩
  obtain ⟨z0, e0⟩ := hat 0 (by decide) (by decide)
  obtain ⟨z7, e7⟩ := hat 7 (by decide) (by decide)
  obtain ⟨n, en, n0, n1⟩ : ∃ n : Int, atI [D.int 1, D.int 2, D.int 3, D.int 4, D.int 5, D.int 6, D.int 3, D.int 4, D.int 5, D.int 10] (z0 % 10) = some (.int n) ∧ 0 < n ∧ n ≤ 10 := by
    obtain ⟨v, hv, e⟩ := atI_in (xs := [1, 2, 3, 4, 5, 6, 3, 4, 5, (10 : Int)]) (i := z0 % 10) (Int.emod_nonneg _ (by decide)) (by have := Int.emod_lt_of_pos z0 (b := 10) (by decide); simpa using this)
    have := congrArg (Option.map D.int) e
    rw [← atI_map] at this
    simp at hv
    exact ⟨v, this, by omega, by omega⟩
  have n0' : 0 ≤ n := by omega
  rw [atI_zero] at e0
  simp [-atI_pos, e0]
  rw [en, isS_some]
  have hm0 : 0 ≤ z0 / 10 % 4 := Int.emod_nonneg _ (by decide)
  have hm1 : z0 / 10 % 4 < 4 := Int.emod_lt_of_pos _ (by decide)
  have hs0 : 0 ≤ z7 % 5 := Int.emod_nonneg _ (by decide)
  have hs1 : z7 % 5 < 5 := Int.emod_lt_of_pos _ (by decide)
  refine w_law_told zs 1 n (z0 / 10 % 4) _ _ n0' n1 hm0 (by omega) (fun i h0 h1 => hat i (by omega) (by omega)) fun told htl hto => ?_
  have htl2 : told.length ≤ 3 := by omega
  rw [e7, isS_some]
  refine w_derivation zs 8 n (z7 % 5 + 1) told _ _ n0' n1 hto (by omega) (by omega) (by omega) (fun i h0 h1 => hat i (by omega) (by omega)) fun rows made hr hrl hrne hrun => ?_
  have hro : ∀ r ∈ rows, RSm r := fun r h => Rk.mono (hr r h) (by decide)
  refine w_law_made n told rows _ _ n0' n1 (fun x hx => (hto x hx).1) hro (by omega) ?_
  rw [hrun]
  have hmo := run_ok (fun x hx => (hto x hx).1) rows [] made (by simp) hrun
  have hml := run_len n told rows [] made hrun
  have hml : made.length = rows.length := by simpa using hml
  have hrp : rOpt (some made) = .lst (made.map lOf) := rfl
  have hrl2 : rows.length < 4611686018427387904 := by omega
  rw [hrp]
  simp
  rw [compD_map lOf dOf told trivial (fun x hx k1 => by
    simp
    exact iff_of_eq (q_law_object n x _ _ n1 (hto x hx).1 (hto x hx).2)) (by simp; omega)]
  refine ⟨by omega, ?_⟩
  rw [dRng_map]
  have hT : ∀ (t : Dep) (p : List Row) (Q : D → Sto → Prop), (∀ r ∈ p, RSm r) → p.length ≤ 1000 → Q (.bl (verdict n told t p)) [] → phi_takes [.int n, .lst (told.map dOf), dOf t, .bl true, .tup [.str (Str.ofString "derived"), .tup (p.map rOf)]] [] Q := fun t p Q h1 h2 h3 => w_takes n told t p [] Q n0' n1 (fun x hx => (hto x hx).1) h1 h2 h3
  have hpos := List.length_pos_iff.mpr hrne
  have hlast : ∃ l, made[made.length - 1]? = some l ∧ made.getLast? = some l := by
    have : made.length - 1 < made.length := by omega
    exact ⟨_, List.getElem?_eq_getElem this, by rw [List.getLast?_eq_getElem?, List.getElem?_eq_getElem this]⟩
  obtain ⟨l, hl1, hl2⟩ := hlast
  refine for_inv0 _ (fun pre δ M' => ∃ x7 x8 x9 x10 x11 : Option D, δ = [some (D.frz (List.map D.int ns)), some (D.lst (List.map D.int zs)), some (D.int n), some (D.lst (List.map lOf told)), some (D.lst (List.map rOf rows)), some (D.lst (List.map lOf made)), some (D.lst (List.map dOf told)), x7, x8, x9, x10, x11, none] ∧ M' = []) _ ⟨_, _, _, _, _, rfl, rfl⟩ ?_ ?_
  · rintro pre k post δ M' e ⟨x7, x8, x9, x10, x11, rfl, rfl⟩
    refine ⟨trivial, fun N hN => ?_⟩
    obtain ⟨hk, hpl⟩ := rng_ix e
    have hk2 : k < made.length := by omega
    have ek : made[k]? = some made[k] := List.getElem?_eq_getElem hk2
    have hdo := hmo made[k] (List.getElem_mem hk2)
    generalize hd : made[k] = d at ek hdo
    have hvp : ∀ t, verdict n told t (rows.take (k + 1)) = eqDep d t := fun t => by
      unfold verdict
      rw [run_take (k + 1) hrun]
      show (match (made.take (k + 1)).getLast? with | none => false | some d => eqDep d t) = _
      have : (made.take (k + 1)).getLast? = some d := by
        rw [List.getLast?_eq_getElem?, List.length_take, Nat.min_eq_left (by omega)]
        simp [hk2, hd]
      rw [this]
    have hva : ∀ t, verdict n told t rows = eqDep l t := fun t => by
      unfold verdict
      rw [hrun]
      show (match made.getLast? with | none => false | some d => eqDep d t) = _
      rw [hl2]
    have hve : ∀ t, verdict n told t [] = false := fun t => rfl
    have hcut : DL.cutD (rows.map rOf) none (some ((k : Int) + 1)) = (rows.take (k + 1)).map rOf := by
      have := cutD_to (rows.map rOf) (k + 1)
      rw [List.map_take]
      exact this
    have hpr : ∀ r ∈ rows.take (k + 1), RSm r := fun r h => hro r (List.mem_of_mem_take h)
    have hpl2 : (rows.take (k + 1)).length ≤ 1000 := by rw [List.length_take]; omega
    simp [-List.map_take, hk2, hd, hcut]
    rw [q_law_object n d _ _ n1 hdo.1 (len2_of hdo)]
    refine hT d _ _ hpr hpl2 ?_
    rw [hvp, eqDep_refl]
    generalize rows.take (k + 1) = p at hvp hpr hpl2
    simp
    rw [q_takes_no]
    simp
    rcases d with ⟨a, b⟩ | ⟨a, b⟩ | ps
    · have hfl := q_flip hdo
      simp [ok_lit]
      refine Eq.mpr (q_law_object n (.mvd a b) _ _ n1 hfl.1 hfl.2.1) ?_
      refine hT (.mvd a b) p _ hpr hpl2 ?_
      rw [hvp, show eqDep (.fd a b) (.mvd a b) = false from rfl]
      simp
      refine hT (.fd a b) [] _ (by simp) (by simp) ?_
      rw [hve]
      simp
      refine hT (.fd a b) rows _ hro (by omega) ?_
      rw [hva]
      have hml3 : rows.length - 1 < made.length := by omega
      simp [isiTbl]
      have eal : atI made ((made.length : Int) - 1) = some l := by
        have h1 : ((made.length : Int) - 1).toNat = made.length - 1 := by omega
        rw [atI_of (by omega), h1, hl1]
      rw [eal, isS_some]
      refine Eq.mpr (q_eq_lOf (.fd a b) l _ _) ?_
      rw [eqDep_symm (.fd a b) l]
      simp
      exact hN _ _ ⟨_, _, _, _, _, rfl, rfl⟩
    · have hfl := q_flip hdo
      simp [ok_lit]
      refine Eq.mpr (q_law_object n (.fd a b) _ _ n1 hfl.1 hfl.2.1) ?_
      refine hT (.fd a b) p _ hpr hpl2 ?_
      rw [hvp, show eqDep (.mvd a b) (.fd a b) = false from rfl]
      simp
      refine hT (.mvd a b) [] _ (by simp) (by simp) ?_
      rw [hve]
      simp
      refine hT (.mvd a b) rows _ hro (by omega) ?_
      rw [hva]
      have hml3 : rows.length - 1 < made.length := by omega
      simp [isiTbl]
      have eal : atI made ((made.length : Int) - 1) = some l := by
        have h1 : ((made.length : Int) - 1).toNat = made.length - 1 := by omega
        rw [atI_of (by omega), h1, hl1]
      rw [eal, isS_some]
      refine Eq.mpr (q_eq_lOf (.mvd a b) l _ _) ?_
      rw [eqDep_symm (.mvd a b) l]
      simp
      exact hN _ _ ⟨_, _, _, _, _, rfl, rfl⟩
    · exact hdo.2.elim
  · rintro δ M' ⟨x7, x8, x9, x10, x11, rfl, rfl⟩
    refine ⟨trivial, ?_⟩
    simp
    exact w_is_kept told _ _ (by omega) (.inl rfl)
end Law


set_option linter.all false
set_option autoImplicit false
set_option maxRecDepth 100000
set_option maxHeartbeats 400000


set_option Elab.async false
set_option linter.all false
set_option autoImplicit false
set_option maxRecDepth 100000
set_option maxHeartbeats 4000000
namespace Law
open PySem PySem.Spec PyProof.Rows L2 DL
theorem all_mk {l : PySem.W.OpenLaw} {w : World} {K : PySem.W.Frag} {h : Heap} {mg : Str → Option Value} {fa A_Sides A_Fd A_Mvd A_Jd A_Replay A_TableError A_InvalidTable A_Table p_Fd_key p_Mvd_key f_as_set f_united f_met f_less f_is_within f_whole f_Sides___init__ f_Sides_key f_Fd___eq__ f_Mvd___eq__ f_Jd___init__ f_is_set f_earlier f_by_told f_by_within f_by_with f_by_through f_by_also f_by_other f_by_wide f_by_beyond f_by_meets f_of_one f_of_two f_row_tells f_derives f_takes f__law_numbers f__law_set f__law_sparse f__law_united f__law_met f__law_less f__law_is_within f__law_dependency f__law_told f__law_object f__law_is_kept f__law_is_set f__law_of_one f__law_of_two f__law_row f__law_made f__law_tried f__law_next f__law_derivation f_law : Addr} (X : K.In h) (G : h.Ns mainGlobals mg) (hfa : mg "law" = some (.ref fa))
    {rs_Fd_key rs_Mvd_key : List Value}
    {od_as_set an_as_set od_united an_united od_met an_met od_less an_less od_is_within an_is_within od_whole an_whole od_Sides___init__ an_Sides___init__ od_Sides_key an_Sides_key od_Fd___eq__ an_Fd___eq__ od_Mvd___eq__ an_Mvd___eq__ od_Jd___init__ an_Jd___init__ od_is_set an_is_set od_earlier an_earlier od_by_told an_by_told od_by_within an_by_within od_by_with an_by_with od_by_through an_by_through od_by_also an_by_also od_by_other an_by_other od_by_wide an_by_wide od_by_beyond an_by_beyond od_by_meets an_by_meets od_of_one an_of_one od_of_two an_of_two od_row_tells an_row_tells od_derives an_derives od_takes an_takes od__law_numbers an__law_numbers od__law_set an__law_set od__law_sparse an__law_sparse od__law_united an__law_united od__law_met an__law_met od__law_less an__law_less od__law_is_within an__law_is_within od__law_dependency an__law_dependency od__law_told an__law_told od__law_object an__law_object od__law_is_kept an__law_is_kept od__law_is_set an__law_is_set od__law_of_one an__law_of_one od__law_of_two an__law_of_two od__law_row an__law_row od__law_made an__law_made od__law_tried an__law_tried od__law_next an__law_next od__law_derivation an__law_derivation od_law an_law : Option Addr} {sl_as_set sl_united sl_met sl_less sl_is_within sl_whole sl_Sides___init__ sl_Sides_key sl_Fd___eq__ sl_Mvd___eq__ sl_Jd___init__ sl_is_set sl_earlier sl_by_told sl_by_within sl_by_with sl_by_through sl_by_also sl_by_other sl_by_wide sl_by_beyond sl_by_meets sl_of_one sl_of_two sl_row_tells sl_derives sl_takes sl__law_numbers sl__law_set sl__law_sparse sl__law_united sl__law_met sl__law_less sl__law_is_within sl__law_dependency sl__law_told sl__law_object sl__law_is_kept sl__law_is_set sl__law_of_one sl__law_of_two sl__law_row sl__law_made sl__law_tried sl__law_next sl__law_derivation sl_law : Array (Option Value)} {oc_as_set kV_as_set dc_as_set pm_as_set cd_as_set ct_as_set oc_united kV_united dc_united pm_united cd_united ct_united oc_met kV_met dc_met pm_met cd_met ct_met oc_less kV_less dc_less pm_less cd_less ct_less oc_is_within kV_is_within dc_is_within pm_is_within cd_is_within ct_is_within oc_whole kV_whole dc_whole pm_whole cd_whole ct_whole oc_Sides___init__ kV_Sides___init__ dc_Sides___init__ pm_Sides___init__ cd_Sides___init__ ct_Sides___init__ oc_Sides_key kV_Sides_key dc_Sides_key pm_Sides_key cd_Sides_key ct_Sides_key oc_Fd___eq__ kV_Fd___eq__ dc_Fd___eq__ pm_Fd___eq__ cd_Fd___eq__ ct_Fd___eq__ oc_Mvd___eq__ kV_Mvd___eq__ dc_Mvd___eq__ pm_Mvd___eq__ cd_Mvd___eq__ ct_Mvd___eq__ oc_Jd___init__ kV_Jd___init__ dc_Jd___init__ pm_Jd___init__ cd_Jd___init__ ct_Jd___init__ oc_is_set kV_is_set dc_is_set pm_is_set cd_is_set ct_is_set oc_earlier kV_earlier dc_earlier pm_earlier cd_earlier ct_earlier oc_by_told kV_by_told dc_by_told pm_by_told cd_by_told ct_by_told oc_by_within kV_by_within dc_by_within pm_by_within cd_by_within ct_by_within oc_by_with kV_by_with dc_by_with pm_by_with cd_by_with ct_by_with oc_by_through kV_by_through dc_by_through pm_by_through cd_by_through ct_by_through oc_by_also kV_by_also dc_by_also pm_by_also cd_by_also ct_by_also oc_by_other kV_by_other dc_by_other pm_by_other cd_by_other ct_by_other oc_by_wide kV_by_wide dc_by_wide pm_by_wide cd_by_wide ct_by_wide oc_by_beyond kV_by_beyond dc_by_beyond pm_by_beyond cd_by_beyond ct_by_beyond oc_by_meets kV_by_meets dc_by_meets pm_by_meets cd_by_meets ct_by_meets oc_of_one kV_of_one dc_of_one pm_of_one cd_of_one ct_of_one oc_of_two kV_of_two dc_of_two pm_of_two cd_of_two ct_of_two oc_row_tells kV_row_tells dc_row_tells pm_row_tells cd_row_tells ct_row_tells oc_derives kV_derives dc_derives pm_derives cd_derives ct_derives oc_takes kV_takes dc_takes pm_takes cd_takes ct_takes oc__law_numbers kV__law_numbers dc__law_numbers pm__law_numbers cd__law_numbers ct__law_numbers oc__law_set kV__law_set dc__law_set pm__law_set cd__law_set ct__law_set oc__law_sparse kV__law_sparse dc__law_sparse pm__law_sparse cd__law_sparse ct__law_sparse oc__law_united kV__law_united dc__law_united pm__law_united cd__law_united ct__law_united oc__law_met kV__law_met dc__law_met pm__law_met cd__law_met ct__law_met oc__law_less kV__law_less dc__law_less pm__law_less cd__law_less ct__law_less oc__law_is_within kV__law_is_within dc__law_is_within pm__law_is_within cd__law_is_within ct__law_is_within oc__law_dependency kV__law_dependency dc__law_dependency pm__law_dependency cd__law_dependency ct__law_dependency oc__law_told kV__law_told dc__law_told pm__law_told cd__law_told ct__law_told oc__law_object kV__law_object dc__law_object pm__law_object cd__law_object ct__law_object oc__law_is_kept kV__law_is_kept dc__law_is_kept pm__law_is_kept cd__law_is_kept ct__law_is_kept oc__law_is_set kV__law_is_set dc__law_is_set pm__law_is_set cd__law_is_set ct__law_is_set oc__law_of_one kV__law_of_one dc__law_of_one pm__law_of_one cd__law_of_one ct__law_of_one oc__law_of_two kV__law_of_two dc__law_of_two pm__law_of_two cd__law_of_two ct__law_of_two oc__law_row kV__law_row dc__law_row pm__law_row cd__law_row ct__law_row oc__law_made kV__law_made dc__law_made pm__law_made cd__law_made ct__law_made oc__law_tried kV__law_tried dc__law_tried pm__law_tried cd__law_tried ct__law_tried oc__law_next kV__law_next dc__law_next pm__law_next cd__law_next ct__law_next oc__law_derivation kV__law_derivation dc__law_derivation pm__law_derivation cd__law_derivation ct__law_derivation oc_law kV_law dc_law pm_law cd_law ct_law : Value}
    (ac_Sides : PySem.W.nsIn K mainGlobals "Sides" = some (some (.ref A_Sides)))
    (ac_Fd : PySem.W.nsIn K mainGlobals "Fd" = some (some (.ref A_Fd)))
    (ac_Mvd : PySem.W.nsIn K mainGlobals "Mvd" = some (some (.ref A_Mvd)))
    (ac_Jd : PySem.W.nsIn K mainGlobals "Jd" = some (some (.ref A_Jd)))
    (ac_Replay : PySem.W.nsIn K mainGlobals "Replay" = some (some (.ref A_Replay)))
    (ac_TableError : PySem.W.nsIn K mainGlobals "TableError" = some (some (.ref A_TableError)))
    (ac_InvalidTable : PySem.W.nsIn K mainGlobals "InvalidTable" = some (some (.ref A_InvalidTable)))
    (ac_Table : PySem.W.nsIn K mainGlobals "Table" = some (some (.ref A_Table)))
    (pg_Fd : PySem.W.plainGet K A_Fd Str.empty = true)
    (hd_Fd : PySem.W.hasDictIn K A_Fd = true)
    (po_Fd : PySem.W.plainOver K A_Fd = true)
    (sa_Fd : PySem.W.findIn K (.ref A_Fd) "__setattr__" = some (some (.builtin "object.__setattr__")))
    (pg_Jd : PySem.W.plainGet K A_Jd Str.empty = true)
    (hd_Jd : PySem.W.hasDictIn K A_Jd = true)
    (po_Jd : PySem.W.plainOver K A_Jd = true)
    (sa_Jd : PySem.W.findIn K (.ref A_Jd) "__setattr__" = some (some (.builtin "object.__setattr__")))
    (pg_Mvd : PySem.W.plainGet K A_Mvd Str.empty = true)
    (hd_Mvd : PySem.W.hasDictIn K A_Mvd = true)
    (po_Mvd : PySem.W.plainOver K A_Mvd = true)
    (sa_Mvd : PySem.W.findIn K (.ref A_Mvd) "__setattr__" = some (some (.builtin "object.__setattr__")))
    (nf_Fd_left : PySem.W.findIn K (.ref A_Fd) "left" = some none)
    (nf_Fd_right : PySem.W.findIn K (.ref A_Fd) "right" = some none)
    (nf_Jd_parts : PySem.W.findIn K (.ref A_Jd) "parts" = some none)
    (nf_Mvd_left : PySem.W.findIn K (.ref A_Mvd) "left" = some none)
    (nf_Mvd_right : PySem.W.findIn K (.ref A_Mvd) "right" = some none)
    (mk_Fd : PySem.W.makesIn K A_Fd = true)
    (kc_Fd : PySem.W.keepIn K (.ref A_Fd) = true)
    (mk_Jd : PySem.W.makesIn K A_Jd = true)
    (kc_Jd : PySem.W.keepIn K (.ref A_Jd) = true)
    (mk_Mvd : PySem.W.makesIn K A_Mvd = true)
    (kc_Mvd : PySem.W.keepIn K (.ref A_Mvd) = true)
    (pa_Fd_key : PySem.W.findIn K (.ref A_Fd) "key" = some (some (.ref p_Fd_key)))
    (pr_Fd_key : PySem.W.recIn K p_Fd_key "property" = some (.ref f_Sides_key :: rs_Fd_key))
    (pq_Fd_key : PySem.W.specialIn K (.ref p_Fd_key) "__get__" = some (some (.builtin "property.__get__")))
    (pt_Fd_key : PySem.W.takesIn K (.ref p_Fd_key) = some true)
    (pa_Mvd_key : PySem.W.findIn K (.ref A_Mvd) "key" = some (some (.ref p_Mvd_key)))
    (pr_Mvd_key : PySem.W.recIn K p_Mvd_key "property" = some (.ref f_Sides_key :: rs_Mvd_key))
    (pq_Mvd_key : PySem.W.specialIn K (.ref p_Mvd_key) "__get__" = some (some (.builtin "property.__get__")))
    (pt_Mvd_key : PySem.W.takesIn K (.ref p_Mvd_key) = some true)
    (af_as_set : PySem.W.nsIn K mainGlobals "as_set" = some (some (.ref f_as_set)))
    (lf_as_set : K.lookup f_as_set = some ⟨oc_as_set, od_as_set, .func (PySem.W.fnOf "as_set" "as_set" (defArgs s_as_set) (defBody s_as_set) (defScope s_as_set) .none kV_as_set dc_as_set pm_as_set an_as_set cd_as_set ct_as_set), sl_as_set⟩)
    (cf_as_set : PySem.W.codeIn K cd_as_set "as_set" = true)
    (kf_as_set : PySem.W.keepIn K (.ref f_as_set) = true)
    (af_united : PySem.W.nsIn K mainGlobals "united" = some (some (.ref f_united)))
    (lf_united : K.lookup f_united = some ⟨oc_united, od_united, .func (PySem.W.fnOf "united" "united" (defArgs s_united) (defBody s_united) (defScope s_united) .none kV_united dc_united pm_united an_united cd_united ct_united), sl_united⟩)
    (cf_united : PySem.W.codeIn K cd_united "united" = true)
    (kf_united : PySem.W.keepIn K (.ref f_united) = true)
    (af_met : PySem.W.nsIn K mainGlobals "met" = some (some (.ref f_met)))
    (lf_met : K.lookup f_met = some ⟨oc_met, od_met, .func (PySem.W.fnOf "met" "met" (defArgs s_met) (defBody s_met) (defScope s_met) .none kV_met dc_met pm_met an_met cd_met ct_met), sl_met⟩)
    (cf_met : PySem.W.codeIn K cd_met "met" = true)
    (kf_met : PySem.W.keepIn K (.ref f_met) = true)
    (af_less : PySem.W.nsIn K mainGlobals "less" = some (some (.ref f_less)))
    (lf_less : K.lookup f_less = some ⟨oc_less, od_less, .func (PySem.W.fnOf "less" "less" (defArgs s_less) (defBody s_less) (defScope s_less) .none kV_less dc_less pm_less an_less cd_less ct_less), sl_less⟩)
    (cf_less : PySem.W.codeIn K cd_less "less" = true)
    (kf_less : PySem.W.keepIn K (.ref f_less) = true)
    (af_is_within : PySem.W.nsIn K mainGlobals "is_within" = some (some (.ref f_is_within)))
    (lf_is_within : K.lookup f_is_within = some ⟨oc_is_within, od_is_within, .func (PySem.W.fnOf "is_within" "is_within" (defArgs s_is_within) (defBody s_is_within) (defScope s_is_within) .none kV_is_within dc_is_within pm_is_within an_is_within cd_is_within ct_is_within), sl_is_within⟩)
    (cf_is_within : PySem.W.codeIn K cd_is_within "is_within" = true)
    (kf_is_within : PySem.W.keepIn K (.ref f_is_within) = true)
    (af_whole : PySem.W.nsIn K mainGlobals "whole" = some (some (.ref f_whole)))
    (lf_whole : K.lookup f_whole = some ⟨oc_whole, od_whole, .func (PySem.W.fnOf "whole" "whole" (defArgs s_whole) (defBody s_whole) (defScope s_whole) .none kV_whole dc_whole pm_whole an_whole cd_whole ct_whole), sl_whole⟩)
    (cf_whole : PySem.W.codeIn K cd_whole "whole" = true)
    (kf_whole : PySem.W.keepIn K (.ref f_whole) = true)
    (af_Sides___init__ : PySem.W.findIn K (.ref A_Sides) "__init__" = some (some (.ref f_Sides___init__)))
    (if_Sides___init__ : PySem.W.isFn K (.ref f_Sides___init__) = true)
    (lf_Sides___init__ : K.lookup f_Sides___init__ = some ⟨oc_Sides___init__, od_Sides___init__, .func (PySem.W.fnOf "__init__" "Sides.__init__" (defArgs s_Sides___init__) (defBody s_Sides___init__) (defScope s_Sides___init__) .none kV_Sides___init__ dc_Sides___init__ pm_Sides___init__ an_Sides___init__ cd_Sides___init__ ct_Sides___init__), sl_Sides___init__⟩)
    (cf_Sides___init__ : PySem.W.codeIn K cd_Sides___init__ "Sides.__init__" = true)
    (kf_Sides___init__ : PySem.W.keepIn K (.ref f_Sides___init__) = true)
    (lf_Sides_key : K.lookup f_Sides_key = some ⟨oc_Sides_key, od_Sides_key, .func (PySem.W.fnOf "key" "Sides.key" (defArgs s_Sides_key) (defBody s_Sides_key) (defScope s_Sides_key) .none kV_Sides_key dc_Sides_key pm_Sides_key an_Sides_key cd_Sides_key ct_Sides_key), sl_Sides_key⟩)
    (cf_Sides_key : PySem.W.codeIn K cd_Sides_key "Sides.key" = true)
    (kf_Sides_key : PySem.W.keepIn K (.ref f_Sides_key) = true)
    (af_Fd___eq__ : PySem.W.findIn K (.ref A_Fd) "__eq__" = some (some (.ref f_Fd___eq__)))
    (if_Fd___eq__ : PySem.W.isFn K (.ref f_Fd___eq__) = true)
    (lf_Fd___eq__ : K.lookup f_Fd___eq__ = some ⟨oc_Fd___eq__, od_Fd___eq__, .func (PySem.W.fnOf "__eq__" "Fd.__eq__" (defArgs s_Fd___eq__) (defBody s_Fd___eq__) (defScope s_Fd___eq__) .none kV_Fd___eq__ dc_Fd___eq__ pm_Fd___eq__ an_Fd___eq__ cd_Fd___eq__ ct_Fd___eq__), sl_Fd___eq__⟩)
    (cf_Fd___eq__ : PySem.W.codeIn K cd_Fd___eq__ "Fd.__eq__" = true)
    (kf_Fd___eq__ : PySem.W.keepIn K (.ref f_Fd___eq__) = true)
    (af_Mvd___eq__ : PySem.W.findIn K (.ref A_Mvd) "__eq__" = some (some (.ref f_Mvd___eq__)))
    (if_Mvd___eq__ : PySem.W.isFn K (.ref f_Mvd___eq__) = true)
    (lf_Mvd___eq__ : K.lookup f_Mvd___eq__ = some ⟨oc_Mvd___eq__, od_Mvd___eq__, .func (PySem.W.fnOf "__eq__" "Mvd.__eq__" (defArgs s_Mvd___eq__) (defBody s_Mvd___eq__) (defScope s_Mvd___eq__) .none kV_Mvd___eq__ dc_Mvd___eq__ pm_Mvd___eq__ an_Mvd___eq__ cd_Mvd___eq__ ct_Mvd___eq__), sl_Mvd___eq__⟩)
    (cf_Mvd___eq__ : PySem.W.codeIn K cd_Mvd___eq__ "Mvd.__eq__" = true)
    (kf_Mvd___eq__ : PySem.W.keepIn K (.ref f_Mvd___eq__) = true)
    (af_Jd___init__ : PySem.W.findIn K (.ref A_Jd) "__init__" = some (some (.ref f_Jd___init__)))
    (if_Jd___init__ : PySem.W.isFn K (.ref f_Jd___init__) = true)
    (lf_Jd___init__ : K.lookup f_Jd___init__ = some ⟨oc_Jd___init__, od_Jd___init__, .func (PySem.W.fnOf "__init__" "Jd.__init__" (defArgs s_Jd___init__) (defBody s_Jd___init__) (defScope s_Jd___init__) .none kV_Jd___init__ dc_Jd___init__ pm_Jd___init__ an_Jd___init__ cd_Jd___init__ ct_Jd___init__), sl_Jd___init__⟩)
    (cf_Jd___init__ : PySem.W.codeIn K cd_Jd___init__ "Jd.__init__" = true)
    (kf_Jd___init__ : PySem.W.keepIn K (.ref f_Jd___init__) = true)
    (af_is_set : PySem.W.nsIn K mainGlobals "is_set" = some (some (.ref f_is_set)))
    (lf_is_set : K.lookup f_is_set = some ⟨oc_is_set, od_is_set, .func (PySem.W.fnOf "is_set" "is_set" (defArgs s_is_set) (defBody s_is_set) (defScope s_is_set) .none kV_is_set dc_is_set pm_is_set an_is_set cd_is_set ct_is_set), sl_is_set⟩)
    (cf_is_set : PySem.W.codeIn K cd_is_set "is_set" = true)
    (kf_is_set : PySem.W.keepIn K (.ref f_is_set) = true)
    (af_earlier : PySem.W.nsIn K mainGlobals "earlier" = some (some (.ref f_earlier)))
    (lf_earlier : K.lookup f_earlier = some ⟨oc_earlier, od_earlier, .func (PySem.W.fnOf "earlier" "earlier" (defArgs s_earlier) (defBody s_earlier) (defScope s_earlier) .none kV_earlier dc_earlier pm_earlier an_earlier cd_earlier ct_earlier), sl_earlier⟩)
    (cf_earlier : PySem.W.codeIn K cd_earlier "earlier" = true)
    (kf_earlier : PySem.W.keepIn K (.ref f_earlier) = true)
    (af_by_told : PySem.W.nsIn K mainGlobals "by_told" = some (some (.ref f_by_told)))
    (lf_by_told : K.lookup f_by_told = some ⟨oc_by_told, od_by_told, .func (PySem.W.fnOf "by_told" "by_told" (defArgs s_by_told) (defBody s_by_told) (defScope s_by_told) .none kV_by_told dc_by_told pm_by_told an_by_told cd_by_told ct_by_told), sl_by_told⟩)
    (cf_by_told : PySem.W.codeIn K cd_by_told "by_told" = true)
    (kf_by_told : PySem.W.keepIn K (.ref f_by_told) = true)
    (af_by_within : PySem.W.nsIn K mainGlobals "by_within" = some (some (.ref f_by_within)))
    (lf_by_within : K.lookup f_by_within = some ⟨oc_by_within, od_by_within, .func (PySem.W.fnOf "by_within" "by_within" (defArgs s_by_within) (defBody s_by_within) (defScope s_by_within) .none kV_by_within dc_by_within pm_by_within an_by_within cd_by_within ct_by_within), sl_by_within⟩)
    (cf_by_within : PySem.W.codeIn K cd_by_within "by_within" = true)
    (kf_by_within : PySem.W.keepIn K (.ref f_by_within) = true)
    (af_by_with : PySem.W.nsIn K mainGlobals "by_with" = some (some (.ref f_by_with)))
    (lf_by_with : K.lookup f_by_with = some ⟨oc_by_with, od_by_with, .func (PySem.W.fnOf "by_with" "by_with" (defArgs s_by_with) (defBody s_by_with) (defScope s_by_with) .none kV_by_with dc_by_with pm_by_with an_by_with cd_by_with ct_by_with), sl_by_with⟩)
    (cf_by_with : PySem.W.codeIn K cd_by_with "by_with" = true)
    (kf_by_with : PySem.W.keepIn K (.ref f_by_with) = true)
    (af_by_through : PySem.W.nsIn K mainGlobals "by_through" = some (some (.ref f_by_through)))
    (lf_by_through : K.lookup f_by_through = some ⟨oc_by_through, od_by_through, .func (PySem.W.fnOf "by_through" "by_through" (defArgs s_by_through) (defBody s_by_through) (defScope s_by_through) .none kV_by_through dc_by_through pm_by_through an_by_through cd_by_through ct_by_through), sl_by_through⟩)
    (cf_by_through : PySem.W.codeIn K cd_by_through "by_through" = true)
    (kf_by_through : PySem.W.keepIn K (.ref f_by_through) = true)
    (af_by_also : PySem.W.nsIn K mainGlobals "by_also" = some (some (.ref f_by_also)))
    (lf_by_also : K.lookup f_by_also = some ⟨oc_by_also, od_by_also, .func (PySem.W.fnOf "by_also" "by_also" (defArgs s_by_also) (defBody s_by_also) (defScope s_by_also) .none kV_by_also dc_by_also pm_by_also an_by_also cd_by_also ct_by_also), sl_by_also⟩)
    (cf_by_also : PySem.W.codeIn K cd_by_also "by_also" = true)
    (kf_by_also : PySem.W.keepIn K (.ref f_by_also) = true)
    (af_by_other : PySem.W.nsIn K mainGlobals "by_other" = some (some (.ref f_by_other)))
    (lf_by_other : K.lookup f_by_other = some ⟨oc_by_other, od_by_other, .func (PySem.W.fnOf "by_other" "by_other" (defArgs s_by_other) (defBody s_by_other) (defScope s_by_other) .none kV_by_other dc_by_other pm_by_other an_by_other cd_by_other ct_by_other), sl_by_other⟩)
    (cf_by_other : PySem.W.codeIn K cd_by_other "by_other" = true)
    (kf_by_other : PySem.W.keepIn K (.ref f_by_other) = true)
    (af_by_wide : PySem.W.nsIn K mainGlobals "by_wide" = some (some (.ref f_by_wide)))
    (lf_by_wide : K.lookup f_by_wide = some ⟨oc_by_wide, od_by_wide, .func (PySem.W.fnOf "by_wide" "by_wide" (defArgs s_by_wide) (defBody s_by_wide) (defScope s_by_wide) .none kV_by_wide dc_by_wide pm_by_wide an_by_wide cd_by_wide ct_by_wide), sl_by_wide⟩)
    (cf_by_wide : PySem.W.codeIn K cd_by_wide "by_wide" = true)
    (kf_by_wide : PySem.W.keepIn K (.ref f_by_wide) = true)
    (af_by_beyond : PySem.W.nsIn K mainGlobals "by_beyond" = some (some (.ref f_by_beyond)))
    (lf_by_beyond : K.lookup f_by_beyond = some ⟨oc_by_beyond, od_by_beyond, .func (PySem.W.fnOf "by_beyond" "by_beyond" (defArgs s_by_beyond) (defBody s_by_beyond) (defScope s_by_beyond) .none kV_by_beyond dc_by_beyond pm_by_beyond an_by_beyond cd_by_beyond ct_by_beyond), sl_by_beyond⟩)
    (cf_by_beyond : PySem.W.codeIn K cd_by_beyond "by_beyond" = true)
    (kf_by_beyond : PySem.W.keepIn K (.ref f_by_beyond) = true)
    (af_by_meets : PySem.W.nsIn K mainGlobals "by_meets" = some (some (.ref f_by_meets)))
    (lf_by_meets : K.lookup f_by_meets = some ⟨oc_by_meets, od_by_meets, .func (PySem.W.fnOf "by_meets" "by_meets" (defArgs s_by_meets) (defBody s_by_meets) (defScope s_by_meets) .none kV_by_meets dc_by_meets pm_by_meets an_by_meets cd_by_meets ct_by_meets), sl_by_meets⟩)
    (cf_by_meets : PySem.W.codeIn K cd_by_meets "by_meets" = true)
    (kf_by_meets : PySem.W.keepIn K (.ref f_by_meets) = true)
    (af_of_one : PySem.W.nsIn K mainGlobals "of_one" = some (some (.ref f_of_one)))
    (lf_of_one : K.lookup f_of_one = some ⟨oc_of_one, od_of_one, .func (PySem.W.fnOf "of_one" "of_one" (defArgs s_of_one) (defBody s_of_one) (defScope s_of_one) .none kV_of_one dc_of_one pm_of_one an_of_one cd_of_one ct_of_one), sl_of_one⟩)
    (cf_of_one : PySem.W.codeIn K cd_of_one "of_one" = true)
    (kf_of_one : PySem.W.keepIn K (.ref f_of_one) = true)
    (af_of_two : PySem.W.nsIn K mainGlobals "of_two" = some (some (.ref f_of_two)))
    (lf_of_two : K.lookup f_of_two = some ⟨oc_of_two, od_of_two, .func (PySem.W.fnOf "of_two" "of_two" (defArgs s_of_two) (defBody s_of_two) (defScope s_of_two) .none kV_of_two dc_of_two pm_of_two an_of_two cd_of_two ct_of_two), sl_of_two⟩)
    (cf_of_two : PySem.W.codeIn K cd_of_two "of_two" = true)
    (kf_of_two : PySem.W.keepIn K (.ref f_of_two) = true)
    (af_row_tells : PySem.W.nsIn K mainGlobals "row_tells" = some (some (.ref f_row_tells)))
    (lf_row_tells : K.lookup f_row_tells = some ⟨oc_row_tells, od_row_tells, .func (PySem.W.fnOf "row_tells" "row_tells" (defArgs s_row_tells) (defBody s_row_tells) (defScope s_row_tells) .none kV_row_tells dc_row_tells pm_row_tells an_row_tells cd_row_tells ct_row_tells), sl_row_tells⟩)
    (cf_row_tells : PySem.W.codeIn K cd_row_tells "row_tells" = true)
    (kf_row_tells : PySem.W.keepIn K (.ref f_row_tells) = true)
    (af_derives : PySem.W.nsIn K mainGlobals "derives" = some (some (.ref f_derives)))
    (lf_derives : K.lookup f_derives = some ⟨oc_derives, od_derives, .func (PySem.W.fnOf "derives" "derives" (defArgs s_derives) (defBody s_derives) (defScope s_derives) .none kV_derives dc_derives pm_derives an_derives cd_derives ct_derives), sl_derives⟩)
    (cf_derives : PySem.W.codeIn K cd_derives "derives" = true)
    (kf_derives : PySem.W.keepIn K (.ref f_derives) = true)
    (af_takes : PySem.W.nsIn K mainGlobals "takes" = some (some (.ref f_takes)))
    (lf_takes : K.lookup f_takes = some ⟨oc_takes, od_takes, .func (PySem.W.fnOf "takes" "takes" (defArgs s_takes) (defBody s_takes) (defScope s_takes) .none kV_takes dc_takes pm_takes an_takes cd_takes ct_takes), sl_takes⟩)
    (cf_takes : PySem.W.codeIn K cd_takes "takes" = true)
    (kf_takes : PySem.W.keepIn K (.ref f_takes) = true)
    (af__law_numbers : PySem.W.nsIn K mainGlobals "_law_numbers" = some (some (.ref f__law_numbers)))
    (lf__law_numbers : K.lookup f__law_numbers = some ⟨oc__law_numbers, od__law_numbers, .func (PySem.W.fnOf "_law_numbers" "_law_numbers" (defArgs s__law_numbers) (defBody s__law_numbers) (defScope s__law_numbers) .none kV__law_numbers dc__law_numbers pm__law_numbers an__law_numbers cd__law_numbers ct__law_numbers), sl__law_numbers⟩)
    (cf__law_numbers : PySem.W.codeIn K cd__law_numbers "_law_numbers" = true)
    (kf__law_numbers : PySem.W.keepIn K (.ref f__law_numbers) = true)
    (af__law_set : PySem.W.nsIn K mainGlobals "_law_set" = some (some (.ref f__law_set)))
    (lf__law_set : K.lookup f__law_set = some ⟨oc__law_set, od__law_set, .func (PySem.W.fnOf "_law_set" "_law_set" (defArgs s__law_set) (defBody s__law_set) (defScope s__law_set) .none kV__law_set dc__law_set pm__law_set an__law_set cd__law_set ct__law_set), sl__law_set⟩)
    (cf__law_set : PySem.W.codeIn K cd__law_set "_law_set" = true)
    (kf__law_set : PySem.W.keepIn K (.ref f__law_set) = true)
    (af__law_sparse : PySem.W.nsIn K mainGlobals "_law_sparse" = some (some (.ref f__law_sparse)))
    (lf__law_sparse : K.lookup f__law_sparse = some ⟨oc__law_sparse, od__law_sparse, .func (PySem.W.fnOf "_law_sparse" "_law_sparse" (defArgs s__law_sparse) (defBody s__law_sparse) (defScope s__law_sparse) .none kV__law_sparse dc__law_sparse pm__law_sparse an__law_sparse cd__law_sparse ct__law_sparse), sl__law_sparse⟩)
    (cf__law_sparse : PySem.W.codeIn K cd__law_sparse "_law_sparse" = true)
    (kf__law_sparse : PySem.W.keepIn K (.ref f__law_sparse) = true)
    (af__law_united : PySem.W.nsIn K mainGlobals "_law_united" = some (some (.ref f__law_united)))
    (lf__law_united : K.lookup f__law_united = some ⟨oc__law_united, od__law_united, .func (PySem.W.fnOf "_law_united" "_law_united" (defArgs s__law_united) (defBody s__law_united) (defScope s__law_united) .none kV__law_united dc__law_united pm__law_united an__law_united cd__law_united ct__law_united), sl__law_united⟩)
    (cf__law_united : PySem.W.codeIn K cd__law_united "_law_united" = true)
    (kf__law_united : PySem.W.keepIn K (.ref f__law_united) = true)
    (af__law_met : PySem.W.nsIn K mainGlobals "_law_met" = some (some (.ref f__law_met)))
    (lf__law_met : K.lookup f__law_met = some ⟨oc__law_met, od__law_met, .func (PySem.W.fnOf "_law_met" "_law_met" (defArgs s__law_met) (defBody s__law_met) (defScope s__law_met) .none kV__law_met dc__law_met pm__law_met an__law_met cd__law_met ct__law_met), sl__law_met⟩)
    (cf__law_met : PySem.W.codeIn K cd__law_met "_law_met" = true)
    (kf__law_met : PySem.W.keepIn K (.ref f__law_met) = true)
    (af__law_less : PySem.W.nsIn K mainGlobals "_law_less" = some (some (.ref f__law_less)))
    (lf__law_less : K.lookup f__law_less = some ⟨oc__law_less, od__law_less, .func (PySem.W.fnOf "_law_less" "_law_less" (defArgs s__law_less) (defBody s__law_less) (defScope s__law_less) .none kV__law_less dc__law_less pm__law_less an__law_less cd__law_less ct__law_less), sl__law_less⟩)
    (cf__law_less : PySem.W.codeIn K cd__law_less "_law_less" = true)
    (kf__law_less : PySem.W.keepIn K (.ref f__law_less) = true)
    (af__law_is_within : PySem.W.nsIn K mainGlobals "_law_is_within" = some (some (.ref f__law_is_within)))
    (lf__law_is_within : K.lookup f__law_is_within = some ⟨oc__law_is_within, od__law_is_within, .func (PySem.W.fnOf "_law_is_within" "_law_is_within" (defArgs s__law_is_within) (defBody s__law_is_within) (defScope s__law_is_within) .none kV__law_is_within dc__law_is_within pm__law_is_within an__law_is_within cd__law_is_within ct__law_is_within), sl__law_is_within⟩)
    (cf__law_is_within : PySem.W.codeIn K cd__law_is_within "_law_is_within" = true)
    (kf__law_is_within : PySem.W.keepIn K (.ref f__law_is_within) = true)
    (af__law_dependency : PySem.W.nsIn K mainGlobals "_law_dependency" = some (some (.ref f__law_dependency)))
    (lf__law_dependency : K.lookup f__law_dependency = some ⟨oc__law_dependency, od__law_dependency, .func (PySem.W.fnOf "_law_dependency" "_law_dependency" (defArgs s__law_dependency) (defBody s__law_dependency) (defScope s__law_dependency) .none kV__law_dependency dc__law_dependency pm__law_dependency an__law_dependency cd__law_dependency ct__law_dependency), sl__law_dependency⟩)
    (cf__law_dependency : PySem.W.codeIn K cd__law_dependency "_law_dependency" = true)
    (kf__law_dependency : PySem.W.keepIn K (.ref f__law_dependency) = true)
    (af__law_told : PySem.W.nsIn K mainGlobals "_law_told" = some (some (.ref f__law_told)))
    (lf__law_told : K.lookup f__law_told = some ⟨oc__law_told, od__law_told, .func (PySem.W.fnOf "_law_told" "_law_told" (defArgs s__law_told) (defBody s__law_told) (defScope s__law_told) .none kV__law_told dc__law_told pm__law_told an__law_told cd__law_told ct__law_told), sl__law_told⟩)
    (cf__law_told : PySem.W.codeIn K cd__law_told "_law_told" = true)
    (kf__law_told : PySem.W.keepIn K (.ref f__law_told) = true)
    (af__law_object : PySem.W.nsIn K mainGlobals "_law_object" = some (some (.ref f__law_object)))
    (lf__law_object : K.lookup f__law_object = some ⟨oc__law_object, od__law_object, .func (PySem.W.fnOf "_law_object" "_law_object" (defArgs s__law_object) (defBody s__law_object) (defScope s__law_object) .none kV__law_object dc__law_object pm__law_object an__law_object cd__law_object ct__law_object), sl__law_object⟩)
    (cf__law_object : PySem.W.codeIn K cd__law_object "_law_object" = true)
    (kf__law_object : PySem.W.keepIn K (.ref f__law_object) = true)
    (af__law_is_kept : PySem.W.nsIn K mainGlobals "_law_is_kept" = some (some (.ref f__law_is_kept)))
    (lf__law_is_kept : K.lookup f__law_is_kept = some ⟨oc__law_is_kept, od__law_is_kept, .func (PySem.W.fnOf "_law_is_kept" "_law_is_kept" (defArgs s__law_is_kept) (defBody s__law_is_kept) (defScope s__law_is_kept) .none kV__law_is_kept dc__law_is_kept pm__law_is_kept an__law_is_kept cd__law_is_kept ct__law_is_kept), sl__law_is_kept⟩)
    (cf__law_is_kept : PySem.W.codeIn K cd__law_is_kept "_law_is_kept" = true)
    (kf__law_is_kept : PySem.W.keepIn K (.ref f__law_is_kept) = true)
    (af__law_is_set : PySem.W.nsIn K mainGlobals "_law_is_set" = some (some (.ref f__law_is_set)))
    (lf__law_is_set : K.lookup f__law_is_set = some ⟨oc__law_is_set, od__law_is_set, .func (PySem.W.fnOf "_law_is_set" "_law_is_set" (defArgs s__law_is_set) (defBody s__law_is_set) (defScope s__law_is_set) .none kV__law_is_set dc__law_is_set pm__law_is_set an__law_is_set cd__law_is_set ct__law_is_set), sl__law_is_set⟩)
    (cf__law_is_set : PySem.W.codeIn K cd__law_is_set "_law_is_set" = true)
    (kf__law_is_set : PySem.W.keepIn K (.ref f__law_is_set) = true)
    (af__law_of_one : PySem.W.nsIn K mainGlobals "_law_of_one" = some (some (.ref f__law_of_one)))
    (lf__law_of_one : K.lookup f__law_of_one = some ⟨oc__law_of_one, od__law_of_one, .func (PySem.W.fnOf "_law_of_one" "_law_of_one" (defArgs s__law_of_one) (defBody s__law_of_one) (defScope s__law_of_one) .none kV__law_of_one dc__law_of_one pm__law_of_one an__law_of_one cd__law_of_one ct__law_of_one), sl__law_of_one⟩)
    (cf__law_of_one : PySem.W.codeIn K cd__law_of_one "_law_of_one" = true)
    (kf__law_of_one : PySem.W.keepIn K (.ref f__law_of_one) = true)
    (af__law_of_two : PySem.W.nsIn K mainGlobals "_law_of_two" = some (some (.ref f__law_of_two)))
    (lf__law_of_two : K.lookup f__law_of_two = some ⟨oc__law_of_two, od__law_of_two, .func (PySem.W.fnOf "_law_of_two" "_law_of_two" (defArgs s__law_of_two) (defBody s__law_of_two) (defScope s__law_of_two) .none kV__law_of_two dc__law_of_two pm__law_of_two an__law_of_two cd__law_of_two ct__law_of_two), sl__law_of_two⟩)
    (cf__law_of_two : PySem.W.codeIn K cd__law_of_two "_law_of_two" = true)
    (kf__law_of_two : PySem.W.keepIn K (.ref f__law_of_two) = true)
    (af__law_row : PySem.W.nsIn K mainGlobals "_law_row" = some (some (.ref f__law_row)))
    (lf__law_row : K.lookup f__law_row = some ⟨oc__law_row, od__law_row, .func (PySem.W.fnOf "_law_row" "_law_row" (defArgs s__law_row) (defBody s__law_row) (defScope s__law_row) .none kV__law_row dc__law_row pm__law_row an__law_row cd__law_row ct__law_row), sl__law_row⟩)
    (cf__law_row : PySem.W.codeIn K cd__law_row "_law_row" = true)
    (kf__law_row : PySem.W.keepIn K (.ref f__law_row) = true)
    (af__law_made : PySem.W.nsIn K mainGlobals "_law_made" = some (some (.ref f__law_made)))
    (lf__law_made : K.lookup f__law_made = some ⟨oc__law_made, od__law_made, .func (PySem.W.fnOf "_law_made" "_law_made" (defArgs s__law_made) (defBody s__law_made) (defScope s__law_made) .none kV__law_made dc__law_made pm__law_made an__law_made cd__law_made ct__law_made), sl__law_made⟩)
    (cf__law_made : PySem.W.codeIn K cd__law_made "_law_made" = true)
    (kf__law_made : PySem.W.keepIn K (.ref f__law_made) = true)
    (af__law_tried : PySem.W.nsIn K mainGlobals "_law_tried" = some (some (.ref f__law_tried)))
    (lf__law_tried : K.lookup f__law_tried = some ⟨oc__law_tried, od__law_tried, .func (PySem.W.fnOf "_law_tried" "_law_tried" (defArgs s__law_tried) (defBody s__law_tried) (defScope s__law_tried) .none kV__law_tried dc__law_tried pm__law_tried an__law_tried cd__law_tried ct__law_tried), sl__law_tried⟩)
    (cf__law_tried : PySem.W.codeIn K cd__law_tried "_law_tried" = true)
    (kf__law_tried : PySem.W.keepIn K (.ref f__law_tried) = true)
    (af__law_next : PySem.W.nsIn K mainGlobals "_law_next" = some (some (.ref f__law_next)))
    (lf__law_next : K.lookup f__law_next = some ⟨oc__law_next, od__law_next, .func (PySem.W.fnOf "_law_next" "_law_next" (defArgs s__law_next) (defBody s__law_next) (defScope s__law_next) .none kV__law_next dc__law_next pm__law_next an__law_next cd__law_next ct__law_next), sl__law_next⟩)
    (cf__law_next : PySem.W.codeIn K cd__law_next "_law_next" = true)
    (kf__law_next : PySem.W.keepIn K (.ref f__law_next) = true)
    (af__law_derivation : PySem.W.nsIn K mainGlobals "_law_derivation" = some (some (.ref f__law_derivation)))
    (lf__law_derivation : K.lookup f__law_derivation = some ⟨oc__law_derivation, od__law_derivation, .func (PySem.W.fnOf "_law_derivation" "_law_derivation" (defArgs s__law_derivation) (defBody s__law_derivation) (defScope s__law_derivation) .none kV__law_derivation dc__law_derivation pm__law_derivation an__law_derivation cd__law_derivation ct__law_derivation), sl__law_derivation⟩)
    (cf__law_derivation : PySem.W.codeIn K cd__law_derivation "_law_derivation" = true)
    (kf__law_derivation : PySem.W.keepIn K (.ref f__law_derivation) = true)
    (af_law : PySem.W.nsIn K mainGlobals "law" = some (some (.ref f_law)))
    (lf_law : K.lookup f_law = some ⟨oc_law, od_law, .func (PySem.W.fnOf "law" "law" (defArgs s_law) (defBody s_law) (defScope s_law) .none kV_law dc_law pm_law an_law cd_law ct_law), sl_law⟩)
    (cf_law : PySem.W.codeIn K cd_law "law" = true)
    (kf_law : PySem.W.keepIn K (.ref f_law) = true)
    (ai_Fd___init__ : PySem.W.findIn K (.ref A_Fd) "__init__" = some (some (.ref f_Sides___init__)))
    (ai_Mvd___init__ : PySem.W.findIn K (.ref A_Mvd) "__init__" = some (some (.ref f_Sides___init__)))
    (ow_Fd : PySem.W.findIn K (.ref A_Fd) "__class__" = some (some (.builtin "object.__class__")))
    (om_Fd : PySem.W.mroIn K A_Fd (.type "object") = some true)
    (ow_Jd : PySem.W.findIn K (.ref A_Jd) "__class__" = some (some (.builtin "object.__class__")))
    (om_Jd : PySem.W.mroIn K A_Jd (.type "object") = some true)
    (ow_Mvd : PySem.W.findIn K (.ref A_Mvd) "__class__" = some (some (.builtin "object.__class__")))
    (om_Mvd : PySem.W.mroIn K A_Mvd (.type "object") = some true)
    (ospec : PySem.W.specialIn K (.builtin "object.__class__") "__get__" = some (some (.builtin "getset_descriptor.__get__")))
    (otak : PySem.W.takesIn K (.builtin "object.__class__") = some true)
    (ki_0 : PySem.W.kitOne K (.ref A_Fd) (.ref A_Fd) = some true)
    (ki_1 : PySem.W.kitOne K (.ref A_Fd) (.ref A_Mvd) = some false)
    (ki_2 : PySem.W.kitOne K (.ref A_Fd) (.ref A_Jd) = some false)
    (ki_3 : PySem.W.kitOne K (.ref A_Mvd) (.ref A_Fd) = some false)
    (ki_4 : PySem.W.kitOne K (.ref A_Mvd) (.ref A_Mvd) = some true)
    (ki_5 : PySem.W.kitOne K (.ref A_Mvd) (.ref A_Jd) = some false)
    (ki_6 : PySem.W.kitOne K (.ref A_Jd) (.ref A_Fd) = some false)
    (ki_7 : PySem.W.kitOne K (.ref A_Jd) (.ref A_Mvd) = some false)
    (ki_8 : PySem.W.kitOne K (.ref A_Jd) (.ref A_Jd) = some true)
    (ki_9 : PySem.W.kitOne K (.type "NoneType") (.ref A_Fd) = some false)
    (ki_10 : PySem.W.kitOne K (.type "NoneType") (.ref A_Mvd) = some false)
    (ki_11 : PySem.W.kitOne K (.type "int") (.type "tuple") = some false)
    (ki_12 : PySem.W.kitOne K (.type "tuple") (.type "tuple") = some true)
    (ki_13 : PySem.W.kitOne K (.type "bool") (.type "bool") = some true)
    (no_Fd_Fd : PySem.W.notFirst K A_Fd (.ref A_Fd) = true)
    (no_Fd_Jd : PySem.W.notFirst K A_Fd (.ref A_Jd) = true)
    (no_Fd_Mvd : PySem.W.notFirst K A_Fd (.ref A_Mvd) = true)
    (no_Mvd_Fd : PySem.W.notFirst K A_Mvd (.ref A_Fd) = true)
    (no_Mvd_Jd : PySem.W.notFirst K A_Mvd (.ref A_Jd) = true)
    (no_Mvd_Mvd : PySem.W.notFirst K A_Mvd (.ref A_Mvd) = true)
    (z_len : PySem.W.nsIn K mainGlobals "len" = some none)
    (z_range : PySem.W.nsIn K mainGlobals "range" = some none)
    (z_enumerate : PySem.W.nsIn K mainGlobals "enumerate" = some none)
    (z_zip : PySem.W.nsIn K mainGlobals "zip" = some none)
    (z_sorted : PySem.W.nsIn K mainGlobals "sorted" = some none)
    (z_set : PySem.W.nsIn K mainGlobals "set" = some none)
    (z_all : PySem.W.nsIn K mainGlobals "all" = some none)
    (z_any : PySem.W.nsIn K mainGlobals "any" = some none)
    (z_isinstance : PySem.W.nsIn K mainGlobals "isinstance" = some none)
    (z_max : PySem.W.nsIn K mainGlobals "max" = some none)
    (z_min : PySem.W.nsIn K mainGlobals "min" = some none)
    (z_reversed : PySem.W.nsIn K mainGlobals "reversed" = some none)
    (z_tuple : PySem.W.nsIn K mainGlobals "tuple" = some none)
    (z_list : PySem.W.nsIn K mainGlobals "list" = some none)
    (z_int : PySem.W.nsIn K mainGlobals "int" = some none)
    (z_str : PySem.W.nsIn K mainGlobals "str" = some none)
    (z_dict : PySem.W.nsIn K mainGlobals "dict" = some none)
    (z_bool : PySem.W.nsIn K mainGlobals "bool" = some none)
    : ∃ fd : FuncData, (∀ (s : Shared) (v : Value), BindsTo s fd ⟨[v], []⟩ [("_law_script", v)]) ∧ ∀ base : Heap, K.In base → base.Ns mainGlobals mg → FnOk l.prog w K mg base CX0 9 fa fd ["_law_script"] (spD ⟨K, mg⟩ 1 phi_law) := by
  have e := hfa.symm.trans (PySem.W.mg_of X G af_law)
  cases e
  have B : Blt mg := ⟨PySem.W.mg_none_of X G z_len, PySem.W.mg_none_of X G z_range, PySem.W.mg_none_of X G z_enumerate, PySem.W.mg_none_of X G z_zip, PySem.W.mg_none_of X G z_sorted, PySem.W.mg_none_of X G z_set, PySem.W.mg_none_of X G z_all, PySem.W.mg_none_of X G z_any, PySem.W.mg_none_of X G z_isinstance, PySem.W.mg_none_of X G z_max, PySem.W.mg_none_of X G z_min, PySem.W.mg_none_of X G z_reversed, PySem.W.mg_none_of X G z_tuple, PySem.W.mg_none_of X G z_list, PySem.W.mg_none_of X G z_int, PySem.W.mg_none_of X G z_str, PySem.W.mg_none_of X G z_dict, PySem.W.mg_none_of X G z_bool⟩
  have cl_Fd : Cls K A_Fd := ⟨pg_Fd, hd_Fd, po_Fd, sa_Fd⟩
  have cl_Jd : Cls K A_Jd := ⟨pg_Jd, hd_Jd, po_Jd, sa_Jd⟩
  have cl_Mvd : Cls K A_Mvd := ⟨pg_Mvd, hd_Mvd, po_Mvd, sa_Mvd⟩
  have mc_Sides : mg "Sides" = some (.ref A_Sides) := PySem.W.mg_of X G ac_Sides
  have mc_Fd : mg "Fd" = some (.ref A_Fd) := PySem.W.mg_of X G ac_Fd
  have mc_Mvd : mg "Mvd" = some (.ref A_Mvd) := PySem.W.mg_of X G ac_Mvd
  have mc_Jd : mg "Jd" = some (.ref A_Jd) := PySem.W.mg_of X G ac_Jd
  have mc_Replay : mg "Replay" = some (.ref A_Replay) := PySem.W.mg_of X G ac_Replay
  have mc_TableError : mg "TableError" = some (.ref A_TableError) := PySem.W.mg_of X G ac_TableError
  have mc_InvalidTable : mg "InvalidTable" = some (.ref A_InvalidTable) := PySem.W.mg_of X G ac_InvalidTable
  have mc_Table : mg "Table" = some (.ref A_Table) := PySem.W.mg_of X G ac_Table
  have hisi : ∀ a b r, (a, b, r) ∈ isiTbl → IsiF K mg a b r := by
    intro a b r hm
    simp only [isiTbl, List.mem_cons, List.not_mem_nil, or_false, Prod.mk.injEq] at hm
    rcases hm with ⟨rfl, rfl, rfl⟩ | ⟨rfl, rfl, rfl⟩ | ⟨rfl, rfl, rfl⟩ | ⟨rfl, rfl, rfl⟩ | ⟨rfl, rfl, rfl⟩ | ⟨rfl, rfl, rfl⟩ | ⟨rfl, rfl, rfl⟩ | ⟨rfl, rfl, rfl⟩ | ⟨rfl, rfl, rfl⟩ | ⟨rfl, rfl, rfl⟩ | ⟨rfl, rfl, rfl⟩ | ⟨rfl, rfl, rfl⟩ | ⟨rfl, rfl, rfl⟩ | ⟨rfl, rfl, rfl⟩
    · exact ⟨(fun c hc => by cases hc; exact ⟨⟨A_Fd, mc_Fd, cl_Fd, ow_Fd, ospec, otak, om_Fd⟩⟩), _, _, ⟨mc_Fd, A_Fd, rfl⟩, ⟨mc_Fd, A_Fd, rfl⟩, ki_0⟩
    · exact ⟨(fun c hc => by cases hc; exact ⟨⟨A_Fd, mc_Fd, cl_Fd, ow_Fd, ospec, otak, om_Fd⟩⟩), _, _, ⟨mc_Fd, A_Fd, rfl⟩, ⟨mc_Mvd, A_Mvd, rfl⟩, ki_1⟩
    · exact ⟨(fun c hc => by cases hc; exact ⟨⟨A_Fd, mc_Fd, cl_Fd, ow_Fd, ospec, otak, om_Fd⟩⟩), _, _, ⟨mc_Fd, A_Fd, rfl⟩, ⟨mc_Jd, A_Jd, rfl⟩, ki_2⟩
    · exact ⟨(fun c hc => by cases hc; exact ⟨⟨A_Mvd, mc_Mvd, cl_Mvd, ow_Mvd, ospec, otak, om_Mvd⟩⟩), _, _, ⟨mc_Mvd, A_Mvd, rfl⟩, ⟨mc_Fd, A_Fd, rfl⟩, ki_3⟩
    · exact ⟨(fun c hc => by cases hc; exact ⟨⟨A_Mvd, mc_Mvd, cl_Mvd, ow_Mvd, ospec, otak, om_Mvd⟩⟩), _, _, ⟨mc_Mvd, A_Mvd, rfl⟩, ⟨mc_Mvd, A_Mvd, rfl⟩, ki_4⟩
    · exact ⟨(fun c hc => by cases hc; exact ⟨⟨A_Mvd, mc_Mvd, cl_Mvd, ow_Mvd, ospec, otak, om_Mvd⟩⟩), _, _, ⟨mc_Mvd, A_Mvd, rfl⟩, ⟨mc_Jd, A_Jd, rfl⟩, ki_5⟩
    · exact ⟨(fun c hc => by cases hc; exact ⟨⟨A_Jd, mc_Jd, cl_Jd, ow_Jd, ospec, otak, om_Jd⟩⟩), _, _, ⟨mc_Jd, A_Jd, rfl⟩, ⟨mc_Fd, A_Fd, rfl⟩, ki_6⟩
    · exact ⟨(fun c hc => by cases hc; exact ⟨⟨A_Jd, mc_Jd, cl_Jd, ow_Jd, ospec, otak, om_Jd⟩⟩), _, _, ⟨mc_Jd, A_Jd, rfl⟩, ⟨mc_Mvd, A_Mvd, rfl⟩, ki_7⟩
    · exact ⟨(fun c hc => by cases hc; exact ⟨⟨A_Jd, mc_Jd, cl_Jd, ow_Jd, ospec, otak, om_Jd⟩⟩), _, _, ⟨mc_Jd, A_Jd, rfl⟩, ⟨mc_Jd, A_Jd, rfl⟩, ki_8⟩
    · exact ⟨(fun c hc => nomatch hc), _, _, rfl, ⟨mc_Fd, A_Fd, rfl⟩, ki_9⟩
    · exact ⟨(fun c hc => nomatch hc), _, _, rfl, ⟨mc_Mvd, A_Mvd, rfl⟩, ki_10⟩
    · exact ⟨(fun c hc => nomatch hc), _, _, rfl, rfl, ki_11⟩
    · exact ⟨(fun c hc => nomatch hc), _, _, rfl, rfl, ki_12⟩
    · exact ⟨(fun c hc => nomatch hc), _, _, rfl, rfl, ki_13⟩
  have T : Txt K mg := ⟨⟨⟨A_Fd, mc_Fd, cl_Fd, nf_Fd_left⟩⟩, ⟨⟨A_Fd, mc_Fd, cl_Fd, nf_Fd_right⟩⟩, ⟨⟨A_Jd, mc_Jd, cl_Jd, nf_Jd_parts⟩⟩, ⟨⟨A_Mvd, mc_Mvd, cl_Mvd, nf_Mvd_left⟩⟩, ⟨⟨A_Mvd, mc_Mvd, cl_Mvd, nf_Mvd_right⟩⟩, ⟨A_Fd, mc_Fd⟩, ⟨A_Jd, mc_Jd⟩, ⟨A_Mvd, mc_Mvd⟩, ⟨⟨A_Fd, A_Fd, mc_Fd, mc_Fd, no_Fd_Fd⟩⟩, ⟨⟨A_Fd, A_Jd, mc_Fd, mc_Jd, no_Fd_Jd⟩⟩, ⟨⟨A_Fd, A_Mvd, mc_Fd, mc_Mvd, no_Fd_Mvd⟩⟩, ⟨⟨A_Mvd, A_Fd, mc_Mvd, mc_Fd, no_Mvd_Fd⟩⟩, ⟨⟨A_Mvd, A_Jd, mc_Mvd, mc_Jd, no_Mvd_Jd⟩⟩, ⟨⟨A_Mvd, A_Mvd, mc_Mvd, mc_Mvd, no_Mvd_Mvd⟩⟩, hisi⟩
  have C : Cst mg := ⟨trivial⟩
  have F_as_set := fun_mk (st := s_as_set) lf_as_set cf_as_set kf_as_set
  have b_as_set := F_as_set.binds (ps := ["columns"]) fun _ _ _ _ _ _ us hl => match us, hl with | [_], _ => rfl
  have F_united := fun_mk (st := s_united) lf_united cf_united kf_united
  have b_united := F_united.binds (ps := ["a", "b"]) fun _ _ _ _ _ _ us hl => match us, hl with | [_, _], _ => rfl
  have F_met := fun_mk (st := s_met) lf_met cf_met kf_met
  have b_met := F_met.binds (ps := ["a", "b"]) fun _ _ _ _ _ _ us hl => match us, hl with | [_, _], _ => rfl
  have F_less := fun_mk (st := s_less) lf_less cf_less kf_less
  have b_less := F_less.binds (ps := ["a", "b"]) fun _ _ _ _ _ _ us hl => match us, hl with | [_, _], _ => rfl
  have F_is_within := fun_mk (st := s_is_within) lf_is_within cf_is_within kf_is_within
  have b_is_within := F_is_within.binds (ps := ["a", "b"]) fun _ _ _ _ _ _ us hl => match us, hl with | [_, _], _ => rfl
  have F_whole := fun_mk (st := s_whole) lf_whole cf_whole kf_whole
  have b_whole := F_whole.binds (ps := ["count"]) fun _ _ _ _ _ _ us hl => match us, hl with | [_], _ => rfl
  have F_Sides___init__ := fun_mk (st := s_Sides___init__) lf_Sides___init__ cf_Sides___init__ kf_Sides___init__
  have b_Sides___init__ := F_Sides___init__.binds (ps := ["self", "left", "right"]) fun _ _ _ _ _ _ us hl => match us, hl with | [_, _, _], _ => rfl
  have F_Sides_key := fun_mk (st := s_Sides_key) lf_Sides_key cf_Sides_key kf_Sides_key
  have b_Sides_key := F_Sides_key.binds (ps := ["self"]) fun _ _ _ _ _ _ us hl => match us, hl with | [_], _ => rfl
  have F_Fd___eq__ := fun_mk (st := s_Fd___eq__) lf_Fd___eq__ cf_Fd___eq__ kf_Fd___eq__
  have b_Fd___eq__ := F_Fd___eq__.binds (ps := ["self", "other"]) fun _ _ _ _ _ _ us hl => match us, hl with | [_, _], _ => rfl
  have F_Mvd___eq__ := fun_mk (st := s_Mvd___eq__) lf_Mvd___eq__ cf_Mvd___eq__ kf_Mvd___eq__
  have b_Mvd___eq__ := F_Mvd___eq__.binds (ps := ["self", "other"]) fun _ _ _ _ _ _ us hl => match us, hl with | [_, _], _ => rfl
  have F_Jd___init__ := fun_mk (st := s_Jd___init__) lf_Jd___init__ cf_Jd___init__ kf_Jd___init__
  have b_Jd___init__ := F_Jd___init__.binds (ps := ["self", "parts"]) fun _ _ _ _ _ _ us hl => match us, hl with | [_, _], _ => rfl
  have F_is_set := fun_mk (st := s_is_set) lf_is_set cf_is_set kf_is_set
  have b_is_set := F_is_set.binds (ps := ["columns", "count"]) fun _ _ _ _ _ _ us hl => match us, hl with | [_, _], _ => rfl
  have F_earlier := fun_mk (st := s_earlier) lf_earlier cf_earlier kf_earlier
  have b_earlier := F_earlier.binds (ps := ["made", "index"]) fun _ _ _ _ _ _ us hl => match us, hl with | [_, _], _ => rfl
  have F_by_told := fun_mk (st := s_by_told) lf_by_told cf_by_told kf_by_told
  have b_by_told := F_by_told.binds (ps := ["dependencies", "index"]) fun _ _ _ _ _ _ us hl => match us, hl with | [_, _], _ => rfl
  have F_by_within := fun_mk (st := s_by_within) lf_by_within cf_by_within kf_by_within
  have b_by_within := F_by_within.binds (ps := ["count", "left", "right"]) fun _ _ _ _ _ _ us hl => match us, hl with | [_, _, _], _ => rfl
  have F_by_with := fun_mk (st := s_by_with) lf_by_with cf_by_with kf_by_with
  have b_by_with := F_by_with.binds (ps := ["count", "first", "columns"]) fun _ _ _ _ _ _ us hl => match us, hl with | [_, _, _], _ => rfl
  have F_by_through := fun_mk (st := s_by_through) lf_by_through cf_by_through kf_by_through
  have b_by_through := F_by_through.binds (ps := ["first", "second"]) fun _ _ _ _ _ _ us hl => match us, hl with | [_, _], _ => rfl
  have F_by_also := fun_mk (st := s_by_also) lf_by_also cf_by_also kf_by_also
  have b_by_also := F_by_also.binds (ps := ["first"]) fun _ _ _ _ _ _ us hl => match us, hl with | [_], _ => rfl
  have F_by_other := fun_mk (st := s_by_other) lf_by_other cf_by_other kf_by_other
  have b_by_other := F_by_other.binds (ps := ["count", "first"]) fun _ _ _ _ _ _ us hl => match us, hl with | [_, _], _ => rfl
  have F_by_wide := fun_mk (st := s_by_wide) lf_by_wide cf_by_wide kf_by_wide
  have b_by_wide := F_by_wide.binds (ps := ["count", "first", "columns", "some"]) fun _ _ _ _ _ _ us hl => match us, hl with | [_, _, _, _], _ => rfl
  have F_by_beyond := fun_mk (st := s_by_beyond) lf_by_beyond cf_by_beyond kf_by_beyond
  have b_by_beyond := F_by_beyond.binds (ps := ["first", "second"]) fun _ _ _ _ _ _ us hl => match us, hl with | [_, _], _ => rfl
  have F_by_meets := fun_mk (st := s_by_meets) lf_by_meets cf_by_meets kf_by_meets
  have b_by_meets := F_by_meets.binds (ps := ["first", "second"]) fun _ _ _ _ _ _ us hl => match us, hl with | [_, _], _ => rfl
  have F_of_one := fun_mk (st := s_of_one) lf_of_one cf_of_one kf_of_one
  have b_of_one := F_of_one.binds (ps := ["count", "first", "row"]) fun _ _ _ _ _ _ us hl => match us, hl with | [_, _, _], _ => rfl
  have F_of_two := fun_mk (st := s_of_two) lf_of_two cf_of_two kf_of_two
  have b_of_two := F_of_two.binds (ps := ["first", "second", "word"]) fun _ _ _ _ _ _ us hl => match us, hl with | [_, _, _], _ => rfl
  have F_row_tells := fun_mk (st := s_row_tells) lf_row_tells cf_row_tells kf_row_tells
  have b_row_tells := F_row_tells.binds (ps := ["count", "dependencies", "made", "row"]) fun _ _ _ _ _ _ us hl => match us, hl with | [_, _, _, _], _ => rfl
  have F_derives := fun_mk (st := s_derives) lf_derives cf_derives kf_derives
  have b_derives := F_derives.binds (ps := ["count", "dependencies", "target", "rows"]) fun _ _ _ _ _ _ us hl => match us, hl with | [_, _, _, _], _ => rfl
  have F_takes := fun_mk (st := s_takes) lf_takes cf_takes kf_takes
  have b_takes := F_takes.binds (ps := ["count", "dependencies", "target", "verdict", "paper"]) fun _ _ _ _ _ _ us hl => match us, hl with | [_, _, _, _, _], _ => rfl
  have F__law_numbers := fun_mk (st := s__law_numbers) lf__law_numbers cf__law_numbers kf__law_numbers
  have b__law_numbers := F__law_numbers.binds (ps := ["_law_script", "_law_count"]) fun _ _ _ _ _ _ us hl => match us, hl with | [_, _], _ => rfl
  have F__law_set := fun_mk (st := s__law_set) lf__law_set cf__law_set kf__law_set
  have b__law_set := F__law_set.binds (ps := ["_law_number", "_law_count"]) fun _ _ _ _ _ _ us hl => match us, hl with | [_, _], _ => rfl
  have F__law_sparse := fun_mk (st := s__law_sparse) lf__law_sparse cf__law_sparse kf__law_sparse
  have b__law_sparse := F__law_sparse.binds (ps := ["_law_number", "_law_count"]) fun _ _ _ _ _ _ us hl => match us, hl with | [_, _], _ => rfl
  have F__law_united := fun_mk (st := s__law_united) lf__law_united cf__law_united kf__law_united
  have b__law_united := F__law_united.binds (ps := ["_law_a", "_law_b"]) fun _ _ _ _ _ _ us hl => match us, hl with | [_, _], _ => rfl
  have F__law_met := fun_mk (st := s__law_met) lf__law_met cf__law_met kf__law_met
  have b__law_met := F__law_met.binds (ps := ["_law_a", "_law_b"]) fun _ _ _ _ _ _ us hl => match us, hl with | [_, _], _ => rfl
  have F__law_less := fun_mk (st := s__law_less) lf__law_less cf__law_less kf__law_less
  have b__law_less := F__law_less.binds (ps := ["_law_a", "_law_b"]) fun _ _ _ _ _ _ us hl => match us, hl with | [_, _], _ => rfl
  have F__law_is_within := fun_mk (st := s__law_is_within) lf__law_is_within cf__law_is_within kf__law_is_within
  have b__law_is_within := F__law_is_within.binds (ps := ["_law_a", "_law_b"]) fun _ _ _ _ _ _ us hl => match us, hl with | [_, _], _ => rfl
  have F__law_dependency := fun_mk (st := s__law_dependency) lf__law_dependency cf__law_dependency kf__law_dependency
  have b__law_dependency := F__law_dependency.binds (ps := ["_law_numbers_here", "_law_place", "_law_count"]) fun _ _ _ _ _ _ us hl => match us, hl with | [_, _, _], _ => rfl
  have F__law_told := fun_mk (st := s__law_told) lf__law_told cf__law_told kf__law_told
  have b__law_told := F__law_told.binds (ps := ["_law_numbers_here", "_law_place", "_law_count", "_law_many"]) fun _ _ _ _ _ _ us hl => match us, hl with | [_, _, _, _], _ => rfl
  have F__law_object := fun_mk (st := s__law_object) lf__law_object cf__law_object kf__law_object
  have b__law_object := F__law_object.binds (ps := ["_law_dependency_here"]) fun _ _ _ _ _ _ us hl => match us, hl with | [_], _ => rfl
  have F__law_is_kept := fun_mk (st := s__law_is_kept) lf__law_is_kept cf__law_is_kept kf__law_is_kept
  have b__law_is_kept := F__law_is_kept.binds (ps := ["_law_objects", "_law_told_here"]) fun _ _ _ _ _ _ us hl => match us, hl with | [_, _], _ => rfl
  have F__law_is_set := fun_mk (st := s__law_is_set) lf__law_is_set cf__law_is_set kf__law_is_set
  have b__law_is_set := F__law_is_set.binds (ps := ["_law_columns", "_law_count"]) fun _ _ _ _ _ _ us hl => match us, hl with | [_, _], _ => rfl
  have F__law_of_one := fun_mk (st := s__law_of_one) lf__law_of_one cf__law_of_one kf__law_of_one
  have b__law_of_one := F__law_of_one.binds (ps := ["_law_count", "_law_one", "_law_row_here"]) fun _ _ _ _ _ _ us hl => match us, hl with | [_, _, _], _ => rfl
  have F__law_of_two := fun_mk (st := s__law_of_two) lf__law_of_two cf__law_of_two kf__law_of_two
  have b__law_of_two := F__law_of_two.binds (ps := ["_law_one", "_law_two", "_law_word"]) fun _ _ _ _ _ _ us hl => match us, hl with | [_, _, _], _ => rfl
  have F__law_row := fun_mk (st := s__law_row) lf__law_row cf__law_row kf__law_row
  have b__law_row := F__law_row.binds (ps := ["_law_count", "_law_told_here", "_law_made_here", "_law_row_here"]) fun _ _ _ _ _ _ us hl => match us, hl with | [_, _, _, _], _ => rfl
  have F__law_made := fun_mk (st := s__law_made) lf__law_made cf__law_made kf__law_made
  have b__law_made := F__law_made.binds (ps := ["_law_count", "_law_told_here", "_law_rows"]) fun _ _ _ _ _ _ us hl => match us, hl with | [_, _, _], _ => rfl
  have F__law_tried := fun_mk (st := s__law_tried) lf__law_tried cf__law_tried kf__law_tried
  have b__law_tried := F__law_tried.binds (ps := ["_law_numbers_here", "_law_place", "_law_count", "_law_made_here", "_law_told_here", "_law_word"]) fun _ _ _ _ _ _ us hl => match us, hl with | [_, _, _, _, _, _], _ => rfl
  have F__law_next := fun_mk (st := s__law_next) lf__law_next cf__law_next kf__law_next
  have b__law_next := F__law_next.binds (ps := ["_law_numbers_here", "_law_place", "_law_count", "_law_told_here", "_law_made_here"]) fun _ _ _ _ _ _ us hl => match us, hl with | [_, _, _, _, _], _ => rfl
  have F__law_derivation := fun_mk (st := s__law_derivation) lf__law_derivation cf__law_derivation kf__law_derivation
  have b__law_derivation := F__law_derivation.binds (ps := ["_law_numbers_here", "_law_place", "_law_count", "_law_told_here", "_law_size"]) fun _ _ _ _ _ _ us hl => match us, hl with | [_, _, _, _, _], _ => rfl
  have F_law := fun_mk (st := s_law) lf_law cf_law kf_law
  refine ⟨PySem.W.fnOf "law" "law" (defArgs s_law) (defBody s_law) (defScope s_law) .none kV_law dc_law pm_law an_law cd_law ct_law, fun s v => .of_eq rfl, fun base _ _ => ?_⟩
  have G_as_set : FnOk l.prog w K mg base CX0 1 f_as_set _ ["columns"] (spD ⟨K, mg⟩ 1 phi_as_set) := ok_as_set F_as_set B T C 
  have C_as_set : Cal l.prog w K mg base 1 "as_set" 1 phi_as_set := ⟨f_as_set, _, _, G_as_set, PySem.W.mg_of X G af_as_set, kf_as_set, b_as_set⟩
  have G_united : FnOk l.prog w K mg base CX0 2 f_united _ ["a", "b"] (spD ⟨K, mg⟩ 2 phi_united) := ok_united F_united B T C C_as_set
  have G_met : FnOk l.prog w K mg base CX0 1 f_met _ ["a", "b"] (spD ⟨K, mg⟩ 2 phi_met) := ok_met F_met B T C 
  have G_less : FnOk l.prog w K mg base CX0 1 f_less _ ["a", "b"] (spD ⟨K, mg⟩ 2 phi_less) := ok_less F_less B T C 
  have G_is_within : FnOk l.prog w K mg base CX0 1 f_is_within _ ["a", "b"] (spD ⟨K, mg⟩ 2 phi_is_within) := ok_is_within F_is_within B T C 
  have G_whole : FnOk l.prog w K mg base CX0 1 f_whole _ ["count"] (spD ⟨K, mg⟩ 1 phi_whole) := ok_whole F_whole B T C 
  have G_Sides___init__ : FnOk l.prog w K mg base CX0 2 f_Sides___init__ _ ["self", "left", "right"] (spD ⟨K, mg⟩ 3 phi_Sides___init__) := ok_Sides___init__ F_Sides___init__ B T C C_as_set
  have G_Sides_key : FnOk l.prog w K mg base CX0 1 f_Sides_key _ ["self"] (spD ⟨K, mg⟩ 1 phi_Sides_key) := ok_Sides_key F_Sides_key B T C 
  have C_Fd_key : CalP l.prog w K mg base 1 "Fd" "key" phi_Sides_key := ⟨A_Fd, p_Fd_key, f_Sides_key, _, _, mc_Fd, cl_Fd, ⟨pa_Fd_key, pq_Fd_key, pt_Fd_key, _, pr_Fd_key⟩, G_Sides_key, b_Sides_key⟩
  have G_Fd___eq__ : FnOk l.prog w K mg base CX0 3 f_Fd___eq__ _ ["self", "other"] (spD ⟨K, mg⟩ 2 phi_Fd___eq__) := ok_Fd___eq__ F_Fd___eq__ B T C C_Fd_key
  have C_Mvd_key : CalP l.prog w K mg base 1 "Mvd" "key" phi_Sides_key := ⟨A_Mvd, p_Mvd_key, f_Sides_key, _, _, mc_Mvd, cl_Mvd, ⟨pa_Mvd_key, pq_Mvd_key, pt_Mvd_key, _, pr_Mvd_key⟩, G_Sides_key, b_Sides_key⟩
  have G_Mvd___eq__ : FnOk l.prog w K mg base CX0 3 f_Mvd___eq__ _ ["self", "other"] (spD ⟨K, mg⟩ 2 phi_Mvd___eq__) := ok_Mvd___eq__ F_Mvd___eq__ B T C C_Mvd_key
  have G_Jd___init__ : FnOk l.prog w K mg base CX0 2 f_Jd___init__ _ ["self", "parts"] (spD ⟨K, mg⟩ 2 phi_Jd___init__) := ok_Jd___init__ F_Jd___init__ B T C C_as_set
  have C_whole : Cal l.prog w K mg base 1 "whole" 1 phi_whole := ⟨f_whole, _, _, G_whole, PySem.W.mg_of X G af_whole, kf_whole, b_whole⟩
  have C_is_within : Cal l.prog w K mg base 1 "is_within" 2 phi_is_within := ⟨f_is_within, _, _, G_is_within, PySem.W.mg_of X G af_is_within, kf_is_within, b_is_within⟩
  have G_is_set : FnOk l.prog w K mg base CX0 2 f_is_set _ ["columns", "count"] (spD ⟨K, mg⟩ 2 phi_is_set) := ok_is_set F_is_set B T C C_as_set C_whole C_is_within
  have G_earlier : FnOk l.prog w K mg base CX0 1 f_earlier _ ["made", "index"] (spD ⟨K, mg⟩ 2 phi_earlier) := ok_earlier F_earlier B T C 
  have G_by_told : FnOk l.prog w K mg base CX0 1 f_by_told _ ["dependencies", "index"] (spD ⟨K, mg⟩ 2 phi_by_told) := ok_by_told F_by_told B T C 
  have C_is_set : Cal l.prog w K mg base 2 "is_set" 2 phi_is_set := ⟨f_is_set, _, _, G_is_set, PySem.W.mg_of X G af_is_set, kf_is_set, b_is_set⟩
  have C_Fd : CalC l.prog w K mg base 2 "Fd" 3 phi_Sides___init__ := ⟨A_Fd, f_Sides___init__, _, _, mc_Fd, ⟨mk_Fd, ai_Fd___init__, if_Sides___init__, kc_Fd⟩, G_Sides___init__, b_Sides___init__⟩
  have G_by_within : FnOk l.prog w K mg base CX0 4 f_by_within _ ["count", "left", "right"] (spD ⟨K, mg⟩ 3 phi_by_within) := ok_by_within F_by_within B T C C_is_set C_is_within C_Fd
  have C_united : Cal l.prog w K mg base 2 "united" 2 phi_united := ⟨f_united, _, _, G_united, PySem.W.mg_of X G af_united, kf_united, b_united⟩
  have G_by_with : FnOk l.prog w K mg base CX0 4 f_by_with _ ["count", "first", "columns"] (spD ⟨K, mg⟩ 3 phi_by_with) := ok_by_with F_by_with B T C C_is_set C_Fd C_united
  have G_by_through : FnOk l.prog w K mg base CX0 4 f_by_through _ ["first", "second"] (spD ⟨K, mg⟩ 2 phi_by_through) := ok_by_through F_by_through B T C C_Fd
  have C_Mvd : CalC l.prog w K mg base 2 "Mvd" 3 phi_Sides___init__ := ⟨A_Mvd, f_Sides___init__, _, _, mc_Mvd, ⟨mk_Mvd, ai_Mvd___init__, if_Sides___init__, kc_Mvd⟩, G_Sides___init__, b_Sides___init__⟩
  have G_by_also : FnOk l.prog w K mg base CX0 4 f_by_also _ ["first"] (spD ⟨K, mg⟩ 1 phi_by_also) := ok_by_also F_by_also B T C C_Mvd
  have C_less : Cal l.prog w K mg base 1 "less" 2 phi_less := ⟨f_less, _, _, G_less, PySem.W.mg_of X G af_less, kf_less, b_less⟩
  have G_by_other : FnOk l.prog w K mg base CX0 4 f_by_other _ ["count", "first"] (spD ⟨K, mg⟩ 2 phi_by_other) := ok_by_other F_by_other B T C C_Mvd C_whole C_united C_less
  have G_by_wide : FnOk l.prog w K mg base CX0 4 f_by_wide _ ["count", "first", "columns", "some"] (spD ⟨K, mg⟩ 4 phi_by_wide) := ok_by_wide F_by_wide B T C C_is_set C_is_within C_Mvd C_united
  have G_by_beyond : FnOk l.prog w K mg base CX0 4 f_by_beyond _ ["first", "second"] (spD ⟨K, mg⟩ 2 phi_by_beyond) := ok_by_beyond F_by_beyond B T C C_Mvd C_less
  have C_met : Cal l.prog w K mg base 1 "met" 2 phi_met := ⟨f_met, _, _, G_met, PySem.W.mg_of X G af_met, kf_met, b_met⟩
  have G_by_meets : FnOk l.prog w K mg base CX0 4 f_by_meets _ ["first", "second"] (spD ⟨K, mg⟩ 2 phi_by_meets) := ok_by_meets F_by_meets B T C C_is_within C_met C_Fd
  have C_by_with : Cal l.prog w K mg base 4 "by_with" 3 phi_by_with := ⟨f_by_with, _, _, G_by_with, PySem.W.mg_of X G af_by_with, kf_by_with, b_by_with⟩
  have C_by_also : Cal l.prog w K mg base 4 "by_also" 1 phi_by_also := ⟨f_by_also, _, _, G_by_also, PySem.W.mg_of X G af_by_also, kf_by_also, b_by_also⟩
  have C_by_other : Cal l.prog w K mg base 4 "by_other" 2 phi_by_other := ⟨f_by_other, _, _, G_by_other, PySem.W.mg_of X G af_by_other, kf_by_other, b_by_other⟩
  have C_by_wide : Cal l.prog w K mg base 4 "by_wide" 4 phi_by_wide := ⟨f_by_wide, _, _, G_by_wide, PySem.W.mg_of X G af_by_wide, kf_by_wide, b_by_wide⟩
  have G_of_one : FnOk l.prog w K mg base CX0 5 f_of_one _ ["count", "first", "row"] (spD ⟨K, mg⟩ 3 phi_of_one) := ok_of_one F_of_one B T C C_by_with C_by_also C_by_other C_by_wide
  have C_by_through : Cal l.prog w K mg base 4 "by_through" 2 phi_by_through := ⟨f_by_through, _, _, G_by_through, PySem.W.mg_of X G af_by_through, kf_by_through, b_by_through⟩
  have C_by_beyond : Cal l.prog w K mg base 4 "by_beyond" 2 phi_by_beyond := ⟨f_by_beyond, _, _, G_by_beyond, PySem.W.mg_of X G af_by_beyond, kf_by_beyond, b_by_beyond⟩
  have C_by_meets : Cal l.prog w K mg base 4 "by_meets" 2 phi_by_meets := ⟨f_by_meets, _, _, G_by_meets, PySem.W.mg_of X G af_by_meets, kf_by_meets, b_by_meets⟩
  have G_of_two : FnOk l.prog w K mg base CX0 5 f_of_two _ ["first", "second", "word"] (spD ⟨K, mg⟩ 3 phi_of_two) := ok_of_two F_of_two B T C C_by_through C_by_beyond C_by_meets
  have C_by_told : Cal l.prog w K mg base 1 "by_told" 2 phi_by_told := ⟨f_by_told, _, _, G_by_told, PySem.W.mg_of X G af_by_told, kf_by_told, b_by_told⟩
  have C_by_within : Cal l.prog w K mg base 4 "by_within" 3 phi_by_within := ⟨f_by_within, _, _, G_by_within, PySem.W.mg_of X G af_by_within, kf_by_within, b_by_within⟩
  have C_earlier : Cal l.prog w K mg base 1 "earlier" 2 phi_earlier := ⟨f_earlier, _, _, G_earlier, PySem.W.mg_of X G af_earlier, kf_earlier, b_earlier⟩
  have C_of_two : Cal l.prog w K mg base 5 "of_two" 3 phi_of_two := ⟨f_of_two, _, _, G_of_two, PySem.W.mg_of X G af_of_two, kf_of_two, b_of_two⟩
  have C_of_one : Cal l.prog w K mg base 5 "of_one" 3 phi_of_one := ⟨f_of_one, _, _, G_of_one, PySem.W.mg_of X G af_of_one, kf_of_one, b_of_one⟩
  have G_row_tells : FnOk l.prog w K mg base CX0 6 f_row_tells _ ["count", "dependencies", "made", "row"] (spD ⟨K, mg⟩ 4 phi_row_tells) := ok_row_tells F_row_tells B T C C_by_told C_by_within C_earlier C_of_two C_of_one
  have C_row_tells : Cal l.prog w K mg base 6 "row_tells" 4 phi_row_tells := ⟨f_row_tells, _, _, G_row_tells, PySem.W.mg_of X G af_row_tells, kf_row_tells, b_row_tells⟩
  have C_Fd___eq__ : CalM l.prog w K mg base 3 "Fd" "__eq__" 2 phi_Fd___eq__ := ⟨A_Fd, f_Fd___eq__, _, _, mc_Fd, cl_Fd, ⟨af_Fd___eq__, if_Fd___eq__, kf_Fd___eq__⟩, G_Fd___eq__, b_Fd___eq__⟩
  have C_Mvd___eq__ : CalM l.prog w K mg base 3 "Mvd" "__eq__" 2 phi_Mvd___eq__ := ⟨A_Mvd, f_Mvd___eq__, _, _, mc_Mvd, cl_Mvd, ⟨af_Mvd___eq__, if_Mvd___eq__, kf_Mvd___eq__⟩, G_Mvd___eq__, b_Mvd___eq__⟩
  have G_derives : FnOk l.prog w K mg base CX0 7 f_derives _ ["count", "dependencies", "target", "rows"] (spD ⟨K, mg⟩ 4 phi_derives) := ok_derives F_derives B T C C_row_tells C_Fd___eq__ C_Mvd___eq__
  have C_derives : Cal l.prog w K mg base 7 "derives" 4 phi_derives := ⟨f_derives, _, _, G_derives, PySem.W.mg_of X G af_derives, kf_derives, b_derives⟩
  have G_takes : FnOk l.prog w K mg base CX0 8 f_takes _ ["count", "dependencies", "target", "verdict", "paper"] (spD ⟨K, mg⟩ 5 phi_takes) := ok_takes F_takes B T C C_derives
  have G__law_numbers : FnOk l.prog w K mg base CX0 1 f__law_numbers _ ["_law_script", "_law_count"] (spD ⟨K, mg⟩ 2 phi__law_numbers) := ok__law_numbers F__law_numbers B T C 
  have G__law_set : FnOk l.prog w K mg base CX0 1 f__law_set _ ["_law_number", "_law_count"] (spD ⟨K, mg⟩ 2 phi__law_set) := ok__law_set F__law_set B T C 
  have G__law_sparse : FnOk l.prog w K mg base CX0 1 f__law_sparse _ ["_law_number", "_law_count"] (spD ⟨K, mg⟩ 2 phi__law_sparse) := ok__law_sparse F__law_sparse B T C 
  have G__law_united : FnOk l.prog w K mg base CX0 1 f__law_united _ ["_law_a", "_law_b"] (spD ⟨K, mg⟩ 2 phi__law_united) := ok__law_united F__law_united B T C 
  have G__law_met : FnOk l.prog w K mg base CX0 1 f__law_met _ ["_law_a", "_law_b"] (spD ⟨K, mg⟩ 2 phi__law_met) := ok__law_met F__law_met B T C 
  have G__law_less : FnOk l.prog w K mg base CX0 1 f__law_less _ ["_law_a", "_law_b"] (spD ⟨K, mg⟩ 2 phi__law_less) := ok__law_less F__law_less B T C 
  have C__law_less : Cal l.prog w K mg base 1 "_law_less" 2 phi__law_less := ⟨f__law_less, _, _, G__law_less, PySem.W.mg_of X G af__law_less, kf__law_less, b__law_less⟩
  have G__law_is_within : FnOk l.prog w K mg base CX0 2 f__law_is_within _ ["_law_a", "_law_b"] (spD ⟨K, mg⟩ 2 phi__law_is_within) := ok__law_is_within F__law_is_within B T C C__law_less
  have C__law_sparse : Cal l.prog w K mg base 1 "_law_sparse" 2 phi__law_sparse := ⟨f__law_sparse, _, _, G__law_sparse, PySem.W.mg_of X G af__law_sparse, kf__law_sparse, b__law_sparse⟩
  have C__law_united : Cal l.prog w K mg base 1 "_law_united" 2 phi__law_united := ⟨f__law_united, _, _, G__law_united, PySem.W.mg_of X G af__law_united, kf__law_united, b__law_united⟩
  have G__law_dependency : FnOk l.prog w K mg base CX0 2 f__law_dependency _ ["_law_numbers_here", "_law_place", "_law_count"] (spD ⟨K, mg⟩ 3 phi__law_dependency) := ok__law_dependency F__law_dependency B T C C__law_sparse C__law_less C__law_united
  have C__law_dependency : Cal l.prog w K mg base 2 "_law_dependency" 3 phi__law_dependency := ⟨f__law_dependency, _, _, G__law_dependency, PySem.W.mg_of X G af__law_dependency, kf__law_dependency, b__law_dependency⟩
  have G__law_told : FnOk l.prog w K mg base CX0 3 f__law_told _ ["_law_numbers_here", "_law_place", "_law_count", "_law_many"] (spD ⟨K, mg⟩ 4 phi__law_told) := ok__law_told F__law_told B T C C__law_dependency C__law_less
  have C_Jd : CalC l.prog w K mg base 2 "Jd" 2 phi_Jd___init__ := ⟨A_Jd, f_Jd___init__, _, _, mc_Jd, ⟨mk_Jd, af_Jd___init__, if_Jd___init__, kc_Jd⟩, G_Jd___init__, b_Jd___init__⟩
  have G__law_object : FnOk l.prog w K mg base CX0 4 f__law_object _ ["_law_dependency_here"] (spD ⟨K, mg⟩ 1 phi__law_object) := ok__law_object F__law_object B T C C_Fd C_Mvd C_Jd
  have G__law_is_kept : FnOk l.prog w K mg base CX0 1 f__law_is_kept _ ["_law_objects", "_law_told_here"] (spD ⟨K, mg⟩ 2 phi__law_is_kept) := ok__law_is_kept F__law_is_kept B T C 
  have G__law_is_set : FnOk l.prog w K mg base CX0 1 f__law_is_set _ ["_law_columns", "_law_count"] (spD ⟨K, mg⟩ 2 phi__law_is_set) := ok__law_is_set F__law_is_set B T C 
  have C__law_is_set : Cal l.prog w K mg base 1 "_law_is_set" 2 phi__law_is_set := ⟨f__law_is_set, _, _, G__law_is_set, PySem.W.mg_of X G af__law_is_set, kf__law_is_set, b__law_is_set⟩
  have C__law_is_within : Cal l.prog w K mg base 2 "_law_is_within" 2 phi__law_is_within := ⟨f__law_is_within, _, _, G__law_is_within, PySem.W.mg_of X G af__law_is_within, kf__law_is_within, b__law_is_within⟩
  have G__law_of_one : FnOk l.prog w K mg base CX0 3 f__law_of_one _ ["_law_count", "_law_one", "_law_row_here"] (spD ⟨K, mg⟩ 3 phi__law_of_one) := ok__law_of_one F__law_of_one B T C C__law_united C__law_less C__law_is_set C__law_is_within
  have C__law_met : Cal l.prog w K mg base 1 "_law_met" 2 phi__law_met := ⟨f__law_met, _, _, G__law_met, PySem.W.mg_of X G af__law_met, kf__law_met, b__law_met⟩
  have G__law_of_two : FnOk l.prog w K mg base CX0 3 f__law_of_two _ ["_law_one", "_law_two", "_law_word"] (spD ⟨K, mg⟩ 3 phi__law_of_two) := ok__law_of_two F__law_of_two B T C C__law_less C__law_is_within C__law_met
  have C__law_of_two : Cal l.prog w K mg base 3 "_law_of_two" 3 phi__law_of_two := ⟨f__law_of_two, _, _, G__law_of_two, PySem.W.mg_of X G af__law_of_two, kf__law_of_two, b__law_of_two⟩
  have C__law_of_one : Cal l.prog w K mg base 3 "_law_of_one" 3 phi__law_of_one := ⟨f__law_of_one, _, _, G__law_of_one, PySem.W.mg_of X G af__law_of_one, kf__law_of_one, b__law_of_one⟩
  have G__law_row : FnOk l.prog w K mg base CX0 4 f__law_row _ ["_law_count", "_law_told_here", "_law_made_here", "_law_row_here"] (spD ⟨K, mg⟩ 4 phi__law_row) := ok__law_row F__law_row B T C C__law_is_set C__law_is_within C__law_of_two C__law_of_one
  have C__law_row : Cal l.prog w K mg base 4 "_law_row" 4 phi__law_row := ⟨f__law_row, _, _, G__law_row, PySem.W.mg_of X G af__law_row, kf__law_row, b__law_row⟩
  have G__law_made : FnOk l.prog w K mg base CX0 5 f__law_made _ ["_law_count", "_law_told_here", "_law_rows"] (spD ⟨K, mg⟩ 3 phi__law_made) := ok__law_made F__law_made B T C C__law_row
  have C__law_set : Cal l.prog w K mg base 1 "_law_set" 2 phi__law_set := ⟨f__law_set, _, _, G__law_set, PySem.W.mg_of X G af__law_set, kf__law_set, b__law_set⟩
  have G__law_tried : FnOk l.prog w K mg base CX0 2 f__law_tried _ ["_law_numbers_here", "_law_place", "_law_count", "_law_made_here", "_law_told_here", "_law_word"] (spD ⟨K, mg⟩ 6 phi__law_tried) := ok__law_tried F__law_tried B T C C__law_sparse C__law_set C__law_met
  have C__law_tried : Cal l.prog w K mg base 2 "_law_tried" 6 phi__law_tried := ⟨f__law_tried, _, _, G__law_tried, PySem.W.mg_of X G af__law_tried, kf__law_tried, b__law_tried⟩
  have G__law_next : FnOk l.prog w K mg base CX0 5 f__law_next _ ["_law_numbers_here", "_law_place", "_law_count", "_law_told_here", "_law_made_here"] (spD ⟨K, mg⟩ 5 phi__law_next) := ok__law_next F__law_next B T C C__law_tried C__law_row
  have C__law_next : Cal l.prog w K mg base 5 "_law_next" 5 phi__law_next := ⟨f__law_next, _, _, G__law_next, PySem.W.mg_of X G af__law_next, kf__law_next, b__law_next⟩
  have G__law_derivation : FnOk l.prog w K mg base CX0 6 f__law_derivation _ ["_law_numbers_here", "_law_place", "_law_count", "_law_told_here", "_law_size"] (spD ⟨K, mg⟩ 5 phi__law_derivation) := ok__law_derivation F__law_derivation B T C C__law_next C__law_row
  have C__law_numbers : Cal l.prog w K mg base 1 "_law_numbers" 2 phi__law_numbers := ⟨f__law_numbers, _, _, G__law_numbers, PySem.W.mg_of X G af__law_numbers, kf__law_numbers, b__law_numbers⟩
  have C__law_told : Cal l.prog w K mg base 3 "_law_told" 4 phi__law_told := ⟨f__law_told, _, _, G__law_told, PySem.W.mg_of X G af__law_told, kf__law_told, b__law_told⟩
  have C__law_derivation : Cal l.prog w K mg base 6 "_law_derivation" 5 phi__law_derivation := ⟨f__law_derivation, _, _, G__law_derivation, PySem.W.mg_of X G af__law_derivation, kf__law_derivation, b__law_derivation⟩
  have C__law_made : Cal l.prog w K mg base 5 "_law_made" 3 phi__law_made := ⟨f__law_made, _, _, G__law_made, PySem.W.mg_of X G af__law_made, kf__law_made, b__law_made⟩
  have C__law_object : Cal l.prog w K mg base 4 "_law_object" 1 phi__law_object := ⟨f__law_object, _, _, G__law_object, PySem.W.mg_of X G af__law_object, kf__law_object, b__law_object⟩
  have C_takes : Cal l.prog w K mg base 8 "takes" 5 phi_takes := ⟨f_takes, _, _, G_takes, PySem.W.mg_of X G af_takes, kf_takes, b_takes⟩
  have C__law_is_kept : Cal l.prog w K mg base 1 "_law_is_kept" 2 phi__law_is_kept := ⟨f__law_is_kept, _, _, G__law_is_kept, PySem.W.mg_of X G af__law_is_kept, kf__law_is_kept, b__law_is_kept⟩
  exact ok_law F_law B T C C__law_numbers C__law_told C__law_derivation C__law_made C__law_object C_takes C__law_is_kept
end Law
open PySem PySem.W PyProof.Rows in
set_option maxRecDepth 100000 in
set_option maxHeartbeats 0 in
theorem PySem.Challenge.cw_followsortable_k52_derivations_taken_holds : PySem.Challenge.rw_followsortable_k52_derivations_taken.Holds := by
  w_on; o_law; k_head; (case hw => w_witness2)
  k_fill
  refine DL.walkD (l := PySem.Challenge.rw_followsortable_k52_derivations_taken) (k := 9) (x := "_law_script") (φ := Law.phi_law) rfl rfl ⟨rfl, by decide, by decide⟩ (fun w h Y => PySem.W.kIn_of Y) ?F Law.law_holds
  case F =>
    intro w mg fa h KX G hmg
    refine' Law.all_mk KX G hmg ?ac_Sides ?ac_Fd ?ac_Mvd ?ac_Jd ?ac_Replay ?ac_TableError ?ac_InvalidTable ?ac_Table ?pg_Fd ?hd_Fd ?po_Fd ?sa_Fd ?pg_Jd ?hd_Jd ?po_Jd ?sa_Jd ?pg_Mvd ?hd_Mvd ?po_Mvd ?sa_Mvd ?nf_Fd_left ?nf_Fd_right ?nf_Jd_parts ?nf_Mvd_left ?nf_Mvd_right ?mk_Fd ?kc_Fd ?mk_Jd ?kc_Jd ?mk_Mvd ?kc_Mvd ?pa_Fd_key ?pr_Fd_key ?pq_Fd_key ?pt_Fd_key ?pa_Mvd_key ?pr_Mvd_key ?pq_Mvd_key ?pt_Mvd_key ?af_as_set ?lf_as_set ?cf_as_set ?kf_as_set ?af_united ?lf_united ?cf_united ?kf_united ?af_met ?lf_met ?cf_met ?kf_met ?af_less ?lf_less ?cf_less ?kf_less ?af_is_within ?lf_is_within ?cf_is_within ?kf_is_within ?af_whole ?lf_whole ?cf_whole ?kf_whole ?af_Sides___init__ ?if_Sides___init__ ?lf_Sides___init__ ?cf_Sides___init__ ?kf_Sides___init__ ?lf_Sides_key ?cf_Sides_key ?kf_Sides_key ?af_Fd___eq__ ?if_Fd___eq__ ?lf_Fd___eq__ ?cf_Fd___eq__ ?kf_Fd___eq__ ?af_Mvd___eq__ ?if_Mvd___eq__ ?lf_Mvd___eq__ ?cf_Mvd___eq__ ?kf_Mvd___eq__ ?af_Jd___init__ ?if_Jd___init__ ?lf_Jd___init__ ?cf_Jd___init__ ?kf_Jd___init__ ?af_is_set ?lf_is_set ?cf_is_set ?kf_is_set ?af_earlier ?lf_earlier ?cf_earlier ?kf_earlier ?af_by_told ?lf_by_told ?cf_by_told ?kf_by_told ?af_by_within ?lf_by_within ?cf_by_within ?kf_by_within ?af_by_with ?lf_by_with ?cf_by_with ?kf_by_with ?af_by_through ?lf_by_through ?cf_by_through ?kf_by_through ?af_by_also ?lf_by_also ?cf_by_also ?kf_by_also ?af_by_other ?lf_by_other ?cf_by_other ?kf_by_other ?af_by_wide ?lf_by_wide ?cf_by_wide ?kf_by_wide ?af_by_beyond ?lf_by_beyond ?cf_by_beyond ?kf_by_beyond ?af_by_meets ?lf_by_meets ?cf_by_meets ?kf_by_meets ?af_of_one ?lf_of_one ?cf_of_one ?kf_of_one ?af_of_two ?lf_of_two ?cf_of_two ?kf_of_two ?af_row_tells ?lf_row_tells ?cf_row_tells ?kf_row_tells ?af_derives ?lf_derives ?cf_derives ?kf_derives ?af_takes ?lf_takes ?cf_takes ?kf_takes ?af__law_numbers ?lf__law_numbers ?cf__law_numbers ?kf__law_numbers ?af__law_set ?lf__law_set ?cf__law_set ?kf__law_set ?af__law_sparse ?lf__law_sparse ?cf__law_sparse ?kf__law_sparse ?af__law_united ?lf__law_united ?cf__law_united ?kf__law_united ?af__law_met ?lf__law_met ?cf__law_met ?kf__law_met ?af__law_less ?lf__law_less ?cf__law_less ?kf__law_less ?af__law_is_within ?lf__law_is_within ?cf__law_is_within ?kf__law_is_within ?af__law_dependency ?lf__law_dependency ?cf__law_dependency ?kf__law_dependency ?af__law_told ?lf__law_told ?cf__law_told ?kf__law_told ?af__law_object ?lf__law_object ?cf__law_object ?kf__law_object ?af__law_is_kept ?lf__law_is_kept ?cf__law_is_kept ?kf__law_is_kept ?af__law_is_set ?lf__law_is_set ?cf__law_is_set ?kf__law_is_set ?af__law_of_one ?lf__law_of_one ?cf__law_of_one ?kf__law_of_one ?af__law_of_two ?lf__law_of_two ?cf__law_of_two ?kf__law_of_two ?af__law_row ?lf__law_row ?cf__law_row ?kf__law_row ?af__law_made ?lf__law_made ?cf__law_made ?kf__law_made ?af__law_tried ?lf__law_tried ?cf__law_tried ?kf__law_tried ?af__law_next ?lf__law_next ?cf__law_next ?kf__law_next ?af__law_derivation ?lf__law_derivation ?cf__law_derivation ?kf__law_derivation ?af_law ?lf_law ?cf_law ?kf_law ?ai_Fd___init__ ?ai_Mvd___init__ ?ow_Fd ?om_Fd ?ow_Jd ?om_Jd ?ow_Mvd ?om_Mvd ?ospec ?otak ?ki_0 ?ki_1 ?ki_2 ?ki_3 ?ki_4 ?ki_5 ?ki_6 ?ki_7 ?ki_8 ?ki_9 ?ki_10 ?ki_11 ?ki_12 ?ki_13 ?no_Fd_Fd ?no_Fd_Jd ?no_Fd_Mvd ?no_Mvd_Fd ?no_Mvd_Jd ?no_Mvd_Mvd ?z_len ?z_range ?z_enumerate ?z_zip ?z_sorted ?z_set ?z_all ?z_any ?z_isinstance ?z_max ?z_min ?z_reversed ?z_tuple ?z_list ?z_int ?z_str ?z_dict ?z_bool
    (case ac_Sides => k_is)
    (case ac_Fd => k_is)
    (case ac_Mvd => k_is)
    (case ac_Jd => k_is)
    (case ac_Replay => k_is)
    (case ac_TableError => k_is)
    (case ac_InvalidTable => k_is)
    (case ac_Table => k_is)
    (case pg_Fd => k_is)
    (case hd_Fd => k_is)
    (case po_Fd => k_is)
    (case sa_Fd => k_is)
    (case pg_Jd => k_is)
    (case hd_Jd => k_is)
    (case po_Jd => k_is)
    (case sa_Jd => k_is)
    (case pg_Mvd => k_is)
    (case hd_Mvd => k_is)
    (case po_Mvd => k_is)
    (case sa_Mvd => k_is)
    (case nf_Fd_left => k_is)
    (case nf_Fd_right => k_is)
    (case nf_Jd_parts => k_is)
    (case nf_Mvd_left => k_is)
    (case nf_Mvd_right => k_is)
    (case mk_Fd => k_is)
    (case kc_Fd => k_is)
    (case mk_Jd => k_is)
    (case kc_Jd => k_is)
    (case mk_Mvd => k_is)
    (case kc_Mvd => k_is)
    (case pa_Fd_key => k_is)
    (case pr_Fd_key => k_is)
    (case pq_Fd_key => k_is)
    (case pt_Fd_key => k_is)
    (case pa_Mvd_key => k_is)
    (case pr_Mvd_key => k_is)
    (case pq_Mvd_key => k_is)
    (case pt_Mvd_key => k_is)
    (case af_as_set => k_is)
    (case lf_as_set => k_is)
    (case cf_as_set => k_is)
    (case kf_as_set => k_is)
    (case af_united => k_is)
    (case lf_united => k_is)
    (case cf_united => k_is)
    (case kf_united => k_is)
    (case af_met => k_is)
    (case lf_met => k_is)
    (case cf_met => k_is)
    (case kf_met => k_is)
    (case af_less => k_is)
    (case lf_less => k_is)
    (case cf_less => k_is)
    (case kf_less => k_is)
    (case af_is_within => k_is)
    (case lf_is_within => k_is)
    (case cf_is_within => k_is)
    (case kf_is_within => k_is)
    (case af_whole => k_is)
    (case lf_whole => k_is)
    (case cf_whole => k_is)
    (case kf_whole => k_is)
    (case af_Sides___init__ => k_is)
    (case if_Sides___init__ => k_is)
    (case lf_Sides___init__ => k_is)
    (case cf_Sides___init__ => k_is)
    (case kf_Sides___init__ => k_is)
    (case lf_Sides_key => k_is)
    (case cf_Sides_key => k_is)
    (case kf_Sides_key => k_is)
    (case af_Fd___eq__ => k_is)
    (case if_Fd___eq__ => k_is)
    (case lf_Fd___eq__ => k_is)
    (case cf_Fd___eq__ => k_is)
    (case kf_Fd___eq__ => k_is)
    (case af_Mvd___eq__ => k_is)
    (case if_Mvd___eq__ => k_is)
    (case lf_Mvd___eq__ => k_is)
    (case cf_Mvd___eq__ => k_is)
    (case kf_Mvd___eq__ => k_is)
    (case af_Jd___init__ => k_is)
    (case if_Jd___init__ => k_is)
    (case lf_Jd___init__ => k_is)
    (case cf_Jd___init__ => k_is)
    (case kf_Jd___init__ => k_is)
    (case af_is_set => k_is)
    (case lf_is_set => k_is)
    (case cf_is_set => k_is)
    (case kf_is_set => k_is)
    (case af_earlier => k_is)
    (case lf_earlier => k_is)
    (case cf_earlier => k_is)
    (case kf_earlier => k_is)
    (case af_by_told => k_is)
    (case lf_by_told => k_is)
    (case cf_by_told => k_is)
    (case kf_by_told => k_is)
    (case af_by_within => k_is)
    (case lf_by_within => k_is)
    (case cf_by_within => k_is)
    (case kf_by_within => k_is)
    (case af_by_with => k_is)
    (case lf_by_with => k_is)
    (case cf_by_with => k_is)
    (case kf_by_with => k_is)
    (case af_by_through => k_is)
    (case lf_by_through => k_is)
    (case cf_by_through => k_is)
    (case kf_by_through => k_is)
    (case af_by_also => k_is)
    (case lf_by_also => k_is)
    (case cf_by_also => k_is)
    (case kf_by_also => k_is)
    (case af_by_other => k_is)
    (case lf_by_other => k_is)
    (case cf_by_other => k_is)
    (case kf_by_other => k_is)
    (case af_by_wide => k_is)
    (case lf_by_wide => k_is)
    (case cf_by_wide => k_is)
    (case kf_by_wide => k_is)
    (case af_by_beyond => k_is)
    (case lf_by_beyond => k_is)
    (case cf_by_beyond => k_is)
    (case kf_by_beyond => k_is)
    (case af_by_meets => k_is)
    (case lf_by_meets => k_is)
    (case cf_by_meets => k_is)
    (case kf_by_meets => k_is)
    (case af_of_one => k_is)
    (case lf_of_one => k_is)
    (case cf_of_one => k_is)
    (case kf_of_one => k_is)
    (case af_of_two => k_is)
    (case lf_of_two => k_is)
    (case cf_of_two => k_is)
    (case kf_of_two => k_is)
    (case af_row_tells => k_is)
    (case lf_row_tells => k_is)
    (case cf_row_tells => k_is)
    (case kf_row_tells => k_is)
    (case af_derives => k_is)
    (case lf_derives => k_is)
    (case cf_derives => k_is)
    (case kf_derives => k_is)
    (case af_takes => k_is)
    (case lf_takes => k_is)
    (case cf_takes => k_is)
    (case kf_takes => k_is)
    (case af__law_numbers => k_is)
    (case lf__law_numbers => k_is)
    (case cf__law_numbers => k_is)
    (case kf__law_numbers => k_is)
    (case af__law_set => k_is)
    (case lf__law_set => k_is)
    (case cf__law_set => k_is)
    (case kf__law_set => k_is)
    (case af__law_sparse => k_is)
    (case lf__law_sparse => k_is)
    (case cf__law_sparse => k_is)
    (case kf__law_sparse => k_is)
    (case af__law_united => k_is)
    (case lf__law_united => k_is)
    (case cf__law_united => k_is)
    (case kf__law_united => k_is)
    (case af__law_met => k_is)
    (case lf__law_met => k_is)
    (case cf__law_met => k_is)
    (case kf__law_met => k_is)
    (case af__law_less => k_is)
    (case lf__law_less => k_is)
    (case cf__law_less => k_is)
    (case kf__law_less => k_is)
    (case af__law_is_within => k_is)
    (case lf__law_is_within => k_is)
    (case cf__law_is_within => k_is)
    (case kf__law_is_within => k_is)
    (case af__law_dependency => k_is)
    (case lf__law_dependency => k_is)
    (case cf__law_dependency => k_is)
    (case kf__law_dependency => k_is)
    (case af__law_told => k_is)
    (case lf__law_told => k_is)
    (case cf__law_told => k_is)
    (case kf__law_told => k_is)
    (case af__law_object => k_is)
    (case lf__law_object => k_is)
    (case cf__law_object => k_is)
    (case kf__law_object => k_is)
    (case af__law_is_kept => k_is)
    (case lf__law_is_kept => k_is)
    (case cf__law_is_kept => k_is)
    (case kf__law_is_kept => k_is)
    (case af__law_is_set => k_is)
    (case lf__law_is_set => k_is)
    (case cf__law_is_set => k_is)
    (case kf__law_is_set => k_is)
    (case af__law_of_one => k_is)
    (case lf__law_of_one => k_is)
    (case cf__law_of_one => k_is)
    (case kf__law_of_one => k_is)
    (case af__law_of_two => k_is)
    (case lf__law_of_two => k_is)
    (case cf__law_of_two => k_is)
    (case kf__law_of_two => k_is)
    (case af__law_row => k_is)
    (case lf__law_row => k_is)
    (case cf__law_row => k_is)
    (case kf__law_row => k_is)
    (case af__law_made => k_is)
    (case lf__law_made => k_is)
    (case cf__law_made => k_is)
    (case kf__law_made => k_is)
    (case af__law_tried => k_is)
    (case lf__law_tried => k_is)
    (case cf__law_tried => k_is)
    (case kf__law_tried => k_is)
    (case af__law_next => k_is)
    (case lf__law_next => k_is)
    (case cf__law_next => k_is)
    (case kf__law_next => k_is)
    (case af__law_derivation => k_is)
    (case lf__law_derivation => k_is)
    (case cf__law_derivation => k_is)
    (case kf__law_derivation => k_is)
    (case af_law => k_is)
    (case lf_law => k_is)
    (case cf_law => k_is)
    (case kf_law => k_is)
    (case ai_Fd___init__ => k_is)
    (case ai_Mvd___init__ => k_is)
    (case ow_Fd => k_is)
    (case om_Fd => k_is)
    (case ow_Jd => k_is)
    (case om_Jd => k_is)
    (case ow_Mvd => k_is)
    (case om_Mvd => k_is)
    (case ospec => k_is)
    (case otak => k_is)
    (case ki_0 => kit_is)
    (case ki_1 => kit_is)
    (case ki_2 => kit_is)
    (case ki_3 => kit_is)
    (case ki_4 => kit_is)
    (case ki_5 => kit_is)
    (case ki_6 => kit_is)
    (case ki_7 => kit_is)
    (case ki_8 => kit_is)
    (case ki_9 => kit_is)
    (case ki_10 => kit_is)
    (case ki_11 => kit_is)
    (case ki_12 => kit_is)
    (case ki_13 => kit_is)
    (case no_Fd_Fd => k_is)
    (case no_Fd_Jd => k_is)
    (case no_Fd_Mvd => k_is)
    (case no_Mvd_Fd => k_is)
    (case no_Mvd_Jd => k_is)
    (case no_Mvd_Mvd => k_is)
    (case z_len => k_is)
    (case z_range => k_is)
    (case z_enumerate => k_is)
    (case z_zip => k_is)
    (case z_sorted => k_is)
    (case z_set => k_is)
    (case z_all => k_is)
    (case z_any => k_is)
    (case z_isinstance => k_is)
    (case z_max => k_is)
    (case z_min => k_is)
    (case z_reversed => k_is)
    (case z_tuple => k_is)
    (case z_list => k_is)
    (case z_int => k_is)
    (case z_str => k_is)
    (case z_dict => k_is)
    (case z_bool => k_is)


