import PyProof.Rows.All
import Wide.All
import OpenK.AllK
import Wide.FinOn
import HandS.ForMost
import HandS.IsInst
import HandS.Wide
import HandS.Flow
import HandS.Style
import HandS.Walk
import HandS.Zip
import HandS.Exc
import HandS.WordsExc
import HandS.Deep
import HandS.TupLe
import HandS.SortInts
import HandS.SortRule
import HandS.DeepEq
import HandS.Conv
import HandS.Iter
import HandS.SortKw
import KE.KMinBuiltin
import HandS.SetBool
import HandS.Strs
import HandS.WideBits
import HandS.SetFor
import HandS.More
import HandS.Defaults
import HandS.Words
import HandS.Codes
import HandS.Ends
import KE.OsRunLaw
import PySem.Challenge.RW_lentmemory_k70_whole_pairings_or_short_s
set_option Elab.async false
set_option linter.all false
set_option autoImplicit false
set_option maxRecDepth 100000
set_option maxHeartbeats 2000000
/-! Vm1: data, what represents it in the abstract heap, what may change. -/
namespace Vm
open PySem PySem.Spec L2

/-- data by value; the mark of a list or dict: it is known to be young -/
inductive D where
  | non | bl (b : Bool) | int (i : Int) | str (s : Str)
  | lst (t : Bool) (xs : List D) | tup (xs : List D) | dic (t : Bool) (kvs : List (Key × D)) | pur

def D.flat : D → Bool
  | .non => true | .bl _ => true | .int _ => true | .str _ => true | _ => false

structure Wd where
  O : Addr → Prop
  old : Addr → Prop

mutual
inductive Rep (W : Wd) (H : Hp) (Vt : Addr → Prop) : V → D → Prop where
  | non : Rep W H Vt .non .non
  | bl (b : Bool) : Rep W H Vt (.bl b) (.bl b)
  | int (i : Int) : Rep W H Vt (.int i) (.int i)
  | str (s : Str) : Rep W H Vt (.str s) (.str s)
  | lst {a : Addr} {vs : List V} {ds : List D} {t : Bool} : H a = some (.lst vs) → ¬ W.O a → ¬ Vt a → (t = true → ¬ W.old a) → Reps W H Vt vs ds → Rep W H Vt (.ref a) (.lst t ds)
  | tup {a : Addr} {vs : List V} {ds : List D} : H a = some (.tup vs) → ¬ W.O a → ¬ Vt a → Reps W H Vt vs ds → Rep W H Vt (.ref a) (.tup ds)
  | dic {a : Addr} {kvs : List (Key × V)} {kds : List (Key × D)} {t : Bool} : H a = some (.dK kvs) → ¬ W.O a → ¬ Vt a → (t = true → ¬ W.old a) → Repk W H Vt kvs kds → Rep W H Vt (.ref a) (.dic t kds)
  | pur {a : Addr} : Vt a → Rep W H Vt (.ref a) .pur
inductive Reps (W : Wd) (H : Hp) (Vt : Addr → Prop) : List V → List D → Prop where
  | nil : Reps W H Vt [] []
  | cons {v : V} {vs : List V} {d : D} {ds : List D} : Rep W H Vt v d → Reps W H Vt vs ds → Reps W H Vt (v :: vs) (d :: ds)
inductive Repk (W : Wd) (H : Hp) (Vt : Addr → Prop) : List (Key × V) → List (Key × D) → Prop where
  | nil : Repk W H Vt [] []
  | cons {k : Key} {v : V} {d : D} {kvs : List (Key × V)} {kds : List (Key × D)} : Rep W H Vt v d → Repk W H Vt kvs kds → Repk W H Vt ((k, v) :: kvs) ((k, d) :: kds)
end

section
variable {W W' : Wd} {H H' : Hp} {Vt Vt' : Addr → Prop}
mutual
theorem Rep.conv (hK : ∀ a o, H a = some o → ¬ W.O a → ¬ Vt a → H' a = some o ∧ ¬ W'.O a ∧ ¬ Vt' a ∧ (¬ W.old a → ¬ W'.old a)) (hV : ∀ a, Vt a → Vt' a) :
    ∀ {v : V} {d : D}, Rep W H Vt v d → Rep W' H' Vt' v d
  | _, _, .non => .non
  | _, _, .bl b => .bl b
  | _, _, .int i => .int i
  | _, _, .str s => .str s
  | _, _, .lst e h1 h2 h3 r => let q := hK _ _ e h1 h2; .lst q.1 q.2.1 q.2.2.1 (fun z => q.2.2.2 (h3 z)) (Reps.conv hK hV r)
  | _, _, .tup e h1 h2 r => let q := hK _ _ e h1 h2; .tup q.1 q.2.1 q.2.2.1 (Reps.conv hK hV r)
  | _, _, .dic e h1 h2 h3 r => let q := hK _ _ e h1 h2; .dic q.1 q.2.1 q.2.2.1 (fun z => q.2.2.2 (h3 z)) (Repk.conv hK hV r)
  | _, _, .pur h => .pur (hV _ h)
theorem Reps.conv (hK : ∀ a o, H a = some o → ¬ W.O a → ¬ Vt a → H' a = some o ∧ ¬ W'.O a ∧ ¬ Vt' a ∧ (¬ W.old a → ¬ W'.old a)) (hV : ∀ a, Vt a → Vt' a) :
    ∀ {vs : List V} {ds : List D}, Reps W H Vt vs ds → Reps W' H' Vt' vs ds
  | _, _, .nil => .nil
  | _, _, .cons r rs => .cons (Rep.conv hK hV r) (Reps.conv hK hV rs)
theorem Repk.conv (hK : ∀ a o, H a = some o → ¬ W.O a → ¬ Vt a → H' a = some o ∧ ¬ W'.O a ∧ ¬ Vt' a ∧ (¬ W.old a → ¬ W'.old a)) (hV : ∀ a, Vt a → Vt' a) :
    ∀ {vs : List (Key × V)} {ds : List (Key × D)}, Repk W H Vt vs ds → Repk W' H' Vt' vs ds
  | _, _, .nil => .nil
  | _, _, .cons r rs => .cons (Rep.conv hK hV r) (Repk.conv hK hV rs)
end
theorem Reps.length : ∀ {vs : List V} {ds : List D}, Reps W H Vt vs ds → vs.length = ds.length
  | _, _, .nil => rfl
  | _, _, .cons _ r => congrArg (· + 1) (Reps.length r)
theorem Repk.length : ∀ {vs : List (Key × V)} {ds : List (Key × D)}, Repk W H Vt vs ds → vs.length = ds.length
  | _, _, .nil => rfl
  | _, _, .cons _ r => congrArg (· + 1) (Repk.length r)
theorem Reps.append : ∀ {vs : List V} {ds : List D} {vs' : List V} {ds' : List D}, Reps W H Vt vs ds → Reps W H Vt vs' ds' → Reps W H Vt (vs ++ vs') (ds ++ ds')
  | _, _, _, _, .nil, q => q
  | _, _, _, _, .cons a r, q => .cons a (Reps.append r q)
theorem Reps.get : ∀ {vs : List V} {ds : List D} {i : Nat} {v : V}, Reps W H Vt vs ds → vs[i]? = some v → ∃ d, ds[i]? = some d ∧ Rep W H Vt v d
  | _, _, _, _, .nil, e => by simp at e
  | _, _, 0, _, .cons r _, e => by simp at e; subst e; exact ⟨_, rfl, r⟩
  | _, _, i + 1, v, .cons _ t, e => by
    obtain ⟨d, h1, h2⟩ := Reps.get (i := i) (v := v) t (by simpa using e)
    exact ⟨d, by simpa using h1, h2⟩
theorem Reps.get' : ∀ {vs : List V} {ds : List D} {i : Nat} {d : D}, Reps W H Vt vs ds → ds[i]? = some d → ∃ v, vs[i]? = some v ∧ Rep W H Vt v d
  | _, _, _, _, .nil, e => by simp at e
  | _, _, 0, _, .cons r _, e => by simp at e; subst e; exact ⟨_, rfl, r⟩
  | _, _, i + 1, d, .cons _ t, e => by
    obtain ⟨v, h1, h2⟩ := Reps.get' (i := i) (d := d) t (by simpa using e)
    exact ⟨v, by simpa using h1, h2⟩
theorem Reps.set {v : V} {d : D} (r : Rep W H Vt v d) : ∀ {vs : List V} {ds : List D} (i : Nat), Reps W H Vt vs ds → Reps W H Vt (vs.set i v) (ds.set i d)
  | _, _, _, .nil => .nil
  | _, _, 0, .cons _ t => .cons r t
  | _, _, i + 1, .cons q t => .cons q (Reps.set r i t)
theorem Reps.take : ∀ {vs : List V} {ds : List D} (n : Nat), Reps W H Vt vs ds → Reps W H Vt (vs.take n) (ds.take n)
  | _, _, 0, _ => .nil
  | _, _, _ + 1, .nil => .nil
  | _, _, n + 1, .cons r t => .cons r (Reps.take n t)
theorem Reps.drop : ∀ {vs : List V} {ds : List D} (n : Nat), Reps W H Vt vs ds → Reps W H Vt (vs.drop n) (ds.drop n)
  | _, _, 0, r => r
  | _, _, _ + 1, .nil => .nil
  | _, _, n + 1, .cons _ t => Reps.drop n t
theorem Reps.eraseIdx : ∀ {vs : List V} {ds : List D} (n : Nat), Reps W H Vt vs ds → Reps W H Vt (vs.eraseIdx n) (ds.eraseIdx n)
  | _, _, _, .nil => .nil
  | _, _, 0, .cons _ t => t
  | _, _, n + 1, .cons r t => .cons r (Reps.eraseIdx n t)
theorem Reps.rep {vs : List V} {ds : List D} (h : Reps W H Vt vs ds) : ∀ k : Nat, Reps W H Vt (List.replicate k vs).flatten (List.replicate k ds).flatten
  | 0 => .nil
  | k + 1 => by
    rw [List.replicate_succ, List.replicate_succ, List.flatten_cons, List.flatten_cons]
    exact h.append (Reps.rep h k)
theorem Rep.ofFlat {v : V} {d : D} (r : Rep W H Vt v d) (f : d.flat = true) : Rep W' H' Vt' v d := by
  cases r with
  | non => exact .non
  | bl b => exact .bl b
  | int i => exact .int i
  | str s => exact .str s
  | lst _ _ _ _ _ => cases f
  | tup _ _ _ _ => cases f
  | dic _ _ _ _ _ => cases f
  | pur _ => cases f
end

/-- a purse: a list of four numbers, drawn from at most n times -/
def PurseAt (n : Nat) (H : Hp) (a : Addr) : Prop :=
  ∃ s c k t : Int, H a = some (.lst [.int s, .int c, .int k, .int t]) ∧ 0 ≤ s ∧ s < 10 ^ 480 ∧ 0 ≤ c ∧ c < 2147483629 ∧ 0 ≤ k ∧ k ≤ n ∧ 0 ≤ t ∧ t ≤ 63
theorem PurseAt.mono {n m : Nat} {H : Hp} {a : Addr} (h : PurseAt n H a) (l : n ≤ m) : PurseAt m H a := by
  obtain ⟨s, c, k, t, h1, h2, h3, h4, h5, h6, h7, h8, h9⟩ := h
  exact ⟨s, c, k, t, h1, h2, h3, h4, h5, h6, by omega, h8, h9⟩

/-- the heap grew; purses may have changed, nothing else of it -/
structure Grow (H : Hp) (Vt : Addr → Prop) (H' : Hp) (Vt' : Addr → Prop) : Prop where
  keep : ∀ a o, H a = some o → ¬ Vt a → H' a = some o
  dom : ∀ a, H a ≠ none → H' a ≠ none
  sub : ∀ a, Vt a → Vt' a
  new : ∀ a, Vt' a → Vt a ∨ H a = none
section
variable {H H1 H2 : Hp} {V0 V1 V2 : Addr → Prop}
theorem Grow.refl : Grow H V0 H V0 := ⟨fun _ _ e _ => e, fun _ e => e, fun _ e => e, fun _ e => .inl e⟩
theorem Grow.trans (a : Grow H V0 H1 V1) (b : Grow H1 V1 H2 V2) : Grow H V0 H2 V2 where
  keep := fun c o e n => b.keep c o (a.keep c o e n) fun z => (a.new c z).elim n fun q => by rw [e] at q; cases q
  dom := fun c e => b.dom c (a.dom c e)
  sub := fun c e => b.sub c (a.sub c e)
  new := fun c e => by
    rcases b.new c e with z | z
    · exact a.new c z
    · refine .inr ?_
      cases q : H c with
      | none => rfl
      | some o => exact absurd z (a.dom c (by rw [q]; simp))
/-- a new object -/
theorem Grow.upd {p : Addr} {o : HO} (h : H p = none) : Grow H V0 (upd H p o) V0 where
  keep := fun a u e _ => by rw [upd_ne (ne_of_none e h)]; exact e
  dom := fun a e => by
    by_cases q : a = p
    · subst q; rw [upd_same]; simp
    · rw [upd_ne q]; exact e
  sub := fun _ e => e
  new := fun _ e => .inl e
theorem Grow.noVt (g : Grow H V0 H1 V1) {a : Addr} {o : HO} (e : H a = some o) (n : ¬ V0 a) : ¬ V1 a := fun z => (g.new a z).elim n fun q => by rw [e] at q; cases q
end

section
variable {W : Wd} {H H' : Hp} {Vt Vt' : Addr → Prop}
theorem Rep.grow (g : Grow H Vt H' Vt') {v : V} {d : D} (r : Rep W H Vt v d) : Rep W H' Vt' v d :=
  r.conv (fun a o e _ h2 => ⟨g.keep a o e h2, by assumption, g.noVt e h2, fun z => z⟩) g.sub
theorem Reps.grow (g : Grow H Vt H' Vt') {v : List V} {d : List D} (r : Reps W H Vt v d) : Reps W H' Vt' v d :=
  r.conv (fun a o e _ h2 => ⟨g.keep a o e h2, by assumption, g.noVt e h2, fun z => z⟩) g.sub
theorem Repk.grow (g : Grow H Vt H' Vt') {v : List (Key × V)} {d : List (Key × D)} (r : Repk W H Vt v d) : Repk W H' Vt' v d :=
  r.conv (fun a o e _ h2 => ⟨g.keep a o e h2, by assumption, g.noVt e h2, fun z => z⟩) g.sub
end

/-- a list or dict that nobody else holds -/
inductive Own (W : Wd) (H : Hp) (Vt : Addr → Prop) : V → D → Prop where
  | lst {a : Addr} {vs : List V} {ds : List D} {t : Bool} : H a = some (.lst vs) → ¬ Vt a → (t = true → ¬ W.old a) → Reps W H Vt vs ds → Own W H Vt (.ref a) (.lst t ds)
  | dic {a : Addr} {kvs : List (Key × V)} {kds : List (Key × D)} {t : Bool} : H a = some (.dK kvs) → ¬ Vt a → (t = true → ¬ W.old a) → Repk W H Vt kvs kds → Own W H Vt (.ref a) (.dic t kds)
theorem Own.grow {W : Wd} {H H' : Hp} {Vt Vt' : Addr → Prop} (g : Grow H Vt H' Vt') {v : V} {d : D} (r : Own W H Vt v d) : Own W H' Vt' v d := by
  cases r with
  | lst e h1 h2 r => exact .lst (g.keep _ _ e h1) (g.noVt e h1) h2 (r.grow g)
  | dic e h1 h2 r => exact .dic (g.keep _ _ e h1) (g.noVt e h1) h2 (r.grow g)
theorem Own.conv {W W' : Wd} {H H' : Hp} {Vt Vt' : Addr → Prop} {v : V} {d : D} (r : Own W H Vt v d)
    (hK : ∀ a o, H a = some o → ¬ W.O a → ¬ Vt a → H' a = some o ∧ ¬ W'.O a ∧ ¬ Vt' a ∧ (¬ W.old a → ¬ W'.old a)) (hV : ∀ a, Vt a → Vt' a)
    (hO : ∀ a o, v = .ref a → H a = some o → ¬ Vt a → H' a = some o ∧ ¬ Vt' a ∧ (¬ W.old a → ¬ W'.old a)) : Own W' H' Vt' v d := by
  cases r with
  | lst e h1 h2 r => let q := hO _ _ rfl e h1; exact .lst q.1 q.2.1 (fun z => q.2.2 (h2 z)) (r.conv hK hV)
  | dic e h1 h2 r => let q := hO _ _ rfl e h1; exact .dic q.1 q.2.1 (fun z => q.2.2 (h2 z)) (r.conv hK hV)
/-- .. shared from now on -/
theorem Own.rep {W : Wd} {H : Hp} {Vt : Addr → Prop} {a : Addr} {d : D} (r : Own W H Vt (.ref a) d) (h : ¬ W.O a) : Rep W H Vt (.ref a) d := by
  cases r with
  | lst e h1 h2 r => exact .lst e h h1 h2 r
  | dic e h1 h2 r => exact .dic e h h1 h2 r
theorem Own.ref {W : Wd} {H : Hp} {Vt : Addr → Prop} {v : V} {d : D} (r : Own W H Vt v d) : ∃ a, v = .ref a ∧ H a ≠ none ∧ ¬ Vt a := by
  cases r with
  | lst e h1 h2 r => exact ⟨_, rfl, by rw [e]; simp, h1⟩
  | dic e h1 h2 r => exact ⟨_, rfl, by rw [e]; simp, h1⟩

/-- what a slot holds, by value -/
inductive Sl where
  | dead | pure (d : D) | own (d : D) | bor (d : D) | dp (d : D) | bdp (d : D)
def Sl.val : Sl → D
  | .dead => .non | .pure d => d | .own d => d | .bor d => d | .dp d => d | .bdp d => d
def Sl.isBor : Sl → Bool
  | .bor _ => true | .bdp _ => true | .dp _ => true | _ => false
/-- the same world, no list or dict owned -/
def noL (W : Wd) (H : Hp) : Wd := ⟨fun a => W.O a ∧ ∃ vs, H a = some (.tup vs), W.old⟩
section
variable {W : Wd} {H H' : Hp} {Vt Vt' : Addr → Prop}
theorem noL_cv (g : Grow H Vt H' Vt') : ∀ a o, H a = some o → ¬ (noL W H).O a → ¬ Vt a → H' a = some o ∧ ¬ (noL W H').O a ∧ ¬ Vt' a ∧ (¬ (noL W H).old a → ¬ (noL W H').old a) := fun a o e n1 n2 => by
  have k := g.keep a o e n2
  refine ⟨k, fun z => n1 ⟨z.1, ?_⟩, g.noVt e n2, fun z => z⟩
  obtain ⟨vs, h⟩ := z.2
  exact ⟨vs, by rw [e, ← k, h]⟩
theorem Rep.growL (g : Grow H Vt H' Vt') {v : V} {d : D} (r : Rep (noL W H) H Vt v d) : Rep (noL W H') H' Vt' v d := r.conv (noL_cv g) g.sub
theorem Reps.growL (g : Grow H Vt H' Vt') {v : List V} {d : List D} (r : Reps (noL W H) H Vt v d) : Reps (noL W H') H' Vt' v d := r.conv (noL_cv g) g.sub
end
def ItemOk (W : Wd) (H : Hp) (Vt : Addr → Prop) (v : V) : Sl → Prop
  | .dead => False
  | .pure d => Rep W H Vt v d
  | .own d => Own W H Vt v d
  | .bor d => Own W H Vt v d
  | .dp d => Rep (noL W H) H Vt v d
  | .bdp d => Rep (noL W H) H Vt v d
theorem ItemOk.grow {W : Wd} {H H' : Hp} {Vt Vt' : Addr → Prop} (g : Grow H Vt H' Vt') {v : V} : ∀ {s : Sl}, ItemOk W H Vt v s → ItemOk W H' Vt' v s
  | .dead, h => h
  | .pure _, h => Rep.grow g h
  | .own _, h => Own.grow g h
  | .bor _, h => Own.grow g h
  | .dp _, h => Rep.growL g h
  | .bdp _, h => Rep.growL g h

structure SlotsOk (W : Wd) (H : Hp) (Vt : Addr → Prop) (σ : L2.St) (ρ : List Sl) : Prop where
  len : σ.length = ρ.length
  get : ∀ (i : Nat) (s : Sl), ρ[i]? = some s → s ≠ .dead → ∃ v, σ[i]? = some (some v) ∧ ItemOk W H Vt v s
  own : ∀ (i : Nat) (d : D) (a : Addr), ρ[i]? = some (.own d) → σ[i]? = some (some (.ref a)) → W.O a
  inj : ∀ (i j : Nat) (a : Addr) (d d' : D), ρ[i]? = some (.own d) → ρ[j]? = some (.own d') → σ[i]? = some (some (.ref a)) → σ[j]? = some (some (.ref a)) → i = j
theorem SlotsOk.grow {W : Wd} {H H' : Hp} {Vt Vt' : Addr → Prop} {σ : L2.St} {ρ : List Sl} (g : Grow H Vt H' Vt') (s : SlotsOk W H Vt σ ρ) : SlotsOk W H' Vt' σ ρ :=
  ⟨s.len, fun i x e n => let ⟨v, a, b⟩ := s.get i x e n; ⟨v, a, b.grow g⟩, s.own, s.inj⟩

structure ESt (W : Wd) (H : Hp) (Vt : Addr → Prop) (n : Nat) : Prop where
  oDom : ∀ a, W.O a → H a ≠ none
  oldDom : ∀ a, W.old a → H a ≠ none
  pur : ∀ a, Vt a → PurseAt n H a
  oV : ∀ a, W.O a → ¬ Vt a
theorem ESt.grow {W : Wd} {H H' : Hp} {Vt Vt' : Addr → Prop} {n n' : Nat} (e : ESt W H Vt n) (g : Grow H Vt H' Vt') (p : ∀ a, Vt' a → PurseAt n' H' a) : ESt W H' Vt' n' :=
  ⟨fun a h => g.dom a (e.oDom a h), fun a h => g.dom a (e.oldDom a h), p, fun a h z => (g.new a z).elim (e.oV a h) (e.oDom a h)⟩
theorem PurseAt.dom {n : Nat} {H : Hp} {a : Addr} (h : PurseAt n H a) : H a ≠ none := by
  obtain ⟨s, c, k, t, h1, _⟩ := h
  rw [h1]; simp
/-- a new object: the purses are what they were -/
theorem ESt.upd {W : Wd} {H : Hp} {Vt : Addr → Prop} {n : Nat} {p : Addr} {o : HO} (e : ESt W H Vt n) (h : H p = none) : ESt W (upd H p o) Vt n :=
  e.grow (Grow.upd h) fun a z => by
    obtain ⟨s, c, k, t, h1, r⟩ := e.pur a z
    exact ⟨s, c, k, t, by rw [upd_ne (ne_of_none h1 h)]; exact h1, r⟩
end Vm
/-! Vm2: the small language, and what must hold so that it comes to an end that is wanted (by values). -/
namespace Vm
open PySem PySem.Spec L2

inductive BOp where
  | add | sub | mul | fdiv | mod | pow
  deriving DecidableEq
inductive COp where
  | eq | ne | lt | le | gt | ge | inS | ninS | inD | ninD | eqd
  deriving DecidableEq
inductive Ty where
  | int | bool | str | list | tuple | dict
  deriving DecidableEq
inductive Bi where
  | len | int | str | bool | abs | min2 | max2 | min1 | max1 | minD | sum | any | all | sorted | sortedP | list | tuple | lrange
  deriving DecidableEq
inductive Ik where
  | seq | range1 | range2 | enum | zip | keys | items
  deriving DecidableEq
inductive Tg where
  | nm (i : Nat) | tup (t : Tg) | tnil | tcons (a b : Tg)
inductive Me where
  | count | index
  deriving DecidableEq

inductive Ex where
  | var (i : Nat) | int (i : Int) | bl (b : Bool) | non | str (s : Str)
  | bin (op : BOp) (a b : Ex) | neg (a : Ex) | cmp (op : COp) (a b : Ex) | isN (a : Ex) | notN (a : Ex) | chain (op op2 : COp) (a b c : Ex)
  | and (a b : Ex) | or (a b : Ex) | not (a : Ex) | ite (c a b : Ex)
  | tup (es : Ex) | lst (es : Ex) | dnew
  | ix (a b : Ex) | dget (a b : Ex) | slice (a lo hi : Ex)
  | call (f : Nat) (es : Ex) | isi (e : Ex) (ts : List Ty) | blt (f : Bi) (es : Ex) | meth (m : Me) (o : Ex) (es : Ex)
  | comp (k : Ik) (src : Ex) (tg : Tg) (cond elt : Ex) (vs : List Nat)
  | bits (e : Ex) | isB (a : Ex) (b : Bool) | rev (a : Ex) | mkd (a : Ex)
  | lset (k : Ik) (src : Ex) (tg : Tg) (cond elt : Ex) (vs : List Nat)
  | comp2 (k : Ik) (src : Ex) (tg : Tg) (k1 : Ik) (src1 : Ex) (tg1 : Tg) (cond1 elt : Ex) (vs vs1 : List Nat)
  | compd (i f k : Nat) (vs : List Nat)
  | enil | econs (e es : Ex)

inductive Mu where
  | append | insert | extend | clear | pop
  deriving DecidableEq
/-- what is put into a list that was told; how what was told is changed -/
inductive Lt where
  | int (i : Int) | str (s : Str) | nil
  deriving DecidableEq
inductive Op where
  | each (c : Option Nat) (skip : Bool) (x : Nat) (l : Lt)
  | ins (c : Nat) (l : Lt)
  deriving DecidableEq
/-- how a value is held: shared, owned, owned all through -/
inductive Hw where
  | v | o | d
  deriving DecidableEq
inductive Sm where
  | snil | scons (s ss : Sm) | frz (i : Nat) (ss : Sm)
  | pass | asg (i : Nat) (e : Ex) | asgO (i : Nat) (e : Ex) | asgT (tg : Tg) (e : Ex)
  | par2 (i j : Nat) (oi oj : Hw) (a b : Ex) | par3 (i j l : Nat) (oi oj ol : Hw) (a b c : Ex) | asgD (i : Nat) (e : Ex)
  | aug (i : Nat) (op : BOp) (e : Ex)
  | mut (i : Nat) (m : Mu) (es : Ex) | setIx (i : Nat) (k e : Ex) | dput (i : Nat) (k e : Ex)
  | expr (e : Ex) | ife (c : Ex) (a b : Sm) | whil (c : Ex) (b : Sm) | «for» (k : Ik) (src : Ex) (tg : Tg) (b : Sm)
  | wrk (k j : Nat) (op : Op)
  | ret (e : Ex) | retN | brk | cont | never | io (i f : Nat) (es : Ex) | retP (e : Ex)
  | scp (k : Nat) (a : Sm) (vs : List Nat) (j : Nat) (ops : List Op) (rest : Sm)

/-! ### data: equality, truth -/
mutual
def D.eqv : D → D → Bool
  | .non, .non => true
  | .bl a, .bl b => a == b
  | .bl a, .int j => (if a then 1 else 0) == j
  | .int i, .bl b => i == (if b then 1 else 0)
  | .int i, .int j => i == j
  | .str x, .str y => x == y
  | .lst _ xs, .lst _ ys => D.eqvs xs ys
  | .tup xs, .tup ys => D.eqvs xs ys
  | _, _ => false
def D.eqvs : List D → List D → Bool
  | [], [] => true
  | x :: xs, y :: ys => D.eqv x y && D.eqvs xs ys
  | _, _ => false
end
mutual
/-- plain data, at most so deep -/
def D.ok : D → Nat → Bool
  | .non, _ => true
  | .bl _, _ => true
  | .int _, _ => true
  | .str s, _ => PyData.strOk s
  | .lst _ xs, k => match k with | 0 => false | k + 1 => D.oks xs k
  | .tup xs, k => match k with | 0 => false | k + 1 => D.oks xs k
  | .dic _ _, _ => false
  | .pur, _ => false
def D.oks : List D → Nat → Bool
  | [], _ => true
  | x :: xs, k => D.ok x k && D.oks xs k
end
def D.key : D → Option Key
  | .int i => some (.inl i) | .str s => some (.inr s) | _ => none
def kget (kds : List (Key × D)) (k : Key) : Option D := (kds.find? fun p => decide (p.1 = k)).map (·.2)
def kput (kds : List (Key × D)) (k : Key) (d : D) : List (Key × D) :=
  if (kds.any fun p => decide (p.1 = k)) = true then kds.map (fun p => if p.1 = k then (p.1, d) else p) else kds ++ [(k, d)]
/-- truth -/
def truW (d : D) (Q : Bool → Prop) : Prop :=
  match d with
  | .non => Q false | .bl b => Q b | .int i => Q (i != 0) | .str s => s.length ≤ sizeLine ∧ Q ((s.length : Int) != 0)
  | .lst _ xs => Q (!xs.isEmpty) | .tup xs => Q (!xs.isEmpty) | .dic _ kvs => Q (!kvs.isEmpty) | .pur => False

/-! ### operators -/
def MulOk (i j : Int) : Prop := (-(2 ^ 64) < i ∧ i < 2 ^ 64) ∨ (-(2 ^ 64) < j ∧ j < 2 ^ 64) ∨ i.natAbs.log2 + j.natAbs.log2 < 1000000
def binW (op : BOp) (x y : D) (Q : Sl → Prop) : Prop :=
  match op, x, y with
  | .add, .int i, .int j => Q (.pure (.int (i + j)))
  | .sub, .int i, .int j => Q (.pure (.int (i - j)))
  | .mul, .int i, .int j => MulOk i j ∧ Q (.pure (.int (i * j)))
  | .fdiv, .int i, .int j => (0 < j ∧ j.natAbs.log2 < 9000) ∧ Q (.pure (.int (i / j)))
  | .mod, .int i, .int j => 0 < j ∧ Q (.pure (.int (i % j)))
  | .pow, .int i, .int j => (0 ≤ j ∧ (Builtin.Int.intBits i : Int) * j ≤ 2 ^ 27) ∧ Q (.pure (.int (i ^ j.toNat)))
  | .add, .str a, .str b => a.length + b.length ≤ sizeLine ∧ Q (.pure (.str (a ++ b)))
  | .add, .lst _ xs, .lst _ ys => xs.length + ys.length ≤ sizeLine ∧ Q (.own (.lst true (xs ++ ys)))
  | .add, .tup xs, .tup ys => (xs ≠ [] ∧ ys ≠ [] ∧ xs.length + ys.length ≤ sizeLine) ∧ Q (.pure (.tup (xs ++ ys)))
  | .mul, .lst _ xs, .int k => (-(2 ^ 63) ≤ k ∧ k < 2 ^ 63 ∧ xs.length * k.toNat ≤ sizeLine) ∧ Q (.own (.lst true (List.replicate k.toNat xs).flatten))
  | _, _, _ => False
def D.isNon : D → Bool
  | .non => true | _ => false
def D.items : D → Option (List D)
  | .lst _ xs => some xs | .tup xs => some xs | _ => none
def D.ints : List D → Option (List Int)
  | [] => some []
  | .int i :: r => (D.ints r).map (i :: ·)
  | _ :: _ => none
def D.bools : List D → Option (List Bool)
  | [] => some []
  | .bl b :: r => (D.bools r).map (b :: ·)
  | _ :: _ => none
def D.pairs : List D → Option (List (Int × Int))
  | [] => some []
  | .tup [.int i, .int j] :: r => (D.pairs r).map ((i, j) :: ·)
  | _ :: _ => none
/-- the same, seen at once or by lists -/
def D.fe : D → D → Bool
  | .non, .non => true | .bl a, .bl b => a == b | .int i, .int j => i == j | .str x, .str y => x == y | _, _ => false
def all2 (f : D → D → Bool) : List D → List D → Bool
  | [], [] => true | x :: xs, y :: ys => f x y && all2 f xs ys | _, _ => false
def D.same : Nat → D → D → Bool
  | 0, _, _ => false
  | n + 1, x, y => D.fe x y || (match x, y with | .lst _ xs, .lst _ ys => all2 (D.same n) xs ys | _, _ => false)
def dEq (a b : List (Key × D)) : Bool := decide (a.length = b.length) && a.all fun p => match kget b p.1 with | some u => D.same 50 p.2 u | none => false
def D.kvs : List D → Option (List (Key × D))
  | [] => some []
  | .tup [k, x] :: r => match k.key, D.kvs r with | some c, some l => some ((c, x) :: l) | _, _ => none
  | _ :: _ => none
def inOk (x : D) (xs : List D) : Bool := x.ok 60 && D.oks xs 60
def cmpW (op : COp) (x y : D) (Q : Bool → Prop) : Prop :=
  match op with
  | .eq => (x.ok 60 = true ∧ y.ok 60 = true) ∧ Q (D.eqv x y)
  | .ne => (x.ok 60 = true ∧ y.ok 60 = true) ∧ Q (!D.eqv x y)
  | .lt => match x, y with
    | .int i, .int j => Q (decide (i < j))
    | .tup xs, .tup ys => match D.ints xs, D.ints ys with | some ns, some ms => Q (HT.lexLt ns ms) | _, _ => False
    | _, _ => False
  | .le => match x, y with | .int i, .int j => Q (decide (i ≤ j)) | _, _ => False
  | .gt => match x, y with | .int i, .int j => Q (decide (j < i)) | _, _ => False
  | .ge => match x, y with
    | .int i, .int j => Q (decide (j ≤ i))
    | .tup xs, .tup ys => match D.ints xs, D.ints ys with | some ns, some ms => ns.length = ms.length ∧ Q (!HT.lexLt ns ms) | _, _ => False
    | _, _ => False
  | .inS => match y with
    | .lst _ ys => inOk x ys = true ∧ Q (ys.any fun z => D.eqv z x)
    | .tup ys => (x.flat = true ∧ ys.all D.flat = true) ∧ Q (ys.any fun z => D.eqv z x)
    | _ => False
  | .ninS => match y with
    | .lst _ ys => inOk x ys = true ∧ Q (!ys.any fun z => D.eqv z x)
    | .tup ys => (x.flat = true ∧ ys.all D.flat = true) ∧ Q (!ys.any fun z => D.eqv z x)
    | _ => False
  | .eqd => match x, y with
    | .dic _ a, .dic _ b => dEq a b = true ∧ Q true
    | _, _ => (x.ok 60 = true ∧ y.ok 60 = true) ∧ Q (D.eqv x y)
  | .inD => match x.key, y with | some k, .dic _ kvs => Q (kget kvs k).isSome | _, _ => False
  | .ninD => match x.key, y with | some k, .dic _ kvs => Q (!(kget kvs k).isSome) | _, _ => False
def D.isTy : D → Ty → Bool
  | .int _, .int => true | .bl _, .int => true | .bl _, .bool => true | .str _, .str => true
  | .lst _ _, .list => true | .tup _, .tuple => true | .dic _ _, .dict => true
  | .pur, .list => true
  | _, _ => false
def ixW (x y : D) (Q : D → Prop) : Prop :=
  match x.items, y with
  | some xs, .int i => match atI xs i with | some d => Q d | none => False
  | _, _ => False
def dgetW (x y : D) (Q : D → Prop) : Prop :=
  match x, y.key with
  | .dic _ kvs, some k => match kget kvs k with | some d => Q d | none => False
  | _, _ => False
def cutD (xs : List D) (lo hi : Option Int) : List D := (xs.drop (HT.sIx xs.length 0 lo)).take (HT.sIx xs.length xs.length hi - HT.sIx xs.length 0 lo)
def partW (e : Ex) (d : D) (Q : Option Int → Prop) : Prop :=
  match e with
  | .non => Q none
  | _ => match d with | .int i => Q (some i) | _ => False
def sliceW (x : D) (l h : Option Int) (Q : Sl → Prop) : Prop :=
  match x with
  | .lst _ xs => Q (.own (.lst true (cutD xs l h)))
  | .tup xs => (cutD xs l h).length < xs.length ∧ Q (.pure (.tup (cutD xs l h)))
  | _ => False
def lexLe (a b : Int × Int) : Bool := decide (a.1 < b.1) || (decide (a.1 = b.1) && decide (a.2 ≤ b.2))
def bltW (f : Bi) (ds : List D) (Q : Sl → Prop) : Prop :=
  match f, ds with
  | .len, [.lst _ xs] => Q (.pure (.int xs.length))
  | .len, [.tup xs] => Q (.pure (.int xs.length))
  | .len, [.dic _ kvs] => Q (.pure (.int kvs.length))
  | .len, [.str s] => s.length ≤ sizeLine ∧ Q (.pure (.int s.length))
  | .int, [.int i] => Q (.pure (.int i))
  | .int, [.bl b] => Q (.pure (.int (if b then 1 else 0)))
  | .str, [.int i] => i.natAbs.log2 < 1920 ∧ Q (.pure (.str (toString i)))
  | .bool, [.int i] => Q (.pure (.bl (i != 0)))
  | .bool, [.bl b] => Q (.pure (.bl b))
  | .abs, [.int i] => Q (.pure (.int (if i < 0 then -i else i)))
  | .min2, [.int i, .int j] => Q (.pure (.int (if j < i then j else i)))
  | .max2, [.int i, .int j] => Q (.pure (.int (if j > i then j else i)))
  | .min1, [.lst _ xs] => match D.ints xs with | some ns => 0 < ns.length ∧ ∀ m, m ∈ ns → (∀ y, y ∈ ns → m ≤ y) → Q (.pure (.int m)) | none => False
  | .max1, [.lst _ xs] => match D.ints xs with | some ns => 0 < ns.length ∧ ∀ m, m ∈ ns → (∀ y, y ∈ ns → y ≤ m) → Q (.pure (.int m)) | none => False
  | .minD, [.lst _ xs, .int z] => match D.ints xs with
    | some ns => (ns = [] → Q (.pure (.int z))) ∧ (∀ m, m ∈ ns → (∀ y, y ∈ ns → m ≤ y) → Q (.pure (.int m))) | none => False
  | .sum, [.lst _ xs] => match D.ints xs with | some ns => Q (.pure (.int ns.sum)) | none => False
  | .any, [.lst _ xs] => match D.bools xs with | some bs => Q (.pure (.bl (bs.any id))) | none => False
  | .all, [.lst _ xs] => match D.bools xs with | some bs => Q (.pure (.bl (bs.all id))) | none => False
  | .sorted, [.lst _ xs] => match D.ints xs with
    | some ns => ∀ ms : List Int, ms.Perm ns → ms.Pairwise (· ≤ ·) → Q (.own (.lst true (ms.map D.int))) | none => False
  | .sortedP, [.lst _ xs] => match D.pairs xs with
    | some ps => ∀ qs : List (Int × Int), qs.Perm ps → qs.Pairwise (fun a b => lexLe a b = true) → Q (.own (.lst true (qs.map fun q => D.tup [.int q.1, .int q.2]))) | none => False
  | .list, [.lst _ xs] => Q (.own (.lst true xs))
  | .list, [.tup xs] => Q (.own (.lst true xs))
  | .tuple, [.lst _ xs] => Q (.pure (.tup xs))
  | .tuple, [.tup xs] => Q (.pure (.tup xs))
  | .lrange, [.int i] => (-1000000 ≤ i ∧ i ≤ 1000000) ∧ Q (.own (.lst true ((List.range i.toNat).map fun (k : Nat) => D.int (k : Int))))
  | _, _ => False
def methW (m : Me) (o : D) (ds : List D) (Q : Sl → Prop) : Prop :=
  match m, o, ds with
  | .count, .lst _ xs, [.int k] => match D.ints xs with | some ns => Q (.pure (.int (ns.count k))) | none => False
  | .index, .lst _ xs, [.int k] => match D.ints xs with | some ns => k ∈ ns ∧ Q (.pure (.int (ns.idxOf k))) | none => False
  | _, _, _ => False

/-! ### what a loop or a comprehension walks -/
def pairD (a b : D) : D := .tup [a, b]
def itemsW (k : Ik) (ss : List D) (Q : List D → Prop) : Prop :=
  match k, ss with
  | .seq, [.lst _ xs] => Q xs
  | .seq, [.tup xs] => Q xs
  | .range1, [.int j] => (-(2 ^ 62) ≤ j ∧ j < 2 ^ 62) ∧ Q ((List.range j.toNat).map fun (i : Nat) => D.int (i : Int))
  | .range2, [.int l, .int j] => (-(2 ^ 62) ≤ l ∧ l < 2 ^ 62 ∧ -(2 ^ 62) ≤ j ∧ j < 2 ^ 62) ∧ Q ((List.range (j - l).toNat).map fun (i : Nat) => D.int (l + (i : Int)))
  | .enum, [.lst _ xs] => Q (xs.mapIdx fun i x => pairD (.int (i : Int)) x)
  | .zip, [.lst _ xs, .lst _ ys] => Q (List.zipWith pairD xs ys)
  | .zip, [.tup xs, .tup ys] => Q (List.zipWith pairD xs ys)
  | .keys, [.dic _ kvs] => Q (kvs.map fun p => match p.1 with | .inl i => D.int i | .inr s => D.str s)
  | .items, [.dic _ kvs] => Q (kvs.map fun p => pairD (match p.1 with | .inl i => D.int i | .inr s => D.str s) p.2)
  | _, _ => False
mutual
def tgW : Tg → D → List Sl → (List Sl → Prop) → Prop
  | .nm i, d, ρ, Q => Q (ρ.set i (.pure d))
  | .tup t, d, ρ, Q => match d with | .tup ds => tgsW t ds ρ Q | _ => False
  | .tnil, _, _, _ => False
  | .tcons _ _, _, _, _ => False
def tgsW : Tg → List D → List Sl → (List Sl → Prop) → Prop
  | .tnil, ds, ρ, Q => ds = [] ∧ Q ρ
  | .tcons a b, ds, ρ, Q => match ds with | d :: r => tgW a d ρ fun ρ' => tgsW b r ρ' Q | [] => False
  | .nm _, _, _, _ => False
  | .tup _, _, _, _ => False
end
abbrev RK := Nat → D → Nat → Prop
abbrev FnSem := List D → Nat → (D → Nat → Prop) → RK → Prop
def noR : RK := fun _ _ _ => False
/-- the value as one that may be kept -/
def Sl.take (s : Sl) (Q : D → Prop) : Prop := match s with | .pure d => Q d | .own d => Q d | _ => False
def Sl.read (s : Sl) (Q : D → Prop) : Prop := match s with | .pure d => Q d | .own d => Q d | .bor d => Q d | .dead => False | .dp _ => False | .bdp _ => False
/-- .. or seen: nothing of it is kept -/
def Sl.see (s : Sl) (Q : D → Prop) : Prop := match s with | .pure d => Q d | .own d => Q d | .bor d => Q d | .dead => False | .dp _ => False | .bdp d => Q d
def sees : List Sl → (List D → Prop) → Prop
  | [], Q => Q []
  | s :: r, Q => s.see fun d => sees r fun ds => Q (d :: ds)
/-- a part of what was seen -/
def Sl.part (s : Sl) (d : D) : Sl := match s with | .bdp _ => .bdp d | _ => .pure d
def reads : List Sl → (List D → Prop) → Prop
  | [], Q => Q []
  | s :: r, Q => s.read fun d => reads r fun ds => Q (d :: ds)
def takes : List Sl → (List D → Prop) → Prop
  | [], Q => Q []
  | s :: r, Q => s.take fun d => takes r fun ds => Q (d :: ds)
/-- a display of what is held or lent -/
def lstW (ss : List Sl) (Q : Sl → Prop) : Prop := match ss.any Sl.isBor with
  | true => sees ss fun ds => ds.length ≤ sizeLine ∧ Q (.bdp (.lst false ds))
  | false => takes ss fun ds => ds.length ≤ sizeLine ∧ Q (.own (.lst true ds))
def wipeS (ρ : List Sl) : List Nat → List Sl
  | [] => ρ
  | v :: vs => (wipeS ρ vs).set v .dead
/-! what is young is young no more; all of it is young -/
mutual
def D.stale : D → D
  | .lst _ xs => .lst false (D.stales xs)
  | .tup xs => .tup (D.stales xs)
  | .dic _ kvs => .dic false (D.stalek kvs)
  | d => d
def D.stales : List D → List D
  | [] => []
  | x :: xs => x.stale :: D.stales xs
def D.stalek : List (Key × D) → List (Key × D)
  | [] => []
  | (k, x) :: xs => (k, x.stale) :: D.stalek xs
end
mutual
def D.fresh : D → Bool
  | .lst t xs => t && D.freshs xs
  | .tup xs => D.freshs xs
  | .dic t kvs => t && D.freshk kvs
  | _ => true
def D.freshs : List D → Bool
  | [] => true
  | x :: xs => x.fresh && D.freshs xs
def D.freshk : List (Key × D) → Bool
  | [] => true
  | (_, x) :: xs => x.fresh && D.freshk xs
end
def lentD (b : Bool) (ds : List D) : List D := if b then D.stales ds else ds
/-! no dict, no purse in it -/
mutual
def D.plain : D → Bool
  | .non => true | .bl _ => true | .int _ => true | .str _ => true
  | .lst _ xs => D.plains xs
  | .tup xs => D.plains xs
  | .dic _ _ => false
  | .pur => false
def D.plains : List D → Bool
  | [] => true
  | x :: xs => x.plain && D.plains xs
end
/-! what is seen while the dict at slot i is walked: what cannot lead to it -/
mutual
def D.nodic : D → Bool
  | .lst _ xs => D.nodics xs
  | .tup xs => D.nodics xs
  | .dic _ _ => false
  | _ => true
def D.nodics : List D → Bool
  | [] => true
  | x :: xs => x.nodic && D.nodics xs
end
def D.nodick : List (Key × D) → Bool
  | [] => true
  | (_, x) :: xs => x.nodic && D.nodick xs
def D.inner : D → Bool
  | .lst _ xs => D.nodics xs
  | .dic _ kvs => D.nodick kvs
  | _ => false
def lockS (ow : Bool) : Sl → Sl
  | .pure d => if ow || d.nodic then .pure d else .dead
  | .own d => if ow || d.inner then .own d else .dead
  | _ => .dead
def lockI (ow : Bool) (i : Nat) (ρ : List Sl) : List Sl := ρ.mapIdx fun j s => if j = i then .dead else lockS ow s
def lockW (s : Sl) (i : Nat) (ρ : List Sl) : Option (List Sl) :=
  match s with
  | .own _ => some (lockI true i ρ)
  | .pure (.dic _ kvs) => if D.nodick kvs then some (lockI false i ρ) else none
  | _ => none
def lockV (src : Ex) (ρ : List Sl) : Option (List Sl) :=
  match src with
  | .econs (.var i) .enil => lockW (ρ.getD i .dead) i ρ
  | _ => none
def lockP (k : Ik) (src : Ex) (ρ : List Sl) : Option (List Sl) :=
  match k with
  | .keys => lockV src ρ | .items => lockV src ρ | _ => some ρ
/-- the turns of a comprehension -/
def compW (step : D → Nat → (Option D → Nat → Prop) → Prop) : List D → Nat → List D → (List D → Nat → Prop) → Prop
  | [], n, acc, Q => Q acc n
  | x :: r, n, acc, Q => step x n fun o n' => match o with | none => compW step r n' acc Q | some d => acc.length < sizeLine ∧ compW step r n' (acc ++ [d]) Q
def putI (acc : List Int) (i : Int) : List Int := if i ∈ acc then acc else acc ++ [i]
/-- .. of a set of ints -/
def intsW (step : D → Nat → (Option D → Nat → Prop) → Prop) : List D → Nat → List Int → (List Int → Nat → Prop) → Prop
  | [], n, acc, Q => Q acc n
  | x :: r, n, acc, Q => step x n fun o n' => match o with | none => intsW step r n' acc Q | some (.int i) => acc.length + 1 < 4096 ∧ intsW step r n' (putI acc i) Q | some _ => False
/-- each pair (key, f(d[key])) of a dict's keys -/
def pairsd (kvs : List (Key × D)) : List D := kvs.map fun p => pairD (match p.1 with | .inl i => D.int i | .inr s => D.str s) ((kget kvs p.1).getD .non)
def stepd (Ψ : Nat → FnSem) (f : Nat) (x : D) (n : Nat) (K : Option D → Nat → Prop) : Prop :=
  match x with
  | .tup [q, d] => Ψ f [d] n (fun d' n' => K (some (.tup [q, d'])) n') noR
  | _ => False
/-- .. of the first for of two -/
def comp2W (step : D → Nat → List D → (List D → Nat → Prop) → Prop) : List D → Nat → List D → (List D → Nat → Prop) → Prop
  | [], n, acc, Q => Q acc n
  | x :: r, n, acc, Q => step x n acc fun acc' n' => comp2W step r n' acc' Q
def D.isLst : D → Bool
  | .lst _ _ => true | _ => false
def noLock : Ik → Bool
  | .keys => false | .items => false | _ => true
mutual
def wpE (Ψ : Nat → FnSem) : Ex → RK → List Sl → Nat → (Sl → Nat → Prop) → Prop
  | .var i, _, ρ, n, Q => match ρ.getD i .dead with | .pure d => Q (.pure d) n | .own d => Q (.bor d) n | .bor d => Q (.bor d) n | .dp d => Q (.bdp d) n | .bdp d => Q (.bdp d) n | .dead => False
  | .int i, _, _, n, Q => Q (.pure (.int i)) n
  | .bl b, _, _, n, Q => Q (.pure (.bl b)) n
  | .non, _, _, n, Q => Q (.pure .non) n
  | .str s, _, _, n, Q => Q (.pure (.str s)) n
  | .bin op a b, R, ρ, n, Q => wpE Ψ a R ρ n fun s n1 => wpE Ψ b R ρ n1 fun u n2 => s.read fun x => u.read fun y => binW op x y fun z => Q z n2
  | .neg a, R, ρ, n, Q => wpE Ψ a R ρ n fun s n1 => s.read fun x => match x with | .int i => Q (.pure (.int (-i))) n1 | _ => False
  | .cmp op a b, R, ρ, n, Q => wpE Ψ a R ρ n fun s n1 => wpE Ψ b R ρ n1 fun u n2 => s.see fun x => u.see fun y => cmpW op x y fun c => Q (.pure (.bl c)) n2
  | .isB a b, R, ρ, n, Q => wpE Ψ a R ρ n fun s n1 => s.read fun x => match x with | .bl c => Q (.pure (.bl (decide (c = b)))) n1 | _ => False
  | .rev a, R, ρ, n, Q => wpE Ψ a R ρ n fun s n1 => s.read fun x => match x with | .lst _ xs => Q (.own (.lst true xs.reverse)) n1 | _ => False
  | .mkd a, R, ρ, n, Q => wpE Ψ a R ρ n fun s n1 => s.read fun x => match x with | .lst _ xs => (match D.kvs xs with | some kds => Q (.own (.dic true (kds.foldl (fun acc p => kput acc p.1 p.2) []))) n1 | none => False) | _ => False
  | .isN a, R, ρ, n, Q => wpE Ψ a R ρ n fun s n1 => s.see fun x => Q (.pure (.bl x.isNon)) n1
  | .notN a, R, ρ, n, Q => wpE Ψ a R ρ n fun s n1 => s.see fun x => Q (.pure (.bl (!x.isNon))) n1
  | .chain op op2 a b c, R, ρ, n, Q => wpE Ψ a R ρ n fun s n1 => wpE Ψ b R ρ n1 fun u n2 => s.read fun x => u.read fun y => cmpW op x y fun k =>
      if k = true then wpE Ψ c R ρ n2 fun w n3 => w.read fun z => cmpW op2 y z fun k2 => Q (.pure (.bl k2)) n3 else Q (.pure (.bl false)) n2
  | .and a b, R, ρ, n, Q => wpE Ψ a R ρ n fun s n1 => s.read fun x => truW x fun k => if k = true then wpE Ψ b R ρ n1 Q else Q s n1
  | .or a b, R, ρ, n, Q => wpE Ψ a R ρ n fun s n1 => s.read fun x => truW x fun k => if k = true then Q s n1 else wpE Ψ b R ρ n1 Q
  | .not a, R, ρ, n, Q => wpE Ψ a R ρ n fun s n1 => s.read fun x => truW x fun k => Q (.pure (.bl (!k))) n1
  | .ite c a b, R, ρ, n, Q => wpE Ψ c R ρ n fun s n1 => s.read fun x => truW x fun k => if k = true then wpE Ψ a R ρ n1 Q else wpE Ψ b R ρ n1 Q
  | .tup es, R, ρ, n, Q => wpL Ψ es R ρ n fun ss n1 => takes ss fun ds => ds.length ≤ sizeLine ∧ Q (.pure (.tup ds)) n1
  | .lst es, R, ρ, n, Q => wpL Ψ es R ρ n fun ss n1 => lstW ss fun s => Q s n1
  | .dnew, _, _, n, Q => Q (.own (.dic true [])) n
  | .ix a b, R, ρ, n, Q => wpE Ψ a R ρ n fun s n1 => wpE Ψ b R ρ n1 fun u n2 => s.see fun x => u.read fun y => ixW x y fun d => Q (s.part d) n2
  | .dget a b, R, ρ, n, Q => wpE Ψ a R ρ n fun s n1 => wpE Ψ b R ρ n1 fun u n2 => s.read fun x => u.read fun y => dgetW x y fun d => Q (.pure d) n2
  | .slice a lo hi, R, ρ, n, Q => wpE Ψ a R ρ n fun s n1 => wpE Ψ lo R ρ n1 fun l n2 => l.read fun y => partW lo y fun lo' => wpE Ψ hi R ρ n2 fun h n3 => h.read fun z => partW hi z fun hi' => s.read fun x => sliceW x lo' hi' fun r => Q r n3
  | .call f es, R, ρ, n, Q => wpL Ψ es R ρ n fun ss n1 => sees ss fun ds => Ψ f (lentD (ss.any Sl.isBor) ds) n1 (fun d n2 => (ss.any Sl.isBor = true → d.fresh = true) ∧ Q (.pure d) n2) (fun c pl m => (ss.any Sl.isBor = true → pl.flat = true) ∧ R c pl m)
  | .bits e, R, ρ, n, Q => wpE Ψ e R ρ n fun s n1 => s.read fun x => match x with | .int i => Q (.pure (.int (Builtin.Int.intBits i : Nat))) n1 | _ => False
  | .isi e ts, R, ρ, n, Q => wpE Ψ e R ρ n fun s n1 => s.see fun x => Q (.pure (.bl (ts.any fun t => x.isTy t))) n1
  | .blt f es, R, ρ, n, Q => wpL Ψ es R ρ n fun ss n1 => reads ss fun ds => bltW f ds fun z => Q z n1
  | .meth m o es, R, ρ, n, Q => wpE Ψ o R ρ n fun s n1 => s.read fun x => x.isLst = true ∧ wpL Ψ es R ρ n1 fun ss n2 => reads ss fun ds => methW m x ds fun z => Q z n2
  | .comp k src tg cond elt vs, R, ρ, n, Q => match lockP k src ρ with
    | none => False
    | some ρ1 => wpL Ψ src R ρ n fun ss n1 => reads ss fun ds => itemsW k ds fun xs =>
      compW (fun x n K => tgW tg x (wipeS ρ1 vs) fun ρ' => wpE Ψ cond noR ρ' n fun c n2 => c.read fun y => truW y fun b => if b = true then wpE Ψ elt noR ρ' n2 fun z n3 => z.take fun d => K (some d) n3 else K none n2)
        xs n1 [] fun ys n2 => Q (.own (.lst true ys)) n2
  | .lset k src tg cond elt vs, R, ρ, n, Q => noLock k = true ∧ wpL Ψ src R ρ n fun ss n1 => reads ss fun ds => itemsW k ds fun xs =>
      intsW (fun x n K => tgW tg x (wipeS ρ vs) fun ρ' => wpE Ψ cond noR ρ' n fun c n2 => c.read fun y => truW y fun b => if b = true then wpE Ψ elt noR ρ' n2 fun z n3 => z.take fun d => K (some d) n3 else K none n2)
        xs n1 [] fun ys n2 => Q (.pure (.int (ys.length : Nat))) n2
  | .compd i f k vs, _, ρ, n, Q => (k < ρ.length ∧ k ∈ vs ∧ k ≠ i ∧ i ∉ vs) ∧ match ρ.getD i .dead with
      | .pure (.dic _ kvs) => D.nodick kvs = true ∧ compW (stepd Ψ f) (pairsd kvs) n [] fun ys n2 => Q (.own (.lst true ys)) n2
      | _ => False
  | .comp2 k src tg k1 src1 tg1 cond1 elt vs vs1, R, ρ, n, Q => (noLock k = true ∧ noLock k1 = true) ∧ wpL Ψ src R ρ n fun ss n1 => reads ss fun ds => itemsW k ds fun xs =>
      comp2W (fun x n acc K => tgW tg x (wipeS ρ vs) fun ρ' => wpL Ψ src1 noR ρ' n fun ss1 n2 => ss1.any Sl.isBor = false ∧ reads ss1 fun ds1 => itemsW k1 ds1 fun xs1 =>
        compW (fun x n K => tgW tg1 x (wipeS ρ' vs1) fun ρ' => wpE Ψ cond1 noR ρ' n fun c n2 => c.read fun y => truW y fun b => if b = true then wpE Ψ elt noR ρ' n2 fun z n3 => z.take fun d => K (some d) n3 else K none n2) xs1 n2 acc K)
        xs n1 [] fun ys n2 => Q (.own (.lst true ys)) n2
  | .enil, _, _, _, _ => False
  | .econs _ _, _, _, _, _ => False
def wpL (Ψ : Nat → FnSem) : Ex → RK → List Sl → Nat → (List Sl → Nat → Prop) → Prop
  | .enil, _, _, n, Q => Q [] n
  | .econs e es, R, ρ, n, Q => wpE Ψ e R ρ n fun s n1 => wpL Ψ es R ρ n1 fun ss n2 => Q (s :: ss) n2
  | _, _, _, _, _ => False
end

/-- a purse's four numbers -/
def PurOk (n : Nat) (s c k t : Int) : Prop := 0 ≤ s ∧ s < 10 ^ 480 ∧ 0 ≤ c ∧ c < 2147483629 ∧ 0 ≤ k ∧ k ≤ n ∧ 0 ≤ t ∧ t ≤ 63
structure KS where
  nx : List Sl → Nat → Prop
  rt : List Sl → D → Nat → Prop
  bk : List Sl → Nat → Prop := fun _ _ => False
  ct : List Sl → Nat → Prop := fun _ _ => False
/-- what is wanted behind a statement that others follow; behind a turn -/
def KS.thn (K : KS) (g : List Sl → Nat → KS → Prop) : KS := { nx := fun ρ n => g ρ n K, rt := K.rt, bk := K.bk, ct := K.ct }
def KS.loop (K : KS) (J : List Sl → Nat → Prop) : KS := { nx := J, rt := K.rt, bk := K.nx, ct := J }
def forW (step : D → List Sl → Nat → (List Sl → Nat → Prop) → Prop) (nx : List Sl → Nat → Prop) : List D → List Sl → Nat → Prop
  | [], ρ, n => nx ρ n
  | x :: r, ρ, n => step x ρ n fun ρ' n' => forW step nx r ρ' n'
def insAt (xs : List D) (i : Int) (d : D) : List D := xs.take i.toNat ++ d :: xs.drop i.toNat
def mutW (m : Mu) (x : D) (ds : List D) (Q : D → Prop) : Prop :=
  match m, x, ds with
  | .append, .lst t xs, [d] => xs.length < sizeLine ∧ Q (.lst t (xs ++ [d]))
  | .insert, .lst t xs, [.int i, d] => (0 ≤ i ∧ i ≤ xs.length ∧ xs.length < sizeLine) ∧ Q (.lst t (insAt xs i d))
  | .extend, .lst t xs, [.lst _ ys] => xs.length + ys.length ≤ sizeLine ∧ Q (.lst t (xs ++ ys))
  | .clear, .lst t _, [] => Q (.lst t [])
  | .pop, .lst t xs, [] => xs ≠ [] ∧ Q (.lst t xs.dropLast)
  | _, _, _ => False
def setW (x k d : D) (Q : D → Prop) : Prop :=
  match x, k with
  | .lst t xs, .int i => match ixN xs.length i with | some j => Q (.lst t (xs.set j d)) | none => False
  | _, _ => False
def dputW (x k d : D) (Q : D → Prop) : Prop :=
  match x, k.key with
  | .dic t kvs, some k => kvs.length < sizeLine ∧ Q (.dic t (kput kvs k d))
  | _, _ => False
/-- what a name gets: an own list or dict, or a value -/
def Sl.keep (own : Hw) (s : Sl) (Q : Sl → Prop) : Prop := match own, s with
  | .o, .own d => Q (.own d)
  | .v, .own d => Q (.pure d)
  | .v, .pure d => Q (.pure d)
  | .d, .own d => (d.fresh = true ∧ d.plain = true) ∧ Q (.dp d)
  | .d, .pure d => (d.fresh = true ∧ d.plain = true) ∧ Q (.dp d)
  | _, _ => False
/-! what was told, and is then changed -/
def D.lstLe (m : Nat) : D → Bool
  | .lst _ xs => decide (xs.length ≤ m) | _ => false
def opK (ds : List D) : Op → Bool
  | .ins c _ => match ds[c]? with | some d => d.lstLe 1000000 | none => false
  | .each (some c) skip _ _ => match ds[c]? with | some (.lst _ es) => decide (es.length ≤ 1000000) && es.all fun d => d.lstLe 1000000 || (skip && d.isNon) | _ => false
  | .each none skip _ _ => decide (ds.length ≤ 1000000) && ds.all fun d => d.lstLe 1000000 || (skip && d.isNon)
def Op.isIns : Op → Bool
  | .ins _ _ => true | _ => false
def opsK (ops : List Op) (ds : List D) : Bool := ops.all (opK ds) && (ops.drop 1).all Op.isIns && decide (ops.length ≤ 100)
def Op.var : Op → List Nat
  | .each _ _ x _ => [x] | _ => []
/-- all that is held so far is old -/
def Sl.old1 : Sl → Sl
  | .pure d => .pure d.stale | .own d => .own d.stale | .bor d => .bor d.stale | .dp d => .dp d.stale | .bdp d => .bdp d.stale | .dead => .dead
def ageK (k : Hw) (ρ : List Sl) : List Sl := match k with | .d => ρ.map Sl.old1 | _ => ρ
/-- all that is held so far is old, and shared -/
def Sl.aged : Sl → Sl
  | .pure d => .pure d.stale | .own d => .pure d.stale | _ => .dead
def Sl.heldBy (s : Sl) (d : D) : Prop := s = .pure d ∨ s = .own d
def wpS (Ψ : Nat → FnSem) (R : RK) : Sm → List Sl → Nat → KS → Prop
  | .snil, ρ, n, K => K.nx ρ n
  | .scons s ss, ρ, n, K => wpS Ψ R s ρ n (K.thn fun ρ' n' K => wpS Ψ R ss ρ' n' K)
  | .frz i ss, ρ, n, K => match ρ.getD i .dead with | .own d => wpS Ψ R ss (ρ.set i (.pure d)) n K | .pure d => wpS Ψ R ss (ρ.set i (.pure d)) n K | _ => False
  | .pass, ρ, n, K => K.nx ρ n
  | .asg i e, ρ, n, K => wpE Ψ e R ρ n fun s n1 => s.keep .v fun z => K.nx (ρ.set i z) n1
  | .asgO i e, ρ, n, K => wpE Ψ e R ρ n fun s n1 => s.keep .o fun z => K.nx (ρ.set i z) n1
  | .asgT tg e, ρ, n, K => wpE Ψ e R ρ n fun s n1 => s.take fun d => tgW tg d ρ fun ρ' => K.nx ρ' n1
  | .asgD i e, ρ, n, K => wpE Ψ e R (ageK .d ρ) n fun s n1 => s.keep .d fun z => K.nx (ρ.set i z) n1
  | .par2 i j oi oj a b, ρ, n, K => wpE Ψ a R (ageK oi ρ) n fun s n1 => wpE Ψ b R (ageK oj ρ) n1 fun u n2 => s.keep oi fun x => u.keep oj fun y => K.nx ((ρ.set i x).set j y) n2
  | .par3 i j l oi oj ol a b c, ρ, n, K => wpE Ψ a R (ageK oi ρ) n fun s n1 => wpE Ψ b R (ageK oj ρ) n1 fun u n2 => wpE Ψ c R (ageK ol ρ) n2 fun w n3 => s.keep oi fun x => u.keep oj fun y => w.keep ol fun z => K.nx (((ρ.set i x).set j y).set l z) n3
  | .aug i op e, ρ, n, K => match ρ.getD i .dead with
    | .pure x => wpE Ψ e R ρ n fun u n1 => u.read fun y => (match x, y with | .int _, .int _ => True | _, _ => False) ∧ binW op x y fun z => z.keep .v fun z => K.nx (ρ.set i z) n1
    | _ => False
  | .mut i m es, ρ, n, K => match ρ.getD i .dead with
    | .own x => x.isLst = true ∧ wpL Ψ es R ρ n fun ss n1 => takes ss fun ds => mutW m x ds fun y => K.nx (ρ.set i (.own y)) n1
    | _ => False
  | .setIx i k e, ρ, n, K => match ρ.getD i .dead with
    | .own x => wpE Ψ e R ρ n fun u n1 => wpE Ψ k R ρ n1 fun s n2 => u.take fun d => s.read fun kk => setW x kk d fun y => K.nx (ρ.set i (.own y)) n2
    | _ => False
  | .dput i k e, ρ, n, K => match ρ.getD i .dead with
    | .own x => wpE Ψ e R ρ n fun u n1 => wpE Ψ k R ρ n1 fun s n2 => u.take fun d => s.read fun kk => dputW x kk d fun y => K.nx (ρ.set i (.own y)) n2
    | _ => False
  | .expr e, ρ, n, K => wpE Ψ e R ρ n fun _ n1 => K.nx ρ n1
  | .ife c a b, ρ, n, K => wpE Ψ c R ρ n fun s n1 => s.read fun x => truW x fun k => if k = true then wpS Ψ R a ρ n1 K else wpS Ψ R b ρ n1 K
  | .whil c b, ρ, n, K => ∃ (I : List Sl → Nat → Prop) (μ : List Sl → Nat → Nat), I ρ n ∧ ∀ ρ n, I ρ n → wpE Ψ c R ρ n fun s n1 => s.read fun x => truW x fun k =>
      if k = true then wpS Ψ R b ρ n1 (K.loop fun ρ' n' => I ρ' n' ∧ μ ρ' n' < μ ρ n) else K.nx ρ n1
  | .for k src tg b, ρ, n, K => wpL Ψ src R ρ n fun ss n1 => takes ss fun ds => itemsW k ds fun xs =>
      forW (fun x ρ n next => tgW tg x ρ fun ρ' => wpS Ψ R b ρ' n (K.loop next)) K.nx xs ρ n1
  | .wrk k j op, ρ, n, K => match ρ.getD j .dead with
    | .dp (.lst t ds) => ((ρ.length = k ∧ (D.lst t ds).fresh = true) ∧ opK ds op = true) ∧ K.nx (wipeS (ρ.set j .dead) op.var) n
    | _ => False
  | .ret e, ρ, n, K => wpE Ψ e R ρ n fun s n1 => s.take fun d => K.rt ρ d n1
  | .retN, ρ, n, K => K.rt ρ .non n
  | .retP e, ρ, n, K => wpE Ψ e R ρ n fun s n1 => match s with | .own (.lst _ [.int a, .int c, .int k, .int t]) => PurOk n1 a c k t ∧ K.rt ρ .pur n1 | _ => False
  | .brk, ρ, n, K => K.bk ρ n
  | .cont, ρ, n, K => K.ct ρ n
  | .never, _, _, _ => False
  | .scp k a vs j ops rest, ρ, n, K => ρ.length = k ∧ wpS Ψ noR a (ρ.map Sl.aged) n
      { nx := fun ρ' n' => (ρ'.length = k ∧ ∃ t ds, (ρ'.getD j .dead).heldBy (.lst t ds) ∧ (D.lst t ds).fresh = true ∧ opsK ops ds = true) ∧ wpS Ψ R rest (wipeS ρ vs) n' K, rt := fun ρ' d n' => (ρ'.length = k ∧ d.flat = true) ∧ K.rt (wipeS ρ vs) d n' }
  | .io i f es, ρ, n, K => match ρ.getD i .dead with
    | .own x => wpL Ψ es R ρ n fun ss n1 => takes ss fun ds => Ψ f (x :: ds) n1 (fun d n2 => match d with | .tup [_, y] => K.nx (ρ.set i (.own y)) n2 | _ => False) noR
    | _ => False
/-- a def: its parameters' number, that of its names, its body -/
structure Fd where
  np : Nat
  nn : Nat
  body : Sm
def fnW (Ψ : Nat → FnSem) (f : Fd) : FnSem := fun ds n Q R =>
  ds.length = f.np ∧ wpS Ψ R f.body (ds.map Sl.pure ++ List.replicate (f.nn - f.np) .dead) n { nx := fun _ n' => Q .non n', rt := fun _ d n' => Q d n' }
/-- a def that changes its first argument: it tells what became of it -/
def fnIO (Ψ : Nat → FnSem) (f : Fd) : FnSem := fun ds n Q _ => ds.length = f.np ∧ match ds with
  | d0 :: ds => wpS Ψ noR f.body (Sl.own d0 :: (ds.map Sl.pure ++ List.replicate (f.nn - f.np) .dead)) n { nx := fun ρ' n' => match ρ'.getD 0 .dead with | .own y => Q (.tup [.non, y]) n' | _ => False, rt := fun _ _ _ => False }
  | [] => False
/-- a def that draws from a purse, its first argument -/
def fnPu (Ψ : Nat → FnSem) (f : Fd) : FnSem := fun ds n Q _ => ds.length = f.np ∧ match ds with
  | .pur :: ds => ds.all D.flat = true ∧ ∀ a c k t : Int, PurOk n a c k t → wpS Ψ noR f.body (Sl.own (.lst false [.int a, .int c, .int k, .int t]) :: (ds.map Sl.pure ++ List.replicate (f.nn - f.np) .dead)) n
      { nx := fun _ _ => False, rt := fun ρ' d n' => d.flat = true ∧ match ρ'.getD 0 .dead with | .own (.lst _ [.int a, .int c, .int k, .int t]) => ∃ m, n' ≤ m ∧ PurOk m a c k t ∧ Q d m | _ => False }
  | _ => False
end Vm
/-! VmM: a weaker end is reached as well. -/
namespace Vm
open PySem PySem.Spec L2
theorem truW_mono {d : D} {A B : Bool → Prop} (h : ∀ k, A k → B k) (w : truW d A) : truW d B := by
  cases d <;> first | exact h _ w | exact ⟨w.1, h _ w.2⟩ | exact w
theorem read_mono {s : Sl} {A B : D → Prop} (h : ∀ d, A d → B d) (w : s.read A) : s.read B := by cases s <;> first | exact h _ w | exact w
theorem see_mono {s : Sl} {A B : D → Prop} (h : ∀ d, A d → B d) (w : s.see A) : s.see B := by cases s <;> first | exact h _ w | exact w
theorem sees_mono : ∀ {ss : List Sl} {A B : List D → Prop}, (∀ d, A d → B d) → sees ss A → sees ss B
  | [], _, _, h, w => h _ w
  | _ :: _, _, _, h, w => see_mono (fun _ q => sees_mono (fun _ z => h _ z) q) w
theorem take_mono {s : Sl} {A B : D → Prop} (h : ∀ d, A d → B d) (w : s.take A) : s.take B := by cases s <;> first | exact h _ w | exact w
theorem reads_mono : ∀ {ss : List Sl} {A B : List D → Prop}, (∀ d, A d → B d) → reads ss A → reads ss B
  | [], _, _, h, w => h _ w
  | _ :: _, _, _, h, w => read_mono (fun _ q => reads_mono (fun _ z => h _ z) q) w
theorem takes_mono : ∀ {ss : List Sl} {A B : List D → Prop}, (∀ d, A d → B d) → takes ss A → takes ss B
  | [], _, _, h, w => h _ w
  | _ :: _, _, _, h, w => take_mono (fun _ q => takes_mono (fun _ z => h _ z) q) w
theorem keep_mono {o : Hw} {s : Sl} {A B : Sl → Prop} (h : ∀ d, A d → B d) (w : s.keep o A) : s.keep o B := by cases o <;> cases s <;> first | exact h _ w | exact ⟨w.1, h _ w.2⟩ | exact w
theorem binW_mono {op : BOp} {x y : D} {A B : Sl → Prop} (h : ∀ k, A k → B k) (w : binW op x y A) : binW op x y B := by
  unfold binW at w ⊢
  split at w <;> first | exact h _ w | exact ⟨w.1, h _ w.2⟩ | exact w.elim
theorem cmpW_mono {op : COp} {x y : D} {A B : Bool → Prop} (h : ∀ k, A k → B k) (w : cmpW op x y A) : cmpW op x y B := by
  unfold cmpW at w ⊢
  split at w
  all_goals first | exact ⟨w.1, h _ w.2⟩ | skip
  all_goals (repeat' split at w)
  all_goals first | exact h _ w | exact ⟨w.1, h _ w.2⟩ | exact w.elim | skip
theorem ixW_mono {x y : D} {A B : D → Prop} (h : ∀ k, A k → B k) (w : ixW x y A) : ixW x y B := by
  unfold ixW at w ⊢
  repeat' split at w
  all_goals first | exact h _ w | exact w.elim
theorem dgetW_mono {x y : D} {A B : D → Prop} (h : ∀ k, A k → B k) (w : dgetW x y A) : dgetW x y B := by
  unfold dgetW at w ⊢
  repeat' split at w
  all_goals first | exact h _ w | exact w.elim
theorem partW_mono {e : Ex} {d : D} {A B : Option Int → Prop} (h : ∀ k, A k → B k) (w : partW e d A) : partW e d B := by
  unfold partW at w ⊢
  repeat' split at w
  all_goals first | exact h _ w | exact w.elim
theorem sliceW_mono {x : D} {y z : Option Int} {A B : Sl → Prop} (h : ∀ k, A k → B k) (w : sliceW x y z A) : sliceW x y z B := by
  unfold sliceW at w ⊢
  split at w <;> first | exact h _ w | exact ⟨w.1, h _ w.2⟩ | exact w.elim
theorem bltW_mono {f : Bi} {ds : List D} {A B : Sl → Prop} (h : ∀ k, A k → B k) (w : bltW f ds A) : bltW f ds B := by
  unfold bltW at w ⊢
  split at w
  all_goals first | exact h _ w | exact ⟨w.1, h _ w.2⟩ | exact w.elim | skip
  all_goals (split at w)
  all_goals first | exact w.elim | exact h _ w | exact ⟨w.1, fun m a b => h _ (w.2 m a b)⟩ | exact ⟨fun a => h _ (w.1 a), fun m a b => h _ (w.2 m a b)⟩ | exact fun m a b => h _ (w m a b)
theorem methW_mono {f : Me} {o : D} {ds : List D} {A B : Sl → Prop} (h : ∀ k, A k → B k) (w : methW f o ds A) : methW f o ds B := by
  unfold methW at w ⊢
  split at w
  all_goals first | exact w.elim | skip
  all_goals (split at w)
  all_goals first | exact w.elim | exact h _ w | exact ⟨w.1, h _ w.2⟩
theorem itemsW_mono {k : Ik} {ds : List D} {A B : List D → Prop} (h : ∀ k, A k → B k) (w : itemsW k ds A) : itemsW k ds B := by
  unfold itemsW at w ⊢
  split at w <;> first | exact h _ w | exact ⟨w.1, h _ w.2⟩ | exact w.elim
theorem mutW_mono {k : Mu} {x : D} {ds : List D} {A B : D → Prop} (h : ∀ k, A k → B k) (w : mutW k x ds A) : mutW k x ds B := by
  unfold mutW at w ⊢
  split at w <;> first | exact h _ w | exact ⟨w.1, h _ w.2⟩ | exact w.elim
theorem setW_mono {x k d : D} {A B : D → Prop} (h : ∀ k, A k → B k) (w : setW x k d A) : setW x k d B := by
  unfold setW at w ⊢
  repeat' split at w
  all_goals first | exact h _ w | exact w.elim
theorem dputW_mono {x k d : D} {A B : D → Prop} (h : ∀ k, A k → B k) (w : dputW x k d A) : dputW x k d B := by
  unfold dputW at w ⊢
  split at w <;> first | exact ⟨w.1, h _ w.2⟩ | exact w.elim
mutual
theorem tgW_mono : ∀ {t : Tg} {d : D} {ρ : List Sl} {A B : List Sl → Prop}, (∀ k, A k → B k) → tgW t d ρ A → tgW t d ρ B
  | .nm _, _, _, _, _, h, w => h _ w
  | .tup t, d, _, _, _, h, w => by
    unfold tgW at w ⊢
    split at w
    · exact tgsW_mono h w
    · exact w.elim
  | .tnil, _, _, _, _, _, w => by unfold tgW at w; exact w.elim
  | .tcons _ _, _, _, _, _, _, w => by unfold tgW at w; exact w.elim
theorem tgsW_mono : ∀ {t : Tg} {d : List D} {ρ : List Sl} {A B : List Sl → Prop}, (∀ k, A k → B k) → tgsW t d ρ A → tgsW t d ρ B
  | .tnil, _, _, _, _, h, w => ⟨w.1, h _ w.2⟩
  | .tcons a b, ds, _, _, _, h, w => by
    unfold tgsW at w ⊢
    split at w
    · exact tgW_mono (fun _ q => tgsW_mono h q) w
    · exact w.elim
  | .nm _, _, _, _, _, _, w => by unfold tgsW at w; exact w.elim
  | .tup _, _, _, _, _, _, w => by unfold tgsW at w; exact w.elim
end
theorem intsW_mono {step : D → Nat → (Option D → Nat → Prop) → Prop} (hs : ∀ x n A B, (∀ o m, A o m → B o m) → step x n A → step x n B) : ∀ {xs : List D} {n : Nat} {acc : List Int} {Q Q' : List Int → Nat → Prop}, (∀ a m, Q a m → Q' a m) → intsW step xs n acc Q → intsW step xs n acc Q'
  | [], _, _, _, _, h, w => h _ _ w
  | x :: xs, n, acc, _, _, h, w => by
    refine hs x n _ _ (fun o m q => ?_) w
    cases o with
    | none => exact intsW_mono hs h q
    | some d =>
      cases d with
      | int i => exact ⟨q.1, intsW_mono hs h q.2⟩
      | _ => exact (show False from q).elim
theorem compW_mono {step : D → Nat → (Option D → Nat → Prop) → Prop} (hs : ∀ x n A B, (∀ o m, A o m → B o m) → step x n A → step x n B) :
    ∀ {xs : List D} {n : Nat} {acc : List D} {A B : List D → Nat → Prop}, (∀ d m, A d m → B d m) → compW step xs n acc A → compW step xs n acc B
  | [], _, _, _, _, h, w => h _ _ w
  | x :: r, n, acc, A, B, h, w => by
    unfold compW at w ⊢
    refine hs _ _ _ _ (fun o m q => ?_) w
    cases o with
    | none => exact compW_mono hs h q
    | some d => exact ⟨q.1, compW_mono hs h q.2⟩
theorem comp2W_mono {step : D → Nat → List D → (List D → Nat → Prop) → Prop} (hs : ∀ x n acc A B, (∀ o m, A o m → B o m) → step x n acc A → step x n acc B) :
    ∀ {xs : List D} {n : Nat} {acc : List D} {A B : List D → Nat → Prop}, (∀ d m, A d m → B d m) → comp2W step xs n acc A → comp2W step xs n acc B
  | [], _, _, _, _, h, w => h _ _ w
  | x :: r, n, acc, A, B, h, w => by
    unfold comp2W at w ⊢
    exact hs _ _ _ _ _ (fun o m q => comp2W_mono hs h q) w
theorem lstW_mono {ss : List Sl} {A B : Sl → Prop} (h : ∀ s, A s → B s) (w : lstW ss A) : lstW ss B := by
  unfold lstW at w ⊢
  split at w
  · exact sees_mono (fun _ q => ⟨q.1, h _ q.2⟩) w
  · exact takes_mono (fun _ q => ⟨q.1, h _ q.2⟩) w
def MonoF (Ψ : Nat → FnSem) : Prop := ∀ f ds n (Q Q' : D → Nat → Prop) (R R' : RK), (∀ d m, Q d m → Q' d m) → (∀ c d m, R c d m → R' c d m) → Ψ f ds n Q R → Ψ f ds n Q' R'
section
variable {Ψ : Nat → FnSem} (hΨ : MonoF Ψ)
include hΨ
theorem stepd_mono {f : Nat} {x : D} {n : Nat} {A B : Option D → Nat → Prop} (hAB : ∀ o m, A o m → B o m) (q : stepd Ψ f x n A) : stepd Ψ f x n B := by
  unfold stepd at q ⊢
  split at q
  · exact hΨ _ _ _ _ _ _ _ (fun _ _ z => hAB _ _ z) (fun _ _ _ z => z) q
  · exact q.elim
mutual
theorem wpE_monoR : ∀ (b : Ex) {R R' : RK} {ρ : List Sl} {n : Nat} {Q Q' : Sl → Nat → Prop}, (∀ c d m, R c d m → R' c d m) → (∀ s m, Q s m → Q' s m) → wpE Ψ b R ρ n Q → wpE Ψ b R' ρ n Q'
  | .var i, _, _, _, _, _, _, hr, h, w => by
    unfold wpE at w ⊢
    split at w <;> first | exact h _ _ w | exact w.elim
  | .int _, _, _, _, _, _, _, hr, h, w => by unfold wpE at w ⊢; exact h _ _ w
  | .bl _, _, _, _, _, _, _, hr, h, w => by unfold wpE at w ⊢; exact h _ _ w
  | .non, _, _, _, _, _, _, hr, h, w => by unfold wpE at w ⊢; exact h _ _ w
  | .str _, _, _, _, _, _, _, hr, h, w => by unfold wpE at w ⊢; exact h _ _ w
  | .dnew, _, _, _, _, _, _, hr, h, w => by unfold wpE at w ⊢; exact h _ _ w
  | .enil, _, _, _, _, _, _, hr, h, w => by unfold wpE at w; exact w.elim
  | .econs _ _, _, _, _, _, _, _, hr, h, w => by unfold wpE at w; exact w.elim
  | .bin op a b, _, _, _, _, _, _, hr, h, w => by
    unfold wpE at w ⊢
    exact wpE_monoR a hr (fun s m q => wpE_monoR b hr (fun u k q => read_mono (fun _ q => read_mono (fun _ q => binW_mono (fun z q => h _ _ q) q) q) q) q) w
  | .neg a, _, _, _, _, _, _, hr, h, w => by
    unfold wpE at w ⊢
    exact wpE_monoR a hr (fun s m q => read_mono (fun d q => by cases d <;> first | exact h _ _ q | exact q) q) w
  | .cmp op a b, _, _, _, _, _, _, hr, h, w => by
    unfold wpE at w ⊢
    exact wpE_monoR a hr (fun s m q => wpE_monoR b hr (fun u k q => see_mono (fun _ q => see_mono (fun _ q => cmpW_mono (fun z q => h _ _ q) q) q) q) q) w
  | .isN a, _, _, _, _, _, _, hr, h, w => by
    unfold wpE at w ⊢
    exact wpE_monoR a hr (fun s m q => see_mono (fun d q => h _ _ q) q) w
  | .notN a, _, _, _, _, _, _, hr, h, w => by
    unfold wpE at w ⊢
    exact wpE_monoR a hr (fun s m q => see_mono (fun d q => h _ _ q) q) w
  | .chain op op2 a b c, _, _, _, _, _, _, hr, h, w => by
    unfold wpE at w ⊢
    refine wpE_monoR a hr (fun s m q => wpE_monoR b hr (fun u k q => read_mono (fun _ q => read_mono (fun _ q => cmpW_mono (fun z q => ?_) q) q) q) q) w
    cases z with
    | true => simp only [if_true] at q ⊢; exact wpE_monoR c hr (fun _ _ q => read_mono (fun _ q => cmpW_mono (fun _ q => h _ _ q) q) q) q
    | false => simp only [Bool.false_eq_true, if_false] at q ⊢; exact h _ _ q
  | .and a b, _, _, _, _, _, _, hr, h, w => by
    unfold wpE at w ⊢
    refine wpE_monoR a hr (fun s m q => read_mono (fun _ q => truW_mono (fun z q => ?_) q) q) w
    cases z with
    | true => simp only [if_true] at q ⊢; exact wpE_monoR b hr h q
    | false => simp only [Bool.false_eq_true, if_false] at q ⊢; exact h _ _ q
  | .or a b, _, _, _, _, _, _, hr, h, w => by
    unfold wpE at w ⊢
    refine wpE_monoR a hr (fun s m q => read_mono (fun _ q => truW_mono (fun z q => ?_) q) q) w
    cases z with
    | true => simp only [if_true] at q ⊢; exact h _ _ q
    | false => simp only [Bool.false_eq_true, if_false] at q ⊢; exact wpE_monoR b hr h q
  | .not a, _, _, _, _, _, _, hr, h, w => by
    unfold wpE at w ⊢
    exact wpE_monoR a hr (fun s m q => read_mono (fun _ q => truW_mono (fun z q => h _ _ q) q) q) w
  | .ite c a b, _, _, _, _, _, _, hr, h, w => by
    unfold wpE at w ⊢
    refine wpE_monoR c hr (fun s m q => read_mono (fun _ q => truW_mono (fun z q => ?_) q) q) w
    cases z with
    | true => simp only [if_true] at q ⊢; exact wpE_monoR a hr h q
    | false => simp only [Bool.false_eq_true, if_false] at q ⊢; exact wpE_monoR b hr h q
  | .tup es, _, _, _, _, _, _, hr, h, w => by
    unfold wpE at w ⊢
    exact wpL_monoR es hr (fun s m q => takes_mono (fun _ q => ⟨q.1, h _ _ q.2⟩) q) w
  | .lst es, _, _, _, _, _, _, hr, h, w => by
    unfold wpE at w ⊢
    exact wpL_monoR es hr (fun s m q => lstW_mono (fun _ q => h _ _ q) q) w
  | .ix a b, _, _, _, _, _, _, hr, h, w => by
    unfold wpE at w ⊢
    exact wpE_monoR a hr (fun s m q => wpE_monoR b hr (fun u k q => see_mono (fun _ q => read_mono (fun _ q => ixW_mono (fun z q => h _ _ q) q) q) q) q) w
  | .dget a b, _, _, _, _, _, _, hr, h, w => by
    unfold wpE at w ⊢
    exact wpE_monoR a hr (fun s m q => wpE_monoR b hr (fun u k q => read_mono (fun _ q => read_mono (fun _ q => dgetW_mono (fun z q => h _ _ q) q) q) q) q) w
  | .slice a b c, _, _, _, _, _, _, hr, h, w => by
    unfold wpE at w ⊢
    exact wpE_monoR a hr (fun s m q => wpE_monoR b hr (fun u k q => read_mono (fun _ q => partW_mono (fun _ q => wpE_monoR c hr (fun _ _ q => read_mono (fun _ q => partW_mono (fun _ q => read_mono (fun _ q => sliceW_mono (fun z q => h _ _ q) q) q) q) q) q) q) q) q) w
  | .call f es, _, _, _, _, _, _, hr, h, w => by
    unfold wpE at w ⊢
    exact wpL_monoR es hr (fun s m q => sees_mono (fun _ q => hΨ _ _ _ _ _ _ _ (fun _ _ q => ⟨q.1, h _ _ q.2⟩) (fun _ _ _ q => ⟨q.1, hr _ _ _ q.2⟩) q) q) w
  | .isB a b, _, _, _, _, _, _, hr, h, w => by
    unfold wpE at w ⊢
    exact wpE_monoR a hr (fun s m q => read_mono (fun d q => by cases d <;> first | exact h _ _ q | exact q) q) w
  | .mkd a, _, _, _, _, _, _, hr, h, w => by
    unfold wpE at w ⊢
    exact wpE_monoR a hr (fun s m q => read_mono (fun d q => by
      cases d with
      | lst t xs =>
        revert q
        show (match D.kvs xs with | some kds => _ | none => False) → (match D.kvs xs with | some kds => _ | none => False)
        cases D.kvs xs with
        | none => exact id
        | some kds => exact h _ _
      | _ => exact q) q) w
  | .rev a, _, _, _, _, _, _, hr, h, w => by
    unfold wpE at w ⊢
    exact wpE_monoR a hr (fun s m q => read_mono (fun d q => by cases d <;> first | exact h _ _ q | exact q) q) w
  | .bits a, _, _, _, _, _, _, hr, h, w => by
    unfold wpE at w ⊢
    exact wpE_monoR a hr (fun s m q => read_mono (fun d q => by cases d <;> first | exact h _ _ q | exact q) q) w
  | .isi e ts, _, _, _, _, _, _, hr, h, w => by
    unfold wpE at w ⊢
    exact wpE_monoR e hr (fun s m q => see_mono (fun d q => h _ _ q) q) w
  | .blt f es, _, _, _, _, _, _, hr, h, w => by
    unfold wpE at w ⊢
    exact wpL_monoR es hr (fun s m q => reads_mono (fun _ q => bltW_mono (fun _ q => h _ _ q) q) q) w
  | .meth f o es, _, _, _, _, _, _, hr, h, w => by
    unfold wpE at w ⊢
    exact wpE_monoR o hr (fun s m q => read_mono (fun _ q => ⟨q.1, wpL_monoR es hr (fun s m q => reads_mono (fun _ q => methW_mono (fun _ q => h _ _ q) q) q) q.2⟩) q) w
  | .comp k src tg cond elt vs, _, _, _, _, _, _, hr, h, w => by
    unfold wpE at w ⊢
    split at w
    · exact w.elim
    refine wpL_monoR src hr (fun s m q => reads_mono (fun _ q => itemsW_mono (fun _ q => ?_) q) q) w
    refine compW_mono ?hs ?hq q
    case hq => exact fun _ _ q => h _ _ q
    case hs =>
      intro x n A B hAB q
      refine tgW_mono (fun ρ' q => wpE_monoR cond (fun _ _ _ z => z) (fun c n2 q => read_mono (fun _ q => truW_mono (fun b q => ?_) q) q) q) q
      cases b with
      | true => simp only [if_true] at q ⊢; exact wpE_monoR elt (fun _ _ _ z => z) (fun _ _ q => take_mono (fun _ q => hAB _ _ q) q) q
      | false => simp only [Bool.false_eq_true, if_false] at q ⊢; exact hAB _ _ q
  | .lset k src tg cond elt vs, _, _, _, _, _, _, hr, h, w => by
    unfold wpE at w ⊢
    refine ⟨w.1, wpL_monoR src hr (fun s m q => reads_mono (fun _ q => itemsW_mono (fun _ q => ?_) q) q) w.2⟩
    refine intsW_mono ?hs ?hq q
    case hq => exact fun _ _ q => h _ _ q
    case hs =>
      intro x n A B hAB q
      refine tgW_mono (fun ρ' q => wpE_monoR cond (fun _ _ _ z => z) (fun c n2 q => read_mono (fun _ q => truW_mono (fun b q => ?_) q) q) q) q
      cases b with
      | true => simp only [if_true] at q ⊢; exact wpE_monoR elt (fun _ _ _ z => z) (fun _ _ q => take_mono (fun _ q => hAB _ _ q) q) q
      | false => simp only [Bool.false_eq_true, if_false] at q ⊢; exact hAB _ _ q
  | .compd i f k vs, _, _, _, _, _, _, hr, h, w => by
    unfold wpE at w ⊢
    refine ⟨w.1, ?_⟩
    have w := w.2
    split at w
    · refine ⟨w.1, compW_mono (step := stepd Ψ f) (fun x n A B hAB q => stepd_mono hΨ (f := f) (x := x) (n := n) (A := A) (B := B) hAB q) (fun _ _ q => h _ _ q) w.2⟩
    · exact w.elim
  | .comp2 k src tg k1 src1 tg1 cond1 elt vs vs1, _, _, _, _, _, _, hr, h, w => by
    unfold wpE at w ⊢
    refine ⟨w.1, wpL_monoR src hr (fun s m q => reads_mono (fun _ q => itemsW_mono (fun _ q => ?_) q) q) w.2⟩
    refine comp2W_mono ?hs ?hq q
    case hq => exact fun _ _ q => h _ _ q
    case hs =>
      intro x n acc A B hAB q
      refine tgW_mono (fun ρ' q => wpL_monoR src1 (fun _ _ _ z => z) (fun _ _ q => ⟨q.1, reads_mono (fun _ q => itemsW_mono (fun _ q => ?_) q) q.2⟩) q) q
      refine compW_mono ?hs2 hAB q
      intro x n A B hAB q
      refine tgW_mono (fun ρ' q => wpE_monoR cond1 (fun _ _ _ z => z) (fun c n2 q => read_mono (fun _ q => truW_mono (fun b q => ?_) q) q) q) q
      cases b with
      | true => simp only [if_true] at q ⊢; exact wpE_monoR elt (fun _ _ _ z => z) (fun _ _ q => take_mono (fun _ q => hAB _ _ q) q) q
      | false => simp only [Bool.false_eq_true, if_false] at q ⊢; exact hAB _ _ q
theorem wpL_monoR : ∀ (b : Ex) {R R' : RK} {ρ : List Sl} {n : Nat} {Q Q' : List Sl → Nat → Prop}, (∀ c d m, R c d m → R' c d m) → (∀ s m, Q s m → Q' s m) → wpL Ψ b R ρ n Q → wpL Ψ b R' ρ n Q'
  | .enil, _, _, _, _, _, _, hr, h, w => by unfold wpL at w ⊢; exact h _ _ w
  | .econs e es, _, _, _, _, _, _, hr, h, w => by
    unfold wpL at w ⊢
    exact wpE_monoR e hr (fun s m q => wpL_monoR es hr (fun s m q => h _ _ q) q) w
  | .var _, _, _, _, _, _, _, hr, h, w => by unfold wpL at w; exact w.elim
  | .int _, _, _, _, _, _, _, hr, h, w => by unfold wpL at w; exact w.elim
  | .bl _, _, _, _, _, _, _, hr, h, w => by unfold wpL at w; exact w.elim
  | .non, _, _, _, _, _, _, hr, h, w => by unfold wpL at w; exact w.elim
  | .str _, _, _, _, _, _, _, hr, h, w => by unfold wpL at w; exact w.elim
  | .dnew, _, _, _, _, _, _, hr, h, w => by unfold wpL at w; exact w.elim
  | .bin _ _ _, _, _, _, _, _, _, hr, h, w => by unfold wpL at w; exact w.elim
  | .neg _, _, _, _, _, _, _, hr, h, w => by unfold wpL at w; exact w.elim
  | .cmp _ _ _, _, _, _, _, _, _, hr, h, w => by unfold wpL at w; exact w.elim
  | .isN _, _, _, _, _, _, _, hr, h, w => by unfold wpL at w; exact w.elim
  | .notN _, _, _, _, _, _, _, hr, h, w => by unfold wpL at w; exact w.elim
  | .chain _ _ _ _ _, _, _, _, _, _, _, hr, h, w => by unfold wpL at w; exact w.elim
  | .and _ _, _, _, _, _, _, _, hr, h, w => by unfold wpL at w; exact w.elim
  | .or _ _, _, _, _, _, _, _, hr, h, w => by unfold wpL at w; exact w.elim
  | .not _, _, _, _, _, _, _, hr, h, w => by unfold wpL at w; exact w.elim
  | .ite _ _ _, _, _, _, _, _, _, hr, h, w => by unfold wpL at w; exact w.elim
  | .tup _, _, _, _, _, _, _, hr, h, w => by unfold wpL at w; exact w.elim
  | .lst _, _, _, _, _, _, _, hr, h, w => by unfold wpL at w; exact w.elim
  | .ix _ _, _, _, _, _, _, _, hr, h, w => by unfold wpL at w; exact w.elim
  | .dget _ _, _, _, _, _, _, _, hr, h, w => by unfold wpL at w; exact w.elim
  | .slice _ _ _, _, _, _, _, _, _, hr, h, w => by unfold wpL at w; exact w.elim
  | .call _ _, _, _, _, _, _, _, hr, h, w => by unfold wpL at w; exact w.elim
  | .isi _ _, _, _, _, _, _, _, hr, h, w => by unfold wpL at w; exact w.elim
  | .blt _ _, _, _, _, _, _, _, hr, h, w => by unfold wpL at w; exact w.elim
  | .meth _ _ _, _, _, _, _, _, _, hr, h, w => by unfold wpL at w; exact w.elim
  | .bits _, _, _, _, _, _, _, hr, h, w => by unfold wpL at w; exact w.elim
  | .comp2 _ _ _ _ _ _ _ _ _ _, _, _, _, _, _, _, hr, h, w => by unfold wpL at w; exact w.elim
  | .comp _ _ _ _ _ _, _, _, _, _, _, _, hr, h, w => by unfold wpL at w; exact w.elim
  | .lset _ _ _ _ _ _, _, _, _, _, _, _, hr, h, w => by unfold wpL at w; exact w.elim
  | .compd _ _ _ _, _, _, _, _, _, _, hr, h, w => by unfold wpL at w; exact w.elim
end
theorem wpE_mono {b : Ex} {R : RK} {ρ : List Sl} {n : Nat} {Q Q' : Sl → Nat → Prop} (h : ∀ s m, Q s m → Q' s m) (w : wpE Ψ b R ρ n Q) : wpE Ψ b R ρ n Q' := wpE_monoR hΨ b (fun _ _ _ z => z) h w
theorem wpL_mono {b : Ex} {R : RK} {ρ : List Sl} {n : Nat} {Q Q' : List Sl → Nat → Prop} (h : ∀ s m, Q s m → Q' s m) (w : wpL Ψ b R ρ n Q) : wpL Ψ b R ρ n Q' := wpL_monoR hΨ b (fun _ _ _ z => z) h w
end
end Vm
/-! VmS: a weaker end of a statement is reached as well. -/
namespace Vm
open PySem PySem.Spec L2
structure KS.Le (K K' : KS) : Prop where
  nx : ∀ ρ n, K.nx ρ n → K'.nx ρ n
  rt : ∀ ρ d n, K.rt ρ d n → K'.rt ρ d n
  bk : ∀ ρ n, K.bk ρ n → K'.bk ρ n
  ct : ∀ ρ n, K.ct ρ n → K'.ct ρ n
theorem forW_mono {step step' : D → List Sl → Nat → (List Sl → Nat → Prop) → Prop} {nx nx' : List Sl → Nat → Prop} (hs : ∀ x ρ n A B, (∀ ρ n, A ρ n → B ρ n) → step x ρ n A → step' x ρ n B) (hn : ∀ ρ n, nx ρ n → nx' ρ n) :
    ∀ {xs : List D} {ρ : List Sl} {n : Nat}, forW step nx xs ρ n → forW step' nx' xs ρ n
  | [], _, _, w => hn _ _ w
  | x :: r, ρ, n, w => by
    unfold forW at w ⊢
    exact hs _ _ _ _ _ (fun ρ n q => forW_mono hs hn q) w
section
variable {Ψ : Nat → FnSem} (hΨ : MonoF Ψ)
include hΨ
theorem wpS_mono : ∀ (s : Sm) {R R' : RK} {ρ : List Sl} {n : Nat} {K K' : KS}, (∀ c d m, R c d m → R' c d m) → K.Le K' → wpS Ψ R s ρ n K → wpS Ψ R' s ρ n K'
  | .snil, _, _, _, _, _, _, hr, h, w => by unfold wpS at w ⊢; exact h.nx _ _ w
  | .scons a b, _, _, _, _, _, _, hr, h, w => by
    unfold wpS at w ⊢
    refine wpS_mono a hr ?_ w
    exact ⟨fun ρ n q => wpS_mono b hr h q, h.rt, h.bk, h.ct⟩
  | .frz i ss, _, _, _, _, _, _, hr, h, w => by
    unfold wpS at w ⊢
    split at w <;> first | exact wpS_mono ss hr h w | exact w.elim
  | .pass, _, _, _, _, _, _, hr, h, w => by unfold wpS at w ⊢; exact h.nx _ _ w
  | .asg i e, _, _, _, _, _, _, hr, h, w => by
    unfold wpS at w ⊢
    exact wpE_monoR hΨ e hr (fun s m q => keep_mono (fun z q => h.nx _ _ q) q) w
  | .asgO i e, _, _, _, _, _, _, hr, h, w => by
    unfold wpS at w ⊢
    exact wpE_monoR hΨ e hr (fun s m q => keep_mono (fun z q => h.nx _ _ q) q) w
  | .asgD i e, _, _, _, _, _, _, hr, h, w => by
    unfold wpS at w ⊢
    exact wpE_monoR hΨ e hr (fun s m q => keep_mono (fun z q => h.nx _ _ q) q) w
  | .wrk k j op, _, _, _, _, _, _, hr, h, w => by
    unfold wpS at w ⊢
    split at w
    · exact ⟨w.1, h.nx _ _ w.2⟩
    · exact w.elim
  | .asgT tg e, _, _, _, _, _, _, hr, h, w => by
    unfold wpS at w ⊢
    exact wpE_monoR hΨ e hr (fun s m q => take_mono (fun z q => tgW_mono (fun _ q => h.nx _ _ q) q) q) w
  | .par2 i j oi oj a b, _, _, _, _, _, _, hr, h, w => by
    unfold wpS at w ⊢
    exact wpE_monoR hΨ a hr (fun s m q => wpE_monoR hΨ b hr (fun u m q => keep_mono (fun _ q => keep_mono (fun _ q => h.nx _ _ q) q) q) q) w
  | .par3 i j l oi oj ol a b c, _, _, _, _, _, _, hr, h, w => by
    unfold wpS at w ⊢
    exact wpE_monoR hΨ a hr (fun s m q => wpE_monoR hΨ b hr (fun u m q => wpE_monoR hΨ c hr (fun v m q => keep_mono (fun _ q => keep_mono (fun _ q => keep_mono (fun _ q => h.nx _ _ q) q) q) q) q) q) w
  | .aug i op e, _, _, _, _, _, _, hr, h, w => by
    unfold wpS at w ⊢
    split at w
    · exact wpE_monoR hΨ e hr (fun s m q => read_mono (fun _ q => ⟨q.1, binW_mono (fun _ q => keep_mono (fun _ q => h.nx _ _ q) q) q.2⟩) q) w
    · exact w.elim
  | .mut i m es, _, _, _, _, _, _, hr, h, w => by
    unfold wpS at w ⊢
    split at w
    · exact ⟨w.1, wpL_monoR hΨ es hr (fun s m q => takes_mono (fun _ q => mutW_mono (fun _ q => h.nx _ _ q) q) q) w.2⟩
    · exact w.elim
  | .setIx i k e, _, _, _, _, _, _, hr, h, w => by
    unfold wpS at w ⊢
    split at w
    · exact wpE_monoR hΨ e hr (fun s m q => wpE_monoR hΨ k hr (fun u m q => take_mono (fun _ q => read_mono (fun _ q => setW_mono (fun _ q => h.nx _ _ q) q) q) q) q) w
    · exact w.elim
  | .dput i k e, _, _, _, _, _, _, hr, h, w => by
    unfold wpS at w ⊢
    split at w
    · exact wpE_monoR hΨ e hr (fun s m q => wpE_monoR hΨ k hr (fun u m q => take_mono (fun _ q => read_mono (fun _ q => dputW_mono (fun _ q => h.nx _ _ q) q) q) q) q) w
    · exact w.elim
  | .expr e, _, _, _, _, _, _, hr, h, w => by
    unfold wpS at w ⊢
    exact wpE_monoR hΨ e hr (fun s m q => h.nx _ _ q) w
  | .ife c a b, _, _, _, _, _, _, hr, h, w => by
    unfold wpS at w ⊢
    refine wpE_monoR hΨ c hr (fun s m q => read_mono (fun _ q => truW_mono (fun k q => ?_) q) q) w
    cases k with
    | true => simp only [if_true] at q ⊢; exact wpS_mono a hr h q
    | false => simp only [Bool.false_eq_true, if_false] at q ⊢; exact wpS_mono b hr h q
  | .whil c b, _, _, _, _, _, _, hr, h, w => by
    unfold wpS at w ⊢
    obtain ⟨I, μ, i0, turn⟩ := w
    refine ⟨I, μ, i0, fun ρ n i => ?_⟩
    refine wpE_monoR hΨ c hr (fun s m q => read_mono (fun _ q => truW_mono (fun k q => ?_) q) q) (turn ρ n i)
    cases k with
    | true => simp only [if_true] at q ⊢; refine wpS_mono b hr ?_ q; exact ⟨fun _ _ z => z, h.rt, h.nx, fun _ _ z => z⟩
    | false => simp only [Bool.false_eq_true, if_false] at q ⊢; exact h.nx _ _ q
  | .for k src tg b, _, _, _, _, _, _, hr, h, w => by
    unfold wpS at w ⊢
    refine wpL_monoR hΨ src hr (fun ss m q => takes_mono (fun ds q => itemsW_mono (fun xs q => ?_) q) q) w
    refine forW_mono (fun x ρ n A B hAB q => ?_) h.nx q
    refine tgW_mono (fun ρ' q => ?_) q
    refine wpS_mono b hr ?_ q
    exact ⟨hAB, h.rt, h.nx, hAB⟩
  | .ret e, _, _, _, _, _, _, hr, h, w => by
    unfold wpS at w ⊢
    exact wpE_monoR hΨ e hr (fun s m q => take_mono (fun _ q => h.rt _ _ _ q) q) w
  | .retN, _, _, _, _, _, _, hr, h, w => by unfold wpS at w ⊢; exact h.rt _ _ _ w
  | .retP e, _, _, _, _, _, _, hr, h, w => by
    unfold wpS at w ⊢
    refine wpE_monoR hΨ e hr (fun s m q => ?_) w
    split at q
    · exact ⟨q.1, h.rt _ _ _ q.2⟩
    · exact q.elim
  | .brk, _, _, _, _, _, _, hr, h, w => by unfold wpS at w ⊢; exact h.bk _ _ w
  | .cont, _, _, _, _, _, _, hr, h, w => by unfold wpS at w ⊢; exact h.ct _ _ w
  | .never, _, _, _, _, _, _, hr, h, w => by unfold wpS at w; exact w.elim
  | .scp k a vs j ops rest, _, _, _, _, _, _, hr, h, w => by
    unfold wpS at w ⊢
    refine ⟨w.1, wpS_mono a (fun _ _ _ z => z) ?_ w.2⟩
    exact ⟨fun ρ n q => ⟨q.1, wpS_mono rest hr h q.2⟩, fun ρ d n q => ⟨q.1, h.rt _ _ _ q.2⟩, fun _ _ z => z, fun _ _ z => z⟩
  | .io i f es, _, _, _, _, _, _, hr, h, w => by
    unfold wpS at w ⊢
    split at w
    · refine wpL_monoR hΨ es hr (fun s m q => takes_mono (fun ds q => ?_) q) w
      refine hΨ _ _ _ _ _ _ _ (fun d m q => ?_) (fun _ _ _ z => z) q
      split at q
      · exact h.nx _ _ q
      · exact q.elim
    · exact w.elim
end
/-- with defaults -/
def fnD (Ψ : Nat → FnSem) (f : Fd) (dfl : List D) : FnSem := fun ds n Q R => fnW Ψ f (ds ++ dfl.drop (ds.length + dfl.length - f.np)) n Q R
theorem fnW_mono {Ψ : Nat → FnSem} (hΨ : MonoF Ψ) (f : Fd) (ds : List D) (n : Nat) (Q Q' : D → Nat → Prop) (R R' : RK) (hq : ∀ d m, Q d m → Q' d m) (hr : ∀ c d m, R c d m → R' c d m) (w : fnW Ψ f ds n Q R) : fnW Ψ f ds n Q' R' := by
  refine ⟨w.1, wpS_mono hΨ f.body hr ?_ w.2⟩
  exact ⟨fun _ n q => hq _ _ q, fun _ d n q => hq d n q, fun _ _ z => z, fun _ _ z => z⟩
theorem fnD_mono {Ψ : Nat → FnSem} (hΨ : MonoF Ψ) (f : Fd) (dfl : List D) (ds : List D) (n : Nat) (Q Q' : D → Nat → Prop) (R R' : RK) (hq : ∀ d m, Q d m → Q' d m) (hr : ∀ c d m, R c d m → R' c d m) (w : fnD Ψ f dfl ds n Q R) : fnD Ψ f dfl ds n Q' R' :=
  fnW_mono hΨ f _ n Q Q' R R' hq hr w
theorem fnIO_mono {Ψ : Nat → FnSem} (hΨ : MonoF Ψ) (f : Fd) (ds : List D) (n : Nat) (Q Q' : D → Nat → Prop) (R R' : RK) (hq : ∀ d m, Q d m → Q' d m) (w : fnIO Ψ f ds n Q R) : fnIO Ψ f ds n Q' R' := by
  cases ds with
  | nil => exact w.2.elim
  | cons d ds =>
    refine ⟨w.1, wpS_mono hΨ f.body (fun _ _ _ z => z) ?_ w.2⟩
    refine ⟨fun ρ n q => ?_, fun _ _ _ z => z, fun _ _ z => z, fun _ _ z => z⟩
    show (match ρ.getD 0 .dead with | .own y => Q' (.tup [.non, y]) n | _ => False)
    have q : (match ρ.getD 0 .dead with | .own y => Q (.tup [.non, y]) n | _ => False) := q
    cases e : ρ.getD 0 .dead <;> rw [e] at q <;> first | exact hq _ _ q | exact q
theorem fnPu_mono {Ψ : Nat → FnSem} (hΨ : MonoF Ψ) (f : Fd) (ds : List D) (n : Nat) (Q Q' : D → Nat → Prop) (R R' : RK) (hq : ∀ d m, Q d m → Q' d m) (w : fnPu Ψ f ds n Q R) : fnPu Ψ f ds n Q' R' := by
  obtain ⟨h1, h2⟩ := w
  refine ⟨h1, ?_⟩
  split at h2
  · refine ⟨h2.1, fun a c k t p => wpS_mono hΨ f.body (fun _ _ _ z => z) ?_ (h2.2 a c k t p)⟩
    refine ⟨fun _ _ z => z, fun ρ d n q => ?_, fun _ _ z => z, fun _ _ z => z⟩
    refine ⟨q.1, ?_⟩
    have q := q.2
    split at q
    · obtain ⟨m, a, b, c⟩ := q
      exact ⟨m, a, b, hq _ _ c⟩
    · exact q.elim
  · exact h2.elim
end Vm
/-! Vm3: an expression of the row and one of the small language: what the latter wants, the former does. -/
namespace Vm
open PySem PySem.Spec L2

/-- an error on its way: its class by number, its field value by data -/
def XPost (cl : Nat → Value) (W : Wd) (H : Hp) (Vt : Addr → Prop) (C : Nat) (pl : D) (n' : Nat) (c : Value) (dd : Option Addr) (H' : Hp) : Prop :=
  ∃ (Vt' : Addr → Prop) (x : Addr) (v : V), Grow H Vt H' Vt' ∧ (∀ a, Vt' a → PurseAt n' H' a) ∧ c = cl C ∧ dd = some x ∧ H' x = some (.xd [("value", v)]) ∧ Rep W H' Vt' v pl
theorem XPost.grow {cl : Nat → Value} {W : Wd} {H H1 : Hp} {Vt Vt1 : Addr → Prop} {C : Nat} {pl : D} {n' : Nat} {c : Value} {dd : Option Addr} {H' : Hp} (g : Grow H Vt H1 Vt1) (x : XPost cl W H1 Vt1 C pl n' c dd H') : XPost cl W H Vt C pl n' c dd H' := by
  obtain ⟨Vt', a, v, g', r⟩ := x
  exact ⟨Vt', a, v, g.trans g', r⟩

/-- the promise of a def by what it does to data -/
def spB (cl : Nat → Value) (np : Nat) (sem : FnSem) : Sp := fun vs H Q E => vs.length = np ∧ ∃ (W : Wd) (Vt : Addr → Prop) (n : Nat) (ds : List D), ESt W H Vt n ∧ Reps W H Vt vs ds ∧
  ∃ (Qd : D → Nat → Prop) (Rd : RK), sem ds n Qd Rd ∧
    (∀ (v : V) (H' : Hp) (Vt' : Addr → Prop) (n' : Nat) (d : D), Grow H Vt H' Vt' → (∀ a, Vt' a → PurseAt n' H' a) → Rep W H' Vt' v d → Qd d n' → Q v H') ∧
    (∀ (C : Nat) (pl : D) (n' : Nat) (c : Value) (dd : Option Addr) (H' : Hp), XPost cl W H Vt C pl n' c dd H' → Rd C pl n' → E c dd H')

inductive FlatVs : List V → List D → Prop where
  | nil : FlatVs [] []
  | cons {v : V} {d : D} {vs : List V} {ds : List D} : (∀ W H Vt, Rep W H Vt v d) → FlatVs vs ds → FlatVs (v :: vs) (d :: ds)
theorem FlatVs.reps {W : Wd} {H : Hp} {Vt : Addr → Prop} : ∀ {vs : List V} {ds : List D}, FlatVs vs ds → Reps W H Vt vs ds
  | _, _, .nil => .nil
  | _, _, .cons h r => .cons (h _ _ _) r.reps

structure FnI where
  np : Nat
  sem : FnSem
  dvs : List V
  dD : List D
/-- a def of the table as a callee -/
structure FnFact (P : Program) (w : World) (K : PySem.W.Frag) (mg : Str → Option Value) (base : Heap) (cl : Nat → Value) (lv : Nat) (x : Str) (I : FnI) : Prop where
  ex : ∃ (a : Addr) (fd : FuncData) (ps : List Str) (ds : List Value),
    FnOk P w K mg base (L2.CX P w) lv a fd ps (spB cl I.np I.sem) ∧ mg x = some (.ref a) ∧ PySem.W.keepIn K (.ref a) = true ∧ Binds K fd ps ds ∧ Vals I.dvs ds

/-- the promise of a def that changes its first argument -/
def spIO (np : Nat) (sem : FnSem) : Sp := fun vs H Q _ => vs.length = np ∧ ∃ (W : Wd) (Vt : Addr → Prop) (n : Nat) (a : Addr) (rest : List V) (d0 : D) (ds : List D), vs = .ref a :: rest ∧ ESt W H Vt n ∧ W.O a ∧ Own W H Vt (.ref a) d0 ∧ Reps W H Vt rest ds ∧
  ∃ Qd : D → Nat → Prop, sem (d0 :: ds) n Qd noR ∧ ∀ (H' : Hp) (Vt' : Addr → Prop) (n' : Nat) (d1 d' : D), (∀ b o, H b = some o → ¬ Vt b → b ≠ a → H' b = some o) → (∀ b, H b ≠ none → H' b ≠ none) → (∀ b, Vt b → Vt' b) → (∀ b, Vt' b → Vt b ∨ H b = none) →
    (∀ a, Vt' a → PurseAt n' H' a) → Own W H' Vt' (.ref a) d' → Qd (.tup [d1, d']) n' → Q .non H'
structure FnFactIO (P : Program) (w : World) (K : PySem.W.Frag) (mg : Str → Option Value) (base : Heap) (lv : Nat) (x : Str) (np : Nat) (sem : FnSem) : Prop where
  ex : ∃ (a : Addr) (fd : FuncData) (ps : List Str), FnOk P w K mg base (L2.CX P w) lv a fd ps (spIO np sem) ∧ mg x = some (.ref a) ∧ PySem.W.keepIn K (.ref a) = true ∧ Binds K fd ps []
structure Ga where
  T : List Str
  Ψ : Nat → FnSem
  N : List Str
  lv : Nat
  K : PySem.W.Frag
  cl : Nat → Value
  ar : Nat → Nat → Bool
  fi : Nat → Nat → FnI
  mono : MonoF Ψ
  fx : List Nat := []
  ion : Nat → Nat := fun _ => 0
  fiOk : ∀ f m, ar f m = true → FlatVs (fi f m).dvs (fi f m).dD ∧ m + (fi f m).dD.length = (fi f m).np ∧ ∀ args n Q R, args.length = m → Ψ f args n Q R → (fi f m).sem (args ++ (fi f m).dD) n Q R

def bltNames : List Str := ["len", "int", "str", "bool", "abs", "min", "max", "sum", "any", "all", "sorted", "list", "tuple", "range", "enumerate", "zip", "isinstance", "dict"]

structure Good (Γ : Ga) (sc : Scope) (fnk : Str → Bool) (E : XK) (X : Cx) : Prop where
  K : X.K = Γ.K
  N : X.N = Γ.N
  nd : X.N.Nodup
  sc : X.env.scope = sc
  fn : X.fn = fnk
  calm : X.calm = true
  room : Room Γ.lv X.A
  fns : ∀ f x m, Γ.T[f]? = some x → Γ.ar f m = true → FnFact X.prog X.w X.K X.mg X.base Γ.cl Γ.lv x (Γ.fi f m)
  fio : ∀ f x, Γ.T[f]? = some x → Γ.ion f ≠ 0 → FnFactIO X.prog X.w X.K X.mg X.base Γ.lv x (Γ.ion f) (Γ.Ψ f)
  blt : ∀ x ∈ bltNames, X.mg x = none
  pas : Passes (L2.CX X.prog X.w) X E

structure Sit (Γ : Ga) (W : Wd) (H : Hp) (Vt : Addr → Prop) (n : Nat) (σ : L2.St) (ρ : List Sl) (E : XK) (R : RK) : Prop where
  est : ESt W H Vt n
  sl : SlotsOk W H Vt σ ρ
  exc : ∀ C pl n' c dd H', XPost Γ.cl W H Vt C pl n' c dd H' → R C pl n' → E c dd H'
theorem Sit.grow {Γ : Ga} {W : Wd} {H H' : Hp} {Vt Vt' : Addr → Prop} {n n' : Nat} {σ : L2.St} {ρ : List Sl} {E : XK} {R : RK} (s : Sit Γ W H Vt n σ ρ E R) (g : Grow H Vt H' Vt') (p : ∀ a, Vt' a → PurseAt n' H' a) : Sit Γ W H' Vt' n' σ ρ E R :=
  ⟨s.est.grow g p, s.sl.grow g, fun C pl m c dd H2 x r => s.exc C pl m c dd H2 (x.grow g) r⟩

def EPost (W : Wd) (H : Hp) (Vt : Addr → Prop) (Q : Sl → Nat → Prop) (v : V) (H' : Hp) : Prop :=
  ∃ (Vt' : Addr → Prop) (n' : Nat) (s : Sl), Grow H Vt H' Vt' ∧ (∀ a, Vt' a → PurseAt n' H' a) ∧ ItemOk W H' Vt' v s ∧ (∀ d a, s = .own d → v = .ref a → H a = none) ∧ Q s n'
theorem EPost.grow {W : Wd} {H H1 : Hp} {Vt Vt1 : Addr → Prop} {Q : Sl → Nat → Prop} {v : V} {H' : Hp} (g : Grow H Vt H1 Vt1) (x : EPost W H1 Vt1 Q v H') : EPost W H Vt Q v H' := by
  obtain ⟨Vt', n', s, g', p, i, f, q⟩ := x
  refine ⟨Vt', n', s, g.trans g', p, i, fun d a e1 e2 => ?_, q⟩
  have z := f d a e1 e2
  cases q : H a with
  | none => rfl
  | some o => exact absurd z (g.dom a (by rw [q]; simp))
inductive Items (W : Wd) (H : Hp) (Vt : Addr → Prop) : List V → List Sl → Prop where
  | nil : Items W H Vt [] []
  | cons {v : V} {s : Sl} {vs : List V} {ss : List Sl} : ItemOk W H Vt v s → Items W H Vt vs ss → Items W H Vt (v :: vs) (s :: ss)
theorem Items.grow {W : Wd} {H H' : Hp} {Vt Vt' : Addr → Prop} (g : Grow H Vt H' Vt') : ∀ {vs : List V} {ss : List Sl}, Items W H Vt vs ss → Items W H' Vt' vs ss
  | _, _, .nil => .nil
  | _, _, .cons a b => .cons (a.grow g) (b.grow g)
/-- own ones are young -/
def YoungAll (H : Hp) : List V → List Sl → Prop
  | v :: vs, s :: ss => (∀ d a, s = .own d → v = .ref a → H a = none) ∧ YoungAll H vs ss
  | _, _ => True
theorem YoungAll.grow {H H1 : Hp} {Vt Vt1 : Addr → Prop} (g : Grow H Vt H1 Vt1) : ∀ {vs : List V} {ss : List Sl}, YoungAll H1 vs ss → YoungAll H vs ss
  | [], [], _ => True.intro
  | [], _ :: _, _ => True.intro
  | _ :: _, [], _ => True.intro
  | v :: vs, s :: ss, h => ⟨fun d a e1 e2 => by
      have z := h.1 d a e1 e2
      cases q : H a with
      | none => rfl
      | some o => exact absurd z (g.dom a (by rw [q]; simp)), YoungAll.grow g h.2⟩
def LPost (W : Wd) (H : Hp) (Vt : Addr → Prop) (Q : List Sl → Nat → Prop) (vs : List V) (H' : Hp) : Prop :=
  ∃ (Vt' : Addr → Prop) (n' : Nat) (ss : List Sl), Grow H Vt H' Vt' ∧ (∀ a, Vt' a → PurseAt n' H' a) ∧ Items W H' Vt' vs ss ∧ YoungAll H vs ss ∧ Q ss n'

/-- the small one's will is the row's -/
def BE (Γ : Ga) (sc : Scope) (fnk : Str → Bool) (e : Expr) (b : Ex) : Prop :=
  ∃ t : XK → TE, (∀ E X, Good Γ sc fnk E X → PE X e (t E)) ∧
    ∀ W H Vt n σ ρ E R Q Post, Sit Γ W H Vt n σ ρ E R → wpE Γ.Ψ b R ρ n Q → (∀ v H', EPost W H Vt Q v H' → Post v H') → t E σ H Post
def BL (Γ : Ga) (sc : Scope) (fnk : Str → Bool) (es : List Expr) (b : Ex) : Prop :=
  ∃ t : XK → TA, (∀ E X, Good Γ sc fnk E X → PA X es (t E)) ∧
    ∀ W H Vt n σ ρ E R Q Post, Sit Γ W H Vt n σ ρ E R → wpL Γ.Ψ b R ρ n Q → (∀ vs H', LPost W H Vt Q vs H' → Post vs H') → t E σ H Post

section
variable {Γ : Ga} {sc : Scope} {fnk : Str → Bool}

/-- a value that is there at once -/
theorem epost_now {W : Wd} {H : Hp} {Vt : Addr → Prop} {n : Nat} {Q : Sl → Nat → Prop} {v : V} {d : D} (e : ESt W H Vt n) (r : Rep W H Vt v d) (q : Q (.pure d) n) : EPost W H Vt Q v H :=
  ⟨Vt, n, .pure d, Grow.refl, e.pur, r, (fun _ _ z _ => nomatch z), q⟩

def vis (sc : Scope) (x : Str) : Bool := match sc.names.lookup x with | some .local => true | some .cell => true | some .free => true | _ => false
theorem vis_of {x : Str} (h : vis sc x = true) : Vis sc x := by
  unfold vis at h
  unfold Vis
  split at h <;> first | exact .inl (by assumption) | exact .inr (.inl (by assumption)) | exact .inr (.inr (by assumption)) | cases h
def gbl (sc : Scope) (x : Str) : Bool := match sc.names.lookup x with | some .globalImplicit => true | _ => false
theorem gbl_of {x : Str} {X : Cx} {E : XK} (g : Good Γ sc fnk E X) (h : gbl sc x = true) : Gl X x := by
  unfold gbl at h
  show X.env.scope.names.lookup x = some .globalImplicit
  rw [g.sc]
  split at h
  · assumption
  · cases h

theorem be_var {i : Nat} {x : Str} {pos : Pos} (hN : Γ.N[i]? = some x) (hv : vis sc x = true) (hd : (x == ("__debug__" : Str)) = false) (hc : (x == ("__classdict__" : Str)) = false) : BE Γ sc fnk (.Name x pos) (.var i) := by
  refine ⟨fun _ => tVar i, fun E X g => pe_var (by rw [g.N]; exact hN) (by rw [g.sc]; exact vis_of hv) hd hc, ?_⟩
  intro W H Vt n σ ρ E R Q Post S w hp
  have get := S.sl.get i (ρ.getD i .dead)
  have key : ∀ s, ρ.getD i .dead = s → s ≠ .dead → ρ[i]? = some s := fun s e ne => by
    rw [List.getD_eq_getElem?_getD] at e
    cases q : ρ[i]? with
    | none => rw [q] at e; exact absurd e.symm ne
    | some u => rw [q] at e; simp at e; rw [e]
  unfold wpE at w
  cases hs : ρ.getD i .dead with
  | dead => rw [hs] at w; exact w.elim
  | pure d =>
    rw [hs] at w get
    obtain ⟨v, e, it⟩ := get (key _ hs (by intro z; cases z)) (by intro z; cases z)
    exact ⟨v, e, hp v H ⟨Vt, n, .pure d, Grow.refl, S.est.pur, it, (fun _ _ z _ => nomatch z), w⟩⟩
  | own d =>
    rw [hs] at w get
    obtain ⟨v, e, it⟩ := get (key _ hs (by intro z; cases z)) (by intro z; cases z)
    exact ⟨v, e, hp v H ⟨Vt, n, .bor d, Grow.refl, S.est.pur, it, (fun _ _ z _ => nomatch z), w⟩⟩
  | bor d =>
    rw [hs] at w get
    obtain ⟨v, e, it⟩ := get (key _ hs (by intro z; cases z)) (by intro z; cases z)
    exact ⟨v, e, hp v H ⟨Vt, n, .bor d, Grow.refl, S.est.pur, it, (fun _ _ z _ => nomatch z), w⟩⟩
  | dp d =>
    rw [hs] at w get
    obtain ⟨v, e, it⟩ := get (key _ hs (by intro z; cases z)) (by intro z; cases z)
    exact ⟨v, e, hp v H ⟨Vt, n, .bdp d, Grow.refl, S.est.pur, it, (fun _ _ z _ => nomatch z), w⟩⟩
  | bdp d =>
    rw [hs] at w get
    obtain ⟨v, e, it⟩ := get (key _ hs (by intro z; cases z)) (by intro z; cases z)
    exact ⟨v, e, hp v H ⟨Vt, n, .bdp d, Grow.refl, S.est.pur, it, (fun _ _ z _ => nomatch z), w⟩⟩
theorem be_int {i : Int} {j : Nat} {pos : Pos} : BE Γ sc fnk (.Constant (.int i) j pos) (.int i) :=
  ⟨fun _ => tC (.int i), fun _ _ _ => pe_int, fun _ _ _ _ _ _ _ _ _ _ S w hp => hp _ _ (epost_now S.est (.int i) w)⟩
theorem be_bl {i : Bool} {j : Nat} {pos : Pos} : BE Γ sc fnk (.Constant (.bool i) j pos) (.bl i) :=
  ⟨fun _ => tC (.bl i), fun _ _ _ => pe_bl, fun _ _ _ _ _ _ _ _ _ _ S w hp => hp _ _ (epost_now S.est (.bl i) w)⟩
theorem be_non {j : Nat} {pos : Pos} : BE Γ sc fnk (.Constant .none j pos) .non :=
  ⟨fun _ => tC .non, fun _ _ _ => pe_non, fun _ _ _ _ _ _ _ _ _ _ S w hp => hp _ _ (epost_now S.est .non w)⟩
theorem be_str {s : Str} {j : Nat} {pos : Pos} : BE Γ sc fnk (.Constant (.str s) j pos) (.str s) :=
  ⟨fun _ => tC (.str s), fun _ _ _ => pe_str, fun _ _ _ _ _ _ _ _ _ _ S w hp => hp _ _ (epost_now S.est (.str s) w)⟩

/-- what is read of a value -/
inductive Rd0 (W : Wd) (H : Hp) (Vt : Addr → Prop) (v : V) (d : D) : Prop where
  | rep (h : Rep W H Vt v d)
  | own (h : Own W H Vt v d)
theorem ItemOk.read {W : Wd} {H : Hp} {Vt : Addr → Prop} {v : V} {s : Sl} {Q : D → Prop} (i : ItemOk W H Vt v s) (h : s.read Q) : ∃ d, Rd0 W H Vt v d ∧ Q d := by
  cases s with
  | dead => exact h.elim
  | pure d => exact ⟨d, .rep i, h⟩
  | own d => exact ⟨d, .own i, h⟩
  | bor d => exact ⟨d, .own i, h⟩
  | dp d => exact (show False from h).elim
  | bdp d => exact (show False from h).elim
theorem free_cv {W : Wd} {H : Hp} {Vt : Addr → Prop} : ∀ a o, H a = some o → ¬ W.O a → ¬ Vt a → H a = some o ∧ ¬ (noL W H).O a ∧ ¬ Vt a ∧ (¬ W.old a → ¬ (noL W H).old a) := fun a o e n h => ⟨e, fun z => n z.1, h, fun z => z⟩
theorem Rep.free {W : Wd} {H : Hp} {Vt : Addr → Prop} {v : V} {d : D} (r : Rep W H Vt v d) : Rep (noL W H) H Vt v d := Rep.conv (W := W) (W' := noL W H) free_cv (fun _ z => z) r
theorem Own.free {W : Wd} {H : Hp} {Vt : Addr → Prop} {v : V} {d : D} (r : Own W H Vt v d) : Own (noL W H) H Vt v d := Own.conv (W := W) (W' := noL W H) r free_cv (fun _ z => z) fun a o _ e h => ⟨e, h, fun z => z⟩
theorem Own.repN {W : Wd} {H : Hp} {Vt : Addr → Prop} {v : V} {d : D} (r : Own W H Vt v d) : Rep (noL W H) H Vt v d := by
  have f := r.free
  cases r with
  | lst e _ _ _ => exact f.rep fun z => by obtain ⟨_, vs, h⟩ := z; rw [e] at h; cases h
  | dic e _ _ _ => exact f.rep fun z => by obtain ⟨_, vs, h⟩ := z; rw [e] at h; cases h
/-- whatever may be seen is there -/
theorem ItemOk.repN {W : Wd} {H : Hp} {Vt : Addr → Prop} {v : V} {s : Sl} {Q : D → Prop} (i : ItemOk W H Vt v s) (h : s.see Q) : ∃ d, Rep (noL W H) H Vt v d ∧ Q d := by
  cases s with
  | dead => exact i.elim
  | pure d => exact ⟨d, Rep.free i, h⟩
  | own d => exact ⟨d, Own.repN i, h⟩
  | bor d => exact ⟨d, Own.repN i, h⟩
  | dp d => exact (show False from h).elim
  | bdp d => exact ⟨d, i, h⟩
theorem ItemOk.see {W : Wd} {H : Hp} {Vt : Addr → Prop} {v : V} {s : Sl} {Q : D → Prop} (i : ItemOk W H Vt v s) (h : s.see Q) : ∃ d, Rd0 (noL W H) H Vt v d ∧ Q d :=
  let ⟨d, r, q⟩ := i.repN h
  ⟨d, .rep r, q⟩
theorem Rd0.grow {W : Wd} {H H' : Hp} {Vt Vt' : Addr → Prop} (g : Grow H Vt H' Vt') {v : V} {d : D} : Rd0 W H Vt v d → Rd0 W H' Vt' v d
  | .rep h => .rep (h.grow g)
  | .own h => .own (h.grow g)
section
variable {W : Wd} {H : Hp} {Vt : Addr → Prop} {v : V}
theorem Rd0.int {i : Int} (r : Rd0 W H Vt v (.int i)) : v = .int i := by
  rcases r with r | r
  · cases r; rfl
  · cases r
theorem Rd0.bl {i : Bool} (r : Rd0 W H Vt v (.bl i)) : v = .bl i := by
  rcases r with r | r
  · cases r; rfl
  · cases r
theorem Rd0.str {i : Str} (r : Rd0 W H Vt v (.str i)) : v = .str i := by
  rcases r with r | r
  · cases r; rfl
  · cases r
theorem Rd0.non (r : Rd0 W H Vt v .non) : v = .non := by
  rcases r with r | r
  · cases r; rfl
  · cases r
theorem Rd0.lst {t : Bool} {ds : List D} (r : Rd0 W H Vt v (.lst t ds)) : ∃ a vs, v = .ref a ∧ H a = some (.lst vs) ∧ Reps W H Vt vs ds := by
  rcases r with r | r
  · cases r with | lst e _ _ _ q => exact ⟨_, _, rfl, e, q⟩
  · cases r with | lst e _ _ q => exact ⟨_, _, rfl, e, q⟩
theorem Rd0.tup {ds : List D} (r : Rd0 W H Vt v (.tup ds)) : ∃ a vs, v = .ref a ∧ H a = some (.tup vs) ∧ Reps W H Vt vs ds := by
  rcases r with r | r
  · cases r with | tup e _ _ q => exact ⟨_, _, rfl, e, q⟩
  · cases r
theorem Rd0.dic {t : Bool} {ds : List (Key × D)} (r : Rd0 W H Vt v (.dic t ds)) : ∃ a vs, v = .ref a ∧ H a = some (.dK vs) ∧ Repk W H Vt vs ds := by
  rcases r with r | r
  · cases r with | dic e _ _ _ q => exact ⟨_, _, rfl, e, q⟩
  · cases r with | dic e _ _ q => exact ⟨_, _, rfl, e, q⟩
end
theorem reps_ints {W : Wd} {H : Hp} {Vt : Addr → Prop} : ∀ {vs : List V} {ds : List D} {ns : List Int}, Reps W H Vt vs ds → D.ints ds = some ns → vs = ns.map V.int
  | _, _, _, .nil, e => by simp [D.ints] at e; subst e; rfl
  | _, _, _, .cons (v := v) (d := d) (vs := vs) (ds := ds) r q, e => by
    cases d <;> simp [D.ints] at e
    obtain ⟨ns, e1, rfl⟩ := e
    cases r
    rw [reps_ints q e1]; rfl
theorem reps_bools {W : Wd} {H : Hp} {Vt : Addr → Prop} : ∀ {vs : List V} {ds : List D} {ns : List Bool}, Reps W H Vt vs ds → D.bools ds = some ns → vs = ns.map V.bl
  | _, _, _, .nil, e => by simp [D.bools] at e; subst e; rfl
  | _, _, _, .cons (v := v) (d := d) (vs := vs) (ds := ds) r q, e => by
    cases d <;> simp [D.bools] at e
    obtain ⟨ns, e1, rfl⟩ := e
    cases r
    rw [reps_bools q e1]; rfl
theorem ints_map (t : Bool) (ns : List Int) : D.ints (ns.map D.int) = some ns := by
  induction ns with
  | nil => rfl
  | cons a r ih => simp [D.ints, ih]
theorem reps_of_ints {W : Wd} {H : Hp} {Vt : Addr → Prop} : ∀ ns : List Int, Reps W H Vt (ns.map V.int) (ns.map D.int)
  | [] => .nil
  | n :: r => .cons (.int n) (reps_of_ints r)

/-- a new list that nobody else holds -/
theorem epost_lst {W : Wd} {H H1 : Hp} {Vt Vt1 : Addr → Prop} {n1 : Nat} {Q : Sl → Nat → Prop} {p : Addr} {vs : List V} {ds : List D} (g : Grow H Vt H1 Vt1) (e : ESt W H1 Vt1 n1) (hp : H1 p = none) (r : Reps W H1 Vt1 vs ds) (q : Q (.own (.lst true ds)) n1) :
    EPost W H Vt Q (.ref p) (upd H1 p (.lst vs)) := by
  have g2 : Grow H1 Vt1 (upd H1 p (.lst vs)) Vt1 := Grow.upd hp
  refine ⟨Vt1, n1, .own (.lst true ds), g.trans g2, (e.upd hp).pur, .lst upd_same ?_ ?_ (r.grow g2), fun d a _ z => ?_, q⟩
  · intro z
    exact (e.pur p z).dom hp
  · intro _ z
    exact e.oldDom p z hp
  · cases z
    cases w : H p with
    | none => rfl
    | some o => exact absurd hp (g.dom p (by rw [w]; simp))
theorem epost_dic {W : Wd} {H H1 : Hp} {Vt Vt1 : Addr → Prop} {n1 : Nat} {Q : Sl → Nat → Prop} {p : Addr} {vs : List (Key × V)} {ds : List (Key × D)} (g : Grow H Vt H1 Vt1) (e : ESt W H1 Vt1 n1) (hp : H1 p = none) (r : Repk W H1 Vt1 vs ds) (q : Q (.own (.dic true ds)) n1) :
    EPost W H Vt Q (.ref p) (upd H1 p (.dK vs)) := by
  have g2 : Grow H1 Vt1 (upd H1 p (.dK vs)) Vt1 := Grow.upd hp
  refine ⟨Vt1, n1, .own (.dic true ds), g.trans g2, (e.upd hp).pur, .dic upd_same ?_ ?_ (r.grow g2), fun d a _ z => ?_, q⟩
  · intro z
    exact (e.pur p z).dom hp
  · intro _ z
    exact e.oldDom p z hp
  · cases z
    cases w : H p with
    | none => rfl
    | some o => exact absurd hp (g.dom p (by rw [w]; simp))
theorem epost_tup {W : Wd} {H H1 : Hp} {Vt Vt1 : Addr → Prop} {n1 : Nat} {Q : Sl → Nat → Prop} {p : Addr} {vs : List V} {ds : List D} (g : Grow H Vt H1 Vt1) (e : ESt W H1 Vt1 n1) (hp : H1 p = none) (r : Reps W H1 Vt1 vs ds) (q : Q (.pure (.tup ds)) n1) :
    EPost W H Vt Q (.ref p) (upd H1 p (.tup vs)) := by
  have g2 : Grow H1 Vt1 (upd H1 p (.tup vs)) Vt1 := Grow.upd hp
  refine ⟨Vt1, n1, .pure (.tup ds), g.trans g2, (e.upd hp).pur, .tup upd_same ?_ ?_ (r.grow g2), (fun _ _ z _ => nomatch z), q⟩
  · intro z
    exact e.oDom p z hp
  · intro z
    exact (e.pur p z).dom hp
/-- a value behind a step -/
theorem epost_at {W : Wd} {H H1 : Hp} {Vt Vt1 : Addr → Prop} {n1 : Nat} {Q : Sl → Nat → Prop} {v : V} {d : D} (g : Grow H Vt H1 Vt1) (e : ESt W H1 Vt1 n1) (r : Rep W H1 Vt1 v d) (q : Q (.pure d) n1) : EPost W H Vt Q v H1 :=
  ⟨Vt1, n1, .pure d, g, e.pur, r, (fun _ _ z _ => nomatch z), q⟩

/-- two parts, both read -/
theorem two {a b : Expr} {x y : Ex} (ha : BE Γ sc fnk a x) (hb : BE Γ sc fnk b y) {r : XK → R2} {f : Value → Value → Sem Value}
    {K : D → D → Nat → (Sl → Nat → Prop) → Prop}
    (hr : ∀ (W : Wd) (H : Hp) (Vt : Addr → Prop) (n : Nat) (σ : L2.St) (ρ : List Sl) (E : XK) (R : RK) (v u : V) (d e : D) (Q : Sl → Nat → Prop) (Post : VK), Sit Γ W H Vt n σ ρ E R → Rd0 W H Vt v d → Rd0 W H Vt u e → K d e n Q →
      (∀ v' H', EPost W H Vt Q v' H' → Post v' H') → r E v u H Post) :
    ∃ (ta tb : XK → TE), (∀ E X, Good Γ sc fnk E X → PE X a (ta E)) ∧ (∀ E X, Good Γ sc fnk E X → PE X b (tb E)) ∧
      ∀ W H Vt n σ ρ E R Q Post, Sit Γ W H Vt n σ ρ E R → (wpE Γ.Ψ x R ρ n fun s n1 => wpE Γ.Ψ y R ρ n1 fun u n2 => s.read fun d => u.read fun e => K d e n2 Q) → (∀ v H', EPost W H Vt Q v H' → Post v H') →
        tOp (r E) (ta E) (tb E) σ H Post := by
  obtain ⟨ta, pa, sa⟩ := ha
  obtain ⟨tb, pb, sb⟩ := hb
  refine ⟨ta, tb, pa, pb, fun W H Vt n σ ρ E R Q Post S w hp => ?_⟩
  refine sa W H Vt n σ ρ E R _ _ S w fun v H1 ⟨V1, n1, s, g1, p1, i1, _, w1⟩ => ?_
  have S1 := S.grow g1 p1
  refine sb W H1 V1 n1 σ ρ E R _ _ S1 w1 fun u H2 ⟨V2, n2, s2, g2, p2, i2, _, w2⟩ => ?_
  obtain ⟨d, rd, w3⟩ := (i1.grow g2).read w2
  obtain ⟨e, re, w4⟩ := i2.read w3
  exact hr W H2 V2 n2 σ ρ E R v u d e Q Post (S1.grow g2 p2) rd re w4 fun v' H' z => hp v' H' ((z.grow g2).grow g1)
/-- two parts, both seen -/
theorem twoS {a b : Expr} {x y : Ex} (ha : BE Γ sc fnk a x) (hb : BE Γ sc fnk b y) {r : XK → R2} {f : Value → Value → Sem Value}
    {K : D → D → Nat → (Sl → Nat → Prop) → Prop}
    (hr : ∀ (W : Wd) (H : Hp) (Vt : Addr → Prop) (n : Nat) (σ : L2.St) (ρ : List Sl) (E : XK) (R : RK) (v u : V) (d e : D) (Q : Sl → Nat → Prop) (Post : VK), Sit Γ W H Vt n σ ρ E R → Rd0 (noL W H) H Vt v d → Rd0 (noL W H) H Vt u e → K d e n Q →
      (∀ v' H', EPost W H Vt Q v' H' → Post v' H') → r E v u H Post) :
    ∃ (ta tb : XK → TE), (∀ E X, Good Γ sc fnk E X → PE X a (ta E)) ∧ (∀ E X, Good Γ sc fnk E X → PE X b (tb E)) ∧
      ∀ W H Vt n σ ρ E R Q Post, Sit Γ W H Vt n σ ρ E R → (wpE Γ.Ψ x R ρ n fun s n1 => wpE Γ.Ψ y R ρ n1 fun u n2 => s.see fun d => u.see fun e => K d e n2 Q) → (∀ v H', EPost W H Vt Q v H' → Post v H') →
        tOp (r E) (ta E) (tb E) σ H Post := by
  obtain ⟨ta, pa, sa⟩ := ha
  obtain ⟨tb, pb, sb⟩ := hb
  refine ⟨ta, tb, pa, pb, fun W H Vt n σ ρ E R Q Post S w hp => ?_⟩
  refine sa W H Vt n σ ρ E R _ _ S w fun v H1 ⟨V1, n1, s, g1, p1, i1, _, w1⟩ => ?_
  have S1 := S.grow g1 p1
  refine sb W H1 V1 n1 σ ρ E R _ _ S1 w1 fun u H2 ⟨V2, n2, s2, g2, p2, i2, _, w2⟩ => ?_
  obtain ⟨d, rd, w3⟩ := (i1.grow g2).see w2
  obtain ⟨e, re, w4⟩ := i2.see w3
  exact hr W H2 V2 n2 σ ρ E R v u d e Q Post (S1.grow g2 p2) rd re w4 fun v' H' z => hp v' H' ((z.grow g2).grow g1)
end
end Vm
/-! Vm4: operators, comparisons, and, or, not, displays. -/
namespace Vm
open PySem PySem.Spec L2

theorem OpR.or {X : Cx} {f : Value → Value → Sem Value} {r r' : R2} (h : OpR X f r) (h' : OpR X f r') : OpR X f (fun x y H Q => r x y H Q ∨ r' x y H Q) :=
  fun pins s σ H x y v u Q I rx ry q => q.elim (fun q => h pins s σ H x y v u Q I rx ry q) fun q => h' pins s σ H x y v u Q I rx ry q

def rAddS : R2 := fun x y H Q => ∃ i j, x = .str i ∧ y = .str j ∧ i.length + j.length ≤ sizeLine ∧ Q (.str (i ++ j)) H
def rAddA (K : PySem.W.Frag) : R2 := fun x y H Q => rI0 (fun i j => .int (i + j)) x y H Q ∨ rAddS x y H Q ∨ rCat x y H Q ∨ rCatT K x y H Q
theorem op_addA {X : Cx} : OpR X (binaryOp .Add) (rAddA X.K) := OpR.or op_add (OpR.or op_add_str (OpR.or op_cat op_catT))
def rMulA : R2 := fun x y H Q => rI CMul (fun i j => .int (i * j)) x y H Q ∨ rI CMulW (fun i j => .int (i * j)) x y H Q ∨ rRep x y H Q
theorem op_mulA {X : Cx} : OpR X (binaryOp .Mult) rMulA := OpR.or op_mul (OpR.or op_mulW op_rep)
theorem op_subA {X : Cx} : OpR X (binaryOp .Sub) (rI0 fun i j => .int (i - j)) := op_sub

section
variable {Γ : Ga} {sc : Scope} {fnk : Str → Bool}
/-- a finished value behind a step -/
theorem post_at {Γ : Ga} {W : Wd} {H : Hp} {Vt : Addr → Prop} {n : Nat} {σ : L2.St} {ρ : List Sl} {E : XK} {R : RK} {Q : Sl → Nat → Prop} {Post : VK} {v : V} {d : D} (S : Sit Γ W H Vt n σ ρ E R) (hp : ∀ v' H', EPost W H Vt Q v' H' → Post v' H')
    (r : Rep W H Vt v d) (q : Q (.pure d) n) : Post v H := hp _ _ (epost_at Grow.refl S.est r q)
theorem post_lst {Γ : Ga} {W : Wd} {H : Hp} {Vt : Addr → Prop} {n : Nat} {σ : L2.St} {ρ : List Sl} {E : XK} {R : RK} {Q : Sl → Nat → Prop} {Post : VK} {vs : List V} {ds : List D} (S : Sit Γ W H Vt n σ ρ E R) (hp : ∀ v' H', EPost W H Vt Q v' H' → Post v' H')
    (r : Reps W H Vt vs ds) (q : Q (.own (.lst true ds)) n) : ∀ p, H p = none → Post (.ref p) (upd H p (.lst vs)) := fun p e => hp _ _ (epost_lst Grow.refl S.est e r q)
theorem post_tup {Γ : Ga} {W : Wd} {H : Hp} {Vt : Addr → Prop} {n : Nat} {σ : L2.St} {ρ : List Sl} {E : XK} {R : RK} {Q : Sl → Nat → Prop} {Post : VK} {vs : List V} {ds : List D} (S : Sit Γ W H Vt n σ ρ E R) (hp : ∀ v' H', EPost W H Vt Q v' H' → Post v' H')
    (r : Reps W H Vt vs ds) (q : Q (.pure (.tup ds)) n) : ∀ p, H p = none → Post (.ref p) (upd H p (.tup vs)) := fun p e => hp _ _ (epost_tup Grow.refl S.est e r q)

theorem be_bin {op : BOp} {o : Operator} {a b : Expr} {x y : Ex} {pos : Pos} {r : R2}
    (ho : ∀ X : Cx, X.K = Γ.K → OpR X (binaryOp o) r)
    (hr : ∀ (W : Wd) (H : Hp) (Vt : Addr → Prop) (n : Nat) (σ : L2.St) (ρ : List Sl) (E : XK) (R : RK) (v u : V) (d e : D) (Q : Sl → Nat → Prop) (Post : VK), Sit Γ W H Vt n σ ρ E R → Rd0 W H Vt v d → Rd0 W H Vt u e → binW op d e (fun z => Q z n) →
      (∀ v' H', EPost W H Vt Q v' H' → Post v' H') → r v u H Post)
    (ha : BE Γ sc fnk a x) (hb : BE Γ sc fnk b y) : BE Γ sc fnk (.BinOp a o b pos) (.bin op x y) := by
  obtain ⟨ta, tb, pa, pb, s⟩ := two (f := binaryOp o) (r := fun _ => r) (K := fun d e n Q => binW op d e fun z => Q z n) ha hb hr
  exact ⟨fun E => tOp r (ta E) (tb E), fun E X g => pe_op (ho X g.K) (pa E X g) (pb E X g), fun W H Vt n σ ρ E R Q Post S w hp => s W H Vt n σ ρ E R Q Post S w hp⟩

theorem be_add {a b : Expr} {x y : Ex} {pos : Pos} (ha : BE Γ sc fnk a x) (hb : BE Γ sc fnk b y) : BE Γ sc fnk (.BinOp a .Add b pos) (.bin .add x y) := by
  refine be_bin (r := rAddA Γ.K) (fun X e => by rw [← e]; exact op_addA) (fun W H Vt n σ ρ E R v u d e Q Post S rd re w hp => ?_) ha hb
  cases d with
  | int i => cases e with
    | int j => cases rd.int; cases re.int; exact .inl ⟨i, j, rfl, rfl, post_at S hp (.int _) w⟩
    | _ => exact w.elim
  | str i => cases e with
    | str j => cases rd.str; cases re.str; exact .inr (.inl ⟨i, j, rfl, rfl, w.1, post_at S hp (.str _) w.2⟩)
    | _ => exact w.elim
  | lst t xs => cases e with
    | lst t' ys =>
      obtain ⟨p, vs, rfl, e1, r1⟩ := rd.lst
      obtain ⟨q, us, rfl, e2, r2⟩ := re.lst
      exact .inr (.inr (.inl ⟨p, q, vs, us, rfl, rfl, e1, e2, by rw [r1.length, r2.length]; exact w.1, post_lst S hp (r1.append r2) w.2⟩))
    | _ => exact w.elim
  | tup xs => cases e with
    | tup ys =>
      obtain ⟨p, vs, rfl, e1, r1⟩ := rd.tup
      obtain ⟨q, us, rfl, e2, r2⟩ := re.tup
      obtain ⟨⟨n1, n2, n3⟩, w⟩ := w
      refine .inr (.inr (.inr ⟨p, q, vs, us, rfl, rfl, SqT.of e1, SqT.of e2, ?_, by rw [r1.length, r2.length]; exact n3, ?_⟩))
      · intro z; subst z; cases r1; exact n1 rfl
      · refine ⟨fun z => ?_, fun _ => post_tup S hp (r1.append r2) w⟩
        subst z; cases r2; exact absurd rfl n2
    | _ => exact w.elim
  | _ => exact (show False from w).elim
theorem be_sub {a b : Expr} {x y : Ex} {pos : Pos} (ha : BE Γ sc fnk a x) (hb : BE Γ sc fnk b y) : BE Γ sc fnk (.BinOp a .Sub b pos) (.bin .sub x y) := by
  refine be_bin (r := rI0 fun i j => .int (i - j)) (fun X e => op_sub) (fun W H Vt n σ ρ E R v u d e Q Post S rd re w hp => ?_) ha hb
  cases d with
  | int i => cases e with
    | int j => cases rd.int; cases re.int; exact ⟨i, j, rfl, rfl, post_at S hp (.int _) w⟩
    | _ => exact (show False from w).elim
  | _ => exact (show False from w).elim
theorem be_mul {a b : Expr} {x y : Ex} {pos : Pos} (ha : BE Γ sc fnk a x) (hb : BE Γ sc fnk b y) : BE Γ sc fnk (.BinOp a .Mult b pos) (.bin .mul x y) := by
  refine be_bin (r := rMulA) (fun X e => op_mulA) (fun W H Vt n σ ρ E R v u d e Q Post S rd re w hp => ?_) ha hb
  cases d with
  | int i => cases e with
    | int j =>
      cases rd.int; cases re.int
      obtain ⟨c, w⟩ := w
      rcases c with c | c | c
      · exact .inl ⟨i, j, rfl, rfl, .inl c, post_at S hp (.int _) w⟩
      · exact .inl ⟨i, j, rfl, rfl, .inr c, post_at S hp (.int _) w⟩
      · exact .inr (.inl ⟨i, j, rfl, rfl, c, post_at S hp (.int _) w⟩)
    | _ => exact (show False from w).elim
  | lst t xs => cases e with
    | int k =>
      obtain ⟨p, vs, rfl, e1, r1⟩ := rd.lst
      cases re.int
      obtain ⟨⟨c1, c2, c3⟩, w⟩ := w
      exact .inr (.inr ⟨p, k, vs, rfl, rfl, e1, c1, c2, by rw [r1.length]; exact c3, post_lst S hp (r1.rep _) w⟩)
    | _ => exact (show False from w).elim
  | _ => exact (show False from w).elim
theorem be_fdiv {a b : Expr} {x y : Ex} {pos : Pos} (ha : BE Γ sc fnk a x) (hb : BE Γ sc fnk b y) : BE Γ sc fnk (.BinOp a .FloorDiv b pos) (.bin .fdiv x y) := by
  refine be_bin (r := rI CDivW fun i j => .int (i / j)) (fun X e => op_fdivW) (fun W H Vt n σ ρ E R v u d e Q Post S rd re w hp => ?_) ha hb
  cases d with
  | int i => cases e with
    | int j => cases rd.int; cases re.int; exact ⟨i, j, rfl, rfl, w.1, post_at S hp (.int _) w.2⟩
    | _ => exact (show False from w).elim
  | _ => exact (show False from w).elim
theorem be_mod {a b : Expr} {x y : Ex} {pos : Pos} (ha : BE Γ sc fnk a x) (hb : BE Γ sc fnk b y) : BE Γ sc fnk (.BinOp a .Mod b pos) (.bin .mod x y) := by
  refine be_bin (r := rI (fun _ j => 0 < j) fun i j => .int (i % j)) (fun X e => op_mod) (fun W H Vt n σ ρ E R v u d e Q Post S rd re w hp => ?_) ha hb
  cases d with
  | int i => cases e with
    | int j => cases rd.int; cases re.int; exact ⟨i, j, rfl, rfl, w.1, post_at S hp (.int _) w.2⟩
    | _ => exact (show False from w).elim
  | _ => exact (show False from w).elim
def CPowW (i j : Int) : Prop := 0 ≤ j ∧ (Builtin.Int.intBits i : Int) * j ≤ 2 ^ 27
theorem op_powW {X : Cx} : OpR X (binaryOp .Pow) (rI CPowW fun i j => .int (i ^ j.toNat)) := opI fun _ _ _ _ _ _ _ hc q => PyProof.Rows.pow_int hc.1 hc.2 q
theorem be_pow {a b : Expr} {x y : Ex} {pos : Pos} (ha : BE Γ sc fnk a x) (hb : BE Γ sc fnk b y) : BE Γ sc fnk (.BinOp a .Pow b pos) (.bin .pow x y) := by
  refine be_bin (r := rI CPowW fun i j => .int (i ^ j.toNat)) (fun X e => op_powW) (fun W H Vt n σ ρ E R v u d e Q Post S rd re w hp => ?_) ha hb
  cases d with
  | int i => cases e with
    | int j => cases rd.int; cases re.int; exact ⟨i, j, rfl, rfl, w.1, post_at S hp (.int _) w.2⟩
    | _ => exact (show False from w).elim
  | _ => exact (show False from w).elim

/-- one part, read -/
theorem one {a : Expr} {x : Ex} (ha : BE Γ sc fnk a x) {r : XK → V → Hp → VK → Prop} {K : D → Nat → (Sl → Nat → Prop) → Prop}
    (hr : ∀ (W : Wd) (H : Hp) (Vt : Addr → Prop) (n : Nat) (σ : L2.St) (ρ : List Sl) (E : XK) (R : RK) (v : V) (d : D) (Q : Sl → Nat → Prop) (Post : VK), Sit Γ W H Vt n σ ρ E R → Rd0 W H Vt v d → K d n Q →
      (∀ v' H', EPost W H Vt Q v' H' → Post v' H') → r E v H Post) :
    ∃ ta : XK → TE, (∀ E X, Good Γ sc fnk E X → PE X a (ta E)) ∧
      ∀ W H Vt n σ ρ E R Q Post, Sit Γ W H Vt n σ ρ E R → (wpE Γ.Ψ x R ρ n fun s n1 => s.read fun d => K d n1 Q) → (∀ v H', EPost W H Vt Q v H' → Post v H') → ta E σ H fun x H1 => r E x H1 Post := by
  obtain ⟨ta, pa, sa⟩ := ha
  refine ⟨ta, pa, fun W H Vt n σ ρ E R Q Post S w hp => ?_⟩
  refine sa W H Vt n σ ρ E R _ _ S w fun v H1 ⟨V1, n1, s, g1, p1, i1, _, w1⟩ => ?_
  obtain ⟨d, rd, w3⟩ := i1.read w1
  exact hr W H1 V1 n1 σ ρ E R v d Q Post (S.grow g1 p1) rd w3 fun v' H' z => hp v' H' (z.grow g1)
theorem oneS {a : Expr} {x : Ex} (ha : BE Γ sc fnk a x) {r : XK → V → Hp → VK → Prop} {K : D → Nat → (Sl → Nat → Prop) → Prop}
    (hr : ∀ (W : Wd) (H : Hp) (Vt : Addr → Prop) (n : Nat) (σ : L2.St) (ρ : List Sl) (E : XK) (R : RK) (v : V) (d : D) (Q : Sl → Nat → Prop) (Post : VK), Sit Γ W H Vt n σ ρ E R → Rd0 (noL W H) H Vt v d → K d n Q →
      (∀ v' H', EPost W H Vt Q v' H' → Post v' H') → r E v H Post) :
    ∃ ta : XK → TE, (∀ E X, Good Γ sc fnk E X → PE X a (ta E)) ∧
      ∀ W H Vt n σ ρ E R Q Post, Sit Γ W H Vt n σ ρ E R → (wpE Γ.Ψ x R ρ n fun s n1 => s.see fun d => K d n1 Q) → (∀ v H', EPost W H Vt Q v H' → Post v H') → ta E σ H fun x H1 => r E x H1 Post := by
  obtain ⟨ta, pa, sa⟩ := ha
  refine ⟨ta, pa, fun W H Vt n σ ρ E R Q Post S w hp => ?_⟩
  refine sa W H Vt n σ ρ E R _ _ S w fun v H1 ⟨V1, n1, s, g1, p1, i1, _, w1⟩ => ?_
  obtain ⟨d, rd, w3⟩ := i1.see w1
  exact hr W H1 V1 n1 σ ρ E R v d Q Post (S.grow g1 p1) rd w3 fun v' H' z => hp v' H' (z.grow g1)
theorem be_neg {a : Expr} {x : Ex} {pos : Pos} (ha : BE Γ sc fnk a x) : BE Γ sc fnk (.UnaryOp .USub a pos) (.neg x) := by
  obtain ⟨ta, pa, s⟩ := one (r := fun _ => rU fun i => .int (-i)) (K := fun d n Q => match d with | .int i => Q (.pure (.int (-i))) n | _ => False) ha (fun W H Vt n σ ρ E R v d Q Post S rd w hp => by
    cases d with
    | int i => cases rd.int; exact ⟨i, rfl, post_at S hp (.int _) w⟩
    | _ => exact (show False from w).elim)
  exact ⟨fun E => tUn (rU fun i => .int (-i)) (ta E), fun E X g => pe_un un_neg (pa E X g), s⟩
theorem Rd0.non_iff {W : Wd} {H : Hp} {Vt : Addr → Prop} {v : V} {d : D} (r : Rd0 W H Vt v d) : decide (v = .non) = d.isNon := by
  rcases r with r | r <;> cases r <;> rfl
theorem be_isN {a : Expr} {x : Ex} {pos pos' : Pos} {j : Nat} (ha : BE Γ sc fnk a x) : BE Γ sc fnk (.Compare a [.Is] [.Constant .none j pos'] pos) (.isN x) := by
  obtain ⟨ta, pa, s⟩ := oneS (r := fun _ v H Q => Q (.bl (decide (v = .non))) H) (K := fun d n Q => Q (.pure (.bl d.isNon)) n) ha (fun W H Vt n σ ρ E R v d Q Post S rd w hp => by
    show Post (.bl (decide (v = .non))) H
    rw [rd.non_iff]
    exact post_at S hp (.bl _) w)
  exact ⟨fun E => tIsN (ta E), fun E X g => pe_cmp (pc_isN (pa E X g)), s⟩
theorem be_notN {a : Expr} {x : Ex} {pos pos' : Pos} {j : Nat} (ha : BE Γ sc fnk a x) : BE Γ sc fnk (.Compare a [.IsNot] [.Constant .none j pos'] pos) (.notN x) := by
  obtain ⟨ta, pa, s⟩ := oneS (r := fun _ v H Q => Q (.bl (!decide (v = .non))) H) (K := fun d n Q => Q (.pure (.bl (!d.isNon))) n) ha (fun W H Vt n σ ρ E R v d Q Post S rd w hp => by
    show Post (.bl (!decide (v = .non))) H
    rw [rd.non_iff]
    exact post_at S hp (.bl _) w)
  exact ⟨fun E => tNotN (ta E), fun E X g => pe_cmp (pc_notN (pa E X g)), s⟩

/-! ### comparisons -/
mutual
def D.py : D → PyData
  | .non => .none | .bl b => .bool b | .int i => .int i | .str s => .str s
  | .lst _ xs => .list (D.pys xs) | .tup xs => .tuple (D.pys xs) | .dic _ _ => .none | .pur => .none
def D.pys : List D → List PyData
  | [] => []
  | x :: xs => D.py x :: D.pys xs
end
theorem pys_map (xs : List D) : D.pys xs = xs.map D.py := by
  induction xs with
  | nil => rfl
  | cons a r ih => simp [D.pys, ih]
mutual
theorem py_lay : ∀ (d : D) (k : Nat), d.ok k = true → (D.py d).canLay0 = true ∧ (D.py d).depth ≤ k
  | .non, k, _ => by simp [D.py, PyData.canLay0, PyData.depth]
  | .bl _, k, _ => by simp [D.py, PyData.canLay0, PyData.depth]
  | .int _, k, _ => by simp [D.py, PyData.canLay0, PyData.depth]
  | .str s, k, h => by
    have h' : PyData.strOk s = true := h
    simp [D.py, PyData.canLay0, PyData.depth, h']
  | .lst _ xs, k, h => by
    cases k with
    | zero => simp [D.ok] at h
    | succ k =>
      have := pys_lay xs k (by simpa [D.ok] using h)
      simp only [D.py, PyData.canLay0, PyData.depth]
      exact ⟨this.1, by omega⟩
  | .tup xs, k, h => by
    cases k with
    | zero => simp [D.ok] at h
    | succ k =>
      have := pys_lay xs k (by simpa [D.ok] using h)
      simp only [D.py, PyData.canLay0, PyData.depth]
      exact ⟨this.1, by omega⟩
  | .dic _ _, _, h => by simp [D.ok] at h
  | .pur, _, h => by simp [D.ok] at h
theorem pys_lay : ∀ (xs : List D) (k : Nat), D.oks xs k = true → PyData.canLayAll0 (D.pys xs) = true ∧ PyData.depthAll (D.pys xs) ≤ k
  | [], k, _ => by simp [D.pys, PyData.canLayAll0, PyData.depthAll]
  | x :: xs, k, h => by
    have h' : D.ok x k = true ∧ D.oks xs k = true := by simpa [D.oks] using h
    have a := py_lay x k h'.1
    have b := pys_lay xs k h'.2
    simp only [D.pys, PyData.canLayAll0, PyData.depthAll, a.1, b.1, Bool.and_self, true_and]
    omega
end
theorem py_shaped {d : D} {k : Nat} (h : d.ok k = true) (hk : k ≤ 64) : SeqAt.shaped (D.py d) = true := by
  have := py_lay d k h
  unfold SeqAt.shaped
  simp only [this.1, Bool.true_and, decide_eq_true_eq]
  omega
mutual
theorem py_eqv : ∀ (d e : D) (k : Nat), d.ok k = true → e.ok k = true → PyData.eqv (D.py d) (D.py e) = D.eqv d e
  | .non, e, k, _, h => by cases e <;> simp [D.ok] at h <;> simp [D.py, PyData.eqv, D.eqv]
  | .bl _, e, k, _, h => by cases e <;> simp [D.ok] at h <;> simp [D.py, PyData.eqv, D.eqv]
  | .int _, e, k, _, h => by cases e <;> simp [D.ok] at h <;> simp [D.py, PyData.eqv, D.eqv]
  | .str _, e, k, _, h => by cases e <;> simp [D.ok] at h <;> simp [D.py, PyData.eqv, D.eqv]
  | .lst _ xs, e, k, h', h => by
    cases e <;> simp [D.ok] at h <;> simp [D.py, PyData.eqv, D.eqv]
    cases k with
    | zero => simp [D.ok] at h'
    | succ k => exact pys_eqv xs _ k (by simpa [D.ok] using h') (by simpa using h)
  | .tup xs, e, k, h', h => by
    cases e <;> simp [D.ok] at h <;> simp [D.py, PyData.eqv, D.eqv]
    cases k with
    | zero => simp [D.ok] at h'
    | succ k => exact pys_eqv xs _ k (by simpa [D.ok] using h') (by simpa using h)
  | .dic _ _, _, _, h, _ => by simp [D.ok] at h
  | .pur, _, _, h, _ => by simp [D.ok] at h
theorem pys_eqv : ∀ (xs ys : List D) (k : Nat), D.oks xs k = true → D.oks ys k = true → PyData.eqvAll (D.pys xs) (D.pys ys) = D.eqvs xs ys
  | [], [], _, _, _ => by simp [D.pys, PyData.eqvAll, D.eqvs]
  | [], _ :: _, _, _, _ => by simp [D.pys, PyData.eqvAll, D.eqvs]
  | _ :: _, [], _, _, _ => by simp [D.pys, PyData.eqvAll, D.eqvs]
  | x :: xs, y :: ys, k, h, h' => by
    simp [D.oks] at h h'
    simp only [D.pys, PyData.eqvAll, D.eqvs, py_eqv x y k h.1 h'.1, pys_eqv xs ys k h.2 h'.2]
end
section
variable {W : Wd} {H : Hp} {Vt : Addr → Prop} {K : PySem.W.Frag}
mutual
theorem Rep.dp : ∀ {v : V} {d : D} (k : Nat), Rep W H Vt v d → d.ok k = true → Dp K H v (D.py d)
  | _, _, _, .non, _ => .non
  | _, _, _, .bl b, _ => .bl b
  | _, _, _, .int i, _ => .int i
  | _, _, _, .str s, _ => .str s
  | _, _, k, .lst e _ _ _ r, h => by
    cases k with
    | zero => simp [D.ok] at h
    | succ k => exact .lst (SqL.of e) (Reps.dp k r (by simpa [D.ok] using h))
  | _, _, k, .tup e _ _ r, h => by
    cases k with
    | zero => simp [D.ok] at h
    | succ k => exact .tup (SqT.of e) (Reps.dp k r (by simpa [D.ok] using h))
  | _, _, _, .dic _ _ _ _ _, h => by simp [D.ok] at h
  | _, _, _, .pur _, h => by simp [D.ok] at h
theorem Reps.dp : ∀ {vs : List V} {ds : List D} (k : Nat), Reps W H Vt vs ds → D.oks ds k = true → DpAll K H vs (D.pys ds)
  | _, _, _, .nil, _ => .nil
  | _, _, k, .cons (d := d) (ds := ds) r rs, h => by
    have h' : D.ok d k = true ∧ D.oks ds k = true := by simpa [D.oks] using h
    exact .cons (Rep.dp k r h'.1) (Reps.dp k rs h'.2)
end
theorem Rd0.dp {v : V} {d : D} {k : Nat} (r : Rd0 W H Vt v d) (h : d.ok k = true) : Dp K H v (D.py d) := by
  rcases r with r | r
  · exact r.dp k h
  · cases r with
    | lst e _ _ q =>
      cases k with
      | zero => simp [D.ok] at h
      | succ k => exact .lst (SqL.of e) (q.dp k (by simpa [D.ok] using h))
    | dic _ _ _ _ => simp [D.ok] at h
end
end
end Vm
/-! Vm5: comparisons; tests. -/
namespace Vm
open PySem PySem.Spec L2

def cop : COp → CmpOp
  | .eq => .Eq | .ne => .NotEq | .lt => .Lt | .le => .LtE | .gt => .Gt | .ge => .GtE | .inS => .In | .ninS => .NotIn | .inD => .In | .ninD => .NotIn | .eqd => .Eq

/-! ### >= of tuples of ints -/
def rGeT (K : PySem.W.Frag) : R2 := fun x y H Q => ∃ (a b : Addr) (ns ms : List Int), x = .ref a ∧ y = .ref b ∧ SqT K H a (ns.map V.int) ∧ SqT K H b (ms.map V.int) ∧ ns.length = ms.length ∧ Q (.bl (!HT.lexLt ns ms)) H
theorem lexAt_shift (e r : Nat → Bool) (z : Bool) : ∀ (k i : Nat), Ob.lexAt e r z (i + 1) k = Ob.lexAt (fun j => e (j + 1)) (fun j => r (j + 1)) z i k
  | 0, _ => rfl
  | k + 1, i => by rw [Ob.lexAt_succ, Ob.lexAt_succ, lexAt_shift e r z k (i + 1)]
theorem lexAt_ge : ∀ (ns ms : List Int), ns.length = ms.length →
    Ob.lexAt (fun j => decide (ns.getD j 0 = ms.getD j 0)) (fun j => decide (ms.getD j 0 ≤ ns.getD j 0)) (decide (ms.length ≤ ns.length)) 0 (min ns.length ms.length) = !HT.lexLt ns ms
  | [], [], _ => by simp [Ob.lexAt_zero, HT.lexLt_nil_nil]
  | [], _ :: _, h => by simp at h
  | _ :: _, [], h => by simp at h
  | x :: xs, y :: ys, h => by
    have h' : xs.length = ys.length := by simpa using h
    have ih := lexAt_ge xs ys h'
    have em : min (x :: xs).length (y :: ys).length = min xs.length ys.length + 1 := by simp only [List.length_cons]; omega
    rw [em, Ob.lexAt_succ, HT.lexLt_cons]
    by_cases e : x = y
    · rw [if_pos (by simpa using e), if_pos e, lexAt_shift]
      have q : decide ((y :: ys).length ≤ (x :: xs).length) = decide (ys.length ≤ xs.length) := by simp
      rw [q]
      simpa using ih
    · rw [if_neg (by simpa using e), if_neg e]
      show decide (y ≤ x) = !decide (x < y)
      rw [← decide_not]
      congr 1
      simp
theorem op_geT {X : Cx} (hu : X.A.units < cLine) : OpR X (compareOp .GtE) (rGeT X.K) := by
  intro pins s σ H x y v u Q I rx ry h
  obtain ⟨a, b, ns, ms, rfl, rfl, ha, hb, hl, q⟩ := h
  cases rx
  cases ry
  obtain ⟨its, r1, p1, _⟩ := I.tuple ha
  obtain ⟨its2, r2, p2, _⟩ := I.tuple hb
  have i1 : PyProof.Rows.IntsAre its ns := Vals.ints r1
  have i2 : PyProof.Rows.IntsAre its2 ms := Vals.ints r2
  have e1 : its.toArray.size = ns.length := by rw [List.size_toArray]; exact i1.length
  have e2 : its2.toArray.size = ms.length := by rw [List.size_toArray]; exact i2.length
  have at1 : ∀ j (h1 : j < its.toArray.size), ∃ t, its.toArray[j] = .int (ns.getD j 0) t := fun j h1 => PyProof.Rows.IntsAre.int_at i1 _ _ (by simp at h1; simp [h1])
  have at2 : ∀ j (h1 : j < its2.toArray.size), ∃ t, its2.toArray[j] = .int (ms.getD j 0) t := fun j h1 => PyProof.Rows.IntsAre.int_at i2 _ _ (by simp at h1; simp [h1])
  have R := Ob.RcOp.tuples_ge (A := X.A) (s := s) (e := fun j => decide (ns.getD j 0 = ms.getD j 0)) (r := fun j => decide (ms.getD j 0 ≤ ns.getD j 0)) p1 p2 hu (fun j h1 h2 => by
    obtain ⟨t, et⟩ := at1 j h1
    obtain ⟨t', et'⟩ := at2 j h2
    rw [et, et']
    have z : (ns.getD j 0 == ms.getD j 0) = decide (ns.getD j 0 = ms.getD j 0) := by
      by_cases q : ns.getD j 0 = ms.getD j 0
      · rw [decide_eq_true q]; exact beq_iff_eq.mpr q
      · rw [decide_eq_false q]; exact beq_eq_false_iff_ne.mpr q
    rw [← z]
    exact SeqAt.EqAt.int_int _ _ _ _) (fun j h1 h2 _ => by
    obtain ⟨t, et⟩ := at1 j h1
    obtain ⟨t', et'⟩ := at2 j h2
    rw [et, et']
    exact Ob.RcOp.ge_int _ _ _ _)
  rw [e1, e2, lexAt_ge ns ms hl] at R
  have z : wpAny (model X.prog X.w) X.A (compareOp .GtE (.ref a) (.ref b)) (EP X pins σ Q) X.xe s := R X.prog X.w X.xe (EP X pins σ Q) ⟨.bl _, H, I, rfl, q⟩
  exact z
def rDIn (neg : Bool) : R2 := fun y x H Q => ∃ a o, x = .ref a ∧ DGet H a y o ∧ Q (.bl (if neg then !o.isSome else o.isSome)) H
theorem op_din {X : Cx} (hu : X.A.units + 1 < cLine) : OpR X (compareOp .In) (rDIn false) := by
  intro pins s σ H y x u v Q I ry rx h
  obtain ⟨a, o, rfl, g, q⟩ := h
  cases rx
  exact d_in hu I g ry fun s' I' => ⟨.bl _, H, I', rfl, q⟩
theorem op_dnin {X : Cx} (hu : X.A.units + 1 < cLine) : OpR X (compareOp .NotIn) (rDIn true) := by
  intro pins s σ H y x u v Q I ry rx h
  obtain ⟨a, o, rfl, g, q⟩ := h
  cases rx
  exact d_notIn hu I g ry fun s' I' => ⟨.bl _, H, I', rfl, q⟩
def rC (K : PySem.W.Frag) : COp → R2
  | .eq => rEqD K | .ne => rNeD K
  | .lt => fun x y H Q => rI0 (fun i j => .bl (decide (i < j))) x y H Q ∨ rLtT K x y H Q
  | .le => rI0 fun i j => .bl (decide (i ≤ j))
  | .gt => rI0 fun i j => .bl (decide (j < i))
  | .ge => fun x y H Q => rI0 (fun i j => .bl (decide (j ≤ i))) x y H Q ∨ rGeT K x y H Q
  | .inS => fun x y H Q => rInD K x y H Q ∨ rIn K false x y H Q
  | .ninS => fun x y H Q => rNotInD K x y H Q ∨ rIn K true x y H Q
  | .inD => rDIn false | .ninD => rDIn true
  | .eqd => fun x y H Q => rEqD K x y H Q ∨ rEqV K x y H Q
theorem op_rC {X : Cx} (hu : X.A.units + 65 < cLine) : ∀ op : COp, OpR X (compareOp (cop op)) (rC X.K op)
  | .eq => op_eqD (by omega) | .ne => op_neD (by omega)
  | .lt => OpR.or op_lt (op_ltT (by omega)) | .le => op_le | .gt => op_gt | .ge => OpR.or op_ge (op_geT (by omega))
  | .inS => OpR.or (op_inD hu) op_in_seq | .ninS => OpR.or (op_notInD hu) op_notIn_seq
  | .inD => op_din (by omega) | .ninD => op_dnin (by omega)
  | .eqd => OpR.or (op_eqD (by omega)) (op_eqV (by omega))
section
variable {W : Wd} {H : Hp} {Vt : Addr → Prop}
theorem flat_eqv : ∀ {v u : V} {d e : D}, Rep W H Vt v d → Rep W H Vt u e → d.flat = true → e.flat = true → eqV v u = D.eqv d e := by
  intro v u d e r q f g
  cases r <;> cases f <;> cases q <;> cases g <;> simp [eqV, D.eqv]
theorem flat_V {v : V} {d : D} (r : Rep W H Vt v d) (f : d.flat = true) : flatV v = true := by
  cases r <;> first | rfl | cases f
theorem flats_any {u : V} {e : D} (q : Rep W H Vt u e) (g : e.flat = true) : ∀ {vs : List V} {ds : List D}, Reps W H Vt vs ds → ds.all D.flat = true → vs.all flatV = true ∧ inV u vs = ds.any fun z => D.eqv z e
  | _, _, .nil, _ => ⟨rfl, rfl⟩
  | _, _, .cons (d := d) (ds := ds) r rs, f => by
    have f' : d.flat = true ∧ ds.all D.flat = true := by simpa using f
    have ih := flats_any q g rs f'.2
    have e2 : ∀ (y : V) (ys : List V), inV u (y :: ys) = (eqV y u || inV u ys) := fun y ys => by simp [inV]
    refine ⟨by simp [flat_V r f'.1, ih.1], ?_⟩
    rw [e2, ih.2, flat_eqv r q f'.1 g]
    simp
theorem repk_get {k : Key} : ∀ {vs : List (Key × V)} {ds : List (Key × D)}, Repk W H Vt vs ds → (∀ d, kget ds k = some d → ∃ v, valV vs k = some v ∧ Rep W H Vt v d) ∧ (kget ds k = none → valV vs k = none)
  | _, _, .nil => ⟨fun d e => by simp [kget] at e, fun _ => rfl⟩
  | _, _, .cons (k := k') (v := v) (d := d) (kvs := kvs) (kds := kds) r rs => by
    have ih := repk_get (k := k) rs
    by_cases e : k' = k
    · have e1 : kget ((k', d) :: kds) k = some d := by simp [kget, List.find?_cons, e]
      have e2 : valV ((k', v) :: kvs) k = some v := valV_pos e
      rw [e1, e2]
      exact ⟨fun d' z => by cases z; exact ⟨v, rfl, r⟩, fun z => nomatch z⟩
    · have e1 : kget ((k', d) :: kds) k = kget kds k := by simp [kget, List.find?_cons, e]
      have e2 : valV ((k', v) :: kvs) k = valV kvs k := valV_neg e
      rw [e1, e2]
      exact ih
theorem key_v {v : V} {d : D} {k : Key} (r : Rd0 W H Vt v d) (e : d.key = some k) : v = kV k := by
  cases d <;> simp [D.key] at e
  · subst e; exact r.int
  · subst e; exact r.str
def D.lsame (n : Nat) (d e : D) : Bool := match d, e with | .lst _ xs, .lst _ ys => all2 (D.same n) xs ys | _, _ => false
theorem D.same_succ (n : Nat) (d e : D) : D.same (n + 1) d e = (D.fe d e || D.lsame n d e) := rfl
theorem same_eqV {K : PySem.W.Frag} : ∀ (n : Nat) {v u : V} {d e : D}, Rep W H Vt v d → Rep W H Vt u e → D.same n d e = true → EqV K H n v u
  | 0, _, _, _, _, _, _, h => by simp [D.same] at h
  | n + 1, v, u, d, e, r, q, h => by
    rw [D.same_succ, Bool.or_eq_true] at h
    rcases h with h | h
    · left
      cases d <;> cases e <;> simp [D.fe] at h
      · cases r; cases q; exact ⟨rfl, rfl⟩
      · cases r; cases q; subst h; exact ⟨rfl, rfl⟩
      · cases r; cases q; subst h; exact ⟨rfl, rfl⟩
      · cases r; cases q; subst h; exact ⟨rfl, rfl⟩
    · cases d with
      | lst t xs => cases e with
        | lst t' ys =>
          cases r with
          | lst ha _ _ _ r =>
            cases q with
            | lst hb _ _ _ q =>
              refine .inr (.inr (.inl ⟨_, _, _, _, rfl, rfl, SqL.of ha, SqL.of hb, ?_⟩))
              have go : ∀ (vs : List V) (xs : List D), Reps W H Vt vs xs → ∀ (us : List V) (ys : List D), Reps W H Vt us ys → all2 (D.same n) xs ys = true → Paired (EqV K H n) vs us := by
                intro vs
                induction vs with
                | nil =>
                  intro xs r us ys q h
                  cases r
                  cases q with
                  | nil => exact .nil
                  | cons _ _ => simp [all2] at h
                | cons w vs ih =>
                  intro xs r us ys q h
                  cases r with
                  | cons r rs =>
                    cases q with
                    | nil => simp [all2] at h
                    | cons q qs =>
                      simp [all2] at h
                      exact .cons (same_eqV n r q h.1) (ih _ rs _ _ qs h.2)
              exact go _ _ r _ _ q (show all2 (D.same n) xs ys = true from h)
        | _ => simp [D.lsame] at h
      | _ => simp [D.lsame] at h
theorem dEq_eqR {K : PySem.W.Frag} {v u : V} {t t' : Bool} {xs ys : List (Key × D)} (r : Rd0 W H Vt v (.dic t xs)) (q : Rd0 W H Vt u (.dic t' ys)) (h : dEq xs ys = true) : EqR K H (EqV K H 50) v u := by
  obtain ⟨a, vs, rfl, ha, r⟩ := r.dic
  obtain ⟨b, us, rfl, hb, q⟩ := q.dic
  unfold dEq at h
  rw [Bool.and_eq_true] at h
  refine .inr ⟨a, b, vs, us, rfl, rfl, ha, hb, by rw [r.length, q.length]; exact of_decide_eq_true h.1, ?_⟩
  have h2 := h.2
  clear h ha
  revert h2
  have go : ∀ (vs : List (Key × V)) (xs : List (Key × D)), Repk W H Vt vs xs → (xs.all fun p => match kget ys p.1 with | some u => D.same 50 p.2 u | none => false) = true → ∀ p ∈ vs, ∃ w, valV us p.1 = some w ∧ EqV K H 50 p.2 w := by
    intro vs xs r
    induction vs generalizing xs with
    | nil => intro _ p hp; cases hp
    | cons p0 vs ih =>
      cases r with
      | @cons k w d _ kds r rs =>
        intro h p hp
        rw [List.all_cons, Bool.and_eq_true] at h
        rcases List.mem_cons.mp hp with rfl | hp
        · have h1 := h.1
          show ∃ w', valV us k = some w' ∧ EqV K H 50 w w'
          have h1 : (match kget ys k with | some u => D.same 50 d u | none => false) = true := h1
          cases g : kget ys k with
          | none => rw [g] at h1; cases h1
          | some e =>
            rw [g] at h1
            obtain ⟨w', e1, r1⟩ := (repk_get (k := k) q).1 e g
            exact ⟨w', e1, same_eqV 50 r r1 h1⟩
        · exact ih kds rs h.2 p hp
  exact go _ _ r
theorem cmp_sem {K : PySem.W.Frag} {op : COp} {v u : V} {d e : D} {P : Bool → Prop} {Q : VK} (rd : Rd0 W H Vt v d) (re : Rd0 W H Vt u e) (w : cmpW op d e P) (h : ∀ k, P k → Q (.bl k) H) : rC K op v u H Q := by
  cases op with
  | eq =>
    obtain ⟨⟨o1, o2⟩, w⟩ := w
    refine ⟨_, _, rd.dp o1, re.dp o2, py_shaped o1 (by omega), py_shaped o2 (by omega), ?_⟩
    rw [py_eqv d e 60 o1 o2]
    exact h _ w
  | ne =>
    obtain ⟨⟨o1, o2⟩, w⟩ := w
    refine ⟨_, _, rd.dp o1, re.dp o2, py_shaped o1 (by omega), py_shaped o2 (by omega), ?_⟩
    rw [py_eqv d e 60 o1 o2]
    exact h _ w
  | lt =>
    cases d with
    | int i => cases e with
      | int j => cases rd.int; cases re.int; exact .inl ⟨i, j, rfl, rfl, h _ w⟩
      | _ => exact (show False from w).elim
    | tup xs => cases e with
      | tup ys =>
        obtain ⟨a, vs, rfl, h1, r1⟩ := rd.tup
        obtain ⟨b, us, rfl, h2, r2⟩ := re.tup
        have w : (match D.ints xs, D.ints ys with | some ns, some ms => P (HT.lexLt ns ms) | _, _ => False) := w
        cases i1 : D.ints xs with
        | none => simp [i1] at w
        | some ns =>
          cases i2 : D.ints ys with
          | none => simp [i1, i2] at w
          | some ms =>
            simp only [i1, i2] at w
            rw [reps_ints r1 i1] at h1
            rw [reps_ints r2 i2] at h2
            exact .inr ⟨a, b, ns, ms, rfl, rfl, SqT.of h1, SqT.of h2, h _ w⟩
      | _ => exact (show False from w).elim
    | _ => exact (show False from w).elim
  | le =>
    cases d with
    | int i => cases e with
      | int j => cases rd.int; cases re.int; exact ⟨i, j, rfl, rfl, h _ w⟩
      | _ => exact (show False from w).elim
    | _ => exact (show False from w).elim
  | gt =>
    cases d with
    | int i => cases e with
      | int j => cases rd.int; cases re.int; exact ⟨i, j, rfl, rfl, h _ w⟩
      | _ => exact (show False from w).elim
    | _ => exact (show False from w).elim
  | ge =>
    cases d with
    | int i => cases e with
      | int j => cases rd.int; cases re.int; exact .inl ⟨i, j, rfl, rfl, h _ w⟩
      | _ => exact (show False from w).elim
    | tup xs => cases e with
      | tup ys =>
        obtain ⟨a, vs, rfl, h1, r1⟩ := rd.tup
        obtain ⟨b, us, rfl, h2, r2⟩ := re.tup
        have w : (match D.ints xs, D.ints ys with | some ns, some ms => ns.length = ms.length ∧ P (!HT.lexLt ns ms) | _, _ => False) := w
        cases i1 : D.ints xs with
        | none => simp [i1] at w
        | some ns =>
          cases i2 : D.ints ys with
          | none => simp [i1, i2] at w
          | some ms =>
            simp only [i1, i2] at w
            rw [reps_ints r1 i1] at h1
            rw [reps_ints r2 i2] at h2
            exact .inr ⟨a, b, ns, ms, rfl, rfl, SqT.of h1, SqT.of h2, w.1, h _ w.2⟩
      | _ => exact (show False from w).elim
    | _ => exact (show False from w).elim
  | inS =>
    cases e with
    | lst t ys =>
      obtain ⟨o, w⟩ := w
      have o' : d.ok 60 = true ∧ D.oks ys 60 = true := by simpa [inOk] using o
      have oL : (D.lst t ys).ok 61 = true := by simpa [D.ok] using o'.2
      refine .inl ⟨D.py d, D.pys ys, rd.dp o'.1, re.dp oL, py_shaped o'.1 (by omega), py_shaped (d := .lst t ys) oL (by omega), ?_⟩
      have q : ((D.pys ys).any fun z => PyData.eqv z (D.py d)) = ys.any fun z => D.eqv z d := by
        have : ∀ l : List D, D.oks l 60 = true → ((D.pys l).any fun z => PyData.eqv z (D.py d)) = l.any fun z => D.eqv z d := by
          intro l
          induction l with
          | nil => intro _; rfl
          | cons a r ih =>
            intro hh
            have h' : a.ok 60 = true ∧ D.oks r 60 = true := by simpa [D.oks] using hh
            simp only [D.pys, List.any_cons, ih h'.2, py_eqv a d 60 h'.1 o'.1]
        exact this ys o'.2
      rw [q]
      exact h _ w
    | tup ys =>
      obtain ⟨⟨f1, f2⟩, w⟩ := w
      obtain ⟨b, us, rfl, h2, r2⟩ := re.tup
      have rv : Rep W H Vt v d := by
        rcases rd with r | r
        · exact r
        · cases r <;> cases f1
      have q := flats_any rv f1 r2 f2
      refine .inr ⟨b, us, rfl, .inr (SqT.of h2), flat_V rv f1, q.1, ?_⟩
      show Q (.bl (inV v us)) H
      rw [q.2]
      exact h _ w
    | _ => exact (show False from w).elim
  | ninS =>
    cases e with
    | lst t ys =>
      obtain ⟨o, w⟩ := w
      have o' : d.ok 60 = true ∧ D.oks ys 60 = true := by simpa [inOk] using o
      have oL : (D.lst t ys).ok 61 = true := by simpa [D.ok] using o'.2
      refine .inl ⟨D.py d, D.pys ys, rd.dp o'.1, re.dp oL, py_shaped o'.1 (by omega), py_shaped (d := .lst t ys) oL (by omega), ?_⟩
      have q : ((D.pys ys).any fun z => PyData.eqv z (D.py d)) = ys.any fun z => D.eqv z d := by
        have : ∀ l : List D, D.oks l 60 = true → ((D.pys l).any fun z => PyData.eqv z (D.py d)) = l.any fun z => D.eqv z d := by
          intro l
          induction l with
          | nil => intro _; rfl
          | cons a r ih =>
            intro hh
            have h' : a.ok 60 = true ∧ D.oks r 60 = true := by simpa [D.oks] using hh
            simp only [D.pys, List.any_cons, ih h'.2, py_eqv a d 60 h'.1 o'.1]
        exact this ys o'.2
      rw [q]
      exact h _ w
    | tup ys =>
      obtain ⟨⟨f1, f2⟩, w⟩ := w
      obtain ⟨b, us, rfl, h2, r2⟩ := re.tup
      have rv : Rep W H Vt v d := by
        rcases rd with r | r
        · exact r
        · cases r <;> cases f1
      have q := flats_any rv f1 r2 f2
      refine .inr ⟨b, us, rfl, .inr (SqT.of h2), flat_V rv f1, q.1, ?_⟩
      show Q (.bl (!inV v us)) H
      rw [q.2]
      exact h _ w
    | _ => exact (show False from w).elim
  | inD =>
    cases e with
    | dic t kvs =>
      have w : (match d.key with | some k => P ((kget kvs k).isSome) | none => False) := by
        revert w; cases d <;> exact id
      cases kk : d.key with
      | none => simp [kk] at w
      | some k =>
        simp only [kk] at w
        obtain ⟨b, us, rfl, h2, r2⟩ := re.dic
        rw [key_v rd kk]
        refine ⟨b, valV us k, rfl, DGet.k h2, ?_⟩
        have q := repk_get (k := k) r2
        have e2 : (valV us k).isSome = (kget kvs k).isSome := by
          cases z : kget kvs k with
          | none => rw [q.2 z]; rfl
          | some x => obtain ⟨v', z', _⟩ := q.1 x z; rw [z']; rfl
        show Q (.bl (valV us k).isSome) H
        rw [e2]
        exact h _ w
    | _ => revert w; cases d <;> exact fun w => (show False from w).elim
  | ninD =>
    cases e with
    | dic t kvs =>
      have w : (match d.key with | some k => P (!(kget kvs k).isSome) | none => False) := by
        revert w; cases d <;> exact id
      cases kk : d.key with
      | none => simp [kk] at w
      | some k =>
        simp only [kk] at w
        obtain ⟨b, us, rfl, h2, r2⟩ := re.dic
        rw [key_v rd kk]
        refine ⟨b, valV us k, rfl, DGet.k h2, ?_⟩
        have q := repk_get (k := k) r2
        have e2 : (valV us k).isSome = (kget kvs k).isSome := by
          cases z : kget kvs k with
          | none => rw [q.2 z]; rfl
          | some x => obtain ⟨v', z', _⟩ := q.1 x z; rw [z']; rfl
        show Q (.bl (!(valV us k).isSome)) H
        rw [e2]
        exact h _ w
    | _ => revert w; cases d <;> exact fun w => (show False from w).elim
  | eqd =>
    have gen : (d.ok 60 = true ∧ e.ok 60 = true) ∧ P (D.eqv d e) → rC K .eqd v u H Q := by
      intro w
      obtain ⟨⟨o1, o2⟩, w⟩ := w
      refine .inl ⟨_, _, rd.dp o1, re.dp o2, py_shaped o1 (by omega), py_shaped o2 (by omega), ?_⟩
      rw [py_eqv d e 60 o1 o2]
      exact h _ w
    cases d with
    | dic t a => cases e with
      | dic t' b =>
        have w : dEq a b = true ∧ P true := w
        exact .inr ⟨50, by omega, dEq_eqR rd re w.1, h _ w.2⟩
      | _ => exact gen w
    | _ => exact gen w
/-- truth -/
theorem tru_sem {K : PySem.W.Frag} {v : V} {d : D} {P : Bool → Prop} (r : Rd0 W H Vt v d) (w : truW d P) : ∃ k, TruV K v H k ∧ P k := by
  cases d with
  | non => cases r.non; exact ⟨false, rfl, w⟩
  | bl b => cases r.bl; exact ⟨b, rfl, w⟩
  | int i => cases r.int; exact ⟨_, rfl, w⟩
  | str s => cases r.str; exact ⟨_, ⟨w.1, rfl⟩, w.2⟩
  | lst t xs =>
    obtain ⟨a, vs, rfl, e, q⟩ := r.lst
    refine ⟨!xs.isEmpty, .inl ⟨vs, SqL.of e, ?_⟩, w⟩
    cases q <;> rfl
  | tup xs =>
    obtain ⟨a, vs, rfl, e, q⟩ := r.tup
    refine ⟨!xs.isEmpty, .inr (.inl ⟨vs, SqT.of e, ?_⟩), w⟩
    cases q <;> rfl
  | dic t xs =>
    obtain ⟨a, vs, rfl, e, q⟩ := r.dic
    refine ⟨!xs.isEmpty, .inr (.inr ⟨vs, e, ?_⟩), w⟩
    cases q <;> rfl
  | pur => exact (show False from w).elim
end

section
variable {Γ : Ga} {sc : Scope} {fnk : Str → Bool}
theorem Good.hu {E : XK} {X : Cx} (g : Good Γ sc fnk E X) : X.A.units + 65 < cLine := by have := g.room.un; omega
theorem be_cmp {op : COp} {a b : Expr} {x y : Ex} {pos : Pos} (hm : behindInMarks (cop op) b = false) (ha : BE Γ sc fnk a x) (hb : BE Γ sc fnk b y) : BE Γ sc fnk (.Compare a [cop op] [b] pos) (.cmp op x y) := by
  obtain ⟨ta, tb, pa, pb, s⟩ := twoS (f := compareOp (cop op)) (r := fun _ => rC Γ.K op) (K := fun d e n Q => cmpW op d e fun c => Q (.pure (.bl c)) n) ha hb
    (fun W H Vt n σ ρ E R v u d e Q Post S rd re w hp => cmp_sem rd re w fun k q => post_at S hp (.bl k) q)
  refine ⟨fun E => tOp (rC Γ.K op) (ta E) (tb E), fun E X g => pe_cmpR (by rw [← g.K]; exact op_rC g.hu op) (pa E X g) (pb E X g) hm, s⟩

/-! ### tests -/
def TPost (H : Hp) (Vt : Addr → Prop) (Q : Bool → Nat → Prop) (k : Bool) (H' : Hp) : Prop :=
  ∃ (Vt' : Addr → Prop) (n' : Nat), Grow H Vt H' Vt' ∧ (∀ a, Vt' a → PurseAt n' H' a) ∧ Q k n'
theorem TPost.grow {H H1 : Hp} {Vt Vt1 : Addr → Prop} {Q : Bool → Nat → Prop} {k : Bool} {H' : Hp} (g : Grow H Vt H1 Vt1) (x : TPost H1 Vt1 Q k H') : TPost H Vt Q k H' := by
  obtain ⟨Vt', n', g', r⟩ := x
  exact ⟨Vt', n', g.trans g', r⟩
def wpT (Ψ : Nat → FnSem) (b : Ex) (R : RK) (ρ : List Sl) (n : Nat) (Q : Bool → Nat → Prop) : Prop := wpE Ψ b R ρ n fun s n' => s.read fun d => truW d fun k => Q k n'
def BT (Γ : Ga) (sc : Scope) (fnk : Str → Bool) (e : Expr) (b : Ex) : Prop :=
  ∃ t : XK → TT, (∀ E X, Good Γ sc fnk E X → PT X e (t E)) ∧
    ∀ W H Vt n σ ρ E R Q Post, Sit Γ W H Vt n σ ρ E R → wpT Γ.Ψ b R ρ n Q → (∀ k H', TPost H Vt Q k H' → Post k H') → t E σ H Post
def BW (Γ : Ga) (sc : Scope) (fnk : Str → Bool) (e : Expr) (b : Ex) : Prop :=
  ∃ t : XK → TT, (∀ E X, Good Γ sc fnk E X → PW X e (t E)) ∧
    ∀ W H Vt n σ ρ E R Q Post, Sit Γ W H Vt n σ ρ E R → wpT Γ.Ψ b R ρ n Q → (∀ k H', TPost H Vt Q k H' → Post k H') → t E σ H Post
/-- an expression whose test is its value's truth -/
def plainT : Expr → Bool
  | .UnaryOp .Not _ _ => false | .BoolOp _ _ _ => false | .IfExp _ _ _ _ => false | .Compare _ _ _ _ => false | _ => true
theorem plainT_is {e : Expr} (h : plainT e = true) (env : Env) (whole : Sem Value) : isTrue e env whole = (do let v ← whole; standAt e.pos; holding [v] (truthy v)) := by
  cases e <;> first | rfl | cases h | skip
  rename_i op _ _
  cases op <;> first | rfl | cases h
theorem bt_plain {e : Expr} {b : Ex} (h : plainT e = true) (he : BE Γ sc fnk e b) : BT Γ sc fnk e b := by
  obtain ⟨t, p, s⟩ := he
  refine ⟨fun E σ H Q => t E σ H fun x H' => ∃ k, TruV Γ.K x H' k ∧ Q k H', fun E X g => by rw [← g.K]; exact pt_truth (p E X g) (plainT_is h X.env), ?_⟩
  intro W H Vt n σ ρ E R Q Post S w hp
  refine s W H Vt n σ ρ E R _ _ S w fun v H1 ⟨V1, n1, s1, g1, p1, i1, _, w1⟩ => ?_
  obtain ⟨d, rd, w2⟩ := i1.read w1
  obtain ⟨k, tk, q⟩ := tru_sem rd w2
  exact ⟨k, tk, hp k H1 ⟨V1, n1, g1, p1, q⟩⟩
theorem bt_cmp {op : COp} {a b : Expr} {x y : Ex} {pos : Pos} (hm : behindInMarks (cop op) b = false) (ha : BE Γ sc fnk a x) (hb : BE Γ sc fnk b y) : BT Γ sc fnk (.Compare a [cop op] [b] pos) (.cmp op x y) := by
  obtain ⟨ta, pa, sa⟩ := ha
  obtain ⟨tb, pb, sb⟩ := hb
  refine ⟨fun E => tTest (tOp (rC Γ.K op) (ta E) (tb E)), fun E X g => pt_cmpR (by rw [← g.K]; exact op_rC g.hu op) (pa E X g) (pb E X g) hm, ?_⟩
  intro W H Vt n σ ρ E R Q Post S w hp
  unfold wpT wpE at w
  refine sa W H Vt n σ ρ E R _ _ S w fun v H1 ⟨V1, n1, s, g1, p1, i1, _, w1⟩ => ?_
  have S1 := S.grow g1 p1
  refine sb W H1 V1 n1 σ ρ E R _ _ S1 w1 fun u H2 ⟨V2, n2, s2, g2, p2, i2, _, w2⟩ => ?_
  obtain ⟨d, rd, w3⟩ := (i1.grow g2).see w2
  obtain ⟨e, re, w4⟩ := i2.see w3
  exact cmp_sem rd re w4 fun k q => ⟨k, rfl, hp k H2 ⟨V2, n2, g1.trans g2, p2, q⟩⟩
theorem bt_isN {a : Expr} {x : Ex} {pos pos' : Pos} {j : Nat} (ha : BE Γ sc fnk a x) : BT Γ sc fnk (.Compare a [.Is] [.Constant .none j pos'] pos) (.isN x) := by
  obtain ⟨ta, pa, sa⟩ := ha
  refine ⟨fun E => tB (tIsN (ta E)), fun E X g => pt_cmp (pc_isN (pa E X g)), ?_⟩
  intro W H Vt n σ ρ E R Q Post S w hp
  unfold wpT wpE at w
  refine sa W H Vt n σ ρ E R _ _ S w fun v H1 ⟨V1, n1, s, g1, p1, i1, _, w1⟩ => ?_
  obtain ⟨d, rd, w3⟩ := i1.see w1
  exact ⟨_, rfl, by rw [rd.non_iff]; exact hp _ H1 ⟨V1, n1, g1, p1, w3⟩⟩
theorem bt_notN {a : Expr} {x : Ex} {pos pos' : Pos} {j : Nat} (ha : BE Γ sc fnk a x) : BT Γ sc fnk (.Compare a [.IsNot] [.Constant .none j pos'] pos) (.notN x) := by
  obtain ⟨ta, pa, sa⟩ := ha
  refine ⟨fun E => tB (tNotN (ta E)), fun E X g => pt_cmp (pc_notN (pa E X g)), ?_⟩
  intro W H Vt n σ ρ E R Q Post S w hp
  unfold wpT wpE at w
  refine sa W H Vt n σ ρ E R _ _ S w fun v H1 ⟨V1, n1, s, g1, p1, i1, _, w1⟩ => ?_
  obtain ⟨d, rd, w3⟩ := i1.see w1
  exact ⟨_, rfl, by rw [rd.non_iff]; exact hp _ H1 ⟨V1, n1, g1, p1, w3⟩⟩
theorem bt_not {a : Expr} {x : Ex} {pos : Pos} (ha : BT Γ sc fnk a x) : BT Γ sc fnk (.UnaryOp .Not a pos) (.not x) := by
  obtain ⟨t, p, s⟩ := ha
  refine ⟨fun E => tNot (t E), fun E X g => pt_not (p E X g), fun W H Vt n σ ρ E R Q Post S w hp => ?_⟩
  unfold wpT wpE at w
  exact s W H Vt n σ ρ E R (fun k n' => Q (!k) n') _ S w fun k H' ⟨V1, n1, g, pp, q⟩ => hp (!k) H' ⟨V1, n1, g, pp, q⟩
theorem bt_of_bw {e : Expr} {b : Ex} (h : BW Γ sc fnk e b) : BT Γ sc fnk e b := by
  obtain ⟨t, p, s⟩ := h
  exact ⟨t, fun E X g => (p E X g).pt, s⟩
theorem bw_one {op : PySem.BoolOp} {a : Expr} {x : Ex} {pos : Pos} (ha : BT Γ sc fnk a x) : BW Γ sc fnk (.BoolOp op [a] pos) x := by
  obtain ⟨t, p, s⟩ := ha
  cases op with
  | And => exact ⟨t, fun E X g => pw_and1 (p E X g), s⟩
  | Or => exact ⟨t, fun E X g => pw_or1 (p E X g), s⟩
theorem read_bl {b : Bool} {Q : Bool → Prop} (h : Q b) : (Sl.pure (.bl b)).read fun d => truW d Q := h
theorem wpT_read {s : Sl} {b : Bool} {Q : Bool → Prop} (w : s.read fun x => truW x fun k => k = b ∧ Q k) : s.read fun x => truW x Q := by
  cases s <;> first | exact w.elim | skip
  all_goals (rename_i d; cases d <;> first | exact w.2 | exact ⟨w.1, w.2.2⟩ | exact (show False from w).elim)
/-- the wish behind a truth that is known -/
theorem read_known {s : Sl} {K : Bool → Prop} (w : s.read fun x => truW x K) : ∃ b, K b ∧ ∀ Q : Bool → Prop, Q b → s.read fun x => truW x Q := by
  cases s with
  | dead => exact w.elim
  | pure d =>
    cases d with
    | pur => exact (show False from w).elim
    | str z => exact ⟨_, w.2, fun Q q => ⟨w.1, q⟩⟩
    | _ => exact ⟨_, w, fun Q q => q⟩
  | own d =>
    cases d with
    | pur => exact (show False from w).elim
    | str z => exact ⟨_, w.2, fun Q q => ⟨w.1, q⟩⟩
    | _ => exact ⟨_, w, fun Q q => q⟩
  | bor d =>
    cases d with
    | pur => exact (show False from w).elim
    | str z => exact ⟨_, w.2, fun Q q => ⟨w.1, q⟩⟩
    | _ => exact ⟨_, w, fun Q q => q⟩
  | dp d => exact (show False from w).elim
  | bdp d => exact (show False from w).elim
end
end Vm
/-! Vm6: and, or, not, if; displays, items, slices, calls. -/
namespace Vm
open PySem PySem.Spec L2
theorem read_and {s : Sl} {A : Prop} {Q : Bool → Prop} (w : s.read fun d => truW d fun k => if k = true then A else s.read fun d => truW d Q) : s.read fun d => truW d fun k => if k = true then A else Q false := by
  have fin : ∀ d : D, truW d (fun k => if k = true then A else truW d Q) → truW d fun k => if k = true then A else Q false := by
    intro d w
    have aux : ∀ (b : Bool), (if b = true then A else Q b) → if b = true then A else Q false := by intro b; cases b <;> exact id
    cases d with
    | str z =>
      refine ⟨w.1, aux _ ?_⟩
      have w2 := w.2
      have aux2 : ∀ (b : Bool) (P : Prop), (if b = true then A else (P ∧ Q b)) → if b = true then A else Q b := by intro b P; cases b <;> simp <;> exact fun _ h => h
      exact aux2 _ _ w2
    | pur => exact w
    | _ => dsimp only [truW] at w ⊢; first | exact w | exact aux _ w
  cases s with
  | dead => exact w
  | pure d => exact fin d w
  | own d => exact fin d w
  | bor d => exact fin d w
  | dp d => exact w
  | bdp d => exact w
theorem read_or {s : Sl} {A : Prop} {Q : Bool → Prop} (w : s.read fun d => truW d fun k => if k = true then s.read fun d => truW d Q else A) : s.read fun d => truW d fun k => if k = true then Q true else A := by
  have fin : ∀ d : D, truW d (fun k => if k = true then truW d Q else A) → truW d fun k => if k = true then Q true else A := by
    intro d w
    have aux : ∀ (b : Bool), (if b = true then Q b else A) → if b = true then Q true else A := by intro b; cases b <;> exact id
    cases d with
    | str z =>
      refine ⟨w.1, aux _ ?_⟩
      have w2 := w.2
      have aux2 : ∀ (b : Bool) (P : Prop), (if b = true then (P ∧ Q b) else A) → if b = true then Q b else A := by intro b P; cases b <;> simp <;> exact fun _ h => h
      exact aux2 _ _ w2
    | pur => exact w
    | _ => dsimp only [truW] at w ⊢; first | exact w | exact aux _ w
  cases s with
  | dead => exact w
  | pure d => exact fin d w
  | own d => exact fin d w
  | bor d => exact fin d w
  | dp d => exact w
  | bdp d => exact w

section
variable {Γ : Ga} {sc : Scope} {fnk : Str → Bool}
theorem bw_and {a b : Expr} {rest : List Expr} {x y : Ex} {pos : Pos} (ha : BT Γ sc fnk a x) (hb : BW Γ sc fnk (.BoolOp .And (b :: rest) pos) y) : BW Γ sc fnk (.BoolOp .And (a :: b :: rest) pos) (.and x y) := by
  obtain ⟨ta, pa, sa⟩ := ha
  obtain ⟨tb, pb, sb⟩ := hb
  refine ⟨fun E => tAnd (ta E) (tb E), fun E X g => pw_and (pa E X g) (pb E X g), fun W H Vt n σ ρ E R Q Post S w hp => ?_⟩
  unfold wpT wpE at w
  have w' : wpT Γ.Ψ x R ρ n fun k n1 => if k = true then wpT Γ.Ψ y R ρ n1 Q else Q false n1 := wpE_mono Γ.mono (fun s n1 q => read_and q) w
  refine sa W H Vt n σ ρ E R _ _ S w' fun k H1 ⟨V1, n1, g1, p1, q⟩ => ?_
  cases k with
  | true => exact sb W H1 V1 n1 σ ρ E R Q _ (S.grow g1 p1) q fun k H2 z => hp k H2 (z.grow g1)
  | false => exact hp false H1 ⟨V1, n1, g1, p1, q⟩
theorem bw_or {a b : Expr} {rest : List Expr} {x y : Ex} {pos : Pos} (ha : BT Γ sc fnk a x) (hb : BW Γ sc fnk (.BoolOp .Or (b :: rest) pos) y) : BW Γ sc fnk (.BoolOp .Or (a :: b :: rest) pos) (.or x y) := by
  obtain ⟨ta, pa, sa⟩ := ha
  obtain ⟨tb, pb, sb⟩ := hb
  refine ⟨fun E => tOr (ta E) (tb E), fun E X g => pw_or (pa E X g) (pb E X g), fun W H Vt n σ ρ E R Q Post S w hp => ?_⟩
  unfold wpT wpE at w
  have w' : wpT Γ.Ψ x R ρ n fun k n1 => if k = true then Q true n1 else wpT Γ.Ψ y R ρ n1 Q := wpE_mono Γ.mono (fun s n1 q => read_or q) w
  refine sa W H Vt n σ ρ E R _ _ S w' fun k H1 ⟨V1, n1, g1, p1, q⟩ => ?_
  cases k with
  | true => exact hp true H1 ⟨V1, n1, g1, p1, q⟩
  | false => exact sb W H1 V1 n1 σ ρ E R Q _ (S.grow g1 p1) q fun k H2 z => hp k H2 (z.grow g1)

/-! ### .. as values -/
theorem be_and {a b : Expr} {rest : List Expr} {x y : Ex} {pos : Pos} (ha : BE Γ sc fnk a x) (hb : BE Γ sc fnk (.BoolOp .And (b :: rest) pos) y) : BE Γ sc fnk (.BoolOp .And (a :: b :: rest) pos) (.and x y) := by
  obtain ⟨ta, pa, sa⟩ := ha
  obtain ⟨tb, pb, sb⟩ := hb
  refine ⟨fun E => tAndT Γ.K (ta E) (tb E), fun E X g => by rw [← g.K]; exact pe_andT (pa E X g) (pb E X g), fun W H Vt n σ ρ E R Q Post S w hp => ?_⟩
  unfold wpE at w
  refine sa W H Vt n σ ρ E R _ _ S w fun v H1 ⟨V1, n1, s, g1, p1, i1, f1, w1⟩ => ?_
  obtain ⟨d, rd, w2⟩ := i1.read w1
  obtain ⟨k, tk, q⟩ := tru_sem rd w2
  refine ⟨k, tk, ?_⟩
  cases k with
  | true => exact sb W H1 V1 n1 σ ρ E R Q _ (S.grow g1 p1) q fun v' H2 z => hp v' H2 (z.grow g1)
  | false => exact hp v H1 ⟨V1, n1, s, g1, p1, i1, f1, q⟩
theorem be_or {a b : Expr} {rest : List Expr} {x y : Ex} {pos : Pos} (ha : BE Γ sc fnk a x) (hb : BE Γ sc fnk (.BoolOp .Or (b :: rest) pos) y) : BE Γ sc fnk (.BoolOp .Or (a :: b :: rest) pos) (.or x y) := by
  obtain ⟨ta, pa, sa⟩ := ha
  obtain ⟨tb, pb, sb⟩ := hb
  refine ⟨fun E => tOrT Γ.K (ta E) (tb E), fun E X g => by rw [← g.K]; exact pe_orT (pa E X g) (pb E X g), fun W H Vt n σ ρ E R Q Post S w hp => ?_⟩
  unfold wpE at w
  refine sa W H Vt n σ ρ E R _ _ S w fun v H1 ⟨V1, n1, s, g1, p1, i1, f1, w1⟩ => ?_
  obtain ⟨d, rd, w2⟩ := i1.read w1
  obtain ⟨k, tk, q⟩ := tru_sem rd w2
  refine ⟨k, tk, ?_⟩
  cases k with
  | true => exact hp v H1 ⟨V1, n1, s, g1, p1, i1, f1, q⟩
  | false => exact sb W H1 V1 n1 σ ρ E R Q _ (S.grow g1 p1) q fun v' H2 z => hp v' H2 (z.grow g1)
theorem be_one {op : PySem.BoolOp} {a : Expr} {x : Ex} {pos : Pos} (ha : BE Γ sc fnk a x) : BE Γ sc fnk (.BoolOp op [a] pos) x := by
  obtain ⟨ta, pa, sa⟩ := ha
  exact ⟨ta, fun E X g => pe_one (pa E X g), sa⟩
theorem be_not {a : Expr} {x : Ex} {pos : Pos} (ha : BE Γ sc fnk a x) : BE Γ sc fnk (.UnaryOp .Not a pos) (.not x) := by
  obtain ⟨ta, pa, s⟩ := one (r := fun _ v H Q => ∃ k, TruV Γ.K v H k ∧ Q (.bl (!k)) H) (K := fun d n Q => truW d fun k => Q (.pure (.bl (!k))) n) ha (fun W H Vt n σ ρ E R v d Q Post S rd w hp => by
    obtain ⟨k, tk, q⟩ := tru_sem rd w
    exact ⟨k, tk, post_at S hp (.bl _) q⟩)
  exact ⟨fun E => tNotT Γ.K (ta E), fun E X g => by rw [← g.K]; exact pe_notT (pa E X g), s⟩
theorem be_ite {c a b : Expr} {z x y : Ex} {pos : Pos} (hc : BT Γ sc fnk c z) (ha : BE Γ sc fnk a x) (hb : BE Γ sc fnk b y) : BE Γ sc fnk (.IfExp c a b pos) (.ite z x y) := by
  obtain ⟨tc, pc, sc'⟩ := hc
  obtain ⟨ta, pa, sa⟩ := ha
  obtain ⟨tb, pb, sb⟩ := hb
  refine ⟨fun E => tIf (tc E) (ta E) (tb E), fun E X g => pe_ifExp (pc E X g) (pa E X g) (pb E X g), fun W H Vt n σ ρ E R Q Post S w hp => ?_⟩
  unfold wpE at w
  refine sc' W H Vt n σ ρ E R (fun k n1 => if k = true then wpE Γ.Ψ x R ρ n1 Q else wpE Γ.Ψ y R ρ n1 Q) _ S w fun k H1 ⟨V1, n1, g1, p1, q⟩ => ?_
  cases k with
  | true => exact sa W H1 V1 n1 σ ρ E R Q _ (S.grow g1 p1) q fun v' H2 z => hp v' H2 (z.grow g1)
  | false => exact sb W H1 V1 n1 σ ρ E R Q _ (S.grow g1 p1) q fun v' H2 z => hp v' H2 (z.grow g1)
theorem be_chain {op op2 : COp} {a b c : Expr} {x y z : Ex} {pos : Pos} (hm : lastMarks [cop op, cop op2] [b, c] = false) (ha : BE Γ sc fnk a x) (hb : BE Γ sc fnk b y) (hc : BE Γ sc fnk c z) : BE Γ sc fnk (.Compare a [cop op, cop op2] [b, c] pos) (.chain op op2 x y z) := by
  obtain ⟨ta, pa, sa⟩ := ha
  obtain ⟨tb, pb, sb⟩ := hb
  obtain ⟨tc, pc, sc'⟩ := hc
  refine ⟨fun E => tChain (rC Γ.K op) (rC Γ.K op2) (ta E) (tb E) (tc E), fun E X g => pe_chain (by rw [← g.K]; exact op_rC g.hu op) (by rw [← g.K]; exact op_rC g.hu op2) (pa E X g) (pb E X g) (pc E X g) hm, ?_⟩
  intro W H Vt n σ ρ E R Q Post S w hp
  unfold wpE at w
  refine sa W H Vt n σ ρ E R _ _ S w fun v H1 ⟨V1, n1, s, g1, p1, i1, _, w1⟩ => ?_
  have S1 := S.grow g1 p1
  refine sb W H1 V1 n1 σ ρ E R _ _ S1 w1 fun u H2 ⟨V2, n2, s2, g2, p2, i2, _, w2⟩ => ?_
  have S2 := S1.grow g2 p2
  obtain ⟨d, rd, w3⟩ := (i1.grow g2).read w2
  obtain ⟨e, re, w4⟩ := i2.read w3
  refine cmp_sem rd re w4 fun k q => ⟨k, rfl, ?_⟩
  cases k with
  | true =>
    simp only [if_true] at q ⊢
    refine sc' W H2 V2 n2 σ ρ E R _ _ S2 q fun w' H3 ⟨V3, n3, s3, g3, p3, i3, _, w5⟩ => ?_
    obtain ⟨f, rf, w6⟩ := i3.read w5
    exact cmp_sem (re.grow g3) rf w6 fun k q => hp _ _ ⟨V3, n3, .pure (.bl k), (g1.trans g2).trans g3, p3, .bl k, (fun _ _ z _ => nomatch z), q⟩
  | false =>
    simp only [Bool.false_eq_true, if_false] at q ⊢
    exact hp _ _ ⟨V2, n2, .pure (.bl false), g1.trans g2, p2, .bl false, (fun _ _ z _ => nomatch z), q⟩
theorem bt_chain {op op2 : COp} {a b c : Expr} {x y z : Ex} {pos : Pos} (hm : lastMarks [cop op, cop op2] [b, c] = false) (ha : BE Γ sc fnk a x) (hb : BE Γ sc fnk b y) (hc : BE Γ sc fnk c z) : BT Γ sc fnk (.Compare a [cop op, cop op2] [b, c] pos) (.chain op op2 x y z) := by
  obtain ⟨ta, pa, sa⟩ := ha
  obtain ⟨tb, pb, sb⟩ := hb
  obtain ⟨tc, pc, sc'⟩ := hc
  refine ⟨_, fun E X g => pt_chain (r := rC Γ.K op) (r' := rC Γ.K op2) (by rw [← g.K]; exact op_rC g.hu op) (by rw [← g.K]; exact op_rC g.hu op2) (pa E X g) (pb E X g) (pc E X g) hm, ?_⟩
  intro W H Vt n σ ρ E R Q Post S w hp
  unfold wpT wpE at w
  refine sa W H Vt n σ ρ E R _ _ S w fun v H1 ⟨V1, n1, s, g1, p1, i1, _, w1⟩ => ?_
  have S1 := S.grow g1 p1
  refine sb W H1 V1 n1 σ ρ E R _ _ S1 w1 fun u H2 ⟨V2, n2, s2, g2, p2, i2, _, w2⟩ => ?_
  have S2 := S1.grow g2 p2
  obtain ⟨d, rd, w3⟩ := (i1.grow g2).read w2
  obtain ⟨e, re, w4⟩ := i2.read w3
  refine cmp_sem rd re w4 fun k q => ⟨k, rfl, ?_⟩
  cases k with
  | true =>
    simp only [if_true] at q ⊢
    refine sc' W H2 V2 n2 σ ρ E R _ _ S2 q fun w' H3 ⟨V3, n3, s3, g3, p3, i3, _, w5⟩ => ?_
    obtain ⟨f, rf, w6⟩ := i3.read w5
    exact cmp_sem (re.grow g3) rf w6 fun k q => ⟨k, rfl, hp _ _ ⟨V3, n3, (g1.trans g2).trans g3, p3, q⟩⟩
  | false =>
    simp only [Bool.false_eq_true, if_false] at q ⊢
    exact ⟨false, rfl, hp _ _ ⟨V2, n2, g1.trans g2, p2, q⟩⟩

/-! ### lists of expressions -/
def noStar : Expr → Bool
  | .Starred _ _ => false | _ => true
theorem star_cons {e : Expr} {es : List Expr} (h : noStar e = true) (env : Env) : starEach (e :: es) env = (false, eval e env) :: starEach es env := by
  cases e <;> first | rfl | cases h
theorem bl_nil : BL Γ sc fnk [] .enil := ⟨fun _ => tNil, fun _ _ _ => pa_nil, fun W H Vt n σ ρ E R Q Post S w hp => by
  unfold wpL at w
  exact hp [] H ⟨Vt, n, [], Grow.refl, S.est.pur, .nil, True.intro, w⟩⟩
theorem bl_cons {e : Expr} {es : List Expr} {x y : Ex} (h : noStar e = true) (he : BE Γ sc fnk e x) (hs : BL Γ sc fnk es y) : BL Γ sc fnk (e :: es) (.econs x y) := by
  obtain ⟨ta, pa, sa⟩ := he
  obtain ⟨tb, pb, sb⟩ := hs
  refine ⟨fun E => tCons (ta E) (tb E), fun E X g => pa_cons (pa E X g) (pb E X g) (star_cons h _), fun W H Vt n σ ρ E R Q Post S w hp => ?_⟩
  unfold wpL at w
  refine sa W H Vt n σ ρ E R _ _ S w fun v H1 ⟨V1, n1, s, g1, p1, i1, f1, w1⟩ => ?_
  refine sb W H1 V1 n1 σ ρ E R _ _ (S.grow g1 p1) w1 fun vs H2 ⟨V2, n2, ss, g2, p2, i2, f2, w2⟩ => ?_
  exact hp (v :: vs) H2 ⟨V2, n2, s :: ss, g1.trans g2, p2, .cons (i1.grow g2) i2, ⟨f1, f2.grow g1⟩, w2⟩
/-- items that may be kept -/
theorem items_take {W : Wd} {H H' : Hp} {Vt : Addr → Prop} (hO : ∀ a, W.O a → H a ≠ none) : ∀ {vs : List V} {ss : List Sl} {Q : List D → Prop}, Items W H' Vt vs ss → YoungAll H vs ss → takes ss Q → ∃ ds, Reps W H' Vt vs ds ∧ Q ds
  | _, _, _, .nil, _, w => ⟨[], .nil, w⟩
  | _, _, _, .cons (v := v) (s := s) (ss := ss) i r, y, w => by
    cases s with
    | dead => exact i.elim
    | bor d => exact (show False from w).elim
    | dp d => exact (show False from w).elim
    | bdp d => exact (show False from w).elim
    | pure d =>
      obtain ⟨ds, rr, q⟩ := items_take hO r y.2 (show takes ss (fun ds => _) from w)
      exact ⟨d :: ds, .cons i rr, q⟩
    | own d =>
      obtain ⟨ds, rr, q⟩ := items_take hO r y.2 (show takes ss (fun ds => _) from w)
      obtain ⟨a, e, _, _⟩ := Own.ref i
      subst e
      exact ⟨d :: ds, .cons (Own.rep i fun z => hO a z (y.1 d a rfl rfl)) rr, q⟩
theorem be_tup {es : List Expr} {x : Ex} {k : Nat} {pos : Pos} (hs : BL Γ sc fnk es x) : BE Γ sc fnk (.Tuple es k pos) (.tup x) := by
  obtain ⟨t, p, s⟩ := hs
  refine ⟨fun E => tTup (t E), fun E X g => pe_tup (p E X g), fun W H Vt n σ ρ E R Q Post S w hp => ?_⟩
  unfold wpE at w
  refine s W H Vt n σ ρ E R _ _ S w fun vs H1 ⟨V1, n1, ss, g1, p1, i1, f1, w1⟩ => ?_
  obtain ⟨ds, r, hz, q⟩ := items_take S.est.oDom i1 f1 w1
  exact ⟨by rw [r.length]; exact hz, fun pp e => hp _ _ (epost_tup g1 (S.est.grow g1 p1) e r q)⟩
theorem items_see {W : Wd} {H : Hp} {Vt : Addr → Prop} : ∀ {vs : List V} {ss : List Sl} {Q : List D → Prop}, Items W H Vt vs ss → sees ss Q → ∃ ds, Reps (noL W H) H Vt vs ds ∧ Q ds
  | _, _, _, .nil, w => ⟨[], .nil, w⟩
  | _, _, _, .cons i r, w => by
    obtain ⟨d, rd, w⟩ := i.repN w
    obtain ⟨ds, rs, q⟩ := items_see r w
    exact ⟨d :: ds, .cons rd rs, q⟩
theorem be_lst {es : List Expr} {x : Ex} {pos : Pos} (hs : BL Γ sc fnk es x) : BE Γ sc fnk (.List es pos) (.lst x) := by
  obtain ⟨t, p, s⟩ := hs
  refine ⟨fun E => tLst (t E), fun E X g => pe_lst (p E X g), fun W H Vt n σ ρ E R Q Post S w hp => ?_⟩
  unfold wpE at w
  refine s W H Vt n σ ρ E R _ _ S w fun vs H1 ⟨V1, n1, ss, g1, p1, i1, f1, w1⟩ => ?_
  have w1 : lstW ss fun s => Q s n1 := w1
  unfold lstW at w1
  split at w1
  · obtain ⟨ds, r, hz, q⟩ := items_see i1 w1
    refine ⟨by rw [r.length]; exact hz, fun pp e => hp _ _ ?_⟩
    have g2 : Grow H1 V1 (upd H1 pp (.lst vs)) V1 := Grow.upd e
    have e1 := S.est.grow g1 p1
    exact ⟨V1, n1, .bdp (.lst false ds), g1.trans g2, (e1.upd e).pur, .lst upd_same (fun z => by obtain ⟨_, vs, h⟩ := z; rw [upd_same] at h; cases h) (fun z => (e1.pur pp z).dom e) (fun z => nomatch z) (Reps.growL g2 r), (fun _ _ z _ => nomatch z), q⟩
  · obtain ⟨ds, r, hz, q⟩ := items_take S.est.oDom i1 f1 w1
    exact ⟨by rw [r.length]; exact hz, fun pp e => hp _ _ (epost_lst g1 (S.est.grow g1 p1) e r q)⟩
theorem be_dnew {pos : Pos} : BE Γ sc fnk (.Dict [] [] pos) .dnew :=
  ⟨fun _ => tDNewK, fun _ _ _ => pe_dnewK, fun W H Vt n σ ρ E R Q Post S w hp => fun p e => hp _ _ (epost_dic Grow.refl S.est e .nil w)⟩

/-! ### items and slices -/
def plainIxB : Expr → Bool
  | .Slice _ _ none _ => false | _ => true
theorem plainIx_of {b : Expr} (h : plainIxB b = true) : PlainIx b := by
  intro o i
  cases b <;> first | rfl | skip
  rename_i lo hi st p
  cases st
  · cases h
  · rfl
theorem atI_reps {W : Wd} {H : Hp} {Vt : Addr → Prop} {vs : List V} {ds : List D} {i : Int} {d : D} (r : Reps W H Vt vs ds) (e : atI ds i = some d) : ∃ v, atI vs i = some v ∧ Rep W H Vt v d := by
  unfold atI at e ⊢
  rw [r.length]
  cases q : ixN ds.length i with
  | none => rw [q] at e; cases e
  | some j =>
    rw [q] at e
    exact r.get' e
theorem ix_sem {W : Wd} {H : Hp} {Vt : Addr → Prop} {v u : V} {d e : D} {Q : D → Prop} {Post : VK} (rd : Rd0 W H Vt v d) (re : u = (match e with | .int i => .int i | _ => u)) (w : ixW d e Q) (hp : ∀ v' d', Rep W H Vt v' d' → Q d' → Post v' H) : rIx Γ.K v u H Post := by
  unfold ixW at w
  cases e with
  | int i =>
    have re : u = .int i := re
    subst re
    cases d with
    | lst t ds =>
      obtain ⟨p, vs, rfl, e1, r1⟩ := rd.lst
      have w : (match atI ds i with | some d => Q d | none => False) := w
      cases q : atI ds i with
      | none => rw [q] at w; exact w.elim
      | some d =>
        rw [q] at w
        obtain ⟨v', e2, r2⟩ := atI_reps r1 q
        exact .inl ⟨p, vs, i, v', rfl, rfl, SqL.of e1, e2, hp _ _ r2 w⟩
    | tup ds =>
      obtain ⟨p, vs, rfl, e1, r1⟩ := rd.tup
      have w : (match atI ds i with | some d => Q d | none => False) := w
      cases q : atI ds i with
      | none => rw [q] at w; exact w.elim
      | some d =>
        rw [q] at w
        obtain ⟨v', e2, r2⟩ := atI_reps r1 q
        exact .inr (.inl ⟨p, vs, i, v', rfl, rfl, SqT.of e1, e2, hp _ _ r2 w⟩)
    | _ => exact (show False from w).elim
  | _ => revert w; cases d <;> exact fun w => (show False from w).elim
theorem see_read {s : Sl} {Q : D → Prop} (h : s.see Q) : (∃ d, s = .bdp d ∧ Q d) ∨ (s.read Q ∧ ∀ d, s.part d = .pure d) := by
  cases s with
  | bdp d => exact .inl ⟨d, rfl, h⟩
  | dead => exact (show False from h).elim
  | dp d => exact (show False from h).elim
  | _ => exact .inr ⟨h, fun _ => rfl⟩
theorem be_ix {a b : Expr} {x y : Ex} {pos : Pos} (hb0 : plainIxB b = true) (ha : BE Γ sc fnk a x) (hb : BE Γ sc fnk b y) : BE Γ sc fnk (.Subscript a b pos) (.ix x y) := by
  obtain ⟨ta, pa, sa⟩ := ha
  obtain ⟨tb, pb, sb⟩ := hb
  refine ⟨fun E => tOp (rIx Γ.K) (ta E) (tb E), fun E X g => by rw [← g.K]; exact pe_ix ix_seq (pa E X g) (pb E X g) (plainIx_of hb0), fun W H Vt n σ ρ E R Q Post S w hp => ?_⟩
  unfold wpE at w
  refine sa W H Vt n σ ρ E R _ _ S w fun v H1 ⟨V1, n1, s, g1, p1, i1, _, w1⟩ => ?_
  have S1 := S.grow g1 p1
  refine sb W H1 V1 n1 σ ρ E R _ _ S1 w1 fun u H2 ⟨V2, n2, s2, g2, p2, i2, _, w2⟩ => ?_
  have S2 := S1.grow g2 p2
  have key : ∀ {e : D}, Rd0 W H2 V2 u e → u = (match e with | .int i => .int i | _ => u) := fun {e} r => by cases e <;> first | rfl | exact r.int
  have i1' := i1.grow g2
  rcases see_read w2 with ⟨d, rfl, w3⟩ | ⟨w2', hpart⟩
  · obtain ⟨e, re, w4⟩ := i2.read w3
    have i1' : Rep (noL W H2) H2 V2 v d := i1'
    exact ix_sem (.rep i1') (key re) w4 fun v' d' r q => hp v' H2 ⟨V2, n2, .bdp d', g1.trans g2, p2, r, (fun _ _ z _ => nomatch z), q⟩
  · obtain ⟨d, rd, w3⟩ := i1'.read w2'
    obtain ⟨e, re, w4⟩ := i2.read w3
    exact ix_sem rd (key re) w4 fun v' d' r q => hp v' H2 ((epost_at Grow.refl S2.est r (by rw [hpart] at q; exact q)).grow (g1.trans g2))
theorem be_dget {a b : Expr} {x y : Ex} {pos : Pos} (hb0 : plainIxB b = true) (ha : BE Γ sc fnk a x) (hb : BE Γ sc fnk b y) : BE Γ sc fnk (.Subscript a b pos) (.dget x y) := by
  obtain ⟨ta, tb, pa, pb, s⟩ := two (f := fun _ _ => pure .none) (r := fun _ v u H Q => ∃ a z, v = .ref a ∧ DGet H a u (some z) ∧ Q z H) (K := fun d e n Q => dgetW d e fun z => Q (.pure z) n) ha hb
    (fun W H Vt n σ ρ E R v u d e Q Post S rd re w hp => by
      unfold dgetW at w
      cases d with
      | dic t kvs =>
        have w : (match e.key with | some k => (match kget kvs k with | some d => Q (.pure d) n | none => False) | none => False) := by revert w; cases e.key <;> exact id
        cases kk : e.key with
        | none => simp [kk] at w
        | some k =>
          simp only [kk] at w
          obtain ⟨p, us, rfl, e1, r1⟩ := rd.dic
          cases q : kget kvs k with
          | none => rw [q] at w; exact w.elim
          | some d =>
            rw [q] at w
            obtain ⟨v', e2, r2⟩ := (repk_get (k := k) r1).1 d q
            rw [key_v re kk]
            exact ⟨p, v', rfl, e2 ▸ DGet.k e1, post_at S hp r2 w⟩
      | _ => revert w; cases e.key <;> exact fun w => (show False from w).elim)
  exact ⟨fun E => tDGet (ta E) (tb E), fun E X g => pe_dget (by have := g.hu; omega) (pa E X g) (pb E X g) (plainIx_of hb0), s⟩
theorem cut_reps {W : Wd} {H : Hp} {Vt : Addr → Prop} {vs : List V} {ds : List D} (r : Reps W H Vt vs ds) (lo hi : Option Int) : Reps W H Vt (cutV vs lo hi) (cutD ds lo hi) := by
  unfold cutV cutD
  rw [r.length]
  exact (r.drop _).take _
theorem partW_ne {y : Ex} {d : D} {K : Option Int → Prop} (ne : y ≠ .non) (w : partW y d K) : ∃ i, d = .int i ∧ K (some i) := by
  cases y <;> first | exact absurd rfl ne | (cases d <;> first | exact ⟨_, rfl, w⟩ | exact (show False from w).elim)
/-- a part of a slice -/
def PartOk (Γ : Ga) (sc : Scope) (fnk : Str → Bool) (o : Option Expr) (y : Ex) : Prop := (o = none ∧ y = .non) ∨ ∃ e, o = some e ∧ y ≠ .non ∧ BE Γ sc fnk e y
theorem part_ok {o : Option Expr} {y : Ex} (h : PartOk Γ sc fnk o y) :
    ∃ t : XK → TO, (∀ E X, Good Γ sc fnk E X → PO X o (t E)) ∧
      ∀ W H Vt n σ ρ E R (K : Option Int → Nat → Prop) (Post : Option Int → Hp → Prop), Sit Γ W H Vt n σ ρ E R → (wpE Γ.Ψ y R ρ n fun s n1 => s.read fun d => partW y d fun l => K l n1) →
        (∀ l H' (Vt' : Addr → Prop) n', Grow H Vt H' Vt' → (∀ a, Vt' a → PurseAt n' H' a) → K l n' → Post l H') → t E σ H Post := by
  rcases h with ⟨rfl, rfl⟩ | ⟨e, rfl, ne, t, p, s⟩
  · refine ⟨fun _ => tNoPart, fun _ _ _ => po_none, fun W H Vt n σ ρ E R K Post S w hp => ?_⟩
    unfold wpE at w
    exact hp none H Vt n Grow.refl S.est.pur w
  · refine ⟨fun E => tPart (t E), fun E X g => po_some (p E X g), fun W H Vt n σ ρ E R K Post S w hp => ?_⟩
    refine s W H Vt n σ ρ E R _ _ S w fun v H1 ⟨V1, n1, s1, g1, p1, i1, _, w1⟩ => ?_
    obtain ⟨d, rd, w2⟩ := i1.read w1
    obtain ⟨i, rfl, w3⟩ := partW_ne ne w2
    cases rd.int
    exact ⟨i, rfl, hp _ H1 V1 n1 g1 p1 w3⟩
theorem sIx_le' (n d : Nat) (hd : d ≤ n) (o : Option Int) : HT.sIx n d o ≤ n := HT.sIx_le n d hd o
theorem be_slice {a : Expr} {lo hi : Option Expr} {x y z : Ex} {pos p2 : Pos} (ha : BE Γ sc fnk a x) (hl : PartOk Γ sc fnk lo y) (hh : PartOk Γ sc fnk hi z) : BE Γ sc fnk (.Subscript a (.Slice lo hi none p2) pos) (.slice x y z) := by
  obtain ⟨ta, pa, sa⟩ := ha
  obtain ⟨tl, pl, sl⟩ := part_ok hl
  obtain ⟨th, ph, sh⟩ := part_ok hh
  refine ⟨fun E => tSl (fun x lo hi H Q => rSlL Γ.K x lo hi H Q ∨ rSlT Γ.K x lo hi H Q) (ta E) (tl E) (th E), fun E X g => by rw [← g.K]; exact pe_slice (SlR.or sl_list sl_tup) (pa E X g) (pl E X g) (ph E X g), ?_⟩
  intro W H Vt n σ ρ E R Q Post S w hp
  unfold wpE at w
  refine sa W H Vt n σ ρ E R _ _ S w fun v H1 ⟨V1, n1, s1, g1, p1, i1, _, w1⟩ => ?_
  have S1 := S.grow g1 p1
  refine sl W H1 V1 n1 σ ρ E R _ _ S1 w1 fun l H2 V2 n2 g2 p2 w2 => ?_
  have S2 := S1.grow g2 p2
  refine sh W H2 V2 n2 σ ρ E R _ _ S2 w2 fun h H3 V3 n3 g3 p3 w3 => ?_
  have S3 := S2.grow g3 p3
  have hp3 : ∀ v' H', EPost W H3 V3 Q v' H' → Post v' H' := fun v' H' z => hp v' H' (((z.grow g3).grow g2).grow g1)
  obtain ⟨d, rd, w4⟩ := ((i1.grow g2).grow g3).read w3
  cases d with
  | lst t ds =>
    obtain ⟨p, vs, rfl, e1, r1⟩ := rd.lst
    exact .inl ⟨p, vs, rfl, SqL.of e1, post_lst S3 hp3 (cut_reps r1 l h) w4⟩
  | tup ds =>
    obtain ⟨p, vs, rfl, e1, r1⟩ := rd.tup
    obtain ⟨c, w5⟩ := w4
    refine .inr ⟨p, vs, rfl, SqT.of e1, ?_, post_tup S3 hp3 (cut_reps r1 l h) w5⟩
    rintro ⟨z1, z2⟩
    rw [r1.length] at z1 z2
    unfold cutD at c
    rw [z1, z2] at c
    simp at c
  | _ => exact (show False from w4).elim
end
end Vm
/-! Vm7: built-ins, isinstance, methods, calls. -/
namespace Vm
open PySem PySem.Spec L2

inductive Rds (W : Wd) (H : Hp) (Vt : Addr → Prop) : List V → List D → Prop where
  | nil : Rds W H Vt [] []
  | cons {v : V} {d : D} {vs : List V} {ds : List D} : Rd0 W H Vt v d → Rds W H Vt vs ds → Rds W H Vt (v :: vs) (d :: ds)
theorem items_reads {W : Wd} {H : Hp} {Vt : Addr → Prop} : ∀ {vs : List V} {ss : List Sl} {Q : List D → Prop}, Items W H Vt vs ss → reads ss Q → ∃ ds, Rds W H Vt vs ds ∧ Q ds
  | _, _, _, .nil, w => ⟨[], .nil, w⟩
  | _, _, _, .cons (v := v) (s := s) (ss := ss) i r, w => by
    obtain ⟨d, rd, w⟩ := i.read w
    obtain ⟨ds, rs, q⟩ := items_reads r w
    exact ⟨d :: ds, .cons rd rs, q⟩

/-! ### isinstance -/
def D.ty : D → String
  | .non => "NoneType" | .bl _ => "bool" | .int _ => "int" | .str _ => "str" | .lst _ _ => "list" | .tup _ => "tuple" | .dic _ _ => "dict" | .pur => "list"
def Ty.nm : Ty → String
  | .int => "int" | .bool => "bool" | .str => "str" | .list => "list" | .tuple => "tuple" | .dict => "dict"
theorem kit_tys : ∀ (a : D) (t : Ty), kitB a.ty t.nm = some (a.isTy t) := by
  have h1 : ∀ t : Ty, kitB "NoneType" t.nm = some (D.non.isTy t) := fun t => by cases t <;> decide +kernel
  have h2 : ∀ t : Ty, kitB "bool" t.nm = some ((D.bl true).isTy t) := fun t => by cases t <;> decide +kernel
  have h3 : ∀ t : Ty, kitB "int" t.nm = some ((D.int 0).isTy t) := fun t => by cases t <;> decide +kernel
  have h4 : ∀ t : Ty, kitB "str" t.nm = some ((D.str ⟨#[]⟩).isTy t) := fun t => by cases t <;> decide +kernel
  have h5 : ∀ t : Ty, kitB "list" t.nm = some ((D.lst true []).isTy t) := fun t => by cases t <;> decide +kernel
  have h6 : ∀ t : Ty, kitB "tuple" t.nm = some ((D.tup []).isTy t) := fun t => by cases t <;> decide +kernel
  have h7 : ∀ t : Ty, kitB "dict" t.nm = some ((D.dic true []).isTy t) := fun t => by cases t <;> decide +kernel
  intro a t
  cases a with
  | non => exact h1 t
  | bl b => rw [show (D.bl b).ty = "bool" from rfl, h2 t]; cases t <;> rfl
  | int b => rw [show (D.int b).ty = "int" from rfl, h3 t]; cases t <;> rfl
  | str b => rw [show (D.str b).ty = "str" from rfl, h4 t]; cases t <;> rfl
  | lst b c => rw [show (D.lst b c).ty = "list" from rfl, h5 t]; cases t <;> rfl
  | tup b => rw [show (D.tup b).ty = "tuple" from rfl, h6 t]; cases t <;> rfl
  | dic b c => rw [show (D.dic b c).ty = "dict" from rfl, h7 t]; cases t <;> rfl
  | pur => rw [show D.pur.ty = "list" from rfl, h5 t]; cases t <;> rfl
theorem kit_any {K : PySem.W.Frag} (d : D) : ∀ ts : List Ty, PySem.W.kitAny K (.type d.ty) (ts.map fun t => .type t.nm) = some (ts.any fun t => d.isTy t)
  | [] => rfl
  | t :: ts => by
    refine kitAny_cons (kit_ty (kit_tys d t)) (fun e => ?_) fun e => ?_
    · rw [List.any_cons, e, Bool.false_or]; exact kit_any d ts
    · rw [List.any_cons, e, Bool.true_or]
theorem Rd0.tyX {W : Wd} {H : Hp} {Vt : Addr → Prop} {n : Nat} {K : PySem.W.Frag} {v : V} {d : D} (e : ESt W H Vt n) (r : Rd0 W H Vt v d) : TyX K H v (.type d.ty) := by
  rcases r with r | r
  · cases r with
    | non => exact .base .non
    | bl b => exact .base (.bl b)
    | int i => exact .base (.int i)
    | str s => exact .base (.str s)
    | lst e _ _ _ _ => exact .base (.lst e)
    | tup e _ _ _ => exact .base (.tup e)
    | dic e _ _ _ _ => exact .base (.dK e)
    | pur h =>
      obtain ⟨_, _, _, _, q, _⟩ := e.pur _ h
      exact .base (.lst q)
  · cases r with
    | lst e _ _ _ => exact .base (.lst e)
    | dic e _ _ _ => exact .base (.dK e)
def tyVs (ts : List Ty) : List V := ts.map fun t => V.ty t.nm
def tTys (ts : List Ty) : TA := fun _ H Q => Q (tyVs ts) H
/-- the names of classes -/
inductive TyNames : List Expr → List Ty → Prop where
  | nil : TyNames [] []
  | cons {t : Ty} {p : Pos} {es : List Expr} {ts : List Ty} : TyNames es ts → TyNames (.Name (PySem.Str.ofString t.nm) p :: es) (t :: ts)
section
variable {Γ : Ga} {sc : Scope} {fnk : Str → Bool}
theorem ty_glob {E : XK} {X : Cx} (g : Good Γ sc fnk E X) (t : Ty) {p : Pos} (h : gbl sc (PySem.Str.ofString t.nm) = true) : PE X (.Name (PySem.Str.ofString t.nm) p) (tC (.ty t.nm)) := by
  have hb : X.mg (PySem.Str.ofString t.nm) = none := g.blt _ (by cases t <;> decide +kernel)
  refine pe_bltn (u := .type t.nm) (gbl_of g h) hb (by cases t <;> decide +kernel) rfl (by cases t <;> decide +kernel) (by cases t <;> decide +kernel)
theorem pa_tys {E : XK} {X : Cx} (g : Good Γ sc fnk E X) : ∀ {es : List Expr} {ts : List Ty}, TyNames es ts → (∀ t ∈ ts, gbl sc (PySem.Str.ofString t.nm) = true) → PA X es (tTys ts)
  | _, _, .nil, _ => pa_nil
  | _, _, .cons (t := t) (p := p) (ts := ts) r, h => by
    have a := ty_glob (p := p) g t (h t (List.mem_cons_self ..))
    have b := pa_tys g r fun t m => h t (List.mem_cons_of_mem _ m)
    exact pa_cons a b (star_cons rfl _)
theorem cls_paired : ∀ ts : List Ty, Paired ClsV (tyVs ts) (ts.map fun t => Value.type t.nm)
  | [] => .nil
  | t :: ts => .cons (.ty t.nm) (cls_paired ts)
theorem ESt.free {W : Wd} {H : Hp} {Vt : Addr → Prop} {n : Nat} (e : ESt W H Vt n) : ESt (noL W H) H Vt n := ⟨fun a z => e.oDom a z.1, e.oldDom, e.pur, fun a z => e.oV a z.1⟩
theorem Rd0.growL {W : Wd} {H H' : Hp} {Vt Vt' : Addr → Prop} (g : Grow H Vt H' Vt') {v : V} {d : D} : Rd0 (noL W H) H Vt v d → Rd0 (noL W H') H' Vt' v d
  | .rep h => .rep (h.growL g)
  | .own h => .own (h.conv (noL_cv g) g.sub fun a o _ e n => ⟨g.keep a o e n, g.noVt e n, fun z => z⟩)
theorem be_isi {a b : Expr} {x : Ex} {t : Ty} {pf pos : Pos} (hg : gbl sc "isinstance" = true) (hs : noStar a = true) (ha : BE Γ sc fnk a x) (hb : ∃ p, b = .Name (PySem.Str.ofString t.nm) p) (ht : gbl sc (PySem.Str.ofString t.nm) = true) :
    BE Γ sc fnk (.Call (.Name "isinstance" pf) [a, b] [] pos) (.isi x [t]) := by
  obtain ⟨p, rfl⟩ := hb
  obtain ⟨ta, pa, s⟩ := oneS (r := fun _ v H Q => rIsi Γ.K [v, .ty t.nm] H Q) (K := fun d n Q => Q (.pure (.bl ([t].any fun t => d.isTy t))) n) ha (fun W H Vt n σ ρ E R v d Q Post S rd w hp => by
    have e : ([t].any fun t => d.isTy t) = d.isTy t := by simp
    rw [e] at w
    exact ⟨v, .ty t.nm, _, _, _, rfl, .ty t.nm, rd.tyX S.est.free, kit_ty (kit_tys d t), post_at S hp (.bl _) w⟩)
  refine ⟨fun E => tCB (rIsi Γ.K) (tCons (ta E) (tCons (tC (.ty t.nm)) tNil)), fun E X g => ?_, s⟩
  rw [← g.K]
  exact pe_callB call_isi (gbl_of g hg) (g.blt _ (by decide +kernel)) (by decide +kernel) (pa_cons (pa E X g) (pa_cons (ty_glob g t ht) pa_nil (star_cons rfl _)) (star_cons hs _)) (by decide +kernel) (by decide +kernel) (star_cons hs _) (by rw [star_cons rfl]; rfl)
theorem be_isiT {a : Expr} {es : List Expr} {x : Ex} {ts : List Ty} {k : Nat} {pf p2 pos : Pos} (hg : gbl sc "isinstance" = true) (hs : noStar a = true) (ha : BE Γ sc fnk a x) (hb : TyNames es ts) (ht : ∀ t ∈ ts, gbl sc (PySem.Str.ofString t.nm) = true) (hl : ts.length ≤ 1000) :
    BE Γ sc fnk (.Call (.Name "isinstance" pf) [a, .Tuple es k p2] [] pos) (.isi x ts) := by
  obtain ⟨ta, pa, s⟩ := oneS (r := fun _ v H Q => (tyVs ts).length ≤ sizeLine ∧ ∀ p, H p = none → rIsiT Γ.K [v, .ref p] (upd H p (.tup (tyVs ts))) Q) (K := fun d n Q => Q (.pure (.bl (ts.any fun t => d.isTy t))) n) ha (fun W H Vt n σ ρ E R v d Q Post S rd w hp => by
    refine ⟨by unfold tyVs; rw [List.length_map]; exact Nat.le_of_lt (small1000 hl), fun p e => ?_⟩
    have g := Grow.upd (V0 := Vt) (o := .tup (tyVs ts)) e
    exact ⟨v, p, _, _, _, _, rfl, upd_same, cls_paired ts, (Rd0.growL g rd).tyX (S.est.upd e).free, kit_any d ts, hp _ _ (epost_at g (S.est.upd e) (.bl _) w)⟩)
  refine ⟨fun E => tCB (rIsiT Γ.K) (tCons (ta E) (tCons (tTup (tTys ts)) tNil)), fun E X g => ?_, s⟩
  rw [← g.K]
  exact pe_callB call_isiT (gbl_of g hg) (g.blt _ (by decide +kernel)) (by decide +kernel) (pa_cons (pa E X g) (pa_cons (pe_tup (pa_tys g hb ht)) pa_nil (star_cons rfl _)) (star_cons hs _)) (by decide +kernel) (by decide +kernel) (star_cons hs _) (by rw [star_cons rfl]; rfl)

/-! ### built-ins by name -/
def Bi.nm : Bi → String
  | .len => "len" | .int => "int" | .str => "str" | .bool => "bool" | .abs => "abs" | .min2 => "min" | .max2 => "max" | .min1 => "min" | .max1 => "max" | .minD => "min" | .sum => "sum" | .any => "any" | .all => "all"
  | .sorted => "sorted" | .sortedP => "sorted" | .list => "list" | .tuple => "tuple" | .lrange => "list"
def Bi.isT : Bi → Bool
  | .int => true | .str => true | .bool => true | .list => true | .tuple => true | _ => false
def Bi.plain : Bi → Bool
  | .minD => false | .lrange => false | _ => true
def rBi (K : PySem.W.Frag) : Bi → List V → Hp → VK → Prop
  | .len => fun xs H Q => (∃ p ys, xs = [.ref p] ∧ (SqL K H p ys ∨ SqT K H p ys) ∧ Q (.int ys.length) H) ∨ (∃ z, xs = [.str z] ∧ z.length ≤ sizeLine ∧ Q (.int z.length) H) ∨ (∃ d kvs, xs = [.ref d] ∧ H d = some (.dK kvs) ∧ Q (.int (kvs.length : Nat)) H)
  | .int => fun xs H Q => (∃ i, xs = [.int i] ∧ Q (.int i) H) ∨ ∃ k, xs = [.bl k] ∧ Q (.int (if k then 1 else 0)) H
  | .str => fun xs H Q => ∃ i, xs = [.int i] ∧ i.natAbs.log2 < 1920 ∧ Q (.str (toString i)) H
  | .bool => fun xs H Q => (∃ i, xs = [.int i] ∧ Q (.bl (i != 0)) H) ∨ ∃ k, xs = [.bl k] ∧ Q (.bl k) H
  | .abs => fun xs H Q => ∃ i, xs = [.int i] ∧ Q (.int (if i < 0 then -i else i)) H
  | .min2 => fun xs H Q => ∃ i j, xs = [.int i, .int j] ∧ Q (.int (if j < i then j else i)) H
  | .max2 => fun xs H Q => ∃ i j, xs = [.int i, .int j] ∧ Q (.int (if j > i then j else i)) H
  | .min1 => rMin K | .max1 => rMax K | .sum => rSum K | .any => rAny K | .all => rAll K | .sorted => rSortedI K | .sortedP => rSortedPO K
  | .list => fun xs H Q => ∃ p ys, xs = [.ref p] ∧ (SqL K H p ys ∨ SqT K H p ys) ∧ ∀ l, H l = none → Q (.ref l) (upd H l (.lst ys))
  | .tuple => fun xs H Q => ∃ p ys, xs = [.ref p] ∧ ((SqL K H p ys ∧ ∀ l, H l = none → Q (.ref l) (upd H l (.tup ys))) ∨ (SqT K H p ys ∧ Q (.ref p) H))
  | .minD => fun _ _ _ => False | .lrange => fun _ _ _ => False
theorem call_bi {E : XK} {X : Cx} (g : Good Γ sc fnk E X) (f : Bi) (h : f.plain = true) : CallR X (if f.isT then .type f.nm else .builtin f.nm) (rBi X.K f) := by
  cases f with
  | len =>
    refine CallR.or call_len_seq (CallR.or call_len_str ?_)
    intro pins s σ H xs us Q I r h
    obtain ⟨d, kvs, rfl, e, q⟩ := h
    exact call_lenD pins s σ H _ us Q I r ⟨d, kvs, rfl, e, q⟩
  | int => exact call_int1
  | str => exact call_str_int
  | bool => exact call_bool1
  | abs => exact call_abs
  | min2 => exact call_min2 g.calm
  | max2 => exact call_max2 g.calm
  | min1 => exact cr_min g.calm
  | max1 => exact cr_max g.calm
  | sum => exact cr_sum g.calm
  | any => exact cr_any g.calm
  | all => exact cr_all g.calm
  | sorted => exact cr_sortedI
  | sortedP => exact cr_sortedPO
  | list => exact call_list_of
  | tuple => exact call_tuple_of
  | minD => cases h
  | lrange => cases h
end
end Vm
/-! Vm8: built-ins, methods, calls of defs. -/
namespace Vm
open PySem PySem.Spec L2
section
variable {W : Wd} {H : Hp} {Vt : Addr → Prop}
theorem Rds.one {vs : List V} {d : D} (r : Rds W H Vt vs [d]) : ∃ v, vs = [v] ∧ Rd0 W H Vt v d := by
  cases r with | cons a b => cases b; exact ⟨_, rfl, a⟩
theorem Rds.two {vs : List V} {d e : D} (r : Rds W H Vt vs [d, e]) : ∃ v u, vs = [v, u] ∧ Rd0 W H Vt v d ∧ Rd0 W H Vt u e := by
  cases r with | cons a b => cases b with | cons c z => cases z; exact ⟨_, _, rfl, a, c⟩
theorem perm_map_of {α β : Type} (f : α → β) : ∀ {l m : List α}, l.Perm m → (l.map f).Perm (m.map f) := fun h => h.map f
/-- pairs of ints at the places of a list -/
theorem pairs_at : ∀ {vs : List V} {ds : List D} {ps : List (Int × Int)}, Reps W H Vt vs ds → D.pairs ds = some ps →
    (∀ x ∈ vs, ∃ t p, x = V.ref t ∧ H t = some (.tup [.int p.1, .int p.2]) ∧ p ∈ ps ∧ ¬ W.O t ∧ ¬ Vt t) ∧ ∃ k : V → Int × Int, vs.map k = ps ∧ ∀ x ∈ vs, ∃ t, x = V.ref t ∧ H t = some (.tup [.int (k x).1, .int (k x).2]) ∧ ¬ W.O t ∧ ¬ Vt t := by
  intro vs ds ps r e
  -- what stands at a place
  let k : V → Int × Int := fun x => match x with
    | .ref t => (match H t with | some (.tup [.int i, .int j]) => (i, j) | _ => (0, 0))
    | _ => (0, 0)
  have main : ∀ {vs : List V} {ds : List D} {ps : List (Int × Int)}, Reps W H Vt vs ds → D.pairs ds = some ps → vs.map k = ps ∧ ∀ x ∈ vs, ∃ t, x = V.ref t ∧ H t = some (.tup [.int (k x).1, .int (k x).2]) ∧ ¬ W.O t ∧ ¬ Vt t := by
    intro vs ds
    induction ds generalizing vs with
    | nil => intro ps r e; cases r; simp [D.pairs] at e; subst e; exact ⟨rfl, fun x hx => by cases hx⟩
    | cons d ds ih =>
      intro ps r e
      cases r with
      | @cons v vs _ _ rv rs =>
        unfold D.pairs at e
        split at e
        · rename_i heq; cases heq
        · rename_i i j r' heq
          cases heq
          cases hp : D.pairs ds with
          | none => rw [hp] at e; cases e
          | some qs =>
            rw [hp] at e
            have e' : (i, j) :: qs = ps := Option.some.inj e
            subst e'
            obtain ⟨h1, h2⟩ := ih rs hp
            cases rv with
            | @tup t us _ eh no nv rr =>
              cases rr with
              | cons ra rb =>
                cases ra
                cases rb with
                | cons rc rd =>
                  cases rc
                  cases rd
                  have ek : k (V.ref t) = (i, j) := by simp only [k, eh]
                  refine ⟨by rw [List.map_cons, h1, ek], fun x hx => ?_⟩
                  rcases List.mem_cons.mp hx with rfl | hx
                  · exact ⟨t, rfl, by rw [ek]; exact eh, no, nv⟩
                  · exact h2 x hx
        · cases e
  obtain ⟨h1, h2⟩ := main r e
  refine ⟨fun x hx => ?_, k, h1, h2⟩
  obtain ⟨t, a, b, c, d⟩ := h2 x hx
  exact ⟨t, k x, a, b, by rw [← h1]; exact List.mem_map_of_mem hx, c, d⟩
theorem reps_pairs {k : V → Int × Int} : ∀ {ys : List V}, (∀ x ∈ ys, ∃ t, x = V.ref t ∧ H t = some (.tup [.int (k x).1, .int (k x).2]) ∧ ¬ W.O t ∧ ¬ Vt t) → Reps W H Vt ys ((ys.map k).map fun q => D.tup [.int q.1, .int q.2])
  | [], _ => .nil
  | y :: ys, h => by
    obtain ⟨t, e, e2, no, nv⟩ := h y (List.mem_cons_self ..)
    refine .cons ?_ (reps_pairs fun x hx => h x (List.mem_cons_of_mem _ hx))
    rw [e] at e2 ⊢
    exact .tup e2 no nv (.cons (.int _) (.cons (.int _) .nil))
theorem bi_sem {Γ : Ga} {n : Nat} {σ : L2.St} {ρ : List Sl} {E : XK} {R : RK} {Q : Sl → Nat → Prop} {Post : VK} {K : PySem.W.Frag} {f : Bi} {vs : List V} {ds : List D} (hpl : f.plain = true) (S : Sit Γ W H Vt n σ ρ E R)
    (r : Rds W H Vt vs ds) (w : bltW f ds fun z => Q z n) (hp : ∀ v' H', EPost W H Vt Q v' H' → Post v' H') : rBi K f vs H Post := by
  unfold bltW at w
  split at w
  -- len
  · obtain ⟨v, rfl, rd⟩ := r.one
    obtain ⟨a, us, rfl, e, q⟩ := rd.lst
    exact .inl ⟨a, us, rfl, .inl (SqL.of e), by rw [q.length]; exact post_at S hp (.int _) w⟩
  · obtain ⟨v, rfl, rd⟩ := r.one
    obtain ⟨a, us, rfl, e, q⟩ := rd.tup
    exact .inl ⟨a, us, rfl, .inr (SqT.of e), by rw [q.length]; exact post_at S hp (.int _) w⟩
  · obtain ⟨v, rfl, rd⟩ := r.one
    obtain ⟨a, us, rfl, e, q⟩ := rd.dic
    exact .inr (.inr ⟨a, us, rfl, e, by rw [q.length]; exact post_at S hp (.int _) w⟩)
  · obtain ⟨v, rfl, rd⟩ := r.one
    cases rd.str
    exact .inr (.inl ⟨_, rfl, w.1, post_at S hp (.int _) w.2⟩)
  -- int
  · obtain ⟨v, rfl, rd⟩ := r.one
    cases rd.int
    exact .inl ⟨_, rfl, post_at S hp (.int _) w⟩
  · obtain ⟨v, rfl, rd⟩ := r.one
    cases rd.bl
    exact .inr ⟨_, rfl, post_at S hp (.int _) w⟩
  -- str
  · obtain ⟨v, rfl, rd⟩ := r.one
    cases rd.int
    exact ⟨_, rfl, w.1, post_at S hp (.str _) w.2⟩
  -- bool
  · obtain ⟨v, rfl, rd⟩ := r.one
    cases rd.int
    exact .inl ⟨_, rfl, post_at S hp (.bl _) w⟩
  · obtain ⟨v, rfl, rd⟩ := r.one
    cases rd.bl
    exact .inr ⟨_, rfl, post_at S hp (.bl _) w⟩
  -- abs
  · obtain ⟨v, rfl, rd⟩ := r.one
    cases rd.int
    exact ⟨_, rfl, post_at S hp (.int _) w⟩
  -- min2, max2
  · obtain ⟨v, u, rfl, rd, re⟩ := r.two
    cases rd.int; cases re.int
    exact ⟨_, _, rfl, post_at S hp (.int _) w⟩
  · obtain ⟨v, u, rfl, rd, re⟩ := r.two
    cases rd.int; cases re.int
    exact ⟨_, _, rfl, post_at S hp (.int _) w⟩
  -- min1, max1
  · obtain ⟨v, rfl, rd⟩ := r.one
    obtain ⟨a, us, rfl, e, q⟩ := rd.lst
    split at w
    · rename_i ns hn
      rw [reps_ints q hn] at e
      exact ⟨a, ns, rfl, SqL.of e, w.1, fun m h1 h2 => post_at S hp (.int _) (w.2 m h1 h2)⟩
    · exact w.elim
  · obtain ⟨v, rfl, rd⟩ := r.one
    obtain ⟨a, us, rfl, e, q⟩ := rd.lst
    split at w
    · rename_i ns hn
      rw [reps_ints q hn] at e
      exact ⟨a, ns, rfl, SqL.of e, w.1, fun m h1 h2 => post_at S hp (.int _) (w.2 m h1 h2)⟩
    · exact w.elim
  -- minD
  · cases hpl
  -- sum
  · obtain ⟨v, rfl, rd⟩ := r.one
    obtain ⟨a, us, rfl, e, q⟩ := rd.lst
    split at w
    · rename_i ns hn
      rw [reps_ints q hn] at e
      exact ⟨a, ns, rfl, SqL.of e, post_at S hp (.int _) w⟩
    · exact w.elim
  -- any, all
  · obtain ⟨v, rfl, rd⟩ := r.one
    obtain ⟨a, us, rfl, e, q⟩ := rd.lst
    split at w
    · rename_i ns hn
      rw [reps_bools q hn] at e
      exact ⟨a, ns, rfl, SqL.of e, post_at S hp (.bl _) w⟩
    · exact w.elim
  · obtain ⟨v, rfl, rd⟩ := r.one
    obtain ⟨a, us, rfl, e, q⟩ := rd.lst
    split at w
    · rename_i ns hn
      rw [reps_bools q hn] at e
      exact ⟨a, ns, rfl, SqL.of e, post_at S hp (.bl _) w⟩
    · exact w.elim
  -- sorted
  · obtain ⟨v, rfl, rd⟩ := r.one
    obtain ⟨a, us, rfl, e, q⟩ := rd.lst
    split at w
    · rename_i ns hn
      rw [reps_ints q hn] at e
      exact ⟨a, ns, rfl, SqL.of e, fun ms p h1 h2 e2 => post_lst S hp (reps_of_ints ms) (w ms h1 h2) p e2⟩
    · exact w.elim
  -- sortedP
  · obtain ⟨v, rfl, rd⟩ := r.one
    obtain ⟨a, us, rfl, e, q⟩ := rd.lst
    split at w
    · rename_i ps hn
      obtain ⟨_, k, hk, hx⟩ := pairs_at q hn
      refine ⟨a, us, k, rfl, SqL.of e, fun x m => let ⟨t, z1, z2, _⟩ := hx x m; ⟨t, z1, z2⟩, fun ys p hs hb e2 => ?_⟩
      have hperm : (ys.map k).Perm ps := by rw [← hk]; exact hb.1.map k
      have hpw : (ys.map k).Pairwise (fun a b => lexLe a b = true) := by
        rw [List.pairwise_map]
        refine hs.imp fun {x y} h => ?_
        have h' : ltP k y x = false := h
        have z := SrtO.lexB_no.mp h'
        simp only [lexLe, Bool.or_eq_true, decide_eq_true_eq, Bool.and_eq_true]
        omega
      exact post_lst S hp (reps_pairs fun x m => hx x (hb.1.mem_iff.mp m)) (w (ys.map k) hperm hpw) p e2
    · exact w.elim
  -- list
  · obtain ⟨v, rfl, rd⟩ := r.one
    obtain ⟨a, us, rfl, e, q⟩ := rd.lst
    exact ⟨a, us, rfl, .inl (SqL.of e), post_lst S hp q w⟩
  · obtain ⟨v, rfl, rd⟩ := r.one
    obtain ⟨a, us, rfl, e, q⟩ := rd.tup
    exact ⟨a, us, rfl, .inr (SqT.of e), post_lst S hp q w⟩
  -- tuple
  · obtain ⟨v, rfl, rd⟩ := r.one
    obtain ⟨a, us, rfl, e, q⟩ := rd.lst
    exact ⟨a, us, rfl, .inl ⟨SqL.of e, post_tup S hp q w⟩⟩
  · obtain ⟨v, rfl, rd⟩ := r.one
    obtain ⟨a, us, rfl, e, q⟩ := rd.tup
    rcases rd with z | z
    · exact ⟨a, us, rfl, .inr ⟨SqT.of e, post_at S hp z w⟩⟩
    · cases z
  · cases hpl
  · exact w.elim
end
section
variable {Γ : Ga} {sc : Scope} {fnk : Str → Bool}
/-- all arguments, read -/
theorem all_read {es : List Expr} {x : Ex} (hs : BL Γ sc fnk es x) {r : XK → List V → Hp → VK → Prop} {K : List D → Nat → (Sl → Nat → Prop) → Prop}
    (hr : ∀ (W : Wd) (H : Hp) (Vt : Addr → Prop) (n : Nat) (σ : L2.St) (ρ : List Sl) (E : XK) (R : RK) (vs : List V) (ds : List D) (Q : Sl → Nat → Prop) (Post : VK), Sit Γ W H Vt n σ ρ E R → Rds W H Vt vs ds → K ds n Q →
      (∀ v' H', EPost W H Vt Q v' H' → Post v' H') → r E vs H Post) :
    ∃ t : XK → TA, (∀ E X, Good Γ sc fnk E X → PA X es (t E)) ∧
      ∀ W H Vt n σ ρ E R Q Post, Sit Γ W H Vt n σ ρ E R → (wpL Γ.Ψ x R ρ n fun ss n1 => reads ss fun ds => K ds n1 Q) → (∀ v H', EPost W H Vt Q v H' → Post v H') → t E σ H fun vs H1 => r E vs H1 Post := by
  obtain ⟨t, p, s⟩ := hs
  refine ⟨t, p, fun W H Vt n σ ρ E R Q Post S w hp => ?_⟩
  refine s W H Vt n σ ρ E R _ _ S w fun vs H1 ⟨V1, n1, ss, g1, p1, i1, _, w1⟩ => ?_
  obtain ⟨ds, rd, w2⟩ := items_reads i1 w1
  exact hr W H1 V1 n1 σ ρ E R vs ds Q Post (S.grow g1 p1) rd w2 fun v' H' z => hp v' H' (z.grow g1)
theorem star_any : ∀ {es : List Expr} (pos : Pos) (env : Env), es.all noStar = true → (backTo pos (starEach es env)).any (·.1) = false
  | [], _, _, _ => rfl
  | e :: es, pos, env, h => by
    have h' : noStar e = true ∧ es.all noStar = true := by simpa using h
    rw [star_cons h'.1]
    show (false || (backTo pos (starEach es env)).any (·.1)) = false
    rw [star_any pos env h'.2]
    rfl
theorem be_blt {f : Bi} {e : Expr} {es : List Expr} {x : Ex} {pf pos : Pos} (hpl : f.plain = true) (hg : gbl sc (PySem.Str.ofString f.nm) = true) (hn : (e :: es).all noStar = true) (hs : BL Γ sc fnk (e :: es) x) : BE Γ sc fnk (.Call (.Name (PySem.Str.ofString f.nm) pf) (e :: es) [] pos) (.blt f x) := by
  obtain ⟨t, p, s⟩ := all_read (r := fun _ => rBi Γ.K f) (K := fun ds n Q => bltW f ds fun z => Q z n) hs (fun W H Vt n σ ρ E R vs ds Q Post S rd w hp => bi_sem hpl S rd w hp)
  have hn' : noStar e = true ∧ es.all noStar = true := by simpa using hn
  refine ⟨fun E => tCB (rBi Γ.K f) (t E), fun E X g => ?_, s⟩
  have hm : X.mg (PySem.Str.ofString f.nm) = none := g.blt _ (by cases f <;> decide +kernel)
  have hc := call_bi g f hpl
  rw [← g.K]
  by_cases ht : f.isT = true
  · rw [if_pos ht] at hc
    exact pe_callTy hc (gbl_of g hg) hm (by cases f <;> first | decide +kernel | cases ht) (p E X g) (by cases f <;> decide +kernel) (by cases f <;> decide +kernel) (star_cons hn'.1 _) (star_any _ _ hn'.2)
  · rw [if_neg ht] at hc
    exact pe_callB hc (gbl_of g hg) hm (by cases f <;> first | decide +kernel | exact absurd rfl ht | cases hpl) (p E X g) (by cases f <;> decide +kernel) (by cases f <;> decide +kernel) (star_cons hn'.1 _) (star_any _ _ hn'.2)
theorem be_lrange {e : Expr} {x : Ex} {pf pg pos pos2 : Pos} (hg : gbl sc "list" = true) (hg2 : gbl sc "range" = true) (hn : noStar e = true) (he : BE Γ sc fnk e x) :
    BE Γ sc fnk (.Call (.Name "list" pf) [.Call (.Name "range" pg) [e] [] pos2] [] pos) (.blt .lrange (.econs x .enil)) := by
  obtain ⟨ta, pa, sa⟩ := he
  refine ⟨fun E => tLstRg (tRg1 (ta E)), fun E X g => ?_, fun W H Vt n σ ρ E R Q Post S w hp => ?_⟩
  · have hb : X.mg "list" = none := g.blt _ (by decide +kernel)
    have hb2 : X.mg "range" = none := g.blt _ (by decide +kernel)
    exact pe_listRg g.calm (gbl_of g hg) hb (prg_1 (gbl_of g hg2) hb2 (pa E X g) (star_cons hn _)) rfl
  · unfold wpE wpL wpL at w
    refine sa W H Vt n σ ρ E R _ _ S w fun v H1 ⟨V1, n1, s, g1, p1, i1, _, w1⟩ => ?_
    have w1 : s.read fun d => bltW .lrange [d] fun z => Q z n1 := w1
    obtain ⟨d, rd, w2⟩ := i1.read w1
    have S1 := S.grow g1 p1
    cases d with
    | int i =>
      cases rd.int
      obtain ⟨c, w3⟩ := w2
      refine ⟨i, rfl, ⟨by omega, by omega, by omega, by omega, by omega⟩, fun q e => ?_⟩
      refine post_lst S1 (fun v' H' z => hp v' H' (z.grow g1)) (ds := (List.range i.toNat).map fun (k : Nat) => D.int (k : Int)) ?_ w3 q e
      have e1 : rgV 0 i = ((List.range i.toNat).map fun (k : Nat) => (k : Int)).map V.int := by
        unfold rgV
        rw [List.map_map]
        have : (i - 0).toNat = i.toNat := by omega
        rw [this]
        apply List.map_congr_left
        intro k _
        simp
      have e2 : ((List.range i.toNat).map fun (k : Nat) => D.int (k : Int)) = ((List.range i.toNat).map fun (k : Nat) => (k : Int)).map D.int := by rw [List.map_map]; rfl
      rw [e1, e2]
      exact reps_of_ints _
    | _ => exact (show False from w2).elim
end
end Vm
/-! Vm9: methods, calls of defs, comprehensions. -/
namespace Vm
open PySem PySem.Spec L2
section
variable {W W' : Wd} {H H' : Hp} {Vt : Addr → Prop}
theorem FlatVs.length : ∀ {vs : List V} {ds : List D}, FlatVs vs ds → vs.length = ds.length
  | _, _, .nil => rfl
  | _, _, .cons _ r => congrArg (· + 1) r.length
theorem Rds.length : ∀ {vs : List V} {ds : List D}, Rds W H Vt vs ds → vs.length = ds.length
  | _, _, .nil => rfl
  | _, _, .cons _ r => congrArg (· + 1) r.length
/-- what is read, as something that nobody else holds any more -/
theorem rds_reps (hO : ∀ a, W'.O a → W.O a) (hold : ∀ a, W'.old a → W.old a) : ∀ {vs : List V} {ds : List D}, Rds W H Vt vs ds → (∀ a, V.ref a ∈ vs → ¬ W'.O a) → Reps W' H Vt vs ds
  | _, _, .nil, _ => .nil
  | _, _, .cons (v := v) r rs, h => by
    refine .cons ?_ (rds_reps hO hold rs fun a m => h a (List.mem_cons_of_mem _ m))
    have cv : ∀ a o, H a = some o → ¬ W.O a → ¬ Vt a → H a = some o ∧ ¬ W'.O a ∧ ¬ Vt a ∧ (¬ W.old a → ¬ W'.old a) := fun a o e n1 n2 => ⟨e, fun z => n1 (hO a z), n2, fun n z => n (hold a z)⟩
    rcases r with r | r
    · exact r.conv cv fun _ z => z
    · obtain ⟨a, e, _, nv⟩ := r.ref
      subst e
      exact (r.conv (W' := W') cv (fun _ z => z) fun b o _ e n => ⟨e, n, fun n z => n (hold b z)⟩).rep (h a (List.mem_cons_self ..))
theorem items_ref : ∀ {vs : List V} {ss : List Sl}, Items W H' Vt vs ss → YoungAll H vs ss → (∀ a, W.O a → H a ≠ none) → (∀ a, W.O a → ¬ Vt a) → ss.any Sl.isBor = false → ∀ a, V.ref a ∈ vs → ¬ W.O a
  | _, _, .nil, _, _, _, _ => fun a m => by cases m
  | _, _, .cons (v := v) (s := s) (ss := ss) i r, y, hd, hv, nb => fun a m z => by
    rcases List.mem_cons.mp m with e | m
    · subst e
      cases s with
      | dead => exact i.elim
      | bor d => simp [Sl.isBor] at nb
      | dp d => simp [Sl.isBor] at nb
      | bdp d => simp [Sl.isBor] at nb
      | own d => exact hd a z (y.1 d a rfl rfl)
      | pure d =>
        have i' : Rep W H' Vt (.ref a) d := i
        cases i' with
        | lst _ n _ _ _ => exact n z
        | tup _ n _ _ => exact n z
        | dic _ n _ _ _ => exact n z
        | pur n => exact hv a z n
    · have nb' : ss.any Sl.isBor = false := by
        simp only [List.any_cons, Bool.or_eq_false_iff] at nb
        exact nb.2
      exact items_ref r y.2 hd hv nb' a m z
end
section
variable {Γ : Ga} {sc : Scope} {fnk : Str → Bool}
def lend (W : Wd) (vs : List V) : Wd := ⟨fun a => W.O a ∧ V.ref a ∉ vs, W.old⟩
theorem lend_O {W : Wd} {vs : List V} {a : Addr} : (lend W vs).O a ↔ (W.O a ∧ V.ref a ∉ vs) := Iff.rfl
theorem stales_length : ∀ ds : List D, (D.stales ds).length = ds.length
  | [] => rfl
  | _ :: ds => congrArg (· + 1) (stales_length ds)
mutual
theorem Rep.stale {W W' : Wd} {H : Hp} {Vt : Addr → Prop} (hO : ∀ a, W'.O a → W.O a) : ∀ {v : V} {d : D}, Rep W H Vt v d → Rep W' H Vt v d.stale
  | _, _, .non => .non
  | _, _, .bl b => .bl b
  | _, _, .int i => .int i
  | _, _, .str s => .str s
  | _, _, .lst e h1 h2 h3 r => .lst e (fun z => h1 (hO _ z)) h2 (fun z => nomatch z) (Reps.stale hO r)
  | _, _, .tup e h1 h2 r => .tup e (fun z => h1 (hO _ z)) h2 (Reps.stale hO r)
  | _, _, .dic e h1 h2 h3 r => .dic e (fun z => h1 (hO _ z)) h2 (fun z => nomatch z) (Repk.stale hO r)
  | _, _, .pur h => .pur h
theorem Reps.stale {W W' : Wd} {H : Hp} {Vt : Addr → Prop} (hO : ∀ a, W'.O a → W.O a) : ∀ {v : List V} {d : List D}, Reps W H Vt v d → Reps W' H Vt v (D.stales d)
  | _, _, .nil => .nil
  | _, _, .cons r q => .cons (Rep.stale hO r) (Reps.stale hO q)
theorem Repk.stale {W W' : Wd} {H : Hp} {Vt : Addr → Prop} (hO : ∀ a, W'.O a → W.O a) : ∀ {v : List (Key × V)} {d : List (Key × D)}, Repk W H Vt v d → Repk W' H Vt v (D.stalek d)
  | _, _, .nil => .nil
  | _, _, .cons r q => .cons (Rep.stale hO r) (Repk.stale hO q)
end
theorem rds_stale {W W' : Wd} {H : Hp} {Vt : Addr → Prop} (hO : ∀ a, W'.O a → W.O a) : ∀ {vs : List V} {ds : List D}, Rds W H Vt vs ds → (∀ a, V.ref a ∈ vs → ¬ W'.O a) → Reps W' H Vt vs (D.stales ds)
  | _, _, .nil, _ => .nil
  | _, _, .cons (v := v) r rs, h => by
    refine .cons ?_ (rds_stale hO rs fun a m => h a (List.mem_cons_of_mem _ m))
    rcases r with r | r
    · exact r.stale hO
    · cases r with
      | lst e n1 n2 q => exact .lst e (h _ (List.mem_cons_self ..)) n1 (fun z => nomatch z) (q.stale hO)
      | dic e n1 n2 q => exact .dic e (h _ (List.mem_cons_self ..)) n1 (fun z => nomatch z) (q.stale hO)
mutual
theorem Rep.freshen {W W' : Wd} {H : Hp} {Vt : Addr → Prop} (hF : ∀ a, ¬ W'.old a → ¬ W.O a ∧ ¬ W.old a) (hT : ∀ a vs, H a = some (.tup vs) → ¬ W'.O a → ¬ W.O a) : ∀ {v : V} {d : D}, Rep W' H Vt v d → d.fresh = true → Rep W H Vt v d
  | _, _, .non, _ => .non
  | _, _, .bl b, _ => .bl b
  | _, _, .int i, _ => .int i
  | _, _, .str s, _ => .str s
  | _, .lst t ds, .lst e h1 h2 h3 r, f => by
    have f : t = true ∧ D.freshs ds = true := by simpa [D.fresh] using f
    exact .lst e (hF _ (h3 f.1)).1 h2 (fun _ => (hF _ (h3 f.1)).2) (Reps.freshen hF hT r f.2)
  | _, .tup ds, .tup e h1 h2 r, f => .tup e (hT _ _ e h1) h2 (Reps.freshen hF hT r f)
  | _, .dic t ds, .dic e h1 h2 h3 r, f => by
    have f : t = true ∧ D.freshk ds = true := by simpa [D.fresh] using f
    exact .dic e (hF _ (h3 f.1)).1 h2 (fun _ => (hF _ (h3 f.1)).2) (Repk.freshen hF hT r f.2)
  | _, _, .pur h, _ => .pur h
theorem Reps.freshen {W W' : Wd} {H : Hp} {Vt : Addr → Prop} (hF : ∀ a, ¬ W'.old a → ¬ W.O a ∧ ¬ W.old a) (hT : ∀ a vs, H a = some (.tup vs) → ¬ W'.O a → ¬ W.O a) : ∀ {v : List V} {d : List D}, Reps W' H Vt v d → D.freshs d = true → Reps W H Vt v d
  | _, _, .nil, _ => .nil
  | _, d :: ds, .cons r q, f => by
    have f : d.fresh = true ∧ D.freshs ds = true := by simpa [D.freshs] using f
    exact .cons (Rep.freshen hF hT r f.1) (Reps.freshen hF hT q f.2)
theorem Repk.freshen {W W' : Wd} {H : Hp} {Vt : Addr → Prop} (hF : ∀ a, ¬ W'.old a → ¬ W.O a ∧ ¬ W.old a) (hT : ∀ a vs, H a = some (.tup vs) → ¬ W'.O a → ¬ W.O a) : ∀ {v : List (Key × V)} {d : List (Key × D)}, Repk W' H Vt v d → D.freshk d = true → Repk W H Vt v d
  | _, _, .nil, _ => .nil
  | _, (k, d) :: ds, .cons r q, f => by
    have f : d.fresh = true ∧ D.freshk ds = true := by simpa [D.freshk] using f
    exact .cons (Rep.freshen hF hT r f.1) (Repk.freshen hF hT q f.2)
end
theorem sees_reads : ∀ {ss : List Sl} {Q : List D → Prop}, ss.any Sl.isBor = false → sees ss Q → reads ss Q
  | [], _, _, w => w
  | .dead :: _, _, _, w => w
  | .pure d :: ss, _, h, w => sees_reads (ss := ss) (by simpa [Sl.isBor] using h) w
  | .own d :: ss, _, h, w => sees_reads (ss := ss) (by simpa [Sl.isBor] using h) w
  | .bor d :: ss, _, h, w => by simp [Sl.isBor] at h
  | .dp d :: ss, _, h, w => by simp [Sl.isBor] at h
  | .bdp d :: ss, _, h, w => by simp [Sl.isBor] at h
/-- behind the arguments of a call -/
theorem call_sem {f m : Nat} (har : Γ.ar f m = true) {W : Wd} {H H1 : Hp} {Vt V1 : Addr → Prop} {n n1 : Nat} {σ : L2.St} {ρ : List Sl} {E : XK} {R : RK} {Q : Sl → Nat → Prop} {Post : VK} {vs : List V} {ss : List Sl}
    (S : Sit Γ W H Vt n σ ρ E R) (g1 : Grow H Vt H1 V1) (p1 : ∀ a, V1 a → PurseAt n1 H1 a) (i1 : Items W H1 V1 vs ss) (y1 : YoungAll H vs ss) (hm : vs.length = m)
    (w : sees ss fun ds => Γ.Ψ f (lentD (ss.any Sl.isBor) ds) n1 (fun d n2 => (ss.any Sl.isBor = true → d.fresh = true) ∧ Q (.pure d) n2) (fun c pl m => (ss.any Sl.isBor = true → pl.flat = true) ∧ R c pl m))
    (hp : ∀ v' H', EPost W H Vt Q v' H' → Post v' H') : spB Γ.cl (Γ.fi f m).np (Γ.fi f m).sem (vs ++ (Γ.fi f m).dvs) H1 Post E := by
  obtain ⟨hfl, hlen, hsem⟩ := Γ.fiOk f m har
  have S1 := S.grow g1 p1
  cases hb : ss.any Sl.isBor with
  | false =>
    obtain ⟨ds, rd, w2⟩ := items_reads i1 (sees_reads hb w)
    have hdl : ds.length = m := by rw [← rd.length]; exact hm
    rw [hb] at w2
    have no := items_ref i1 (W := W) (Vt := V1) (H := H) y1 S.est.oDom S1.est.oV hb
    refine ⟨by rw [List.length_append, hm, hfl.length]; exact hlen, lend W vs, V1, n1, ds ++ (Γ.fi f m).dD, ⟨fun a z => S1.est.oDom a (lend_O.mp z).1, S1.est.oldDom, S1.est.pur, fun a z => S1.est.oV a (lend_O.mp z).1⟩, ?_, _, _, hsem ds n1 _ _ hdl w2, ?_, ?_⟩
    · exact (rds_reps (W := W) (W' := lend W vs) (fun a z => (lend_O.mp z).1) (fun a z => z) rd fun a m z => (lend_O.mp z).2 m).append hfl.reps
    · intro v H' Vt' n' d g2 p2 r q
      refine hp v H' ⟨Vt', n', .pure d, g1.trans g2, p2, ?_, (fun _ _ z _ => nomatch z), q.2⟩
      exact r.conv (fun a o e n1 n2 => ⟨e, fun z => n1 (lend_O.mpr ⟨z, fun m => no a m z⟩), n2, fun z => z⟩) fun _ z => z
    · intro C pl n' c dd H' x q
      refine S1.exc C pl n' c dd H' ?_ q.2
      obtain ⟨Vt', b, v, g2, p2, e1, e2, e3, r⟩ := x
      exact ⟨Vt', b, v, g2, p2, e1, e2, e3, r.conv (fun a o e n1 n2 => ⟨e, fun z => n1 (lend_O.mpr ⟨z, fun m => no a m z⟩), n2, fun z => z⟩) fun _ z => z⟩
  | true =>
    obtain ⟨ds, rd, w2⟩ := items_see i1 w
    have hdl : ds.length = m := by rw [← rd.length]; exact hm
    rw [hb] at w2
    have w3 : Γ.Ψ f (D.stales ds) n1 (fun d n2 => (true = true → d.fresh = true) ∧ Q (.pure d) n2) (fun c pl m => (true = true → pl.flat = true) ∧ R c pl m) := w2
    let W' : Wd := ⟨(noL W H1).O, fun a => H1 a ≠ none⟩
    refine ⟨by rw [List.length_append, hm, hfl.length]; exact hlen, W', V1, n1, D.stales ds ++ (Γ.fi f m).dD, ⟨fun a z => S1.est.oDom a z.1, fun a z => z, S1.est.pur, fun a z => S1.est.oV a z.1⟩, ?_, _, _, hsem (D.stales ds) n1 _ _ (by rw [stales_length]; exact hdl) w3, ?_, ?_⟩
    · exact (Reps.stale (W := noL W H1) (W' := W') (fun a z => z) rd).append hfl.reps
    · intro v H' Vt' n' d g2 p2 r q
      refine hp v H' ⟨Vt', n', .pure d, g1.trans g2, p2, ?_, (fun _ _ z _ => nomatch z), q.2⟩
      refine Rep.freshen (W' := W') (fun a z => ?_) (fun a us e no z => no ⟨z, ?_⟩) r (q.1 rfl)
      · have hn : H1 a = none := Classical.byContradiction fun q => z q
        exact ⟨fun y => S1.est.oDom a y hn, fun y => S1.est.oldDom a y hn⟩
      · cases e1 : H1 a with
        | none => exact absurd e1 (S1.est.oDom a z)
        | some o =>
          have := g2.keep a _ e1 (S1.est.oV a z)
          rw [e] at this
          exact ⟨us, this.symm⟩
    · intro C pl n' c dd H' x q
      refine S1.exc C pl n' c dd H' ?_ q.2
      obtain ⟨Vt', b, v, g2, p2, e1, e2, e3, r⟩ := x
      exact ⟨Vt', b, v, g2, p2, e1, e2, e3, r.ofFlat (q.1 rfl)⟩
theorem items_length {W : Wd} {H : Hp} {Vt : Addr → Prop} : ∀ {vs : List V} {ss : List Sl}, Items W H Vt vs ss → vs.length = ss.length
  | _, _, .nil => rfl
  | _, _, .cons _ r => congrArg (· + 1) (items_length r)
def Ex.size : Ex → Nat
  | .econs _ es => es.size + 1
  | _ => 0
theorem wpL_size {Ψ : Nat → FnSem} (hΨ : MonoF Ψ) {R : RK} : ∀ {x : Ex} {ρ : List Sl} {n : Nat} {Q : List Sl → Nat → Prop}, wpL Ψ x R ρ n Q → wpL Ψ x R ρ n (fun ss m => ss.length = x.size ∧ Q ss m) := by
  intro x
  induction x with
  | enil => intro ρ n Q w; unfold wpL at w ⊢; exact ⟨rfl, w⟩
  | econs e es _ ih =>
    intro ρ n Q w
    unfold wpL at w ⊢
    exact wpE_mono hΨ (fun s m q => wpL_mono hΨ (fun ss k z => ⟨by rw [List.length_cons, z.1]; rfl, z.2⟩) (ih q)) w
  | _ => intro ρ n Q w; unfold wpL at w; exact w.elim
/-- a def of the table, called -/
theorem be_call {f : Nat} {xf : Str} {e : Expr} {es : List Expr} {x : Ex} {pf pos : Pos} (hT : Γ.T[f]? = some xf) (hsz : x.size = es.length + 1) (har : Γ.ar f (es.length + 1) = true) (hg : gbl sc xf = true) (hd : (xf == ("__debug__" : Str)) = false) (hn : (e :: es).all noStar = true) (hs : BL Γ sc fnk (e :: es) x) :
    BE Γ sc fnk (.Call (.Name xf pf) (e :: es) [] pos) (.call f x) := by
  obtain ⟨t, p, s⟩ := hs
  refine ⟨fun E => tCall (spB Γ.cl (Γ.fi f (es.length + 1)).np (Γ.fi f (es.length + 1)).sem) (Γ.fi f (es.length + 1)).dvs E (t E), fun E X g => ?_, fun W H Vt n σ ρ E R Q Post S w hp => ?_⟩
  · obtain ⟨a, fd, ps, ds, F, hm, hk, hb, hv⟩ := (g.fns f xf _ hT har).ex
    have hn' : noStar e = true ∧ es.all noStar = true := by simpa using hn
    exact pe_call F g.room (gbl_of g hg) hm hk hb hv g.pas (p E X g) hd (star_cons hn'.1 _) (star_any _ _ hn'.2)
  · unfold wpE at w
    refine s W H Vt n σ ρ E R _ _ S (wpL_size Γ.mono w) fun vs H1 ⟨V1, n1, ss, g1, p1, i1, y1, hl, w1⟩ => ?_
    exact call_sem har S g1 p1 i1 y1 (by rw [items_length i1, hl, hsz]) w1 hp
theorem be_call0 {f : Nat} {xf : Str} {pf pos : Pos} (hT : Γ.T[f]? = some xf) (har : Γ.ar f 0 = true) (hg : gbl sc xf = true) (hd : (xf == ("__debug__" : Str)) = false) :
    BE Γ sc fnk (.Call (.Name xf pf) [] [] pos) (.call f .enil) := by
  refine ⟨fun E => tCall (spB Γ.cl (Γ.fi f 0).np (Γ.fi f 0).sem) (Γ.fi f 0).dvs E tNil, fun E X g => ?_, fun W H Vt n σ ρ E R Q Post S w hp => ?_⟩
  · obtain ⟨a, fd, ps, ds, F, hm, hk, hb, hv⟩ := (g.fns f xf _ hT har).ex
    exact pe_call0 F g.room (gbl_of g hg) hm hk hb hv g.pas hd
  · unfold wpE wpL at w
    exact call_sem har S Grow.refl S.est.pur .nil True.intro rfl w hp
end
end Vm
/-! Vm10: targets, what is walked. -/
namespace Vm
open PySem PySem.Spec L2

/-! ### targets -/
mutual
def Tg.vars : Tg → List Nat
  | .nm i => [i] | .tup t => t.varss | .tnil => [] | .tcons _ _ => []
def Tg.varss : Tg → List Nat
  | .tnil => [] | .tcons a b => a.vars ++ b.varss | .nm _ => [] | .tup _ => []
end
/-- slots other than these are as they were -/
def SameBut (is : List Nat) (σ σ' : L2.St) : Prop := σ'.length = σ.length ∧ ∀ j : Nat, j ∉ is → σ'[j]? = σ[j]?
theorem SlotsOk.set {W : Wd} {H : Hp} {Vt : Addr → Prop} {σ : L2.St} {ρ : List Sl} (s : SlotsOk W H Vt σ ρ) {v : V} {d : D} (r : Rep W H Vt v d) (i : Nat) : SlotsOk W H Vt (σ.set i (some v)) (ρ.set i (.pure d)) where
  len := by rw [List.length_set, List.length_set]; exact s.len
  get := fun j z e ne => by
    by_cases h : i = j
    · subst h
      have hl : i < ρ.length := by
        have := (List.getElem?_eq_some_iff.mp e).1
        simpa using this
      rw [List.getElem?_set_self hl] at e
      cases e
      exact ⟨v, List.getElem?_set_self (by rw [s.len]; exact hl), r⟩
    · rw [List.getElem?_set_ne h] at e
      rw [List.getElem?_set_ne h]
      exact s.get j z e ne
  own := fun j d' a e1 e2 => by
    by_cases h : i = j
    · subst h
      have hl : i < ρ.length := by
        have := (List.getElem?_eq_some_iff.mp e1).1
        simpa using this
      rw [List.getElem?_set_self hl] at e1
      cases e1
    · rw [List.getElem?_set_ne h] at e1 e2
      exact s.own j d' a e1 e2
  inj := fun j k a d1 d2 e1 e2 e3 e4 => by
    have nj : i ≠ j := fun h => by
      subst h
      have hl : i < ρ.length := by
        have := (List.getElem?_eq_some_iff.mp e1).1
        simpa using this
      rw [List.getElem?_set_self hl] at e1
      cases e1
    have nk : i ≠ k := fun h => by
      subst h
      have hl : i < ρ.length := by
        have := (List.getElem?_eq_some_iff.mp e2).1
        simpa using this
      rw [List.getElem?_set_self hl] at e2
      cases e2
    rw [List.getElem?_set_ne nj] at e1 e3
    rw [List.getElem?_set_ne nk] at e2 e4
    exact s.inj j k a d1 d2 e1 e2 e3 e4
theorem SlotsOk.dead {W : Wd} {H : Hp} {Vt : Addr → Prop} {σ : L2.St} {ρ : List Sl} (s : SlotsOk W H Vt σ ρ) (i : Nat) (o : Option V) : SlotsOk W H Vt (σ.set i o) (ρ.set i .dead) where
  len := by rw [List.length_set, List.length_set]; exact s.len
  get := fun j z e ne => by
    by_cases h : i = j
    · subst h
      have hl : i < ρ.length := by
        have := (List.getElem?_eq_some_iff.mp e).1
        simpa using this
      rw [List.getElem?_set_self hl] at e
      cases e
      exact absurd rfl ne
    · rw [List.getElem?_set_ne h] at e
      rw [List.getElem?_set_ne h]
      exact s.get j z e ne
  own := fun j d' a e1 e2 => by
    by_cases h : i = j
    · subst h
      have hl : i < ρ.length := by
        have := (List.getElem?_eq_some_iff.mp e1).1
        simpa using this
      rw [List.getElem?_set_self hl] at e1
      cases e1
    · rw [List.getElem?_set_ne h] at e1 e2
      exact s.own j d' a e1 e2
  inj := fun j k a d1 d2 e1 e2 e3 e4 => by
    have nj : i ≠ j := fun h => by
      subst h
      have hl : i < ρ.length := by
        have := (List.getElem?_eq_some_iff.mp e1).1
        simpa using this
      rw [List.getElem?_set_self hl] at e1
      cases e1
    have nk : i ≠ k := fun h => by
      subst h
      have hl : i < ρ.length := by
        have := (List.getElem?_eq_some_iff.mp e2).1
        simpa using this
      rw [List.getElem?_set_self hl] at e2
      cases e2
    rw [List.getElem?_set_ne nj] at e1 e3
    rw [List.getElem?_set_ne nk] at e2 e4
    exact s.inj j k a d1 d2 e1 e2 e3 e4
theorem SlotsOk.wipe {W : Wd} {H : Hp} {Vt : Addr → Prop} {σ : L2.St} {ρ : List Sl} (s : SlotsOk W H Vt σ ρ) : ∀ vs : List Nat, SlotsOk W H Vt (wipe σ vs) (wipeS ρ vs)
  | [] => s
  | v :: vs => (SlotsOk.wipe s vs).dead v none
theorem wipe_same {is : List Nat} {σ σ' : L2.St} : ∀ {vs : List Nat}, SameBut is σ σ' → (∀ i ∈ is, i ∈ vs) → wipe σ' vs = wipe σ vs := by
  intro vs h hs
  have key : ∀ (vs : List Nat) (σ : L2.St) (j : Nat), (wipe σ vs)[j]? = if j ∈ vs then (if j < σ.length then some none else none) else σ[j]? := by
    intro vs
    induction vs with
    | nil => intro σ j; simp [wipe]
    | cons v vs ih =>
      intro σ j
      unfold L2.wipe
      by_cases e : v = j
      · subst e
        by_cases hl : v < σ.length
        · rw [List.getElem?_set_self (by rw [wipe_length]; exact hl)]
          simp [hl]
        · rw [List.getElem?_eq_none (by rw [List.length_set, wipe_length]; omega)]
          simp [hl]
      · rw [List.getElem?_set_ne e, ih]
        have : (j ∈ v :: vs) = (j ∈ vs) := by simp [Ne.symm e]
        simp only [this]
  refine List.ext_getElem? fun j => ?_
  rw [key, key, h.1]
  split
  · rfl
  · rename_i hj
    exact h.2 j fun m => hj (hs j m)
section
variable {Γ : Ga} {sc : Scope} {fnk : Str → Bool}
def BG (Γ : Ga) (sc : Scope) (fnk : Str → Bool) (e : Expr) (t : Tg) : Prop :=
  ∃ g : TG, (∀ E X, Good Γ sc fnk E X → PG X e g) ∧
    ∀ (W : Wd) (H : Hp) (Vt : Addr → Prop) (σ : L2.St) (ρ : List Sl) (v : V) (d : D) (Q : List Sl → Prop) (Post : L2.St → Hp → Prop), SlotsOk W H Vt σ ρ → Rep W H Vt v d → tgW t d ρ Q →
      (∀ σ' ρ', SlotsOk W H Vt σ' ρ' → SameBut t.vars σ σ' → Q ρ' → Post σ' H) → g v σ H Post
def Tg.len : Tg → Nat
  | .tcons _ b => b.len + 1 | _ => 0
def BGs (Γ : Ga) (sc : Scope) (fnk : Str → Bool) (es : List Expr) (t : Tg) : Prop :=
  es.length = t.len ∧ ∃ g : TGs, (∀ E X, Good Γ sc fnk E X → PGs X es g) ∧
    ∀ (W : Wd) (H : Hp) (Vt : Addr → Prop) (σ : L2.St) (ρ : List Sl) (vs : List V) (ds : List D) (Q : List Sl → Prop) (Post : L2.St → Hp → Prop), SlotsOk W H Vt σ ρ → Reps W H Vt vs ds → tgsW t ds ρ Q →
      (∀ σ' ρ', SlotsOk W H Vt σ' ρ' → SameBut t.varss σ σ' → Q ρ' → Post σ' H) → g vs σ H Post
mutual
theorem tgW_ex : ∀ {t : Tg} {d : D} {ρ : List Sl} {Q : List Sl → Prop}, tgW t d ρ Q → ∃ ρ', Q ρ'
  | .nm _, _, _, _, w => ⟨_, w⟩
  | .tup t, d, _, _, w => by
    unfold tgW at w
    split at w
    · exact tgsW_ex w
    · exact w.elim
  | .tnil, _, _, _, w => by unfold tgW at w; exact w.elim
  | .tcons _ _, _, _, _, w => by unfold tgW at w; exact w.elim
theorem tgsW_ex : ∀ {t : Tg} {ds : List D} {ρ : List Sl} {Q : List Sl → Prop}, tgsW t ds ρ Q → ∃ ρ', Q ρ'
  | .tnil, _, _, _, w => ⟨_, w.2⟩
  | .tcons a b, ds, _, _, w => by
    unfold tgsW at w
    split at w
    · obtain ⟨_, w⟩ := tgW_ex w
      exact tgsW_ex w
    · exact w.elim
  | .nm _, _, _, _, w => by unfold tgsW at w; exact w.elim
  | .tup _, _, _, _, w => by unfold tgsW at w; exact w.elim
end
theorem tgsW_len : ∀ {t : Tg} {ds : List D} {ρ : List Sl} {Q : List Sl → Prop}, tgsW t ds ρ Q → ds.length = t.len
  | .tnil, _, _, _, w => by rw [w.1]; rfl
  | .tcons a b, ds, _, _, w => by
    unfold tgsW at w
    split at w
    · obtain ⟨_, w⟩ := tgW_ex w
      rw [List.length_cons, tgsW_len w]; rfl
    · exact w.elim
  | .nm _, _, _, _, w => by unfold tgsW at w; exact w.elim
  | .tup _, _, _, _, w => by unfold tgsW at w; exact w.elim
def locB (sc : Scope) (fnk : Str → Bool) (x : Str) : Bool := match sc.names.lookup x with | some .local => true | some .cell => fnk x | _ => false
theorem loc_of {x : Str} {E : XK} {X : Cx} (g : Good Γ sc fnk E X) (h : locB sc fnk x = true) : L2.Loc X.env.scope x ∧ (X.fn x = true ∨ X.env.scope.names.lookup x = some .local) := by
  unfold locB at h
  rw [g.sc, g.fn]
  unfold L2.Loc
  split at h
  · rename_i e; exact ⟨.inl e, .inr e⟩
  · rename_i e; exact ⟨.inr e, .inl h⟩
  · cases h
theorem bg_nm {i : Nat} {x : Str} {pos : Pos} (hN : Γ.N[i]? = some x) (hl : locB sc fnk x = true) : BG Γ sc fnk (.Name x pos) (.nm i) := by
  refine ⟨gName i, fun E X g => ?_, fun W H Vt σ ρ v d Q Post s r w hp => ?_⟩
  · obtain ⟨a, b⟩ := loc_of g hl
    exact pg_name g.nd (by rw [g.N]; exact hN) a b
  · exact hp _ _ (s.set r i) ⟨List.length_set .., fun j hj => List.getElem?_set_ne (fun e => hj (by simp [Tg.vars, e]))⟩ w
def notStarT : Expr → Bool
  | .Starred _ _ => false | _ => true
theorem asg_each {e : Expr} {es : List Expr} (h : notStarT e = true) (env : Env) : assignEach (e :: es) env = (false, assign e env) :: assignEach es env := by
  cases e <;> first | rfl | cases h
theorem bgs_nil : BGs Γ sc fnk [] .tnil := by
  refine ⟨rfl, gNil, fun _ _ _ => pgs_nil, fun W H Vt σ ρ vs ds Q Post s r w hp => ?_⟩
  obtain ⟨rfl, w⟩ := w
  cases r
  exact ⟨rfl, hp σ ρ s ⟨rfl, fun _ _ => rfl⟩ w⟩
theorem bgs_cons {e : Expr} {es : List Expr} {a b : Tg} (h : notStarT e = true) (he : BG Γ sc fnk e a) (hs : BGs Γ sc fnk es b) : BGs Γ sc fnk (e :: es) (.tcons a b) := by
  obtain ⟨g1, p1, s1⟩ := he
  obtain ⟨hl, g2, p2, s2⟩ := hs
  refine ⟨by rw [List.length_cons, hl]; rfl, gCons g1 g2, fun E X g => pgs_cons (p1 E X g) (p2 E X g) (by rw [asg_each h]; rfl), fun W H Vt σ ρ vs ds Q Post s r w hp => ?_⟩
  cases r with
  | nil => unfold tgsW at w; exact w.elim
  | @cons v vs d ds rv rs =>
    unfold tgsW at w
    refine ⟨v, vs, rfl, ?_⟩
    refine s1 W H Vt σ ρ v d _ _ s rv w fun σ' ρ' s' sb q => ?_
    refine s2 W H Vt σ' ρ' vs ds Q _ s' rs q fun σ2 ρ2 s3 sb2 q2 => ?_
    refine hp σ2 ρ2 s3 ⟨sb2.1.trans sb.1, fun j hj => ?_⟩ q2
    have h1 : j ∉ a.vars ∧ j ∉ b.varss := by simpa [Tg.varss] using hj
    exact (sb2.2 j h1.2).trans (sb.2 j h1.1)
theorem each_len : ∀ (es : List Expr) (env : Env), (assignEach es env).length = es.length
  | [], _ => rfl
  | e :: es, env => by
    cases e <;> (show (assignEach es env).length + 1 = es.length + 1; rw [each_len es env])
theorem each_star : ∀ {es : List Expr} (env : Env), es.all notStarT = true → (assignEach es env).findIdx? (·.1) = none
  | [], _, _ => rfl
  | e :: es, env, h => by
    have h' : notStarT e = true ∧ es.all notStarT = true := by simpa using h
    rw [asg_each h'.1, List.findIdx?_cons, each_star env h'.2]
    rfl
theorem bg_tup {es : List Expr} {t : Tg} {k : Nat} {pos : Pos} (hst : es.all notStarT = true) (hs : BGs Γ sc fnk es t) : BG Γ sc fnk (.Tuple es k pos) (.tup t) := by
  obtain ⟨hl, g, p, s⟩ := hs
  refine ⟨gTup Γ.K es.length g, fun E X gd => by rw [← gd.K]; exact pg_tup gd.calm (p E X gd) (each_len es _) (each_star _ hst), fun W H Vt σ ρ v d Q Post sl r w hp => ?_⟩
  cases d with
  | tup ds =>
    cases r with
    | @tup a vs _ e _ _ q =>
      have w : tgsW t ds ρ Q := w
      exact ⟨a, vs, rfl, SqT.of e, by rw [q.length, tgsW_len w, hl], s W H Vt σ ρ vs ds Q Post sl q w hp⟩
  | _ => exact (show False from w).elim
end

/-! ### what is walked -/
/-- the turns are the items xs, whatever the heap grows to -/
structure Src (vs : List V) (ds xs : List D) (J : It) : Prop where
  ex : ∃ (G : Hp → Prop) (Y : Nat → Hp → V → Hp → Prop), Walk J xs.length G Y ∧ (∀ W H Vt, Rds W H Vt vs ds → G H) ∧
    ∀ W H Vt n i x H', ESt W H Vt n → Rds W H Vt vs ds → i < xs.length → Y i H x H' → ∃ d, xs[i]? = some d ∧ Rep W H' Vt x d ∧ Grow H Vt H' Vt ∧ ESt W H' Vt n
theorem Rd0.lstAt {W : Wd} {H : Hp} {Vt : Addr → Prop} {a : Addr} {t : Bool} {ds : List D} (r : Rd0 W H Vt (.ref a) (.lst t ds)) : ∃ vs, H a = some (.lst vs) ∧ Reps W H Vt vs ds := by
  obtain ⟨b, vs, e, h, q⟩ := r.lst
  cases e
  exact ⟨vs, h, q⟩
theorem Rd0.tupAt {W : Wd} {H : Hp} {Vt : Addr → Prop} {a : Addr} {ds : List D} (r : Rd0 W H Vt (.ref a) (.tup ds)) : ∃ vs, H a = some (.tup vs) ∧ Reps W H Vt vs ds := by
  obtain ⟨b, vs, e, h, q⟩ := r.tup
  cases e
  exact ⟨vs, h, q⟩
theorem sqL_inj {K : PySem.W.Frag} {H : Hp} {a : Addr} {xs ys : List V} (h : H a = some (.lst xs)) (hh : H a = some (.lst ys)) : xs = ys := by
  rw [h] at hh; cases hh; rfl
/-- a walk over a list whose length alone is known -/
theorem src_list {K : PySem.W.Frag} {a : Addr} {t : Bool} {xs : List D} : Src [.ref a] [.lst t xs] xs (Itl K a) := by
  refine ⟨fun H => ∃ vs, H a = some (.lst vs) ∧ vs.length = xs.length, fun i H x H' => H' = H ∧ ∃ vs, H a = some (.lst vs) ∧ vs[i]? = some x, ⟨fun i H hi h => ?_, fun H h => ?_, fun i H x H' hi h y => ?_⟩, fun W H Vt r => ?_, fun W H Vt n i x H' e r hi y => ?_⟩
  · obtain ⟨vs, h, l⟩ := h
    exact ⟨vs, vs[i]'(by omega), SqL.of h, by simp [show i < vs.length by omega]⟩
  · obtain ⟨vs, h, l⟩ := h
    exact ⟨vs, SqL.of h, by omega⟩
  · obtain ⟨vs, h, l⟩ := h
    exact ⟨y.1, vs, h, y.2 vs (SqL.of h)⟩
  · cases r with
    | cons r _ =>
      obtain ⟨vs, h, q⟩ := r.lstAt
      exact ⟨vs, h, q.length⟩
  · cases r with
    | cons r _ =>
      obtain ⟨rfl, vs, h, q⟩ := y
      obtain ⟨us, h2, rr⟩ := r.lstAt
      rw [h] at h2; cases h2
      obtain ⟨d, e1, e2⟩ := rr.get q
      exact ⟨d, e1, e2, Grow.refl, e⟩
theorem src_tup {K : PySem.W.Frag} {a : Addr} {xs : List D} : Src [.ref a] [.tup xs] xs (Itt K a) := by
  refine ⟨fun H => ∃ vs, H a = some (.tup vs) ∧ vs.length = xs.length, fun i H x H' => H' = H ∧ ∃ vs, H a = some (.tup vs) ∧ vs[i]? = some x, ⟨fun i H hi h => ?_, fun H h => ?_, fun i H x H' hi h y => ?_⟩, fun W H Vt r => ?_, fun W H Vt n i x H' e r hi y => ?_⟩
  · obtain ⟨vs, h, l⟩ := h
    exact ⟨vs, vs[i]'(by omega), SqT.of h, by simp [show i < vs.length by omega]⟩
  · obtain ⟨vs, h, l⟩ := h
    exact ⟨vs, SqT.of h, by omega⟩
  · obtain ⟨vs, h, l⟩ := h
    exact ⟨y.1, vs, h, y.2 vs (SqT.of h)⟩
  · cases r with
    | cons r _ =>
      obtain ⟨vs, h, q⟩ := r.tupAt
      exact ⟨vs, h, q.length⟩
  · cases r with
    | cons r _ =>
      obtain ⟨rfl, vs, h, q⟩ := y
      obtain ⟨us, h2, rr⟩ := r.tupAt
      rw [h] at h2; cases h2
      obtain ⟨d, e1, e2⟩ := rr.get q
      exact ⟨d, e1, e2, Grow.refl, e⟩
theorem src_range {lo : Int} {n : Nat} {vs : List V} {ds : List D} : Src vs ds ((List.range n).map fun (i : Nat) => D.int (lo + (i : Int))) (Itr lo n) := by
  refine ⟨fun _ => True, fun i H x H' => H' = H ∧ x = .int (lo + i), ?_, fun _ _ _ _ => True.intro, fun W H Vt m i x H' e r hi y => ?_⟩
  · have h : Walk (Itr lo n) n (fun _ => True) (YFn fun i => .int (lo + i)) := walk_range
    rw [List.length_map, List.length_range]
    exact ⟨h.goes, h.stops, h.yields⟩
  · obtain ⟨rfl, rfl⟩ := y
    rw [List.length_map, List.length_range] at hi
    exact ⟨.int (lo + i), by simp [hi], .int _, Grow.refl, e⟩
theorem src_enum {K : PySem.W.Frag} {a : Addr} {t : Bool} {xs : List D} : Src [.ref a] [.lst t xs] (xs.mapIdx fun i x => pairD (.int (i : Int)) x) (Ite K a) := by
  refine ⟨fun H => ∃ vs, H a = some (.lst vs) ∧ vs.length = xs.length, fun i H v H' => ∃ T x vs, v = .ref T ∧ H T = none ∧ H' = upd H T (.tup [.int (i : Nat), x]) ∧ H a = some (.lst vs) ∧ vs[i]? = some x, ⟨fun i H hi h => ?_, fun H h => ?_, fun i H x H' hi h y => ?_⟩, fun W H Vt r => ?_, fun W H Vt n i x H' e r hi y => ?_⟩
  · obtain ⟨vs, h, l⟩ := h
    rw [List.length_mapIdx] at hi
    exact ⟨vs, vs[i]'(by omega), SqL.of h, by simp [show i < vs.length by omega]⟩
  · obtain ⟨vs, h, l⟩ := h
    rw [List.length_mapIdx]
    exact ⟨vs, SqL.of h, by omega⟩
  · obtain ⟨vs, h, l⟩ := h
    obtain ⟨T, x, h1, h2, h3, h4⟩ := y
    exact ⟨T, x, vs, h1, h2, h3, h, h4 vs (SqL.of h)⟩
  · cases r with
    | cons r _ =>
      obtain ⟨vs, h, q⟩ := r.lstAt
      exact ⟨vs, h, q.length⟩
  · cases r with
    | cons r _ =>
      obtain ⟨T, x, vs, rfl, hT, rfl, h, q⟩ := y
      obtain ⟨us, h2, rr⟩ := r.lstAt
      rw [h] at h2; cases h2
      obtain ⟨d, e1, e2⟩ := rr.get q
      have g : Grow H Vt (upd H T (.tup [.int (i : Nat), x])) Vt := Grow.upd hT
      refine ⟨pairD (.int (i : Int)) d, by simp [e1], .tup upd_same (fun z => e.oDom T z hT) (fun z => (e.pur T z).dom hT) (.cons (.int _) (.cons (e2.grow g) .nil)), g, e.upd hT⟩
theorem src_zipL {K : PySem.W.Frag} {a b : Addr} {t t' : Bool} {xs ys : List D} : Src [.ref a, .ref b] [.lst t xs, .lst t' ys] (List.zipWith pairD xs ys) (Itz K a b) := by
  refine ⟨fun H => ∃ vs us, H a = some (.lst vs) ∧ vs.length = xs.length ∧ H b = some (.lst us) ∧ us.length = ys.length,
    fun i H v H' => ∃ T x y vs us, v = .ref T ∧ H T = none ∧ H' = upd H T (.tup [x, y]) ∧ H a = some (.lst vs) ∧ vs[i]? = some x ∧ H b = some (.lst us) ∧ us[i]? = some y, ⟨fun i H hi h => ?_, fun H h => ?_, fun i H x H' hi h y => ?_⟩, fun W H Vt r => ?_, fun W H Vt n i x H' e r hi y => ?_⟩
  · obtain ⟨vs, us, h, l, h', l'⟩ := h
    rw [List.length_zipWith] at hi
    exact ⟨vs, us, vs[i]'(by omega), us[i]'(by omega), SqL.of h, SqL.of h', by simp [show i < vs.length by omega], by simp [show i < us.length by omega]⟩
  · obtain ⟨vs, us, h, l, h', l'⟩ := h
    rw [List.length_zipWith]
    exact ⟨vs, us, SqL.of h, SqL.of h', by omega⟩
  · obtain ⟨vs, us, h, l, h', l'⟩ := h
    obtain ⟨T, x, z, h1, h2, h3, h4, h5⟩ := y
    exact ⟨T, x, z, vs, us, h1, h2, h3, h, h4 vs (SqL.of h), h', h5 us (SqL.of h')⟩
  · cases r with
    | cons r r' =>
      cases r' with
      | cons r' _ =>
        obtain ⟨vs, h, q⟩ := r.lstAt
        obtain ⟨us, h', q'⟩ := r'.lstAt
        exact ⟨vs, us, h, q.length, h', q'.length⟩
  · cases r with
    | cons r r' =>
      cases r' with
      | cons r' _ =>
        obtain ⟨T, x, z, vs, us, rfl, hT, rfl, h, q, h', q'⟩ := y
        obtain ⟨_, h2, rr⟩ := r.lstAt
        rw [h] at h2; cases h2
        obtain ⟨_, h2, rr'⟩ := r'.lstAt
        rw [h'] at h2; cases h2
        obtain ⟨d, e1, e2⟩ := rr.get q
        obtain ⟨d', e1', e2'⟩ := rr'.get q'
        have g : Grow H Vt (upd H T (.tup [x, z])) Vt := Grow.upd hT
        refine ⟨pairD d d', by rw [List.getElem?_zipWith, e1, e1'], .tup upd_same (fun z => e.oDom T z hT) (fun z => (e.pur T z).dom hT) (.cons (e2.grow g) (.cons (e2'.grow g) .nil)), g, e.upd hT⟩
theorem src_zipT {K : PySem.W.Frag} {a b : Addr} {xs ys : List D} : Src [.ref a, .ref b] [.tup xs, .tup ys] (List.zipWith pairD xs ys) (RZ.ItzT K a b) := by
  refine ⟨fun H => ∃ vs us, H a = some (.tup vs) ∧ vs.length = xs.length ∧ H b = some (.tup us) ∧ us.length = ys.length,
    fun i H v H' => ∃ T x y vs us, v = .ref T ∧ H T = none ∧ H' = upd H T (.tup [x, y]) ∧ H a = some (.tup vs) ∧ vs[i]? = some x ∧ H b = some (.tup us) ∧ us[i]? = some y, ⟨fun i H hi h => ?_, fun H h => ?_, fun i H x H' hi h y => ?_⟩, fun W H Vt r => ?_, fun W H Vt n i x H' e r hi y => ?_⟩
  · obtain ⟨vs, us, h, l, h', l'⟩ := h
    rw [List.length_zipWith] at hi
    exact ⟨vs, us, vs[i]'(by omega), us[i]'(by omega), SqT.of h, SqT.of h', by simp [show i < vs.length by omega], by simp [show i < us.length by omega]⟩
  · obtain ⟨vs, us, h, l, h', l'⟩ := h
    rw [List.length_zipWith]
    exact ⟨vs, us, SqT.of h, SqT.of h', by omega⟩
  · obtain ⟨vs, us, h, l, h', l'⟩ := h
    obtain ⟨T, x, z, h1, h2, h3, h4, h5⟩ := y
    exact ⟨T, x, z, vs, us, h1, h2, h3, h, h4 vs (SqT.of h), h', h5 us (SqT.of h')⟩
  · cases r with
    | cons r r' =>
      cases r' with
      | cons r' _ =>
        obtain ⟨vs, h, q⟩ := r.tupAt
        obtain ⟨us, h', q'⟩ := r'.tupAt
        exact ⟨vs, us, h, q.length, h', q'.length⟩
  · cases r with
    | cons r r' =>
      cases r' with
      | cons r' _ =>
        obtain ⟨T, x, z, vs, us, rfl, hT, rfl, h, q, h', q'⟩ := y
        obtain ⟨_, h2, rr⟩ := r.tupAt
        rw [h] at h2; cases h2
        obtain ⟨_, h2, rr'⟩ := r'.tupAt
        rw [h'] at h2; cases h2
        obtain ⟨d, e1, e2⟩ := rr.get q
        obtain ⟨d', e1', e2'⟩ := rr'.get q'
        have g : Grow H Vt (upd H T (.tup [x, z])) Vt := Grow.upd hT
        refine ⟨pairD d d', by rw [List.getElem?_zipWith, e1, e1'], .tup upd_same (fun z => e.oDom T z hT) (fun z => (e.pur T z).dom hT) (.cons (e2.grow g) (.cons (e2'.grow g) .nil)), g, e.upd hT⟩
end Vm
/-! Vm11: what a loop asks for; comprehensions. -/
namespace Vm
open PySem PySem.Spec L2

/-- a list or a tuple, walked -/
def iSeqA (K : PySem.W.Frag) (tl : TE) : TI := fun σ H R => tl σ H fun x H1 => ∃ a, x = .ref a ∧ ((∃ xs, SqL K H1 a xs ∧ R (Itl K a) H1) ∨ (∃ xs, SqT K H1 a xs ∧ R (Itt K a) H1))
theorem pi_seqA {X : Cx} {tg l : Expr} {tl : TE} (hl : PE X l tl) : PI X tg l (iSeqA X.K tl) := by
  refine ⟨fun pins s σ H R I h => ?_⟩
  refine thn (hl.run pins s σ H _ I h) fun v s1 ⟨x, H1, I1, r1, q1⟩ => ?_
  obtain ⟨a, e, q⟩ := q1
  subst e
  cases r1
  rcases q with ⟨xs, hq, q⟩ | ⟨xs, hq, q⟩
  · obtain ⟨its, rv, p, hz⟩ := I1.list hq
    refine wpAny_pyIter_list p.isList ?_
    refine ⟨s1.heap.objs.size, [s1.heap.objs.size], _, _, H1, rfl, I1.kept (t' := s1.toks) fun b o e => Heap.get?_push_of_some _ e, turn_list a _, ⟨_, Heap.get?_push_size _ rfl, rfl, rfl⟩, fun b hb => ?_, q⟩
    have e : b = s1.heap.objs.size := by simpa using hb
    subst e
    exact I1.fpOk (Nat.le_refl _) (I1.hok.fresh (Nat.le_refl _))
  · obtain ⟨its, rv, p, hz⟩ := I1.tuple hq
    refine wpAny_pyIter_tuple (show s1.heap.IsTuple a its.toArray from p) ?_
    refine ⟨s1.heap.objs.size, [s1.heap.objs.size], _, _, H1, rfl, I1.kept (t' := s1.toks) fun b o e => Heap.get?_push_of_some _ e, turn_tuple a _, ⟨_, Heap.get?_push_size _ rfl, rfl, rfl⟩, fun b hb => ?_, q⟩
    have e : b = s1.heap.objs.size := by simpa using hb
    subst e
    exact I1.fpOk (Nat.le_refl _) (I1.hok.fresh (Nat.le_refl _))

theorem reads_known {ss : List Sl} {vs : List V} {W : Wd} {H : Hp} {Vt : Addr → Prop} (i : Items W H Vt vs ss) {P0 : List D → Prop} (w0 : reads ss P0) : ∃ ds, Rds W H Vt vs ds ∧ (∀ P : List D → Prop, reads ss P → P ds) ∧ ss.length = ds.length := by
  induction i generalizing P0 with
  | nil => exact ⟨[], .nil, fun P w => w, rfl⟩
  | @cons v s vs ss i r ih =>
    cases s with
    | dead => exact i.elim
    | pure d =>
      obtain ⟨ds, rd, h, hl⟩ := ih (P0 := fun ds => P0 (d :: ds)) w0
      exact ⟨d :: ds, .cons (.rep i) rd, fun P w => h (fun ds => P (d :: ds)) w, by simp [hl]⟩
    | own d =>
      obtain ⟨ds, rd, h, hl⟩ := ih (P0 := fun ds => P0 (d :: ds)) w0
      exact ⟨d :: ds, .cons (.own i) rd, fun P w => h (fun ds => P (d :: ds)) w, by simp [hl]⟩
    | bor d =>
      obtain ⟨ds, rd, h, hl⟩ := ih (P0 := fun ds => P0 (d :: ds)) w0
      exact ⟨d :: ds, .cons (.own i) rd, fun P w => h (fun ds => P (d :: ds)) w, by simp [hl]⟩
    | dp d => exact (show False from w0).elim
    | bdp d => exact (show False from w0).elim
theorem takes_reads : ∀ {ss : List Sl} {P : List D → Prop}, takes ss P → reads ss P
  | [], _, w => w
  | s :: ss, P, w => by
    cases s with
    | dead => exact w
    | pure d => exact takes_reads (ss := ss) (P := fun ds => P (d :: ds)) w
    | own d => exact takes_reads (ss := ss) (P := fun ds => P (d :: ds)) w
    | bor d => exact (show False from w).elim
    | dp d => exact (show False from w).elim
    | bdp d => exact (show False from w).elim

section
variable {Γ : Ga} {sc : Scope} {fnk : Str → Bool}
def BI (Γ : Ga) (sc : Scope) (fnk : Str → Bool) (tg iter : Expr) (k : Ik) (src : Ex) : Prop :=
  ∃ wi : XK → TI, (∀ E X, Good Γ sc fnk E X → PI X tg iter (wi E)) ∧
    ∀ W H Vt n σ ρ E R (C : List Sl → Nat → Prop) (Post : It → Hp → Prop), Sit Γ W H Vt n σ ρ E R → wpL Γ.Ψ src R ρ n C → (∀ ss m, C ss m → reads ss fun ds => itemsW k ds fun _ => True) →
      (∀ J H1 V1 n1 vs ss ds xs, Grow H Vt H1 V1 → (∀ a, V1 a → PurseAt n1 H1 a) → Items W H1 V1 vs ss → YoungAll H vs ss → C ss n1 → Rds W H1 V1 vs ds → (∀ P : List D → Prop, reads ss P → P ds) →
        (∀ P : List D → Prop, itemsW k ds P → P xs) → Src vs ds xs J → Post J H1) → wi E σ H Post
theorem bi_seq {tg e : Expr} {x : Ex} (he : BE Γ sc fnk e x) : BI Γ sc fnk tg e .seq (.econs x .enil) := by
  obtain ⟨t, p, s⟩ := he
  refine ⟨fun E => iSeqA Γ.K (t E), fun E X g => by rw [← g.K]; exact pi_seqA (p E X g), fun W H Vt n σ ρ E R C Post S w hc hp => ?_⟩
  unfold wpL wpL at w
  refine s W H Vt n σ ρ E R _ _ S w fun v H1 ⟨V1, n1, s1, g1, p1, i1, y1, w1⟩ => ?_
  have it : Items W H1 V1 [v] [s1] := .cons i1 .nil
  obtain ⟨ds, rd, hk, _⟩ := reads_known it (hc _ _ w1)
  have w2 := hk _ (hc _ _ w1)
  cases rd with
  | @cons _ d _ ds rd rs =>
    cases rs
    cases d with
    | lst t xs =>
      obtain ⟨a, vs, rfl, e, q⟩ := rd.lst
      exact ⟨a, rfl, .inl ⟨vs, SqL.of e, hp _ H1 V1 n1 _ _ _ xs g1 p1 it ⟨y1, True.intro⟩ w1 (.cons rd .nil) hk (fun P z => z) src_list⟩⟩
    | tup xs =>
      obtain ⟨a, vs, rfl, e, q⟩ := rd.tup
      exact ⟨a, rfl, .inr ⟨vs, SqT.of e, hp _ H1 V1 n1 _ _ _ xs g1 p1 it ⟨y1, True.intro⟩ w1 (.cons rd .nil) hk (fun P z => z) src_tup⟩⟩
    | _ => exact (show False from w2).elim
/-- the arguments of a built-in that is walked -/
theorem args_known {es : List Expr} {x : Ex} (hs : BL Γ sc fnk es x) {k : Ik} {J : List V → Hp → It → Prop} {wi : TA → TI}
    (hw : ∀ (t : TA) σ H R, wi t σ H R ↔ t σ H fun vs H1 => ∃ J', J vs H1 J' ∧ R J' H1)
    (hj : ∀ W H Vt vs ds, Rds W H Vt vs ds → itemsW k ds (fun _ => True) → ∃ J', J vs H J' ∧ ∃ xs, (∀ P : List D → Prop, itemsW k ds P → P xs) ∧ Src vs ds xs J') :
    ∃ t : XK → TA, (∀ E X, Good Γ sc fnk E X → PA X es (t E)) ∧
    ∀ W H Vt n σ ρ E R (C : List Sl → Nat → Prop) (Post : It → Hp → Prop), Sit Γ W H Vt n σ ρ E R → wpL Γ.Ψ x R ρ n C → (∀ ss m, C ss m → reads ss fun ds => itemsW k ds fun _ => True) →
      (∀ J H1 V1 n1 vs ss ds xs, Grow H Vt H1 V1 → (∀ a, V1 a → PurseAt n1 H1 a) → Items W H1 V1 vs ss → YoungAll H vs ss → C ss n1 → Rds W H1 V1 vs ds → (∀ P : List D → Prop, reads ss P → P ds) →
        (∀ P : List D → Prop, itemsW k ds P → P xs) → Src vs ds xs J → Post J H1) → wi (t E) σ H Post := by
  obtain ⟨t, p, s⟩ := hs
  refine ⟨t, p, fun W H Vt n σ ρ E R C Post S w hc hp => ?_⟩
  rw [hw]
  refine s W H Vt n σ ρ E R _ _ S w fun vs H1 ⟨V1, n1, ss, g1, p1, i1, y1, w1⟩ => ?_
  obtain ⟨ds, rd, hk, _⟩ := reads_known i1 (hc _ _ w1)
  obtain ⟨J', j, xs, hx, src⟩ := hj W H1 V1 vs ds rd (hk _ (hc _ _ w1))
  exact ⟨J', j, hp J' H1 V1 n1 vs ss ds xs g1 p1 i1 y1 w1 rd hk hx src⟩
theorem bi_range1 {tg e : Expr} {x : Ex} {pf pos : Pos} (hg : gbl sc "range" = true) (hn : noStar e = true) (hs : BL Γ sc fnk [e] x) : BI Γ sc fnk tg (.Call (.Name "range" pf) [e] [] pos) .range1 x := by
  obtain ⟨t, p, s⟩ := args_known (k := .range1) (wi := iRng1) (J := fun vs _ J' => ∃ j : Int, vs = [.int j] ∧ (-(2 ^ 62) ≤ j ∧ j < 2 ^ 62) ∧ J' = Itr 0 j.toNat) hs
    (fun t σ H R => by
      unfold iRng1
      have : (fun vs H1 => ∃ j : Int, vs = [V.int j] ∧ -(2 ^ 62) ≤ j ∧ j < 2 ^ 62 ∧ R (Itr 0 j.toNat) H1) = fun vs H1 => ∃ J', (∃ j : Int, vs = [V.int j] ∧ (-(2 ^ 62) ≤ j ∧ j < 2 ^ 62) ∧ J' = Itr 0 j.toNat) ∧ R J' H1 := by
        funext vs H1
        exact propext ⟨fun ⟨j, a, b, c, d⟩ => ⟨_, ⟨j, a, ⟨b, c⟩, rfl⟩, d⟩, fun ⟨_, ⟨j, a, ⟨b, c⟩, e⟩, d⟩ => ⟨j, a, b, c, by rw [← e]; exact d⟩⟩
      rw [this])
    (fun W H Vt vs ds rd w => by
      cases rd with
      | nil => exact (show False from w).elim
      | @cons v d vs ds rd rs =>
        cases rs with
        | nil =>
          cases d with
          | int j =>
            cases rd.int
            refine ⟨_, ⟨j, rfl, w.1, rfl⟩, _, fun P z => z.2, ?_⟩
            have e : ((List.range j.toNat).map fun (i : Nat) => D.int (i : Int)) = (List.range j.toNat).map fun (i : Nat) => D.int (0 + (i : Int)) := by simp
            rw [e]
            exact src_range
          | _ => exact (show False from w).elim
        | cons _ _ => revert w; cases d <;> exact fun w => (show False from w).elim)
  exact ⟨fun E => iRng1 (t E), fun E X g => pi_range1 (gbl_of g hg) (g.blt _ (by decide +kernel)) (p E X g) (star_cons hn _), s⟩
theorem bi_range2 {tg e e2 : Expr} {x : Ex} {pf pos : Pos} (hg : gbl sc "range" = true) (hn : noStar e = true) (hn2 : noStar e2 = true) (hs : BL Γ sc fnk [e, e2] x) : BI Γ sc fnk tg (.Call (.Name "range" pf) [e, e2] [] pos) .range2 x := by
  obtain ⟨t, p, s⟩ := args_known (k := .range2) (wi := iRng2) (J := fun vs _ J' => ∃ i j : Int, vs = [.int i, .int j] ∧ (-(2 ^ 62) ≤ i ∧ i < 2 ^ 62 ∧ -(2 ^ 62) ≤ j ∧ j < 2 ^ 62) ∧ J' = Itr i (j - i).toNat) hs
    (fun t σ H R => by
      unfold iRng2
      have : (fun vs H1 => ∃ i j : Int, vs = [V.int i, V.int j] ∧ (-(2 ^ 62) ≤ i ∧ i < 2 ^ 62 ∧ -(2 ^ 62) ≤ j ∧ j < 2 ^ 62) ∧ R (Itr i (j - i).toNat) H1) = fun vs H1 => ∃ J', (∃ i j : Int, vs = [V.int i, V.int j] ∧ (-(2 ^ 62) ≤ i ∧ i < 2 ^ 62 ∧ -(2 ^ 62) ≤ j ∧ j < 2 ^ 62) ∧ J' = Itr i (j - i).toNat) ∧ R J' H1 := by
        funext vs H1
        exact propext ⟨fun ⟨i, j, a, b, d⟩ => ⟨_, ⟨i, j, a, b, rfl⟩, d⟩, fun ⟨_, ⟨i, j, a, b, e⟩, d⟩ => ⟨i, j, a, b, by rw [← e]; exact d⟩⟩
      rw [this])
    (fun W H Vt vs ds rd w => by
      cases rd with
      | nil => exact (show False from w).elim
      | @cons v d vs ds rd rs =>
        cases rs with
        | nil => revert w; cases d <;> exact fun w => (show False from w).elim
        | @cons v2 d2 vs ds rd2 rs2 =>
          cases rs2 with
          | nil =>
            cases d with
            | int i =>
              cases d2 with
              | int j =>
                cases rd.int
                cases rd2.int
                exact ⟨_, ⟨i, j, rfl, w.1, rfl⟩, _, fun P z => z.2, src_range⟩
              | _ => exact (show False from w).elim
            | _ => revert w; cases d2 <;> exact fun w => (show False from w).elim
          | cons _ _ => revert w; cases d <;> cases d2 <;> exact fun w => (show False from w).elim)
  exact ⟨fun E => iRng2 (t E), fun E X g => pi_range2 (gbl_of g hg) (g.blt _ (by decide +kernel)) (p E X g) (by rw [star_cons hn, star_cons hn2]; rfl) (star_cons hn2 _), s⟩
theorem bi_enum {e : Expr} {x : Ex} {pf pos tpos : Pos} {elts : List Expr} {kk : Nat} (hg : gbl sc "enumerate" = true) (hn : noStar e = true) (hs : BL Γ sc fnk [e] x) : BI Γ sc fnk (.Tuple elts kk tpos) (.Call (.Name "enumerate" pf) [e] [] pos) .enum x := by
  obtain ⟨t, p, s⟩ := args_known (k := .enum) (wi := iEnum Γ.K) (J := fun vs H1 J' => ∃ a xs, vs = [.ref a] ∧ SqL Γ.K H1 a xs ∧ J' = Ite Γ.K a) hs
    (fun t σ H R => by
      unfold iEnum
      have : (fun vs H1 => ∃ a xs, vs = [V.ref a] ∧ SqL Γ.K H1 a xs ∧ R (Ite Γ.K a) H1) = fun vs H1 => ∃ J', (∃ a xs, vs = [V.ref a] ∧ SqL Γ.K H1 a xs ∧ J' = Ite Γ.K a) ∧ R J' H1 := by
        funext vs H1
        exact propext ⟨fun ⟨i, j, a, b, d⟩ => ⟨_, ⟨i, j, a, b, rfl⟩, d⟩, fun ⟨_, ⟨i, j, a, b, e⟩, d⟩ => ⟨i, j, a, b, by rw [← e]; exact d⟩⟩
      rw [this])
    (fun W H Vt vs ds rd w => by
      cases rd with
      | nil => exact (show False from w).elim
      | @cons v d vs ds rd rs =>
        cases rs with
        | nil =>
          cases d with
          | lst t xs =>
            obtain ⟨a, us, rfl, e, q⟩ := rd.lst
            exact ⟨_, ⟨a, us, rfl, SqL.of e, rfl⟩, _, fun P z => z, src_enum⟩
          | _ => exact (show False from w).elim
        | cons _ _ => revert w; cases d <;> exact fun w => (show False from w).elim)
  exact ⟨fun E => iEnum Γ.K (t E), fun E X g => by rw [← g.K]; exact pi_enum (gbl_of g hg) (g.blt _ (by decide +kernel)) (p E X g) (star_cons hn _), s⟩
theorem bi_zip {e e2 : Expr} {x : Ex} {pf pos tpos : Pos} {elts : List Expr} {kk : Nat} (hg : gbl sc "zip" = true) (hn : noStar e = true) (hn2 : noStar e2 = true) (hs : BL Γ sc fnk [e, e2] x) : BI Γ sc fnk (.Tuple elts kk tpos) (.Call (.Name "zip" pf) [e, e2] [] pos) .zip x := by
  obtain ⟨t, p, s⟩ := args_known (k := .zip) (wi := RZ.iZipA Γ.K) (J := fun vs H1 J' => ∃ a b xs ys, vs = [.ref a, .ref b] ∧ ((SqL Γ.K H1 a xs ∧ SqL Γ.K H1 b ys ∧ J' = Itz Γ.K a b) ∨ (SqT Γ.K H1 a xs ∧ SqT Γ.K H1 b ys ∧ J' = RZ.ItzT Γ.K a b))) hs
    (fun t σ H R => by
      unfold RZ.iZipA
      have : (fun vs H1 => ∃ a b xs ys, vs = [V.ref a, V.ref b] ∧ ((SqL Γ.K H1 a xs ∧ SqL Γ.K H1 b ys ∧ R (Itz Γ.K a b) H1) ∨ (SqT Γ.K H1 a xs ∧ SqT Γ.K H1 b ys ∧ R (RZ.ItzT Γ.K a b) H1))) =
          fun vs H1 => ∃ J', (∃ a b xs ys, vs = [V.ref a, V.ref b] ∧ ((SqL Γ.K H1 a xs ∧ SqL Γ.K H1 b ys ∧ J' = Itz Γ.K a b) ∨ (SqT Γ.K H1 a xs ∧ SqT Γ.K H1 b ys ∧ J' = RZ.ItzT Γ.K a b))) ∧ R J' H1 := by
        funext vs H1
        refine propext ⟨?_, ?_⟩
        · rintro ⟨a, b, xs, ys, h, ⟨h1, h2, h3⟩ | ⟨h1, h2, h3⟩⟩
          · exact ⟨_, ⟨a, b, xs, ys, h, .inl ⟨h1, h2, rfl⟩⟩, h3⟩
          · exact ⟨_, ⟨a, b, xs, ys, h, .inr ⟨h1, h2, rfl⟩⟩, h3⟩
        · rintro ⟨_, ⟨a, b, xs, ys, h, ⟨h1, h2, rfl⟩ | ⟨h1, h2, rfl⟩⟩, h3⟩
          · exact ⟨a, b, xs, ys, h, .inl ⟨h1, h2, h3⟩⟩
          · exact ⟨a, b, xs, ys, h, .inr ⟨h1, h2, h3⟩⟩
      rw [this])
    (fun W H Vt vs ds rd w => by
      cases rd with
      | nil => exact (show False from w).elim
      | @cons v d vs ds rd rs =>
        cases rs with
        | nil => revert w; cases d <;> exact fun w => (show False from w).elim
        | @cons v2 d2 vs ds rd2 rs2 =>
          cases rs2 with
          | nil =>
            cases d with
            | lst t xs =>
              cases d2 with
              | lst t2 ys =>
                obtain ⟨a, us, rfl, e, q⟩ := rd.lst
                obtain ⟨b, us', rfl, e', q'⟩ := rd2.lst
                exact ⟨_, ⟨a, b, us, us', rfl, .inl ⟨SqL.of e, SqL.of e', rfl⟩⟩, _, fun P z => z, src_zipL⟩
              | _ => exact (show False from w).elim
            | tup xs =>
              cases d2 with
              | tup ys =>
                obtain ⟨a, us, rfl, e, q⟩ := rd.tup
                obtain ⟨b, us', rfl, e', q'⟩ := rd2.tup
                exact ⟨_, ⟨a, b, us, us', rfl, .inr ⟨SqT.of e, SqT.of e', rfl⟩⟩, _, fun P z => z, src_zipT⟩
              | _ => exact (show False from w).elim
            | _ => revert w; cases d2 <;> exact fun w => (show False from w).elim
          | cons _ _ => revert w; cases d <;> cases d2 <;> exact fun w => (show False from w).elim)
  exact ⟨fun E => RZ.iZipA Γ.K (t E), fun E X g => by rw [← g.K]; exact RZ.pi_zipA (gbl_of g hg) (g.blt _ (by decide +kernel)) (p E X g) (by rw [star_cons hn]) (by rw [star_cons hn2]; rfl), s⟩
end
end Vm
/-! Vm12: comprehensions. -/
namespace Vm
open PySem PySem.Spec L2
section
variable {Γ : Ga} {sc : Scope} {fnk : Str → Bool}
abbrev scB (scope sc : Scope) : Scope := relS scope sc
abbrev fnB (scope : Scope) : Str → Bool := fun x => scope.names.lookup x == some .cell
theorem Good.blk {E : XK} {X : Cx} (g : Good Γ sc fnk E X) (scope : Scope) (s : Shared) (H : Hp) (C : Addr) (cl : List (Str × Addr)) (fp : List Addr) : Good Γ (scB scope sc) (fnB scope) E0 (X.blk s H scope (compEnvC scope cl C X.env) fp) where
  K := g.K
  N := g.N
  nd := g.nd
  sc := by
    show relS scope X.env.scope = relS scope sc
    rw [g.sc]
  fn := rfl
  calm := g.calm
  room := g.room
  fns := g.fns
  fio := g.fio
  blt := g.blt
  pas := passL
/-- with the new list at D held -/
def withD (W : Wd) (D : Addr) : Wd := ⟨fun a => W.O a ∨ a = D, W.old⟩
theorem Rep.setL {W W' : Wd} {H : Hp} {Vt : Addr → Prop} (hO : ∀ a vs, H a = some (.tup vs) → W'.O a → W.O a) (ho : ∀ a, W'.old a → W.old a) {v : V} {d : D} (r : Rep (noL W H) H Vt v d) : Rep (noL W' H) H Vt v d :=
  Rep.conv (W := noL W H) (W' := noL W' H) (fun a o e n h => ⟨e, fun z => by obtain ⟨z1, vs, z2⟩ := z; exact n ⟨hO a vs z2 z1, vs, z2⟩, h, fun n z => n (ho a z)⟩) (fun _ z => z) r
theorem Rep.withL {W : Wd} {H : Hp} {Vt : Addr → Prop} {D : Addr} (hD : H D = none) {v : V} {d : Vm.D} (r : Rep (noL W H) H Vt v d) : Rep (noL (withD W D) H) H Vt v d :=
  Rep.setL (W' := withD W D) (fun a vs e (z : W.O a ∨ a = D) => z.elim id fun z => by rw [z, hD] at e; cases e) (fun _ z => z) r
theorem withD_O {W : Wd} {D a : Addr} : (withD W D).O a ↔ (W.O a ∨ a = D) := Iff.rfl
theorem wipe_get : ∀ (vs : List Nat) (σ : L2.St) (j : Nat), j ∉ vs → (wipe σ vs)[j]? = σ[j]?
  | [], σ, j, _ => rfl
  | v :: vs, σ, j, h => by
    have h' : j ≠ v ∧ j ∉ vs := by simpa using h
    unfold L2.wipe
    rw [List.getElem?_set_ne (Ne.symm h'.1)]
    exact wipe_get vs σ j h'.2
theorem wipe_but {is : List Nat} {σ σ' : L2.St} {vs : List Nat} (h : SameBut is (wipe σ vs) σ') (hs : ∀ i ∈ is, i ∈ vs) : wipe σ' vs = wipe σ vs :=
  (wipe_same h hs).trans (wipe_same (is := vs) ⟨wipe_length _ _, fun j hj => wipe_get vs σ j hj⟩ fun _ z => z)
/-- with conditions or none -/
inductive Conds (Γ : Ga) (sc : Scope) (fnk : Str → Bool) : List Expr → Ex → Prop where
  | none : Conds Γ sc fnk [] (.bl true)
  | one {c : Expr} {x : Ex} : BT Γ sc fnk c x → Conds Γ sc fnk [c] x
theorem conds_ok {ifs : List Expr} {x : Ex} (h : Conds Γ sc fnk ifs x) : ∃ tt : TT, (∀ X, Good Γ sc fnk E0 X → PTs X ifs tt) ∧
    ∀ W H Vt n σ ρ Q Post, Sit Γ W H Vt n σ ρ E0 noR → wpT Γ.Ψ x noR ρ n Q → (∀ k H', TPost H Vt Q k H' → Post k H') → tt σ H Post := by
  cases h with
  | none =>
    refine ⟨tYes, fun _ _ => pts_nil, fun W H Vt n σ ρ Q Post S w hp => ?_⟩
    exact hp true H ⟨Vt, n, Grow.refl, S.est.pur, w⟩
  | one h =>
    obtain ⟨t, p, s⟩ := h
    exact ⟨t E0, fun X g => pts_one (p E0 X g), fun W H Vt n σ ρ Q Post S w hp => s W H Vt n σ ρ E0 noR Q Post S w hp⟩
/-- an item that may be kept, behind a step in a world where its age is known -/
theorem take_rep {W : Wd} {H H' : Hp} {Vt : Addr → Prop} {v : V} {s : Sl} {Q : D → Prop} (hO : ∀ a, W.O a → H a ≠ none) (i : ItemOk W H' Vt v s) (y : ∀ d a, s = .own d → v = .ref a → H a = none) (w : s.take Q) : ∃ d, Rep W H' Vt v d ∧ Q d := by
  cases s with
  | dead => exact i.elim
  | bor d => exact (show False from w).elim
  | dp d => exact (show False from w).elim
  | bdp d => exact (show False from w).elim
  | pure d => exact ⟨d, i, w⟩
  | own d =>
    obtain ⟨a, e, _, _⟩ := Own.ref i
    subst e
    exact ⟨d, Own.rep i fun z => hO a z (y d a rfl rfl), w⟩
/-- the turns, over whatever is walked -/
theorem comp_loop {elt tg : Expr} {ifs : List Expr} {cond ex : Ex} {t : Tg} {vs : List Nat} {g : TG} {tt : TT} {te : TE} (hv : ∀ i ∈ t.vars, i ∈ vs)
    (sg : ∀ (W : Wd) (H : Hp) (Vt : Addr → Prop) (σ : L2.St) (ρ : List Sl) (v : V) (d : D) (Q : List Sl → Prop) (Post : L2.St → Hp → Prop), SlotsOk W H Vt σ ρ → Rep W H Vt v d → tgW t d ρ Q →
      (∀ σ' ρ', SlotsOk W H Vt σ' ρ' → SameBut t.vars σ σ' → Q ρ' → Post σ' H) → g v σ H Post)
    (st : ∀ W H Vt n σ ρ Q Post, Sit Γ W H Vt n σ ρ E0 noR → wpT Γ.Ψ cond noR ρ n Q → (∀ k H', TPost H Vt Q k H' → Post k H') → tt σ H Post)
    (se : ∀ W H Vt n σ ρ Q Post, Sit Γ W H Vt n σ ρ E0 noR → wpE Γ.Ψ ex noR ρ n Q → (∀ v H', EPost W H Vt Q v H' → Post v H') → te σ H Post)
    {W : Wd} {H1 : Hp} {V1 : Addr → Prop} {n1 : Nat} {σ : L2.St} {ρ : List Sl} (est : ESt W H1 V1 n1) (sl : SlotsOk W H1 V1 σ ρ) {J : It} {xs : List D} {G : Hp → Prop} {Y : Nat → Hp → V → Hp → Prop} (wk : Walk J xs.length G Y)
    {A0 : Addr} (hD : H1 A0 = none) (hG : ∀ Hc Vc, Grow H1 V1 Hc Vc → G Hc)
    (hY : ∀ Hc Vc nc i x H', ESt (withD W A0) Hc Vc nc → Grow H1 V1 Hc Vc → i < xs.length → Y i Hc x H' → ∃ d, xs[i]? = some d ∧ Rep (withD W A0) H' Vc x d ∧ Grow Hc Vc H' Vc ∧ ESt (withD W A0) H' Vc nc)
    {Qn : List D → Nat → Prop} {Qd : Hp → Prop}
    (w1 : compW (fun x n K => tgW t x (wipeS ρ vs) fun ρ' => wpE Γ.Ψ cond noR ρ' n fun c n2 => c.read fun y => truW y fun b => if b = true then wpE Γ.Ψ ex noR ρ' n2 fun z n3 => z.take fun d => K (some d) n3 else K none n2) xs n1 [] Qn)
    (hp : ∀ Hc Vc nc av ad, Grow H1 V1 Hc Vc → ESt (withD W A0) Hc Vc nc → Hc A0 = some (.lst av) → Reps (withD W A0) Hc Vc av ad → Qn ad nc → Qd Hc) :
    ∃ W0 : Nat → Nat → Hp → Prop, (∃ m, W0 0 m (upd H1 A0 (.lst []))) ∧ ∀ i m H, W0 i m H →
      (J.stop i H ∧ Qd H) ∨ (J.go i H ∧ ∃ Nx : Hp → Prop, (∀ H', Nx H' → ∃ m', m' < m ∧ W0 (i + 1) m' H') ∧ ∀ x H', J.yld i H x H' → g x (wipe σ vs) H' fun σ2 H2 => wipe σ2 vs = wipe σ vs ∧ tt σ2 H2 fun b H3 =>
        if b = true then te σ2 H3 fun y H4 => ∃ acc, H4 A0 = some (.lst acc) ∧ acc.length < sizeLine ∧ Nx (upd H4 A0 (.lst (acc ++ [y]))) else Nx H3) := by
  -- the world with the new list
  have oD : ∀ a, (withD W A0).O a ↔ (W.O a ∨ a = A0) := fun a => Iff.rfl
  have VD : ¬ V1 A0 := fun z => (est.pur A0 z).dom hD
  have toD : ∀ {H2 : Hp} {V2 : Addr → Prop} {a : Addr} {o : HO}, H1 a = some o → a ≠ A0 := fun e z => by rw [z, hD] at e; cases e
  have gD : Grow H1 V1 (upd H1 A0 (.lst [])) V1 := Grow.upd hD
  have slD : SlotsOk (withD W A0) H1 V1 σ ρ := by
    refine ⟨sl.len, fun i s e ne => ?_, fun i d a e1 e2 => .inl (sl.own i d a e1 e2), sl.inj⟩
    obtain ⟨v, ev, it⟩ := sl.get i s e ne
    refine ⟨v, ev, ?_⟩
    have cv : ∀ a o, H1 a = some o → ¬ W.O a → ¬ V1 a → H1 a = some o ∧ ¬ (withD W A0).O a ∧ ¬ V1 a ∧ (¬ W.old a → ¬ (withD W A0).old a) := fun a o e n1 n2 => ⟨e, fun z => z.elim n1 (toD (H2 := H1) (V2 := V1) e), n2, fun z => z⟩
    cases s with
    | dead => exact it
    | pure d => exact Rep.conv cv (fun _ z => z) it
    | own d => exact Own.conv it cv (fun _ z => z) fun a o _ e n => ⟨e, n, fun z => z⟩
    | bor d => exact Own.conv it cv (fun _ z => z) fun a o _ e n => ⟨e, n, fun z => z⟩
    | dp d => exact Rep.withL hD it
    | bdp d => exact Rep.withL hD it
  have estD : ESt (withD W A0) (upd H1 A0 (.lst [])) V1 n1 := by
    refine ⟨fun a z => ?_, fun a z => gD.dom a (est.oldDom a z), (est.upd hD).pur, fun a z => ?_⟩
    · rcases z with z | z
      · exact gD.dom a (est.oDom a z)
      · rw [z, upd_same]; simp
    · rcases z with z | z
      · exact est.oV a z
      · rw [z]; exact VD
  generalize hstep : (fun x n K => tgW t x (wipeS ρ vs) fun ρ' => wpE Γ.Ψ cond noR ρ' n fun c n2 => c.read fun y => truW y fun b => if b = true then wpE Γ.Ψ ex noR ρ' n2 fun z n3 => z.take fun d => K (some d) n3 else K none n2 : D → Nat → (Option D → Nat → Prop) → Prop) = step at w1
  refine lc_it wk (fun i Hc => ∃ (Vc : Addr → Prop) (nc : Nat) (av : List V) (ad : List D), Grow H1 V1 Hc Vc ∧ ESt (withD W A0) Hc Vc nc ∧ Hc A0 = some (.lst av) ∧ Reps (withD W A0) Hc Vc av ad ∧
    compW step (xs.drop i) nc ad Qn) ⟨V1, n1, [], [], gD, estD, upd_same, .nil, w1⟩ (fun i Hc _ ⟨Vc, nc, av, ad, gg, _⟩ => hG Hc Vc gg) ?_ ?_
  · rintro i x Hc H' hi ⟨Vc, nc, av, ad, gg, eg, hDc, ra, wc⟩ hy
    obtain ⟨d, exd, rx, g2, e2⟩ := hY Hc Vc nc i x H' eg gg hi hy
    have hdrop : xs.drop i = d :: xs.drop (i + 1) := by
      have h1 : i < xs.length := hi
      rw [List.drop_eq_getElem_cons h1]
      rw [List.getElem?_eq_getElem h1] at exd
      cases exd; rfl
    rw [hdrop] at wc
    unfold compW at wc
    rw [← hstep] at wc
    have sl2 := ((slD.grow gg).grow g2).wipe vs
    refine sg (withD W A0) H' Vc _ _ x d _ _ sl2 rx wc fun σ' ρ' s' sb q => ?_
    refine ⟨wipe_but sb hv, ?_⟩
    rw [hstep] at q
    refine st (withD W A0) H' Vc nc σ' ρ' _ _ ⟨e2, s', fun _ _ _ _ _ _ _ z => z.elim⟩ q fun b H3 ⟨V3, n3, g3, p3, w3⟩ => ?_
    have e3 := e2.grow g3 p3
    have nVc : ¬ Vc A0 := eg.oV A0 (.inr rfl)
    have k2 := g2.keep A0 _ hDc nVc
    have k3 := g3.keep A0 _ k2 nVc
    cases b with
    | false =>
      rw [if_neg (by simp)]
      rw [if_neg (by simp)] at w3
      exact ⟨V3, n3, av, ad, gg.trans (g2.trans g3), e3, k3, ra.grow (g2.trans g3), w3⟩
    | true =>
      rw [if_pos rfl]
      rw [if_pos rfl] at w3
      refine se (withD W A0) H3 V3 n3 σ' ρ' _ _ ⟨e3, s'.grow g3, fun _ _ _ _ _ _ _ z => z.elim⟩ w3 fun y H4 ⟨V4, n4, s4, g4, p4, i4, y4, w4⟩ => ?_
      have e4 := e3.grow g4 p4
      have nV3 : ¬ V3 A0 := e3.oV A0 (.inr rfl)
      have nV4 : ¬ V4 A0 := e4.oV A0 (.inr rfl)
      have k4 := g4.keep A0 _ k3 nV3
      obtain ⟨d', r4, ln, w5⟩ := take_rep e3.oDom i4 y4 w4
      refine ⟨av, k4, by rw [ra.length]; exact ln, ?_⟩
      have ra4 := ra.grow (g2.trans (g3.trans g4))
      have cv : ∀ a o, H4 a = some o → ¬ (withD W A0).O a → ¬ V4 a → upd H4 A0 (.lst (av ++ [y])) a = some o ∧ ¬ (withD W A0).O a ∧ ¬ V4 a ∧ (¬ (withD W A0).old a → ¬ (withD W A0).old a) := fun a o e n1 n2 =>
        ⟨by rw [upd_ne (fun z => n1 (.inr z))]; exact e, n1, n2, fun z => z⟩
      refine ⟨V4, n4, av ++ [y], ad ++ [d'], ?_, ?_, upd_same, (ra4.append (.cons r4 .nil)).conv cv fun _ z => z, w5⟩
      · have G4 := gg.trans (g2.trans (g3.trans g4))
        refine ⟨fun a o e n => ?_, fun a e => ?_, G4.sub, G4.new⟩
        · rw [upd_ne (toD (H2 := H1) (V2 := V1) e)]; exact G4.keep a o e n
        · by_cases z : a = A0
          · rw [z, upd_same]; simp
          · rw [upd_ne z]; exact G4.dom a e
      · refine ⟨fun a z => ?_, fun a z => ?_, fun a z => ?_, e4.oV⟩
        · by_cases z' : a = A0
          · rw [z', upd_same]; simp
          · rw [upd_ne z']; exact e4.oDom a z
        · by_cases z' : a = A0
          · rw [z', upd_same]; simp
          · rw [upd_ne z']; exact e4.oldDom a z
        · have q := p4 a z
          have ne : a ≠ A0 := fun z' => nV4 (z' ▸ z)
          obtain ⟨s, c, k, tt, h1, rr⟩ := q
          exact ⟨s, c, k, tt, by rw [upd_ne ne]; exact h1, rr⟩
  · rintro Hc ⟨Vc, nc, av, ad, gg, eg, hDc, ra, wc⟩
    rw [List.drop_of_length_le (Nat.le_refl _)] at wc
    exact hp Hc Vc nc av ad gg eg hDc ra wc
theorem comp_core {k : Ik} {elt tg iter : Expr} {ifs : List Expr} {scope : Scope} {own : List (Str × Nat)} {pos : Pos} {src cond ex : Ex} {t : Tg}
    (hk : ∀ ρ, lockP k src ρ = some ρ) (hb : blkC Γ.N sc scope own = true) (hv : ∀ i ∈ t.vars, i ∈ own.map (·.2)) (hs : ∀ env x, foldedSetIterable iter env x = pure x)
    (hi : BI Γ sc fnk tg iter k src) (hg : BG Γ (scB scope sc) (fnB scope) tg t) (hc : Conds Γ (scB scope sc) (fnB scope) ifs cond) (he : BE Γ (scB scope sc) (fnB scope) elt ex) :
    ∃ tt : XK → TE, (∀ E X, Good Γ sc fnk E X → PE X (.ListComp elt [⟨tg, iter, ifs, 0⟩] scope pos) (tt E)) ∧
      (∀ E X, Good Γ sc fnk E X → ∀ (i : Nat) (y : Str) (py spos : Pos), Γ.N[i]? = some y → sc.names.lookup y = some .local → sc.kind = .function → (py.line == pos.line) = true →
        (scope.names.any fun (n, k) => n == y && (k == .local || k == .cell)) = false → PS X (.Assign [.Name y py] (.ListComp elt [⟨tg, iter, ifs, 0⟩] scope pos) spos) (tAsg (tt E) (gName i))) ∧
      ∀ W H Vt n σ ρ E R Q Post, Sit Γ W H Vt n σ ρ E R → wpE Γ.Ψ (.comp k src t cond ex (own.map (·.2))) R ρ n Q → (∀ v H', EPost W H Vt Q v H' → Post v H') → tt E σ H Post := by
  obtain ⟨wi, pi, si⟩ := hi
  obtain ⟨g, pg, sg⟩ := hg
  obtain ⟨tt, pt, st⟩ := conds_ok hc
  obtain ⟨te, pe, se⟩ := he
  refine ⟨fun E => tLc (wi E) g tt (te E0) (own.map (·.2)), fun E X gd => ?_, fun E X gd i y py spos hy hyl hk hl ha => ?_, fun W H Vt n σ ρ E R Q Post S w hp => ?_⟩
  · refine pe_lc gd.calm gd.nd (pi E X gd) (by rw [gd.N, gd.sc]; exact blkOk_by hb) (fun s H C cl fp => pg E0 _ (gd.blk scope s H C cl fp)) (fun s H C cl fp => pt _ (gd.blk scope s H C cl fp)) (fun s H C cl fp => pe E0 _ (gd.blk scope s H C cl fp)) (hs _)
  · exact ps_setLc gd.calm gd.nd (by rw [gd.N]; exact hy) (by rw [gd.sc]; exact hyl) (sw_true (by rw [gd.sc]; exact hk) (by rw [gd.sc]; exact hyl) hl ha) (pi E X gd) (by rw [gd.N, gd.sc]; exact blkOk_by hb)
      (fun s H C cl fp => pg E0 _ (gd.blk scope s H C cl fp)) (fun s H C cl fp => pt _ (gd.blk scope s H C cl fp)) (fun s H C cl fp => pe E0 _ (gd.blk scope s H C cl fp)) (hs _)
  · unfold wpE at w
    rw [hk] at w
    refine si W H Vt n σ ρ E R _ _ S w (fun ss m c => reads_mono (fun ds q => itemsW_mono (fun _ _ => True.intro) q) c) fun J H1 V1 n1 vs ss ds xs g1 p1 i1 y1 c1 rd hk hx src => ?_
    have w1 := hx _ (hk _ c1)
    have S1 := S.grow g1 p1
    intro A0 hD
    obtain ⟨G, Y, wk, hG, hY⟩ := src.ex
    have VD : ¬ V1 A0 := fun z => (p1 A0 z).dom hD
    have toD : ∀ {H2 : Hp} {V2 : Addr → Prop} {a : Addr} {o : HO}, H1 a = some o → a ≠ A0 := fun e z => by rw [z, hD] at e; cases e
    have rdD : Rds (withD W A0) H1 V1 vs ds := by
      have : ∀ {vs : List V} {ds : List D}, Rds W H1 V1 vs ds → Rds (withD W A0) H1 V1 vs ds := by
        intro vs ds r
        induction r with
        | nil => exact .nil
        | cons r _ ih =>
          refine .cons ?_ ih
          have cv : ∀ a o, H1 a = some o → ¬ W.O a → ¬ V1 a → H1 a = some o ∧ ¬ (withD W A0).O a ∧ ¬ V1 a ∧ (¬ W.old a → ¬ (withD W A0).old a) := fun a o e n1 n2 => ⟨e, fun z => z.elim n1 (toD (H2 := H1) (V2 := V1) e), n2, fun z => z⟩
          rcases r with r | r
          · exact .rep (Rep.conv cv (fun _ z => z) r)
          · exact .own (Own.conv r cv (fun _ z => z) fun a o _ e n => ⟨e, n, fun z => z⟩)
      exact this rd
    have rgrow : ∀ {H2 : Hp} {V2 : Addr → Prop}, Grow H1 V1 H2 V2 → Rds (withD W A0) H2 V2 vs ds := by
      intro H2 V2 gg
      have : ∀ {vs : List V} {ds : List D}, Rds (withD W A0) H1 V1 vs ds → Rds (withD W A0) H2 V2 vs ds := by
        intro vs ds r
        induction r with
        | nil => exact .nil
        | cons r _ ih => exact .cons (r.grow gg) ih
      exact this rdD
    refine comp_loop (elt := elt) (tg := tg) (ifs := ifs) hv sg st (fun W H Vt n σ ρ Q Post S w hp => se W H Vt n σ ρ E0 noR Q Post S w hp) S1.est S1.sl wk hD (fun Hc Vc gg => hG _ Hc Vc (rgrow gg)) (fun Hc Vc nc i x H' eg gg hi hy => hY (withD W A0) Hc Vc nc i x H' eg (rgrow gg) hi hy) w1 ?_
    intro Hc Vc nc av ad gg eg hDc ra wc
    refine hp _ Hc ⟨Vc, nc, .own (.lst true ad), g1.trans gg, eg.pur, ?_, fun d a _ z => ?_, wc⟩
    · refine .lst hDc (eg.oV A0 (.inr rfl)) (fun _ z => S1.est.oldDom A0 z hD) (Reps.conv (W := withD W A0) (fun a o e n1 n2 => ⟨e, fun z => n1 (Or.inl z), n2, fun z => z⟩) (fun _ z => z) ra)
    · cases z
      cases q : H A0 with
      | none => rfl
      | some o => exact absurd hD (g1.dom A0 (by rw [q]; simp))
theorem be_comp {k : Ik} {elt tg iter : Expr} {ifs : List Expr} {scope : Scope} {own : List (Str × Nat)} {pos : Pos} {src cond ex : Ex} {t : Tg}
    (hk : ∀ ρ, lockP k src ρ = some ρ) (hb : blkC Γ.N sc scope own = true) (hv : ∀ i ∈ t.vars, i ∈ own.map (·.2)) (hs : ∀ env x, foldedSetIterable iter env x = pure x)
    (hi : BI Γ sc fnk tg iter k src) (hg : BG Γ (scB scope sc) (fnB scope) tg t) (hc : Conds Γ (scB scope sc) (fnB scope) ifs cond) (he : BE Γ (scB scope sc) (fnB scope) elt ex) :
    BE Γ sc fnk (.ListComp elt [⟨tg, iter, ifs, 0⟩] scope pos) (.comp k src t cond ex (own.map (·.2))) :=
  let ⟨t, a, _, c⟩ := comp_core hk hb hv hs hi hg hc he
  ⟨t, a, c⟩
end
end Vm
/-! VmD: what a name owns all through: each list in it. -/
namespace Vm
open PySem PySem.Spec L2
mutual
inductive Rdp (W : Wd) (S : Addr → Prop) (H : Hp) (Vt : Addr → Prop) : V → D → Prop where
  | non : Rdp W S H Vt .non .non
  | bl (b : Bool) : Rdp W S H Vt (.bl b) (.bl b)
  | int (i : Int) : Rdp W S H Vt (.int i) (.int i)
  | str (s : Str) : Rdp W S H Vt (.str s) (.str s)
  | lst {a : Addr} {vs : List V} {ds : List D} {t : Bool} : H a = some (.lst vs) → S a → ¬ Vt a → (t = true → ¬ W.old a) → Rdps W S H Vt vs ds → Rdp W S H Vt (.ref a) (.lst t ds)
  | tup {a : Addr} {vs : List V} {ds : List D} : H a = some (.tup vs) → ¬ W.O a → ¬ Vt a → Rdps W S H Vt vs ds → Rdp W S H Vt (.ref a) (.tup ds)
inductive Rdps (W : Wd) (S : Addr → Prop) (H : Hp) (Vt : Addr → Prop) : List V → List D → Prop where
  | nil : Rdps W S H Vt [] []
  | cons {v : V} {vs : List V} {d : D} {ds : List D} : Rdp W S H Vt v d → Rdps W S H Vt vs ds → Rdps W S H Vt (v :: vs) (d :: ds)
end
section
variable {W W' : Wd} {S S' : Addr → Prop} {H H' : Hp} {Vt Vt' : Addr → Prop}
mutual
theorem Rdp.conv (hL : ∀ a vs, H a = some (.lst vs) → S a → ¬ Vt a → H' a = some (.lst vs) ∧ S' a ∧ ¬ Vt' a ∧ (¬ W.old a → ¬ W'.old a)) (hT : ∀ a vs, H a = some (.tup vs) → ¬ W.O a → ¬ Vt a → H' a = some (.tup vs) ∧ ¬ W'.O a ∧ ¬ Vt' a) :
    ∀ {v : V} {d : D}, Rdp W S H Vt v d → Rdp W' S' H' Vt' v d
  | _, _, .non => .non
  | _, _, .bl b => .bl b
  | _, _, .int i => .int i
  | _, _, .str s => .str s
  | _, _, .lst e h1 h2 h3 r => let q := hL _ _ e h1 h2; .lst q.1 q.2.1 q.2.2.1 (fun z => q.2.2.2 (h3 z)) (Rdps.conv hL hT r)
  | _, _, .tup e h1 h2 r => let q := hT _ _ e h1 h2; .tup q.1 q.2.1 q.2.2 (Rdps.conv hL hT r)
theorem Rdps.conv (hL : ∀ a vs, H a = some (.lst vs) → S a → ¬ Vt a → H' a = some (.lst vs) ∧ S' a ∧ ¬ Vt' a ∧ (¬ W.old a → ¬ W'.old a)) (hT : ∀ a vs, H a = some (.tup vs) → ¬ W.O a → ¬ Vt a → H' a = some (.tup vs) ∧ ¬ W'.O a ∧ ¬ Vt' a) :
    ∀ {vs : List V} {ds : List D}, Rdps W S H Vt vs ds → Rdps W' S' H' Vt' vs ds
  | _, _, .nil => .nil
  | _, _, .cons r rs => .cons (Rdp.conv hL hT r) (Rdps.conv hL hT rs)
end
mutual
theorem Rdp.repL : ∀ {v : V} {d : D}, Rdp W S H Vt v d → Rep (noL W H) H Vt v d
  | _, _, .non => .non
  | _, _, .bl b => .bl b
  | _, _, .int i => .int i
  | _, _, .str s => .str s
  | _, _, .lst e h1 h2 h3 r => .lst e (fun z => by obtain ⟨_, vs, z⟩ := z; rw [e] at z; cases z) h2 h3 (Rdps.repL r)
  | _, _, .tup e h1 h2 r => .tup e (fun z => h1 z.1) h2 (Rdps.repL r)
theorem Rdps.repL : ∀ {vs : List V} {ds : List D}, Rdps W S H Vt vs ds → Reps (noL W H) H Vt vs ds
  | _, _, .nil => .nil
  | _, _, .cons r rs => .cons (Rdp.repL r) (Rdps.repL rs)
end
mutual
/-- what is new all through -/
theorem Rep.toDp (hS : ∀ a vs, H a = some (.lst vs) → ¬ W.old a → ¬ Vt a → S a ∧ ¬ W'.old a) (hT : ∀ a vs, H a = some (.tup vs) → ¬ W.O a → ¬ Vt a → ¬ W'.O a) : ∀ {v : V} {d : D}, Rep W H Vt v d → d.fresh = true → d.plain = true → Rdp W' S H Vt v d
  | _, _, .non, _, _ => .non
  | _, _, .bl b, _, _ => .bl b
  | _, _, .int i, _, _ => .int i
  | _, _, .str s, _, _ => .str s
  | _, .lst t ds, .lst e h1 h2 h3 r, f, p => by
    have f : t = true ∧ D.freshs ds = true := by simpa [D.fresh] using f
    have q := hS _ _ e (h3 f.1) h2
    exact .lst e q.1 h2 (fun _ => q.2) (Reps.toDp hS hT r f.2 p)
  | _, .tup ds, .tup e h1 h2 r, f, p => .tup e (hT _ _ e h1 h2) h2 (Reps.toDp hS hT r f p)
  | _, .dic _ _, .dic _ _ _ _ _, _, p => nomatch p
  | _, _, .pur _, _, p => nomatch p
theorem Reps.toDp (hS : ∀ a vs, H a = some (.lst vs) → ¬ W.old a → ¬ Vt a → S a ∧ ¬ W'.old a) (hT : ∀ a vs, H a = some (.tup vs) → ¬ W.O a → ¬ Vt a → ¬ W'.O a) : ∀ {v : List V} {d : List D}, Reps W H Vt v d → D.freshs d = true → D.plains d = true → Rdps W' S H Vt v d
  | _, _, .nil, _, _ => .nil
  | _, d :: ds, .cons r q, f, p => by
    have f : d.fresh = true ∧ D.freshs ds = true := by simpa [D.freshs] using f
    have p : d.plain = true ∧ D.plains ds = true := by simpa [D.plains] using p
    exact .cons (Rep.toDp hS hT r f.1 p.1) (Reps.toDp hS hT q f.2 p.2)
end
end
end Vm
/-! VmK: comprehensions over a dict (it is locked while it is walked). -/
namespace Vm
open PySem PySem.Spec L2
/-! what is not locked stays -/
section
variable {W W' : Wd} {H H' : Hp} {Vt Vt' : Addr → Prop}
mutual
theorem Rep.conv2 (hK : ∀ a o, H a = some o → (∀ q u, o ≠ .frz q u) → ¬ W.O a → ¬ Vt a → H' a = some o ∧ ¬ W'.O a ∧ ¬ Vt' a ∧ (¬ W.old a → ¬ W'.old a)) (hV : ∀ a, Vt a → Vt' a) :
    ∀ {v : V} {d : D}, Rep W H Vt v d → Rep W' H' Vt' v d
  | _, _, .non => .non
  | _, _, .bl b => .bl b
  | _, _, .int i => .int i
  | _, _, .str s => .str s
  | _, _, .lst e h1 h2 h3 r => let q := hK _ _ e (fun _ _ z => nomatch z) h1 h2; .lst q.1 q.2.1 q.2.2.1 (fun z => q.2.2.2 (h3 z)) (Reps.conv2 hK hV r)
  | _, _, .tup e h1 h2 r => let q := hK _ _ e (fun _ _ z => nomatch z) h1 h2; .tup q.1 q.2.1 q.2.2.1 (Reps.conv2 hK hV r)
  | _, _, .dic e h1 h2 h3 r => let q := hK _ _ e (fun _ _ z => nomatch z) h1 h2; .dic q.1 q.2.1 q.2.2.1 (fun z => q.2.2.2 (h3 z)) (Repk.conv2 hK hV r)
  | _, _, .pur h => .pur (hV _ h)
theorem Reps.conv2 (hK : ∀ a o, H a = some o → (∀ q u, o ≠ .frz q u) → ¬ W.O a → ¬ Vt a → H' a = some o ∧ ¬ W'.O a ∧ ¬ Vt' a ∧ (¬ W.old a → ¬ W'.old a)) (hV : ∀ a, Vt a → Vt' a) :
    ∀ {vs : List V} {ds : List D}, Reps W H Vt vs ds → Reps W' H' Vt' vs ds
  | _, _, .nil => .nil
  | _, _, .cons r rs => .cons (Rep.conv2 hK hV r) (Reps.conv2 hK hV rs)
theorem Repk.conv2 (hK : ∀ a o, H a = some o → (∀ q u, o ≠ .frz q u) → ¬ W.O a → ¬ Vt a → H' a = some o ∧ ¬ W'.O a ∧ ¬ Vt' a ∧ (¬ W.old a → ¬ W'.old a)) (hV : ∀ a, Vt a → Vt' a) :
    ∀ {vs : List (Key × V)} {ds : List (Key × D)}, Repk W H Vt vs ds → Repk W' H' Vt' vs ds
  | _, _, .nil => .nil
  | _, _, .cons r rs => .cons (Rep.conv2 hK hV r) (Repk.conv2 hK hV rs)
end
/-! data without a dict: all else may be locked -/
mutual
theorem Rep.conv3 (hK : ∀ a o, H a = some o → (∀ u, o ≠ .dK u) → (∀ q u, o ≠ .frz q u) → ¬ W.O a → ¬ Vt a → H' a = some o ∧ ¬ W'.O a ∧ ¬ Vt' a ∧ (¬ W.old a → ¬ W'.old a)) (hV : ∀ a, Vt a → Vt' a) :
    ∀ {v : V} {d : D}, Rep W H Vt v d → d.nodic = true → Rep W' H' Vt' v d
  | _, _, .non, _ => .non
  | _, _, .bl b, _ => .bl b
  | _, _, .int i, _ => .int i
  | _, _, .str s, _ => .str s
  | _, .lst _ _, .lst e h1 h2 h3 r, n => let q := hK _ _ e (fun _ z => nomatch z) (fun _ _ z => nomatch z) h1 h2; .lst q.1 q.2.1 q.2.2.1 (fun z => q.2.2.2 (h3 z)) (Reps.conv3 hK hV r n)
  | _, .tup _, .tup e h1 h2 r, n => let q := hK _ _ e (fun _ z => nomatch z) (fun _ _ z => nomatch z) h1 h2; .tup q.1 q.2.1 q.2.2.1 (Reps.conv3 hK hV r n)
  | _, .dic _ _, .dic _ _ _ _ _, n => nomatch n
  | _, _, .pur h, _ => .pur (hV _ h)
theorem Reps.conv3 (hK : ∀ a o, H a = some o → (∀ u, o ≠ .dK u) → (∀ q u, o ≠ .frz q u) → ¬ W.O a → ¬ Vt a → H' a = some o ∧ ¬ W'.O a ∧ ¬ Vt' a ∧ (¬ W.old a → ¬ W'.old a)) (hV : ∀ a, Vt a → Vt' a) :
    ∀ {vs : List V} {ds : List D}, Reps W H Vt vs ds → D.nodics ds = true → Reps W' H' Vt' vs ds
  | _, _, .nil, _ => .nil
  | _, _ :: _, .cons r rs, n => by
    simp only [D.nodics, Bool.and_eq_true] at n
    exact .cons (Rep.conv3 hK hV r n.1) (Reps.conv3 hK hV rs n.2)
end
theorem Repk.conv3 (hK : ∀ a o, H a = some o → (∀ u, o ≠ .dK u) → (∀ q u, o ≠ .frz q u) → ¬ W.O a → ¬ Vt a → H' a = some o ∧ ¬ W'.O a ∧ ¬ Vt' a ∧ (¬ W.old a → ¬ W'.old a)) (hV : ∀ a, Vt a → Vt' a) :
    ∀ {vs : List (Key × V)} {ds : List (Key × D)}, Repk W H Vt vs ds → D.nodick ds = true → Repk W' H' Vt' vs ds
  | _, _, .nil, _ => .nil
  | _, _, .cons r rs, n => by
    simp only [D.nodick, Bool.and_eq_true] at n
    exact .cons (Rep.conv3 hK hV r n.1) (Repk.conv3 hK hV rs n.2)
end
theorem lockI_get {ow : Bool} {i j : Nat} {ρ : List Sl} {s : Sl} (e : (lockI ow i ρ)[j]? = some s) (ne : s ≠ .dead) : j ≠ i ∧ ((∃ d, s = .pure d ∧ ρ[j]? = some (.pure d) ∧ (ow || d.nodic) = true) ∨ ∃ d, s = .own d ∧ ρ[j]? = some (.own d) ∧ (ow || d.inner) = true) := by
  unfold lockI at e
  rw [List.getElem?_mapIdx] at e
  cases q : ρ[j]? with
  | none => rw [q] at e; cases e
  | some u =>
    rw [q] at e
    have e : (if j = i then Sl.dead else lockS ow u) = s := Option.some.inj e
    by_cases h : j = i
    · rw [if_pos h] at e; exact absurd e.symm ne
    · rw [if_neg h] at e
      refine ⟨h, ?_⟩
      cases u with
      | dead => exact absurd e.symm ne
      | bor d => exact absurd e.symm ne
      | dp d => exact absurd e.symm ne
      | bdp d => exact absurd e.symm ne
      | pure d =>
        by_cases c : (ow || d.nodic) = true
        · have e : (if (ow || d.nodic) = true then Sl.pure d else .dead) = s := e
          rw [if_pos c] at e; exact .inl ⟨d, e.symm, rfl, c⟩
        · have e : (if (ow || d.nodic) = true then Sl.pure d else .dead) = s := e
          rw [if_neg c] at e; exact absurd e.symm ne
      | own d =>
        by_cases c : (ow || d.inner) = true
        · have e : (if (ow || d.inner) = true then Sl.own d else .dead) = s := e
          rw [if_pos c] at e; exact .inr ⟨d, e.symm, rfl, c⟩
        · have e : (if (ow || d.inner) = true then Sl.own d else .dead) = s := e
          rw [if_neg c] at e; exact absurd e.symm ne
theorem getD_some' {ρ : List Sl} {i : Nat} {s : Sl} (h : ρ.getD i .dead = s) (ne : s ≠ .dead) : ρ[i]? = some s := by
  rw [List.getD_eq_getElem?_getD] at h
  cases q : ρ[i]? with
  | none => rw [q] at h; exact absurd h.symm ne
  | some u => rw [q] at h; simp at h; rw [h]
theorem lockI_len {ow : Bool} {i : Nat} {ρ : List Sl} : (lockI ow i ρ).length = ρ.length := by unfold lockI; rw [List.length_mapIdx]

theorem Repk.get {W : Wd} {H : Hp} {Vt : Addr → Prop} : ∀ {us : List (Key × V)} {ds : List (Key × D)} {i : Nat} {k : Key} {v : V}, Repk W H Vt us ds → us[i]? = some (k, v) → ∃ d, ds[i]? = some (k, d) ∧ Rep W H Vt v d
  | _, _, _, _, _, .nil, e => by simp at e
  | _, _, 0, _, _, .cons r _, e => by simp at e; obtain ⟨rfl, rfl⟩ := e; exact ⟨_, rfl, r⟩
  | _, _, i + 1, k, v, .cons _ t, e => by
    obtain ⟨d, h1, h2⟩ := Repk.get (i := i) (k := k) (v := v) t (by simpa using e)
    exact ⟨d, by simpa using h1, h2⟩
def keyD : Key → D
  | .inl i => .int i | .inr s => .str s
theorem rep_key {W : Wd} {H : Hp} {Vt : Addr → Prop} : ∀ k : Key, Rep W H Vt (kV k) (keyD k)
  | .inl i => .int i
  | .inr s => .str s
section
variable {Γ : Ga} {sc : Scope} {fnk : Str → Bool}
/-- the dict at slot i, locked -/
theorem lock_sound {g : TG} {tt : TT} {te : TE} {cond ex : Ex} {t : Tg} {vs : List Nat} {kk : Ik} {i : Nat} {wi : TI} (hv : ∀ i ∈ t.vars, i ∈ vs)
    (hkk : (kk = .keys ∧ wi = iKeys (tVar i)) ∨ (kk = .items ∧ wi = iItems (tVar i)))
    (sg : ∀ (W : Wd) (H : Hp) (Vt : Addr → Prop) (σ : L2.St) (ρ : List Sl) (v : V) (d : D) (Q : List Sl → Prop) (Post : L2.St → Hp → Prop), SlotsOk W H Vt σ ρ → Rep W H Vt v d → tgW t d ρ Q →
      (∀ σ' ρ', SlotsOk W H Vt σ' ρ' → SameBut t.vars σ σ' → Q ρ' → Post σ' H) → g v σ H Post)
    (st : ∀ W H Vt n σ ρ Q Post, Sit Γ W H Vt n σ ρ E0 noR → wpT Γ.Ψ cond noR ρ n Q → (∀ k H', TPost H Vt Q k H' → Post k H') → tt σ H Post)
    (se : ∀ W H Vt n σ ρ Q Post, Sit Γ W H Vt n σ ρ E0 noR → wpE Γ.Ψ ex noR ρ n Q → (∀ v H', EPost W H Vt Q v H' → Post v H') → te σ H Post) :
    ∀ W H Vt n σ ρ E R Q Post, Sit Γ W H Vt n σ ρ E R → wpE Γ.Ψ (.comp kk (.econs (.var i) .enil) t cond ex vs) R ρ n Q → (∀ v H', EPost W H Vt Q v H' → Post v H') → tLockE (tLc wi g tt te vs) σ H Post := by
  intro W H Vt n σ ρ E R Q Post S w hp
  unfold wpE at w
  have hlp : lockP kk (.econs (.var i) .enil) ρ = lockW (ρ.getD i .dead) i ρ := by rcases hkk with ⟨rfl, _⟩ | ⟨rfl, _⟩ <;> rfl
  rw [hlp] at w
  -- the dict, its lock
  obtain ⟨a, us, tg, kvs, ow, hσ, ha, na, rk, hown, hnod, hl, w1⟩ : ∃ (a : Addr) (us : List (Key × V)) (tg : Bool) (kvs : List (Key × D)) (ow : Bool), σ[i]? = some (some (.ref a)) ∧ H a = some (.dK us) ∧ ¬ Vt a ∧ Repk W H Vt us kvs ∧
      (if ow = true then (∃ d, ρ[i]? = some (.own d)) ∧ W.O a else ¬ W.O a) ∧ (ow || D.nodick kvs) = true ∧ True ∧
      itemsW kk [.dic tg kvs] fun xs => compW (fun x n K => tgW t x (wipeS (lockI ow i ρ) vs) fun ρ' => wpE Γ.Ψ cond noR ρ' n fun c n2 => c.read fun y => truW y fun b => if b = true then wpE Γ.Ψ ex noR ρ' n2 fun z n3 => z.take fun d => K (some d) n3 else K none n2)
        xs n [] fun ys n2 => Q (.own (.lst true ys)) n2 := by
    cases hs : ρ.getD i .dead with
    | dead => rw [hs] at w; exact (show False from w).elim
    | bor d => rw [hs] at w; exact (show False from w).elim
    | dp d => rw [hs] at w; exact (show False from w).elim
    | bdp d => rw [hs] at w; exact (show False from w).elim
    | own d =>
      have e := getD_some' hs (by intro z; cases z)
      obtain ⟨v, ev, it⟩ := S.sl.get i _ e (by intro z; cases z)
      rw [hs] at w
      have w : wpL Γ.Ψ (.econs (.var i) .enil) R ρ n _ := w
      unfold wpL wpL wpE at w
      rw [hs] at w
      have w : itemsW kk [d] _ := w
      cases d with
      | dic tg kvs =>
        obtain ⟨a, ea, _, _⟩ := Own.ref (show Own W H Vt v _ from it)
        subst ea
        have it : Own W H Vt (.ref a) (.dic tg kvs) := it
        cases it with
        | dic h n1 n2 q => exact ⟨a, _, tg, kvs, true, ev, h, n1, q, ⟨⟨_, e⟩, S.sl.own i _ a e ev⟩, rfl, True.intro, w⟩
      | _ => rcases hkk with ⟨rfl, _⟩ | ⟨rfl, _⟩ <;> exact (show False from w).elim
    | pure d =>
      have e := getD_some' hs (by intro z; cases z)
      obtain ⟨v, ev, it⟩ := S.sl.get i _ e (by intro z; cases z)
      cases d with
      | dic tg kvs =>
        by_cases hn : D.nodick kvs = true
        · have hv : lockW (.pure (.dic tg kvs)) i ρ = some (lockI false i ρ) := if_pos hn
          rw [hs, hv] at w
          have w : wpL Γ.Ψ (.econs (.var i) .enil) R ρ n _ := w
          unfold wpL wpL wpE at w
          rw [hs] at w
          have it : Rep W H Vt v (.dic tg kvs) := it
          cases it with
          | dic h n0 n1 n2 q => exact ⟨_, _, tg, kvs, false, ev, h, n1, q, n0, hn, True.intro, w⟩
        · have hv : lockW (.pure (.dic tg kvs)) i ρ = none := if_neg hn
          rw [hs, hv] at w; exact w.elim
      | _ => rw [hs] at w; exact (show False from w).elim
  refine ⟨a, .dK us, ha, True.intro, fun od => ?_⟩
  have hdK : ∀ c o, H c = some o → (∀ u, o ≠ .dK u) → c ≠ a := fun c o e n z => by rw [z, ha] at e; cases e; exact n _ rfl
  have hlk : ∀ {c : Addr}, c ≠ a → upd H a (.frz od (.dK us)) c = H c := fun n => upd_ne n
  -- what is seen of data
  have rl : ∀ {v : V} {d : D}, Rep W H Vt v d → (ow || d.nodic) = true → Rep W (upd H a (.frz od (.dK us))) Vt v d := fun {v d} r h => by
    cases ow with
    | true => exact r.conv (fun c o e n1 n2 => ⟨by rw [hlk (show c ≠ a from fun z => n1 (z ▸ hown.2))]; exact e, n1, n2, fun z => z⟩) fun _ z => z
    | false => exact r.conv3 (fun c o e nd _ n1 n2 => ⟨by rw [hlk (hdK c o e nd)]; exact e, n1, n2, fun z => z⟩) (fun _ z => z) h
  have rsl : ∀ {v : List V} {d : List D}, Reps W H Vt v d → (ow || D.nodics d) = true → Reps W (upd H a (.frz od (.dK us))) Vt v d := fun {v d} r h => by
    cases ow with
    | true => exact r.conv (fun c o e n1 n2 => ⟨by rw [hlk (show c ≠ a from fun z => n1 (z ▸ hown.2))]; exact e, n1, n2, fun z => z⟩) fun _ z => z
    | false => exact r.conv3 (fun c o e nd _ n1 n2 => ⟨by rw [hlk (hdK c o e nd)]; exact e, n1, n2, fun z => z⟩) (fun _ z => z) h
  have rkl : ∀ {v : List (Key × V)} {d : List (Key × D)}, Repk W H Vt v d → (ow || D.nodick d) = true → Repk W (upd H a (.frz od (.dK us))) Vt v d := fun {v d} r h => by
    cases ow with
    | true => exact r.conv (fun c o e n1 n2 => ⟨by rw [hlk (show c ≠ a from fun z => n1 (z ▸ hown.2))]; exact e, n1, n2, fun z => z⟩) fun _ z => z
    | false => exact r.conv3 (fun c o e nd _ n1 n2 => ⟨by rw [hlk (hdK c o e nd)]; exact e, n1, n2, fun z => z⟩) (fun _ z => z) h
  have ol : ∀ {b : Addr} {d : D}, Own W H Vt (.ref b) d → b ≠ a → (ow || d.inner) = true → Own W (upd H a (.frz od (.dK us))) Vt (.ref b) d := fun {b d} r ne h => by
    cases r with
    | lst e n1 n2 q => exact .lst (by rw [hlk ne]; exact e) n1 n2 (rsl q h)
    | dic e n1 n2 q => exact .dic (by rw [hlk ne]; exact e) n1 n2 (rkl q h)
  have estL : ESt W (upd H a (.frz od (.dK us))) Vt n := by
    have dm : ∀ c, H c ≠ none → upd H a (.frz od (.dK us)) c ≠ none := fun c z => by
      by_cases q : c = a
      · rw [q, upd_same]; simp
      · rw [hlk q]; exact z
    refine ⟨fun c z => dm c (S.est.oDom c z), fun c z => dm c (S.est.oldDom c z), fun c z => ?_, S.est.oV⟩
    obtain ⟨s, c', k, tt, h1, r⟩ := S.est.pur c z
    exact ⟨s, c', k, tt, by rw [hlk (show c ≠ a from fun q => na (q ▸ z))]; exact h1, r⟩
  have slL : SlotsOk W (upd H a (.frz od (.dK us))) Vt σ (lockI ow i ρ) := by
    refine ⟨S.sl.len.trans lockI_len.symm, fun j s e ne => ?_, fun j d c e1 e2 => ?_, fun j l c d1 d2 e1 e2 e3 e4 => ?_⟩
    · obtain ⟨hj, ⟨d, rfl, e1, h1⟩ | ⟨d, rfl, e1, h1⟩⟩ := lockI_get e ne
      · obtain ⟨v, ev, it⟩ := S.sl.get j _ e1 ne
        exact ⟨v, ev, rl it h1⟩
      · obtain ⟨v, ev, it⟩ := S.sl.get j _ e1 ne
        obtain ⟨b, eb, _, _⟩ := Own.ref (show Own W H Vt v d from it)
        subst eb
        refine ⟨_, ev, ol it (fun z => ?_) h1⟩
        subst z
        cases ow with
        | true =>
          obtain ⟨⟨d0, e0⟩, _⟩ := hown
          exact hj (S.sl.inj j i b d d0 e1 e0 ev hσ)
        | false => exact hown (S.sl.own j d b e1 ev)
    · obtain ⟨hj, ⟨d', z, _⟩ | ⟨d', z, e3, _⟩⟩ := lockI_get e1 (by intro z; cases z)
      · cases z
      · cases z; exact S.sl.own j d c e3 e2
    · obtain ⟨_, ⟨d', z, _⟩ | ⟨d', z, e5, _⟩⟩ := lockI_get e1 (by intro z; cases z)
      · cases z
      · cases z
        obtain ⟨_, ⟨d', z, _⟩ | ⟨d', z, e6, _⟩⟩ := lockI_get e2 (by intro z; cases z)
        · cases z
        · cases z; exact S.sl.inj j l c d1 d2 e5 e6 e3 e4
  have rkL := rkl rk hnod
  have hlen : us.length = kvs.length := rk.length
  -- behind the walk
  have fin : ∀ {A0 : Addr}, (upd H a (.frz od (.dK us))) A0 = none → ∀ (Hc : Hp) (Vc : Addr → Prop) (nc : Nat) (av : List V) (ad : List D), Grow (upd H a (.frz od (.dK us))) Vt Hc Vc → ESt (withD W A0) Hc Vc nc → Hc A0 = some (.lst av) → Reps (withD W A0) Hc Vc av ad →
      Q (.own (.lst true ad)) nc → Hc a = some (.frz od (.dK us)) ∧ Post (.ref A0) (upd Hc a (.dK us)) := by
    intro A0 hA0 Hc Vc nc av ad gg eg hD ra q
    have hAa : A0 ≠ a := fun z => by rw [z, upd_same] at hA0; cases hA0
    have hfr : Hc a = some (.frz od (.dK us)) := gg.keep a _ upd_same na
    have hu : ∀ {c : Addr}, c ≠ a → upd Hc a (.dK us) c = Hc c := fun n => upd_ne n
    have nVa : ¬ Vc a := gg.noVt upd_same na
    refine ⟨hfr, hp _ _ ⟨Vc, nc, .own (.lst true ad), ⟨fun c o e n => ?_, fun c e => ?_, gg.sub, fun c e => ?_⟩, fun c z => ?_, ?_, fun d c _ z => ?_, q⟩⟩
    · by_cases h : c = a
      · subst h; rw [ha] at e; cases e; exact upd_same
      · rw [hu h]; exact gg.keep c o (by rw [hlk h]; exact e) n
    · by_cases h : c = a
      · subst h; rw [upd_same]; simp
      · rw [hu h]; exact gg.dom c (by rw [hlk h]; exact e)
    · rcases gg.new c e with z | z
      · exact .inl z
      · by_cases h : c = a
        · subst h; exact absurd e nVa
        · rw [hlk h] at z; exact .inr z
    · obtain ⟨s, c', k, tt, h1, r⟩ := eg.pur c z
      exact ⟨s, c', k, tt, by rw [hu (show c ≠ a from fun q => nVa (q ▸ z))]; exact h1, r⟩
    · refine .lst (by rw [hu hAa]; exact hD) (eg.oV A0 (.inr rfl)) (fun _ z => ?_) (Reps.conv2 (W := withD W A0) (fun c o e nf n1 n2 => ⟨?_, fun z => n1 (Or.inl z), n2, fun z => z⟩) (fun _ z => z) ra)
      · exact S.est.oldDom A0 z (by rw [← hlk hAa]; exact hA0)
      · rw [hu (show c ≠ a from fun z => by rw [z, hfr] at e; cases e; exact nf _ _ rfl)]; exact e
    · cases z; rw [← hlk hAa]; exact hA0
  -- the loop
  have go : ∀ {J : It} {xs : List D} {Y : Nat → Hp → V → Hp → Prop}, Walk J xs.length (fun H => H a = some (.frz od (.dK us))) Y →
      (∀ A0 Hc Vc nc i x H', (upd H a (.frz od (.dK us))) A0 = none → ESt (withD W A0) Hc Vc nc → Repk (withD W A0) Hc Vc us kvs → i < xs.length → Y i Hc x H' → ∃ d, xs[i]? = some d ∧ Rep (withD W A0) H' Vc x d ∧ Grow Hc Vc H' Vc ∧ ESt (withD W A0) H' Vc nc) →
      (compW (fun x n K => tgW t x (wipeS (lockI ow i ρ) vs) fun ρ' => wpE Γ.Ψ cond noR ρ' n fun c n2 => c.read fun y => truW y fun b => if b = true then wpE Γ.Ψ ex noR ρ' n2 fun z n3 => z.take fun d => K (some d) n3 else K none n2)
        xs n [] fun ys n2 => Q (.own (.lst true ys)) n2) →
      ∀ A0, (upd H a (.frz od (.dK us))) A0 = none → ∃ W0 : Nat → Nat → Hp → Prop, (∃ m, W0 0 m (upd (upd H a (.frz od (.dK us))) A0 (.lst []))) ∧ ∀ i m H, W0 i m H →
        (J.stop i H ∧ (H a = some (.frz od (.dK us)) ∧ Post (.ref A0) (upd H a (.dK us)))) ∨ (J.go i H ∧ ∃ Nx : Hp → Prop, (∀ H', Nx H' → ∃ m', m' < m ∧ W0 (i + 1) m' H') ∧ ∀ x H', J.yld i H x H' → g x (wipe σ vs) H' fun σ2 H2 => wipe σ2 vs = wipe σ vs ∧ tt σ2 H2 fun b H3 =>
          if b = true then te σ2 H3 fun y H4 => ∃ acc, H4 A0 = some (.lst acc) ∧ acc.length < sizeLine ∧ Nx (upd H4 A0 (.lst (acc ++ [y]))) else Nx H3) := by
    intro J xs Y wk hY wc A0 hA0
    refine comp_loop (elt := .Constant .none 0 ⟨0, 0, 0, 0⟩) (tg := .Constant .none 0 ⟨0, 0, 0, 0⟩) (ifs := []) hv sg st se estL slL wk hA0 (fun Hc Vc gg => gg.keep a _ upd_same na) (fun Hc Vc nc i x H' eg gg hi hy => ?_) wc (fin hA0)
    refine hY A0 Hc Vc nc i x H' hA0 eg ?_ hi hy
    have rkA : Repk (withD W A0) (upd H a (.frz od (.dK us))) Vt us kvs := Repk.conv (W := W) (W' := withD W A0) (fun c o e n1 n2 => ⟨e, fun z => (show W.O c ∨ c = A0 from z).elim n1 (fun z => by rw [z, hA0] at e; cases e), n2, fun z => z⟩) (fun _ z => z) rkL
    exact rkA.grow gg
  rcases hkk with ⟨rfl, rfl⟩ | ⟨rfl, rfl⟩
  · refine ⟨.ref a, hσ, a, od, rfl, .inl ⟨us, upd_same, ?_⟩⟩
    have w1 : compW _ (kvs.map fun p => match p.1 with | .inl i => D.int i | .inr s => D.str s) n [] _ := w1
    refine go (xs := kvs.map fun p => match p.1 with | .inl i => D.int i | .inr s => D.str s) (by rw [List.length_map, ← hlen]; exact walk_keys) (fun A0 Hc Vc nc i x H' hA0 eg rr hi hy => ?_) w1
    obtain ⟨rfl, k, v, e1, rfl⟩ := hy
    obtain ⟨d, e2, _⟩ := rr.get e1
    refine ⟨keyD k, ?_, rep_key k, Grow.refl, eg⟩
    rw [List.getElem?_map, e2]
    cases k <;> rfl
  · refine ⟨.ref a, hσ, a, od, us, rfl, upd_same, ?_⟩
    have w1 : compW _ (kvs.map fun p => pairD (match p.1 with | .inl i => D.int i | .inr s => D.str s) p.2) n [] _ := w1
    refine go (xs := kvs.map fun p => pairD (match p.1 with | .inl i => D.int i | .inr s => D.str s) p.2) (by rw [List.length_map, ← hlen]; exact walk_items) (fun A0 Hc Vc nc i x H' hA0 eg rr hi hy => ?_) w1
    obtain ⟨T, x1, x2, rfl, hT, rfl, e1, e2⟩ := hy
    have e1 : (us[i]?).map (fun kv => kV kv.1) = some x1 := e1
    have e2 : (us[i]?).map Prod.snd = some x2 := e2
    cases q : us[i]? with
    | none => rw [q] at e1; cases e1
    | some p =>
      obtain ⟨k, v⟩ := p
      rw [q] at e1 e2
      cases e1; cases e2
      obtain ⟨d, e3, r3⟩ := rr.get q
      have gg : Grow Hc Vc (upd Hc T (.tup [kV k, v])) Vc := Grow.upd hT
      refine ⟨pairD (keyD k) d, ?_, .tup upd_same (fun z => eg.oDom T z hT) (fun z => (eg.pur T z).dom hT) (.cons (rep_key k) (.cons (r3.grow gg) .nil)), gg, eg.upd hT⟩
      rw [List.getElem?_map, e3]
      cases k <;> rfl

/-- a comprehension over a dict's keys or pairs -/
def DictIt (i : Nat) (x : Str) (kk : Ik) (tg it : Expr) : Prop :=
  (kk = .keys ∧ ∃ p, it = .Name x p) ∨ (kk = .items ∧ ∃ (p apos cpos tp : Pos) (es : List Expr) (k : Nat), it = .Call (.Attribute (.Name x p) "items" apos) [] [] cpos ∧ (apos.endLine == cpos.line) = true ∧ tg = .Tuple es k tp)
theorem dict_core {kk : Ik} {i : Nat} {x : Str} {elt tg iter : Expr} {ifs : List Expr} {scope : Scope} {own : List (Str × Nat)} {pos : Pos} {cond ex : Ex} {t : Tg} (hd : DictIt i x kk tg iter)
    (hN : Γ.N[i]? = some x) (hvis : vis sc x = true) (hdb : (x == ("__debug__" : Str)) = false) (hcd : (x == ("__classdict__" : Str)) = false)
    (hb : blkC Γ.N sc scope own = true) (hv : ∀ i ∈ t.vars, i ∈ own.map (·.2)) (hg : BG Γ (scB scope sc) (fnB scope) tg t) (hc : Conds Γ (scB scope sc) (fnB scope) ifs cond) (he : BE Γ (scB scope sc) (fnB scope) elt ex) :
    ∃ tt : XK → TE, (∀ E X, Good Γ sc fnk E X → PE X (.ListComp elt [⟨tg, iter, ifs, 0⟩] scope pos) (tt E)) ∧
      (∀ E X, Good Γ sc fnk E X → ∀ (i : Nat) (y : Str) (py spos : Pos), Γ.N[i]? = some y → sc.names.lookup y = some .local → sc.kind = .function → (py.line == pos.line) = true →
        (scope.names.any fun (n, k) => n == y && (k == .local || k == .cell)) = false → PS X (.Assign [.Name y py] (.ListComp elt [⟨tg, iter, ifs, 0⟩] scope pos) spos) (tAsg (tt E) (gName i))) ∧
      ∀ W H Vt n σ ρ E R Q Post, Sit Γ W H Vt n σ ρ E R → wpE Γ.Ψ (.comp kk (.econs (.var i) .enil) t cond ex (own.map (·.2))) R ρ n Q → (∀ v H', EPost W H Vt Q v H' → Post v H') → tt E σ H Post := by
  obtain ⟨g, pg, sg⟩ := hg
  obtain ⟨tt, pt, st⟩ := conds_ok hc
  obtain ⟨te, pe, se⟩ := he
  obtain ⟨wi, hkk, pi, hset⟩ : ∃ wi : TI, ((kk = .keys ∧ wi = iKeys (tVar i)) ∨ (kk = .items ∧ wi = iItems (tVar i))) ∧ (∀ E X, Good Γ sc fnk E X → PI X tg iter wi) ∧ ∀ env z, foldedSetIterable iter env z = pure z := by
    rcases hd with ⟨rfl, p, rfl⟩ | ⟨rfl, p, apos, cpos, tp, es, k, rfl, hl, rfl⟩
    · exact ⟨_, .inl ⟨rfl, rfl⟩, fun E X gd => pi_keys (pe_var (by rw [gd.N]; exact hN) (by rw [gd.sc]; exact vis_of hvis) hdb hcd), fun _ _ => rfl⟩
    · exact ⟨_, .inr ⟨rfl, rfl⟩, fun E X gd => pi_items (pe_var (by rw [gd.N]; exact hN) (by rw [gd.sc]; exact vis_of hvis) hdb hcd) rfl hl, fun _ _ => rfl⟩
  refine ⟨fun _ => tLockE (tLc wi g tt (te E0) (own.map (·.2))), fun E X gd => ?_, fun E X gd i y py spos hy hyl hk hl ha => ?_, ?_⟩
  · exact pe_lock (pe_lc gd.calm gd.nd (pi E X gd) (by rw [gd.N, gd.sc]; exact blkOk_by hb) (fun s H C cl fp => pg E0 _ (gd.blk scope s H C cl fp)) (fun s H C cl fp => pt _ (gd.blk scope s H C cl fp)) (fun s H C cl fp => pe E0 _ (gd.blk scope s H C cl fp)) (hset _))
  · have := ps_lock (ps_setLc (spos := spos) (py := py) gd.calm gd.nd (by rw [gd.N]; exact hy) (by rw [gd.sc]; exact hyl) (sw_true (by rw [gd.sc]; exact hk) (by rw [gd.sc]; exact hyl) hl ha) (pi E X gd) (by rw [gd.N, gd.sc]; exact blkOk_by hb)
      (fun s H C cl fp => pg E0 _ (gd.blk scope s H C cl fp)) (fun s H C cl fp => pt _ (gd.blk scope s H C cl fp)) (fun s H C cl fp => pe E0 _ (gd.blk scope s H C cl fp)) (hset _))
    exact ⟨fun pins s σ H D I h => this.run pins s σ H D I h⟩
  · intro W H Vt n σ ρ E R Q Post S w hp
    exact lock_sound hv hkk sg st (fun W H Vt n σ ρ Q Post S w hp => se W H Vt n σ ρ E0 noR Q Post S w hp) W H Vt n σ ρ E R Q Post S w hp
end
end Vm
/-! VmMin: min(xs, default=z) of a list of ints. -/
namespace Vm
open PySem PySem.Spec L2
def dkw (d : Value) : List (Str × Value) := [(Str.ofString "default", d)]
/-- what is least so far -/
def LeastTo (kf : Nat → Int) (n : Nat) (m : Int) : Prop := (∃ i, i < n ∧ kf i = m) ∧ ∀ i, i < n → m ≤ kf i
theorem LeastTo.step {kf : Nat → Int} {n : Nat} {m : Int} (h : LeastTo kf n m) : LeastTo kf (n + 1) (if kf n < m then kf n else m) := by
  obtain ⟨⟨i, hi, e⟩, hm⟩ := h
  split
  · rename_i lt
    refine ⟨⟨n, Nat.lt_succ_self n, rfl⟩, fun j hj => ?_⟩
    by_cases q : j = n
    · subst q; exact Int.le_refl _
    · have := hm j (by omega); omega
  · rename_i ge
    refine ⟨⟨i, by omega, e⟩, fun j hj => ?_⟩
    by_cases q : j = n
    · subst q; omega
    · exact hm j (by omega)
section
variable {prog : Program} {w : World} {A : Around} {I S : Addr} {fp wr : List Addr} {n : Nat} {P : Nat → Value → Prop} {St : Nat → Heap → Prop} {kf : Nat → Int} {d : Value}
theorem mname : (toString "min" ++ toString ".loop" : String) = "min.loop" := by decide
def twoV (a b : Int) : Nat → Int
  | 0 => a | _ + 1 => b
theorem lt_two {A : Around} {a b : Int} {t u : Tok} {s : Shared} {Q : Value → Shared → Prop} {E : Value → Shared → Prop} (h : Q (.bool (decide (a < b))) s) : wpAny (model prog w) A (richCompare .Lt (.int a t) (.int b u)) Q E s :=
  CmpOf.ints_lt (prog := prog) (w := w) (A := A) (P := fun i v => ∃ t, v = .int (twoV a b i) t) (twoV a b) (fun i v h => h) 0 1 _ _ _ _ _ ⟨t, rfl⟩ ⟨u, rfl⟩ h
theorem minD_loop (W : Walks prog w A.in1 I fp wr n P St) (hP : ∀ i v, P i v → ∃ t, v = .int (kf i) t) (hSf : S ∉ fp) {R : Result → Shared → Prop} :
    ∀ (r j : Nat) (s : Shared) (m : Int) (tb : Tok) (c : Nat), n - j = r → j ≤ n → 0 < j → St j s.heap → LeastTo kf j m →
    s.heap.get? S = some { cls := .type "list", dict := none, data := .seq #[.int m tb, .int m tb] c, slots := #[] } →
    (∀ m t h' tk, LeastTo kf n m → (∀ b o, b ∉ wr → b ≠ S → s.heap.get? b = some o → h'.get? b = some o) → R (.ok (.ret (.int m t))) { s with heap := h', toks := tk }) →
    codeAny (model prog w) A (.builtin "min.loop" ⟨[.ref I, .none, .ref S], dkw d⟩) R s := by
  have hSw : S ∉ wr := fun h => hSf (W.sub _ h)
  intro r
  induction r with
  | zero =>
    intro j s m tb c hr hj h0 hst hm hS hR
    obtain rfl : j = n := by omega
    refine codeAny_builtin F.entry_min_loop ?_
    rw [Around.under_plainId F.plain_min_loop _]
    refine wpAny_bind (wpAny_seqItems hS rfl ?_)
    refine wpAny_bind (wpAny_tryCatch (W.done s _ _ hst fun h' tk hk' => ?_))
    have hS' := hk' S _ hSw hS
    show wpAny _ A.in1 (updateSeq S (fun _ => #[]) >>= _) _ _ _
    refine wpAny_bind ?_
    refine wpAny_updateSeq hS' rfl (wpAny_bind (wpAny_letGo (wpAny_pure ?_)))
    exact hR m tb _ tk hm fun b o hbw hbS e => (Heap.get?_update_other _ _ (Ne.symm hbS)).trans (hk' b o hbw e)
  | succ r ih =>
    intro j s m tb c hr hj h0 hst hm hS hR
    have hlt : j < n := by omega
    refine codeAny_builtin F.entry_min_loop ?_
    rw [Around.under_plainId F.plain_min_loop _]
    refine wpAny_bind (wpAny_seqItems hS rfl ?_)
    refine wpAny_bind (wpAny_tryCatch (W.item j s _ _ hlt hst fun v h' tk hv hst' hk' => ?_))
    have hS' := hk' S _ hSw hS
    obtain ⟨t, rfl⟩ := hP j v hv
    show wpAny _ A.in1 (tryCatch (holding [Value.int (kf j) t, Value.int (kf j) t] (richCompare .Lt (Value.int (kf j) t) (Value.int m tb) >>= _)) _ >>= _) _ _ _
    refine wpAny_bind (wpAny_tryCatch (wpAny_holding (wpAny_bind (lt_two ?_))))
    refine wpAny_bind (wpAny_holding (wpAny_truthy_bool ?_))
    refine wpAny_bind (wpAny_letGo (wpAny_pure ?_))
    have hs := hm.step
    by_cases lt : kf j < m
    · rw [if_pos lt] at hs
      simp only [lt, decide_true, if_true]
      refine wpAny_bind ?_
      refine wpAny_updateSeq hS' rfl (wpAny_bind (wpAny_letGo ?_))
      rw [mname]
      refine wpAny_pure ⟨plainId_quiet F.plain_min_loop _, ih (j + 1) _ (kf j) t _ (by omega) hlt (Nat.succ_pos _) (W.frame _ _ _ hst' fun b hbf o e => ?_) hs (Heap.get?_update_self _ hS' rfl) fun m' t' h2 tk2 hm' hk2 => ?_⟩
      · exact (Heap.get?_update_other _ _ (fun h : S = b => hSf (by rw [h]; exact hbf))).trans e
      · exact hR m' t' h2 tk2 hm' fun b o hbw hbS e => hk2 b o hbw hbS ((Heap.get?_update_other _ _ (Ne.symm hbS)).trans (hk' b o hbw e))
    · rw [if_neg lt] at hs
      simp only [lt, decide_false, Bool.false_eq_true, if_false]
      refine wpAny_bind (wpAny_letGo ?_)
      rw [mname]
      exact wpAny_pure ⟨plainId_quiet F.plain_min_loop _, ih (j + 1) _ m tb c (by omega) hlt (Nat.succ_pos _) hst' hs hS' fun m' t' h2 tk2 hm' hk2 => hR m' t' h2 tk2 hm' fun b o hbw hbS e => hk2 b o hbw hbS (hk' b o hbw e)⟩
theorem minD_first (W : Walks prog w A.in1 I fp wr n P St) (hP : ∀ i v, P i v → ∃ t, v = .int (kf i) t) (hSf : S ∉ fp) {R : Result → Shared → Prop} {s : Shared} {c : Nat} (hst : St 0 s.heap)
    (hS : s.heap.get? S = some { cls := .type "list", dict := none, data := .seq #[] c, slots := #[] })
    (hE : n = 0 → ∀ h' tk, (∀ b o, b ∉ wr → b ≠ S → s.heap.get? b = some o → h'.get? b = some o) → R (.ok (.ret d)) { s with heap := h', toks := tk })
    (hR : ∀ m t h' tk, LeastTo kf n m → (∀ b o, b ∉ wr → b ≠ S → s.heap.get? b = some o → h'.get? b = some o) → R (.ok (.ret (.int m t))) { s with heap := h', toks := tk }) :
    codeAny (model prog w) A (.builtin "min.loop" ⟨[.ref I, .none, .ref S], dkw d⟩) R s := by
  have hSw : S ∉ wr := fun h => hSf (W.sub _ h)
  refine codeAny_builtin F.entry_min_loop ?_
  rw [Around.under_plainId F.plain_min_loop _]
  refine wpAny_bind (wpAny_seqItems hS rfl ?_)
  by_cases h0 : n = 0
  · subst h0
    refine wpAny_bind (wpAny_tryCatch (W.done s _ _ hst fun h' tk hk' => ?_))
    show wpAny _ A.in1 (rule s!"{"min"}.default" >>= _) _ _ _
    refine wpAny_bind (wpAny_rule (wpAny_pure ?_))
    exact hE rfl h' tk fun b o hbw _ e => hk' b o hbw e
  · refine wpAny_bind (wpAny_tryCatch (W.item 0 s _ _ (by omega) hst fun v h' tk hv hst' hk' => ?_))
    have hS' := hk' S _ hSw hS
    obtain ⟨t, rfl⟩ := hP 0 v hv
    show wpAny _ A.in1 (updateSeq S (fun _ => #[Value.int (kf 0) t, Value.int (kf 0) t]) >>= _) _ _ _
    refine wpAny_bind ?_
    refine wpAny_updateSeq hS' rfl ?_
    rw [mname]
    refine wpAny_pure ⟨plainId_quiet F.plain_min_loop _, minD_loop (S := S) W hP hSf _ 1 _ (kf 0) t _ rfl (by omega) (Nat.succ_pos _) (W.frame _ _ _ hst' fun b hbf o e => ?_) ⟨⟨0, by omega, rfl⟩, fun i hi => ?_⟩ (Heap.get?_update_self _ hS' rfl) fun m' t' h2 tk2 hm' hk2 => ?_⟩
    · exact (Heap.get?_update_other _ _ (fun h : S = b => hSf (by rw [h]; exact hbf))).trans e
    · have : i = 0 := by omega
      subst this; exact Int.le_refl _
    · exact hR m' t' h2 tk2 hm' fun b o hbw hbS e => hk2 b o hbw hbS ((Heap.get?_update_other _ _ (Ne.symm hbS)).trans (hk' b o hbw e))
end
theorem args_minD (a v : Value) : argsOk "min" ⟨[a], [(Str.ofString "default", v)]⟩ := by unfold argsOk; kernel_rfl
section
variable {prog : Program} {w : World} {A : Around} {E : Value → Shared → Prop} {s : Shared} {l : Addr}
theorem minD_call {d : Value} {xs : Array (Int × Tok)} {Q : Value → Shared → Prop} (hh : A.handled = none) (hl : s.heap.IsList l (intItems xs))
    (hE : (intItems xs).size = 0 → ∀ h' tk, (∀ b o, s.heap.get? b = some o → h'.get? b = some o) → Q d { s with heap := h', toks := tk })
    (hQ : ∀ m t h' tk, LeastTo (numAt xs) (intItems xs).size m → (∀ b o, s.heap.get? b = some o → h'.get? b = some o) → Q (.int m t) { s with heap := h', toks := tk }) :
    wpAny (model prog w) A (call (.builtin "min") [.ref l] (dkw d)) Q E s := by
  refine PyProof.Rows.kmb_tree F.kind_min F.plain_min F.entry_min (args_minD _ _) ?_
  show wpAny _ A.in1 (Builtin.Builtins.bindParams "min" ["key", "default"] 0 ⟨[], [(Str.ofString "default", d)]⟩ >>= _) _ _ s
  refine wpAny_bind (wpAny_of_eq (show Builtin.Builtins.bindParams "min" ["key", "default"] 0 ⟨[], [(Str.ofString "default", d)]⟩ = pure [none, some d] from rfl) ?_)
  refine wpAny_bind (wpAny_pure ?_)
  refine wpAny_bind ?_
  refine iter_intList hl fun s₂ e st hfp hlI => ?_
  subst e
  refine wpAny_bind (wpAny_newObj_type ?_)
  rw [mname]
  have W := Walks.list (prog := prog) (w := w) (A := A.in1) hh _ l hlI (intItems xs)
  have old : ∀ {h' : Heap}, (∀ b o, b ∉ [s.heap.objs.size] → b ≠ (s.heap.push { cls := .type "list_iterator", data := .fields #[.ref l, .int 0 0] }).objs.size →
      ((s.heap.push { cls := .type "list_iterator", data := .fields #[.ref l, .int 0 0] }).push { cls := .type "list", data := .seq [].toArray }).get? b = some o → h'.get? b = some o) → ∀ b o, s.heap.get? b = some o → h'.get? b = some o := fun hk b o e => by
    have hb := Heap.lt_size e
    refine hk b o (by simpa using Nat.ne_of_lt hb) ?_ (Heap.get?_push_of_some _ (Heap.get?_push_of_some _ e))
    rw [Heap.size_push]
    exact Nat.ne_of_lt (Nat.lt_succ_of_lt hb)
  refine wpAny_pure ⟨plainId_quiet F.plain_min_loop _, minD_first (kf := numAt xs) W (fun i v h => intItems_at h) (fun hm => Nat.lt_irrefl _ (hfp _ hm)) (W.frame _ _ _ st fun b _ o e => Heap.get?_push_of_some _ e) (Heap.get?_push_size _ rfl) (fun h0 h' tk hk => hE h0 h' tk (old hk)) fun m t h' tk hm hk => hQ m t h' tk hm (old hk)⟩
end
def rMinD (K : PySem.W.Frag) : List V → List V → Hp → VK → Prop := fun vs zs H Q => ∃ (a : Addr) (ns : List Int) (z : Int), vs = [V.ref a] ∧ zs = [.int z] ∧ SqL K H a (ns.map V.int) ∧ (ns = [] → Q (.int z) H) ∧ ∀ m, m ∈ ns → (∀ y, y ∈ ns → m ≤ y) → Q (.int m) H
theorem cr_minD {X : Cx} (hc : X.calm = true) : CallRK X (.builtin "min") [Str.ofString "default"] (rMinD X.K) := by
  intro pins s σ H vs zs us ws Q I r rz h
  obtain ⟨a, ns, z, rfl, rfl, hs, q0, q⟩ := h
  obtain rfl := Vals.ref1 r
  obtain ⟨w1, rfl, e1⟩ := vals1 rz
  obtain ⟨its, rv, hl, _⟩ := I.list hs
  have hi := rv.ints
  obtain ⟨xs, e⟩ := hi.allInts.items
  have hn : numsOf (intItems xs).toList = ns := by rw [← e]; exact hi.numsOf
  rw [nums_intItems] at hn
  have hl2 := hl.isList
  rw [e] at hl2
  have hz : (intItems xs).size = ns.length := by rw [← hn, List.length_map, Array.length_toList]; simp [intItems]
  refine minD_call (d := w1) (I.ok.hd hc) hl2 (fun h0 h' tk hk => ?_) fun m t h' tk hm hk => ?_
  · have : ns = [] := List.length_eq_zero_iff.mp (hz ▸ h0)
    exact ⟨.int z, H, I.kept hk, e1, q0 this⟩
  · obtain ⟨⟨i, hi', ei⟩, hle⟩ := hm
    rw [hz] at hi' hle
    have g : ∀ j, numAt xs j = ns.getD j 0 := fun j => by rw [← hn]; exact numAt_eq _ _
    refine ⟨.int m, H, I.kept hk, ⟨_, rfl⟩, q m ?_ fun y hy => ?_⟩
    · rw [← ei, g, List.getD_eq_getElem?_getD, List.getElem?_eq_getElem hi']
      exact List.getElem_mem hi'
    · obtain ⟨j, hj, rfl⟩ := List.getElem_of_mem hy
      have := hle j hj
      rw [g, List.getD_eq_getElem?_getD, List.getElem?_eq_getElem hj] at this
      exact this
section
variable {Γ : Ga} {sc : Scope} {fnk : Str → Bool}
theorem be_minD {e e2 : Expr} {x y : Ex} {pf pos pk : Pos} (hg : gbl sc "min" = true) (hn : noStar e = true) (he : BE Γ sc fnk e x) (he2 : BE Γ sc fnk e2 y) :
    BE Γ sc fnk (.Call (.Name "min" pf) [e] [⟨some "default", e2, pk⟩] pos) (.blt .minD (.econs x (.econs y .enil))) := by
  obtain ⟨ta, pa, sa⟩ := he
  obtain ⟨tb, pb, sb⟩ := he2
  refine ⟨fun E => tCKw (rMinD Γ.K) (tCons (ta E) tNil) (tCons (tb E) tNil), fun E X g => ?_, fun W H Vt n σ ρ E R Q Post S w hp => ?_⟩
  · rw [← g.K]
    have hb : X.mg "min" = none := g.blt _ (by decide +kernel)
    refine pe_callBK (ks := [Str.ofString "default"]) (cr_minD g.calm) (gbl_of g hg) hb (by decide +kernel) (pa_cons (pa E X g) pa_nil (star_cons hn _)) (pk_cons (pb E X g) pk_nil) (by decide +kernel) (by decide +kernel) (by rw [star_cons hn]; rfl) (by rw [star_cons hn]; rfl) rfl rfl rfl
  · unfold wpE wpL wpL wpL at w
    refine sa W H Vt n σ ρ E R _ _ S w fun v H1 ⟨V1, n1, s1, g1, p1, i1, y1, w1⟩ => ?_
    refine sb W H1 V1 n1 σ ρ E R _ _ (S.grow g1 p1) w1 fun u H2 ⟨V2, n2, s2, g2, p2, i2, y2, w2⟩ => ?_
    obtain ⟨d, rd, w3⟩ := (i1.grow g2).read w2
    obtain ⟨d2, rd2, w4⟩ := i2.read w3
    cases d with
    | lst t xs =>
      cases d2 with
      | int z =>
        have w5 : (match D.ints xs with
          | some ns => (ns = [] → Q (.pure (.int z)) n2) ∧ (∀ m, m ∈ ns → (∀ y, y ∈ ns → m ≤ y) → Q (.pure (.int m)) n2) | none => False) := w4
        cases e1 : D.ints xs with
        | none => rw [e1] at w5; exact w5.elim
        | some ns =>
          rw [e1] at w5
          obtain ⟨a, vs, rfl, ea, r⟩ := rd.lst
          cases rd2.int
          have ev := reps_ints r e1
          subst ev
          have post : ∀ m, Q (.pure (.int m)) n2 → Post (.int m) H2 := fun m q => hp _ _ ⟨V2, n2, .pure (.int m), g1.trans g2, p2, .int m, (fun _ _ z _ => nomatch z), q⟩
          exact ⟨a, ns, z, rfl, rfl, SqL.of ea, fun h => post z (w5.1 h), fun m h1 h2 => post m (w5.2 m h1 h2)⟩
      | _ => exact (show False from w4).elim
    | _ => revert w4; cases d2 <;> exact fun w4 => (show False from w4).elim
end
end Vm
/-! Vm13: how a def's world goes on; what a name gets. -/
namespace Vm
open PySem PySem.Spec L2

/-- one world behind another -/
structure Stp (W : Wd) (H : Hp) (Vt : Addr → Prop) (W' : Wd) (H' : Hp) (Vt' : Addr → Prop) : Prop where
  keep : ∀ a o, H a = some o → ¬ Vt a → ¬ W.O a → H' a = some o
  dom : ∀ a, H a ≠ none → H' a ≠ none
  sub : ∀ a, Vt a → Vt' a
  new : ∀ a, Vt' a → Vt a ∨ H a = none
  old : W'.old = W.old
  own : ∀ a, W'.O a → W.O a ∨ H a = none
section
variable {W W1 W2 : Wd} {H H1 H2 : Hp} {V0 V1 V2 : Addr → Prop}
theorem Stp.refl : Stp W H V0 W H V0 := ⟨fun _ _ e _ _ => e, fun _ e => e, fun _ e => e, fun _ e => .inl e, rfl, fun _ e => .inl e⟩
theorem none_of (h : ∀ a, H a ≠ none → H1 a ≠ none) {a : Addr} (e : H1 a = none) : H a = none := by
  cases q : H a with
  | none => rfl
  | some o => exact absurd e (h a (by rw [q]; simp))
theorem Stp.trans (a : Stp W H V0 W1 H1 V1) (b : Stp W1 H1 V1 W2 H2 V2) : Stp W H V0 W2 H2 V2 where
  keep := fun c o e n m => b.keep c o (a.keep c o e n m) (fun z => (a.new c z).elim n fun q => by rw [e] at q; cases q) (fun z => (a.own c z).elim m fun q => by rw [e] at q; cases q)
  dom := fun c e => b.dom c (a.dom c e)
  sub := fun c e => b.sub c (a.sub c e)
  new := fun c e => (b.new c e).elim (a.new c) fun q => .inr (none_of a.dom q)
  old := b.old.trans a.old
  own := fun c e => (b.own c e).elim (a.own c) fun q => .inr (none_of a.dom q)
theorem Stp.cv (s : Stp W H V0 W1 H1 V1) : ∀ a o, H a = some o → ¬ W.O a → ¬ V0 a → H1 a = some o ∧ ¬ W1.O a ∧ ¬ V1 a ∧ (¬ W.old a → ¬ W1.old a) := fun a o e n m =>
  ⟨s.keep a o e m n, fun z => (s.own a z).elim n (fun q => by rw [e] at q; cases q), fun z => (s.new a z).elim m (fun q => by rw [e] at q; cases q), fun n z => n (s.old ▸ z)⟩
theorem Stp.rep (s : Stp W H V0 W1 H1 V1) {v : V} {d : D} (r : Rep W H V0 v d) : Rep W1 H1 V1 v d := r.conv s.cv s.sub
theorem Stp.reps (s : Stp W H V0 W1 H1 V1) {v : List V} {d : List D} (r : Reps W H V0 v d) : Reps W1 H1 V1 v d := r.conv s.cv s.sub
theorem Stp.repk (s : Stp W H V0 W1 H1 V1) {v : List (Key × V)} {d : List (Key × D)} (r : Repk W H V0 v d) : Repk W1 H1 V1 v d := r.conv s.cv s.sub

/-- .. by a value alone: nothing changed -/
structure Ext (W : Wd) (H : Hp) (Vt : Addr → Prop) (W' : Wd) (H' : Hp) (Vt' : Addr → Prop) : Prop where
  g : Grow H Vt H' Vt'
  old : W'.old = W.old
  sub : ∀ a, W.O a → W'.O a
  own : ∀ a, W'.O a → W.O a ∨ H a = none
theorem Ext.grow (g : Grow H V0 H1 V1) : Ext W H V0 W H1 V1 := ⟨g, rfl, fun _ z => z, fun _ z => .inl z⟩
theorem Ext.stp (x : Ext W H V0 W1 H1 V1) : Stp W H V0 W1 H1 V1 := ⟨fun a o e n _ => x.g.keep a o e n, x.g.dom, x.g.sub, x.g.new, x.old, x.own⟩
theorem Ext.trans (x : Ext W H V0 W1 H1 V1) (y : Ext W1 H1 V1 W2 H2 V2) : Ext W H V0 W2 H2 V2 :=
  ⟨x.g.trans y.g, y.old.trans x.old, fun a z => y.sub a (x.sub a z), fun a z => (y.own a z).elim (x.own a) fun q => .inr (none_of x.g.dom q)⟩
theorem Ext.ownR (x : Ext W H V0 W1 H1 V1) {v : V} {d : D} (r : Own W H V0 v d) : Own W1 H1 V1 v d :=
  r.conv x.stp.cv x.g.sub fun a o _ e n => ⟨x.g.keep a o e n, x.g.noVt e n, fun n z => n (x.old ▸ z)⟩
theorem Ext.repL (x : Ext W H V0 W1 H1 V1) {v : V} {d : D} (r : Rep (noL W H) H V0 v d) : Rep (noL W1 H1) H1 V1 v d :=
  Rep.conv (W := noL W H) (W' := noL W1 H1) (fun a o e n h => by
    have k := x.g.keep a o e h
    refine ⟨k, fun z => ?_, x.g.noVt e h, fun n z => n (x.old ▸ z)⟩
    obtain ⟨z1, vs, z2⟩ := z
    rcases x.own a z1 with q | q
    · exact n ⟨q, vs, by rw [e, ← k, z2]⟩
    · rw [e] at q; cases q) x.g.sub r
theorem Ext.item (x : Ext W H V0 W1 H1 V1) {v : V} : ∀ {s : Sl}, ItemOk W H V0 v s → ItemOk W1 H1 V1 v s
  | .dead, h => h
  | .pure _, h => x.stp.rep h
  | .own _, h => x.ownR h
  | .bor _, h => x.ownR h
  | .dp _, h => x.repL h
  | .bdp _, h => x.repL h
theorem Ext.slots {σ : L2.St} {ρ : List Sl} (x : Ext W H V0 W1 H1 V1) (s : SlotsOk W H V0 σ ρ) : SlotsOk W1 H1 V1 σ ρ :=
  ⟨s.len, fun i z e n => let ⟨v, a, b⟩ := s.get i z e n; ⟨v, a, x.item b⟩, fun i d a e1 e2 => x.sub a (s.own i d a e1 e2), s.inj⟩
end

/-! ### no list holds itself -/
mutual
def D.sz : D → Nat
  | .non => 1 | .bl _ => 1 | .int _ => 1 | .str _ => 1 | .pur => 1
  | .lst _ xs => D.szs xs + 1
  | .tup xs => D.szs xs + 1
  | .dic _ kvs => D.szk kvs + 1
def D.szs : List D → Nat
  | [] => 0
  | x :: xs => x.sz + D.szs xs
def D.szk : List (Key × D) → Nat
  | [] => 0
  | (_, x) :: xs => x.sz + D.szk xs
end
section
variable {W : Wd} {H : Hp} {Vt : Addr → Prop}
mutual
theorem Rep.sz_eq : ∀ {v : V} {d d' : D}, Rep W H Vt v d → Rep W H Vt v d' → d.sz = d'.sz
  | _, _, _, .non, r => by cases r; rfl
  | _, _, _, .bl b, r => by cases r; rfl
  | _, _, _, .int i, r => by cases r; rfl
  | _, _, _, .str s, r => by cases r; rfl
  | _, _, _, .lst e n1 n2 n3 q, r => by
    cases r with
    | lst e' _ _ _ q' => rw [e] at e'; cases e'; unfold D.sz; rw [Reps.sz_eq q q']
    | tup e' _ _ q' => rw [e] at e'; cases e'
    | dic e' _ _ _ q' => rw [e] at e'; cases e'
    | pur z => exact absurd z n2
  | _, _, _, .tup e n1 n2 q, r => by
    cases r with
    | tup e' _ _ q' => rw [e] at e'; cases e'; unfold D.sz; rw [Reps.sz_eq q q']
    | lst e' _ _ _ q' => rw [e] at e'; cases e'
    | dic e' _ _ _ q' => rw [e] at e'; cases e'
    | pur z => exact absurd z n2
  | _, _, _, .dic e n1 n2 n3 q, r => by
    cases r with
    | dic e' _ _ _ q' => rw [e] at e'; cases e'; unfold D.sz; rw [Repk.sz_eq q q']
    | tup e' _ _ q' => rw [e] at e'; cases e'
    | lst e' _ _ _ q' => rw [e] at e'; cases e'
    | pur z => exact absurd z n2
  | _, _, _, .pur z, r => by
    cases r with
    | pur _ => rfl
    | lst _ _ n _ _ => exact absurd z n
    | tup _ _ n _ => exact absurd z n
    | dic _ _ n _ _ => exact absurd z n
theorem Reps.sz_eq : ∀ {v : List V} {d d' : List D}, Reps W H Vt v d → Reps W H Vt v d' → D.szs d = D.szs d'
  | _, _, _, .nil, .nil => rfl
  | _, _, _, .cons a b, .cons a' b' => by unfold D.szs; rw [Rep.sz_eq a a', Reps.sz_eq b b']
theorem Repk.sz_eq : ∀ {v : List (Key × V)} {d d' : List (Key × D)}, Repk W H Vt v d → Repk W H Vt v d' → D.szk d = D.szk d'
  | _, _, _, .nil, .nil => rfl
  | _, _, _, .cons a b, .cons a' b' => by unfold D.szk; rw [Rep.sz_eq a a', Repk.sz_eq b b']
end
variable {a : Addr} {N : Nat} (hN : ∀ d, Rep W H Vt (.ref a) d → N ≤ d.sz)
include hN
mutual
theorem Rep.avoid : ∀ {v : V} {d : D}, Rep W H Vt v d → d.sz < N → Rep (withD W a) H Vt v d
  | _, _, .non, _ => .non
  | _, _, .bl b, _ => .bl b
  | _, _, .int b, _ => .int b
  | _, _, .str b, _ => .str b
  | _, _, .pur b, _ => .pur b
  | _, .lst t ds, .lst e n1 n2 n3 q, h => by
    have h' : D.szs ds + 1 < N := by unfold D.sz at h; exact h
    refine .lst e (fun z => ?_) n2 n3 (Reps.avoid q (by omega))
    rcases z with z | z
    · exact n1 z
    · subst z
      have := hN _ (.lst e n1 n2 n3 q)
      omega
  | _, .tup ds, .tup e n1 n2 q, h => by
    have h' : D.szs ds + 1 < N := by unfold D.sz at h; exact h
    refine .tup e (fun z => ?_) n2 (Reps.avoid q (by omega))
    rcases z with z | z
    · exact n1 z
    · subst z
      have := hN _ (.tup e n1 n2 q)
      omega
  | _, .dic t ds, .dic e n1 n2 n3 q, h => by
    have h' : D.szk ds + 1 < N := by unfold D.sz at h; exact h
    refine .dic e (fun z => ?_) n2 n3 (Repk.avoid q (by omega))
    rcases z with z | z
    · exact n1 z
    · subst z
      have := hN _ (.dic e n1 n2 n3 q)
      omega
theorem Reps.avoid : ∀ {v : List V} {d : List D}, Reps W H Vt v d → D.szs d < N → Reps (withD W a) H Vt v d
  | _, _, .nil, _ => .nil
  | _, x :: ds, .cons r q, h => by
    have h' : x.sz + D.szs ds < N := by unfold D.szs at h; exact h
    exact .cons (Rep.avoid r (by omega)) (Reps.avoid q (by omega))
theorem Repk.avoid : ∀ {v : List (Key × V)} {d : List (Key × D)}, Repk W H Vt v d → D.szk d < N → Repk (withD W a) H Vt v d
  | _, _, .nil, _ => .nil
  | _, (k, x) :: ds, .cons r q, h => by
    have h' : x.sz + D.szk ds < N := by unfold D.szk at h; exact h
    exact .cons (Rep.avoid r (by omega)) (Repk.avoid q (by omega))
end
end
theorem Own.held {W : Wd} {H : Hp} {Vt : Addr → Prop} {a : Addr} {d : D} (i : Own W H Vt (.ref a) d) (no : ¬ W.O a) : Own (withD W a) H Vt (.ref a) d := by
  cases i with
  | lst e n1 n2 q => exact .lst e n1 n2 (Reps.avoid (N := D.szs _ + 1) (fun d' r' => Nat.le_of_eq ((show (D.lst _ _).sz = _ from Rep.sz_eq (.lst e no n1 n2 q) r'))) q (Nat.lt_succ_self _))
  | dic e n1 n2 q => exact .dic e n1 n2 (Repk.avoid (N := D.szk _ + 1) (fun d' r' => Nat.le_of_eq ((show (D.dic _ _).sz = _ from Rep.sz_eq (.dic e no n1 n2 q) r'))) q (Nat.lt_succ_self _))

/-- a value to be kept under a name: what owns all through is new since H0 -/
def KItem (H0 : Hp) (W : Wd) (H : Hp) (Vt : Addr → Prop) (v : V) : Sl → Prop
  | .pure d => Rep W H Vt v d
  | .own d => Own W H Vt v d ∧ ∃ a, v = .ref a ∧ W.O a
  | .dp d => ∃ N : Addr → Prop, Rdp W N H Vt v d ∧ ∀ a, N a → W.O a ∧ H0 a = none
  | _ => False
/-- no name owns it yet -/
def Apart (σ : L2.St) (ρ : List Sl) (v : V) (z : Sl) : Prop := ∀ (d : D) (a : Addr) (j : Nat) (d' : D), z = Sl.own d → v = V.ref a → ρ[j]? = some (Sl.own d') → σ[j]? ≠ some (some (V.ref a))
theorem SlotsOk.put {W : Wd} {H : Hp} {Vt : Addr → Prop} {σ : L2.St} {ρ : List Sl} (s : SlotsOk W H Vt σ ρ) {v : V} {z : Sl} {H0 : Hp} (k : KItem H0 W H Vt v z) (ap : Apart σ ρ v z) (i : Nat) : SlotsOk W H Vt (σ.set i (some v)) (ρ.set i z) where
  len := by rw [List.length_set, List.length_set]; exact s.len
  get := fun j y e ne => by
    by_cases h : i = j
    · subst h
      have hl : i < ρ.length := by simpa using (List.getElem?_eq_some_iff.mp e).1
      rw [List.getElem?_set_self hl] at e
      cases e
      refine ⟨v, List.getElem?_set_self (by rw [s.len]; exact hl), ?_⟩
      cases z with
      | dead => exact k
      | pure d => exact k
      | own d => exact k.1
      | bor d => exact (show False from k).elim
      | dp d => obtain ⟨N, r, _⟩ := k; exact r.repL
      | bdp d => exact (show False from k).elim
    · rw [List.getElem?_set_ne h] at e
      rw [List.getElem?_set_ne h]
      exact s.get j y e ne
  own := fun j d' a e1 e2 => by
    by_cases h : i = j
    · subst h
      have hl : i < ρ.length := by simpa using (List.getElem?_eq_some_iff.mp e1).1
      rw [List.getElem?_set_self hl] at e1
      rw [List.getElem?_set_self (by rw [s.len]; exact hl)] at e2
      cases e1; cases e2
      obtain ⟨_, a', e, o⟩ := k
      cases e; exact o
    · rw [List.getElem?_set_ne h] at e1 e2
      exact s.own j d' a e1 e2
  inj := fun j l a d1 d2 e1 e2 e3 e4 => by
    by_cases hj : i = j
    · by_cases hk : i = l
      · omega
      · subst hj
        have hl : i < ρ.length := by simpa using (List.getElem?_eq_some_iff.mp e1).1
        rw [List.getElem?_set_self hl] at e1
        rw [List.getElem?_set_self (by rw [s.len]; exact hl)] at e3
        rw [List.getElem?_set_ne hk] at e2 e4
        cases e1; cases e3
        exact absurd e4 (ap _ _ _ _ rfl rfl e2)
    · by_cases hk : i = l
      · subst hk
        have hl : i < ρ.length := by simpa using (List.getElem?_eq_some_iff.mp e2).1
        rw [List.getElem?_set_self hl] at e2
        rw [List.getElem?_set_self (by rw [s.len]; exact hl)] at e4
        rw [List.getElem?_set_ne hj] at e1 e3
        cases e2; cases e4
        exact absurd e3 (ap _ _ _ _ rfl rfl e1)
      · rw [List.getElem?_set_ne hj] at e1 e3
        rw [List.getElem?_set_ne hk] at e2 e4
        exact s.inj j l a d1 d2 e1 e2 e3 e4

/-- the world in which a value that is to be owned all through is told: all there is is old -/
def ageW (o : Hw) (W : Wd) (H : Hp) : Wd := match o with | .d => ⟨W.O, fun a => H a ≠ none⟩ | _ => W
/-- a value comes and is held: the world with it -/
theorem hold_step {W : Wd} {H H1 : Hp} {Vt V1 : Addr → Prop} {n1 : Nat} {v : V} {s : Sl} {n : Nat} (o : Hw) (e : ESt W H Vt n) (g : Grow H Vt H1 V1) (p : ∀ a, V1 a → PurseAt n1 H1 a) (i : ItemOk (ageW o W H) H1 V1 v s)
    (y : ∀ (d : D) (a : Addr), s = Sl.own d → v = V.ref a → H a = none) :
    ∃ W1, Ext W H Vt W1 H1 V1 ∧ ESt W1 H1 V1 n1 ∧ ∀ Q : Sl → Prop, s.keep o Q → ∃ z, Q z ∧ KItem H W1 H1 V1 v z ∧ (∀ (d : D) (a : Addr), z = Sl.own d → v = V.ref a → H a = none) := by
  have e1 := e.grow g p
  cases o with
  | v =>
    refine ⟨W, .grow g, e1, fun Q w => ?_⟩
    cases s with
    | dead => exact i.elim
    | bor d => exact (show False from w).elim
    | dp d => exact (show False from w).elim
    | bdp d => exact (show False from w).elim
    | pure d => exact ⟨.pure d, w, i, fun _ _ z _ => nomatch z⟩
    | own d =>
      obtain ⟨a, ea, _, _⟩ := Own.ref i
      subst ea
      exact ⟨.pure d, w, Own.rep i fun z => e.oDom a z (y d a rfl rfl), fun _ _ z _ => nomatch z⟩
  | o =>
    cases s with
    | dead => exact i.elim
    | bor d => exact ⟨W, .grow g, e1, fun Q w => (show False from w).elim⟩
    | dp d => exact ⟨W, .grow g, e1, fun Q w => (show False from w).elim⟩
    | bdp d => exact ⟨W, .grow g, e1, fun Q w => (show False from w).elim⟩
    | pure d => exact ⟨W, .grow g, e1, fun Q w => (show False from w).elim⟩
    | own d =>
      obtain ⟨a, ea, ha, nv⟩ := Own.ref i
      subst ea
      have fr := y d a rfl rfl
      refine ⟨withD W a, ⟨g, rfl, fun _ z => .inl z, fun b z => ?_⟩, ⟨fun b z => ?_, e1.oldDom, e1.pur, fun b z => ?_⟩, fun Q w => ⟨.own d, w, ⟨?_, a, rfl, .inr rfl⟩, fun _ _ _ z => by cases z; exact fr⟩⟩
      · rcases z with z | z
        · exact .inl z
        · exact .inr (z ▸ fr)
      · rcases z with z | z
        · exact e1.oDom b z
        · exact z ▸ ha
      · rcases z with z | z
        · exact e1.oV b z
        · exact z ▸ nv
      · exact i.held fun z => e.oDom a z fr
  | d =>
    let W1 : Wd := ⟨fun a => W.O a ∨ (H a = none ∧ (∃ vs, H1 a = some (.lst vs)) ∧ ¬ V1 a), W.old⟩
    have x : Ext W H Vt W1 H1 V1 := ⟨g, rfl, fun _ z => .inl z, fun a z => z.elim .inl fun z => .inr z.1⟩
    have ee : ESt W1 H1 V1 n1 := ⟨fun a z => z.elim (e1.oDom a) fun z => by obtain ⟨_, ⟨vs, q⟩, _⟩ := z; rw [q]; simp, e1.oldDom, e1.pur, fun a z => z.elim (e1.oV a) fun z => z.2.2⟩
    have fin : ∀ {d : D}, Rep (ageW .d W H) H1 V1 v d → d.fresh = true → d.plain = true → KItem H W1 H1 V1 v (.dp d) := fun {d} r f pl => by
      refine ⟨fun a => H a = none ∧ (∃ vs, H1 a = some (.lst vs)) ∧ ¬ V1 a, Rep.toDp (W := ageW .d W H) (fun a vs ea no nv => ?_) (fun a vs ea no nv z => ?_) r f pl, fun a z => ⟨.inr z, z.1⟩⟩
      · have hn : H a = none := Classical.byContradiction fun q => no q
        exact ⟨⟨hn, ⟨vs, ea⟩, nv⟩, fun z => e.oldDom a z hn⟩
      · rcases z with z | z
        · exact no z
        · obtain ⟨_, ⟨us, q⟩, _⟩ := z
          rw [ea] at q; cases q
    refine ⟨W1, x, ee, fun Q w => ?_⟩
    cases s with
    | dead => exact i.elim
    | bor d => exact (show False from w).elim
    | dp d => exact (show False from w).elim
    | bdp d => exact (show False from w).elim
    | pure d =>
      have w : (d.fresh = true ∧ d.plain = true) ∧ Q (.dp d) := w
      exact ⟨.dp d, w.2, fin i w.1.1 w.1.2, fun _ _ z => nomatch z⟩
    | own d =>
      have w : (d.fresh = true ∧ d.plain = true) ∧ Q (.dp d) := w
      obtain ⟨a, ea, _, _⟩ := Own.ref i
      subst ea
      exact ⟨.dp d, w.2, fin (Own.rep i fun z => e.oDom a z (y d a rfl rfl)) w.1.1 w.1.2, fun _ _ z => nomatch z⟩
/-- .. and is kept -/
theorem keep_step {W : Wd} {H H1 : Hp} {Vt V1 : Addr → Prop} {n1 : Nat} {v : V} {s : Sl} {o : Hw} {Q : Sl → Prop} {n : Nat} (e : ESt W H Vt n) (g : Grow H Vt H1 V1) (p : ∀ a, V1 a → PurseAt n1 H1 a) (i : ItemOk (ageW o W H) H1 V1 v s)
    (y : ∀ (d : D) (a : Addr), s = Sl.own d → v = V.ref a → H a = none) (w : s.keep o Q) :
    ∃ z W1, Q z ∧ Ext W H Vt W1 H1 V1 ∧ ESt W1 H1 V1 n1 ∧ KItem H W1 H1 V1 v z ∧ (∀ (d : D) (a : Addr), z = Sl.own d → v = V.ref a → H a = none) := by
  obtain ⟨W1, x, e1, h⟩ := hold_step o e g p i y
  obtain ⟨z, q, k, y'⟩ := h Q w
  exact ⟨z, W1, q, x, e1, k, y'⟩
end Vm
/-! Vm14: a def's body: what holds between its statements. -/
namespace Vm
open PySem PySem.Spec L2

/-- the regions of names that own all through -/
structure DpOk (W : Wd) (H : Hp) (Vt : Addr → Prop) (σ : L2.St) (ρ : List Sl) (S : Nat → Addr → Prop) : Prop where
  rep : ∀ (i : Nat) (d : D) (v : V), ρ[i]? = some (.dp d) → σ[i]? = some (some v) → Rdp W (S i) H Vt v d
  sub : ∀ i a, S i a → W.O a
  dis : ∀ i j a, S i a → S j a → i = j
  own : ∀ (i j : Nat) (d : D) (a : Addr), ρ[i]? = some (.own d) → σ[i]? = some (some (.ref a)) → ¬ S j a
section
variable {W W1 : Wd} {H H1 : Hp} {Vt V1 : Addr → Prop} {σ : L2.St} {ρ : List Sl} {S : Nat → Addr → Prop}
theorem Ext.rdp {V0 : Addr → Prop} {T : Addr → Prop} (x : Ext W H V0 W1 H1 V1) {v : V} {d : D} (r : Rdp W T H V0 v d) : Rdp W1 T H1 V1 v d :=
  r.conv (fun a vs e h1 h2 => ⟨x.g.keep a _ e h2, h1, x.g.noVt e h2, fun n z => n (x.old ▸ z)⟩) fun a vs e h1 h2 => ⟨x.g.keep a _ e h2, fun z => (x.own a z).elim h1 fun q => by (rw [e] at q; cases q), x.g.noVt e h2⟩
theorem DpOk.ext (x : Ext W H Vt W1 H1 V1) (k : DpOk W H Vt σ ρ S) : DpOk W1 H1 V1 σ ρ S :=
  ⟨fun i d v e1 e2 => x.rdp (k.rep i d v e1 e2), fun i a h => x.sub a (k.sub i a h), k.dis, k.own⟩
theorem DpOk.none (h : ∀ (i : Nat) (d : D), ρ[i]? ≠ some (.dp d)) : DpOk W H Vt σ ρ fun _ _ => False :=
  ⟨fun i d v e => absurd e (h i d), fun _ _ z => z.elim, fun _ _ _ z => z.elim, fun _ _ _ _ _ _ z => z⟩
/-- another value under a name -/
theorem DpOk.put (k : DpOk W H Vt σ ρ S) {i : Nat} {o : Option V} {z : Sl} (hz : ∀ d, z ≠ .dp d) (ho : ∀ (d : D) (a : Addr), z = .own d → o = some (.ref a) → ∀ j, ¬ S j a) : DpOk W H Vt (σ.set i o) (ρ.set i z) fun j a => j ≠ i ∧ S j a where
  rep := fun j d v e1 e2 => by
    by_cases h : i = j
    · subst h
      have hl : i < ρ.length := by simpa using (List.getElem?_eq_some_iff.mp e1).1
      rw [List.getElem?_set_self hl] at e1
      cases e1
      exact absurd rfl (hz d)
    · rw [List.getElem?_set_ne h] at e1 e2
      exact (k.rep j d v e1 e2).conv (fun a vs e h1 h2 => ⟨e, ⟨Ne.symm h, h1⟩, h2, fun z => z⟩) fun a vs e h1 h2 => ⟨e, h1, h2⟩
  sub := fun j a h => k.sub j a h.2
  dis := fun j l a h1 h2 => k.dis j l a h1.2 h2.2
  own := fun j l d a e1 e2 z => by
    by_cases h : i = j
    · subst h
      have hl : i < ρ.length := by simpa using (List.getElem?_eq_some_iff.mp e1).1
      have hl2 : i < σ.length := by simpa using (List.getElem?_eq_some_iff.mp e2).1
      rw [List.getElem?_set_self hl] at e1
      rw [List.getElem?_set_self hl2] at e2
      cases e1; cases e2
      exact ho d a rfl rfl l z.2
    · rw [List.getElem?_set_ne h] at e1 e2
      exact k.own j l d a e1 e2 z.2
/-- names that were bound to plain values -/
theorem DpOk.less {σ' : L2.St} {ρ' : List Sl} (k : DpOk W H Vt σ ρ S) (h1 : ∀ (j : Nat) (d : D), ρ'[j]? = some (.dp d) → ρ[j]? = some (.dp d) ∧ σ'[j]? = σ[j]?) (h2 : ∀ (j : Nat) (d : D), ρ'[j]? = some (.own d) → ρ[j]? = some (.own d) ∧ σ'[j]? = σ[j]?) : DpOk W H Vt σ' ρ' S :=
  ⟨fun i d v e1 e2 => k.rep i d v (h1 i d e1).1 ((h1 i d e1).2 ▸ e2), k.sub, k.dis, fun i j d a e1 e2 => k.own i j d a (h2 i d e1).1 ((h2 i d e1).2 ▸ e2)⟩
end
/-- the heap grew but for what may change -/
structure GrowM (M : Addr → Prop) (H : Hp) (Vt : Addr → Prop) (H' : Hp) (Vt' : Addr → Prop) : Prop where
  keep : ∀ a o, H a = some o → ¬ Vt a → ¬ M a → H' a = some o
  dom : ∀ a, H a ≠ none → H' a ≠ none
  sub : ∀ a, Vt a → Vt' a
  new : ∀ a, Vt' a → Vt a ∨ H a = none
section
variable {M : Addr → Prop} {H H1 H2 : Hp} {V0 V1 V2 : Addr → Prop}
theorem GrowM.refl : GrowM M H V0 H V0 := ⟨fun _ _ e _ _ => e, fun _ e => e, fun _ e => e, fun _ e => .inl e⟩
theorem GrowM.noVt (g : GrowM M H V0 H1 V1) {a : Addr} {o : HO} (e : H a = some o) (n : ¬ V0 a) : ¬ V1 a := fun z => (g.new a z).elim n fun q => by rw [e] at q; cases q
theorem GrowM.grow (a : GrowM M H V0 H1 V1) (b : Grow H1 V1 H2 V2) : GrowM M H V0 H2 V2 where
  keep := fun c o e n m => b.keep c o (a.keep c o e n m) (a.noVt e n)
  dom := fun c e => b.dom c (a.dom c e)
  sub := fun c e => b.sub c (a.sub c e)
  new := fun c e => (b.new c e).elim (a.new c) fun q => .inr (none_of a.dom q)
theorem GrowM.of (g : Grow H V0 H1 V1) : GrowM M H V0 H1 V1 := ⟨fun a o e n _ => g.keep a o e n, g.dom, g.sub, g.new⟩
theorem GrowM.to (g : GrowM M H V0 H1 V1) (h : ∀ a, ¬ M a) : Grow H V0 H1 V1 := ⟨fun a o e n => g.keep a o e n (h a), g.dom, g.sub, g.new⟩
/-- an object that may change -/
theorem GrowM.set {a : Addr} {o : HO} (g : GrowM M H V0 H1 V1) (h : H a = none ∨ M a) : GrowM M H V0 (upd H1 a o) V1 where
  keep := fun b u e n m => by
    have ne : b ≠ a := fun z => by
      subst z
      exact h.elim (fun q => by rw [e] at q; cases q) m
    rw [upd_ne ne]; exact g.keep b u e n m
  dom := fun b e => by
    by_cases z : b = a
    · rw [z, upd_same]; simp
    · rw [upd_ne z]; exact g.dom b e
  sub := g.sub
  new := g.new
end
/-- where a def (or a loop in it) began -/
structure Ent where
  W : Wd
  H : Hp
  Vt : Addr → Prop
  σ : L2.St
  M : Addr → Prop
  past : Wd → Hp → (Addr → Prop) → Prop
  on : ∀ {W H Vt W' H' Vt'}, past W H Vt → Stp W H Vt W' H' Vt' → past W' H' Vt'
  dom : ∀ a, W.O a → H a ≠ none

structure Bd (Γ : Ga) (B : Ent) (W : Wd) (H : Hp) (Vt : Addr → Prop) (n : Nat) (σ : L2.St) (ρ : List Sl) : Prop where
  est : ESt W H Vt n
  sl : SlotsOk W H Vt σ ρ
  old : W.old = B.W.old
  sub : ∀ a, B.W.O a → W.O a
  gr : GrowM B.M B.H B.Vt H Vt
  young : ∀ (i : Nat) (d : D) (a : Addr), ρ[i]? = some (Sl.own d) → σ[i]? = some (some (V.ref a)) → B.H a = none ∨ (i ∈ Γ.fx ∧ B.M a)
  fixd : ∀ i ∈ Γ.fx, σ[i]? = B.σ[i]?
  past : B.past W H Vt
  nob : ∀ (i : Nat) (d : D), ρ[i]? ≠ some (Sl.bor d) ∧ ρ[i]? ≠ some (Sl.bdp d)
  dps : ∃ S, DpOk W H Vt σ ρ S ∧ ∀ i a, S i a → B.H a = none

structure GoodS (Γ : Ga) (sc : Scope) (fnk : Str → Bool) (E : XK) (X : Cx) : Prop extends Good Γ sc fnk E X where
  owns : PassesOwn (model X.prog X.w) X.A X.env X.xe

structure KOk (Γ : Ga) (B : Ent) (K : KS) (D : Ends) : Prop where
  nx : ∀ W H Vt n σ ρ, Bd Γ B W H Vt n σ ρ → K.nx ρ n → D.nx σ H
  rt : ∀ W H Vt n σ ρ v d, Bd Γ B W H Vt n σ ρ → Rep B.W H Vt v d → K.rt ρ d n → D.rt v H
  bk : ∀ W H Vt n σ ρ, Bd Γ B W H Vt n σ ρ → K.bk ρ n → D.bk σ H
  ct : ∀ W H Vt n σ ρ, Bd Γ B W H Vt n σ ρ → K.ct ρ n → D.ct σ H
def EOk (Γ : Ga) (B : Ent) (E : XK) (R : RK) : Prop := ∀ (H : Hp) (Vt : Addr → Prop) C pl n' c dd H', GrowM B.M B.H B.Vt H Vt → XPost Γ.cl B.W H Vt C pl n' c dd H' → R C pl n' → E c dd H'

def BS (Γ : Ga) (sc : Scope) (fnk : Str → Bool) (st : Stmt) (sm : Sm) : Prop :=
  ∃ t : XK → TS, (∀ E X, GoodS Γ sc fnk E X → PS X st (t E)) ∧
    ∀ B W H Vt n σ ρ E R K D, Bd Γ B W H Vt n σ ρ → EOk Γ B E R → wpS Γ.Ψ R sm ρ n K → KOk Γ B K D → t E D σ H
def BSs (Γ : Ga) (sc : Scope) (fnk : Str → Bool) (st : List Stmt) (sm : Sm) : Prop :=
  ∃ t : XK → TS, (∀ E X, GoodS Γ sc fnk E X → PSs X st (t E)) ∧
    ∀ B W H Vt n σ ρ E R K D, Bd Γ B W H Vt n σ ρ → EOk Γ B E R → wpS Γ.Ψ R sm ρ n K → KOk Γ B K D → t E D σ H

section
variable {Γ : Ga} {B : Ent} {W W1 : Wd} {H H1 : Hp} {Vt V1 : Addr → Prop} {n n1 : Nat} {σ : L2.St} {ρ : List Sl} {E : XK} {R : RK}
theorem Bd.back (b : Bd Γ B W H Vt n σ ρ) {H' : Hp} {Vt' : Addr → Prop} {v : V} {d : D} (r : Rep W H' Vt' v d) : Rep B.W H' Vt' v d :=
  r.conv (fun a o e n1 n2 => ⟨e, fun z => n1 (b.sub a z), n2, fun n z => n (b.old ▸ z)⟩) fun _ z => z
theorem Bd.sit (b : Bd Γ B W H Vt n σ ρ) (x : EOk Γ B E R) : Sit Γ W H Vt n σ ρ E R := by
  refine ⟨b.est, b.sl, fun C pl n' c dd H' q r => x H Vt C pl n' c dd H' b.gr ?_ r⟩
  obtain ⟨Vt', a, v, g, p, e1, e2, e3, rr⟩ := q
  exact ⟨Vt', a, v, g, p, e1, e2, e3, b.back rr⟩
/-- a value was told -/
theorem Bd.ext (b : Bd Γ B W H Vt n σ ρ) (x : Ext W H Vt W1 H1 V1) (e : ESt W1 H1 V1 n1) : Bd Γ B W1 H1 V1 n1 σ ρ where
  est := e
  sl := x.slots b.sl
  old := x.old.trans b.old
  sub := fun a z => x.sub a (b.sub a z)
  gr := b.gr.grow x.g
  young := b.young
  fixd := b.fixd
  past := B.on b.past x.stp
  nob := b.nob
  dps := let ⟨S, k, y⟩ := b.dps; ⟨S, k.ext x, y⟩
theorem Bd.grow (b : Bd Γ B W H Vt n σ ρ) (g : Grow H Vt H1 V1) (p : ∀ a, V1 a → PurseAt n1 H1 a) : Bd Γ B W H1 V1 n1 σ ρ := b.ext (.grow g) (b.est.grow g p)
/-- a value was told, and a name gets it -/
theorem Bd.keep1 (b : Bd Γ B W H Vt n σ ρ) (x : Ext W H Vt W1 H1 V1) (e : ESt W1 H1 V1 n1) {v : V} {z : Sl} (k : KItem H W1 H1 V1 v z) (yg : ∀ (d : D) (a : Addr), z = Sl.own d → v = V.ref a → H a = none) {i : Nat} (hi : i ∉ Γ.fx) :
    Bd Γ B W1 H1 V1 n1 (σ.set i (some v)) (ρ.set i z) := by
  have b1 := b.ext x e
  have nb : ∀ {a : Addr}, H a = none → B.H a = none := fun q => none_of b.gr.dom q
  have ap : Apart σ ρ v z := fun d a j d' e1 e2 e3 e4 => b.est.oDom a (b.sl.own j d' a e3 e4) (yg d a e1 e2)
  refine ⟨b1.est, b1.sl.put k ap i, b1.old, b1.sub, b1.gr, fun j d a e1 e2 => ?_, fun j hj => ?_, b1.past, fun j d => ?_, ?_⟩
  · by_cases h : i = j
    · subst h
      have hl : i < ρ.length := by simpa using (List.getElem?_eq_some_iff.mp e1).1
      rw [List.getElem?_set_self hl] at e1
      rw [List.getElem?_set_self (by rw [b.sl.len]; exact hl)] at e2
      cases e1; cases e2
      exact .inl (nb (yg _ _ rfl rfl))
    · rw [List.getElem?_set_ne h] at e1 e2
      exact b.young j d a e1 e2
  · have h : i ≠ j := fun z => hi (z ▸ hj)
    rw [List.getElem?_set_ne h]
    exact b.fixd j hj
  · by_cases h : i = j
    · subst h
      by_cases hl : i < ρ.length
      · rw [List.getElem?_set_self hl]
        exact ⟨fun e => by cases e; exact k, fun e => by cases e; exact k⟩
      · rw [List.getElem?_eq_none (by simp; omega)]
        exact ⟨(fun e => by cases e), (fun e => by cases e)⟩
    · rw [List.getElem?_set_ne h]
      exact b.nob j d
  · obtain ⟨S, kS, yS⟩ := b.dps
    have sN : ∀ {j : Nat} {a : Addr}, S j a → H a ≠ none := fun h => b.est.oDom _ (kS.sub _ _ h)
    have k1 := kS.ext x
    by_cases hz : ∃ d, z = .dp d
    · obtain ⟨d, rfl⟩ := hz
      obtain ⟨N, r, hN⟩ := k
      refine ⟨fun j a => if j = i then N a else S j a, ⟨fun j d' v' e1 e2 => ?_, fun j a h => ?_, fun j l a h1 h2 => ?_, fun j l d' a e1 e2 h => ?_⟩, fun j a h => ?_⟩
      · by_cases h : i = j
        · subst h
          have hl : i < ρ.length := by simpa using (List.getElem?_eq_some_iff.mp e1).1
          rw [List.getElem?_set_self hl] at e1
          rw [List.getElem?_set_self (by rw [b.sl.len]; exact hl)] at e2
          cases e1; cases e2
          exact r.conv (fun a vs e h1 h2 => ⟨e, by rw [if_pos rfl]; exact h1, h2, fun z => z⟩) fun a vs e h1 h2 => ⟨e, h1, h2⟩
        · rw [List.getElem?_set_ne h] at e1 e2
          exact (k1.rep j d' v' e1 e2).conv (fun a vs e h1 h2 => ⟨e, by rw [if_neg (Ne.symm h)]; exact h1, h2, fun z => z⟩) fun a vs e h1 h2 => ⟨e, h1, h2⟩
      · have h : if j = i then N a else S j a := h
        split at h
        · exact (hN a h).1
        · exact k1.sub j a h
      · have h1 : if j = i then N a else S j a := h1
        have h2 : if l = i then N a else S l a := h2
        split at h1
        · split at h2
          · omega
          · exact absurd (hN a h1).2 (sN h2)
        · split at h2
          · exact absurd (hN a h2).2 (sN h1)
          · exact kS.dis j l a h1 h2
      · by_cases hj : i = j
        · subst hj
          have hl : i < ρ.length := by simpa using (List.getElem?_eq_some_iff.mp e1).1
          rw [List.getElem?_set_self hl] at e1
          cases e1
        · rw [List.getElem?_set_ne hj] at e1 e2
          have h : if l = i then N a else S l a := h
          split at h
          · exact absurd (hN a h).2 (b.est.oDom a (b.sl.own j d' a e1 e2))
          · exact kS.own j l d' a e1 e2 h
      · have h : if j = i then N a else S j a := h
        split at h
        · exact nb (hN a h).2
        · exact yS j a h
    · refine ⟨_, k1.put (i := i) (o := some v) (fun d q => hz ⟨d, q⟩) (fun d a e1 e2 j h => ?_), fun j a h => yS j a h.2⟩
      cases e2
      exact sN h (yg d a e1 rfl)
/-- a young one is nobody's -/
theorem Bd.apart (b : Bd Γ B W H Vt n σ ρ) {v : V} {z : Sl} (y : ∀ (d : D) (a : Addr), z = Sl.own d → v = V.ref a → H a = none) : Apart σ ρ v z := fun d a j d' e1 e2 e3 e4 =>
  b.est.oDom a (b.sl.own j d' a e3 e4) (y d a e1 e2)
theorem none_back (b : Bd Γ B W H Vt n σ ρ) {a : Addr} (e : H a = none) : B.H a = none := none_of b.gr.dom e
theorem SlotsOk.aged1 {W : Wd} {H : Hp} {Vt : Addr → Prop} {σ : L2.St} {ρ : List Sl} (s : SlotsOk W H Vt σ ρ) : SlotsOk (ageW .d W H) H Vt σ (ρ.map Sl.old1) := by
  have key : ∀ {i : Nat} {d : D}, (ρ.map Sl.old1)[i]? = some (.own d) → ∃ d0, ρ[i]? = some (.own d0) := fun {i d} e => by
    rw [List.getElem?_map] at e
    cases q : ρ[i]? with
    | none => rw [q] at e; cases e
    | some s0 =>
      rw [q] at e
      cases s0 <;> first | exact ⟨_, rfl⟩ | (cases e)
  refine ⟨by rw [List.length_map]; exact s.len, fun i z e ne => ?_, fun i d a e1 e2 => ?_, fun i j a d d' e1 e2 e3 e4 => ?_⟩
  · rw [List.getElem?_map] at e
    cases q : ρ[i]? with
    | none => rw [q] at e; cases e
    | some s0 =>
      rw [q] at e
      have e : some s0.old1 = some z := e
      cases e
      have ow : ∀ {v : V} {d : D}, Own W H Vt v d → Own (ageW .d W H) H Vt v d.stale := fun {v d} o => by
        cases o with
        | lst e h1 h2 r => exact .lst e h1 (fun z => nomatch z) (Reps.stale (W := W) (W' := ageW .d W H) (fun _ z => z) r)
        | dic e h1 h2 r => exact .dic e h1 (fun z => nomatch z) (Repk.stale (W := W) (W' := ageW .d W H) (fun _ z => z) r)
      cases s0 with
      | dead => exact absurd rfl ne
      | pure d => obtain ⟨v, ev, it⟩ := s.get i _ q (by intro z; cases z); exact ⟨v, ev, Rep.stale (W := W) (W' := ageW .d W H) (fun _ z => z) it⟩
      | own d => obtain ⟨v, ev, it⟩ := s.get i _ q (by intro z; cases z); exact ⟨v, ev, ow it⟩
      | bor d => obtain ⟨v, ev, it⟩ := s.get i _ q (by intro z; cases z); exact ⟨v, ev, ow it⟩
      | dp d => obtain ⟨v, ev, it⟩ := s.get i _ q (by intro z; cases z); exact ⟨v, ev, Rep.stale (W := noL W H) (W' := noL (ageW .d W H) H) (fun _ z => z) it⟩
      | bdp d => obtain ⟨v, ev, it⟩ := s.get i _ q (by intro z; cases z); exact ⟨v, ev, Rep.stale (W := noL W H) (W' := noL (ageW .d W H) H) (fun _ z => z) it⟩
  · obtain ⟨d0, q⟩ := key e1
    exact s.own i d0 a q e2
  · obtain ⟨d0, q⟩ := key e1
    obtain ⟨d1, q1⟩ := key e2
    exact s.inj i j a d0 d1 q q1 e3 e4
/-- the situation in which a value is told that is to be held so -/
theorem Bd.sitA (b : Bd Γ B W H Vt n σ ρ) (x : EOk Γ B E R) (o : Hw) : Sit Γ (ageW o W H) H Vt n σ (ageK o ρ) E R := by
  cases o with
  | v => exact b.sit x
  | o => exact b.sit x
  | d =>
    refine ⟨⟨b.est.oDom, fun _ z => z, b.est.pur, b.est.oV⟩, b.sl.aged1, fun C pl n' c dd H' q r => x H Vt C pl n' c dd H' b.gr ?_ r⟩
    obtain ⟨Vt', a, v, g, p, e1, e2, e3, rr⟩ := q
    refine ⟨Vt', a, v, g, p, e1, e2, e3, Rep.conv (W := ageW .d W H) (W' := B.W) (fun a o e n1 n2 => ⟨e, fun z => n1 (b.sub a z), n2, fun n z => n (b.est.oldDom a (b.old ▸ z))⟩) (fun _ z => z) rr⟩
/-- a name gets a value -/
theorem Bd.asg (b : Bd Γ B W H Vt n σ ρ) {v : V} {s : Sl} {o : Hw} {Q : Sl → Prop} {i : Nat} (hi : i ∉ Γ.fx) (g : Grow H Vt H1 V1) (p : ∀ a, V1 a → PurseAt n1 H1 a) (it : ItemOk (ageW o W H) H1 V1 v s)
    (y : ∀ (d : D) (a : Addr), s = Sl.own d → v = V.ref a → H a = none) (w : s.keep o Q) : ∃ z W1, Q z ∧ Bd Γ B W1 H1 V1 n1 (σ.set i (some v)) (ρ.set i z) := by
  obtain ⟨z, W1, q, x, e, k, y1⟩ := keep_step b.est g p it y w
  exact ⟨z, W1, q, b.keep1 x e k y1 hi⟩
/-- an own object is none of what other names own all through -/
theorem DpOk.keepG {H' : Hp} {Vt' : Addr → Prop} {S : Nat → Addr → Prop} (kS : DpOk W H Vt σ ρ S) {i : Nat} {a : Addr} {d d' : D} (hi : ρ[i]? = some (.own d)) (hs : σ[i]? = some (some (.ref a))) (hl : ∀ vs, H a ≠ some (.tup vs))
    (k : ∀ b o, H b = some o → ¬ Vt b → b ≠ a → H' b = some o ∧ ¬ Vt' b) : DpOk W H' Vt' σ (ρ.set i (.own d')) S where
  rep := fun j d2 v e1 e2 => by
    have hln : i < ρ.length := (List.getElem?_eq_some_iff.mp hi).1
    by_cases h : i = j
    · subst h
      rw [List.getElem?_set_self hln] at e1
      cases e1
    · rw [List.getElem?_set_ne h] at e1
      refine (kS.rep j d2 v e1 e2).conv (fun b vs e h1 h2 => ?_) fun b vs e h1 h2 => ?_
      · have q := k b _ e h2 (fun z => by subst z; exact kS.own i j d b hi hs h1)
        exact ⟨q.1, h1, q.2, fun z => z⟩
      · have q := k b _ e h2 (fun z => by subst z; exact hl vs e)
        exact ⟨q.1, h1, q.2⟩
  sub := kS.sub
  dis := kS.dis
  own := fun j l d2 c e1 e2 => by
    by_cases h : i = j
    · subst h; exact kS.own i l d c hi e2
    · rw [List.getElem?_set_ne h] at e1
      exact kS.own j l d2 c e1 e2
theorem Own.notTup {W : Wd} {H : Hp} {Vt : Addr → Prop} {a : Addr} {d : D} (o : Own W H Vt (.ref a) d) : ∀ vs, H a ≠ some (.tup vs) := fun vs e => by
  cases o with
  | lst h _ _ _ => rw [h] at e; cases e
  | dic h _ _ _ => rw [h] at e; cases e
/-- an own one changes -/
theorem Bd.mut (b : Bd Γ B W H Vt n σ ρ) {i : Nat} {a : Addr} {d d' : D} {o : HO} (hi : ρ[i]? = some (.own d)) (hs : σ[i]? = some (some (.ref a))) (ho : Own W (upd H a o) Vt (.ref a) d') :
    Bd Γ B W (upd H a o) Vt n σ (ρ.set i (.own d')) := by
  have wo : W.O a := b.sl.own i d a hi hs
  have nv : ¬ Vt a := b.est.oV a wo
  have cv : ∀ c u, H c = some u → ¬ W.O c → ¬ Vt c → upd H a o c = some u ∧ ¬ W.O c ∧ ¬ Vt c ∧ (¬ W.old c → ¬ W.old c) := fun c u e n1 n2 => ⟨by rw [upd_ne (show c ≠ a from fun z => n1 (z ▸ wo))]; exact e, n1, n2, fun z => z⟩
  have hl : i < ρ.length := (List.getElem?_eq_some_iff.mp hi).1
  have ow : ∀ {c : Addr} {x : D}, c ≠ a → Own W H Vt (.ref c) x → Own W (upd H a o) Vt (.ref c) x := fun {c x} ne h => h.conv cv (fun _ z => z) fun c' u e1 e2 n => by cases e1; exact ⟨by rw [upd_ne ne]; exact e2, n, fun z => z⟩
  have nt : ∀ vs, H a ≠ some (.tup vs) := by
    obtain ⟨v, ev, it⟩ := b.sl.get i _ hi (by intro z; cases z)
    rw [hs] at ev; cases ev
    exact Own.notTup (show Own W H Vt (.ref a) d from it)
  have kp : ∀ c u, H c = some u → ¬ Vt c → c ≠ a → upd H a o c = some u ∧ ¬ Vt c := fun c u e n ne => ⟨by rw [upd_ne ne]; exact e, n⟩
  have dpr : ∀ {j : Nat} {d2 : D} {v : V}, i ≠ j → ρ[j]? = some (.dp d2) → σ[j]? = some (some v) → ∃ T, Rdp W T (upd H a o) Vt v d2 := fun {j d2 v} h e ev => by
    obtain ⟨S, kS, _⟩ := b.dps
    exact ⟨_, (kS.keepG (d' := d') hi hs nt kp).rep j d2 v (by rw [List.getElem?_set_ne h]; exact e) ev⟩
  have bw : ∀ {v : V} {x : D}, Own W H Vt v x → (∀ c, v = V.ref c → c ≠ a) → Own W (upd H a o) Vt v x := fun {v x} h hne => by
    obtain ⟨c, e, _, _⟩ := h.ref
    subst e
    exact ow (hne c rfl) h
  refine ⟨⟨fun c z => ?_, fun c z => ?_, fun c z => ?_, b.est.oV⟩, ⟨?_, fun j s e ne => ?_, fun j d2 c e1 e2 => ?_, fun j l c d1 d2 e1 e2 e3 e4 => ?_⟩, b.old, b.sub, b.gr.set ((b.young i d a hi hs).imp id (·.2)), fun j d2 c e1 e2 => ?_, b.fixd, B.on b.past ⟨fun c u e n1 n2 => (cv c u e n2 n1).1, fun c e => ?_, fun _ z => z, fun _ z => .inl z, rfl, fun _ z => .inl z⟩, fun j d2 => ?_, b.dps.imp fun S q => ⟨q.1.keepG hi hs nt kp, q.2⟩⟩
  · by_cases q : c = a
    · rw [q, upd_same]; simp
    · rw [upd_ne q]; exact b.est.oDom c z
  · by_cases q : c = a
    · rw [q, upd_same]; simp
    · rw [upd_ne q]; exact b.est.oldDom c z
  · obtain ⟨s, c', k, t, h1, r⟩ := b.est.pur c z
    exact ⟨s, c', k, t, by rw [upd_ne (show c ≠ a from fun q => nv (q ▸ z))]; exact h1, r⟩
  · rw [List.length_set]; exact b.sl.len
  · by_cases h : i = j
    · subst h
      rw [List.getElem?_set_self hl] at e
      cases e
      exact ⟨_, hs, ho⟩
    · rw [List.getElem?_set_ne h] at e
      obtain ⟨v, ev, it⟩ := b.sl.get j s e ne
      refine ⟨v, ev, ?_⟩
      cases s with
      | dead => exact it
      | pure d => exact Rep.conv cv (fun _ z => z) it
      | own d2 => exact bw it fun c ec z => by subst ec; subst z; exact h (b.sl.inj i j c d d2 hi e hs ev)
      | bor d2 => exact absurd e (b.nob j d2).1
      | bdp d2 => exact absurd e (b.nob j d2).2
      | dp d2 => obtain ⟨T, r⟩ := dpr h e ev; exact r.repL
  · by_cases h : i = j
    · subst h
      rw [hs] at e2; cases e2; exact wo
    · rw [List.getElem?_set_ne h] at e1
      exact b.sl.own j d2 c e1 e2
  · have f : ∀ {k : Nat} {dd : D}, (ρ.set i (.own d'))[k]? = some (.own dd) → ∃ d0, ρ[k]? = some (.own d0) := fun {k dd} e => by
      by_cases h : i = k
      · subst h; exact ⟨d, hi⟩
      · rw [List.getElem?_set_ne h] at e; exact ⟨dd, e⟩
    obtain ⟨d3, e5⟩ := f e1
    obtain ⟨d4, e6⟩ := f e2
    exact b.sl.inj j l c d3 d4 e5 e6 e3 e4
  · by_cases h : i = j
    · subst h; exact b.young i d c hi e2
    · rw [List.getElem?_set_ne h] at e1; exact b.young j d2 c e1 e2
  · by_cases q : c = a
    · rw [q, upd_same]; simp
    · rw [upd_ne q]; exact e
  · by_cases h : i = j
    · subst h
      rw [List.getElem?_set_self hl]
      exact ⟨(fun e => by cases e), (fun e => by cases e)⟩
    · rw [List.getElem?_set_ne h]; exact b.nob j d2
end
/-- only shared and owned ones -/
def PO (ρ : List Sl) : Prop := ∀ (i : Nat) (s : Sl), ρ[i]? = some s → s ≠ .dead → (∃ d, s = .pure d) ∨ ∃ d, s = .own d
theorem PO.no {ρ : List Sl} (h : PO ρ) : ∀ (i : Nat) (s : Sl), s ≠ .dead → (∀ d, s ≠ .pure d) → (∀ d, s ≠ .own d) → ρ[i]? ≠ some s := fun i s n a b e => by
  rcases h i s e n with ⟨d, z⟩ | ⟨d, z⟩
  · exact a d z
  · exact b d z
theorem PO.nob {ρ : List Sl} (h : PO ρ) : ∀ (i : Nat) (d : D), ρ[i]? ≠ some (Sl.bor d) ∧ ρ[i]? ≠ some (Sl.bdp d) := fun i d =>
  ⟨h.no i _ (by intro z; cases z) (by intro _ z; cases z) (by intro _ z; cases z), h.no i _ (by intro z; cases z) (by intro _ z; cases z) (by intro _ z; cases z)⟩
theorem PO.dps {W : Wd} {H : Hp} {Vt : Addr → Prop} {σ : L2.St} {ρ : List Sl} {BH : Hp} (h : PO ρ) : ∃ S, DpOk W H Vt σ ρ S ∧ ∀ i a, S i a → BH a = none :=
  ⟨_, DpOk.none fun i d => h.no i _ (by intro z; cases z) (by intro _ z; cases z) (by intro _ z; cases z), fun _ _ z => z.elim⟩
end Vm
/-! Vm15: statements. -/
namespace Vm
open PySem PySem.Spec L2
section
variable {Γ : Ga} {sc : Scope} {fnk : Str → Bool}

/-! ### blocks -/
theorem bss_nil : BSs Γ sc fnk [] .snil := by
  refine ⟨fun _ => tNext, fun _ _ _ => pss_nil, fun B W H Vt n σ ρ E R K D b x w k => ?_⟩
  unfold wpS at w
  exact k.nx _ _ _ _ _ _ b w
theorem bss_cons {st : Stmt} {ss : List Stmt} {sm sms : Sm} (h1 : BS Γ sc fnk st sm) (h2 : BSs Γ sc fnk ss sms) : BSs Γ sc fnk (st :: ss) (.scons sm sms) := by
  obtain ⟨t1, p1, s1⟩ := h1
  obtain ⟨t2, p2, s2⟩ := h2
  refine ⟨fun E => tSeq (t1 E) (t2 E), fun E X g => pss_cons (p1 E X g) (p2 E X g), fun B W H Vt n σ ρ E R K D b x w k => ?_⟩
  unfold wpS at w
  exact s1 B W H Vt n σ ρ E R _ _ b x w ⟨fun W H Vt n σ ρ b' w' => s2 B W H Vt n σ ρ E R K D b' x w' k, k.rt, k.bk, k.ct⟩
/-- a name gives its list away -/
theorem Bd.frz {B : Ent} {W : Wd} {H : Hp} {Vt : Addr → Prop} {n : Nat} {σ : L2.St} {ρ : List Sl} (b : Bd Γ B W H Vt n σ ρ) {i : Nat} {d : D} (hi : i ∉ Γ.fx) (e : ρ[i]? = some (.own d)) :
    ∃ W', Bd Γ B W' H Vt n σ (ρ.set i (.pure d)) := by
  obtain ⟨v, ev, ow⟩ := b.sl.get i _ e (by intro z; cases z)
  obtain ⟨a, rfl, ha, nv⟩ := Own.ref ow
  have hl : i < ρ.length := (List.getElem?_eq_some_iff.mp e).1
  have cv : ∀ c u, H c = some u → ¬ W.O c → ¬ Vt c → H c = some u ∧ ¬ (W.O c ∧ c ≠ a) ∧ ¬ Vt c ∧ (¬ W.old c → ¬ W.old c) := fun c u e n1 n2 => ⟨e, fun z => n1 z.1, n2, fun z => z⟩
  refine ⟨⟨fun c => W.O c ∧ c ≠ a, W.old⟩, ⟨fun c z => b.est.oDom c z.1, b.est.oldDom, b.est.pur, fun c z => b.est.oV c z.1⟩, ⟨?_, fun j s e1 ne => ?_, fun j d2 c e1 e2 => ?_, fun j l c d1 d2 e1 e2 e3 e4 => ?_⟩, b.old, fun c z => ⟨b.sub c z, fun q => ?_⟩, b.gr, fun j d2 c e1 e2 => ?_, b.fixd, B.on b.past ⟨fun c u e _ _ => e, fun _ z => z, fun _ z => z, fun _ z => .inl z, rfl, fun _ z => .inl z.1⟩, fun j d2 => ?_, ?_⟩
  · rw [List.length_set]; exact b.sl.len
  · by_cases h : i = j
    · subst h
      rw [List.getElem?_set_self hl] at e1
      cases e1
      refine ⟨_, ev, ?_⟩
      have o2 : Own ⟨fun c => W.O c ∧ c ≠ a, W.old⟩ H Vt (.ref a) d := Own.conv ow cv (fun _ z => z) fun c u _ e n => ⟨e, n, fun z => z⟩
      exact o2.rep fun z => z.2 rfl
    · rw [List.getElem?_set_ne h] at e1
      obtain ⟨v, ev', it⟩ := b.sl.get j s e1 ne
      refine ⟨v, ev', ?_⟩
      cases s with
      | dead => exact it
      | pure d => exact Rep.conv cv (fun _ z => z) it
      | own d2 => exact Own.conv it cv (fun _ z => z) fun c u _ e n => ⟨e, n, fun z => z⟩
      | bor d2 => exact Own.conv it cv (fun _ z => z) fun c u _ e n => ⟨e, n, fun z => z⟩
      | dp d2 => exact Rep.setL (W' := ⟨fun c => W.O c ∧ c ≠ a, W.old⟩) (fun _ _ _ z => z.1) (fun _ z => z) it
      | bdp d2 => exact Rep.setL (W' := ⟨fun c => W.O c ∧ c ≠ a, W.old⟩) (fun _ _ _ z => z.1) (fun _ z => z) it
  · by_cases h : i = j
    · subst h
      rw [List.getElem?_set_self hl] at e1
      cases e1
    · rw [List.getElem?_set_ne h] at e1
      exact ⟨b.sl.own j d2 c e1 e2, fun q => by subst q; exact h (b.sl.inj i j c d d2 e e1 ev e2)⟩
  · by_cases h : i = j
    · subst h
      rw [List.getElem?_set_self hl] at e1
      cases e1
    · by_cases h' : i = l
      · subst h'
        rw [List.getElem?_set_self hl] at e2
        cases e2
      · rw [List.getElem?_set_ne h] at e1
        rw [List.getElem?_set_ne h'] at e2
        exact b.sl.inj j l c d1 d2 e1 e2 e3 e4
  · subst q
    rcases b.young i d c e ev with z' | z'
    · exact B.dom c z z'
    · exact hi z'.1
  · by_cases h : i = j
    · subst h
      rw [List.getElem?_set_self hl] at e1
      cases e1
    · rw [List.getElem?_set_ne h] at e1
      exact b.young j d2 c e1 e2
  · by_cases h : i = j
    · subst h
      rw [List.getElem?_set_self hl]
      exact ⟨(fun e => by cases e), (fun e => by cases e)⟩
    · rw [List.getElem?_set_ne h]
      exact b.nob j d2
  · obtain ⟨S, k, y⟩ := b.dps
    have q := k.put (i := i) (o := some (.ref a)) (z := .pure d) (fun _ z => nomatch z) fun _ _ z => nomatch z
    have hse : σ.set i (some (.ref a)) = σ := by
      refine List.ext_getElem? fun j => ?_
      by_cases h : i = j
      · subst h
        rw [List.getElem?_set_self (List.getElem?_eq_some_iff.mp ev).1, ev]
      · rw [List.getElem?_set_ne h]
    rw [hse] at q
    exact ⟨_, ⟨fun j d2 v e1 e2 => Rdp.conv (W := W) (W' := ⟨fun c => W.O c ∧ c ≠ a, W.old⟩) (fun c vs e h1 h2 => ⟨e, h1, h2, fun z => z⟩) (fun c vs e h1 h2 => ⟨e, fun z => h1 z.1, h2⟩) (q.rep j d2 v e1 e2), fun j c h => ⟨k.sub j c h.2, fun z => k.own i j d a e ev (z ▸ h.2)⟩, q.dis, q.own⟩, fun j c h => y j c h.2⟩
theorem getD_some {ρ : List Sl} {i : Nat} {s : Sl} (h : ρ.getD i .dead = s) (ne : s ≠ .dead) : ρ[i]? = some s := by
  rw [List.getD_eq_getElem?_getD] at h
  cases q : ρ[i]? with
  | none => rw [q] at h; exact absurd h.symm ne
  | some u => rw [q] at h; simp at h; rw [h]
theorem bss_frz {i : Nat} {ss : List Stmt} {sm : Sm} (hi : (Γ.fx.contains i) = false) (h : BSs Γ sc fnk ss sm) : BSs Γ sc fnk ss (.frz i sm) := by
  have hi' : i ∉ Γ.fx := fun z => by rw [List.contains_iff_mem.mpr z] at hi; cases hi
  obtain ⟨t, p, s⟩ := h
  refine ⟨t, p, fun B W H Vt n σ ρ E R K D b x w k => ?_⟩
  unfold wpS at w
  cases e : ρ.getD i .dead with
  | dead => rw [e] at w; exact w.elim
  | bor d => rw [e] at w; exact w.elim
  | dp d => rw [e] at w; exact w.elim
  | bdp d => rw [e] at w; exact w.elim
  | own d =>
    rw [e] at w
    obtain ⟨W', b'⟩ := b.frz hi' (getD_some e (by intro z; cases z))
    exact s B W' H Vt n σ _ E R K D b' x w k
  | pure d =>
    rw [e] at w
    have e' := getD_some e (by intro z; cases z)
    have q : ρ.set i (.pure d) = ρ := by
      refine List.ext_getElem? fun j => ?_
      by_cases h : i = j
      · subst h
        rw [List.getElem?_set_self (List.getElem?_eq_some_iff.mp e').1, e']
      · rw [List.getElem?_set_ne h]
    have w : wpS Γ.Ψ R sm (ρ.set i (.pure d)) n K := w
    rw [q] at w
    exact s B W H Vt n σ _ E R K D b x w k

/-! ### small ones -/
theorem bs_pass {pos : Pos} : BS Γ sc fnk (.Pass pos) .pass := ⟨fun _ => tNext, fun _ _ _ => ps_pass, fun B W H Vt n σ ρ E R K D b x w k => by unfold wpS at w; exact k.nx _ _ _ _ _ _ b w⟩
theorem bs_brk {pos : Pos} : BS Γ sc fnk (.Break pos) .brk := ⟨fun _ => tBreak, fun _ _ _ => ps_break, fun B W H Vt n σ ρ E R K D b x w k => by unfold wpS at w; exact k.bk _ _ _ _ _ _ b w⟩
theorem bs_cont {pos : Pos} : BS Γ sc fnk (.Continue pos) .cont := ⟨fun _ => tCont, fun _ _ _ => ps_continue, fun B W H Vt n σ ρ E R K D b x w k => by unfold wpS at w; exact k.ct _ _ _ _ _ _ b w⟩
theorem bs_retN {pos : Pos} : BS Γ sc fnk (.Return none pos) .retN := ⟨fun _ => tRetN, fun _ _ _ => ps_retN, fun B W H Vt n σ ρ E R K D b x w k => by unfold wpS at w; exact k.rt W H Vt n σ ρ .non .non b .non w⟩
theorem bs_never {st : Stmt} : BS Γ sc fnk st .never := ⟨fun _ => tNever, fun _ _ _ => ps_never, fun B W H Vt n σ ρ E R K D b x w k => by unfold wpS at w; exact w.elim⟩
theorem bs_ret {e : Expr} {x : Ex} {pos : Pos} (he : BE Γ sc fnk e x) : BS Γ sc fnk (.Return (some e) pos) (.ret x) := by
  obtain ⟨t, p, s⟩ := he
  refine ⟨fun E => tRet (t E), fun E X g => ps_ret (p E X g.toGood), fun B W H Vt n σ ρ E R K D b x w k => ?_⟩
  unfold wpS at w
  refine s W H Vt n σ ρ E R _ _ (b.sit x) w fun v H1 ⟨V1, n1, s1, g1, p1, i1, y1, w1⟩ => ?_
  obtain ⟨d, r, q⟩ := take_rep b.est.oDom i1 y1 w1
  exact k.rt _ H1 V1 n1 σ ρ v d (b.grow g1 p1) (b.back r) q
theorem reps_four {W : Wd} {H : Hp} {Vt : Addr → Prop} {vs : List V} {a c k t : Int} (r : Reps W H Vt vs [.int a, .int c, .int k, .int t]) : vs = [.int a, .int c, .int k, .int t] :=
  reps_ints (ns := [a, c, k, t]) r rfl
/-- a new purse is told -/
theorem bs_retP {e : Expr} {x : Ex} {pos : Pos} (he : BE Γ sc fnk e x) : BS Γ sc fnk (.Return (some e) pos) (.retP x) := by
  obtain ⟨t, p, s⟩ := he
  refine ⟨fun E => tRet (t E), fun E X g => ps_ret (p E X g.toGood), fun B W H Vt n σ ρ E R K D b x w k => ?_⟩
  unfold wpS at w
  refine s W H Vt n σ ρ E R _ _ (b.sit x) w fun v H1 ⟨V1, n1, s1, g1, p1, i1, y1, w1⟩ => ?_
  dsimp only at w1
  split at w1
  · rename_i tt a c kk t
    obtain ⟨q, ev, hq, nv⟩ := Own.ref (show Own W H1 V1 v _ from i1)
    subst ev
    have fr := y1 _ q rfl rfl
    have i1 : Own W H1 V1 (.ref q) _ := i1
    cases i1 with
    | lst eq _ _ rr =>
      have ev := reps_four rr
      subst ev
      have g2 : Grow H Vt H1 (fun z => V1 z ∨ z = q) := ⟨g1.keep, g1.dom, fun z h => .inl (g1.sub z h), fun z h => h.elim (g1.new z) fun h => .inr (h ▸ fr)⟩
      have p2 : ∀ z, (V1 z ∨ z = q) → PurseAt n1 H1 z := fun z h => h.elim (p1 z) fun h => ⟨a, c, kk, t, by rw [h]; exact eq, w1.1⟩
      exact k.rt _ H1 _ n1 σ ρ (.ref q) .pur (b.grow g2 p2) (.pur (.inr rfl)) w1.2
  · exact w1.elim
/-- not a comprehension -/
def plainV : Expr → Bool
  | .ListComp _ _ _ _ => false | .SetComp _ _ _ _ => false | .DictComp _ _ _ _ _ => false | _ => true
theorem plainV_sw {e : Expr} (h : plainV e = true) (t : Option Expr) (l : Nat) (env : Env) : swapsWith e t l env = pure false := by
  cases e <;> first | rfl | cases h
theorem bs_expr {e : Expr} {x : Ex} {pos : Pos} (hp : plainV e = true) (he : BE Γ sc fnk e x) : BS Γ sc fnk (.Expr e pos) (.expr x) := by
  obtain ⟨t, p, s⟩ := he
  refine ⟨fun E => tDrop (t E), fun E X g => ps_expr (p E X g.toGood) (plainV_sw hp _ _ _), fun B W H Vt n σ ρ E R K D b x w k => ?_⟩
  unfold wpS at w
  refine s W H Vt n σ ρ E R _ _ (b.sit x) w fun v H1 ⟨V1, n1, s1, g1, p1, i1, y1, w1⟩ => ?_
  exact k.nx _ _ _ _ _ _ (b.grow g1 p1) w1
/-- a docstring -/
theorem bs_doc {s : Str} {j : Nat} {pos pos' : Pos} : BS Γ sc fnk (.Expr (.Constant (.str s) j pos) pos') .pass := ⟨fun _ => tNext, fun _ _ _ => ps_doc, fun B W H Vt n σ ρ E R K D b x w k => by unfold wpS at w; exact k.nx _ _ _ _ _ _ b w⟩
theorem bs_ife {c : Expr} {cx : Ex} {p q : List Stmt} {a b : Sm} {pos : Pos} (hc : BT Γ sc fnk c cx) (ha : BSs Γ sc fnk p a) (hb : BSs Γ sc fnk q b) : BS Γ sc fnk (.If c p q pos) (.ife cx a b) := by
  obtain ⟨tc, pc, s0⟩ := hc
  obtain ⟨t1, p1, s1⟩ := ha
  obtain ⟨t2, p2, s2⟩ := hb
  refine ⟨fun E => tIfS (tc E) (t1 E) (t2 E), fun E X g => ps_if (pc E X g.toGood) (p1 E X g) (p2 E X g), fun B W H Vt n σ ρ E R K D b x w k => ?_⟩
  unfold wpS at w
  refine s0 W H Vt n σ ρ E R _ _ (b.sit x) w fun kk H1 ⟨V1, n1, g1, p1, w1⟩ => ?_
  cases kk with
  | true => simp only [if_true] at w1 ⊢; exact s1 B W H1 V1 n1 σ ρ E R K D (b.grow g1 p1) x w1 k
  | false => simp only [Bool.false_eq_true, if_false] at w1 ⊢; exact s2 B W H1 V1 n1 σ ρ E R K D (b.grow g1 p1) x w1 k
theorem bs_whil {c : Expr} {cx : Ex} {body : List Stmt} {sm : Sm} {pos : Pos} (hc : BT Γ sc fnk c cx) (hb : BSs Γ sc fnk body sm) : BS Γ sc fnk (.While c body [] pos) (.whil cx sm) := by
  obtain ⟨tc, pc, s0⟩ := hc
  obtain ⟨t1, p1, s1⟩ := hb
  refine ⟨fun E => tWhile (tc E) (t1 E), fun E X g => ps_while g.owns (pc E X g.toGood) (p1 E X g), fun B W H Vt n σ ρ E R K D b x w k => ?_⟩
  unfold wpS at w
  obtain ⟨I, μ, i0, turn⟩ := w
  refine ⟨fun m σ H => ∃ W Vt n ρ, Bd Γ B W H Vt n σ ρ ∧ I ρ n ∧ m = μ ρ n, ⟨_, W, Vt, n, ρ, b, i0, rfl⟩, ?_⟩
  rintro m σ H ⟨W, Vt, n, ρ, b, i, rfl⟩
  refine s0 W H Vt n σ ρ E R _ _ (b.sit x) (turn ρ n i) fun kk H1 ⟨V1, n1, g1, pp1, w1⟩ => ?_
  have b1 := b.grow g1 pp1
  cases kk with
  | false => simp only [Bool.false_eq_true, if_false] at w1 ⊢; exact k.nx _ _ _ _ _ _ b1 w1
  | true =>
    simp only [if_true] at w1 ⊢
    refine ⟨fun σ' H' => ∃ W Vt n' ρ', Bd Γ B W H' Vt n' σ' ρ' ∧ I ρ' n' ∧ μ ρ' n' < μ ρ n, fun σ' H' ⟨W, Vt, n', ρ', b', i', l'⟩ => ⟨_, l', W, Vt, n', ρ', b', i', rfl⟩, ?_⟩
    refine s1 B W H1 V1 n1 σ ρ E R _ _ b1 x w1 ⟨fun W H Vt n σ ρ b' w' => ⟨W, Vt, n, ρ, b', w'.1, w'.2⟩, k.rt, k.nx, fun W H Vt n σ ρ b' w' => ⟨W, Vt, n, ρ, b', w'.1, w'.2⟩⟩

/-! ### assignments -/
/-- name = e: the row's reading -/
def BA (Γ : Ga) (sc : Scope) (fnk : Str → Bool) (y : Str) (i : Nat) (py spos : Pos) (e : Expr) (b : Ex) : Prop :=
  ∃ t : XK → TE, (∀ E X, Good Γ sc fnk E X → PS X (.Assign [.Name y py] e spos) (tAsg (t E) (gName i))) ∧
    ∀ W H Vt n σ ρ E R Q Post, Sit Γ W H Vt n σ ρ E R → wpE Γ.Ψ b R ρ n Q → (∀ v H', EPost W H Vt Q v H' → Post v H') → t E σ H Post
theorem ba_of {y : Str} {i : Nat} {py spos : Pos} {e : Expr} {b : Ex} (hN : Γ.N[i]? = some y) (hl : locB sc fnk y = true) (hp : ∀ env : Env, env.scope = sc → swapsWith e (some (.Name y py)) spos.line env = pure false) (he : BE Γ sc fnk e b) : BA Γ sc fnk y i py spos e b := by
  obtain ⟨t, p, s⟩ := he
  refine ⟨t, fun E X g => ?_, s⟩
  obtain ⟨a, c⟩ := loc_of g hl
  exact ps_set g.nd (by rw [g.N]; exact hN) a (p E X g) (hp _ g.sc) c
theorem ba_comp {k : Ik} {elt tg iter : Expr} {ifs : List Expr} {scope : Scope} {own : List (Str × Nat)} {pos : Pos} {src cond ex : Ex} {t : Tg} {y : Str} {i : Nat} {py spos : Pos}
    (hlk : ∀ ρ, lockP k src ρ = some ρ) (hb : blkC Γ.N sc scope own = true) (hv : ∀ i ∈ t.vars, i ∈ own.map (·.2)) (hs : ∀ env x, foldedSetIterable iter env x = pure x)
    (hi : BI Γ sc fnk tg iter k src) (hg : BG Γ (scB scope sc) (fnB scope) tg t) (hc : Conds Γ (scB scope sc) (fnB scope) ifs cond) (he : BE Γ (scB scope sc) (fnB scope) elt ex)
    (hN : Γ.N[i]? = some y) (hl : sc.names.lookup y = some .local) (hk : sc.kind = .function) (hp : (py.line == pos.line) = true) (ha : (scope.names.any fun (n, k) => n == y && (k == .local || k == .cell)) = false) :
    BA Γ sc fnk y i py spos (.ListComp elt [⟨tg, iter, ifs, 0⟩] scope pos) (.comp k src t cond ex (own.map (·.2))) :=
  let ⟨t, _, c, d⟩ := comp_core hlk hb hv hs hi hg hc he
  ⟨t, fun E X g => c E X g i y py spos hN hl hk hp ha, d⟩
theorem nfx {i : Nat} (hi : (Γ.fx.contains i) = false) : i ∉ Γ.fx := fun z => by rw [List.contains_iff_mem.mpr z] at hi; cases hi
theorem bs_keep {o : Hw} {sm : Sm} {y : Str} {i : Nat} {py spos : Pos} {e : Expr} {b : Ex} (hi : (Γ.fx.contains i) = false) (h : BA Γ sc fnk y i py spos e b)
    (hw : ∀ R ρ n K, wpS Γ.Ψ R sm ρ n K → wpE Γ.Ψ b R (ageK o ρ) n fun s n1 => s.keep o fun z => K.nx (ρ.set i z) n1) : BS Γ sc fnk (.Assign [.Name y py] e spos) sm := by
  obtain ⟨t, p, s⟩ := h
  refine ⟨fun E => tAsg (t E) (gName i), fun E X g => p E X g.toGood, fun B W H Vt n σ ρ E R K D b x w k => ?_⟩
  refine s (ageW o W H) H Vt n σ (ageK o ρ) E R _ _ (b.sitA x o) (hw _ _ _ _ w) fun v H1 ⟨V1, n1, s1, g1, p1, i1, y1, w1⟩ => ?_
  obtain ⟨z, W1, q, b1⟩ := b.asg (nfx hi) g1 p1 i1 y1 w1
  exact k.nx _ _ _ _ _ _ b1 q
theorem bs_asg {y : Str} {i : Nat} {py spos : Pos} {e : Expr} {b : Ex} (hi : (Γ.fx.contains i) = false) (h : BA Γ sc fnk y i py spos e b) : BS Γ sc fnk (.Assign [.Name y py] e spos) (.asg i b) :=
  bs_keep (o := .v) hi h fun R ρ n K w => by unfold wpS at w; exact w
theorem bs_asgD {y : Str} {i : Nat} {py spos : Pos} {e : Expr} {b : Ex} (hi : (Γ.fx.contains i) = false) (h : BA Γ sc fnk y i py spos e b) : BS Γ sc fnk (.Assign [.Name y py] e spos) (.asgD i b) :=
  bs_keep (o := .d) hi h fun R ρ n K w => by unfold wpS at w; exact w
theorem bs_asgO {y : Str} {i : Nat} {py spos : Pos} {e : Expr} {b : Ex} (hi : (Γ.fx.contains i) = false) (h : BA Γ sc fnk y i py spos e b) : BS Γ sc fnk (.Assign [.Name y py] e spos) (.asgO i b) :=
  bs_keep (o := .o) hi h fun R ρ n K w => by unfold wpS at w; exact w
/-- what a target leaves owned -/
theorem get_wipe {ρ ρ' : List Sl} {i : Nat} {d d' : D} {j : Nat} {f : D → Sl} (hf : ∀ x, f x ≠ .pure d) (e : (ρ.set i (.pure d))[j]? = some (f d')) : ρ[j]? = some (f d') ∧ j ≠ i := by
  by_cases h : i = j
  · subst h
    have hl : i < ρ.length := by simpa using (List.getElem?_eq_some_iff.mp e).1
    rw [List.getElem?_set_self hl] at e
    exact absurd (Option.some.inj e).symm (hf d')
  · rw [List.getElem?_set_ne h] at e; exact ⟨e, Ne.symm h⟩
structure Less (is : List Nat) (ρ ρ' : List Sl) : Prop where
  own : ∀ (j : Nat) (d : D), ρ'[j]? = some (.own d) → ρ[j]? = some (.own d) ∧ j ∉ is
  bor : ∀ (j : Nat) (d : D), ρ'[j]? = some (.bor d) → ρ[j]? = some (.bor d) ∧ j ∉ is
  dp : ∀ (j : Nat) (d : D), ρ'[j]? = some (.dp d) → ρ[j]? = some (.dp d) ∧ j ∉ is
  bdp : ∀ (j : Nat) (d : D), ρ'[j]? = some (.bdp d) → ρ[j]? = some (.bdp d) ∧ j ∉ is
theorem Less.refl {ρ : List Sl} : Less [] ρ ρ := ⟨fun _ _ e => ⟨e, by simp⟩, fun _ _ e => ⟨e, by simp⟩, fun _ _ e => ⟨e, by simp⟩, fun _ _ e => ⟨e, by simp⟩⟩
theorem Less.trans {is js : List Nat} {ρ ρ1 ρ2 : List Sl} (a : Less is ρ ρ1) (b : Less js ρ1 ρ2) : Less (is ++ js) ρ ρ2 :=
  ⟨fun j d e => let q := b.own j d e; let r := a.own j d q.1; ⟨r.1, by simp [q.2, r.2]⟩, fun j d e => let q := b.bor j d e; let r := a.bor j d q.1; ⟨r.1, by simp [q.2, r.2]⟩,
    fun j d e => let q := b.dp j d e; let r := a.dp j d q.1; ⟨r.1, by simp [q.2, r.2]⟩, fun j d e => let q := b.bdp j d e; let r := a.bdp j d q.1; ⟨r.1, by simp [q.2, r.2]⟩⟩
theorem Less.set {i : Nat} {ρ : List Sl} {d : D} : Less [i] ρ (ρ.set i (.pure d)) :=
  ⟨fun j d' e => let q := get_wipe (ρ' := ρ) (f := .own) (fun _ z => nomatch z) e; ⟨q.1, by simp [q.2]⟩, fun j d' e => let q := get_wipe (ρ' := ρ) (f := .bor) (fun _ z => nomatch z) e; ⟨q.1, by simp [q.2]⟩,
    fun j d' e => let q := get_wipe (ρ' := ρ) (f := .dp) (fun _ z => nomatch z) e; ⟨q.1, by simp [q.2]⟩, fun j d' e => let q := get_wipe (ρ' := ρ) (f := .bdp) (fun _ z => nomatch z) e; ⟨q.1, by simp [q.2]⟩⟩
mutual
theorem tgW_less : ∀ {t : Tg} {d : D} {ρ : List Sl} {Q : List Sl → Prop}, tgW t d ρ Q → tgW t d ρ fun ρ' => Q ρ' ∧ Less t.vars ρ ρ'
  | .nm i, d, ρ, Q, w => by
    unfold tgW at w ⊢
    exact ⟨w, .set⟩
  | .tup t, d, ρ, Q, w => by
    unfold tgW at w ⊢
    split at w
    · exact tgsW_less w
    · exact w.elim
  | .tnil, _, _, _, w => by unfold tgW at w; exact w.elim
  | .tcons _ _, _, _, _, w => by unfold tgW at w; exact w.elim
theorem tgsW_less : ∀ {t : Tg} {d : List D} {ρ : List Sl} {Q : List Sl → Prop}, tgsW t d ρ Q → tgsW t d ρ fun ρ' => Q ρ' ∧ Less t.varss ρ ρ'
  | .tnil, ds, ρ, Q, w => by
    unfold tgsW at w ⊢
    exact ⟨w.1, w.2, .refl⟩
  | .tcons a b, ds, ρ, Q, w => by
    unfold tgsW at w ⊢
    split at w
    · refine tgW_mono (fun ρ1 q => ?_) (tgW_less w)
      refine tgsW_mono (fun ρ2 q2 => ?_) (tgsW_less q.1)
      exact ⟨q2.1, q.2.trans q2.2⟩
    · exact w.elim
  | .nm _, _, _, _, w => by unfold tgsW at w; exact w.elim
  | .tup _, _, _, _, w => by unfold tgsW at w; exact w.elim
end
/-- a value is bound to a target -/
theorem Bd.bind {B : Ent} {W : Wd} {H : Hp} {Vt : Addr → Prop} {n : Nat} {σ σ' : L2.St} {ρ ρ' : List Sl} {is : List Nat} (b : Bd Γ B W H Vt n σ ρ) (s : SlotsOk W H Vt σ' ρ') (sb : SameBut is σ σ') (ls : Less is ρ ρ') (hf : ∀ i ∈ is, i ∉ Γ.fx) : Bd Γ B W H Vt n σ' ρ' where
  est := b.est
  sl := s
  old := b.old
  sub := b.sub
  gr := b.gr
  young := fun i d a e1 e2 => by
    have q := ls.own i d e1
    rw [sb.2 i q.2] at e2
    exact b.young i d a q.1 e2
  fixd := fun i hi => (sb.2 i fun z => hf i z hi).trans (b.fixd i hi)
  past := b.past
  nob := fun i d => ⟨fun e => (b.nob i d).1 (ls.bor i d e).1, fun e => (b.nob i d).2 (ls.bdp i d e).1⟩
  dps := b.dps.imp fun S q => ⟨q.1.less (fun j d e => let z := ls.dp j d e; ⟨z.1, sb.2 j z.2⟩) fun j d e => let z := ls.own j d e; ⟨z.1, sb.2 j z.2⟩, q.2⟩
def apartFx (Γ : Ga) (t : Tg) : Bool := t.vars.all fun i => !Γ.fx.contains i
theorem apartFx_of {t : Tg} (h : apartFx Γ t = true) : ∀ i ∈ t.vars, i ∉ Γ.fx := fun i hi => nfx (by
  have := List.all_eq_true.mp h i hi
  simpa using this)
theorem bs_asgT {tg e : Expr} {x : Ex} {t : Tg} {pos : Pos} (hf : apartFx Γ t = true) (hg : BG Γ sc fnk tg t) (he : BE Γ sc fnk e x) (hs : ∀ env : Env, env.scope = sc → swapsWithSole [tg] e pos.line env = pure false)
    (hw : ∀ env : Env, env.scope = sc → swappedStores [tg] e env = pure none) (hst : notStarT tg = true) : BS Γ sc fnk (.Assign [tg] e pos) (.asgT t x) := by
  obtain ⟨g, pg, sg⟩ := hg
  obtain ⟨te, p, s⟩ := he
  refine ⟨fun E => tAsg (te E) g, fun E X gd => ps_asg (p E X gd.toGood) (pg E X gd.toGood) (hs _ gd.sc) (hw _ gd.sc) (by rw [asg_each hst]; rfl), fun B W H Vt n σ ρ E R K D b y w k => ?_⟩
  unfold wpS at w
  refine s W H Vt n σ ρ E R _ _ (b.sit y) w fun v H1 ⟨V1, n1, s1, g1, p1, i1, y1, w1⟩ => ?_
  obtain ⟨d, r, q⟩ := take_rep b.est.oDom i1 y1 w1
  have b1 := b.grow g1 p1
  exact sg W H1 V1 σ ρ v d _ _ b1.sl r (tgW_less q) fun σ' ρ' s' sb q' => k.nx _ _ _ _ _ _ (b1.bind s' sb q'.2 (apartFx_of hf)) q'.1
theorem bs_aug {i : Nat} {y : Str} {py pos : Pos} {e : Expr} {x : Ex} {op : BOp} {oper : Operator} (hf : (Γ.fx.contains i) = false) (hN : Γ.N[i]? = some y) (hl : locB sc fnk y = true) (ho : (op = .add ∧ oper = .Add) ∨ (op = .sub ∧ oper = .Sub)) (he : BE Γ sc fnk e x) :
    BS Γ sc fnk (.AugAssign (.Name y py) oper e pos) (.aug i op x) := by
  obtain ⟨t, p, s⟩ := he
  have main : ∀ (f : Int → Int → Int), (∀ a b Q, binW op (.int a) (.int b) Q → Q (.pure (.int (f a b)))) → (∀ X : Cx, PIp X oper (ipI f)) → BS Γ sc fnk (.AugAssign (.Name y py) oper e pos) (.aug i op x) := by
    intro f hfn hip
    refine ⟨fun E => tAug i (t E) (ipI f), fun E X g => ?_, fun B W H Vt n σ ρ E R K D b y w k => ?_⟩
    · obtain ⟨a, c⟩ := loc_of g.toGood hl
      exact ps_aug g.nd (by rw [g.N]; exact hN) a (p E X g.toGood) (hip X) c
    · unfold wpS at w
      cases e1 : ρ.getD i .dead with
      | dead => rw [e1] at w; exact w.elim
      | own d => rw [e1] at w; exact w.elim
      | bor d => rw [e1] at w; exact w.elim
      | dp d => rw [e1] at w; exact w.elim
      | bdp d => rw [e1] at w; exact w.elim
      | pure d =>
        rw [e1] at w
        obtain ⟨v, ev, it⟩ := b.sl.get i _ (getD_some e1 (by intro z; cases z)) (by intro z; cases z)
        refine ⟨v, ev, ?_⟩
        refine s W H Vt n σ ρ E R _ _ (b.sit y) w fun u H1 ⟨V1, n1, s1, g1, p1, i1, y1, w1⟩ => ?_
        obtain ⟨d2, rd, q⟩ := i1.read w1
        cases d with
        | int a =>
          cases d2 with
          | int c =>
            have it' : Rep W H Vt v (.int a) := it
            cases it'
            cases rd.int
            refine ⟨a, c, rfl, rfl, ?_⟩
            have q2 := hfn a c _ q.2
            exact k.nx _ _ _ _ _ _ ((b.grow g1 p1).keep1 (z := .pure (.int (f a c))) (.grow .refl) (b.grow g1 p1).est (Rep.int _) (fun _ _ z => nomatch z) (nfx hf)) q2
          | _ => exact (show False from q.1).elim
        | _ => exact (show False from q.1).elim
  rcases ho with ⟨rfl, rfl⟩ | ⟨rfl, rfl⟩
  · exact main (fun a b => a + b) (fun a b Q w => by unfold binW at w; exact w) fun X => ip_add
  · exact main (fun a b => a - b) (fun a b Q w => by unfold binW at w; exact w) fun X => ip_sub
end
end Vm
/-! VmT: comprehensions with two fors. -/
namespace Vm
open PySem PySem.Spec L2
/-- all but the new list stays -/
abbrev GB (A0 : Addr) := GrowM (fun b => b = A0)
theorem GrowM.trans {M : Addr → Prop} {H H1 H2 : Hp} {V0 V1 V2 : Addr → Prop} (a : GrowM M H V0 H1 V1) (b : GrowM M H1 V1 H2 V2) : GrowM M H V0 H2 V2 where
  keep := fun c o e n m => b.keep c o (a.keep c o e n m) (a.noVt e n) m
  dom := fun c e => b.dom c (a.dom c e)
  sub := fun c e => b.sub c (a.sub c e)
  new := fun c e => (b.new c e).elim (a.new c) fun q => .inr (none_of a.dom q)
section
variable {W : Wd} {H H' : Hp} {Vt Vt' : Addr → Prop} {A0 : Addr}
theorem gb_cv (wo : W.O A0) (g : GB A0 H Vt H' Vt') : ∀ a o, H a = some o → ¬ W.O a → ¬ Vt a → H' a = some o ∧ ¬ W.O a ∧ ¬ Vt' a ∧ (¬ W.old a → ¬ W.old a) :=
  fun a o e n1 n2 => ⟨g.keep a o e n2 (show a ≠ A0 from fun z => n1 (z ▸ wo)), n1, g.noVt e n2, fun z => z⟩
theorem slots_gb {σ : L2.St} {ρ : List Sl} (wo : W.O A0) (g : GB A0 H Vt H' Vt') (s : SlotsOk W H Vt σ ρ) (hno : ∀ (i : Nat) (d : D), (ρ[i]? = some (.own d) ∨ ρ[i]? = some (.bor d)) → σ[i]? ≠ some (some (.ref A0))) (hdp : ∀ (i : Nat) (d : D), (ρ[i]? = some (.dp d) ∨ ρ[i]? = some (.bdp d)) → ∀ v, σ[i]? = some (some v) → Rep (withD (noL W H) A0) H Vt v d) : SlotsOk W H' Vt' σ ρ := by
  refine ⟨s.len, fun i z e ne => ?_, s.own, s.inj⟩
  obtain ⟨v, ev, it⟩ := s.get i z e ne
  refine ⟨v, ev, ?_⟩
  have ow : ∀ {d : D}, Own W H Vt v d → (ρ[i]? = some (.own d) ∨ ρ[i]? = some (.bor d)) → Own W H' Vt' v d := fun {d} o hc => o.conv (gb_cv wo g) g.sub fun a u ea e1 n1 => ⟨g.keep a u e1 n1 (show a ≠ A0 from fun z => hno i d hc (by rw [ev, ea, z])), g.noVt e1 n1, fun z => z⟩
  have dpr : ∀ {d : D}, Rep (withD (noL W H) A0) H Vt v d → Rep (noL W H') H' Vt' v d := fun {d} r =>
    Rep.conv (W := withD (noL W H) A0) (W' := noL W H') (fun a o e1 n1 n2 => by
      have k := g.keep a o e1 n2 (show a ≠ A0 from fun z => n1 (.inr z))
      refine ⟨k, fun z => n1 (.inl ⟨z.1, ?_⟩), g.noVt e1 n2, fun z => z⟩
      obtain ⟨us, h⟩ := z.2
      exact ⟨us, by rw [e1, ← k, h]⟩) g.sub r
  cases z with
  | dead => exact it
  | pure d => exact Rep.conv (gb_cv wo g) g.sub it
  | own d => exact ow it (.inl e)
  | bor d => exact ow it (.inr e)
  | dp d => exact dpr (hdp i d (.inl e) v ev)
  | bdp d => exact dpr (hdp i d (.inr e) v ev)
end
/-- as lc_it, from anywhere -/
theorem it_from {J : It} {n : Nat} {G : Hp → Prop} {Y : Nat → Hp → V → Hp → Prop} (w : Walk J n G Y) {g : TG} {tt : TT} {te : TE} {vs : List Nat} {σ : L2.St} {H0 : Hp} {A0 : Addr} {Qd : Hp → Prop} (Pv : Nat → Hp → Prop) (h0 : Pv 0 H0) (hG : ∀ i H, i ≤ n → Pv i H → G H)
    (hs : ∀ i x H H', i < n → Pv i H → Y i H x H' → g x (wipe σ vs) H' fun σ2 H2 => wipe σ2 vs = wipe σ vs ∧ tt σ2 H2 fun b H3 =>
      if b = true then te σ2 H3 fun y H4 => ∃ acc, H4 A0 = some (.lst acc) ∧ acc.length < sizeLine ∧ Pv (i + 1) (upd H4 A0 (.lst (acc ++ [y]))) else Pv (i + 1) H3) (hd : ∀ H, Pv n H → Qd H) :
    ∃ W0 : Nat → Nat → Hp → Prop, (∃ m, W0 0 m H0) ∧ ∀ i m H, W0 i m H →
      (J.stop i H ∧ Qd H) ∨ (J.go i H ∧ ∃ Nx : Hp → Prop, (∀ H', Nx H' → ∃ m', m' < m ∧ W0 (i + 1) m' H') ∧ ∀ x H', J.yld i H x H' → g x (wipe σ vs) H' fun σ2 H2 => wipe σ2 vs = wipe σ vs ∧ tt σ2 H2 fun b H3 =>
        if b = true then te σ2 H3 fun y H4 => ∃ acc, H4 A0 = some (.lst acc) ∧ acc.length < sizeLine ∧ Nx (upd H4 A0 (.lst (acc ++ [y]))) else Nx H3) := by
  refine ⟨fun i m H => m = n - i ∧ i ≤ n ∧ Pv i H, ⟨n, by simp, Nat.zero_le _, h0⟩, ?_⟩
  rintro i m H ⟨rfl, hi, p⟩
  have q := hG i H hi p
  by_cases hlt : i < n
  · exact .inr ⟨w.goes i H hlt q, Pv (i + 1), fun H' p' => ⟨n - (i + 1), by omega, rfl, hlt, p'⟩, fun x H' y => hs i x H H' hlt p (w.yields i H x H' hlt q y)⟩
  · have e : i = n := by omega
    subst e
    exact .inl ⟨w.stops H q, hd H p⟩

section
variable {Γ : Ga}
/-- the turns of the inner for -/
theorem turns {cond ex : Ex} {t : Tg} {vs : List Nat} {g : TG} {tt : TT} {te : TE} (hv : ∀ i ∈ t.vars, i ∈ vs)
    (sg : ∀ (W : Wd) (H : Hp) (Vt : Addr → Prop) (σ : L2.St) (ρ : List Sl) (v : V) (d : D) (Q : List Sl → Prop) (Post : L2.St → Hp → Prop), SlotsOk W H Vt σ ρ → Rep W H Vt v d → tgW t d ρ Q →
      (∀ σ' ρ', SlotsOk W H Vt σ' ρ' → SameBut t.vars σ σ' → Q ρ' → Post σ' H) → g v σ H Post)
    (st : ∀ W H Vt n σ ρ Q Post, Sit Γ W H Vt n σ ρ E0 noR → wpT Γ.Ψ cond noR ρ n Q → (∀ k H', TPost H Vt Q k H' → Post k H') → tt σ H Post)
    (se : ∀ W H Vt n σ ρ Q Post, Sit Γ W H Vt n σ ρ E0 noR → wpE Γ.Ψ ex noR ρ n Q → (∀ v H', EPost W H Vt Q v H' → Post v H') → te σ H Post)
    {W : Wd} {H1 : Hp} {V1 : Addr → Prop} {n1 : Nat} {σ : L2.St} {ρ : List Sl} (est : ESt W H1 V1 n1) (sl : SlotsOk W H1 V1 σ ρ) {A0 : Addr} (wo : W.O A0) (hno : ∀ (i : Nat) (d : D), (ρ[i]? = some (.own d) ∨ ρ[i]? = some (.bor d)) → σ[i]? ≠ some (some (.ref A0))) (hdp : ∀ (i : Nat) (d : D), (ρ[i]? = some (.dp d) ∨ ρ[i]? = some (.bdp d)) → ∀ v, σ[i]? = some (some v) → Rep (withD (noL W H1) A0) H1 V1 v d) 
    {J : It} {xs : List D} {G : Hp → Prop} {Y : Nat → Hp → V → Hp → Prop} (wk : Walk J xs.length G Y)
    (hG : ∀ Hc Vc, GB A0 H1 V1 Hc Vc → G Hc)
    (hY : ∀ Hc Vc nc i x H', ESt W Hc Vc nc → GB A0 H1 V1 Hc Vc → i < xs.length → Y i Hc x H' → ∃ d, xs[i]? = some d ∧ Rep W H' Vc x d ∧ Grow Hc Vc H' Vc ∧ ESt W H' Vc nc)
    {av0 : List V} {ad0 : List D} (hA : H1 A0 = some (.lst av0)) (ra0 : Reps W H1 V1 av0 ad0) {Qn : List D → Nat → Prop} {Qd : Hp → Prop}
    (w1 : compW (fun x n K => tgW t x (wipeS ρ vs) fun ρ' => wpE Γ.Ψ cond noR ρ' n fun c n2 => c.read fun y => truW y fun b => if b = true then wpE Γ.Ψ ex noR ρ' n2 fun z n3 => z.take fun d => K (some d) n3 else K none n2) xs n1 ad0 Qn)
    (hp : ∀ Hc Vc nc av ad, GB A0 H1 V1 Hc Vc → ESt W Hc Vc nc → Hc A0 = some (.lst av) → Reps W Hc Vc av ad → Qn ad nc → Qd Hc) :
    ∃ W0 : Nat → Nat → Hp → Prop, (∃ m, W0 0 m H1) ∧ ∀ i m H, W0 i m H →
      (J.stop i H ∧ Qd H) ∨ (J.go i H ∧ ∃ Nx : Hp → Prop, (∀ H', Nx H' → ∃ m', m' < m ∧ W0 (i + 1) m' H') ∧ ∀ x H', J.yld i H x H' → g x (wipe σ vs) H' fun σ2 H2 => wipe σ2 vs = wipe σ vs ∧ tt σ2 H2 fun b H3 =>
        if b = true then te σ2 H3 fun y H4 => ∃ acc, H4 A0 = some (.lst acc) ∧ acc.length < sizeLine ∧ Nx (upd H4 A0 (.lst (acc ++ [y]))) else Nx H3) := by
  generalize hstep : (fun x n K => tgW t x (wipeS ρ vs) fun ρ' => wpE Γ.Ψ cond noR ρ' n fun c n2 => c.read fun y => truW y fun b => if b = true then wpE Γ.Ψ ex noR ρ' n2 fun z n3 => z.take fun d => K (some d) n3 else K none n2 : D → Nat → (Option D → Nat → Prop) → Prop) = step at w1
  refine it_from wk (fun i Hc => ∃ (Vc : Addr → Prop) (nc : Nat) (av : List V) (ad : List D), GB A0 H1 V1 Hc Vc ∧ ESt W Hc Vc nc ∧ Hc A0 = some (.lst av) ∧ Reps W Hc Vc av ad ∧
    compW step (xs.drop i) nc ad Qn) ⟨V1, n1, av0, ad0, .refl, est, hA, ra0, w1⟩ (fun i Hc _ ⟨Vc, nc, av, ad, gg, _⟩ => hG Hc Vc gg) ?_ ?_
  · rintro i x Hc H' hi ⟨Vc, nc, av, ad, gg, eg, hDc, ra, wc⟩ hy
    obtain ⟨d, exd, rx, g2, e2⟩ := hY Hc Vc nc i x H' eg gg hi hy
    have hdrop : xs.drop i = d :: xs.drop (i + 1) := by
      rw [List.drop_eq_getElem_cons hi]
      rw [List.getElem?_eq_getElem hi] at exd
      cases exd; rfl
    rw [hdrop] at wc
    unfold compW at wc
    rw [← hstep] at wc
    have sl2 := ((slots_gb wo gg sl hno hdp).grow g2).wipe vs
    refine sg W H' Vc _ _ x d _ _ sl2 rx wc fun σ' ρ' s' sb q => ?_
    refine ⟨wipe_but sb hv, ?_⟩
    rw [hstep] at q
    refine st W H' Vc nc σ' ρ' _ _ ⟨e2, s', fun _ _ _ _ _ _ _ z => z.elim⟩ q fun b H3 ⟨V3, n3, g3, p3, w3⟩ => ?_
    have e3 := e2.grow g3 p3
    have nVc : ¬ Vc A0 := eg.oV A0 wo
    have k2 := g2.keep A0 _ hDc nVc
    have k3 := g3.keep A0 _ k2 nVc
    have G3 := (gg.grow g2).grow g3
    cases b with
    | false =>
      rw [if_neg (by simp)]
      rw [if_neg (by simp)] at w3
      exact ⟨V3, n3, av, ad, G3, e3, k3, (ra.grow g2).grow g3, w3⟩
    | true =>
      rw [if_pos rfl]
      rw [if_pos rfl] at w3
      refine se W H3 V3 n3 σ' ρ' _ _ ⟨e3, s'.grow g3, fun _ _ _ _ _ _ _ z => z.elim⟩ w3 fun y H4 ⟨V4, n4, s4, g4, p4, i4, y4, w4⟩ => ?_
      have e4 := e3.grow g4 p4
      have nV3 : ¬ V3 A0 := e3.oV A0 wo
      have nV4 : ¬ V4 A0 := e4.oV A0 wo
      have k4 := g4.keep A0 _ k3 nV3
      obtain ⟨d', r4, ln, w5⟩ := take_rep e3.oDom i4 y4 w4
      refine ⟨av, k4, by rw [ra.length]; exact ln, ?_⟩
      have ra4 := ((ra.grow g2).grow g3).grow g4
      have cv : ∀ a o, H4 a = some o → ¬ W.O a → ¬ V4 a → upd H4 A0 (.lst (av ++ [y])) a = some o ∧ ¬ W.O a ∧ ¬ V4 a ∧ (¬ W.old a → ¬ W.old a) := fun a o e n1 n2 =>
        ⟨by rw [upd_ne (show a ≠ A0 from fun z => n1 (z ▸ wo))]; exact e, n1, n2, fun z => z⟩
      refine ⟨V4, n4, av ++ [y], ad ++ [d'], (G3.grow g4).set (.inr rfl), ?_, upd_same, (ra4.append (.cons r4 .nil)).conv cv fun _ z => z, w5⟩
      refine ⟨fun a z => ?_, fun a z => ?_, fun a z => ?_, e4.oV⟩
      · by_cases z' : a = A0
        · rw [z', upd_same]; simp
        · rw [upd_ne z']; exact e4.oDom a z
      · by_cases z' : a = A0
        · rw [z', upd_same]; simp
        · rw [upd_ne z']; exact e4.oldDom a z
      · have ne : a ≠ A0 := fun z' => nV4 (z' ▸ z)
        obtain ⟨s, c, k, tt, h1, rr⟩ := p4 a z
        exact ⟨s, c, k, tt, by rw [upd_ne ne]; exact h1, rr⟩
  · rintro Hc ⟨Vc, nc, av, ad, gg, eg, hDc, ra, wc⟩
    rw [List.drop_of_length_le (Nat.le_refl _)] at wc
    exact hp Hc Vc nc av ad gg eg hDc ra wc
end

theorem wipeS_own : ∀ {ρ : List Sl} {vs : List Nat} {i : Nat} {s : Sl}, (wipeS ρ vs)[i]? = some s → s ≠ .dead → ρ[i]? = some s ∧ i ∉ vs
  | _, [], _, _, e, _ => ⟨e, by simp⟩
  | ρ, v :: vs, i, s, e, ne => by
    unfold wipeS at e
    by_cases h : v = i
    · subst h
      have hl : v < (wipeS ρ vs).length := by simpa using (List.getElem?_eq_some_iff.mp e).1
      rw [List.getElem?_set_self hl] at e
      cases e; exact absurd rfl ne
    · rw [List.getElem?_set_ne h] at e
      obtain ⟨a, b⟩ := wipeS_own e ne
      exact ⟨a, by simp [Ne.symm h, b]⟩
theorem rds_gb {W : Wd} {H H' : Hp} {Vt Vt' : Addr → Prop} {A0 : Addr} (wo : W.O A0) (g : GB A0 H Vt H' Vt') : ∀ {vs : List V} {ds : List D}, Rds W H Vt vs ds → (∀ a, V.ref a ∈ vs → a ≠ A0) → Rds W H' Vt' vs ds
  | _, _, .nil, _ => .nil
  | _, _, .cons (v := v) r rs, h => by
    refine .cons ?_ (rds_gb wo g rs fun a m => h a (List.mem_cons_of_mem _ m))
    rcases r with r | r
    · exact .rep (r.conv (gb_cv wo g) g.sub)
    · exact .own (r.conv (gb_cv wo g) g.sub fun a u ea e1 n1 => ⟨g.keep a u e1 n1 (h a (by rw [← ea]; exact List.mem_cons_self ..)), g.noVt e1 n1, fun z => z⟩)

mutual
/-- a target's names get values; the others stay -/
theorem tgW_keep : ∀ {t : Tg} {d : D} {ρ : List Sl} {Q : List Sl → Prop}, tgW t d ρ Q → tgW t d ρ fun ρ' => Q ρ' ∧ ∀ (i : Nat) (s : Sl), ρ'[i]? = some s → (∀ d, s ≠ .pure d) → ρ[i]? = some s ∧ i ∉ t.vars
  | .nm i, d, ρ, Q, w => by
    unfold tgW at w ⊢
    refine ⟨w, fun j s e ne => ?_⟩
    by_cases h : i = j
    · subst h
      have hl : i < ρ.length := by simpa using (List.getElem?_eq_some_iff.mp e).1
      rw [List.getElem?_set_self hl] at e
      cases e; exact absurd rfl (ne d)
    · rw [List.getElem?_set_ne h] at e
      exact ⟨e, by simp [Tg.vars, Ne.symm h]⟩
  | .tup t, d, ρ, Q, w => by
    unfold tgW at w ⊢
    split at w
    · have := tgsW_keep w
      simp only [Tg.vars]
      exact this
    · exact w.elim
  | .tnil, _, _, _, w => by unfold tgW at w; exact w.elim
  | .tcons _ _, _, _, _, w => by unfold tgW at w; exact w.elim
theorem tgsW_keep : ∀ {t : Tg} {ds : List D} {ρ : List Sl} {Q : List Sl → Prop}, tgsW t ds ρ Q → tgsW t ds ρ fun ρ' => Q ρ' ∧ ∀ (i : Nat) (s : Sl), ρ'[i]? = some s → (∀ d, s ≠ .pure d) → ρ[i]? = some s ∧ i ∉ t.varss
  | .tnil, ds, ρ, Q, w => by
    unfold tgsW at w ⊢
    exact ⟨w.1, w.2, fun i s e _ => ⟨e, by simp [Tg.varss]⟩⟩
  | .tcons a b, ds, ρ, Q, w => by
    unfold tgsW at w ⊢
    split at w
    · refine tgW_mono (fun ρ1 q => ?_) (tgW_keep w)
      refine tgsW_mono (fun ρ2 q2 => ?_) (tgsW_keep q.1)
      refine ⟨q2.1, fun i s e ne => ?_⟩
      obtain ⟨e1, n1⟩ := q2.2 i s e ne
      obtain ⟨e2, n2⟩ := q.2 i s e1 ne
      exact ⟨e2, by simp [Tg.varss, n1, n2]⟩
    · exact w.elim
  | .nm _, _, _, _, w => by unfold tgsW at w; exact w.elim
  | .tup _, _, _, _, w => by unfold tgsW at w; exact w.elim
end
theorem any_bor {ss : List Sl} : ss.any Sl.isBor = false → ss.any Sl.isBor = false := id
section
variable {Γ : Ga} {sc : Scope} {fnk : Str → Bool}
theorem comp2_core {k k1 : Ik} {elt tg iter tg1 iter1 : Expr} {ifs1 : List Expr} {scope : Scope} {own : List (Str × Nat)} {vs1 : List Nat} {pos : Pos} {src src1 cond1 ex : Ex} {t t1 : Tg}
    (hb : blkC Γ.N sc scope own = true) (hv : ∀ i ∈ t.vars, i ∈ own.map (·.2)) (hv1 : ∀ i ∈ t1.vars, i ∈ vs1) (hvs : ∀ i ∈ vs1, i ∈ own.map (·.2)) (hs : ∀ env x, foldedSetIterable iter env x = pure x) (hs1 : ∀ env x, foldedSetIterable iter1 env x = pure x)
    (hi : BI Γ sc fnk tg iter k src) (hg : BG Γ (scB scope sc) (fnB scope) tg t) (hi1 : BI Γ (scB scope sc) (fnB scope) tg1 iter1 k1 src1) (hg1 : BG Γ (scB scope sc) (fnB scope) tg1 t1)
    (hc : Conds Γ (scB scope sc) (fnB scope) ifs1 cond1) (he : BE Γ (scB scope sc) (fnB scope) elt ex) :
    ∃ tt : XK → TE, (∀ E X, Good Γ sc fnk E X → PE X (.ListComp elt [⟨tg, iter, [], 0⟩, ⟨tg1, iter1, ifs1, 0⟩] scope pos) (tt E)) ∧
      (∀ E X, Good Γ sc fnk E X → ∀ (i : Nat) (y : Str) (py spos : Pos), Γ.N[i]? = some y → sc.names.lookup y = some .local → sc.kind = .function → (py.line == pos.line) = true →
        (scope.names.any fun (n, k) => n == y && (k == .local || k == .cell)) = false → PS X (.Assign [.Name y py] (.ListComp elt [⟨tg, iter, [], 0⟩, ⟨tg1, iter1, ifs1, 0⟩] scope pos) spos) (tAsg (tt E) (gName i))) ∧
      ∀ W H Vt n σ ρ E R Q Post, Sit Γ W H Vt n σ ρ E R → wpE Γ.Ψ (.comp2 k src t k1 src1 t1 cond1 ex (own.map (·.2)) vs1) R ρ n Q → (∀ v H', EPost W H Vt Q v H' → Post v H') → tt E σ H Post := by
  obtain ⟨wi, pi, si⟩ := hi
  obtain ⟨g, pg, sg⟩ := hg
  obtain ⟨wi1, pi1, si1⟩ := hi1
  obtain ⟨g1, pg1, sg1⟩ := hg1
  obtain ⟨tt, pt, st⟩ := conds_ok hc
  obtain ⟨te, pe, se⟩ := he
  refine ⟨fun E => tLc2 (wi E) g tYes (wi1 E0) g1 tt (te E0) (own.map (·.2)) vs1, fun E X gd => ?_, fun E X gd i y py spos hy hyl hk hl ha => ?_, fun W H Vt n σ ρ E R Q Post S w hp => ?_⟩
  · exact pe_lc2 gd.calm gd.nd (pi E X gd) (by rw [gd.N, gd.sc]; exact blkOk_by hb) hvs (fun s H C cl fp => pg E0 _ (gd.blk scope s H C cl fp)) (fun _ _ _ _ _ => pts_nil) (fun s H C cl fp => pi1 E0 _ (gd.blk scope s H C cl fp)) (fun s H C cl fp => pg1 E0 _ (gd.blk scope s H C cl fp)) (fun s H C cl fp => pt _ (gd.blk scope s H C cl fp))
      (fun s H C cl fp => pe E0 _ (gd.blk scope s H C cl fp)) (hs _) hs1
  · exact ps_setLc2 gd.calm gd.nd (by rw [gd.N]; exact hy) (by rw [gd.sc]; exact hyl) (sw_true (by rw [gd.sc]; exact hk) (by rw [gd.sc]; exact hyl) hl ha) (pi E X gd) (by rw [gd.N, gd.sc]; exact blkOk_by hb) hvs
      (fun s H C cl fp => pg E0 _ (gd.blk scope s H C cl fp)) (fun _ _ _ _ _ => pts_nil) (fun s H C cl fp => pi1 E0 _ (gd.blk scope s H C cl fp)) (fun s H C cl fp => pg1 E0 _ (gd.blk scope s H C cl fp)) (fun s H C cl fp => pt _ (gd.blk scope s H C cl fp))
      (fun s H C cl fp => pe E0 _ (gd.blk scope s H C cl fp)) (hs _) hs1
  · unfold wpE at w
    obtain ⟨⟨_, _⟩, w⟩ := w
    refine si W H Vt n σ ρ E R _ _ S w (fun ss m c => reads_mono (fun ds q => itemsW_mono (fun _ _ => True.intro) q) c) fun J H1 V1 n1 vs ss ds xs g1 p1 i1 y1 c1 rd hk hx src => ?_
    have w1 := hx _ (hk _ c1)
    have S1 := S.grow g1 p1
    intro A0 hD
    obtain ⟨G, Y, wk, hG, hY⟩ := src.ex
    have VD : ¬ V1 A0 := fun z => (p1 A0 z).dom hD
    have toD : ∀ {a : Addr} {o : HO}, H1 a = some o → a ≠ A0 := fun e z => by rw [z, hD] at e; cases e
    have rdD : Rds (withD W A0) H1 V1 vs ds := by
      have : ∀ {vs : List V} {ds : List D}, Rds W H1 V1 vs ds → Rds (withD W A0) H1 V1 vs ds := by
        intro vs ds r
        induction r with
        | nil => exact .nil
        | cons r _ ih =>
          refine .cons ?_ ih
          have cv : ∀ a o, H1 a = some o → ¬ W.O a → ¬ V1 a → H1 a = some o ∧ ¬ (withD W A0).O a ∧ ¬ V1 a ∧ (¬ W.old a → ¬ (withD W A0).old a) := fun a o e n1 n2 => ⟨e, fun z => z.elim n1 (toD e), n2, fun z => z⟩
          rcases r with r | r
          · exact .rep (Rep.conv cv (fun _ z => z) r)
          · exact .own (Own.conv r cv (fun _ z => z) fun a o _ e n => ⟨e, n, fun z => z⟩)
      exact this rd
    have rgrow : ∀ {H2 : Hp} {V2 : Addr → Prop}, Grow H1 V1 H2 V2 → Rds (withD W A0) H2 V2 vs ds := by
      intro H2 V2 gg
      have : ∀ {vs : List V} {ds : List D}, Rds (withD W A0) H1 V1 vs ds → Rds (withD W A0) H2 V2 vs ds := by
        intro vs ds r
        induction r with
        | nil => exact .nil
        | cons r _ ih => exact .cons (r.grow gg) ih
      exact this rdD
    have gD : Grow H1 V1 (upd H1 A0 (.lst [])) V1 := Grow.upd hD
    have est := S1.est
    have sl := S1.sl
    have slD : SlotsOk (withD W A0) H1 V1 σ ρ := by
      refine ⟨sl.len, fun i s e ne => ?_, fun i d a e1 e2 => .inl (sl.own i d a e1 e2), sl.inj⟩
      obtain ⟨v, ev, it⟩ := sl.get i s e ne
      refine ⟨v, ev, ?_⟩
      have cv : ∀ a o, H1 a = some o → ¬ W.O a → ¬ V1 a → H1 a = some o ∧ ¬ (withD W A0).O a ∧ ¬ V1 a ∧ (¬ W.old a → ¬ (withD W A0).old a) := fun a o e n1 n2 => ⟨e, fun z => z.elim n1 (toD e), n2, fun z => z⟩
      cases s with
      | dead => exact it
      | pure d => exact Rep.conv cv (fun _ z => z) it
      | own d => exact Own.conv it cv (fun _ z => z) fun a o _ e n => ⟨e, n, fun z => z⟩
      | bor d => exact Own.conv it cv (fun _ z => z) fun a o _ e n => ⟨e, n, fun z => z⟩
      | dp d => exact Rep.withL hD it
      | bdp d => exact Rep.withL hD it
    have hno : ∀ (i : Nat) (d : D), (ρ[i]? = some (.own d) ∨ ρ[i]? = some (.bor d)) → σ[i]? ≠ some (some (.ref A0)) := by
      intro i d e z
      have key : ∀ s : Sl, ρ[i]? = some s → s ≠ .dead → (∀ v, ItemOk W H1 V1 v s → Own W H1 V1 v d) → False := fun s es ne ho => by
        obtain ⟨v, ev, it⟩ := sl.get i s es ne
        rw [z] at ev; cases ev
        obtain ⟨a, e1, e2, _⟩ := (ho _ it).ref
        cases e1
        exact e2 hD
      rcases e with e | e
      · exact key _ e (by intro z; cases z) fun _ h => h
      · exact key _ e (by intro z; cases z) fun _ h => h
    have estD : ESt (withD W A0) (upd H1 A0 (.lst [])) V1 n1 := by
      refine ⟨fun a z => ?_, fun a z => gD.dom a (est.oldDom a z), (est.upd hD).pur, fun a z => ?_⟩
      · rcases z with z | z
        · exact gD.dom a (est.oDom a z)
        · rw [z, upd_same]; simp
      · rcases z with z | z
        · exact est.oV a z
        · rw [z]; exact VD
    generalize hstep : (fun x n acc K => tgW t x (wipeS ρ (own.map (·.2))) fun ρ' => wpL Γ.Ψ src1 noR ρ' n fun ss1 n2 => ss1.any Sl.isBor = false ∧ reads ss1 fun ds1 => itemsW k1 ds1 fun xs1 =>
        compW (fun x n K => tgW t1 x (wipeS ρ' vs1) fun ρ' => wpE Γ.Ψ cond1 noR ρ' n fun c n2 => c.read fun y => truW y fun b => if b = true then wpE Γ.Ψ ex noR ρ' n2 fun z n3 => z.take fun d => K (some d) n3 else K none n2) xs1 n2 acc K : D → Nat → List D → (List D → Nat → Prop) → Prop) = step at w1
    let Pv : Nat → Hp → Prop := fun i Hc => ∃ (Vc : Addr → Prop) (nc : Nat) (av : List V) (ad : List D), Grow H1 V1 Hc Vc ∧ ESt (withD W A0) Hc Vc nc ∧ Hc A0 = some (.lst av) ∧ Reps (withD W A0) Hc Vc av ad ∧
      comp2W step (xs.drop i) nc ad (fun ys n2 => Q (.own (.lst true ys)) n2)
    refine ⟨fun i m H => m = xs.length - i ∧ i ≤ xs.length ∧ Pv i H, ⟨xs.length, by simp, Nat.zero_le _, ⟨V1, n1, [], [], gD, estD, upd_same, .nil, w1⟩⟩, ?_⟩
    rintro i m Hc ⟨rfl, hi, Vc, nc, av, ad, gg, eg, hDc, ra, wc⟩
    have q := hG (withD W A0) Hc Vc (rgrow gg)
    by_cases hlt : i < xs.length
    · refine .inr ⟨wk.goes i Hc hlt q, Pv (i + 1), fun H' p' => ⟨xs.length - (i + 1), by omega, rfl, hlt, p'⟩, fun x H' y => ?_⟩
      obtain ⟨d, exd, rx, g2, e2⟩ := hY (withD W A0) Hc Vc nc i x H' eg (rgrow gg) hlt (wk.yields i Hc x H' hlt q y)
      have hdrop : xs.drop i = d :: xs.drop (i + 1) := by
        rw [List.drop_eq_getElem_cons hlt]
        rw [List.getElem?_eq_getElem hlt] at exd
        cases exd; rfl
      rw [hdrop] at wc
      unfold comp2W at wc
      rw [← hstep] at wc
      have sl2 := ((slD.grow gg).grow g2).wipe (own.map (·.2))
      refine sg (withD W A0) H' Vc _ _ x d _ _ sl2 rx (tgW_keep wc) fun σ' ρ' s' sb q => ?_
      obtain ⟨q, hkeep⟩ := q
      refine ⟨wipe_but sb hv, ?_⟩
      simp only [tYes, if_true]
      refine si1 (withD W A0) H' Vc nc σ' ρ' E0 noR _ _ ⟨e2, s', fun _ _ _ _ _ _ _ z => z.elim⟩ q (fun ss m c => reads_mono (fun ds q => itemsW_mono (fun _ _ => True.intro) q) c.2) fun J1 H4 V4 n4 vs4 ss4 ds4 xs4 g4 p4 i4 y4 c4 rd4 hk4 hx4 src4 => ?_
      have e4 := e2.grow g4 p4
      have w4 := hx4 _ (hk4 _ c4.2)
      obtain ⟨G4, Y4, wk4, hG4, hY4⟩ := src4.ex
      have woD : (withD W A0).O A0 := .inr rfl
      have nr : ∀ a, V.ref a ∈ vs4 → a ≠ A0 := fun a m z => items_ref i4 y4 e2.oDom e4.oV c4.1 a m (.inr z)
      have nVc : ¬ Vc A0 := eg.oV A0 (.inr rfl)
      have k4 := (g2.trans g4).keep A0 _ hDc nVc
      have hno' : ∀ (i : Nat) (d : D), (ρ'[i]? = some (.own d) ∨ ρ'[i]? = some (.bor d)) → σ'[i]? ≠ some (some (.ref A0)) := by
        intro j d' e z
        have key : ∀ s : Sl, ρ'[j]? = some s → (∀ d, s ≠ .pure d) → s ≠ .dead → ρ[j]? = some s ∧ σ'[j]? = σ[j]? := fun s es ne nd => by
          obtain ⟨a1, a2⟩ := hkeep j s es ne
          obtain ⟨b1, b2⟩ := wipeS_own a1 nd
          exact ⟨b1, by rw [sb.2 j a2, wipe_get _ _ _ b2]⟩
        rcases e with e | e
        · obtain ⟨b1, b2⟩ := key _ e (by intro _ z; cases z) (by intro z; cases z)
          exact hno j d' (.inl b1) (b2 ▸ z)
        · obtain ⟨b1, b2⟩ := key _ e (by intro _ z; cases z) (by intro z; cases z)
          exact hno j d' (.inr b1) (b2 ▸ z)
      have hdp' : ∀ (i : Nat) (d : D), (ρ'[i]? = some (.dp d) ∨ ρ'[i]? = some (.bdp d)) → ∀ v, σ'[i]? = some (some v) → Rep (withD (noL (withD W A0) H4) A0) H4 V4 v d := by
        intro j d' e v ev
        have key : ∀ s : Sl, ρ'[j]? = some s → (∀ d, s ≠ .pure d) → s ≠ .dead → ρ[j]? = some s ∧ σ'[j]? = σ[j]? := fun s es ne nd => by
          obtain ⟨a1, a2⟩ := hkeep j s es ne
          obtain ⟨b1, b2⟩ := wipeS_own a1 nd
          exact ⟨b1, by rw [sb.2 j a2, wipe_get _ _ _ b2]⟩
        have G0 := gg.trans (g2.trans g4)
        have cvt : Rep (noL W H1) H1 V1 v d' → Rep (withD (noL (withD W A0) H4) A0) H4 V4 v d' := fun r =>
          Rep.conv (W := noL W H1) (W' := withD (noL (withD W A0) H4) A0) (fun a o e1 n1 n2 => by
            have k := G0.keep a o e1 n2
            refine ⟨k, fun z => ?_, G0.noVt e1 n2, fun z => z⟩
            rcases z with z | z
            · obtain ⟨z1, us, z2⟩ := z
              rcases z1 with z1 | z1
              · exact n1 ⟨z1, us, by rw [e1, ← k, z2]⟩
              · exact toD e1 z1
            · exact toD e1 z) G0.sub r
        rcases e with e | e
        · obtain ⟨b1, b2⟩ := key _ e (by intro _ z; cases z) (by intro z; cases z)
          obtain ⟨v', ev', it⟩ := sl.get j _ b1 (by intro z; cases z)
          rw [b2, ev'] at ev; cases ev
          exact cvt it
        · obtain ⟨b1, b2⟩ := key _ e (by intro _ z; cases z) (by intro z; cases z)
          obtain ⟨v', ev', it⟩ := sl.get j _ b1 (by intro z; cases z)
          rw [b2, ev'] at ev; cases ev
          exact cvt it
      refine turns hv1 sg1 st (fun W H Vt n σ ρ Q Post S w hp => se W H Vt n σ ρ E0 noR Q Post S w hp) e4 (s'.grow g4) (.inr rfl) hno' hdp' wk4 (fun Hc Vc g5 => hG4 _ Hc Vc (rds_gb woD g5 rd4 nr)) (fun Hc Vc nc i x H' eg g5 hi hy => hY4 _ Hc Vc nc i x H' eg (rds_gb woD g5 rd4 nr) hi hy)
        k4 (ra.grow (g2.trans g4)) w4 ?_
      intro H6 V6 n6 av6 ad6 g6 e6 h6 r6 w6
      rw [hstep] at w6
      refine ⟨V6, n6, av6, ad6, ?_, e6, h6, r6, w6⟩
      have G0 := gg.trans (g2.trans g4)
      exact ⟨fun a o e n => g6.keep a o (G0.keep a o e n) (G0.noVt e n) (toD e), fun a e => g6.dom a (G0.dom a e), fun a e => g6.sub a (G0.sub a e), fun a e => (g6.new a e).elim (G0.new a) fun z => .inr (by
        cases q : H1 a with
        | none => rfl
        | some o => exact absurd z (G0.dom a (by rw [q]; simp)))⟩
    · have e : i = xs.length := by omega
      subst e
      rw [List.drop_of_length_le (Nat.le_refl _)] at wc
      refine .inl ⟨wk.stops Hc q, hp _ Hc ⟨Vc, nc, .own (.lst true ad), g1.trans gg, eg.pur, ?_, fun d a _ z => ?_, wc⟩⟩
      · refine .lst hDc (eg.oV A0 (.inr rfl)) (fun _ z => S1.est.oldDom A0 z hD) (Reps.conv (W := withD W A0) (fun a o e n1 n2 => ⟨e, fun z => n1 (Or.inl z), n2, fun z => z⟩) (fun _ z => z) ra)
      · cases z
        cases q : H A0 with
        | none => rfl
        | some o => exact absurd hD (g1.dom A0 (by rw [q]; simp))
end
end Vm
/-! Vm16: what changes an own list or dict; parallel assignments; loops. -/
namespace Vm
open PySem PySem.Spec L2
section
variable {Γ : Ga} {sc : Scope} {fnk : Str → Bool}
theorem Bd.slot {B : Ent} {W : Wd} {H : Hp} {Vt : Addr → Prop} {n : Nat} {σ : L2.St} {ρ : List Sl} (b : Bd Γ B W H Vt n σ ρ) {i : Nat} {x : D} (e : ρ.getD i .dead = .own x) :
    ρ[i]? = some (.own x) ∧ ∃ a, σ[i]? = some (some (.ref a)) ∧ Own W H Vt (.ref a) x := by
  have e' := getD_some e (by intro z; cases z)
  obtain ⟨v, ev, ow⟩ := b.sl.get i _ e' (by intro z; cases z)
  obtain ⟨a, rfl, _, _⟩ := Own.ref ow
  exact ⟨e', a, ev, ow⟩

/-- a method's way with an own list, by values -/
def MutOk (m : Mu) (r : V → List V → Hp → VK → Prop) : Prop :=
  ∀ (W : Wd) (H : Hp) (Vt : Addr → Prop) (a : Addr) (us : List V) (t : Bool) (xs : List D) (vs : List V) (ds : List D) (Qd : D → Prop) (Q : VK), H a = some (.lst us) → Reps W H Vt us xs → Reps W H Vt vs ds → mutW m (.lst t xs) ds Qd →
    (∀ v us' ys, Reps W H Vt us' ys → Qd (.lst t ys) → Q v (upd H a (.lst us'))) → r (.ref a) vs H Q
theorem mu_append : MutOk .append rAppend := by
  intro W H Vt a us t xs vs ds Qd Q h r rv w hp
  cases rv with
  | nil => exact (show False from w).elim
  | cons r1 rs =>
    cases rs with
    | nil => exact ⟨a, us, _, rfl, rfl, h, by rw [r.length]; exact w.1, hp _ _ _ (r.append (.cons r1 .nil)) w.2⟩
    | cons _ _ => exact (show False from w).elim
theorem mu_extend : MutOk .extend rExtend := by
  intro W H Vt a us t xs vs ds Qd Q h r rv w hp
  cases rv with
  | nil => exact (show False from w).elim
  | @cons v _ d _ r1 rs =>
    cases rs with
    | nil =>
      cases d with
      | lst t2 ys =>
        cases r1 with
        | lst e2 _ _ _ q2 => exact ⟨a, _, us, _, rfl, rfl, h, e2, by rw [r.length, q2.length]; exact w.1, hp _ _ _ (r.append q2) w.2⟩
      | _ => exact (show False from w).elim
    | cons _ _ => revert w; cases d <;> exact fun w => (show False from w).elim
theorem Reps.dropLast {W : Wd} {H : Hp} {Vt : Addr → Prop} {us : List V} {xs : List D} (r : Reps W H Vt us xs) : Reps W H Vt us.dropLast xs.dropLast := by
  rw [List.dropLast_eq_take, List.dropLast_eq_take, r.length]
  exact r.take _
theorem mu_pop : MutOk .pop rPop := by
  intro W H Vt a us t xs vs ds Qd Q h r rv w hp
  cases rv with
  | nil =>
    have w : xs ≠ [] ∧ Qd (.lst t xs.dropLast) := w
    have hl : us.length - 1 < us.length := by
      have : xs.length ≠ 0 := fun z => w.1 (List.length_eq_zero_iff.mp z)
      rw [r.length]; omega
    exact ⟨a, us, us[us.length - 1], rfl, rfl, h, List.getElem?_eq_getElem hl, hp _ _ _ r.dropLast w.2⟩
  | cons _ _ => exact (show False from w).elim
theorem mu_clear : MutOk .clear rClear := by
  intro W H Vt a us t xs vs ds Qd Q h r rv w hp
  cases rv with
  | nil => exact ⟨a, us, rfl, rfl, h, hp _ [] [] .nil w⟩
  | cons _ _ => exact (show False from w).elim
def rInsert : V → List V → Hp → VK → Prop := fun x vs H Q => ∃ (l : Addr) (xs : List V) (i : Int) (y : V), x = .ref l ∧ vs = [.int i, y] ∧ H l = some (.lst xs) ∧ xs.length < sizeLine ∧ 0 ≤ i ∧ i < 2 ^ 63 ∧
    Q .non (upd H l (.lst (xs.take i.toNat ++ [y] ++ xs.drop i.toNat)))
theorem mu_insert : MutOk .insert rInsert := by
  intro W H Vt a us t xs vs ds Qd Q h r rv w hp
  cases rv with
  | nil => exact (show False from w).elim
  | @cons v _ d _ r1 rs =>
    cases rs with
    | nil => revert w; cases d <;> exact fun w => (show False from w).elim
    | @cons v2 _ d2 _ r2 rs2 =>
      cases rs2 with
      | cons _ _ => revert w; cases d <;> exact fun w => (show False from w).elim
      | nil =>
        cases d with
        | int i =>
          have w : (0 ≤ i ∧ i ≤ xs.length ∧ xs.length < sizeLine) ∧ Qd (.lst t (insAt xs i d2)) := w
          cases r1
          have hz : sizeLine < 2 ^ 63 := by decide
          refine ⟨a, us, i, v2, rfl, rfl, h, by rw [r.length]; exact w.1.2.2, w.1.1, by omega, ?_⟩
          rw [List.append_assoc]
          exact hp _ _ _ ((r.take _).append (.cons r2 (r.drop _))) w.2
        | _ => exact (show False from w).elim

theorem mut_end {m : Mu} {r : V → List V → Hp → VK → Prop} (hm : MutOk m r) {B : Ent} {W : Wd} {H : Hp} {Vt : Addr → Prop} {n : Nat} {σ : L2.St} {ρ : List Sl} {K : KS} {N : Ends} {i : Nat} {x : D} {a : Addr} {vs : List V} {ds : List D}
    (b : Bd Γ B W H Vt n σ ρ) (e : ρ[i]? = some (.own x)) (ev : σ[i]? = some (some (.ref a))) (ow : Own W H Vt (.ref a) x) (rv : Reps W H Vt vs ds) (w : mutW m x ds fun y => K.nx (ρ.set i (.own y)) n) (k : KOk Γ B K N) :
    r (.ref a) vs H fun _ H' => N.nx σ H' := by
  cases ow with
  | @lst _ us xs t h nv ny q =>
    refine hm W H Vt a us t xs vs ds _ _ h q rv w fun v us' ys r' w' => ?_
    refine k.nx _ _ _ _ _ _ (b.mut e ev ?_) w'
    have wo : W.O a := b.sl.own i _ a e ev
    refine .lst upd_same nv ny (r'.conv (fun c u e n1 n2 => ⟨?_, n1, n2, fun z => z⟩) fun _ z => z)
    rw [upd_ne (show c ≠ a from fun z => n1 (z ▸ wo))]; exact e
  | dic h nv ny q => cases m <;> exact (show False from w).elim
/-- name.method(e, ..) -/
theorem bs_mut {m : Mu} {r : V → List V → Hp → VK → Prop} {name : Str} {id : String} {i : Nat} {y : Str} {px apos cpos pos : Pos} {e : Expr} {es : List Expr} {x : Ex} (hm : MutOk m r) (slot : Slot "list" name id) (hty : typeOf (.builtin id) = pure (.type "method_descriptor")) (hmt : ∀ X : Cx, MtR X id r)
    (hN : Γ.N[i]? = some y) (hv : vis sc y = true) (hd : (y == ("__debug__" : Str)) = false) (hc : (y == ("__classdict__" : Str)) = false) (hn : (e :: es).all noStar = true) (hlen : decide ((e :: es).length + 1 < 30) = true) (hline : (apos.endLine == cpos.line) = true)
    (hs : BL Γ sc fnk (e :: es) x) : BS Γ sc fnk (.Expr (.Call (.Attribute (.Name y px) name apos) (e :: es) [] cpos) pos) (.mut i m x) := by
  obtain ⟨t, p, s⟩ := hs
  have hn' : noStar e = true ∧ es.all noStar = true := by simpa using hn
  refine ⟨fun E => tDrop (tBM Γ.K "list" r (tVar i) (t E)), fun E X g => ?_, fun B W H Vt n σ ρ E R K D b z w k => ?_⟩
  · refine ps_expr ?_ rfl
    have hfew : ((backTo cpos (starEach (e :: es) X.env)).all (fun x => !x.1) && (backToKw cpos (keywordEach [] X.env)).all (fun x => x.1.isSome)
      && decide ((e :: es).length + ([] : List Keyword).length + (if ([] : List Keyword).isEmpty then 0 else 1) < 30)) = true := by
      have h1 : (backTo cpos (starEach (e :: es) X.env)).all (fun x => !x.1) = true := by
        have := star_any (es := e :: es) cpos X.env hn
        rw [List.any_eq_false] at this
        exact List.all_eq_true.mpr fun q hq => by simpa using this q hq
      rw [h1]
      show decide ((e :: es).length + 0 + 0 < 30) = true
      have := of_decide_eq_true hlen
      exact decide_eq_true (by omega)
    have := pe_bm (X := X) PySem.F.plainAttrs_list slot hty (hmt X) (pe_var (pos := px) (by rw [g.N]; exact hN) (by rw [g.sc]; exact vis_of hv) hd hc) (p E X g.toGood) (by rfl) hfew hline (star_cons hn'.1 _) (star_any _ _ hn'.2)
    rw [g.K] at this
    exact this
  · unfold wpS at w
    cases e1 : ρ.getD i .dead with
    | dead => rw [e1] at w; exact w.elim
    | pure d => rw [e1] at w; exact w.elim
    | bor d => rw [e1] at w; exact w.elim
    | dp d => rw [e1] at w; exact w.elim
    | bdp d => rw [e1] at w; exact w.elim
    | own d =>
      rw [e1] at w
      obtain ⟨e2, a, ev, ow⟩ := b.slot e1
      refine ⟨.ref a, ev, ?_, ?_⟩
      · cases ow with
        | lst h nv ny q => exact .inl ⟨rfl, _, SqL.of h⟩
        | dic h nv ny q => exact (show False from nomatch w.1).elim
      · refine s W H Vt n σ ρ E R _ _ (b.sit z) w.2 fun vs H1 ⟨V1, n1, ss, g1, p1, i1, y1, w1⟩ => ?_
        obtain ⟨ds, rv, w2⟩ := items_take b.est.oDom i1 y1 w1
        exact mut_end hm (b.grow g1 p1) e2 ev (ow.grow g1) rv w2 k
/-- name.method() -/
theorem bs_mut0 {m : Mu} {r : V → List V → Hp → VK → Prop} {name : Str} {id : String} {i : Nat} {y : Str} {px apos cpos pos : Pos} (hm : MutOk m r) (slot : Slot "list" name id) (hty : typeOf (.builtin id) = pure (.type "method_descriptor")) (hmt : ∀ X : Cx, MtR X id r)
    (hN : Γ.N[i]? = some y) (hv : vis sc y = true) (hd : (y == ("__debug__" : Str)) = false) (hc : (y == ("__classdict__" : Str)) = false) (hline : (apos.endLine == cpos.line) = true) :
    BS Γ sc fnk (.Expr (.Call (.Attribute (.Name y px) name apos) [] [] cpos) pos) (.mut i m .enil) := by
  refine ⟨fun E => tDrop (tBM0 Γ.K "list" r (tVar i)), fun E X g => ?_, fun B W H Vt n σ ρ E R K D b z w k => ?_⟩
  · refine ps_expr ?_ rfl
    have := pe_bm0 (X := X) (cpos := cpos) PySem.F.plainAttrs_list slot hty (hmt X) (pe_var (pos := px) (by rw [g.N]; exact hN) (by rw [g.sc]; exact vis_of hv) hd hc) (by rfl) hline
    rw [g.K] at this
    exact this
  · unfold wpS at w
    cases e1 : ρ.getD i .dead with
    | dead => rw [e1] at w; exact w.elim
    | pure d => rw [e1] at w; exact w.elim
    | bor d => rw [e1] at w; exact w.elim
    | dp d => rw [e1] at w; exact w.elim
    | bdp d => rw [e1] at w; exact w.elim
    | own d =>
      rw [e1] at w
      obtain ⟨e2, a, ev, ow⟩ := b.slot e1
      refine ⟨.ref a, ev, ?_, ?_⟩
      · cases ow with
        | lst h nv ny q => exact .inl ⟨rfl, _, SqL.of h⟩
        | dic h nv ny q => exact (show False from nomatch w.1).elim
      · have w2 := w.2
        unfold wpL at w2
        exact mut_end hm b e2 ev ow .nil w2 k
theorem asg_sub {o ke : Expr} {tpos : Pos} (h : plainIxB ke = true) (env : Env) (v : Value) : assign (.Subscript o ke tpos) env v = (do
      let ov ← holding [v] (eval o env)
      let iv ← holding [v, ov] (eval ke env)
      standAt tpos
      holding [v, ov, iv] (setItem ov iv v)
      release [v, ov, iv] []) := by
  cases ke <;> first | rfl | skip
  rename_i lo hi st p
  cases st
  · cases h
  · rfl
/-- name[k] = e, a list -/
theorem bs_setIx {i : Nat} {y : Str} {px tpos pos : Pos} {ke e : Expr} {kx x : Ex} (hN : Γ.N[i]? = some y) (hv : vis sc y = true) (hd : (y == ("__debug__" : Str)) = false) (hc : (y == ("__classdict__" : Str)) = false)
    (hb0 : plainIxB ke = true) (hk : BE Γ sc fnk ke kx) (he : BE Γ sc fnk e x) : BS Γ sc fnk (.Assign [.Subscript (.Name y px) ke tpos] e pos) (.setIx i kx x) := by
  obtain ⟨te, pe, se⟩ := he
  obtain ⟨tk, pk, sk⟩ := hk
  refine ⟨fun E => tAsg (te E) (gSub (tVar i) (tk E) rSetL), fun E X g => ?_, fun B W H Vt n σ ρ E R K D b z w k => ?_⟩
  · exact ps_asg (pe E X g.toGood) (pg_sub (pe_var (by rw [g.N]; exact hN) (by rw [g.sc]; exact vis_of hv) hd hc) (pk E X g.toGood) set_list (fun v => asg_sub hb0 _ v)) (by cases e <;> rfl) (by cases e <;> rfl) rfl
  · unfold wpS at w
    cases e1 : ρ.getD i .dead with
    | dead => rw [e1] at w; exact w.elim
    | pure d => rw [e1] at w; exact w.elim
    | bor d => rw [e1] at w; exact w.elim
    | dp d => rw [e1] at w; exact w.elim
    | bdp d => rw [e1] at w; exact w.elim
    | own d =>
      rw [e1] at w
      obtain ⟨e2, a, ev, ow⟩ := b.slot e1
      refine se W H Vt n σ ρ E R _ _ (b.sit z) w fun v H1 ⟨V1, n1, s1, g1, p1, i1, y1, w1⟩ => ?_
      have b1 := b.grow g1 p1
      refine ⟨.ref a, ev, ?_⟩
      refine sk W H1 V1 n1 σ ρ E R _ _ (b1.sit z) w1 fun u H2 ⟨V2, n2, s2, g2, p2, i2, y2, w2⟩ => ?_
      obtain ⟨dv, rv, w3⟩ := take_rep b.est.oDom (i1.grow g2) y1 w2
      obtain ⟨dk, rk, w4⟩ := i2.read w3
      have b2 := b1.grow g2 p2
      have ow2 := (ow.grow g1).grow g2
      cases ow2 with
      | @lst _ us xs t h nv ny q =>
        cases dk with
        | int j =>
          have w5 : (match ixN xs.length j with | some l => K.nx (ρ.set i (.own (.lst t (xs.set l dv)))) n2 | none => False) := w4
          cases e3 : ixN xs.length j with
          | none => rw [e3] at w5; exact w5.elim
          | some l =>
            rw [e3] at w5
            cases rk.int
            refine ⟨a, us, j, l, rfl, rfl, h, by rw [q.length]; exact e3, ?_⟩
            refine k.nx _ _ _ _ _ _ (b2.mut e2 ev (.lst upd_same nv ny ?_)) w5
            have wo : W.O a := b.sl.own i _ a e2 ev
            refine (Reps.set rv l q).conv (fun c u e n1 n2 => ⟨?_, n1, n2, fun z => z⟩) fun _ z => z
            rw [upd_ne (show c ≠ a from fun z => n1 (z ▸ wo))]; exact e
        | _ => exact (show False from w4).elim
      | dic h nv ny q => revert w4; cases dk <;> exact fun w4 => (show False from w4).elim
theorem repk_map {W : Wd} {H : Hp} {Vt : Addr → Prop} {k : Key} {v : V} {d : D} (r : Rep W H Vt v d) : ∀ {us : List (Key × V)} {ds : List (Key × D)}, Repk W H Vt us ds →
    Repk W H Vt (us.map fun p => if p.1 = k then (p.1, v) else p) (ds.map fun p => if p.1 = k then (p.1, d) else p)
  | _, _, .nil => .nil
  | _, _, .cons (k := k') r0 rs => by
    rw [List.map_cons, List.map_cons]
    by_cases e : k' = k
    · simp only [e, if_true]; exact .cons r (repk_map r rs)
    · simp only [e, if_false]; exact .cons r0 (repk_map r rs)
theorem repk_any {W : Wd} {H : Hp} {Vt : Addr → Prop} {k : Key} : ∀ {us : List (Key × V)} {ds : List (Key × D)}, Repk W H Vt us ds → (us.any fun p => decide (p.1 = k)) = (ds.any fun p => decide (p.1 = k))
  | _, _, .nil => rfl
  | _, _, .cons r0 rs => by rw [List.any_cons, List.any_cons, repk_any rs]
theorem Repk.append {W : Wd} {H : Hp} {Vt : Addr → Prop} : ∀ {us : List (Key × V)} {ds : List (Key × D)} {us' : List (Key × V)} {ds' : List (Key × D)}, Repk W H Vt us ds → Repk W H Vt us' ds' → Repk W H Vt (us ++ us') (ds ++ ds')
  | _, _, _, _, .nil, q => q
  | _, _, _, _, .cons a r, q => .cons a (Repk.append r q)
theorem repk_put {W : Wd} {H : Hp} {Vt : Addr → Prop} {k : Key} {v : V} {d : D} {us : List (Key × V)} {ds : List (Key × D)} (r : Rep W H Vt v d) (q : Repk W H Vt us ds) : Repk W H Vt (putK us k v) (kput ds k d) := by
  unfold putK kput
  rw [repk_any q]
  split
  · exact repk_map r q
  · exact q.append (.cons r .nil)
/-- name[k] = e, a dict -/
theorem bs_dput {i : Nat} {y : Str} {px tpos pos : Pos} {ke e : Expr} {kx x : Ex} (hN : Γ.N[i]? = some y) (hv : vis sc y = true) (hd : (y == ("__debug__" : Str)) = false) (hc : (y == ("__classdict__" : Str)) = false)
    (hk : BE Γ sc fnk ke kx) (he : BE Γ sc fnk e x) : BS Γ sc fnk (.Assign [.Subscript (.Name y px) ke tpos] e pos) (.dput i kx x) := by
  obtain ⟨te, pe, se⟩ := he
  obtain ⟨tk, pk, sk⟩ := hk
  refine ⟨fun E => sDPut (tVar i) (tk E) (te E), fun E X g => ?_, fun B W H Vt n σ ρ E R K D b z w k => ?_⟩
  · exact ps_dput (by have := g.toGood.hu; omega) (pe_var (by rw [g.N]; exact hN) (by rw [g.sc]; exact vis_of hv) hd hc) (pk E X g.toGood) (pe E X g.toGood) (by cases e <;> rfl)
  · unfold wpS at w
    cases e1 : ρ.getD i .dead with
    | dead => rw [e1] at w; exact w.elim
    | pure d => rw [e1] at w; exact w.elim
    | bor d => rw [e1] at w; exact w.elim
    | dp d => rw [e1] at w; exact w.elim
    | bdp d => rw [e1] at w; exact w.elim
    | own d =>
      rw [e1] at w
      obtain ⟨e2, a, ev, ow⟩ := b.slot e1
      refine se W H Vt n σ ρ E R _ _ (b.sit z) w fun v H1 ⟨V1, n1, s1, g1, p1, i1, y1, w1⟩ => ?_
      have b1 := b.grow g1 p1
      refine ⟨.ref a, ev, ?_⟩
      refine sk W H1 V1 n1 σ ρ E R _ _ (b1.sit z) w1 fun u H2 ⟨V2, n2, s2, g2, p2, i2, y2, w2⟩ => ?_
      obtain ⟨dv, rv, w3⟩ := take_rep b.est.oDom (i1.grow g2) y1 w2
      obtain ⟨dk, rk, w4⟩ := i2.read w3
      have b2 := b1.grow g2 p2
      have ow2 := (ow.grow g1).grow g2
      cases ow2 with
      | @dic _ us kvs t h nv ny q =>
        cases kk : dk.key with
        | none => unfold dputW at w4; rw [kk] at w4; exact w4.elim
        | some key =>
          unfold dputW at w4
          rw [kk] at w4
          have w5 : kvs.length < sizeLine ∧ K.nx (ρ.set i (.own (.dic t (kput kvs key dv)))) n2 := w4
          rw [key_v rk kk]
          refine ⟨a, _, rfl, DPut.k h (by rw [q.length]; exact w5.1), ?_⟩
          refine k.nx _ _ _ _ _ _ (b2.mut e2 ev (.dic upd_same nv ny ?_)) w5.2
          have wo : W.O a := b.sl.own i _ a e2 ev
          refine (repk_put rv q).conv (fun c u e n1 n2 => ⟨?_, n1, n2, fun z => z⟩) fun _ z => z
          rw [upd_ne (show c ≠ a from fun z => n1 (z ▸ wo))]; exact e
      | lst h nv ny q => unfold dputW at w4; exact w4.elim

/-! ### parallel assignments -/
theorem set2_get {α : Type} (l : List α) (i j : Nat) (x y : α) : (l.set i x).set j y = (l.set i x).set j y := rfl
theorem bs_par2 {i j : Nat} {oi oj : Hw} {y z : Str} {ea eb : Expr} {a b : Ex} {py pz pt pos : Pos} {kt : Nat} {k2 : Nat} {pt2 : Pos} (hfi : (Γ.fx.contains i) = false) (hfj : (Γ.fx.contains j) = false) (hij : (i == j) = false)
    (hi : Γ.N[i]? = some y) (hj : Γ.N[j]? = some z) (ly : sc.names.lookup y = some .local) (lz : sc.names.lookup z = some .local) (hna : noStar ea = true) (hnb : noStar eb = true)
    (hw : ∀ env : Env, env.scope = sc → swappedStores [.Tuple [.Name y py, .Name z pz] kt pt] (.Tuple [ea, eb] k2 pt2) env = pure (some [y, z]))
    (ha : BE Γ sc fnk ea a) (hb : BE Γ sc fnk eb b) : BS Γ sc fnk (.Assign [.Tuple [.Name y py, .Name z pz] kt pt] (.Tuple [ea, eb] k2 pt2) pos) (.par2 i j oi oj a b) := by
  obtain ⟨ta, pa, sa⟩ := ha
  obtain ⟨tb, pb, sb⟩ := hb
  refine ⟨fun E => tPar i j (tCons (ta E) (tCons (tb E) tNil)), fun E X g => ?_, fun B W H Vt n σ ρ E R K D b0 x w k => ?_⟩
  · exact ps_par g.calm g.nd (by rw [g.N]; exact hi) (by rw [g.N]; exact hj) (by simpa using hij) (by rw [g.sc]; exact ly) (by rw [g.sc]; exact lz) (pa_cons (pa E X g.toGood) (pa_cons (pb E X g.toGood) pa_nil (star_cons hnb _)) (star_cons hna _)) (hw _ g.sc) rfl
  · unfold wpS at w
    refine sa (ageW oi W H) H Vt n σ (ageK oi ρ) E R _ _ (b0.sitA x oi) w fun v H1 ⟨V1, n1, s1, g1, p1, i1, y1, w1⟩ => ?_
    obtain ⟨W1, x1, e1, k1⟩ := hold_step oi b0.est g1 p1 i1 y1
    have b1 := b0.ext x1 e1
    refine sb (ageW oj W1 H1) H1 V1 n1 σ (ageK oj ρ) E R _ _ (b1.sitA x oj) w1 fun u H2 ⟨V2, n2, s2, g2, p2, i2, y2, w2⟩ => ?_
    obtain ⟨W2, x2, e2, k2⟩ := hold_step oj b1.est g2 p2 i2 y2
    obtain ⟨z1, w3, ki1, yz1⟩ := k1 _ w2
    obtain ⟨z2, w4, ki2, yz2⟩ := k2 _ w3
    have b1' := b0.keep1 x1 e1 ki1 yz1 (nfx hfi)
    have b2' := b1'.keep1 x2 e2 ki2 yz2 (nfx hfj)
    exact ⟨v, u, rfl, k.nx _ _ _ _ _ _ b2' w4⟩
theorem bs_par3 {i j l : Nat} {oi oj ol : Hw} {y z q : Str} {ea eb ec : Expr} {a b c : Ex} {py pz pq pt pos : Pos} {kt : Nat} {k2 : Nat} {pt2 : Pos} (hfi : (Γ.fx.contains i) = false) (hfj : (Γ.fx.contains j) = false) (hfl : (Γ.fx.contains l) = false) (hij : (i == j) = false) (hil : (i == l) = false) (hjl : (j == l) = false)
    (hi : Γ.N[i]? = some y) (hj : Γ.N[j]? = some z) (hl : Γ.N[l]? = some q) (ly : sc.names.lookup y = some .local) (lz : sc.names.lookup z = some .local) (lq : sc.names.lookup q = some .local) (hna : noStar ea = true) (hnb : noStar eb = true) (hnc : noStar ec = true)
    (hw : ∀ env : Env, env.scope = sc → swappedStores [.Tuple [.Name y py, .Name z pz, .Name q pq] kt pt] (.Tuple [ea, eb, ec] k2 pt2) env = pure (some [y, z, q]))
    (ha : BE Γ sc fnk ea a) (hb : BE Γ sc fnk eb b) (hc : BE Γ sc fnk ec c) : BS Γ sc fnk (.Assign [.Tuple [.Name y py, .Name z pz, .Name q pq] kt pt] (.Tuple [ea, eb, ec] k2 pt2) pos) (.par3 i j l oi oj ol a b c) := by
  obtain ⟨ta, pa, sa⟩ := ha
  obtain ⟨tb, pb, sb⟩ := hb
  obtain ⟨tc, pc, sC⟩ := hc
  refine ⟨fun E => tPar3 i j l (tCons (ta E) (tCons (tb E) (tCons (tc E) tNil))), fun E X g => ?_, fun B W H Vt n σ ρ E R K D b0 x w k => ?_⟩
  · exact ps_par3 g.calm g.nd (by rw [g.N]; exact hi) (by rw [g.N]; exact hj) (by rw [g.N]; exact hl) (by simpa using hij) (by simpa using hil) (by simpa using hjl) (by rw [g.sc]; exact ly) (by rw [g.sc]; exact lz) (by rw [g.sc]; exact lq)
      (pa_cons (pa E X g.toGood) (pa_cons (pb E X g.toGood) (pa_cons (pc E X g.toGood) pa_nil (star_cons hnc _)) (star_cons hnb _)) (star_cons hna _)) (hw _ g.sc) rfl
  · unfold wpS at w
    refine sa (ageW oi W H) H Vt n σ (ageK oi ρ) E R _ _ (b0.sitA x oi) w fun v H1 ⟨V1, n1, s1, g1, p1, i1, y1, w1⟩ => ?_
    obtain ⟨W1, x1, e1, k1⟩ := hold_step oi b0.est g1 p1 i1 y1
    have b1 := b0.ext x1 e1
    refine sb (ageW oj W1 H1) H1 V1 n1 σ (ageK oj ρ) E R _ _ (b1.sitA x oj) w1 fun u H2 ⟨V2, n2, s2, g2, p2, i2, y2, w2⟩ => ?_
    obtain ⟨W2, x2, e2, k2⟩ := hold_step oj b1.est g2 p2 i2 y2
    have b2 := b1.ext x2 e2
    refine sC (ageW ol W2 H2) H2 V2 n2 σ (ageK ol ρ) E R _ _ (b2.sitA x ol) w2 fun r H3 ⟨V3, n3, s3, g3, p3, i3, y3, w3⟩ => ?_
    obtain ⟨W3, x3, e3, k3⟩ := hold_step ol b2.est g3 p3 i3 y3
    obtain ⟨z1, w4, ki1, yz1⟩ := k1 _ w3
    obtain ⟨z2, w5, ki2, yz2⟩ := k2 _ w4
    obtain ⟨z3, w6, ki3, yz3⟩ := k3 _ w5
    have b1' := b0.keep1 x1 e1 ki1 yz1 (nfx hfi)
    have b2' := b1'.keep1 x2 e2 ki2 yz2 (nfx hfj)
    have b3' := b2'.keep1 x3 e3 ki3 yz3 (nfx hfl)
    exact ⟨v, u, r, rfl, k.nx _ _ _ _ _ _ b3' w6⟩

/-! ### for -/
theorem takes_and : ∀ {ss : List Sl} {P : List D → Prop}, takes ss P → takes ss fun ds => P ds ∧ ds = ss.map Sl.val
  | [], P, c => ⟨c, rfl⟩
  | s :: ss, P, c => by
    cases s with
    | dead => exact c
    | bor d => exact c
    | dp d => exact c
    | bdp d => exact c
    | pure d => exact (takes_mono (ss := ss) (fun q z => ⟨z.1, by rw [z.2]⟩) (takes_and (ss := ss) (P := fun q => P (d :: q)) c) : takes ss fun q => P (d :: q) ∧ (d :: q) = d :: List.map Sl.val ss)
    | own d => exact (takes_mono (ss := ss) (fun q z => ⟨z.1, by rw [z.2]⟩) (takes_and (ss := ss) (P := fun q => P (d :: q)) c) : takes ss fun q => P (d :: q) ∧ (d :: q) = d :: List.map Sl.val ss)
theorem reps_rds {W : Wd} {H : Hp} {Vt : Addr → Prop} : ∀ {vs : List V} {ds : List D}, Reps W H Vt vs ds → Rds W H Vt vs ds
  | _, _, .nil => .nil
  | _, _, .cons r rs => .cons (.rep r) (reps_rds rs)
theorem bs_for {kk : Ik} {tg iter : Expr} {body : List Stmt} {src : Ex} {t : Tg} {sm : Sm} {pos : Pos} (hf : apartFx Γ t = true) (hs : ∀ env x, foldedSetIterable iter env x = pure x) (hi : BI Γ sc fnk tg iter kk src) (hg : BG Γ sc fnk tg t) (hb : BSs Γ sc fnk body sm) :
    BS Γ sc fnk (.For tg iter body [] pos) (.for kk src t sm) := by
  obtain ⟨wi, pi, si⟩ := hi
  obtain ⟨g, pg, sg⟩ := hg
  obtain ⟨tb, pb, sb⟩ := hb
  refine ⟨fun E => tFor (wi E) g (tb E), fun E X gd => ps_for gd.owns gd.calm (pi E X gd.toGood) (pg E X gd.toGood) (pb E X gd) (hs _), fun B W H Vt n σ ρ E R K D b x w k => ?_⟩
  unfold wpS at w
  refine si W H Vt n σ ρ E R _ _ (b.sit x) w (fun ss m c => reads_mono (fun ds q => itemsW_mono (fun _ _ => True.intro) q) (takes_reads c)) fun J H1 V1 n1 vs ss ds xs g1 p1 i1 y1 c1 rd hk hx src => ?_
  have b1 := b.grow g1 p1
  -- what is walked is nobody's
  obtain ⟨rv, w1⟩ : Reps W H1 V1 vs ds ∧ forW (fun x ρ n next => tgW t x ρ fun ρ' => wpS Γ.Ψ R sm ρ' n { nx := next, ct := next, bk := K.nx, rt := K.rt }) K.nx xs ρ n1 := by
    obtain ⟨ds', r, q, e⟩ := items_take b.est.oDom i1 y1 (takes_and c1)
    have e2 := hk _ (takes_reads (takes_mono (fun _ z => z.2) (takes_and c1)))
    rw [← e2] at e
    subst e
    exact ⟨r, hx _ q⟩
  obtain ⟨G, Y, wk, hG, hY⟩ := src.ex
  let B' : Ent := { B with past := fun W' H' Vt' => B.past W' H' Vt' ∧ Stp W H1 V1 W' H' Vt', on := fun h s => ⟨B.on h.1 s, h.2.trans s⟩ }
  have toB : ∀ {W' H' Vt' n' σ' ρ'}, Bd Γ B' W' H' Vt' n' σ' ρ' → Bd Γ B W' H' Vt' n' σ' ρ' := fun q => ⟨q.est, q.sl, q.old, q.sub, q.gr, q.young, q.fixd, q.past.1, q.nob, q.dps⟩
  have rds : ∀ {W' H' Vt'}, Stp W H1 V1 W' H' Vt' → Rds W' H' Vt' vs ds := by
    intro W' H' Vt' s
    exact reps_rds (s.reps rv)
  refine for_it wk (fun i σ' H' => ∃ W' Vt' n' ρ', Bd Γ B' W' H' Vt' n' σ' ρ' ∧ forW (fun x ρ n next => tgW t x ρ fun ρ' => wpS Γ.Ψ R sm ρ' n { nx := next, ct := next, bk := K.nx, rt := K.rt }) K.nx (xs.drop i) ρ' n')
    ⟨W, V1, n1, ρ, ⟨b1.est, b1.sl, b1.old, b1.sub, b1.gr, b1.young, b1.fixd, ⟨b1.past, .refl⟩, b1.nob, b1.dps⟩, w1⟩ (fun i σ' H' _ ⟨W', Vt', n', ρ', b', _⟩ => hG _ _ _ (rds b'.past.2)) ?_ ?_
  · rintro i v σ' H' H2 hi ⟨W', Vt', n', ρ', b', wf⟩ hy
    obtain ⟨d, exd, rx, g2, e2⟩ := hY W' H' Vt' n' i v H2 b'.est (rds b'.past.2) hi hy
    have hdrop : xs.drop i = d :: xs.drop (i + 1) := by
      rw [List.drop_eq_getElem_cons hi]
      rw [List.getElem?_eq_getElem hi] at exd
      cases exd; rfl
    rw [hdrop] at wf
    unfold forW at wf
    have b2 := b'.ext (.grow g2) e2
    refine sg W' H2 Vt' σ' ρ' v d _ _ b2.sl rx (tgW_less wf) fun σ3 ρ3 s3 sb3 q3 => ?_
    have b3 := b2.bind s3 sb3 q3.2 (apartFx_of hf)
    refine sb B' W' H2 Vt' n' σ3 ρ3 E R _ _ b3 x q3.1 ⟨fun W Hq Vt n σ ρ bq wq => ⟨W, Vt, n, ρ, bq, wq⟩, fun W Hq Vt n σ ρ v d bq r wq => k.rt W Hq Vt n σ ρ v d (toB bq) r wq, fun W Hq Vt n σ ρ bq wq => k.nx _ _ _ _ _ _ (toB bq) wq, fun W Hq Vt n σ ρ bq wq => ⟨W, Vt, n, ρ, bq, wq⟩⟩
  · rintro σ' H' ⟨W', Vt', n', ρ', b', wf⟩
    rw [List.drop_of_length_le (Nat.le_refl _)] at wf
    unfold forW at wf
    exact k.nx _ _ _ _ _ _ (toB b') wf

/-! ### a call that changes its first argument -/
/-- an own one changed, behind a call -/
theorem Bd.mutG {B : Ent} {W : Wd} {H H' : Hp} {Vt Vt' : Addr → Prop} {n n' : Nat} {σ : L2.St} {ρ : List Sl} {i : Nat} {a : Addr} {d d' : D} (b : Bd Γ B W H Vt n σ ρ) (hi : ρ[i]? = some (.own d)) (hs : σ[i]? = some (some (.ref a)))
    (k : ∀ b o, H b = some o → ¬ Vt b → b ≠ a → H' b = some o) (dm : ∀ b, H b ≠ none → H' b ≠ none) (sb : ∀ b, Vt b → Vt' b) (nw : ∀ b, Vt' b → Vt b ∨ H b = none) (pu : ∀ a, Vt' a → PurseAt n' H' a) (ho : Own W H' Vt' (.ref a) d') :
    Bd Γ B W H' Vt' n' σ (ρ.set i (.own d')) := by
  have wo : W.O a := b.sl.own i d a hi hs
  have nv : ∀ {c : Addr} {o : HO}, H c = some o → ¬ Vt c → ¬ Vt' c := fun e n z => (nw _ z).elim n fun q => by rw [e] at q; cases q
  have cv : ∀ c u, H c = some u → ¬ W.O c → ¬ Vt c → H' c = some u ∧ ¬ W.O c ∧ ¬ Vt' c ∧ (¬ W.old c → ¬ W.old c) := fun c u e n1 n2 => ⟨k c u e n2 (show c ≠ a from fun z => n1 (z ▸ wo)), n1, nv e n2, fun z => z⟩
  have hl : i < ρ.length := (List.getElem?_eq_some_iff.mp hi).1
  have nt : ∀ vs, H a ≠ some (.tup vs) := by
    obtain ⟨v, ev, it⟩ := b.sl.get i _ hi (by intro z; cases z)
    rw [hs] at ev; cases ev
    exact Own.notTup (show Own W H Vt (.ref a) d from it)
  have kp : ∀ c u, H c = some u → ¬ Vt c → c ≠ a → H' c = some u ∧ ¬ Vt' c := fun c u e n ne => ⟨k c u e n ne, nv e n⟩
  have dpr : ∀ {j : Nat} {d2 : D} {v : V}, i ≠ j → ρ[j]? = some (.dp d2) → σ[j]? = some (some v) → ∃ T, Rdp W T H' Vt' v d2 := fun {j d2 v} h e ev => by
    obtain ⟨S, kS, _⟩ := b.dps
    exact ⟨_, (kS.keepG (d' := d') hi hs nt kp).rep j d2 v (by rw [List.getElem?_set_ne h]; exact e) ev⟩
  refine ⟨⟨fun c z => dm c (b.est.oDom c z), fun c z => dm c (b.est.oldDom c z), pu, fun c z z' => (nw c z').elim (b.est.oV c z) (b.est.oDom c z)⟩, ⟨?_, fun j s e ne => ?_, fun j d2 c e1 e2 => ?_, fun j l c d1 d2 e1 e2 e3 e4 => ?_⟩, b.old, b.sub, ⟨fun c u e n1 n2 => ?_, fun c e => dm c (b.gr.dom c e), fun c e => sb c (b.gr.sub c e), fun c e => (nw c e).elim (b.gr.new c) fun q => .inr (none_of b.gr.dom q)⟩, fun j d2 c e1 e2 => ?_, b.fixd,
    B.on b.past ⟨fun c u e n1 n2 => (cv c u e n2 n1).1, dm, sb, nw, rfl, fun _ z => .inl z⟩, fun j d2 => ?_, b.dps.imp fun S q => ⟨q.1.keepG hi hs nt kp, q.2⟩⟩
  · rw [List.length_set]; exact b.sl.len
  · by_cases h : i = j
    · subst h
      rw [List.getElem?_set_self hl] at e
      cases e
      exact ⟨_, hs, ho⟩
    · rw [List.getElem?_set_ne h] at e
      obtain ⟨v, ev, it⟩ := b.sl.get j s e ne
      refine ⟨v, ev, ?_⟩
      cases s with
      | dead => exact it
      | pure d => exact Rep.conv cv sb it
      | own d2 => exact Own.conv it cv sb fun c o ec e2 n2 => ⟨k c o e2 n2 fun z => by subst ec; subst z; exact h (b.sl.inj i j c d d2 hi e hs ev), nv e2 n2, fun z => z⟩
      | bor d2 => exact absurd e (b.nob j d2).1
      | bdp d2 => exact absurd e (b.nob j d2).2
      | dp d2 => obtain ⟨T, r⟩ := dpr h e ev; exact r.repL
  · by_cases h : i = j
    · subst h
      rw [hs] at e2; cases e2; exact wo
    · rw [List.getElem?_set_ne h] at e1
      exact b.sl.own j d2 c e1 e2
  · have f : ∀ {k : Nat} {dd : D}, (ρ.set i (.own d'))[k]? = some (.own dd) → ∃ d0, ρ[k]? = some (.own d0) := fun {k dd} e => by
      by_cases h : i = k
      · subst h; exact ⟨d, hi⟩
      · rw [List.getElem?_set_ne h] at e; exact ⟨dd, e⟩
    obtain ⟨d3, e5⟩ := f e1
    obtain ⟨d4, e6⟩ := f e2
    exact b.sl.inj j l c d3 d4 e5 e6 e3 e4
  · refine k c u (b.gr.keep c u e n1 n2) (b.gr.noVt e n1) fun z => ?_
    subst z
    rcases b.young i d c hi hs with q | q
    · rw [e] at q; cases q
    · exact n2 q.2
  · by_cases h : i = j
    · subst h; exact b.young i d c hi e2
    · rw [List.getElem?_set_ne h] at e1; exact b.young j d2 c e1 e2
  · by_cases h : i = j
    · subst h
      rw [List.getElem?_set_self hl]
      exact ⟨(fun e => by cases e), (fun e => by cases e)⟩
    · rw [List.getElem?_set_ne h]; exact b.nob j d2
theorem bs_io {i f : Nat} {y xf : Str} {py pf pos cpos : Pos} {es : List Expr} {x : Ex} (hN : Γ.N[i]? = some y) (hv : vis sc y = true) (hd : (y == ("__debug__" : Str)) = false) (hc : (y == ("__classdict__" : Str)) = false)
    (hT : Γ.T[f]? = some xf) (hio : Γ.ion f = x.size + 1) (hg : gbl sc xf = true) (hdf : (xf == ("__debug__" : Str)) = false) (hn : es.all noStar = true) (hs : BL Γ sc fnk es x) :
    BS Γ sc fnk (.Expr (.Call (.Name xf pf) (.Name y py :: es) [] cpos) pos) (.io i f x) := by
  obtain ⟨t, p, s⟩ := hs
  refine ⟨fun E => tDrop (tCall (spIO (Γ.ion f) (Γ.Ψ f)) [] E (tCons (tVar i) (t E))), fun E X g => ?_, fun B W H Vt n σ ρ E R K D b z w k => ?_⟩
  · obtain ⟨a, fd, ps, F, hm, hk, hb⟩ := (g.fio f xf hT (by rw [hio]; exact Nat.succ_ne_zero _)).ex
    exact ps_expr (pe_call F g.room (gbl_of g.toGood hg) hm hk hb .nil g.pas (pa_cons (pe_var (by rw [g.N]; exact hN) (by rw [g.sc]; exact vis_of hv) hd hc) (p E X g.toGood) (star_cons rfl _)) hdf (star_cons rfl _) (star_any _ _ hn)) rfl
  · unfold wpS at w
    cases e1 : ρ.getD i .dead with
    | dead => rw [e1] at w; exact w.elim
    | pure d => rw [e1] at w; exact w.elim
    | bor d => rw [e1] at w; exact w.elim
    | dp d => rw [e1] at w; exact w.elim
    | bdp d => rw [e1] at w; exact w.elim
    | own d =>
      rw [e1] at w
      obtain ⟨e2, a, ev, ow⟩ := b.slot e1
      refine ⟨.ref a, ev, ?_⟩
      refine s W H Vt n σ ρ E R _ _ (b.sit z) (wpL_size Γ.mono w) fun vs H1 ⟨V1, n1, ss, g1, p1, i1, y1, hl, w1⟩ => ?_
      obtain ⟨ds, rv, w2⟩ := items_take b.est.oDom i1 y1 w1
      have b1 := b.grow g1 p1
      have wo : W.O a := b.sl.own i d a e2 ev
      refine ⟨?_, W, V1, n1, a, vs, d, ds, by rw [List.append_nil], b1.est, wo, ow.grow g1, rv, _, w2, fun H' Vt' n' d1 d' k1 k2 k3 k4 k5 k6 q => ?_⟩
      · rw [List.append_nil, List.length_cons, items_length i1, hl, hio]
      · exact k.nx _ _ _ _ _ _ (b1.mutG e2 ev k1 k2 k3 k4 k5 k6) q
end
end Vm
/-! VmN: is True, backwards. -/
namespace Vm
open PySem PySem.Spec L2
theorem Reps.reverse {W : Wd} {H : Hp} {Vt : Addr → Prop} : ∀ {vs : List V} {ds : List D}, Reps W H Vt vs ds → Reps W H Vt vs.reverse ds.reverse
  | _, _, .nil => .nil
  | _, _, .cons r t => by rw [List.reverse_cons, List.reverse_cons]; exact t.reverse.append (.cons r .nil)
section
variable {W : Wd} {H : Hp} {Vt : Addr → Prop} {K : PySem.W.Frag}
theorem D.kvs_cons {d : D} {ds : List D} {kds : List (Key × D)} (h : D.kvs (d :: ds) = some kds) : ∃ k x c l, d = .tup [k, x] ∧ k.key = some c ∧ D.kvs ds = some l ∧ kds = (c, x) :: l := by
  unfold D.kvs at h
  split at h
  · next e => cases e
  · next k x r e =>
    obtain ⟨e1, e2⟩ := List.cons.inj e
    subst e1
    subst e2
    cases ek : k.key with
    | none => simp [ek] at h
    | some c =>
      cases el : D.kvs ds with
      | none => simp [ek, el] at h
      | some l =>
        rw [ek, el] at h
        exact ⟨k, x, c, l, rfl, ek, rfl, (Option.some.inj h).symm⟩
  · cases h
theorem kvs_pairs : ∀ {vs : List V} {ds : List D}, Reps W H Vt vs ds → ∀ {kds : List (Key × D)}, D.kvs ds = some kds → ∃ (ps : List Addr) (kvs : List (Key × V)), vs = ps.map V.ref ∧ Paired (fun p kv => SqT K H p [kV kv.1, kv.2]) ps kvs ∧ Repk W H Vt kvs kds
  | _, _, .nil, kds, h => by
    cases h
    exact ⟨[], [], rfl, .nil, .nil⟩
  | _, _, .cons r rs, kds, h => by
    obtain ⟨k, x, c, l, rfl, ek, el, rfl⟩ := D.kvs_cons h
    obtain ⟨ps, kvs, rfl, p, q⟩ := kvs_pairs rs el
    cases r with
    | @tup a _ _ e h1 h2 r =>
      cases r with
      | @cons v1 _ _ _ r1 r2 =>
        cases r2 with
        | @cons v2 _ _ _ r2 r3 =>
          cases r3
          have e1 : v1 = kV c := key_v (.rep r1) ek
          subst e1
          exact ⟨a :: ps, (c, v2) :: kvs, rfl, .cons (SqT.of e) p, .cons r2 q⟩
theorem repk_merge : ∀ {more : List (Key × V)} {kds : List (Key × D)}, Repk W H Vt more kds → ∀ {us : List (Key × V)} {ds : List (Key × D)}, Repk W H Vt us ds → Repk W H Vt (mergeK us more) (kds.foldl (fun acc p => kput acc p.1 p.2) ds)
  | _, _, .nil, _, _, q => q
  | _, _, .cons r rs, us, ds, q => by
    show Repk W H Vt (mergeK (putK us _ _) _) _
    exact repk_merge rs (repk_put r q)
end
section
variable {Γ : Ga} {sc : Scope} {fnk : Str → Bool}
def rMkd (K : PySem.W.Frag) : List V → Hp → VK → Prop := fun xs H Q => ∃ (a : Addr) (ps : List Addr) (kvs : List (Key × V)), xs = [.ref a] ∧ SqL K H a (ps.map V.ref) ∧ Paired (fun p kv => SqT K H p [kV kv.1, kv.2]) ps kvs ∧
    ∀ p, H p = none → Q (.ref p) (upd H p (.dK (mergeK [] kvs)))
theorem be_mkd {e : Expr} {x : Ex} {pf pos : Pos} (hg : gbl sc "dict" = true) (hn : noStar e = true) (he : BE Γ sc fnk e x) : BE Γ sc fnk (.Call (.Name "dict" pf) [e] [] pos) (.mkd x) := by
  obtain ⟨ta, pa, s⟩ := one (r := fun _ v H Q => rMkd Γ.K [v] H Q) (K := fun d n Q => match d with | .lst _ xs => (match D.kvs xs with | some kds => Q (.own (.dic true (kds.foldl (fun acc p => kput acc p.1 p.2) []))) n | none => False) | _ => False) he (fun W H Vt n σ ρ E R v d Q Post S rd w hp => by
    cases d with
    | lst t ds =>
      have w : (match D.kvs ds with | some kds => Q (.own (.dic true (kds.foldl (fun acc p => kput acc p.1 p.2) []))) n | none => False) := w
      obtain ⟨a, vs, rfl, e1, r1⟩ := rd.lst
      cases ek : D.kvs ds with
      | none => rw [ek] at w; exact w.elim
      | some kds =>
        rw [ek] at w
        obtain ⟨ps, kvs, rfl, p, q⟩ := kvs_pairs (K := Γ.K) r1 ek
        exact ⟨a, ps, kvs, rfl, SqL.of e1, p, fun p' e => hp _ _ (epost_dic Grow.refl S.est e (repk_merge q .nil) w)⟩
    | _ => exact (show False from w).elim)
  refine ⟨fun E => tCB (rMkd Γ.K) (tCons (ta E) tNil), fun E X g => ?_, s⟩
  have hm : X.mg "dict" = none := g.blt _ (by decide +kernel)
  rw [← g.K]
  exact pe_callTy (call_dictP g.calm) (gbl_of g hg) hm (by decide +kernel) (pa_cons (pa E X g) pa_nil (star_cons hn _)) (by decide +kernel) (by decide +kernel) (star_cons hn _) rfl
theorem be_isB {a : Expr} {x : Ex} {b : Bool} {pos pos' : Pos} {j : Nat} (ha : BE Γ sc fnk a x) : BE Γ sc fnk (.Compare a [.Is] [.Constant (.bool b) j pos'] pos) (.isB x b) := by
  obtain ⟨ta, pa, s⟩ := one (r := fun _ v H Q => rIsB v (.bl b) H Q) (K := fun d n Q => match d with | .bl c => Q (.pure (.bl (decide (c = b)))) n | _ => False) ha (fun W H Vt n σ ρ E R v d Q Post S rd w hp => by
    cases d with
    | bl c => cases rd.bl; exact ⟨c, b, rfl, rfl, post_at S hp (.bl _) w⟩
    | _ => exact (show False from w).elim)
  exact ⟨fun E => tOp rIsB (ta E) (tC (.bl b)), fun E X g => pe_cmpR op_isBl (pa E X g) pe_bl (nobehind _ (by decide) (by decide)), s⟩
theorem be_rev {e : Expr} {x : Ex} {k : Nat} {p1 p2 p3 pos : Pos} (he : BE Γ sc fnk e x) : BE Γ sc fnk (.Subscript e (.Slice none none (some (.UnaryOp .USub (.Constant (.int 1) k p1) p2)) p3) pos) (.rev x) := by
  obtain ⟨ta, pa, s⟩ := one (r := fun _ v H Q => ∃ a xs, v = .ref a ∧ SqL Γ.K H a xs ∧ ∀ p, H p = none → Q (.ref p) (upd H p (.lst xs.reverse))) (K := fun d n Q => match d with | .lst _ xs => Q (.own (.lst true xs.reverse)) n | _ => False) he (fun W H Vt n σ ρ E R v d Q Post S rd w hp => by
    cases d with
    | lst t ds =>
      obtain ⟨a, vs, rfl, e1, r1⟩ := rd.lst
      refine ⟨a, vs, rfl, SqL.of e1, post_lst S hp ?_ w⟩
      exact r1.reverse
    | _ => exact (show False from w).elim)
  exact ⟨fun E => tRevL Γ.K (ta E), fun E X g => by rw [← g.K]; exact pe_revL (pa E X g), s⟩
end
end Vm
/-! VmH: {elt for target in source if ..}, a set of ints. -/
namespace Vm
open PySem PySem.Spec PyProof.Rows L2
/-- an int more in the set at D -/
def Ins1 (w : World) (D : Addr) (y : V) (H : Hp) (Nx : Hp → Prop) : Prop :=
  ∃ (k : Int) (S : Int → Bool) (n : Nat), y = .int k ∧ H D = some (SetO w D S n) ∧ n + 1 < scanBound ∧
    Nx (upd H D (SetO w D (fun j => S j || decide (j = k)) (if S k = true then n else n + 1)))
/-- one turn of the block -/
def STurn (w : World) (g : TG) (tt : TT) (te : TE) (vs : List Nat) (σ : L2.St) (D : Addr) (x : V) (H : Hp) (Nx : Hp → Prop) : Prop :=
  g x (wipe σ vs) H fun τ K => wipe τ vs = wipe σ vs ∧ tt τ K fun b L => if b = true then te τ L fun y M => Ins1 w D y M Nx else Nx L
/-- the turns' plan: T by the turn and a measure -/
def SPlan (w : World) (g : TG) (tt : TT) (te : TE) (vs : List Nat) (σ : L2.St) (J : It) (D : Addr) (Q : Hp → Prop) (T : Nat → Nat → Hp → Prop) : Prop :=
  ∀ i m H, T i m H → (J.stop i H ∧ Q H) ∨ (J.go i H ∧ ∃ Nx : Hp → Prop, (∀ K, Nx K → ∃ l, l < m ∧ T (i + 1) l K) ∧ ∀ x K, J.yld i H x K → STurn w g tt te vs σ D x K Nx)
def tSi (w : World) (wi : TI) (g : TG) (tt : TT) (te : TE) (vs : List Nat) : TE := fun σ H Q => wi σ H fun J K => ∀ D, K D = none →
  ∃ T : Nat → Nat → Hp → Prop, (∃ m, T 0 m (upd K D (SetO w D (fun _ => false) 0))) ∧ SPlan w g tt te vs σ J D (Q (.ref D)) T
section
variable {X : Cx}
theorem ins1_ok {pins : List (Addr × Obj)} {σ : L2.St} {H : Hp} {s : Shared} {E : Value → Shared → Prop} {D : Addr} {y : V} {u : Value} {Nx : Hp → Prop} {Q : Value → Shared → Prop} (I : Inv X pins σ H s) (r : RelV y u) (h : Ins1 X.w D y H Nx)
    (q : ∀ K t, Inv X pins σ K t → Nx K → Q .none t) : wpAny (model X.prog X.w) X.A (call (.builtin "set.add") [.ref D, u]) Q E s := by
  obtain ⟨k, S, n, rfl, hD, room, nx⟩ := h
  obtain ⟨tk, rfl⟩ := r
  refine setR_add (setO_get I hD) room fun h' sb new => q _ _ ?_ nx
  obtain ⟨o, _, _, _, ho, _⟩ := id new
  exact I.write (t' := s.toks + 1) (by rw [hD]; trivial) (.inl rfl) (fun b z nb e => (sb.2 b nb).trans e) ⟨o, ho⟩ (setO_new new)
/-- the block's loop, from a turn of the plan on -/
theorem si_loop {s0 : Shared} {H0 : Hp} {scope scope' : Scope} {ce : Env} {fp : List Addr} {tg elt iter : Expr} {ifs : List Expr} {pos : Pos} {g : TG} {tt : TT} {te : TE} {vs : List Nat} {σ : L2.St} {J : It} {it D : Addr} {tn : Nat → Heap → Prop} {Q : Hp → Prop} {T : Nat → Nat → Hp → Prop}
    {R : Result → Shared → Prop} (calm : X.calm = true) (tr : Turn X.prog X.w X.K tg J fp it tn) (fresh : ∀ {τ : L2.St} {K : Hp} {t : Shared}, Inv (X.blk s0 H0 scope' ce fp) [] τ K t → (∀ b ∈ fp, K b = none) → ∀ b ∈ fp, FpOk (X.blk s0 H0 scope' ce fp) [] K b)
    (pg : PG (X.blk s0 H0 scope' ce fp) tg g) (pt : PTs (X.blk s0 H0 scope' ce fp) ifs tt) (pe : PE (X.blk s0 H0 scope' ce fp) elt te) (plan : SPlan X.w g tt te vs σ J D Q T)
    (fin : ∀ K t, Inv (X.blk s0 H0 scope' ce fp) [] (wipe σ vs) K t → Q K → R (.ok .next) t) {m0 : Nat} {K0 : Hp} {t0 : Shared} (i0 : Inv (X.blk s0 H0 scope' ce fp) [] (wipe σ vs) K0 t0) (n0 : tn 0 t0.heap) (f0 : ∀ b ∈ fp, K0 b = none) (w0 : T 0 m0 K0) :
    codeAny (model X.prog X.w) X.A (.compLoop (.SetComp elt [⟨tg, iter, ifs, 0⟩] scope pos) 0 (.ref it) (.ref D) ce) R t0 := by
  let St0 : Nat → Shared → Prop := fun m t => ∃ (i : Nat) (K : Hp), T i m K ∧ (∀ b ∈ fp, K b = none) ∧ tn i t.heap ∧ Inv (X.blk s0 H0 scope' ce fp) [] (wipe σ vs) K t
  refine PpSet.compLoopS_any St0 (fun m t ⟨i, K, w, f, hn, inv⟩ => ?_) m0 ⟨0, K0, w0, f0, n0, i0⟩
  rcases plan i m K w with ⟨hs, q⟩ | ⟨hg, Nx, down, turn⟩
  · refine thnF (tr.done (X.blk s0 H0 scope' ce fp) rfl rfl rfl calm i [] t _ K (fun _ _ => False) inv (fresh inv f) hn hs) fun r t1 z => ?_
    rw [z.1]
    exact fin K t1 z.2 q
  · refine thnF (tr.item (X.blk s0 H0 scope' ce fp) rfl rfl rfl calm i [] t _ K (fun _ _ => False) inv (fresh inv f) hn hg) fun r t1 ⟨u, er, z⟩ => ?_
    rw [er]
    refine thnF z fun _ t2 ⟨x, K2, inv2, rx, yx, hn2, f2⟩ => ?_
    -- back at the loop's head
    have back : ∀ {τ : L2.St} {L : Hp} {t' : Shared}, wipe τ vs = wipe σ vs → Inv (X.blk s0 H0 scope' ce fp) ([] ++ pinsAt fp t2.heap) τ L t' → Nx L → ∃ l, l < m ∧ St0 l t' := by
      intro τ L t' ew inv' nx
      obtain ⟨l, hl, w'⟩ := down L nx
      have held : ∀ b ∈ fp, ∃ o, t2.heap.get? b = some o ∧ t'.heap.get? b = some o ∧ L b = none := fun b hb => by
        obtain ⟨o, e, _⟩ := tr.obj _ _ hn2 b hb
        have z := inv'.pin (b, o) (List.mem_append_right _ (List.mem_append_right _ (mem_pinsAt hb e)))
        exact ⟨o, e, z.1, z.2.1⟩
      refine ⟨l, hl, i + 1, L, w', fun b hb => (held b hb).choose_spec.2.2, tr.keep _ _ _ hn2 fun b hb o e => ?_, ?_⟩
      · obtain ⟨o', e1, e2, _⟩ := held b hb
        rw [e] at e1
        cases e1
        exact e2
      · refine Inv.weak (Inv.unpinned (pins := []) inv') (by rw [← ew, wipe_length]) fun j v e => ?_
        rw [← ew] at e
        exact (wipe_some e).1
    refine thnF (pg.run _ t2 _ K2 x u _ (inv2.pinned (fresh inv2 f2) (tr.obj _ _ hn2)) rx (turn x K2 yx)) fun _ t3 ⟨τ, K3, inv3, ew, q3⟩ => ?_
    refine thnF (pt.run _ t3 τ K3 _ inv3 q3) fun b t4 ⟨K4, inv4, q4⟩ => ?_
    cases b with
    | false => exact back ew inv4 q4
    | true =>
      refine thnF (pe.run _ t4 τ K4 _ inv4 q4) fun z t5 ⟨y, K5, inv5, ry, q5⟩ => ?_
      exact ins1_ok (X := X.blk s0 H0 scope' ce fp) inv5 ry q5 fun L t' inv' nx => back ew inv' nx
/-- {elt for target in source if ..} -/
theorem pe_si {elt tg iter : Expr} {ifs : List Expr} {scope : Scope} {own : List (Str × Nat)} {pos : Pos} {wi : TI} {g : TG} {tt : TT} {te : TE} (calm : X.calm = true) (nd : X.N.Nodup) (src : PI X tg iter wi) (blk : BlkOk X.N X.env.scope scope own)
    (pg : ∀ (s : Shared) (H : Hp) (C : Addr) (cl : List (Str × Addr)) (fp : List Addr), PG (X.blk s H scope (compEnvC scope cl C X.env) fp) tg g)
    (pt : ∀ (s : Shared) (H : Hp) (C : Addr) (cl : List (Str × Addr)) (fp : List Addr), PTs (X.blk s H scope (compEnvC scope cl C X.env) fp) ifs tt)
    (pe : ∀ (s : Shared) (H : Hp) (C : Addr) (cl : List (Str × Addr)) (fp : List Addr), PE (X.blk s H scope (compEnvC scope cl C X.env) fp) elt te)
    (plain : ∀ x, foldedSetIterable iter X.env x = pure x) : PE X (.SetComp elt [⟨tg, iter, ifs, 0⟩] scope pos) (tSi X.w wi g tt te (own.map (·.2))) := by
  refine ⟨fun pins s σ H Q inv h => ?_⟩
  have frees : ∀ y ∈ scope.names, y.2 = .free → ∃ c, X.env.cells.lookup y.1 = some c := fun y m e => inv.ok.has _ ((blk.free y m e).elim .inl fun z => .inr z)
  rw [PpSet.eval_SetComp]
  refine wpAny_comprehension_free (use := none) rfl plain (closure_ok frees) blk.kind (fun y m e => by rw [blk.uniq y m, e]) (thn (src.run pins s σ H _ inv h) fun v t z => thn z fun iv t1 z => ?_)
  obtain ⟨it, fp, tn, J, K, rfl, inv1, tr, hn, ffp, plan⟩ := z
  refine PpSet.newSet_ok (newEnv_comp ?_)
  -- the new set
  obtain ⟨D, eD⟩ : ∃ D, D = t1.heap.objs.size := ⟨_, rfl⟩
  rw [← eD]
  have freeD : K D = none := inv1.hok.fresh (Nat.le_of_eq eD.symm)
  obtain ⟨T, ⟨m0, w0⟩, plan⟩ := plan D freeD
  obtain ⟨t2, e2⟩ : ∃ t2 : Shared, t2 = { t1 with heap := t1.heap.push { cls := .type "set", dict := none, data := .set #[] 0 (.fresh 0 0 (!X.w.params.followText "set-order")) } } := ⟨_, rfl⟩
  have heap2 : t2.heap = t1.heap.push { cls := .type "set", dict := none, data := .set #[] 0 (.fresh 0 0 (!X.w.params.followText "set-order")) } := by rw [e2]
  have kept2 : ∀ b o, t1.heap.get? b = some o → t2.heap.get? b = some o := fun b o e => by rw [heap2]; exact Heap.get?_push_of_some _ e
  have inv2 : Inv X pins σ (upd K D (SetO X.w D (fun _ => false) 0)) t2 := by
    rw [e2]
    exact inv1.laid (t' := t1.toks) (fun b o e => Heap.get?_push_of_some _ e) (Nat.le_of_eq eD.symm) (setO_new (by rw [eD]; exact setR_fresh X.w))
  have low : ∀ b ∈ fp, b < t1.heap.objs.size := fun b hb => let ⟨o, e, _⟩ := tr.obj _ _ hn b hb; Heap.lt_size e
  obtain ⟨K2, eK⟩ : ∃ K2, K2 = upd K D (SetO X.w D (fun _ => false) 0) := ⟨_, rfl⟩
  rw [← eK] at inv2 w0
  have ffp2 : ∀ b ∈ fp, FpOk X pins K2 b ∧ b < t2.heap.objs.size := fun b hb => by
    have hb' := low b hb
    refine ⟨⟨?_, (ffp b hb).2⟩, by rw [heap2, Heap.size_push]; exact Nat.lt_succ_of_lt hb'⟩
    rw [eK, upd_ne (show b ≠ D from fun z => absurd hb' (by rw [z, eD]; exact Nat.lt_irrefl _))]
    exact (ffp b hb).1
  have none2 : ∀ b ∈ fp, K2 b = none := fun b hb => (ffp2 b hb).1.1
  have hn2 : tn 0 t2.heap := tr.keep _ _ _ hn fun b _ o e => kept2 b o e
  have inv3 := block_start inv2 blk nd ffp2
  have pg' := pg t2 K2 t2.heap.objs.size (cellsFrom (t2.heap.objs.size + 1) scope.names (cloFrom X.env.cells scope.names [])) fp
  have pt' := pt t2 K2 t2.heap.objs.size (cellsFrom (t2.heap.objs.size + 1) scope.names (cloFrom X.env.cells scope.names [])) fp
  have pe' := pe t2 K2 t2.heap.objs.size (cellsFrom (t2.heap.objs.size + 1) scope.names (cloFrom X.env.cells scope.names [])) fp
  rw [← e2]
  generalize hce : compEnvC scope (cellsFrom (t2.heap.objs.size + 1) scope.names (cloFrom X.env.cells scope.names [])) t2.heap.objs.size X.env = ce at inv3 pg' pt' pe'
  have eC : ce.locals = t2.heap.objs.size := by rw [← hce]; rfl
  have hn3 : tn 0 (pushCells (t2.heap.push { cls := .type "dict", data := .dict #[] }) scope.names) := tr.keep _ _ _ hn2 fun b _ o e => pushCells_keeps _ _ _ _ (Heap.get?_push_of_some _ e)
  have loop := si_loop (X := X) (scope := scope) (iter := iter) (pos := pos) (R := compPost (model X.prog X.w) X.A X.xe none (EP X pins σ Q) (.ref D) t2.heap.objs.size) calm tr (fun {τ L t} i f b hb => ⟨f b hb, (i.ok.exf b hb).1, i.ok.exfs b hb, .inl hb, fun x c e => (i.ok.exf b hb).2 x c e, fun p m => by simp at m⟩) pg' pt' pe' plan (fun L t i q => ?_) inv3 hn3 none2 w0
  · refine (hce ▸ PpSet.codeAny_compStart_set loop (tr.self X.A 0 _ _ _ hn3 loop) : _)
  · have inv4 : Inv X pins σ L t := inv2.call' (ch := fp) i.os i.base i.hok i.bare fun b hb => let z := (ffp2 b hb).1.2; ⟨z.2.2.1, z.1, z.2.2.2.1, z.2.2.2.2⟩
    have noC : L t2.heap.objs.size = none := by
      have z : L ce.locals = none := i.free
      rw [← eC]
      exact z
    obtain ⟨m, ns, _⟩ := i.loc
    have ns : t.heap.Ns ce.locals m := ns
    rw [eC] at ns
    obtain ⟨z0, z1, z2, z3, z4, z5⟩ := inv2.fpOk (Nat.le_refl _) noC
    exact ⟨m, ns, fun h' sb => ⟨.ref D, L, inv4.turned (t' := t.toks) (fun b o nb e => (sb.2 b nb).trans e) z0 z1 z3 z4 z5, rfl, q⟩⟩
end
end Vm
/-! VmI: len({elt for target in source if ..}), ints. -/
namespace Vm
open PySem PySem.Spec L2 PyProof.Rows
theorem pe_less {X : Cx} {e : Expr} {t t' : TE} (h : PE X e t) (le : ∀ σ H Q, t' σ H Q → t σ H Q) : PE X e t' := ⟨fun pins s σ H Q I w => h.run pins s σ H Q I (le σ H Q w)⟩
theorem call_lenSi {X : Cx} : CallR X (.builtin "len") (fun xs H Q => ∃ a S n, xs = [.ref a] ∧ H a = some (SetO X.w a S n) ∧ Q (.int (n : Nat)) H) := by
  intro pins s σ H xs us Q I r h
  obtain ⟨a, S, n, rfl, ha, q⟩ := h
  obtain ⟨u, rfl, rx⟩ := vals1 r
  cases rx
  obtain ⟨o, es, ep, t, ho, hex, hd, _, _, _, hb, hf, hn, _⟩ := setO_get I ha
  have hb' : es.size < 4096 := hb
  refine call_len_set ho hex hd hf (by omega) ⟨.int n, H, I.tok _, ⟨_, by rw [hn]⟩, q⟩
theorem putI_len {acc : List Int} {S : Int → Bool} {k : Int} (hm : ∀ j, S j = true ↔ j ∈ acc) : (if S k = true then acc.length else acc.length + 1) = (putI acc k).length ∧ ∀ j, (S j || decide (j = k)) = true ↔ j ∈ putI acc k := by
  unfold putI
  by_cases h : k ∈ acc
  · rw [if_pos h, if_pos ((hm k).2 h)]
    refine ⟨rfl, fun j => ?_⟩
    rw [Bool.or_eq_true, decide_eq_true_eq, hm j]
    exact ⟨fun z => z.elim id fun e => e ▸ h, .inl⟩
  · rw [if_neg h, if_neg fun z => h ((hm k).1 z)]
    refine ⟨by simp, fun j => ?_⟩
    rw [Bool.or_eq_true, decide_eq_true_eq, hm j, List.mem_append, List.mem_singleton]
section
variable {Γ : Ga} {sc : Scope} {fnk : Str → Bool}
/-- the turns, over whatever is walked -/
theorem lset_plan {cond ex : Ex} {t : Tg} {vs : List Nat} {g : TG} {tt : TT} {te : TE} (w : World) (hv : ∀ i ∈ t.vars, i ∈ vs)
    (sg : ∀ (W : Wd) (H : Hp) (Vt : Addr → Prop) (σ : L2.St) (ρ : List Sl) (v : V) (d : D) (Q : List Sl → Prop) (Post : L2.St → Hp → Prop), SlotsOk W H Vt σ ρ → Rep W H Vt v d → tgW t d ρ Q →
      (∀ σ' ρ', SlotsOk W H Vt σ' ρ' → SameBut t.vars σ σ' → Q ρ' → Post σ' H) → g v σ H Post)
    (st : ∀ W H Vt n σ ρ Q Post, Sit Γ W H Vt n σ ρ E0 noR → wpT Γ.Ψ cond noR ρ n Q → (∀ k H', TPost H Vt Q k H' → Post k H') → tt σ H Post)
    (se : ∀ W H Vt n σ ρ Q Post, Sit Γ W H Vt n σ ρ E0 noR → wpE Γ.Ψ ex noR ρ n Q → (∀ v H', EPost W H Vt Q v H' → Post v H') → te σ H Post)
    {W : Wd} {H1 : Hp} {V1 : Addr → Prop} {n1 : Nat} {σ : L2.St} {ρ : List Sl} (est : ESt W H1 V1 n1) (sl : SlotsOk W H1 V1 σ ρ) {J : It} {xs : List D} {G : Hp → Prop} {Y : Nat → Hp → V → Hp → Prop} (wk : Walk J xs.length G Y)
    {A0 : Addr} (hD : H1 A0 = none) (hG : ∀ Hc Vc, Grow H1 V1 Hc Vc → G Hc)
    (hY : ∀ Hc Vc nc i x H', ESt (withD W A0) Hc Vc nc → Grow H1 V1 Hc Vc → i < xs.length → Y i Hc x H' → ∃ d, xs[i]? = some d ∧ Rep (withD W A0) H' Vc x d ∧ Grow Hc Vc H' Vc ∧ ESt (withD W A0) H' Vc nc)
    {Qn : List Int → Nat → Prop} {Qd : Hp → Prop}
    (w1 : intsW (fun x n K => tgW t x (wipeS ρ vs) fun ρ' => wpE Γ.Ψ cond noR ρ' n fun c n2 => c.read fun y => truW y fun b => if b = true then wpE Γ.Ψ ex noR ρ' n2 fun z n3 => z.take fun d => K (some d) n3 else K none n2) xs n1 [] Qn)
    (hp : ∀ Hc Vc nc acc S, Grow H1 V1 Hc Vc → ESt (withD W A0) Hc Vc nc → Hc A0 = some (SetO w A0 S acc.length) → Qn acc nc → Qd Hc) :
    ∃ T : Nat → Nat → Hp → Prop, (∃ m, T 0 m (upd H1 A0 (SetO w A0 (fun _ => false) 0))) ∧ SPlan w g tt te vs σ J A0 Qd T := by
  have VD : ¬ V1 A0 := fun z => (est.pur A0 z).dom hD
  have toD : ∀ {a : Addr} {o : HO}, H1 a = some o → a ≠ A0 := fun e z => by rw [z, hD] at e; cases e
  have gD : Grow H1 V1 (upd H1 A0 (SetO w A0 (fun _ => false) 0)) V1 := Grow.upd hD
  have slD : SlotsOk (withD W A0) H1 V1 σ ρ := by
    refine ⟨sl.len, fun i s e ne => ?_, fun i d a e1 e2 => .inl (sl.own i d a e1 e2), sl.inj⟩
    obtain ⟨v, ev, it⟩ := sl.get i s e ne
    refine ⟨v, ev, ?_⟩
    have cv : ∀ a o, H1 a = some o → ¬ W.O a → ¬ V1 a → H1 a = some o ∧ ¬ (withD W A0).O a ∧ ¬ V1 a ∧ (¬ W.old a → ¬ (withD W A0).old a) := fun a o e n1 n2 => ⟨e, fun z => z.elim n1 (toD e), n2, fun z => z⟩
    cases s with
    | dead => exact it
    | pure d => exact Rep.conv cv (fun _ z => z) it
    | own d => exact Own.conv it cv (fun _ z => z) fun a o _ e n => ⟨e, n, fun z => z⟩
    | bor d => exact Own.conv it cv (fun _ z => z) fun a o _ e n => ⟨e, n, fun z => z⟩
    | dp d => exact Rep.withL hD it
    | bdp d => exact Rep.withL hD it
  have estD : ESt (withD W A0) (upd H1 A0 (SetO w A0 (fun _ => false) 0)) V1 n1 := by
    refine ⟨fun a z => ?_, fun a z => gD.dom a (est.oldDom a z), (est.upd hD).pur, fun a z => ?_⟩
    · rcases z with z | z
      · exact gD.dom a (est.oDom a z)
      · rw [z, upd_same]; simp
    · rcases z with z | z
      · exact est.oV a z
      · rw [z]; exact VD
  generalize hstep : (fun x n K => tgW t x (wipeS ρ vs) fun ρ' => wpE Γ.Ψ cond noR ρ' n fun c n2 => c.read fun y => truW y fun b => if b = true then wpE Γ.Ψ ex noR ρ' n2 fun z n3 => z.take fun d => K (some d) n3 else K none n2 : D → Nat → (Option D → Nat → Prop) → Prop) = step at w1
  let Pv : Nat → Hp → Prop := fun i Hc => ∃ (Vc : Addr → Prop) (nc : Nat) (acc : List Int) (S : Int → Bool), Grow H1 V1 Hc Vc ∧ ESt (withD W A0) Hc Vc nc ∧ Hc A0 = some (SetO w A0 S acc.length) ∧ (∀ j, S j = true ↔ j ∈ acc) ∧ intsW step (xs.drop i) nc acc Qn
  refine ⟨fun i m H => m = xs.length - i ∧ i ≤ xs.length ∧ Pv i H, ⟨xs.length, by simp, Nat.zero_le _, V1, n1, [], fun _ => false, gD, estD, upd_same, by simp, w1⟩, ?_⟩
  rintro i m Hc ⟨rfl, hi, Vc, nc, acc, S, gg, eg, hDc, hm, wc⟩
  by_cases hlt : i < xs.length
  · refine .inr ⟨wk.goes i Hc hlt (hG Hc Vc gg), Pv (i + 1), fun K p => ⟨xs.length - (i + 1), by omega, rfl, hlt, p⟩, fun x H' y => ?_⟩
    obtain ⟨d, exd, rx, g2, e2⟩ := hY Hc Vc nc i x H' eg gg hlt (wk.yields i Hc x H' hlt (hG Hc Vc gg) y)
    have hdrop : xs.drop i = d :: xs.drop (i + 1) := by
      rw [List.drop_eq_getElem_cons hlt]
      rw [List.getElem?_eq_getElem hlt] at exd
      cases exd; rfl
    rw [hdrop] at wc
    unfold intsW at wc
    rw [← hstep] at wc
    have sl2 := ((slD.grow gg).grow g2).wipe vs
    refine sg (withD W A0) H' Vc _ _ x d _ _ sl2 rx wc fun σ' ρ' s' sb q => ?_
    refine ⟨wipe_but sb hv, ?_⟩
    rw [hstep] at q
    refine st (withD W A0) H' Vc nc σ' ρ' _ _ ⟨e2, s', fun _ _ _ _ _ _ _ z => z.elim⟩ q fun b H3 ⟨V3, n3, g3, p3, w3⟩ => ?_
    have e3 := e2.grow g3 p3
    have k2 := g2.keep A0 _ hDc (eg.oV A0 (.inr rfl))
    have k3 := g3.keep A0 _ k2 (eg.oV A0 (.inr rfl))
    cases b with
    | false =>
      rw [if_neg (by simp)]
      rw [if_neg (by simp)] at w3
      exact ⟨V3, n3, acc, S, gg.trans (g2.trans g3), e3, k3, hm, w3⟩
    | true =>
      rw [if_pos rfl]
      rw [if_pos rfl] at w3
      refine se (withD W A0) H3 V3 n3 σ' ρ' _ _ ⟨e3, s'.grow g3, fun _ _ _ _ _ _ _ z => z.elim⟩ w3 fun y H4 ⟨V4, n4, s4, g4, p4, i4, y4, w4⟩ => ?_
      have e4 := e3.grow g4 p4
      have nV4 : ¬ V4 A0 := e4.oV A0 (.inr rfl)
      have k4 := g4.keep A0 _ k3 (e3.oV A0 (.inr rfl))
      obtain ⟨d', r4, w5⟩ := take_rep e3.oDom i4 y4 w4
      cases d' with
      | int k =>
        obtain ⟨room, w6⟩ := w5
        cases r4
        have pl := putI_len (k := k) hm
        refine ⟨k, S, acc.length, rfl, k4, room, V4, n4, putI acc k, _, ?_, ?_, by rw [upd_same, pl.1], pl.2, w6⟩
        · have G4 := gg.trans (g2.trans (g3.trans g4))
          refine ⟨fun a o e n => ?_, fun a e => ?_, G4.sub, G4.new⟩
          · rw [upd_ne (toD e)]; exact G4.keep a o e n
          · by_cases z : a = A0
            · rw [z, upd_same]; simp
            · rw [upd_ne z]; exact G4.dom a e
        · refine ⟨fun a z => ?_, fun a z => ?_, fun a z => ?_, e4.oV⟩
          · by_cases z' : a = A0
            · rw [z', upd_same]; simp
            · rw [upd_ne z']; exact e4.oDom a z
          · by_cases z' : a = A0
            · rw [z', upd_same]; simp
            · rw [upd_ne z']; exact e4.oldDom a z
          · have q := p4 a z
            have ne : a ≠ A0 := fun z' => nV4 (z' ▸ z)
            obtain ⟨s, c, k, tt, h1, rr⟩ := q
            exact ⟨s, c, k, tt, by rw [upd_ne ne]; exact h1, rr⟩
      | _ => exact (show False from w5).elim
  · have e : i = xs.length := by omega
    subst e
    rw [List.drop_of_length_le (Nat.le_refl _)] at wc
    exact .inl ⟨wk.stops Hc (hG Hc Vc gg), hp Hc Vc nc acc S gg eg hDc wc⟩
theorem be_lset {k : Ik} {elt tg iter : Expr} {ifs : List Expr} {scope : Scope} {own : List (Str × Nat)} {pf cpos pos : Pos} {src cond ex : Ex} {t : Tg}
    (hb : blkC Γ.N sc scope own = true) (hv : ∀ i ∈ t.vars, i ∈ own.map (·.2)) (hs : ∀ env x, foldedSetIterable iter env x = pure x) (hg0 : gbl sc "len" = true)
    (hi : BI Γ sc fnk tg iter k src) (hg : BG Γ (scB scope sc) (fnB scope) tg t) (hc : Conds Γ (scB scope sc) (fnB scope) ifs cond) (he : BE Γ (scB scope sc) (fnB scope) elt ex) :
    BE Γ sc fnk (.Call (.Name "len" pf) [.SetComp elt [⟨tg, iter, ifs, 0⟩] scope cpos] [] pos) (.lset k src t cond ex (own.map (·.2))) := by
  obtain ⟨wi, pi, si⟩ := hi
  obtain ⟨g, pg, sg⟩ := hg
  obtain ⟨tt, pt, st⟩ := conds_ok hc
  obtain ⟨te, pe, se⟩ := he
  refine ⟨fun E σ H Q => ∀ w : World, tSi w (wi E) g tt (te E0) (own.map (·.2)) σ H fun x K => ∃ a S n, [x] = [V.ref a] ∧ K a = some (SetO w a S n) ∧ Q (.int (n : Nat)) K, fun E X gd => ?_, fun W H Vt n σ ρ E R Q Post S w hp => ?_⟩
  · have body := pe_si (pos := cpos) gd.calm gd.nd (pi E X gd) (by rw [gd.N, gd.sc]; exact blkOk_by hb) (fun s H C cl fp => pg E0 _ (gd.blk scope s H C cl fp)) (fun s H C cl fp => pt _ (gd.blk scope s H C cl fp)) (fun s H C cl fp => pe E0 _ (gd.blk scope s H C cl fp)) (hs _)
    refine pe_less (pe_callB call_lenSi (gbl_of gd hg0) (gd.blt _ (by decide +kernel)) (by decide +kernel) (pa_cons body pa_nil (star_cons rfl _)) (by decide +kernel) (by decide +kernel) (star_cons rfl _) rfl) fun σ H Q h => ?_
    exact h X.w
  · unfold wpE at w
    intro w0
    refine si W H Vt n σ ρ E R _ _ S w.2 (fun ss m c => reads_mono (fun ds q => itemsW_mono (fun _ _ => True.intro) q) c) fun J H1 V1 n1 vs ss ds xs g1 p1 i1 y1 c1 rd hk hx src => ?_
    have w1 := hx _ (hk _ c1)
    have S1 := S.grow g1 p1
    intro A0 hD
    obtain ⟨G, Y, wk, hG, hY⟩ := src.ex
    have rdD : ∀ {vs : List V} {ds : List D}, Rds W H1 V1 vs ds → Rds (withD W A0) H1 V1 vs ds := by
      intro vs ds r
      induction r with
      | nil => exact .nil
      | cons r _ ih =>
        refine .cons ?_ ih
        have cv : ∀ a o, H1 a = some o → ¬ W.O a → ¬ V1 a → H1 a = some o ∧ ¬ (withD W A0).O a ∧ ¬ V1 a ∧ (¬ W.old a → ¬ (withD W A0).old a) := fun a o e n1 n2 => ⟨e, fun z => z.elim n1 (fun z => by rw [z, hD] at e; cases e), n2, fun z => z⟩
        rcases r with r | r
        · exact .rep (Rep.conv cv (fun _ z => z) r)
        · exact .own (Own.conv r cv (fun _ z => z) fun a o _ e n => ⟨e, n, fun z => z⟩)
    have rgrow : ∀ {H2 : Hp} {V2 : Addr → Prop}, Grow H1 V1 H2 V2 → Rds (withD W A0) H2 V2 vs ds := by
      intro H2 V2 gg
      have go : ∀ {vs : List V} {ds : List D}, Rds (withD W A0) H1 V1 vs ds → Rds (withD W A0) H2 V2 vs ds := by
        intro vs ds r
        induction r with
        | nil => exact .nil
        | cons r _ ih => exact .cons (r.grow gg) ih
      exact go (rdD rd)
    refine lset_plan w0 hv sg st (fun W H Vt n σ ρ Q Post S w hp => se W H Vt n σ ρ E0 noR Q Post S w hp) S1.est S1.sl wk hD (fun Hc Vc gg => hG _ Hc Vc (rgrow gg)) (fun Hc Vc nc i x H' eg gg hi hy => hY (withD W A0) Hc Vc nc i x H' eg (rgrow gg) hi hy) w1 ?_
    intro Hc Vc nc acc S' gg eg hDc wc
    exact ⟨A0, S', acc.length, rfl, hDc, hp _ Hc ⟨Vc, nc, .pure (.int (acc.length : Nat)), g1.trans gg, eg.pur, .int _, (fun _ _ z _ => nomatch z), wc⟩⟩
end
end Vm
/-! VmL: [(key, f(d[key])) for key in d]. -/
namespace Vm
open PySem PySem.Spec L2
section
variable {Γ : Ga} {sc : Scope} {fnk : Str → Bool}
/-- the turns of a comprehension, whatever a turn is -/
theorem comp_loopG {vs : List Nat} {g : TG} {tt : TT} {te : TE} {RR : V → D → Prop}
    {W : Wd} {H1 : Hp} {V1 : Addr → Prop} {n1 : Nat} {σ : L2.St} (est : ESt W H1 V1 n1) {J : It} {xs : List D} {G : Hp → Prop} {Y : Nat → Hp → V → Hp → Prop} (wk : Walk J xs.length G Y)
    {A0 : Addr} (hD : H1 A0 = none) (hG : ∀ Hc Vc, Grow H1 V1 Hc Vc → G Hc)
    (hY : ∀ Hc Vc nc i x H', ESt (withD W A0) Hc Vc nc → Grow H1 V1 Hc Vc → i < xs.length → Y i Hc x H' → ∃ d, xs[i]? = some d ∧ RR x d ∧ Grow Hc Vc H' Vc ∧ ESt (withD W A0) H' Vc nc)
    {step : D → Nat → (Option D → Nat → Prop) → Prop}
    (turn : ∀ Hc Vc nc d x K (P1 : VK) (P2 : Hp → Prop), Grow H1 V1 Hc Vc → ESt (withD W A0) Hc Vc nc → RR x d → step d nc K →
      (∀ y H4 V4 n4 d', Grow Hc Vc H4 V4 → ESt (withD W A0) H4 V4 n4 → Rep (withD W A0) H4 V4 y d' → K (some d') n4 → P1 y H4) → (∀ H3 V3 n3, Grow Hc Vc H3 V3 → ESt (withD W A0) H3 V3 n3 → K none n3 → P2 H3) →
      g x (wipe σ vs) Hc fun σ2 H2 => wipe σ2 vs = wipe σ vs ∧ tt σ2 H2 fun b H3 => if b = true then te σ2 H3 P1 else P2 H3)
    {Qn : List D → Nat → Prop} {Qd : Hp → Prop} (w1 : compW step xs n1 [] Qn)
    (hp : ∀ Hc Vc nc av ad, Grow H1 V1 Hc Vc → ESt (withD W A0) Hc Vc nc → Hc A0 = some (.lst av) → Reps (withD W A0) Hc Vc av ad → Qn ad nc → Qd Hc) :
    ∃ W0 : Nat → Nat → Hp → Prop, (∃ m, W0 0 m (upd H1 A0 (.lst []))) ∧ ∀ i m H, W0 i m H →
      (J.stop i H ∧ Qd H) ∨ (J.go i H ∧ ∃ Nx : Hp → Prop, (∀ H', Nx H' → ∃ m', m' < m ∧ W0 (i + 1) m' H') ∧ ∀ x H', J.yld i H x H' → g x (wipe σ vs) H' fun σ2 H2 => wipe σ2 vs = wipe σ vs ∧ tt σ2 H2 fun b H3 =>
        if b = true then te σ2 H3 fun y H4 => ∃ acc, H4 A0 = some (.lst acc) ∧ acc.length < sizeLine ∧ Nx (upd H4 A0 (.lst (acc ++ [y]))) else Nx H3) := by
  have VD : ¬ V1 A0 := fun z => (est.pur A0 z).dom hD
  have toD : ∀ {a : Addr} {o : HO}, H1 a = some o → a ≠ A0 := fun e z => by rw [z, hD] at e; cases e
  have gD : Grow H1 V1 (upd H1 A0 (.lst [])) V1 := Grow.upd hD
  have estD : ESt (withD W A0) (upd H1 A0 (.lst [])) V1 n1 := by
    refine ⟨fun a z => ?_, fun a z => gD.dom a (est.oldDom a z), (est.upd hD).pur, fun a z => ?_⟩
    · rcases z with z | z
      · exact gD.dom a (est.oDom a z)
      · rw [z, upd_same]; simp
    · rcases z with z | z
      · exact est.oV a z
      · rw [z]; exact VD
  refine lc_it wk (fun i Hc => ∃ (Vc : Addr → Prop) (nc : Nat) (av : List V) (ad : List D), Grow H1 V1 Hc Vc ∧ ESt (withD W A0) Hc Vc nc ∧ Hc A0 = some (.lst av) ∧ Reps (withD W A0) Hc Vc av ad ∧
    compW step (xs.drop i) nc ad Qn) ⟨V1, n1, [], [], gD, estD, upd_same, .nil, w1⟩ (fun i Hc _ ⟨Vc, nc, av, ad, gg, _⟩ => hG Hc Vc gg) ?_ ?_
  · rintro i x Hc H' hi ⟨Vc, nc, av, ad, gg, eg, hDc, ra, wc⟩ hy
    obtain ⟨d, exd, rx, g2, e2⟩ := hY Hc Vc nc i x H' eg gg hi hy
    have hdrop : xs.drop i = d :: xs.drop (i + 1) := by
      have h1 : i < xs.length := hi
      rw [List.drop_eq_getElem_cons h1]
      rw [List.getElem?_eq_getElem h1] at exd
      cases exd; rfl
    rw [hdrop] at wc
    unfold compW at wc
    have nVc : ¬ Vc A0 := eg.oV A0 (.inr rfl)
    have k2 := g2.keep A0 _ hDc nVc
    refine turn H' Vc nc d x _ _ _ (gg.trans g2) e2 rx wc (fun y H4 V4 n4 d' g4 e4 r4 w5 => ?_) fun H3 V3 n3 g3 e3 w3 => ?_
    · have nV4 : ¬ V4 A0 := e4.oV A0 (.inr rfl)
      have k4 := g4.keep A0 _ k2 nVc
      obtain ⟨ln, w5⟩ := w5
      refine ⟨av, k4, by rw [ra.length]; exact ln, ?_⟩
      have ra4 := ra.grow (g2.trans g4)
      have cv : ∀ a o, H4 a = some o → ¬ (withD W A0).O a → ¬ V4 a → upd H4 A0 (.lst (av ++ [y])) a = some o ∧ ¬ (withD W A0).O a ∧ ¬ V4 a ∧ (¬ (withD W A0).old a → ¬ (withD W A0).old a) := fun a o e n1 n2 =>
        ⟨by rw [upd_ne (fun z => n1 (.inr z))]; exact e, n1, n2, fun z => z⟩
      refine ⟨V4, n4, av ++ [y], ad ++ [d'], ?_, ?_, upd_same, (ra4.append (.cons r4 .nil)).conv cv fun _ z => z, w5⟩
      · have G4 := gg.trans (g2.trans g4)
        refine ⟨fun a o e n => ?_, fun a e => ?_, G4.sub, G4.new⟩
        · rw [upd_ne (toD e)]; exact G4.keep a o e n
        · by_cases z : a = A0
          · rw [z, upd_same]; simp
          · rw [upd_ne z]; exact G4.dom a e
      · refine ⟨fun a z => ?_, fun a z => ?_, fun a z => ?_, e4.oV⟩
        · by_cases z' : a = A0
          · rw [z', upd_same]; simp
          · rw [upd_ne z']; exact e4.oDom a z
        · by_cases z' : a = A0
          · rw [z', upd_same]; simp
          · rw [upd_ne z']; exact e4.oldDom a z
        · have q := e4.pur a z
          have ne : a ≠ A0 := fun z' => nV4 (z' ▸ z)
          obtain ⟨s, c, k, tt, h1, rr⟩ := q
          exact ⟨s, c, k, tt, by rw [upd_ne ne]; exact h1, rr⟩
    · exact ⟨V3, n3, av, ad, gg.trans (g2.trans g3), e3, g3.keep A0 _ k2 nVc, ra.grow (g2.trans g3), w3⟩
  · rintro Hc ⟨Vc, nc, av, ad, gg, eg, hDc, ra, wc⟩
    rw [List.drop_of_length_le (Nat.le_refl _)] at wc
    exact hp Hc Vc nc av ad gg eg hDc ra wc
theorem rep_dead {n i : Nat} {s : Sl} (e : (List.replicate n Sl.dead)[i]? = some s) : s = .dead := List.eq_of_mem_replicate (List.mem_of_getElem? e)
theorem slots_dead {W : Wd} {H : Hp} {Vt : Addr → Prop} {σ : L2.St} : SlotsOk W H Vt σ (List.replicate σ.length .dead) where
  len := by rw [List.length_replicate]
  get := fun i s e ne => absurd (rep_dead e) ne
  own := fun i d a e _ => by have := rep_dead e; cases this
  inj := fun i j a d d' e _ _ _ => by have := rep_dead e; cases this
theorem keyD_eq (k : Key) : (match k with | .inl i => D.int i | .inr s => D.str s) = keyD k := by cases k <;> rfl
theorem kget_mem : ∀ {kvs : List (Key × D)} {j : Nat} {k : Key} {d : D}, kvs[j]? = some (k, d) → ∃ d', kget kvs k = some d'
  | [], _, _, _, e => by simp at e
  | (k', d0) :: r, j, k, d, e => by
    by_cases h : k' = k
    · exact ⟨d0, by simp [kget, List.find?_cons, h]⟩
    · cases j with
      | zero => simp at e; exact absurd e.1 h
      | succ j =>
        obtain ⟨d', q⟩ := kget_mem (j := j) (by simpa using e)
        refine ⟨d', ?_⟩
        have : kget ((k', d0) :: r) k = kget r k := by simp [kget, List.find?_cons, h]
        rw [this]; exact q
theorem compd_sound {i f k : Nat} {vs : List Nat} (har : Γ.ar f 1 = true) :
    ∀ W H Vt n σ ρ E R Q Post, Sit Γ W H Vt n σ ρ E R → wpE Γ.Ψ (.compd i f k vs) R ρ n Q → (∀ v H', EPost W H Vt Q v H' → Post v H') →
      tLockE (tLc (iKeys (tVar i)) (gName k) tYes (tTup (tCons (tVar k) (tCons (tCall (spB Γ.cl (Γ.fi f 1).np (Γ.fi f 1).sem) (Γ.fi f 1).dvs E0 (tCons (tDGet (tVar i) (tVar k)) tNil)) tNil))) vs) σ H Post := by
  intro W H Vt n σ ρ E R Q Post S w hp
  unfold wpE at w
  obtain ⟨⟨hk, hkv, hki, hiv⟩, w⟩ := w
  cases hs : ρ.getD i .dead with
  | dead => rw [hs] at w; exact w.elim
  | bor d => rw [hs] at w; exact w.elim
  | dp d => rw [hs] at w; exact w.elim
  | bdp d => rw [hs] at w; exact w.elim
  | own d => rw [hs] at w; exact w.elim
  | pure d =>
  have e := getD_some' hs (by intro z; cases z)
  obtain ⟨v, hσ, it⟩ := S.sl.get i _ e (by intro z; cases z)
  rw [hs] at w
  cases d with
  | dic tg kvs =>
    obtain ⟨hn, w1⟩ := w
    have it : Rep W H Vt v (.dic tg kvs) := it
    cases it with
    | @dic a us _ _ ha n0 na _ rk =>
    refine ⟨a, .dK us, ha, True.intro, fun od => ?_⟩
    have hdK : ∀ c o, H c = some o → (∀ u, o ≠ .dK u) → c ≠ a := fun c o e n z => by rw [z, ha] at e; cases e; exact n _ rfl
    have hlk : ∀ {c : Addr}, c ≠ a → upd H a (.frz od (.dK us)) c = H c := fun n => upd_ne n
    have rkL : Repk W (upd H a (.frz od (.dK us))) Vt us kvs := rk.conv3 (fun c o e nd _ n1 n2 => ⟨by rw [hlk (hdK c o e nd)]; exact e, n1, n2, fun z => z⟩) (fun _ z => z) hn
    have estL : ESt W (upd H a (.frz od (.dK us))) Vt n := by
      have dm : ∀ c, H c ≠ none → upd H a (.frz od (.dK us)) c ≠ none := fun c z => by
        by_cases q : c = a
        · rw [q, upd_same]; simp
        · rw [hlk q]; exact z
      refine ⟨fun c z => dm c (S.est.oDom c z), fun c z => dm c (S.est.oldDom c z), fun c z => ?_, S.est.oV⟩
      obtain ⟨s, c', k, tt, h1, r⟩ := S.est.pur c z
      exact ⟨s, c', k, tt, by rw [hlk (show c ≠ a from fun q => na (q ▸ z))]; exact h1, r⟩
    have hlen : us.length = kvs.length := rk.length
    refine ⟨.ref a, hσ, a, od, rfl, .inl ⟨us, upd_same, fun A0 hA0 => ?_⟩⟩
    have hAa : A0 ≠ a := fun z => by rw [z, upd_same] at hA0; cases hA0
    have rkA : Repk (withD W A0) (upd H a (.frz od (.dK us))) Vt us kvs := Repk.conv (W := W) (W' := withD W A0) (fun c o e n1 n2 => ⟨e, fun z => (show W.O c ∨ c = A0 from z).elim n1 (fun z => by rw [z, hA0] at e; cases e), n2, fun z => z⟩) (fun _ z => z) rkL
    have hlenp : (pairsd kvs).length = us.length := by rw [hlen]; exact List.length_map ..
    refine comp_loopG (RR := fun x d => ∃ k d', x = kV k ∧ kget kvs k = some d' ∧ d = .tup [keyD k, d']) (xs := pairsd kvs) estL (by rw [hlenp]; exact walk_keys) hA0 (fun Hc Vc gg => gg.keep a _ upd_same na)
      (fun Hc Vc nc i x H' eg gg hi hy => ?_) (fun Hc Vc nc d x K P1 P2 gg eg rr ws h1 h2 => ?_) w1 ?_
    · obtain ⟨rfl, k, v, e1, rfl⟩ := hy
      obtain ⟨d, e2, _⟩ := rkL.get e1
      obtain ⟨d', e3⟩ := kget_mem e2
      refine ⟨.tup [keyD k, d'], ?_, ⟨k, d', rfl, e3, rfl⟩, Grow.refl, eg⟩
      unfold pairsd
      rw [List.getElem?_map, e2]
      show some (pairD _ ((kget kvs k).getD .non)) = _
      rw [e3]
      cases k <;> rfl
    · obtain ⟨q, d', rfl, eq, rfl⟩ := rr
      have ws : Γ.Ψ f [d'] nc (fun d' n' => K (some (.tup [keyD q, d'])) n') noR := ws
      show wipe ((wipe σ vs).set k (some (kV q))) vs = wipe σ vs ∧ _
      have hkl : k < (wipe σ vs).length := by rw [wipe_length, S.sl.len]; exact hk
      have gk : ((wipe σ vs).set k (some (kV q)))[k]? = some (some (kV q)) := List.getElem?_set_self hkl
      have gi : ((wipe σ vs).set k (some (kV q)))[i]? = some (some (.ref a)) := by
        rw [List.getElem?_set_ne hki, wipe_get vs σ i hiv]; exact hσ
      refine ⟨wipe_but (is := [k]) ⟨List.length_set .., fun j hj => List.getElem?_set_ne (fun z => hj (by simp [z]))⟩ (fun j hj => by rw [List.mem_singleton.mp hj]; exact hkv), ?_⟩
      obtain ⟨v', ev', rv'⟩ := (repk_get (k := q) (rkA.grow gg)).1 d' eq
      have hfr : Hc a = some (.frz od (.dK us)) := gg.keep a _ upd_same na
      show tTup (tCons (tVar k) (tCons (tCall (spB Γ.cl (Γ.fi f 1).np (Γ.fi f 1).sem) (Γ.fi f 1).dvs E0 (tCons (tDGet (tVar i) (tVar k)) tNil)) tNil)) ((wipe σ vs).set k (some (kV q))) Hc P1
      refine ⟨kV q, gk, .ref a, gi, kV q, gk, a, v', rfl, .inl ⟨us, q, .inr ⟨od, hfr⟩, rfl, ev'.symm⟩, ?_⟩
      refine call_sem (σ := σ) (ρ := List.replicate σ.length .dead) (E := E0) (R := noR) (Q := fun s n => ∃ d, s = .pure d ∧ K (some (.tup [keyD q, d])) n) har ⟨eg, slots_dead, fun _ _ _ _ _ _ _ z => z.elim⟩ Grow.refl eg.pur (.cons (s := .pure d') rv' .nil) ⟨fun _ _ z => (nomatch z), True.intro⟩ rfl ?_ ?_
      · show Γ.Ψ f [d'] nc _ _
        exact Γ.mono _ _ _ _ _ _ _ (fun d m z => ⟨fun z => (nomatch z), d, rfl, z⟩) (fun _ _ _ z => z.elim) ws
      · rintro v2 H2 ⟨V2, n2, s2, g2, p2, i2, y2, d2, rfl, w2⟩
        have i2 : Rep (withD W A0) H2 V2 v2 d2 := i2
        have e2 := eg.grow g2 p2
        refine ⟨by show 2 ≤ sizeLine; decide, fun p hp' => ?_⟩
        have g3 : Grow H2 V2 (upd H2 p (.tup [kV q, v2])) V2 := Grow.upd hp'
        exact h1 _ _ V2 n2 _ (g2.trans g3) (e2.upd hp') (.tup upd_same (fun z => e2.oDom p z hp') (fun z => (e2.pur p z).dom hp') (.cons (rep_key q) (.cons (i2.grow g3) .nil))) w2
    · intro Hc Vc nc av ad gg eg hD ra q
      have hfr : Hc a = some (.frz od (.dK us)) := gg.keep a _ upd_same na
      have hu : ∀ {c : Addr}, c ≠ a → upd Hc a (.dK us) c = Hc c := fun n => upd_ne n
      have nVa : ¬ Vc a := gg.noVt upd_same na
      refine ⟨hfr, hp _ _ ⟨Vc, nc, .own (.lst true ad), ⟨fun c o e n => ?_, fun c e => ?_, gg.sub, fun c e => ?_⟩, fun c z => ?_, ?_, fun d c _ z => ?_, q⟩⟩
      · by_cases h : c = a
        · subst h; rw [ha] at e; cases e; exact upd_same
        · rw [hu h]; exact gg.keep c o (by rw [hlk h]; exact e) n
      · by_cases h : c = a
        · subst h; rw [upd_same]; simp
        · rw [hu h]; exact gg.dom c (by rw [hlk h]; exact e)
      · rcases gg.new c e with z | z
        · exact .inl z
        · by_cases h : c = a
          · subst h; exact absurd e nVa
          · rw [hlk h] at z; exact .inr z
      · obtain ⟨s, c', k, tt, h1, r⟩ := eg.pur c z
        exact ⟨s, c', k, tt, by rw [hu (show c ≠ a from fun q => nVa (q ▸ z))]; exact h1, r⟩
      · refine .lst (by rw [hu hAa]; exact hD) (eg.oV A0 (.inr rfl)) (fun _ z => ?_) (Reps.conv2 (W := withD W A0) (fun c o e nf n1 n2 => ⟨?_, fun z => n1 (Or.inl z), n2, fun z => z⟩) (fun _ z => z) ra)
        · exact S.est.oldDom A0 z (by rw [← hlk hAa]; exact hA0)
        · rw [hu (show c ≠ a from fun z => by rw [z, hfr] at e; cases e; exact nf _ _ rfl)]; exact e
      · cases z; rw [← hlk hAa]; exact hA0
  | _ => exact (show False from w).elim
theorem be_compd {vs : List Nat} {i f k : Nat} {kn xf xd : Str} {scope : Scope} {own : List (Str × Nat)} (hvs : own.map (·.2) = vs) {p1 p2 p3 p4 p5 p6 p7 p8 p9 pos : Pos} {tk : Nat}
    (hb : blkC Γ.N sc scope own = true) (hN : Γ.N[i]? = some xd) (hvis : vis sc xd = true) (hdb : (xd == ("__debug__" : Str)) = false) (hcd : (xd == ("__classdict__" : Str)) = false)
    (hvi : vis (scB scope sc) xd = true) (hNk : Γ.N[k]? = some kn) (hvk : vis (scB scope sc) kn = true) (hdk : (kn == ("__debug__" : Str)) = false) (hck : (kn == ("__classdict__" : Str)) = false)
    (hl : locB (scB scope sc) (fnB scope) kn = true) (hT : Γ.T[f]? = some xf) (har : Γ.ar f 1 = true) (hg : gbl (scB scope sc) xf = true) (hd : (xf == ("__debug__" : Str)) = false) :
    BE Γ sc fnk (.ListComp (.Tuple [.Name kn p1, .Call (.Name xf p2) [.Subscript (.Name xd p3) (.Name kn p4) p5] [] p6] tk p7) [⟨.Name kn p8, .Name xd p9, [], 0⟩] scope pos) (.compd i f k vs) := by
  subst hvs
  refine ⟨fun _ => tLockE (tLc (iKeys (tVar i)) (gName k) tYes (tTup (tCons (tVar k) (tCons (tCall (spB Γ.cl (Γ.fi f 1).np (Γ.fi f 1).sem) (Γ.fi f 1).dvs E0 (tCons (tDGet (tVar i) (tVar k)) tNil)) tNil))) (own.map (·.2))), fun E X gd => ?_, compd_sound har⟩
  refine pe_lock (pe_lc gd.calm gd.nd (pi_keys (pe_var (by rw [gd.N]; exact hN) (by rw [gd.sc]; exact vis_of hvis) hdb hcd)) (by rw [gd.N, gd.sc]; exact blkOk_by hb) (fun s H C cl fp => ?_) (fun s H C cl fp => pts_nil) (fun s H C cl fp => ?_) (fun _ => rfl))
  · have g := gd.blk scope s H C cl fp
    obtain ⟨a, b⟩ := loc_of g hl
    exact pg_name g.nd (by rw [g.N]; exact hNk) a b
  · have g := gd.blk scope s H C cl fp
    have pk : ∀ p, PE (X.blk s H scope (compEnvC scope cl C X.env) fp) (.Name kn p) (tVar k) := fun p => pe_var (by rw [g.N]; exact hNk) (by rw [g.sc]; exact vis_of hvk) hdk hck
    have pd : ∀ p, PE (X.blk s H scope (compEnvC scope cl C X.env) fp) (.Name xd p) (tVar i) := fun p => pe_var (by rw [g.N]; exact hN) (by rw [g.sc]; exact vis_of hvi) hdb hcd
    obtain ⟨a, fd, ps, ds, F, hm, hk, hb, hv⟩ := (g.fns f xf _ hT har).ex
    have pdg := pe_dget (pos := p5) (by have := g.hu; omega) (pd p3) (pk p4) (plainIx_of rfl)
    have pc := pe_call (p := p2) (pos := p6) F g.room (gbl_of g hg) hm hk hb hv g.pas (pa_cons pdg pa_nil (star_cons rfl _)) hd (star_cons rfl _) (star_any _ _ rfl)
    exact pe_tup (pa_cons (pk p1) (pa_cons pc pa_nil (star_cons rfl _)) (star_cons rfl _))
end
end Vm
/-! Vm17: a row's expression against one of the small language, checked. -/
namespace Vm
open PySem PySem.Spec L2

structure CkD where
  N : List Str
  T : List Str
  fx : List Nat
  ar : Nat → Nat → Bool
  ion : Nat → Nat := fun _ => 0
inductive Job where
  | e (a : Expr) (x : Ex) | t (a : Expr) (x : Ex) | w (op : PySem.BoolOp) (es : List Expr) (x : Ex) | b (op : PySem.BoolOp) (es : List Expr) (x : Ex)
  | l (es : List Expr) (x : Ex) | i (tg it : Expr) (k : Ik) (x : Ex) | g (e : Expr) (t : Tg) | gs (es : List Expr) (t : Tg)
def Ok (Γ : Ga) (sc : Scope) (fnk : Str → Bool) : Job → Prop
  | .e a x => BE Γ sc fnk a x
  | .t a x => BT Γ sc fnk a x
  | .w op es x => ∀ pos, BW Γ sc fnk (.BoolOp op es pos) x
  | .b op es x => ∀ pos, BE Γ sc fnk (.BoolOp op es pos) x
  | .l es x => BL Γ sc fnk es x
  | .i tg it k x => BI Γ sc fnk tg it k x
  | .g e t => BG Γ sc fnk e t
  | .gs es t => BGs Γ sc fnk es t
abbrev Rec := Scope → (Str → Bool) → Job → Bool
def RecOk (Γ : Ga) (r : Rec) : Prop := ∀ sc fnk j, r sc fnk j = true → Ok Γ sc fnk j
def CkD.Of (C : CkD) (Γ : Ga) : Prop := Γ.N = C.N ∧ Γ.T = C.T ∧ Γ.fx = C.fx ∧ Γ.ar = C.ar ∧ Γ.ion = C.ion

def opOk : BOp → Operator → Bool
  | .add, .Add => true | .sub, .Sub => true | .mul, .Mult => true | .fdiv, .FloorDiv => true | .mod, .Mod => true | .pow, .Pow => true | _, _ => false
def nameOk (C : CkD) (sc : Scope) (i : Nat) (nm : Str) : Bool := decide (C.N[i]? = some nm) && vis sc nm && !(nm == ("__debug__" : Str)) && !(nm == ("__classdict__" : Str))
def tyOf : Expr → Ty → Bool
  | .Name n _, t => decide (n = PySem.Str.ofString t.nm) | _, _ => false
def tysOf : List Expr → List Ty → Bool
  | [], [] => true
  | e :: es, t :: ts => tyOf e t && tysOf es ts
  | _, _ => false
def noSet : Expr → Bool
  | .Set _ _ _ => false | _ => true
def ownOf (N : List Str) (vs : List Nat) : List (Str × Nat) := vs.filterMap fun i => (N[i]?).map fun x => (x, i)
def partCk (r : Rec) (sc : Scope) (fnk : Str → Bool) : Option Expr → Ex → Bool
  | none, x => (match x with | .non => true | _ => false)
  | some e, x => (match x with | .non => false | _ => true) && r sc fnk (.e e x)
def condCk (r : Rec) (sc : Scope) (fnk : Str → Bool) : List Expr → Ex → Bool
  | [], x => (match x with | .bl true => true | _ => false)
  | [c], x => r sc fnk (.t c x)
  | _, _ => false
def srcCk (r : Rec) (sc : Scope) (fnk : Str → Bool) (tg it : Expr) (k : Ik) (x : Ex) : Bool :=
  match k with
  | .seq => (match x with | .econs y .enil => r sc fnk (.e it y) | _ => false)
  | .range1 => (match it with | .Call (.Name f _) [e] [] _ => decide (f = ("range" : Str)) && gbl sc "range" && noStar e && r sc fnk (.l [e] x) | _ => false)
  | .range2 => (match it with | .Call (.Name f _) [e, e2] [] _ => decide (f = ("range" : Str)) && gbl sc "range" && noStar e && noStar e2 && r sc fnk (.l [e, e2] x) | _ => false)
  | .enum => (match tg, it with | .Tuple _ _ _, .Call (.Name f _) [e] [] _ => decide (f = ("enumerate" : Str)) && gbl sc "enumerate" && noStar e && r sc fnk (.l [e] x) | _, _ => false)
  | .zip => (match tg, it with | .Tuple _ _ _, .Call (.Name f _) [e, e2] [] _ => decide (f = ("zip" : Str)) && gbl sc "zip" && noStar e && noStar e2 && r sc fnk (.l [e, e2] x) | _, _ => false)
  | _ => false
def dictIt (C : CkD) (sc : Scope) (i : Nat) (k : Ik) (tg it : Expr) : Bool :=
  match k, it with
  | .keys, .Name x _ => nameOk C sc i x
  | .items, .Call (.Attribute (.Name x _) nm apos) [] [] cpos => nameOk C sc i x && decide (nm = ("items" : Str)) && (apos.endLine == cpos.line) && (match tg with | .Tuple _ _ _ => true | _ => false)
  | _, _ => false
def dictCk (C : CkD) (r : Rec) (sc : Scope) (fnk : Str → Bool) (elt : Expr) (gens : List Comprehension) (scope : Scope) (k : Ik) (src : Ex) (t : Tg) (cond ex : Ex) (vs : List Nat) : Bool :=
  match gens, src with
  | [g], .econs (.var i) .enil => decide (g.is_async = 0) && blkC C.N sc scope (ownOf C.N vs) && decide ((ownOf C.N vs).map (·.2) = vs) && (t.vars.all fun i => vs.contains i) && dictIt C sc i k g.target g.iter &&
      r (scB scope sc) (fnB scope) (.g g.target t) && condCk r (scB scope sc) (fnB scope) g.ifs cond && r (scB scope sc) (fnB scope) (.e elt ex)
  | _, _ => false
def lockK : Ik → Bool
  | .keys => true | .items => true | _ => false
def compCk (C : CkD) (r : Rec) (sc : Scope) (fnk : Str → Bool) (elt : Expr) (gens : List Comprehension) (scope : Scope) (k : Ik) (src : Ex) (t : Tg) (cond ex : Ex) (vs : List Nat) : Bool :=
  if lockK k then dictCk C r sc fnk elt gens scope k src t cond ex vs else match gens with
  | [g] => decide (g.is_async = 0) && blkC C.N sc scope (ownOf C.N vs) && decide ((ownOf C.N vs).map (·.2) = vs) && (t.vars.all fun i => vs.contains i) && noSet g.iter && r sc fnk (.i g.target g.iter k src) &&
      r (scB scope sc) (fnB scope) (.g g.target t) && condCk r (scB scope sc) (fnB scope) g.ifs cond && r (scB scope sc) (fnB scope) (.e elt ex)
  | _ => false
def comp2Ck (C : CkD) (r : Rec) (sc : Scope) (fnk : Str → Bool) (elt : Expr) (gens : List Comprehension) (scope : Scope) (k : Ik) (src : Ex) (t : Tg) (k1 : Ik) (src1 : Ex) (t1 : Tg) (cond1 ex : Ex) (vs vs1 : List Nat) : Bool :=
  match gens with
  | [⟨tg, it, [], 0⟩, ⟨tg1, it1, ifs1, 0⟩] => blkC C.N sc scope (ownOf C.N vs) && decide ((ownOf C.N vs).map (·.2) = vs) && (t.vars.all fun i => vs.contains i) && (t1.vars.all fun i => vs1.contains i) && (vs1.all fun i => vs.contains i) && noSet it && noSet it1 &&
      r sc fnk (.i tg it k src) && r (scB scope sc) (fnB scope) (.g tg t) && r (scB scope sc) (fnB scope) (.i tg1 it1 k1 src1) && r (scB scope sc) (fnB scope) (.g tg1 t1) && condCk r (scB scope sc) (fnB scope) ifs1 cond1 && r (scB scope sc) (fnB scope) (.e elt ex)
  | _ => false
def callCk (C : CkD) (r : Rec) (sc : Scope) (fnk : Str → Bool) (f : Nat) (x : Ex) : Expr → Bool
  | .Call (.Name n _) es [] _ => decide (C.T[f]? = some n) && decide (x.size = es.length) && C.ar f es.length && gbl sc n && !(n == ("__debug__" : Str)) && es.all noStar &&
      (match es with | [] => (match x with | .enil => true | _ => false) | e :: es => r sc fnk (.l (e :: es) x))
  | _ => false
def isiCk (r : Rec) (sc : Scope) (fnk : Str → Bool) (x : Ex) (ts : List Ty) : Expr → Bool
  | .Call (.Name n _) [a, b] [] _ => decide (n = ("isinstance" : Str)) && gbl sc "isinstance" && noStar a && r sc fnk (.e a x) && (ts.all fun t => gbl sc (PySem.Str.ofString t.nm)) && decide (ts.length ≤ 1000) &&
      (match b with | .Tuple es _ _ => tysOf es ts | b => (match ts with | [t] => tyOf b t | _ => false))
  | _ => false
def bltCk (r : Rec) (sc : Scope) (fnk : Str → Bool) (f : Bi) (x : Ex) : Expr → Bool
  | .Call (.Name n _) (e :: es) [] _ => if f.plain then decide (n = PySem.Str.ofString f.nm) && gbl sc (PySem.Str.ofString f.nm) && (e :: es).all noStar && r sc fnk (.l (e :: es) x) else
      (match f, e, es, x with
      | .lrange, .Call (.Name m _) [e2] [] _, [], .econs y .enil => decide (n = ("list" : Str)) && decide (m = ("range" : Str)) && gbl sc "list" && gbl sc "range" && noStar e2 && r sc fnk (.e e2 y)
      | _, _, _, _ => false)
  | _ => false
def minDCk (r : Rec) (sc : Scope) (fnk : Str → Bool) (x : Ex) : Expr → Bool
  | .Call (.Name n _) [e] [⟨some k, e2, _⟩] _ => decide (n = ("min" : Str)) && decide (k = ("default" : Str)) && gbl sc "min" && noStar e && (match x with | .econs x (.econs y .enil) => r sc fnk (.e e x) && r sc fnk (.e e2 y) | _ => false)
  | _ => false
def plainO : Expr → Bool
  | .Name _ _ => true | _ => false
def compdCk (C : CkD) (sc : Scope) (fnk : Str → Bool) (i f k : Nat) (vs : List Nat) : Expr → Bool
  | .ListComp (.Tuple [.Name kn _, .Call (.Name xf _) [.Subscript (.Name xd _) (.Name kn2 _) _] [] _] _ _) [⟨.Name kn3 _, .Name xd2 _, [], 0⟩] scope _ =>
      decide (kn2 = kn) && decide (kn3 = kn) && decide (xd2 = xd) && nameOk C sc i xd && nameOk C (scB scope sc) i xd && nameOk C (scB scope sc) k kn && locB (scB scope sc) (fnB scope) kn && decide (C.T[f]? = some xf) && C.ar f 1 && gbl (scB scope sc) xf && !(xf == ("__debug__" : Str)) &&
      blkC C.N sc scope (ownOf C.N vs) && decide ((ownOf C.N vs).map (·.2) = vs)
  | _ => false
def eCk (C : CkD) (r : Rec) (sc : Scope) (fnk : Str → Bool) (a : Expr) (x : Ex) : Bool :=
  match x with
  | .var i => (match a with | .Name nm _ => nameOk C sc i nm | _ => false)
  | .int i => (match a with | .Constant (.int j) _ _ => decide (j = i) | _ => false)
  | .bl i => (match a with | .Constant (.bool j) _ _ => decide (j = i) | _ => false)
  | .non => (match a with | .Constant .none _ _ => true | _ => false)
  | .str i => (match a with | .Constant (.str j) _ _ => decide (j = i) | _ => false)
  | .bin op x y => (match a with | .BinOp l o u _ => opOk op o && r sc fnk (.e l x) && r sc fnk (.e u y) | _ => false)
  | .neg x => (match a with | .UnaryOp .USub u _ => r sc fnk (.e u x) | _ => false)
  | .not x => (match a with | .UnaryOp .Not u _ => r sc fnk (.e u x) | _ => false)
  | .cmp op x y => (match a with | .Compare l [o] [u] _ => decide (o = cop op) && !behindInMarks (cop op) u && r sc fnk (.e l x) && r sc fnk (.e u y) | _ => false)
  | .isN x => (match a with | .Compare l [.Is] [.Constant .none _ _] _ => r sc fnk (.e l x) | _ => false)
  | .isB x b => (match a with | .Compare l [.Is] [.Constant (.bool c) _ _] _ => decide (c = b) && r sc fnk (.e l x) | _ => false)
  | .lset k src t cond ex vs => (match a with | .Call (.Name nm _) [.SetComp elt gens scope _] [] _ => decide (nm = ("len" : Str)) && gbl sc "len" && !lockK k && compCk C r sc fnk elt gens scope k src t cond ex vs | _ => false)
  | .compd i f k vs => compdCk C sc fnk i f k vs a
  | .mkd x => (match a with | .Call (.Name nm _) [e] [] _ => decide (nm = PySem.Str.ofString "dict") && gbl sc "dict" && noStar e && r sc fnk (.e e x) | _ => false)
  | .rev x => (match a with | .Subscript e (.Slice none none (some (.UnaryOp .USub (.Constant (.int z) _ _) _)) _) _ => decide (z = 1) && r sc fnk (.e e x) | _ => false)
  | .notN x => (match a with | .Compare l [.IsNot] [.Constant .none _ _] _ => r sc fnk (.e l x) | _ => false)
  | .chain op op2 x y z => (match a with | .Compare l [o, o2] [u, v] _ => decide (o = cop op) && decide (o2 = cop op2) && !lastMarks [cop op, cop op2] [u, v] && r sc fnk (.e l x) && r sc fnk (.e u y) && r sc fnk (.e v z) | _ => false)
  | .and x y => (match a with | .BoolOp op es _ => r sc fnk (.b op es (.and x y)) | _ => false)
  | .or x y => (match a with | .BoolOp op es _ => r sc fnk (.b op es (.or x y)) | _ => false)
  | .ite c x y => (match a with | .IfExp d l u _ => r sc fnk (.t d c) && r sc fnk (.e l x) && r sc fnk (.e u y) | _ => false)
  | .tup x => (match a with | .Tuple es _ _ => r sc fnk (.l es x) | _ => false)
  | .lst x => (match a with | .List es _ => r sc fnk (.l es x) | _ => false)
  | .dnew => (match a with | .Dict [] [] _ => true | _ => false)
  | .ix x y => (match a with | .Subscript l u _ => plainIxB u && r sc fnk (.e l x) && r sc fnk (.e u y) | _ => false)
  | .dget x y => (match a with | .Subscript l u _ => plainIxB u && r sc fnk (.e l x) && r sc fnk (.e u y) | _ => false)
  | .slice x y z => (match a with | .Subscript l (.Slice lo hi none _) _ => r sc fnk (.e l x) && partCk r sc fnk lo y && partCk r sc fnk hi z | _ => false)
  | .bits x => (match a with | .Call (.Attribute o nm apos) [] [] cpos => decide (nm = ("bit_length" : Str)) && (apos.endLine == cpos.line) && plainO o && r sc fnk (.e o x) | _ => false)
  | .call f x => callCk C r sc fnk f x a
  | .isi x ts => isiCk r sc fnk x ts a
  | .blt f x => (match f with | .minD => minDCk r sc fnk x a | f => bltCk r sc fnk f x a)
  | .comp k src t cond ex vs => (match a with | .ListComp elt gens scope _ => compCk C r sc fnk elt gens scope k src t cond ex vs | _ => false)
  | .meth m x y => (match a with | .Call (.Attribute (.Name nm px) name apos) (e :: es) [] cpos => decide (m = .count) && decide (name = ("count" : Str)) && (apos.endLine == cpos.line) && (e :: es).all noStar && decide ((e :: es).length + 1 < 30) && r sc fnk (.e (.Name nm px) x) && r sc fnk (.l (e :: es) y) | _ => false)
  | .comp2 k src t k1 src1 t1 cond1 ex vs vs1 => (match a with | .ListComp elt gens scope _ => comp2Ck C r sc fnk elt gens scope k src t k1 src1 t1 cond1 ex vs vs1 | _ => false)
  | _ => false
def tCk (r : Rec) (sc : Scope) (fnk : Str → Bool) (a : Expr) (x : Ex) : Bool :=
  match a with
  | .UnaryOp .Not u _ => (match x with | .not x => r sc fnk (.t u x) | _ => false)
  | .BoolOp op es _ => r sc fnk (.w op es x)
  | .Compare l ops us _ => (match x, ops, us with
    | .cmp op x y, [o], [u] => decide (o = cop op) && !behindInMarks (cop op) u && r sc fnk (.e l x) && r sc fnk (.e u y)
    | .isN x, [.Is], [.Constant .none _ _] => r sc fnk (.e l x)
    | .notN x, [.IsNot], [.Constant .none _ _] => r sc fnk (.e l x)
    | .chain op op2 x y z, [o, o2], [u, v] => decide (o = cop op) && decide (o2 = cop op2) && !lastMarks [cop op, cop op2] [u, v] && r sc fnk (.e l x) && r sc fnk (.e u y) && r sc fnk (.e v z)
    | _, _, _ => false)
  | a => plainT a && r sc fnk (.e a x)
def stepCk (C : CkD) (r : Rec) (sc : Scope) (fnk : Str → Bool) : Job → Bool
  | .e a x => eCk C r sc fnk a x
  | .t a x => tCk r sc fnk a x
  | .w op es x => (match es with
    | [a] => r sc fnk (.t a x)
    | a :: b :: rest => (match op, x with | .And, .and x y => r sc fnk (.t a x) && r sc fnk (.w .And (b :: rest) y) | .Or, .or x y => r sc fnk (.t a x) && r sc fnk (.w .Or (b :: rest) y) | _, _ => false)
    | _ => false)
  | .b op es x => (match es with
    | [a] => r sc fnk (.e a x)
    | a :: b :: rest => (match op, x with | .And, .and x y => r sc fnk (.e a x) && r sc fnk (.b .And (b :: rest) y) | .Or, .or x y => r sc fnk (.e a x) && r sc fnk (.b .Or (b :: rest) y) | _, _ => false)
    | _ => false)
  | .l es x => (match es, x with | [], .enil => true | e :: es, .econs x y => noStar e && r sc fnk (.e e x) && r sc fnk (.l es y) | _, _ => false)
  | .i tg it k x => srcCk r sc fnk tg it k x
  | .g e t => (match e, t with
    | .Name x _, .nm i => decide (C.N[i]? = some x) && locB sc fnk x
    | .Tuple es _ _, .tup t => es.all notStarT && r sc fnk (.gs es t)
    | _, _ => false)
  | .gs es t => (match es, t with | [], .tnil => true | e :: es, .tcons a b => notStarT e && r sc fnk (.g e a) && r sc fnk (.gs es b) | _, _ => false)
def ck (C : CkD) : Nat → Rec
  | 0 => fun _ _ _ => false
  | n + 1 => stepCk C (ck C n)

section
variable {Γ : Ga} {sc : Scope} {fnk : Str → Bool}
theorem be_bits {a : Expr} {x : Ex} {apos pos : Pos} (hl : (apos.endLine == pos.line) = true) (hb : ∀ env : Env, attributeBase a "bit_length" env (eval a env) = eval a env) (ha : BE Γ sc fnk a x) : BE Γ sc fnk (.Call (.Attribute a "bit_length" apos) [] [] pos) (.bits x) := by
  obtain ⟨ta, pa, s⟩ := one (r := fun _ v H Q => ∃ i, v = .int i ∧ Q (.int (Builtin.Int.intBits i : Nat)) H) (K := fun d n Q => match d with | .int i => Q (.pure (.int (Builtin.Int.intBits i : Nat))) n | _ => False) ha (fun W H Vt n σ ρ E R v d Q Post S rd w hp => by
    cases d with
    | int i => cases rd.int; exact ⟨i, rfl, post_at S hp (.int _) w⟩
    | _ => exact (show False from w).elim)
  exact ⟨fun E => tBits (ta E), fun E X g => pe_bits (pa E X g) (hb _) hl, s⟩
end
section
variable {Γ : Ga} {sc : Scope} {fnk : Str → Bool}
/-- name.count(e) -/
theorem be_meth {nm : Str} {px apos cpos : Pos} {e : Expr} {es : List Expr} {x y : Ex} (hn : (e :: es).all noStar = true) (hlen : decide ((e :: es).length + 1 < 30) = true) (hline : (apos.endLine == cpos.line) = true)
    (ho : BE Γ sc fnk (.Name nm px) x) (hs : BL Γ sc fnk (e :: es) y) : BE Γ sc fnk (.Call (.Attribute (.Name nm px) "count" apos) (e :: es) [] cpos) (.meth .count x y) := by
  obtain ⟨t, p, s⟩ := hs
  obtain ⟨to, po, so⟩ := ho
  have hn' : noStar e = true ∧ es.all noStar = true := by simpa using hn
  refine ⟨fun E => tBM Γ.K "list" (rCntI Γ.K) (to E) (t E), fun E X g => ?_, fun W H Vt n σ ρ E R Q Post S w hp => ?_⟩
  · have hfew : ((backTo cpos (starEach (e :: es) X.env)).all (fun x => !x.1) && (backToKw cpos (keywordEach [] X.env)).all (fun x => x.1.isSome)
      && decide ((e :: es).length + ([] : List Keyword).length + (if ([] : List Keyword).isEmpty then 0 else 1) < 30)) = true := by
      have h1 : (backTo cpos (starEach (e :: es) X.env)).all (fun x => !x.1) = true := by
        have := star_any (es := e :: es) cpos X.env hn
        rw [List.any_eq_false] at this
        exact List.all_eq_true.mpr fun q hq => by simpa using this q hq
      rw [h1]
      show decide ((e :: es).length + 0 + 0 < 30) = true
      have := of_decide_eq_true hlen
      exact decide_eq_true (by omega)
    have := pe_bm (X := X) PySem.F.plainAttrs_list PySem.F.slot_list_count PySem.F.type_list_count mt_lcount (po E X g) (p E X g) (by rfl) hfew hline (star_cons hn'.1 _) (star_any _ _ hn'.2)
    rw [g.K] at this
    exact this
  · unfold wpE at w
    refine so W H Vt n σ ρ E R _ _ S w fun v H1 ⟨V1, n1, s1, g1, p1, i1, _, w1⟩ => ?_
    have S1 := S.grow g1 p1
    obtain ⟨d, rd, hl, w2⟩ := i1.read w1
    cases d with
    | lst tt xs =>
      obtain ⟨a, us, rfl, ha, ra⟩ := rd.lst
      refine ⟨.inl ⟨rfl, _, SqL.of ha⟩, ?_⟩
      refine s W H1 V1 n1 σ ρ E R _ _ S1 w2 fun vs H2 ⟨V2, n2, ss, g2, p2, i2, y2, w3⟩ => ?_
      obtain ⟨ds, rds, hk, _⟩ := reads_known i2 w3
      have w4 := hk _ w3
      have rd2 := rd.grow g2
      obtain ⟨a2, us2, e2, ha2, ra2⟩ := rd2.lst
      cases e2
      unfold methW at w4
      split at w4
      · rename_i h1 h2 h3
        cases h2
        split at w4
        · rename_i ns hns
          cases rds with
          | cons r0 r1 =>
            cases r1
            cases r0.int
            have := reps_ints ra2 hns
            subst this
            refine ⟨a, ns, _, rfl, rfl, SqL.of ha2, ?_⟩
            exact hp _ _ ((epost_at g2 (S1.grow g2 p2).est (.int _) w4).grow g1)
        · exact w4.elim
      · cases (show Me.count = Me.index from by assumption)
      · exact w4.elim
    | _ => cases hl
end
section
variable {Γ : Ga} {C : CkD} (hC : C.Of Γ) {r : Rec} (hr : RecOk Γ r) {sc : Scope} {fnk : Str → Bool}
theorem nameOk_of (hC : C.Of Γ) {i : Nat} {nm : Str} (h : nameOk C sc i nm = true) : Γ.N[i]? = some nm ∧ vis sc nm = true ∧ (nm == ("__debug__" : Str)) = false ∧ (nm == ("__classdict__" : Str)) = false := by
  unfold nameOk at h
  rw [hC.1]
  simpa [Bool.and_eq_true, and_assoc] using h
theorem tyOf_of {e : Expr} {t : Ty} (h : tyOf e t = true) : ∃ p, e = .Name (PySem.Str.ofString t.nm) p := by
  cases e <;> first | cases h | skip
  rename_i n p
  exact ⟨p, by rw [of_decide_eq_true h]⟩
theorem tysOf_of : ∀ {es : List Expr} {ts : List Ty}, tysOf es ts = true → TyNames es ts
  | [], [], _ => .nil
  | [], _ :: _, h => by cases h
  | _ :: _, [], h => by cases h
  | e :: es, t :: ts, h => by
    unfold tysOf at h
    rw [Bool.and_eq_true] at h
    obtain ⟨p, rfl⟩ := tyOf_of h.1
    exact .cons (tysOf_of h.2)
theorem noSet_of {e : Expr} (h : noSet e = true) (env : Env) (x : Value) : foldedSetIterable e env x = pure x := by
  cases e <;> first | rfl | cases h
include hr
theorem partCk_ok {o : Option Expr} {x : Ex} (h : partCk r sc fnk o x = true) : PartOk Γ sc fnk o x := by
  cases o with
  | none => unfold partCk at h; cases x <;> first | exact .inl ⟨rfl, rfl⟩ | cases h
  | some e =>
    unfold partCk at h
    rw [Bool.and_eq_true] at h
    refine .inr ⟨e, rfl, fun z => ?_, hr _ _ _ h.2⟩
    subst z
    exact absurd h.1 (by simp)
theorem condCk_ok {es : List Expr} {x : Ex} (h : condCk r sc fnk es x = true) : Conds Γ sc fnk es x := by
  unfold condCk at h
  split at h
  · split at h
    · exact .none
    · cases h
  · exact .one (hr _ _ _ h)
  · cases h
theorem srcCk_ok {tg it : Expr} {k : Ik} {x : Ex} (h : srcCk r sc fnk tg it k x = true) : BI Γ sc fnk tg it k x := by
  unfold srcCk at h
  split at h
  · split at h
    · exact bi_seq (hr _ _ _ h)
    · cases h
  · split at h
    · simp only [Bool.and_eq_true, decide_eq_true_eq] at h
      obtain ⟨⟨⟨rfl, h1⟩, h2⟩, h3⟩ := h
      exact bi_range1 h1 h2 (hr _ _ _ h3)
    · cases h
  · split at h
    · simp only [Bool.and_eq_true, decide_eq_true_eq] at h
      obtain ⟨⟨⟨⟨rfl, h1⟩, h2⟩, h3⟩, h4⟩ := h
      exact bi_range2 h1 h2 h3 (hr _ _ _ h4)
    · cases h
  · split at h
    · simp only [Bool.and_eq_true, decide_eq_true_eq] at h
      obtain ⟨⟨⟨rfl, h1⟩, h2⟩, h3⟩ := h
      exact bi_enum h1 h2 (hr _ _ _ h3)
    · cases h
  · split at h
    · simp only [Bool.and_eq_true, decide_eq_true_eq] at h
      obtain ⟨⟨⟨⟨rfl, h1⟩, h2⟩, h3⟩, h4⟩ := h
      exact bi_zip h1 h2 h3 (hr _ _ _ h4)
    · cases h
  · cases h
/-- what a comprehension is -/
def CompOk (Γ : Ga) (sc : Scope) (fnk : Str → Bool) (elt : Expr) (gens : List Comprehension) (scope : Scope) (pos : Pos) (b : Ex) : Prop :=
    ∃ tt : XK → TE, (∀ E X, Good Γ sc fnk E X → PE X (.ListComp elt gens scope pos) (tt E)) ∧
      (∀ E X, Good Γ sc fnk E X → ∀ (i : Nat) (y : Str) (py spos : Pos), Γ.N[i]? = some y → sc.names.lookup y = some .local → sc.kind = .function → (py.line == pos.line) = true →
        (scope.names.any fun (n, k) => n == y && (k == .local || k == .cell)) = false → PS X (.Assign [.Name y py] (.ListComp elt gens scope pos) spos) (tAsg (tt E) (gName i))) ∧
      ∀ W H Vt n σ ρ E R Q Post, Sit Γ W H Vt n σ ρ E R → wpE Γ.Ψ b R ρ n Q → (∀ v H', EPost W H Vt Q v H' → Post v H') → tt E σ H Post
include hC
theorem dictCk_ok {elt : Expr} {gens : List Comprehension} {scope : Scope} {pos : Pos} {k : Ik} {src : Ex} {t : Tg} {cond ex : Ex} {vs : List Nat} (h : dictCk C r sc fnk elt gens scope k src t cond ex vs = true) : CompOk Γ sc fnk elt gens scope pos (.comp k src t cond ex vs) := by
  unfold dictCk at h
  split at h
  · rename_i g i
    simp only [Bool.and_eq_true, decide_eq_true_eq] at h
    obtain ⟨⟨⟨⟨⟨⟨⟨h1, h2⟩, h3⟩, h4⟩, h5⟩, h7⟩, h8⟩, h9⟩ := h
    obtain ⟨tg, it, ifs, ia⟩ := g
    have h1 : ia = 0 := h1
    subst h1
    obtain ⟨x, hd, n1, n2, n3, n4⟩ : ∃ x, DictIt i x k tg it ∧ Γ.N[i]? = some x ∧ vis sc x = true ∧ (x == ("__debug__" : Str)) = false ∧ (x == ("__classdict__" : Str)) = false := by
      have h5 : dictIt C sc i k tg it = true := h5
      unfold dictIt at h5
      split at h5
      · rename_i x p _
        exact ⟨x, .inl ⟨rfl, p, rfl⟩, nameOk_of hC h5⟩
      · rename_i x p nm apos cpos _
        simp only [Bool.and_eq_true, decide_eq_true_eq] at h5
        obtain ⟨⟨⟨a1, rfl⟩, a3⟩, a4⟩ := h5
        cases tg <;> first | cases a4 | skip
        rename_i es kk tp
        exact ⟨x, .inr ⟨rfl, p, apos, _, tp, es, kk, rfl, by simpa using a3, rfl⟩, nameOk_of hC a1⟩
      · cases h5
    have := dict_core (fnk := fnk) (own := ownOf C.N vs) (pos := pos) (elt := elt) (ifs := ifs) (scope := scope) hd n1 n2 n3 n4 (by rw [hC.1]; exact h2) (fun i hi => by
      rw [h3]
      exact List.contains_iff_mem.mp (List.all_eq_true.mp h4 i hi)) (hr _ _ _ h7) (condCk_ok hr h8) (hr _ _ _ h9)
    rw [h3] at this
    exact this
  · cases h
theorem compCk_ok {elt : Expr} {gens : List Comprehension} {scope : Scope} {pos : Pos} {k : Ik} {src : Ex} {t : Tg} {cond ex : Ex} {vs : List Nat} (h : compCk C r sc fnk elt gens scope k src t cond ex vs = true) : CompOk Γ sc fnk elt gens scope pos (.comp k src t cond ex vs) := by
  unfold compCk at h
  by_cases hlk : lockK k = true
  · rw [if_pos hlk] at h
    exact dictCk_ok hC hr h
  rw [if_neg hlk] at h
  have hk : ∀ ρ, lockP k src ρ = some ρ := fun ρ => by cases k <;> first | rfl | exact absurd rfl hlk
  split at h
  · rename_i g
    simp only [Bool.and_eq_true, decide_eq_true_eq] at h
    obtain ⟨⟨⟨⟨⟨⟨⟨⟨h1, h2⟩, h3⟩, h4⟩, h5⟩, h6⟩, h7⟩, h8⟩, h9⟩ := h
    obtain ⟨tg, it, ifs, ia⟩ := g
    have h1 : ia = 0 := h1
    subst h1
    have := comp_core (own := ownOf C.N vs) (pos := pos) hk (by rw [hC.1]; exact h2) (fun i hi => by
      rw [h3]
      exact List.contains_iff_mem.mp (List.all_eq_true.mp h4 i hi)) (noSet_of h5) (hr _ _ _ h6) (hr _ _ _ h7) (condCk_ok hr h8) (hr _ _ _ h9)
    rw [h3] at this
    exact this
  · cases h
theorem lsetCk_ok {elt : Expr} {gens : List Comprehension} {scope : Scope} {pf cpos pos : Pos} {k : Ik} {src : Ex} {t : Tg} {cond ex : Ex} {vs : List Nat} (hg : gbl sc "len" = true) (hlk : lockK k = false) (h : compCk C r sc fnk elt gens scope k src t cond ex vs = true) :
    BE Γ sc fnk (.Call (.Name "len" pf) [.SetComp elt gens scope cpos] [] pos) (.lset k src t cond ex vs) := by
  unfold compCk at h
  rw [if_neg (by rw [hlk]; simp)] at h
  split at h
  · rename_i g
    simp only [Bool.and_eq_true, decide_eq_true_eq] at h
    obtain ⟨⟨⟨⟨⟨⟨⟨⟨h1, h2⟩, h3⟩, h4⟩, h5⟩, h6⟩, h7⟩, h8⟩, h9⟩ := h
    obtain ⟨tg, it, ifs, ia⟩ := g
    have h1 : ia = 0 := h1
    subst h1
    have z := be_lset (own := ownOf C.N vs) (pf := pf) (cpos := cpos) (pos := pos) (by rw [hC.1]; exact h2) (fun i hi => by
      rw [h3]
      exact List.contains_iff_mem.mp (List.all_eq_true.mp h4 i hi)) (noSet_of h5) hg (hr _ _ _ h6) (hr _ _ _ h7) (condCk_ok hr h8) (hr _ _ _ h9)
    rw [h3] at z
    exact z
  · cases h
theorem comp2Ck_ok {elt : Expr} {gens : List Comprehension} {scope : Scope} {pos : Pos} {k k1 : Ik} {src src1 : Ex} {t t1 : Tg} {cond1 ex : Ex} {vs vs1 : List Nat} (h : comp2Ck C r sc fnk elt gens scope k src t k1 src1 t1 cond1 ex vs vs1 = true) : CompOk Γ sc fnk elt gens scope pos (.comp2 k src t k1 src1 t1 cond1 ex vs vs1) := by
  unfold comp2Ck at h
  split at h
  · rename_i tg it tg1 it1 ifs1
    simp only [Bool.and_eq_true, decide_eq_true_eq] at h
    obtain ⟨⟨⟨⟨⟨⟨⟨⟨⟨⟨⟨⟨h2, h3⟩, h4⟩, h4a⟩, h4b⟩, h5⟩, h5a⟩, h6⟩, h7⟩, h6a⟩, h7a⟩, h8⟩, h9⟩ := h
    have := comp2_core (own := ownOf C.N vs) (vs1 := vs1) (pos := pos) (by rw [hC.1]; exact h2) (fun i hi => by
      rw [h3]
      exact List.contains_iff_mem.mp (List.all_eq_true.mp h4 i hi)) (fun i hi => List.contains_iff_mem.mp (List.all_eq_true.mp h4a i hi)) (fun i hi => by
      rw [h3]
      exact List.contains_iff_mem.mp (List.all_eq_true.mp h4b i hi)) (noSet_of h5) (noSet_of h5a) (hr _ _ _ h6) (hr _ _ _ h7) (hr _ _ _ h6a) (hr _ _ _ h7a) (condCk_ok hr h8) (hr _ _ _ h9)
    rw [h3] at this
    exact this
  · cases h
theorem callCk_ok {f : Nat} {x : Ex} {a : Expr} (h : callCk C r sc fnk f x a = true) : BE Γ sc fnk a (.call f x) := by
  unfold callCk at h
  split at h
  · rename_i n p1 es p2
    simp only [Bool.and_eq_true, decide_eq_true_eq, Bool.not_eq_true'] at h
    obtain ⟨⟨⟨⟨⟨⟨h1, h2⟩, h3⟩, h4⟩, h5⟩, h6⟩, h7⟩ := h
    cases es with
    | nil =>
      cases x <;> first | (exact be_call0 (by rw [hC.2.1]; exact h1) (by rw [hC.2.2.2.1]; exact h3) h4 h5) | cases h7
    | cons e es => exact be_call (by rw [hC.2.1]; exact h1) h2 (by rw [hC.2.2.2.1]; exact h3) h4 h5 h6 (hr _ _ _ h7)
  · cases h
omit hC in
theorem isiCk_ok {x : Ex} {ts : List Ty} {a : Expr} (h : isiCk r sc fnk x ts a = true) : BE Γ sc fnk a (.isi x ts) := by
  unfold isiCk at h
  split at h
  · rename_i n p1 u b p2
    simp only [Bool.and_eq_true, decide_eq_true_eq] at h
    obtain ⟨⟨⟨⟨⟨⟨rfl, h1⟩, h2⟩, h3⟩, h4⟩, h5⟩, h6⟩ := h
    split at h6
    · exact be_isiT h1 h2 (hr _ _ _ h3) (tysOf_of h6) (fun t m => List.all_eq_true.mp h4 t m) h5
    · split at h6
      · rename_i t
        exact be_isi h1 h2 (hr _ _ _ h3) (tyOf_of h6) (List.all_eq_true.mp h4 t (List.mem_cons_self ..))
      · cases h6
  · cases h
omit hC in
theorem bltCk_ok {f : Bi} {x : Ex} {a : Expr} (h : bltCk r sc fnk f x a = true) : BE Γ sc fnk a (.blt f x) := by
  unfold bltCk at h
  split at h
  · rename_i n p1 e es p2
    by_cases hp : f.plain = true
    · rw [if_pos hp] at h
      simp only [Bool.and_eq_true, decide_eq_true_eq] at h
      obtain ⟨⟨⟨rfl, h1⟩, h2⟩, h3⟩ := h
      exact be_blt hp h1 (by simpa using h2) (hr _ _ _ h3)
    · rw [if_neg hp] at h
      split at h
      · simp only [Bool.and_eq_true, decide_eq_true_eq] at h
        obtain ⟨⟨⟨⟨⟨rfl, rfl⟩, h1⟩, h2⟩, h3⟩, h4⟩ := h
        exact be_lrange h1 h2 h3 (hr _ _ _ h4)
      · cases h
  · cases h
omit hC in
theorem minDCk_ok {x : Ex} {a : Expr} (h : minDCk r sc fnk x a = true) : BE Γ sc fnk a (.blt .minD x) := by
  unfold minDCk at h
  split at h
  · simp only [Bool.and_eq_true, decide_eq_true_eq] at h
    obtain ⟨⟨⟨⟨rfl, rfl⟩, h1⟩, h2⟩, h3⟩ := h
    split at h3
    · rw [Bool.and_eq_true] at h3
      exact be_minD h1 h2 (hr _ _ _ h3.1) (hr _ _ _ h3.2)
    · cases h3
  · cases h
theorem compdCk_ok {i f k : Nat} {vs : List Nat} {a : Expr} (h : compdCk C sc fnk i f k vs a = true) : BE Γ sc fnk a (.compd i f k vs) := by
  unfold compdCk at h
  split at h
  · simp only [Bool.and_eq_true, decide_eq_true_eq, Bool.not_eq_true'] at h
    obtain ⟨⟨⟨⟨⟨⟨⟨⟨⟨⟨⟨⟨rfl, rfl⟩, rfl⟩, h1⟩, h2⟩, h3⟩, h4⟩, h5⟩, h6⟩, h7⟩, h8⟩, h9⟩, h10⟩ := h
    obtain ⟨a1, a2, a3, a4⟩ := nameOk_of hC h1
    obtain ⟨_, b2, _, _⟩ := nameOk_of hC h2
    obtain ⟨c1, c2, c3, c4⟩ := nameOk_of hC h3
    exact be_compd (Γ := Γ) (sc := sc) (fnk := fnk) (own := ownOf C.N vs) h10 (by rw [hC.1]; exact h9) a1 a2 a3 a4 b2 c1 c2 c3 c4 h4 (by rw [hC.2.1]; exact h5) (by rw [hC.2.2.2.1]; exact h6) h7 h8
  · cases h
theorem eCk_ok {a : Expr} {x : Ex} (h : eCk C r sc fnk a x = true) : BE Γ sc fnk a x := by
  cases x with
  | var i =>
    simp only [eCk] at h
    split at h
    · obtain ⟨h1, h2, h3, h4⟩ := nameOk_of hC h
      exact be_var h1 h2 h3 h4
    · cases h
  | int i => simp only [eCk] at h; split at h <;> first | cases h | (rw [← of_decide_eq_true h]; exact be_int)
  | bl i => simp only [eCk] at h; split at h <;> first | cases h | (rw [← of_decide_eq_true h]; exact be_bl)
  | non => simp only [eCk] at h; split at h <;> first | exact be_non | cases h
  | str i => simp only [eCk] at h; split at h <;> first | cases h | (rw [← of_decide_eq_true h]; exact be_str)
  | bin op x y =>
    simp only [eCk] at h
    split at h
    · simp only [Bool.and_eq_true] at h
      obtain ⟨⟨h1, h2⟩, h3⟩ := h
      have a1 := hr _ _ _ h2
      have a2 := hr _ _ _ h3
      unfold opOk at h1
      split at h1
      · exact be_add a1 a2
      · exact be_sub a1 a2
      · exact be_mul a1 a2
      · exact be_fdiv a1 a2
      · exact be_mod a1 a2
      · exact be_pow a1 a2
      · cases h1
    · cases h
  | neg x => simp only [eCk] at h; split at h <;> first | exact be_neg (hr _ _ _ h) | cases h
  | not x => simp only [eCk] at h; split at h <;> first | exact be_not (hr _ _ _ h) | cases h
  | cmp op x y =>
    simp only [eCk] at h
    split at h
    · simp only [Bool.and_eq_true, decide_eq_true_eq, Bool.not_eq_true'] at h
      obtain ⟨⟨⟨rfl, h1⟩, h2⟩, h3⟩ := h
      exact be_cmp h1 (hr _ _ _ h2) (hr _ _ _ h3)
    · cases h
  | isN x => simp only [eCk] at h; split at h <;> first | exact be_isN (hr _ _ _ h) | cases h
  | notN x => simp only [eCk] at h; split at h <;> first | exact be_notN (hr _ _ _ h) | cases h
  | chain op op2 x y z =>
    simp only [eCk] at h
    split at h
    · simp only [Bool.and_eq_true, decide_eq_true_eq, Bool.not_eq_true'] at h
      obtain ⟨⟨⟨⟨⟨rfl, rfl⟩, h1⟩, h2⟩, h3⟩, h4⟩ := h
      exact be_chain h1 (hr _ _ _ h2) (hr _ _ _ h3) (hr _ _ _ h4)
    · cases h
  | and x y => simp only [eCk] at h; split at h <;> first | exact hr _ _ _ h _ | cases h
  | or x y => simp only [eCk] at h; split at h <;> first | exact hr _ _ _ h _ | cases h
  | ite c x y =>
    simp only [eCk] at h
    split at h
    · simp only [Bool.and_eq_true] at h
      exact be_ite (hr _ _ _ h.1.1) (hr _ _ _ h.1.2) (hr _ _ _ h.2)
    · cases h
  | tup x => simp only [eCk] at h; split at h <;> first | exact be_tup (hr _ _ _ h) | cases h
  | lst x => simp only [eCk] at h; split at h <;> first | exact be_lst (hr _ _ _ h) | cases h
  | dnew => simp only [eCk] at h; split at h <;> first | exact be_dnew | cases h
  | ix x y =>
    simp only [eCk] at h
    split at h
    · simp only [Bool.and_eq_true] at h
      exact be_ix h.1.1 (hr _ _ _ h.1.2) (hr _ _ _ h.2)
    · cases h
  | dget x y =>
    simp only [eCk] at h
    split at h
    · simp only [Bool.and_eq_true] at h
      exact be_dget h.1.1 (hr _ _ _ h.1.2) (hr _ _ _ h.2)
    · cases h
  | slice x y z =>
    simp only [eCk] at h
    split at h
    · simp only [Bool.and_eq_true] at h
      exact be_slice (hr _ _ _ h.1.1) (partCk_ok hr h.1.2) (partCk_ok hr h.2)
    · cases h
  | bits x =>
    simp only [eCk] at h
    split at h
    · simp only [Bool.and_eq_true, decide_eq_true_eq] at h
      obtain ⟨⟨⟨rfl, h1⟩, h2⟩, h3⟩ := h
      exact be_bits h1 (by intro env; unfold plainO at h2; split at h2 <;> first | rfl | cases h2) (hr _ _ _ h3)
    · cases h
  | call f x => exact callCk_ok hC hr h
  | isi x ts => exact isiCk_ok hr h
  | blt f x =>
    simp only [eCk] at h
    split at h
    · exact minDCk_ok hr h
    · exact bltCk_ok hr h
  | comp k src t cond ex vs =>
    simp only [eCk] at h
    split at h
    · obtain ⟨tt, a, _, c⟩ := compCk_ok hC hr h
      exact ⟨tt, a, c⟩
    · cases h
  | isB x b =>
    simp only [eCk] at h
    split at h
    · rw [Bool.and_eq_true, decide_eq_true_eq] at h
      obtain ⟨rfl, h2⟩ := h
      exact be_isB (hr _ _ _ h2)
    · cases h
  | lset k src t cond ex vs =>
    simp only [eCk] at h
    split at h
    · simp only [Bool.and_eq_true, decide_eq_true_eq, Bool.not_eq_true'] at h
      obtain ⟨⟨⟨rfl, h1⟩, h2⟩, h3⟩ := h
      exact lsetCk_ok hC hr h1 h2 h3
    · cases h
  | mkd x =>
    simp only [eCk] at h
    split at h
    · simp only [Bool.and_eq_true, decide_eq_true_eq] at h
      obtain ⟨⟨⟨rfl, h1⟩, h2⟩, h3⟩ := h
      exact be_mkd h1 h2 (hr _ _ _ h3)
    · cases h
  | rev x =>
    simp only [eCk] at h
    split at h
    · rw [Bool.and_eq_true, decide_eq_true_eq] at h
      obtain ⟨rfl, h2⟩ := h
      exact be_rev (hr _ _ _ h2)
    · cases h
  | meth m o es =>
    simp only [eCk] at h
    split at h
    · simp only [Bool.and_eq_true, decide_eq_true_eq] at h
      obtain ⟨⟨⟨⟨⟨⟨rfl, rfl⟩, h1⟩, h2⟩, h3⟩, h4⟩, h5⟩ := h
      exact be_meth h2 (decide_eq_true h3) h1 (hr _ _ _ h4) (hr _ _ _ h5)
    · cases h
  | comp2 k src t k1 src1 t1 cond1 ex vs vs1 =>
    simp only [eCk] at h
    split at h
    · obtain ⟨tt, a, _, c⟩ := comp2Ck_ok hC hr h
      exact ⟨tt, a, c⟩
    · cases h
  | compd i f k vs =>
    simp only [eCk] at h
    exact compdCk_ok hC hr h
  | enil => cases h
  | econs _ _ => cases h
omit hC in
theorem tCk_ok {a : Expr} {x : Ex} (h : tCk r sc fnk a x = true) : BT Γ sc fnk a x := by
  unfold tCk at h
  split at h
  · split at h
    · exact bt_not (hr _ _ _ h)
    · cases h
  · exact bt_of_bw (hr _ _ _ h _)
  · split at h
    · simp only [Bool.and_eq_true, decide_eq_true_eq, Bool.not_eq_true'] at h
      obtain ⟨⟨⟨rfl, h1⟩, h2⟩, h3⟩ := h
      exact bt_cmp h1 (hr _ _ _ h2) (hr _ _ _ h3)
    · exact bt_isN (hr _ _ _ h)
    · exact bt_notN (hr _ _ _ h)
    · simp only [Bool.and_eq_true, decide_eq_true_eq, Bool.not_eq_true'] at h
      obtain ⟨⟨⟨⟨⟨rfl, rfl⟩, h1⟩, h2⟩, h3⟩, h4⟩ := h
      exact bt_chain h1 (hr _ _ _ h2) (hr _ _ _ h3) (hr _ _ _ h4)
    · cases h
  · rw [Bool.and_eq_true] at h
    exact bt_plain h.1 (hr _ _ _ h.2)
theorem stepCk_ok : RecOk Γ (stepCk C r) := by
  intro sc fnk j h
  cases j with
  | e a x => exact eCk_ok hC hr h
  | t a x => exact tCk_ok hr h
  | w op es x =>
    intro pos
    simp only [stepCk] at h
    split at h
    · exact bw_one (hr _ _ _ h)
    · split at h
      · rw [Bool.and_eq_true] at h
        exact bw_and (hr _ _ _ h.1) (hr _ _ _ h.2 _)
      · rw [Bool.and_eq_true] at h
        exact bw_or (hr _ _ _ h.1) (hr _ _ _ h.2 _)
      · cases h
    · cases h
  | b op es x =>
    intro pos
    simp only [stepCk] at h
    split at h
    · exact be_one (hr _ _ _ h)
    · split at h
      · rw [Bool.and_eq_true] at h
        exact be_and (hr _ _ _ h.1) (hr _ _ _ h.2 _)
      · rw [Bool.and_eq_true] at h
        exact be_or (hr _ _ _ h.1) (hr _ _ _ h.2 _)
      · cases h
    · cases h
  | l es x =>
    simp only [stepCk] at h
    split at h
    · exact bl_nil
    · simp only [Bool.and_eq_true] at h
      exact bl_cons h.1.1 (hr _ _ _ h.1.2) (hr _ _ _ h.2)
    · cases h
  | i tg it k x => exact srcCk_ok hr h
  | g e t =>
    simp only [stepCk] at h
    split at h
    · rw [Bool.and_eq_true, decide_eq_true_eq] at h
      exact bg_nm (by rw [hC.1]; exact h.1) h.2
    · rw [Bool.and_eq_true] at h
      exact bg_tup h.1 (hr _ _ _ h.2)
    · cases h
  | gs es t =>
    simp only [stepCk] at h
    split at h
    · exact bgs_nil
    · simp only [Bool.and_eq_true] at h
      exact bgs_cons h.1.1 (hr _ _ _ h.1.2) (hr _ _ _ h.2)
    · cases h
omit hr in
theorem ck_ok : ∀ n, RecOk Γ (ck C n)
  | 0 => fun _ _ _ h => by cases h
  | n + 1 => stepCk_ok hC (ck_ok n)
end
end Vm
/-! Vm18: a row's statement against one of the small language, checked. -/
namespace Vm
open PySem PySem.Spec L2

/-! ### stores in turn -/
def starB : Expr → Bool
  | .Starred .. => true | _ => false
def swNames (sc : Scope) (ts : List Expr) : List Str := 
  let line := (ts.head?.map (·.pos.line)).getD 0
  ts.filterMap fun
    | .Name id pos => if (sc.names.lookup id == some .local && pos.line == line) = true then some id else none
    | _ => none
def swCond (sc : Scope) (ts vs : List Expr) (names : List Str) : Bool :=
  (ts.length == 2 || ts.length == 3) && vs.length == ts.length && !(vs.any starB) && decide (swNames sc ts = names) && names.length == ts.length && names.eraseDups.length == names.length && !(vs.all (foldedForSure 8)) && !(vs.all (constantsAlone 8))
theorem sw_some {env : Env} {sc : Scope} (hs : env.scope = sc) {ts vs : List Expr} {names : List Str} {k k2 : Nat} {p p2 : Pos} (hk : sc.kind = .function) (h : swCond sc ts vs names = true) : swappedStores [.Tuple ts k p] (.Tuple vs k2 p2) env = pure (some names) := by
  subst hs
  unfold swCond at h
  simp only [Bool.and_eq_true, Bool.not_eq_true', decide_eq_true_eq] at h
  obtain ⟨⟨⟨⟨⟨⟨⟨h1, h2⟩, h3⟩, h4⟩, h5⟩, h6⟩, h7⟩, h8⟩ := h
  have hb : env.blockKind = .function := by unfold Env.blockKind; rw [hk]; rfl
  have hn : (ts.filterMap fun
    | .Name id pos => if (env.kindOf id == some .local && pos.line == (ts.head?.map (·.pos.line)).getD 0) = true then some id else none
    | _ => none) = names := h4
  unfold swappedStores
  simp only [h1, h2, h3, hb, h7, h8]
  generalize hl : List.filterMap _ ts = l
  have e : l = names := hl.symm.trans hn
  subst e
  have h2' : (vs.length != ts.length) = false := by simpa [bne] using h2
  have h5' : (l.length != ts.length) = false := by simpa [bne] using h5
  have h6' : (l.eraseDups.length != l.length) = false := by simpa [bne] using h6
  simp only [h2', h5', h6']
  rw [if_neg (by decide)]
  rw [if_neg (fun z => by have z : vs.any starB = true := z; rw [h3] at z; cases z)]
  simp
/-- .. none of them -/
def swNone (sc : Scope) (tg e : Expr) : Bool :=
  match tg, e with
  | .Tuple ts _ _, .Tuple vs _ _ => !(ts.length == 2 || ts.length == 3) || (vs.length != ts.length) || ((swNames sc ts).length != ts.length) || vs.all (foldedForSure 8)
  | .Tuple _ _ _, _ => true
  | .Name _ _, _ => true
  | _, _ => false
theorem sw_none {env : Env} {sc : Scope} (hs : env.scope = sc) {tg e : Expr} (hk : sc.kind = .function) (h : swNone sc tg e = true) : swappedStores [tg] e env = pure none := by
  subst hs
  unfold swNone at h
  split at h
  · rename_i ts k p vs k2 p2
    have hb : env.blockKind = .function := by unfold Env.blockKind; rw [hk]; rfl
    unfold swappedStores
    simp only [hb]
    by_cases c1 : (!(ts.length == 2 || ts.length == 3) || vs.length != ts.length || ScopeKind.function != ScopeKind.function) = true
    · rw [if_pos c1]
    · rw [if_neg c1]
      by_cases c2 : vs.any starB = true
      · exact if_pos c2
      · refine (if_neg (show ¬ _ from c2)).trans ?_
        generalize hl : List.filterMap _ ts = l
        have e : swNames env.scope ts = l := hl
        rw [e] at h
        by_cases c3 : (l.length != ts.length || l.eraseDups.length != l.length) = true
        · rw [if_pos c3]
        · rw [if_neg c3]
          have h4 : vs.all (foldedForSure 8) = true := by
            simp only [Bool.or_eq_true] at h c1 c3
            rcases h with ((h | h) | h) | h
            · exact absurd (.inl (.inl h)) c1
            · exact absurd (.inl (.inr h)) c1
            · exact absurd (.inl h) c3
            · exact h
          rw [if_pos h4]
  · rename_i hne
    cases e <;> first | rfl | skip
    rename_i vs k p
    exact absurd rfl (hne vs k p)
  · cases e <;> rfl
  · cases h

inductive SJob where
  | s (st : Stmt) (sm : Sm) | ss (sts : List Stmt) (sm : Sm)
def SOk (Γ : Ga) (sc : Scope) (fnk : Str → Bool) : SJob → Prop
  | .s st sm => BS Γ sc fnk st sm
  | .ss sts sm => BSs Γ sc fnk sts sm
def isFun (sc : Scope) : Bool := match sc.kind with | .function => true | _ => false
def localB (sc : Scope) (x : Str) : Bool := match sc.names.lookup x with | some .local => true | _ => false
def cellB (sc : Scope) (x : Str) : Bool := match sc.names.lookup x with | some .cell => true | _ => false
/-- name = e -/
def aCk (C : CkD) (re : Rec) (sc : Scope) (fnk : Str → Bool) (i : Nat) (y : Str) (py : Pos) (e : Expr) (x : Ex) : Bool :=
  decide (C.N[i]? = some y) && !C.fx.contains i && isFun sc &&
  (match e with
  | .ListComp elt gens scope pos =>
    if cellB sc y then locB sc fnk y && re sc fnk (.e e x)
    else (match x with
      | .comp k src t cond ex vs => localB sc y && (py.line == pos.line) && !(scope.names.any fun (n, k) => n == y && (k == .local || k == .cell)) && compCk C re sc fnk elt gens scope k src t cond ex vs
      | .comp2 k src t k1 src1 t1 cond1 ex vs vs1 => localB sc y && (py.line == pos.line) && !(scope.names.any fun (n, k) => n == y && (k == .local || k == .cell)) && comp2Ck C re sc fnk elt gens scope k src t k1 src1 t1 cond1 ex vs vs1
      | _ => false)
  | e => plainV e && locB sc fnk y && re sc fnk (.e e x))
def muCk (C : CkD) (re : Rec) (sc : Scope) (fnk : Str → Bool) (i : Nat) (m : Mu) (x : Ex) : Stmt → Bool
  | .Expr (.Call (.Attribute (.Name y _) name apos) es [] cpos) _ => nameOk C sc i y && (apos.endLine == cpos.line) &&
    (match m with | .append => decide (name = ("append" : Str)) | .insert => decide (name = ("insert" : Str)) | .extend => decide (name = ("extend" : Str)) | .clear => decide (name = ("clear" : Str)) | .pop => decide (name = ("pop" : Str))) &&
    (match es with
    | [] => (match x with | .enil => true | _ => false)
    | e :: es => (e :: es).all noStar && decide ((e :: es).length + 1 < 30) && re sc fnk (.l (e :: es) x))
  | _ => false
def parCk (C : CkD) (re : Rec) (sc : Scope) (fnk : Str → Bool) (vars : List Nat) (xs : List Ex) (st : Stmt) : Bool :=
  match st with
  | .Assign [.Tuple ts _ _] (.Tuple es _ _) _ =>
    isFun sc && (vars.all fun i => !C.fx.contains i) &&
    (match ts, es, vars, xs with
    | [.Name y _, .Name z _], [ea, eb], [i, j], [a, b] => swCond sc ts es [y, z] && !(i == j) && decide (C.N[i]? = some y) && decide (C.N[j]? = some z) && localB sc y && localB sc z && noStar ea && noStar eb && re sc fnk (.e ea a) && re sc fnk (.e eb b)
    | [.Name y _, .Name z _, .Name q _], [ea, eb, ec], [i, j, l], [a, b, c] => swCond sc ts es [y, z, q] && !(i == j) && !(i == l) && !(j == l) && decide (C.N[i]? = some y) && decide (C.N[j]? = some z) && decide (C.N[l]? = some q) &&
        localB sc y && localB sc z && localB sc q && noStar ea && noStar eb && noStar ec && re sc fnk (.e ea a) && re sc fnk (.e eb b) && re sc fnk (.e ec c)
    | _, _, _, _ => false)
  | _ => false
abbrev SRec := Scope → (Str → Bool) → SJob → Bool
def sCk (C : CkD) (re : Rec) (r : SRec) (sc : Scope) (fnk : Str → Bool) (st : Stmt) (sm : Sm) : Bool :=
  match sm with
  | .pass => (match st with | .Pass _ => true | .Expr (.Constant (.str _) _ _) _ => true | _ => false)
  | .brk => (match st with | .Break _ => true | _ => false)
  | .cont => (match st with | .Continue _ => true | _ => false)
  | .retN => (match st with | .Return none _ => true | _ => false)
  | .never => true
  | .retP x => (match st with | .Return (some e) _ => re sc fnk (.e e x) | _ => false)
  | .ret x => (match st with | .Return (some e) _ => re sc fnk (.e e x) | _ => false)
  | .asg i x => (match st with | .Assign [.Name y py] e _ => aCk C re sc fnk i y py e x | _ => false)
  | .asgO i x => (match st with | .Assign [.Name y py] e _ => aCk C re sc fnk i y py e x | _ => false)
  | .asgD i x => (match st with | .Assign [.Name y py] e _ => aCk C re sc fnk i y py e x | _ => false)
  | .asgT t x => (match st with | .Assign [tg] e _ => isFun sc && (t.vars.all fun i => !C.fx.contains i) && re sc fnk (.g tg t) && re sc fnk (.e e x) && plainV e && swNone sc tg e && notStarT tg | _ => false)
  | .par2 i j _ _ a b => parCk C re sc fnk [i, j] [a, b] st
  | .par3 i j l _ _ _ a b c => parCk C re sc fnk [i, j, l] [a, b, c] st
  | .aug i op x => (match st with | .AugAssign (.Name y _) o e _ => decide (C.N[i]? = some y) && !C.fx.contains i && locB sc fnk y && (match op, o with | .add, .Add => true | .sub, .Sub => true | _, _ => false) && re sc fnk (.e e x) | _ => false)
  | .mut i m x => muCk C re sc fnk i m x st
  | .setIx i k x => (match st with | .Assign [.Subscript (.Name y _) ke _] e _ => nameOk C sc i y && plainIxB ke && re sc fnk (.e ke k) && re sc fnk (.e e x) | _ => false)
  | .dput i k x => (match st with | .Assign [.Subscript (.Name y _) ke _] e _ => nameOk C sc i y && re sc fnk (.e ke k) && re sc fnk (.e e x) | _ => false)
  | .io i f x => (match st with | .Expr (.Call (.Name xf _) (.Name y _ :: es) [] _) _ => nameOk C sc i y && decide (C.T[f]? = some xf) && decide (C.ion f = x.size + 1) && gbl sc xf && !(xf == ("__debug__" : Str)) && es.all noStar && re sc fnk (.l es x) | _ => false)
  | .expr x => (match st with | .Expr e _ => plainV e && re sc fnk (.e e x) | _ => false)
  | .ife c a b => (match st with | .If e p q _ => re sc fnk (.t e c) && r sc fnk (.ss p a) && r sc fnk (.ss q b) | _ => false)
  | .whil c b => (match st with | .While e p [] _ => re sc fnk (.t e c) && r sc fnk (.ss p b) | _ => false)
  | .for k src t b => (match st with | .For tg it body [] _ => (t.vars.all fun i => !C.fx.contains i) && noSet it && re sc fnk (.i tg it k src) && re sc fnk (.g tg t) && r sc fnk (.ss body b) | _ => false)
  | _ => false
def sStep (C : CkD) (re : Rec) (r : SRec) (sc : Scope) (fnk : Str → Bool) : SJob → Bool
  | .s st sm => sCk C re r sc fnk st sm
  | .ss sts sm => (match sm with
    | .snil => (match sts with | [] => true | _ => false)
    | .frz i s => !C.fx.contains i && r sc fnk (.ss sts s)
    | .scons s s2 => (match sts with | st :: rest => r sc fnk (.s st s) && r sc fnk (.ss rest s2) | [] => false)
    | _ => false)
def scK (C : CkD) : Nat → SRec
  | 0 => fun _ _ _ => false
  | n + 1 => sStep C (ck C 40) (scK C n)

section
variable {Γ : Ga} {C : CkD} (hC : C.Of Γ) {re : Rec} (hr : RecOk Γ re) {r : SRec} (hs : ∀ sc fnk j, r sc fnk j = true → SOk Γ sc fnk j) {sc : Scope} {fnk : Str → Bool}
theorem isFun_of {sc : Scope} (h : isFun sc = true) : sc.kind = .function := by
  unfold isFun at h
  split at h
  · assumption
  · cases h
theorem localB_of {sc : Scope} {x : Str} (h : localB sc x = true) : sc.names.lookup x = some .local := by
  unfold localB at h
  split at h
  · assumption
  · cases h
theorem cellB_of {sc : Scope} {x : Str} (h : cellB sc x = true) : sc.names.lookup x = some .cell := by
  unfold cellB at h
  split at h
  · assumption
  · cases h
theorem sw_cell {elt : Expr} {gs : List Comprehension} {scope : Scope} {pos py : Pos} {y : Str} {l : Nat} {env : Env} (hy : env.scope.names.lookup y = some .cell) : swapsWith (.ListComp elt gs scope pos) (some (.Name y py)) l env = pure false := by
  have ky : env.kindOf y = some .cell := hy
  unfold swapsWith
  simp only [ky]
  rw [show (some NameKind.cell == some NameKind.local) = false from rfl, Bool.and_false, Bool.false_and, Bool.false_and]
include hC in
theorem fxC {i : Nat} (h : (C.fx.contains i) = false) : (Γ.fx.contains i) = false := by rw [hC.2.2.1]; exact h
include hC in
theorem apartC {t : Tg} (h : (t.vars.all fun i => !C.fx.contains i) = true) : apartFx Γ t = true := by unfold apartFx; rw [hC.2.2.1]; exact h
include hC hr
theorem aCk_ok {i : Nat} {y : Str} {py spos : Pos} {e : Expr} {x : Ex} (h : aCk C re sc fnk i y py e x = true) : (Γ.fx.contains i) = false ∧ BA Γ sc fnk y i py spos e x := by
  unfold aCk at h
  simp only [Bool.and_eq_true, decide_eq_true_eq, Bool.not_eq_true'] at h
  obtain ⟨⟨⟨h1, h2⟩, h3⟩, h4⟩ := h
  have hN : Γ.N[i]? = some y := by rw [hC.1]; exact h1
  refine ⟨fxC hC h2, ?_⟩
  split at h4
  · rename_i elt gens scope pos
    split at h4
    · rename_i hc
      rw [Bool.and_eq_true] at h4
      exact ba_of hN h4.1 (fun env e => sw_cell (by rw [e]; exact cellB_of hc)) (hr _ _ _ h4.2)
    · split at h4
      · simp only [Bool.and_eq_true, Bool.not_eq_true'] at h4
        obtain ⟨⟨⟨a1, a2⟩, a3⟩, a4⟩ := h4
        obtain ⟨tt, _, p, s⟩ := compCk_ok (pos := pos) hC hr a4
        exact ⟨tt, fun E X g => p E X g i y py spos hN (localB_of a1) (isFun_of h3) a2 a3, s⟩
      · simp only [Bool.and_eq_true, Bool.not_eq_true'] at h4
        obtain ⟨⟨⟨a1, a2⟩, a3⟩, a4⟩ := h4
        obtain ⟨tt, _, p, s⟩ := comp2Ck_ok (pos := pos) hC hr a4
        exact ⟨tt, fun E X g => p E X g i y py spos hN (localB_of a1) (isFun_of h3) a2 a3, s⟩
      · cases h4
  · simp only [Bool.and_eq_true] at h4
    exact ba_of hN h4.1.2 (fun env _ => plainV_sw h4.1.1 _ _ _) (hr _ _ _ h4.2)
theorem muCk_ok {i : Nat} {m : Mu} {x : Ex} {st : Stmt} (h : muCk C re sc fnk i m x st = true) : BS Γ sc fnk st (.mut i m x) := by
  unfold muCk at h
  split at h
  · rename_i y px name apos es cpos pos
    rw [Bool.and_eq_true, Bool.and_eq_true, Bool.and_eq_true] at h
    obtain ⟨⟨⟨h1, h2⟩, h3⟩, h4⟩ := h
    obtain ⟨n1, n2, n3, n4⟩ := nameOk_of hC h1
    cases es with
    | nil =>
      cases x <;> first | cases h4 | skip
      cases m with
      | append => cases of_decide_eq_true h3; exact bs_mut0 mu_append PySem.F.slot_list_append PySem.F.type_list_append (fun X => mt_append) n1 n2 n3 n4 h2
      | insert => cases of_decide_eq_true h3; exact bs_mut0 mu_insert PySem.F.slot_list_insert PySem.F.type_list_insert (fun X => mt_insert) n1 n2 n3 n4 h2
      | extend => cases of_decide_eq_true h3; exact bs_mut0 mu_extend PySem.F.slot_list_extend PySem.F.type_list_extend (fun X => mt_extend) n1 n2 n3 n4 h2
      | clear => cases of_decide_eq_true h3; exact bs_mut0 mu_clear PySem.F.slot_list_clear PySem.F.type_list_clear (fun X => mt_clear) n1 n2 n3 n4 h2
      | pop => cases of_decide_eq_true h3; exact bs_mut0 mu_pop PySem.F.slot_list_pop PySem.F.type_list_pop (fun X => mt_pop) n1 n2 n3 n4 h2
    | cons e es =>
      have h4 : ((e :: es).all noStar && decide ((e :: es).length + 1 < 30) && re sc fnk (.l (e :: es) x)) = true := h4
      rw [Bool.and_eq_true, Bool.and_eq_true] at h4
      obtain ⟨⟨a1, a2⟩, a3⟩ := h4
      have hl := hr _ _ _ a3
      cases m with
      | append => cases of_decide_eq_true h3; exact bs_mut mu_append PySem.F.slot_list_append PySem.F.type_list_append (fun X => mt_append) n1 n2 n3 n4 a1 a2 h2 hl
      | insert => cases of_decide_eq_true h3; exact bs_mut mu_insert PySem.F.slot_list_insert PySem.F.type_list_insert (fun X => mt_insert) n1 n2 n3 n4 a1 a2 h2 hl
      | extend => cases of_decide_eq_true h3; exact bs_mut mu_extend PySem.F.slot_list_extend PySem.F.type_list_extend (fun X => mt_extend) n1 n2 n3 n4 a1 a2 h2 hl
      | clear => cases of_decide_eq_true h3; exact bs_mut mu_clear PySem.F.slot_list_clear PySem.F.type_list_clear (fun X => mt_clear) n1 n2 n3 n4 a1 a2 h2 hl
      | pop => cases of_decide_eq_true h3; exact bs_mut mu_pop PySem.F.slot_list_pop PySem.F.type_list_pop (fun X => mt_pop) n1 n2 n3 n4 a1 a2 h2 hl
  · cases h
theorem par2_ok {i j : Nat} {oi oj : Hw} {a b : Ex} {st : Stmt} (h : parCk C re sc fnk [i, j] [a, b] st = true) : BS Γ sc fnk st (.par2 i j oi oj a b) := by
  unfold parCk at h
  split at h
  · rename_i ts kt pt es k2 pt2 pos
    rw [Bool.and_eq_true, Bool.and_eq_true] at h
    obtain ⟨⟨h1, h2⟩, h3⟩ := h
    have f : ∀ l ∈ [i, j], (Γ.fx.contains l) = false := fun l hl => fxC hC (by have := List.all_eq_true.mp h2 l hl; simpa using this)
    split at h3
    · rename_i e1 e2
      cases e1; cases e2
      simp only [Bool.and_eq_true, decide_eq_true_eq, Bool.not_eq_true'] at h3
      obtain ⟨⟨⟨⟨⟨⟨⟨⟨⟨a1, a2⟩, a3⟩, a4⟩, a5⟩, a6⟩, a7⟩, a8⟩, a9⟩, a10⟩ := h3
      exact bs_par2 (f _ (by simp)) (f _ (by simp)) a2 (by rw [hC.1]; exact a3) (by rw [hC.1]; exact a4) (localB_of a5) (localB_of a6) a7 a8 (fun env e => sw_some e (isFun_of h1) a1) (hr _ _ _ a9) (hr _ _ _ a10)
    · rename_i e1 e2
      cases e1
    · cases h3
  · cases h
theorem par3_ok {i j l : Nat} {oi oj ol : Hw} {a b c : Ex} {st : Stmt} (h : parCk C re sc fnk [i, j, l] [a, b, c] st = true) : BS Γ sc fnk st (.par3 i j l oi oj ol a b c) := by
  unfold parCk at h
  split at h
  · rename_i ts kt pt es k2 pt2 pos
    rw [Bool.and_eq_true, Bool.and_eq_true] at h
    obtain ⟨⟨h1, h2⟩, h3⟩ := h
    have f : ∀ q ∈ [i, j, l], (Γ.fx.contains q) = false := fun q hl => fxC hC (by have := List.all_eq_true.mp h2 q hl; simpa using this)
    split at h3
    · rename_i e1 e2
      cases e1
    · rename_i e1 e2
      cases e1; cases e2
      simp only [Bool.and_eq_true, decide_eq_true_eq, Bool.not_eq_true'] at h3
      obtain ⟨⟨⟨⟨⟨⟨⟨⟨⟨⟨⟨⟨⟨⟨⟨a1, b1⟩, b2⟩, b3⟩, c1⟩, c2⟩, c3⟩, d1⟩, d2⟩, d3⟩, s1⟩, s2⟩, s3⟩, g1⟩, g2⟩, g3⟩ := h3
      exact bs_par3 (f _ (by simp)) (f _ (by simp)) (f _ (by simp)) b1 b2 b3 (by rw [hC.1]; exact c1) (by rw [hC.1]; exact c2) (by rw [hC.1]; exact c3) (localB_of d1) (localB_of d2) (localB_of d3) s1 s2 s3 (fun env e => sw_some e (isFun_of h1) a1) (hr _ _ _ g1) (hr _ _ _ g2) (hr _ _ _ g3)
    · cases h3
  · cases h
include hs
theorem sCk_ok {st : Stmt} {sm : Sm} (h : sCk C re r sc fnk st sm = true) : BS Γ sc fnk st sm := by
  cases sm with
  | pass => simp only [sCk] at h; split at h <;> first | exact bs_pass | exact bs_doc | cases h
  | brk => simp only [sCk] at h; split at h <;> first | exact bs_brk | cases h
  | cont => simp only [sCk] at h; split at h <;> first | exact bs_cont | cases h
  | retN => simp only [sCk] at h; split at h <;> first | exact bs_retN | cases h
  | never => exact bs_never
  | ret x => simp only [sCk] at h; split at h <;> first | exact bs_ret (hr _ _ _ h) | cases h
  | retP x => simp only [sCk] at h; split at h <;> first | exact bs_retP (hr _ _ _ h) | cases h
  | asg i x =>
    simp only [sCk] at h
    split at h
    · obtain ⟨a, b⟩ := aCk_ok hC hr h
      exact bs_asg a b
    · cases h
  | asgO i x =>
    simp only [sCk] at h
    split at h
    · obtain ⟨a, b⟩ := aCk_ok hC hr h
      exact bs_asgO a b
    · cases h
  | asgD i x =>
    simp only [sCk] at h
    split at h
    · obtain ⟨a, b⟩ := aCk_ok hC hr h
      exact bs_asgD a b
    · cases h
  | asgT t x =>
    simp only [sCk] at h
    split at h
    · simp only [Bool.and_eq_true] at h
      obtain ⟨⟨⟨⟨⟨⟨h0, h1⟩, h2⟩, h3⟩, h4⟩, h5⟩, h6⟩ := h
      exact bs_asgT (apartC hC h1) (hr _ _ _ h2) (hr _ _ _ h3) (fun env _ => plainV_sw h4 _ _ _) (fun env e => sw_none e (isFun_of h0) h5) h6
    · cases h
  | par2 i j oi oj a b => exact par2_ok hC hr h
  | par3 i j l oi oj ol a b c => exact par3_ok hC hr h
  | aug i op x =>
    simp only [sCk] at h
    split at h
    · simp only [Bool.and_eq_true, decide_eq_true_eq, Bool.not_eq_true'] at h
      obtain ⟨⟨⟨⟨h1, h2⟩, h3⟩, h4⟩, h5⟩ := h
      refine bs_aug (fxC hC h2) (by rw [hC.1]; exact h1) h3 ?_ (hr _ _ _ h5)
      split at h4
      · exact .inl ⟨rfl, rfl⟩
      · exact .inr ⟨rfl, rfl⟩
      · cases h4
    · cases h
  | «mut» i m x => exact muCk_ok hC hr h
  | setIx i k x =>
    simp only [sCk] at h
    split at h
    · simp only [Bool.and_eq_true] at h
      obtain ⟨⟨⟨h1, h2⟩, h3⟩, h4⟩ := h
      obtain ⟨n1, n2, n3, n4⟩ := nameOk_of hC h1
      exact bs_setIx n1 n2 n3 n4 h2 (hr _ _ _ h3) (hr _ _ _ h4)
    · cases h
  | dput i k x =>
    simp only [sCk] at h
    split at h
    · simp only [Bool.and_eq_true] at h
      obtain ⟨⟨h1, h3⟩, h4⟩ := h
      obtain ⟨n1, n2, n3, n4⟩ := nameOk_of hC h1
      exact bs_dput n1 n2 n3 n4 (hr _ _ _ h3) (hr _ _ _ h4)
    · cases h
  | io i f x =>
    simp only [sCk] at h
    split at h
    · simp only [Bool.and_eq_true, decide_eq_true_eq, Bool.not_eq_true'] at h
      obtain ⟨⟨⟨⟨⟨⟨h1, h2⟩, h3⟩, h4⟩, h5⟩, h6⟩, h7⟩ := h
      obtain ⟨n1, n2, n3, n4⟩ := nameOk_of hC h1
      exact bs_io n1 n2 n3 n4 (by rw [hC.2.1]; exact h2) (by rw [hC.2.2.2.2]; exact h3) h4 h5 h6 (hr _ _ _ h7)
    · cases h
  | expr x =>
    simp only [sCk] at h
    split at h
    · rw [Bool.and_eq_true] at h
      exact bs_expr h.1 (hr _ _ _ h.2)
    · cases h
  | ife c a b =>
    simp only [sCk] at h
    split at h
    · simp only [Bool.and_eq_true] at h
      exact bs_ife (hr _ _ _ h.1.1) (hs _ _ _ h.1.2) (hs _ _ _ h.2)
    · cases h
  | whil c b =>
    simp only [sCk] at h
    split at h
    · rw [Bool.and_eq_true] at h
      exact bs_whil (hr _ _ _ h.1) (hs _ _ _ h.2)
    · cases h
  | «for» k src t b =>
    simp only [sCk] at h
    split at h
    · simp only [Bool.and_eq_true] at h
      obtain ⟨⟨⟨⟨h1, h2⟩, h3⟩, h4⟩, h5⟩ := h
      exact bs_for (apartC hC h1) (noSet_of h2) (hr _ _ _ h3) (hr _ _ _ h4) (hs _ _ _ h5)
    · cases h
  | snil => cases h
  | scons _ _ => cases h
  | frz _ _ => cases h
  | scp _ _ _ _ _ _ => cases h
  | wrk _ _ _ => cases h
theorem sStep_ok : ∀ sc fnk j, sStep C re r sc fnk j = true → SOk Γ sc fnk j := by
  intro sc fnk j h
  cases j with
  | s st sm => exact sCk_ok hC hr hs h
  | ss sts sm =>
    simp only [sStep] at h
    split at h
    · split at h
      · exact bss_nil
      · cases h
    · rw [Bool.and_eq_true, Bool.not_eq_true'] at h
      exact bss_frz (fxC hC h.1) (hs _ _ _ h.2)
    · split at h
      · rw [Bool.and_eq_true] at h
        exact bss_cons (hs _ _ _ h.1) (hs _ _ _ h.2)
      · cases h
    · cases h
omit hr hs
theorem scK_ok : ∀ n sc fnk j, scK C n sc fnk j = true → SOk Γ sc fnk j
  | 0 => fun _ _ _ h => by cases h
  | n + 1 => sStep_ok hC (ck_ok hC 40) (scK_ok n)
end
end Vm
/-! VmQ: what was told is changed. -/
namespace Vm
open PySem PySem.Spec L2

theorem ixN_nat {n : Nat} {k : Int} {i : Nat} (e : k = i) (h : i < n) : ixN n k = some i := by
  subst e
  unfold ixN
  rw [if_pos (by omega), if_pos (by omega)]; simp
theorem atI_of {α : Type} {xs : List α} {k : Int} {i : Nat} {d : α} (e : k = i) (h : xs[i]? = some d) : atI xs k = some d := by
  unfold atI
  rw [ixN_nat e (List.getElem?_eq_some_iff.mp h).1]
  exact h
section
variable {W : Wd} {H : Hp} {Vt : Addr → Prop}
/-- nothing lies within itself -/
theorem no_self {a : Addr} {vs : List V} {i : Nat} (nv : ¬ Vt a) (e : H a = some (.lst vs)) (ei : vs[i]? = some (.ref a)) : ∀ (m : Nat) (d : D), sizeOf d < m → ¬ Rep W H Vt (.ref a) d
  | 0, _, h => absurd h (Nat.not_lt_zero _)
  | m + 1, d, h => fun r => by
    cases r with
    | @lst _ us ds t e1 _ _ _ q =>
      rw [e] at e1; cases e1
      obtain ⟨d', h1, h2⟩ := q.get ei
      have := List.sizeOf_lt_of_mem (List.mem_of_getElem? h1)
      exact no_self nv e ei m d' (by simp at h; omega) h2
    | tup e1 _ _ _ => rw [e] at e1; cases e1
    | dic e1 _ _ _ _ => rw [e] at e1; cases e1
    | pur h1 => exact nv h1
theorem no_self2 {a b : Addr} {vs us : List V} {i j : Nat} (nv : ¬ Vt a) (nb : ¬ Vt b) (e : H a = some (.lst vs)) (ei : vs[i]? = some (.ref b)) (f : H b = some (.lst us)) (fj : us[j]? = some (.ref a)) : ∀ (m : Nat) (d : D), sizeOf d < m → ¬ Rep W H Vt (.ref a) d
  | 0, _, h => absurd h (Nat.not_lt_zero _)
  | m + 1, d, h => fun r => by
    cases r with
    | @lst _ us1 ds t e1 _ _ _ q =>
      rw [e] at e1; cases e1
      obtain ⟨d', h1, h2⟩ := q.get ei
      have s1 := List.sizeOf_lt_of_mem (List.mem_of_getElem? h1)
      cases h2 with
      | @lst _ us2 ds2 t2 e2 _ _ _ q2 =>
        rw [f] at e2; cases e2
        obtain ⟨d'', h3, h4⟩ := q2.get fj
        have s2 := List.sizeOf_lt_of_mem (List.mem_of_getElem? h3)
        exact no_self2 nv nb e ei f fj m d'' (by simp at h s1; omega) h4
      | tup e1 _ _ _ => rw [f] at e1; cases e1
      | dic e1 _ _ _ _ => rw [f] at e1; cases e1
      | pur h5 => exact nb h5
    | tup e1 _ _ _ => rw [e] at e1; cases e1
    | dic e1 _ _ _ _ => rw [e] at e1; cases e1
    | pur h1 => exact nv h1
end
/-- the heap behind some changes: H before all, H1 when they began, m how many there were at most -/
structure OI (H H1 : Hp) (V1 : Addr → Prop) (root : Addr) (m : Nat) (H' : Hp) : Prop where
  old : ∀ a, H a ≠ none → H' a = H1 a
  pur : ∀ a, V1 a → H' a = H1 a
  lst : ∀ a vs, H1 a = some (.lst vs) → ∃ vs', H' a = some (.lst vs') ∧ vs'.length ≤ vs.length + m
  dom : ∀ a, H1 a ≠ none → H' a ≠ none
  root : H' root = H1 root
section
variable {H H1 H' : Hp} {V1 : Addr → Prop} {root : Addr} {m : Nat}
theorem OI.refl : OI H H1 V1 root 0 H1 := ⟨fun _ _ => rfl, fun _ _ => rfl, fun a vs e => ⟨vs, e, Nat.le_refl _⟩, fun _ e => e, rfl⟩
theorem OI.le {k : Nat} (o : OI H H1 V1 root m H') (h : m ≤ k) : OI H H1 V1 root k H' := ⟨o.old, o.pur, fun a vs e => let ⟨vs', h1, h2⟩ := o.lst a vs e; ⟨vs', h1, by omega⟩, o.dom, o.root⟩
/-- a list gets one more -/
theorem OI.ins (o : OI H H1 V1 root m H') {b : Addr} {us us' : List V} {ws : List V} (h1 : H1 b = some (.lst ws)) (h0 : H b = none) (nv : ¬ V1 b) (ne : b ≠ root) (e : H' b = some (.lst us)) (hl : us'.length = us.length + 1) : OI H H1 V1 root (m + 1) (upd H' b (.lst us')) where
  old := fun a z => by rw [upd_ne (show a ≠ b from fun q => z (q ▸ h0))]; exact o.old a z
  pur := fun a z => by rw [upd_ne (show a ≠ b from fun q => nv (q ▸ z))]; exact o.pur a z
  lst := fun a vs ea => by
    obtain ⟨vs', e1, e2⟩ := o.lst a vs ea
    by_cases q : a = b
    · subst q
      rw [e] at e1; cases e1
      exact ⟨us', by rw [upd_same], by omega⟩
    · exact ⟨vs', by rw [upd_ne q]; exact e1, by omega⟩
  dom := fun a z => by
    by_cases q : a = b
    · rw [q, upd_same]; simp
    · rw [upd_ne q]; exact o.dom a z
  root := by rw [upd_ne (Ne.symm ne)]; exact o.root
/-- something new -/
theorem OI.new (o : OI H H1 V1 root m H') (hd : ∀ a, H a ≠ none → H1 a ≠ none) (hp : ∀ a, V1 a → H1 a ≠ none) (hr : H1 root ≠ none) {p : Addr} {u : HO} (h : H' p = none) : OI H H1 V1 root m (upd H' p u) := by
  have n1 : H1 p = none := by
    cases q : H1 p with
    | none => rfl
    | some x => exact absurd h (o.dom p (by rw [q]; simp))
  refine ⟨fun a z => ?_, fun a z => ?_, fun a vs ea => ?_, fun a z => ?_, ?_⟩
  · rw [upd_ne (show a ≠ p from fun q => hd a z (q ▸ n1))]; exact o.old a z
  · rw [upd_ne (show a ≠ p from fun q => hp a z (q ▸ n1))]; exact o.pur a z
  · obtain ⟨vs', e1, e2⟩ := o.lst a vs ea
    exact ⟨vs', by rw [upd_ne (show a ≠ p from fun q => by rw [q, n1] at ea; cases ea)]; exact e1, e2⟩
  · by_cases q : a = p
    · rw [q, upd_same]; simp
    · rw [upd_ne q]; exact o.dom a z
  · rw [upd_ne (show root ≠ p from fun q => hr (q ▸ n1))]; exact o.root
end
/-! ### the small things put in -/
def Lt.ck : Lt → Expr → Bool
  | .int i, .Constant (.int j) _ _ => decide (j = i)
  | .str s, .Constant (.str t) _ _ => decide (t = s)
  | .nil, .List [] _ => true
  | _, _ => false
def tLt : Lt → TE
  | .int i => tC (.int i)
  | .str s => tC (.str s)
  | .nil => tLst tNil
theorem pe_lt {X : Cx} {l : Lt} {e : Expr} (h : l.ck e = true) : PE X e (tLt l) := by
  unfold Lt.ck at h
  split at h
  · cases of_decide_eq_true h; exact pe_int
  · cases of_decide_eq_true h; exact pe_str
  · exact pe_lst pa_nil
  · cases h
/-- o.insert(0, l) -/
def tIn (K : PySem.W.Frag) (to : TE) (l : Lt) : TS := tDrop (tBM K "list" rInsert to (tCons (tC (.int 0)) (tCons (tLt l) tNil)))
section
variable {Γ : Ga} {sc : Scope} {fnk : Str → Bool}
theorem ps_in {X : Cx} {o e : Expr} {to : TE} {l : Lt} {apos cpos pos p0 : Pos} {k0 : Nat} (ho : PE X o to) (hl : l.ck e = true) (hline : (apos.endLine == cpos.line) = true) (hb : ∀ env : Env, attributeBase o "insert" env (eval o env) = eval o env) :
    PS X (.Expr (.Call (.Attribute o "insert" apos) [.Constant (.int 0) k0 p0, e] [] cpos) pos) (tIn X.K to l) := by
  have hn : ([.Constant (.int 0) k0 p0, e] : List Expr).all noStar = true := by
    unfold Lt.ck at hl
    split at hl <;> first | rfl | cases hl
  have hne : noStar e = true := by
    have := hn
    simp at this; exact this.2
  have hn' : noStar (.Constant (.int 0) k0 p0) = true ∧ ([e] : List Expr).all noStar = true := ⟨rfl, by simpa using hne⟩
  refine ps_expr ?_ rfl
  have hfew : ((backTo cpos (starEach [.Constant (.int 0) k0 p0, e] X.env)).all (fun x => !x.1) && (backToKw cpos (keywordEach [] X.env)).all (fun x => x.1.isSome)
      && decide (([.Constant (.int 0) k0 p0, e] : List Expr).length + ([] : List Keyword).length + (if ([] : List Keyword).isEmpty then 0 else 1) < 30)) = true := by
    have h1 : (backTo cpos (starEach [.Constant (.int 0) k0 p0, e] X.env)).all (fun x => !x.1) = true := by
      have := star_any (es := [.Constant (.int 0) k0 p0, e]) cpos X.env hn
      rw [List.any_eq_false] at this
      exact List.all_eq_true.mpr fun q hq => by simpa using this q hq
    rw [h1]; rfl
  exact pe_bm (X := X) PySem.F.plainAttrs_list PySem.F.slot_list_insert PySem.F.type_list_insert mt_insert ho (pa_cons pe_int (pa_cons (pe_lt hl) pa_nil (star_cons hne _)) (star_cons rfl _)) (hb _) hfew hline (star_cons rfl _) (star_any _ _ hn'.2)
/-- what it does -/
theorem tIn_sem {K : PySem.W.Frag} {to : TE} {l : Lt} {D : Ends} {σ : L2.St} {H' : Hp} {b : Addr} {us : List V} (hto : ∀ Q : VK, Q (.ref b) H' → to σ H' Q) (e : H' b = some (.lst us)) (hl : us.length < sizeLine)
    (hn : ∀ (H'' : Hp) (y : V), (H'' = H' ∨ ∃ p o, H' p = none ∧ H'' = upd H' p o) → D.nx σ (upd H'' b (.lst (y :: us)))) : tIn K to l D σ H' := by
  refine hto _ ⟨.inl ⟨rfl, _, SqL.of e⟩, ?_⟩
  have fin : ∀ (H'' : Hp) (y : V), (H'' = H' ∨ ∃ p o, H' p = none ∧ H'' = upd H' p o) → rInsert (.ref b) [.int 0, y] H'' fun _ H2 => D.nx σ H2 := fun H'' y h => by
    refine ⟨b, us, 0, y, rfl, rfl, ?_, hl, by omega, by omega, hn H'' y h⟩
    rcases h with rfl | ⟨p, o, hp, rfl⟩
    · exact e
    · rw [upd_ne (ne_of_none e hp)]; exact e
  cases l with
  | int i => exact fin H' _ (.inl rfl)
  | str s => exact fin H' _ (.inl rfl)
  | nil => exact ⟨by simp, fun p hp => fin _ _ (.inr ⟨p, _, hp, rfl⟩)⟩
end
/-- before the changes -/
structure OP (W1 : Wd) (H H1 : Hp) (V1 : Addr → Prop) (root : Addr) (vs : List V) (ds : List D) : Prop where
  old : ∀ a, ¬ W1.old a → H a = none
  hd : ∀ a, H a ≠ none → H1 a ≠ none
  hp : ∀ a, V1 a → H1 a ≠ none
  nv : ¬ V1 root
  e : H1 root = some (.lst vs)
  r : Reps W1 H1 V1 vs ds
  fr : D.freshs ds = true
theorem freshs_mem : ∀ {ds : List D} {d : D}, D.freshs ds = true → d ∈ ds → d.fresh = true
  | [], _, _, m => by cases m
  | x :: ds, d, h, m => by
    rw [D.freshs, Bool.and_eq_true] at h
    rcases List.mem_cons.mp m with rfl | m
    · exact h.1
    · exact freshs_mem h.2 m
/-- a list within: it is young, not the whole -/
theorem list_in {W1 : Wd} {H H1 : Hp} {V1 : Addr → Prop} (old : ∀ a, ¬ W1.old a → H a = none) {v : V} {d : D} {m : Nat} (r : Rep W1 H1 V1 v d) (f : d.fresh = true) (h : d.lstLe m = true) : ∃ b ws, v = .ref b ∧ H1 b = some (.lst ws) ∧ H b = none ∧ ¬ V1 b ∧ ws.length ≤ m ∧ ∃ t ds, d = .lst t ds ∧ Reps W1 H1 V1 ws ds ∧ D.freshs ds = true := by
  cases r with
  | @lst a us ds t e _ nv hy q =>
    have h : us.length ≤ m := by rw [q.length]; exact of_decide_eq_true h
    have f : (t && D.freshs ds) = true := f
    rw [Bool.and_eq_true] at f
    exact ⟨a, us, rfl, e, old a (hy f.1), nv, h, t, ds, rfl, q, f.2⟩
  | _ => cases h
def opCk (C : CkD) (sc : Scope) (fnk : Str → Bool) (j : Nat) (op : Op) (st : Stmt) : Bool :=
  match op, st with
  | .ins c l, .Expr (.Call (.Attribute (.Subscript (.Name y _) (.Constant (.int c') _ _) _) name apos) [.Constant (.int z) _ _, e] [] cpos) _ =>
    nameOk C sc j y && decide (c' = (c : Int)) && decide (name = ("insert" : Str)) && decide (z = 0) && (apos.endLine == cpos.line) && l.ck e
  | .each c skip x l, .For (.Name nx _) iter body [] _ => nameOk C sc x nx && locB sc fnk nx &&
    (match c, iter with
    | none, .Name y _ => nameOk C sc j y
    | some c, .Subscript (.Name y _) (.Constant (.int c') _ _) _ => nameOk C sc j y && decide (c' = (c : Int))
    | _, _ => false) &&
    (match skip, body with
    | false, [.Expr (.Call (.Attribute (.Name nx' _) name apos) [.Constant (.int z) _ _, e] [] cpos) _] => decide (nx' = nx) && decide (name = ("insert" : Str)) && decide (z = 0) && (apos.endLine == cpos.line) && l.ck e
    | true, [.If (.Compare (.Name nx2 _) [.IsNot] [.Constant .none _ _] _) [.Expr (.Call (.Attribute (.Name nx' _) name apos) [.Constant (.int z) _ _, e] [] cpos) _] [] _] => decide (nx2 = nx) && decide (nx' = nx) && decide (name = ("insert" : Str)) && decide (z = 0) && (apos.endLine == cpos.line) && l.ck e
    | _, _ => false)
  | _, _ => false
/-- what a change does: the heap is such a one behind it -/
def OpS (len j : Nat) (op : Op) (t : TS) : Prop := ∀ (W1 : Wd) (H H1 : Hp) (V1 : Addr → Prop) (root : Addr) (vs : List V) (ds : List D) (m : Nat) (H' : Hp) (σ : L2.St) (D : Ends), σ.length = len → OP W1 H H1 V1 root vs ds → H root = none → opK ds op = true → σ[j]? = some (some (.ref root)) → OI H H1 V1 root m H' → m ≤ 1000000 + 100 →
  (op.isIns = true ∨ (m = 0 ∧ H' = H1)) → (∀ (σ' : L2.St) (H'' : Hp) (m' : Nat), (∀ k : Nat, (∀ c s x l, op = .each c s x l → k ≠ x) → σ'[k]? = σ[k]?) → σ'.length = σ.length → OI H H1 V1 root m' H'' → (m' ≤ m + 1 ∨ m' ≤ 1000000) → D.nx σ' H'') → t D σ H'
section
variable {Γ : Ga} {C : CkD} (hC : C.Of Γ) {sc : Scope} {fnk : Str → Bool}
include hC
theorem op_ins {j c : Nat} {l : Lt} {st : Stmt} (h : opCk C sc fnk j (.ins c l) st = true) : ∃ t : XK → TS, (∀ E X, GoodS Γ sc fnk E X → PS X st (t E)) ∧ ∀ E, OpS Γ.N.length j (.ins c l) (t E) := by
  unfold opCk at h
  split at h
  · rename_i c l y py c' k pk sp name apos z k0 p0 e cpos pos heq
    cases heq
    simp only [Bool.and_eq_true, decide_eq_true_eq] at h
    obtain ⟨⟨⟨⟨⟨h1, rfl⟩, rfl⟩, rfl⟩, h5⟩, h6⟩ := h
    obtain ⟨n1, n2, n3, n4⟩ := nameOk_of hC h1
    refine ⟨fun E => tIn Γ.K (tOp (rIx Γ.K) (tVar j) (tC (.int (c : Int)))) l, fun E X g => ?_, fun E => ?_⟩
    · rw [← g.K]
      exact ps_in (pe_ix ix_seq (pe_var (by rw [g.N]; exact n1) (by rw [g.sc]; exact vis_of n2) n3 n4) pe_int (plainIx_of rfl)) h6 h5 (fun _ => rfl)
    · intro W1 H H1 V1 root vs ds m H' σ D hlen op h0 hk hj oi hm _ nx
      have hk : (match ds[c]? with | some d => d.lstLe 1000000 | none => false) = true := hk
      cases hd : ds[c]? with
      | none => rw [hd] at hk; cases hk
      | some d =>
        rw [hd] at hk
        obtain ⟨v, hv, rv⟩ := op.r.get' hd
        obtain ⟨b, ws, rfl, e1, e2, e3, e4, _⟩ := list_in op.old rv (freshs_mem op.fr (List.mem_of_getElem? hd)) hk
        have ne : b ≠ root := fun z => by subst z; exact no_self op.nv op.e hv _ d (Nat.lt_succ_self _) rv
        obtain ⟨us, f1, f2⟩ := oi.lst b ws e1
        refine tIn_sem (b := b) (us := us) (fun Q q => ⟨_, hj, .inl ⟨root, vs, c, .ref b, rfl, rfl, SqL.of (by rw [oi.root]; exact op.e), atI_of rfl hv, q⟩⟩) f1 (by have : sizeLine = 16777216 := rfl; omega) fun H'' y hh => ?_
        refine nx σ _ (m + 1) (fun _ _ => rfl) rfl ?_ (.inl (Nat.le_refl _))
        rcases hh with rfl | ⟨p, o, hp, rfl⟩
        · exact oi.ins e1 e2 e3 ne f1 rfl
        · exact (oi.new op.hd op.hp (by rw [op.e]; simp) hp).ins e1 e2 e3 ne (by rw [upd_ne (ne_of_none f1 hp)]; exact f1) rfl
  · rename_i heq; cases heq
  · cases h
omit hC in
/-- one after the other of a list's items gets one more -/
theorem each_sem {K : PySem.W.Frag} {x : Nat} {tb : TS} {skip : Bool} (htb : ∀ (Dn : Ends) (σ : L2.St) (H' : Hp) (v : V), σ[x]? = some (some v) → (skip = true ∧ v = .non ∧ Dn.nx σ H' ∨ ∃ b us, v = .ref b ∧ H' b = some (.lst us) ∧ us.length < sizeLine ∧ ∀ (H'' : Hp) (y : V), (H'' = H' ∨ ∃ p o, H' p = none ∧ H'' = upd H' p o) → Dn.nx σ (upd H'' b (.lst (y :: us)))) → tb Dn σ H')
    {W1 : Wd} {H H1 : Hp} {V1 : Addr → Prop} {root a : Addr} {vs items : List V} {ds es : List D} {σ : L2.St} {Dn : Ends} (op : OP W1 H H1 V1 root vs ds) (ea : H1 a = some (.lst items)) (re : Reps W1 H1 V1 items es) (fe : D.freshs es = true) (hl : es.length ≤ 1000000) (hes : (es.all fun d => d.lstLe 1000000 || (skip && d.isNon)) = true)
    (na : ∀ (i : Nat) (b : Addr) (d : D), items[i]? = some (.ref b) → Rep W1 H1 V1 (.ref b) d → b ≠ a ∧ b ≠ root) (hx : x < σ.length)
    (nx : ∀ (σ' : L2.St) (H'' : Hp) (m' : Nat), (∀ k : Nat, k ≠ x → σ'[k]? = σ[k]?) → σ'.length = σ.length → OI H H1 V1 root m' H'' → m' ≤ 1000000 → Dn.nx σ' H'') :
    ∃ W : Nat → Nat → L2.St → Hp → Prop, (∃ m, W 0 m σ H1) ∧ ∀ i m σ H, W i m σ H →
      ((Itl K a).stop i H ∧ Dn.nx σ H) ∨ ((Itl K a).go i H ∧ ∃ N : L2.St → Hp → Prop, (∀ σ' H', N σ' H' → ∃ m', m' < m ∧ W (i + 1) m' σ' H') ∧ ∀ y H', (Itl K a).yld i H y H' → gName x y σ H' fun σ2 H2 => tb { Dn with nx := N, ct := N, bk := Dn.nx } σ2 H2) := by
  refine for_it (walk_list (K := K) (a := a) (xs := items)) (fun i σ' Hc => σ'.length = σ.length ∧ (∀ k : Nat, k ≠ x → σ'[k]? = σ[k]?) ∧ OI H H1 V1 root i Hc ∧ Hc a = some (.lst items)) ⟨rfl, fun _ _ => rfl, .refl, ea⟩ (fun i σ' Hc _ h => SqL.of h.2.2.2) ?_ ?_
  · rintro i y σ' Hc Hc' hi ⟨h1, h2, h3, h4⟩ ⟨e1, e2⟩
    subst e1
    obtain ⟨d, hd, rd⟩ := re.get e2
    have hm := List.mem_of_getElem? hd
    have fd := freshs_mem fe hm
    have hk : (d.lstLe 1000000 || (skip && d.isNon)) = true := List.all_eq_true.mp hes d hm
    have hlen : items.length ≤ 1000000 := by rw [re.length]; exact hl
    have hs2 : ∀ k : Nat, k ≠ x → (σ'.set x (some y))[k]? = σ[k]? := fun k hk => by rw [List.getElem?_set_ne (Ne.symm hk)]; exact h2 k hk
    refine htb _ _ _ y (by rw [List.getElem?_set_self (by omega)]) ?_
    by_cases hc : d.lstLe 1000000 = true
    · obtain ⟨b, ws, rfl, f1, f2, f3, f4, _⟩ := list_in op.old rd fd hc
      obtain ⟨n1, n2⟩ := na i b d e2 rd
      obtain ⟨us, g1, g2⟩ := h3.lst b ws f1
      refine .inr ⟨b, us, rfl, g1, by have : sizeLine = 16777216 := rfl; omega, fun H'' y hh => ?_⟩
      show _ ∧ _
      refine ⟨by rw [List.length_set]; exact h1, hs2, ?_, ?_⟩
      · rcases hh with rfl | ⟨p, o, hp, rfl⟩
        · exact h3.ins f1 f2 f3 n2 g1 rfl
        · exact (h3.new op.hd op.hp (by rw [op.e]; simp) hp).ins f1 f2 f3 n2 (by rw [upd_ne (ne_of_none g1 hp)]; exact g1) rfl
      · rw [upd_ne (Ne.symm n1)]
        rcases hh with rfl | ⟨p, o, hp, rfl⟩
        · exact h4
        · rw [upd_ne (ne_of_none h4 hp)]; exact h4
    · rw [Bool.or_eq_true] at hk
      rcases hk with hk | hk
      · exact absurd hk hc
      · rw [Bool.and_eq_true] at hk
        cases d with
        | non =>
          cases rd
          refine .inl ⟨hk.1, rfl, ?_⟩
          show _ ∧ _
          exact ⟨by rw [List.length_set]; exact h1, hs2, h3.le (Nat.le_succ _), h4⟩
        | _ => cases hk.2
  · rintro σ' Hc ⟨h1, h2, h3, h4⟩
    exact nx σ' Hc items.length h2 h1 h3 (by rw [re.length]; exact hl)
omit hC in
/-- the body of such a loop -/
theorem body_in {x : Nat} {nx : Str} {skip : Bool} {l : Lt} {body : List Stmt} (n1 : Γ.N[x]? = some nx) (n2 : vis sc nx = true) (n3 : (nx == ("__debug__" : Str)) = false) (n4 : (nx == ("__classdict__" : Str)) = false)
    (h : (match skip, body with
    | false, [.Expr (.Call (.Attribute (.Name nx' _) name apos) [.Constant (.int z) _ _, e] [] cpos) _] => decide (nx' = nx) && decide (name = ("insert" : Str)) && decide (z = 0) && (apos.endLine == cpos.line) && l.ck e
    | true, [.If (.Compare (.Name nx2 _) [.IsNot] [.Constant .none _ _] _) [.Expr (.Call (.Attribute (.Name nx' _) name apos) [.Constant (.int z) _ _, e] [] cpos) _] [] _] => decide (nx2 = nx) && decide (nx' = nx) && decide (name = ("insert" : Str)) && decide (z = 0) && (apos.endLine == cpos.line) && l.ck e
    | _, _ => false) = true) :
    ∃ tb : TS, (∀ E X, GoodS Γ sc fnk E X → PSs X body tb) ∧ ∀ (Dn : Ends) (σ : L2.St) (H' : Hp) (v : V), σ[x]? = some (some v) → (skip = true ∧ v = .non ∧ Dn.nx σ H' ∨ ∃ b us, v = .ref b ∧ H' b = some (.lst us) ∧ us.length < sizeLine ∧ ∀ (H'' : Hp) (y : V), (H'' = H' ∨ ∃ p o, H' p = none ∧ H'' = upd H' p o) → Dn.nx σ (upd H'' b (.lst (y :: us)))) → tb Dn σ H' := by
  split at h
  · simp only [Bool.and_eq_true, decide_eq_true_eq] at h
    obtain ⟨⟨⟨⟨rfl, rfl⟩, rfl⟩, h5⟩, h6⟩ := h
    refine ⟨tIn Γ.K (tVar x) l, fun E X g => ?_, fun Dn σ H' v hv q => ?_⟩
    · rw [← g.K]
      exact pss_one (ps_in (pe_var (by rw [g.N]; exact n1) (by rw [g.sc]; exact vis_of n2) n3 n4) h6 h5 (fun _ => rfl))
    · rcases q with ⟨z, _⟩ | ⟨b, us, rfl, e, hl, nx⟩
      · cases z
      · exact tIn_sem (fun Q q => ⟨_, hv, q⟩) e hl nx
  · simp only [Bool.and_eq_true, decide_eq_true_eq] at h
    obtain ⟨⟨⟨⟨⟨rfl, rfl⟩, rfl⟩, rfl⟩, h5⟩, h6⟩ := h
    refine ⟨tIfS (tB (tNotN (tVar x))) (tIn Γ.K (tVar x) l) tNext, fun E X g => ?_, fun Dn σ H' v hv q => ?_⟩
    · rw [← g.K]
      exact pss_one (ps_if (pt_cmp (pc_notN (pe_var (by rw [g.N]; exact n1) (by rw [g.sc]; exact vis_of n2) n3 n4))) (pss_one (ps_in (pe_var (by rw [g.N]; exact n1) (by rw [g.sc]; exact vis_of n2) n3 n4) h6 h5 (fun _ => rfl))) pss_nil)
    · refine ⟨_, hv, _, rfl, ?_⟩
      rcases q with ⟨_, rfl, nx⟩ | ⟨b, us, rfl, e, hl, nx⟩
      · simp only [decide_true, Bool.not_true, Bool.false_eq_true, if_false]
        exact nx
      · simp only [reduceCtorEq, decide_false, Bool.not_false, if_true]
        exact tIn_sem (fun Q q => ⟨_, hv, q⟩) e hl nx
  · cases h
theorem op_each {j x : Nat} {c : Option Nat} {skip : Bool} {l : Lt} {st : Stmt} (hx : x < Γ.N.length) (h : opCk C sc fnk j (.each c skip x l) st = true) : ∃ t : XK → TS, (∀ E X, GoodS Γ sc fnk E X → PS X st (t E)) ∧ ∀ E, OpS Γ.N.length j (.each c skip x l) (t E) := by
  unfold opCk at h
  split at h
  · rename_i heq; cases heq
  · rename_i c skip x l nx pnx iter body pos heq
    cases heq
    simp only [Bool.and_eq_true] at h
    obtain ⟨⟨⟨h1, h2⟩, h3⟩, h4⟩ := h
    obtain ⟨n1, n2, n3, n4⟩ := nameOk_of hC h1
    obtain ⟨tb, pb, sb⟩ := body_in n1 n2 n3 n4 h4
    split at h3
    · rename_i y py
      obtain ⟨m1, m2, m3, m4⟩ := nameOk_of hC h3
      refine ⟨fun E => tFor (iSeqA Γ.K (tVar j)) (gName x) tb, fun E X g => ?_, fun E => ?_⟩
      · obtain ⟨l1, l2⟩ := loc_of g.toGood h2
        rw [← g.K]
        exact ps_for g.owns g.calm (pi_seqA (pe_var (by rw [g.N]; exact m1) (by rw [g.sc]; exact vis_of m2) m3 m4)) (pg_name g.nd (by rw [g.N]; exact n1) l1 l2) (pb E X g)
      · intro W1 H H1 V1 root vs ds m H' σ Dn hlen op h0 hk hj oi hm hor nxt
        rcases hor with z | ⟨rfl, rfl⟩
        · cases z
        have hk : (decide (ds.length ≤ 1000000) && ds.all fun d => d.lstLe 1000000 || (skip && d.isNon)) = true := hk
        rw [Bool.and_eq_true, decide_eq_true_eq] at hk
        refine ⟨_, hj, root, rfl, .inl ⟨vs, SqL.of op.e, ?_⟩⟩
        refine each_sem sb op op.e op.r op.fr hk.1 hk.2 (fun i b d e r => ?_) (by omega) fun σ' H'' m' q1 q2 q3 q4 => nxt σ' H'' m' (fun k hk => q1 k (hk _ _ _ _ rfl)) q2 q3 (.inr q4)
        have : b ≠ root := fun z => by subst z; exact no_self op.nv op.e e _ d (Nat.lt_succ_self _) r
        exact ⟨this, this⟩
    · rename_i c y py c' k pc sp
      rw [Bool.and_eq_true, decide_eq_true_eq] at h3
      obtain ⟨h3, rfl⟩ := h3
      obtain ⟨m1, m2, m3, m4⟩ := nameOk_of hC h3
      refine ⟨fun E => tFor (iSeqA Γ.K (tOp (rIx Γ.K) (tVar j) (tC (.int (c : Int))))) (gName x) tb, fun E X g => ?_, fun E => ?_⟩
      · obtain ⟨l1, l2⟩ := loc_of g.toGood h2
        rw [← g.K]
        exact ps_for g.owns g.calm (pi_seqA (pe_ix ix_seq (pe_var (by rw [g.N]; exact m1) (by rw [g.sc]; exact vis_of m2) m3 m4) pe_int (plainIx_of rfl))) (pg_name g.nd (by rw [g.N]; exact n1) l1 l2) (pb E X g)
      · intro W1 H H1 V1 root vs ds m H' σ Dn hlen op h0 hk hj oi hm hor nxt
        rcases hor with z | ⟨rfl, rfl⟩
        · cases z
        have hk : (match ds[c]? with | some (.lst _ es) => decide (es.length ≤ 1000000) && es.all fun d => d.lstLe 1000000 || (skip && d.isNon) | _ => false) = true := hk
        cases hd : ds[c]? with
        | none => rw [hd] at hk; cases hk
        | some d =>
          rw [hd] at hk
          cases d with
          | lst t es =>
            have hk : (decide (es.length ≤ 1000000) && es.all fun d => d.lstLe 1000000 || (skip && d.isNon)) = true := hk
            rw [Bool.and_eq_true, decide_eq_true_eq] at hk
            obtain ⟨v, hv, rv⟩ := op.r.get' hd
            obtain ⟨b, ws, rfl, e1, e2, e3, e4, t2, es2, ee, re, fe⟩ := list_in op.old rv (freshs_mem op.fr (List.mem_of_getElem? hd)) (m := 1000000) (decide_eq_true hk.1)
            cases ee
            have ne : b ≠ root := fun z => by subst z; exact no_self op.nv op.e hv _ _ (Nat.lt_succ_self _) rv
            refine ⟨_, hj, .inl ⟨root, vs, c, .ref b, rfl, rfl, SqL.of op.e, atI_of rfl hv, b, rfl, .inl ⟨ws, SqL.of e1, ?_⟩⟩⟩
            refine each_sem sb op e1 re fe hk.1 hk.2 (fun i b2 d e r => ⟨fun z => ?_, fun z => ?_⟩) (by omega) fun σ' H'' m' q1 q2 q3 q4 => nxt σ' H'' m' (fun k hk => q1 k (hk _ _ _ _ rfl)) q2 q3 (.inr q4)
            · subst z; exact no_self e3 e1 e _ d (Nat.lt_succ_self _) r
            · subst z; exact no_self2 op.nv e3 op.e hv e1 e _ d (Nat.lt_succ_self _) r
          | _ => cases hk
    · cases h3
  · cases h
end
def opsCk (C : CkD) (sc : Scope) (fnk : Str → Bool) (j : Nat) : List Op → List Stmt → Bool
  | [], [] => true
  | o :: os, st :: ss => opCk C sc fnk j o st && (o.var.all fun x => decide (x < C.N.length) && decide (x ≠ j)) && opsCk C sc fnk j os ss
  | _, _ => false
section
variable {Γ : Ga} {C : CkD} (hC : C.Of Γ) {sc : Scope} {fnk : Str → Bool}
include hC
theorem op_ok {j : Nat} {op : Op} {st : Stmt} (h : opCk C sc fnk j op st = true) (hx : ∀ x ∈ op.var, x < Γ.N.length) : ∃ t : XK → TS, (∀ E X, GoodS Γ sc fnk E X → PS X st (t E)) ∧ ∀ E, OpS Γ.N.length j op (t E) := by
  cases op with
  | ins c l => exact op_ins hC h
  | each c skip x l => exact op_each hC (hx x (List.mem_singleton_self _)) h
/-- the changes, and what follows -/
theorem ops_app {j : Nat} {sr : List Stmt} {u : XK → TS} (pu : ∀ E X, GoodS Γ sc fnk E X → PSs X sr (u E)) : ∀ (ops : List Op) (so : List Stmt), opsCk C sc fnk j ops so = true →
    ∃ t : XK → TS, (∀ E X, GoodS Γ sc fnk E X → PSs X (so ++ sr) (t E)) ∧ ∀ (E : XK) (W1 : Wd) (H H1 : Hp) (V1 : Addr → Prop) (root : Addr) (vs : List V) (ds : List D) (m : Nat) (H' : Hp) (σ : L2.St) (Dn : Ends), σ.length = Γ.N.length → OP W1 H H1 V1 root vs ds → H root = none → ops.all (opK ds) = true → (ops.drop 1).all Op.isIns = true →
      (ops.all Op.isIns = true ∨ (m = 0 ∧ H' = H1)) → m + ops.length ≤ 1000100 → ops.length ≤ 100 → σ[j]? = some (some (.ref root)) → OI H H1 V1 root m H' →
      (∀ (σ' : L2.St) (H'' : Hp) (m' : Nat), (∀ k : Nat, k ∉ ops.flatMap Op.var → σ'[k]? = σ[k]?) → σ'.length = σ.length → OI H H1 V1 root m' H'' → u E Dn σ' H'') → t E Dn σ H'
  | [], [], _ => ⟨u, pu, fun E W1 H H1 V1 root vs ds m H' σ Dn _ _ _ _ _ _ _ _ _ oi nx => nx σ H' m (fun _ _ => rfl) rfl oi⟩
  | [], _ :: _, h => by cases h
  | _ :: _, [], h => by cases h
  | o :: os, st :: ss, h => by
    unfold opsCk at h
    rw [Bool.and_eq_true, Bool.and_eq_true] at h
    obtain ⟨⟨h1, h2⟩, h3⟩ := h
    have hv : ∀ x ∈ o.var, x < Γ.N.length ∧ x ≠ j := fun x m => by
      have := List.all_eq_true.mp h2 x m
      rw [Bool.and_eq_true, decide_eq_true_eq, decide_eq_true_eq] at this
      rw [hC.1]; exact this
    obtain ⟨t1, p1, s1⟩ := op_ok hC h1 fun x m => (hv x m).1
    obtain ⟨t2, p2, s2⟩ := ops_app pu os ss h3
    refine ⟨fun E => tSeq (t1 E) (t2 E), fun E X g => pss_cons (p1 E X g) (p2 E X g), fun E W1 H H1 V1 root vs ds m H' σ Dn hl op h0 hk hd hor hm hlen hj oi nx => ?_⟩
    rw [List.all_cons, Bool.and_eq_true] at hk
    rw [List.length_cons] at hm hlen
    refine s1 E W1 H H1 V1 root vs ds m H' σ _ hl op h0 hk.1 hj oi (by omega) ?_ fun σ' H'' m' q1 q2 q3 q4 => ?_
    · rcases hor with z | z
      · rw [List.all_cons, Bool.and_eq_true] at z; exact .inl z.1
      · exact .inr z
    · have q1' : ∀ k : Nat, k ∉ o.var → σ'[k]? = σ[k]? := fun k hk => q1 k fun c s x l e z => by subst e; subst z; exact hk (List.mem_singleton_self _)
      refine s2 E W1 H H1 V1 root vs ds m' H'' σ' Dn (q2.trans hl) op h0 hk.2 ?_ (.inl hd) (by omega) (by omega) ?_ q3 fun σ2 H2 m2 r1 r2 r3 => nx σ2 H2 m2 (fun k hk => ?_) (r2.trans q2) r3
      · exact List.all_eq_true.mpr fun x hx => List.all_eq_true.mp hd x (List.mem_of_mem_drop hx)
      · rw [q1' j fun z => (hv j z).2 rfl]; exact hj
      · rw [List.flatMap_cons, List.mem_append, not_or] at hk
        rw [r1 k hk.2, q1' k hk.1]
end
/-! ### a block, and what follows -/
def blkK (C : CkD) (n : Nat) (sc : Scope) (fnk : Str → Bool) : Sm → List Stmt → Bool
  | .snil, sts => (match sts with | [] => true | _ => false)
  | .scons s s2, sts => (match sts with | st :: ss => scK C n sc fnk (.s st s) && blkK C n sc fnk s2 ss | [] => false)
  | .frz i s, sts => !C.fx.contains i && blkK C n sc fnk s sts
  | _, _ => false
theorem blk_app {Γ : Ga} {C : CkD} (hC : C.Of Γ) {sc : Scope} {fnk : Str → Bool} {N : Nat} {sb : List Stmt} {u : XK → TS} (pu : ∀ E X, GoodS Γ sc fnk E X → PSs X sb (u E)) : ∀ (a : Sm) (sa : List Stmt), blkK C N sc fnk a sa = true →
    ∃ t : XK → TS, (∀ E X, GoodS Γ sc fnk E X → PSs X (sa ++ sb) (t E)) ∧ ∀ B W H Vt n σ ρ E R K Dn, Bd Γ B W H Vt n σ ρ → EOk Γ B E R → wpS Γ.Ψ R a ρ n K → KOk Γ B K { Dn with nx := u E Dn } → t E Dn σ H
  | .snil, sts, h => by
    unfold blkK at h
    split at h
    · refine ⟨u, pu, fun B W H Vt n σ ρ E R K Dn b x w k => ?_⟩
      unfold wpS at w
      exact k.nx _ _ _ _ _ _ b w
    · cases h
  | .scons s s2, sts, h => by
    unfold blkK at h
    split at h
    · rename_i st ss
      rw [Bool.and_eq_true] at h
      obtain ⟨t1, p1, s1⟩ := scK_ok hC N _ _ _ h.1
      obtain ⟨t2, p2, s2'⟩ := blk_app hC pu s2 ss h.2
      refine ⟨fun E => tSeq (t1 E) (t2 E), fun E X g => pss_cons (p1 E X g) (p2 E X g), fun B W H Vt n σ ρ E R K Dn b x w k => ?_⟩
      unfold wpS at w
      exact s1 B W H Vt n σ ρ E R _ _ b x w ⟨fun W H Vt n σ ρ b' w' => s2' B W H Vt n σ ρ E R K Dn b' x w' k, k.rt, k.bk, k.ct⟩
    · cases h
  | .frz i s, sts, h => by
    unfold blkK at h
    rw [Bool.and_eq_true, Bool.not_eq_true'] at h
    have hi' : i ∉ Γ.fx := fun z => by
      have := fxC hC h.1
      rw [List.contains_iff_mem.mpr z] at this; cases this
    obtain ⟨t, p, s'⟩ := blk_app hC pu s sts h.2
    refine ⟨t, p, fun B W H Vt n σ ρ E R K Dn b x w k => ?_⟩
    unfold wpS at w
    cases e : ρ.getD i .dead with
    | dead => rw [e] at w; exact w.elim
    | bor d => rw [e] at w; exact w.elim
    | dp d => rw [e] at w; exact w.elim
    | bdp d => rw [e] at w; exact w.elim
    | own d =>
      rw [e] at w
      obtain ⟨W', b'⟩ := b.frz hi' (getD_some e (by intro z; cases z))
      exact s' B W' H Vt n σ _ E R K Dn b' x w k
    | pure d =>
      rw [e] at w
      have e' := getD_some e (by intro z; cases z)
      have q : ρ.set i (.pure d) = ρ := by
        refine List.ext_getElem? fun j => ?_
        by_cases h : i = j
        · subst h
          rw [List.getElem?_set_self (List.getElem?_eq_some_iff.mp e').1, e']
        · rw [List.getElem?_set_ne h]
      have w : wpS Γ.Ψ R s (ρ.set i (.pure d)) n K := w
      rw [q] at w
      exact s' B W H Vt n σ _ E R K Dn b x w k
  | .pass, _, h => by cases h
  | .asg _ _, _, h => by cases h
  | .asgO _ _, _, h => by cases h
  | .asgD _ _, _, h => by cases h
  | .wrk _ _ _, _, h => by cases h
  | .asgT _ _, _, h => by cases h
  | .par2 _ _ _ _ _ _, _, h => by cases h
  | .par3 _ _ _ _ _ _ _ _ _, _, h => by cases h
  | .aug _ _ _, _, h => by cases h
  | .mut _ _ _, _, h => by cases h
  | .setIx _ _ _, _, h => by cases h
  | .dput _ _ _, _, h => by cases h
  | .expr _, _, h => by cases h
  | .ife _ _ _, _, h => by cases h
  | .whil _ _, _, h => by cases h
  | .for _ _ _ _, _, h => by cases h
  | .ret _, _, h => by cases h
  | .retN, _, h => by cases h
  | .brk, _, h => by cases h
  | .cont, _, h => by cases h
  | .never, _, h => by cases h
  | .io _ _ _, _, h => by cases h
  | .retP _, _, h => by cases h
  | .scp _ _ _ _ _ _, _, h => by cases h
def Ga.fxed (Γ : Ga) (fx : List Nat) : Ga := { Γ with fx := fx }
theorem GoodS.fxed {Γ : Ga} {sc : Scope} {fnk : Str → Bool} {E : XK} {X : Cx} (g : GoodS Γ sc fnk E X) (fx : List Nat) : GoodS (Γ.fxed fx) sc fnk E X := ⟨⟨g.K, g.N, g.nd, g.sc, g.fn, g.calm, g.room, g.fns, g.fio, g.blt, g.pas⟩, g.owns⟩
theorem GoodS.unfx {Γ : Ga} {sc : Scope} {fnk : Str → Bool} {E : XK} {X : Cx} {fx : List Nat} (g : GoodS (Γ.fxed fx) sc fnk E X) : GoodS Γ sc fnk E X := ⟨⟨g.K, g.N, g.nd, g.sc, g.fn, g.calm, g.room, g.fns, g.fio, g.blt, g.pas⟩, g.owns⟩
theorem aged_own {ρ : List Sl} {i : Nat} {d : D} : (ρ.map Sl.aged)[i]? ≠ some (.own d) ∧ (ρ.map Sl.aged)[i]? ≠ some (.bor d) ∧ (ρ.map Sl.aged)[i]? ≠ some (.bdp d) ∧ (ρ.map Sl.aged)[i]? ≠ some (.dp d) := by
  rw [List.getElem?_map]
  cases ρ[i]? with
  | none => exact ⟨(fun z => by cases z), (fun z => by cases z), (fun z => by cases z), fun z => by cases z⟩
  | some s => cases s <;> exact ⟨(fun z => by cases z), (fun z => by cases z), (fun z => by cases z), fun z => by cases z⟩
/-- the block's own world: nothing is owned, all there is is old -/
def oldW (H : Hp) : Wd := ⟨fun _ => False, fun a => H a ≠ none⟩
theorem SlotsOk.aged {W : Wd} {H : Hp} {Vt : Addr → Prop} {σ : L2.St} {ρ : List Sl} (s : SlotsOk W H Vt σ ρ) : SlotsOk (oldW H) H Vt σ (ρ.map Sl.aged) := by
  refine ⟨by rw [List.length_map]; exact s.len, fun i z e ne => ?_, fun i d a e _ => absurd e aged_own.1, fun i j a d d' e _ _ _ => absurd e aged_own.1⟩
  rw [List.getElem?_map] at e
  cases q : ρ[i]? with
  | none => rw [q] at e; cases e
  | some s0 =>
    rw [q] at e
    have e : some s0.aged = some z := e
    cases e
    have ofOwn : ∀ {v : V} {d : D}, Own W H Vt v d → Rep (oldW H) H Vt v d.stale := fun {v d} ow => by
      obtain ⟨a, rfl, _, _⟩ := ow.ref
      have o2 : Own ⟨fun _ => False, W.old⟩ H Vt (.ref a) d := ow.conv (fun c u e _ n2 => ⟨e, (fun z => z), n2, fun z => z⟩) (fun _ z => z) fun c u _ e n => ⟨e, n, fun z => z⟩
      exact Rep.stale (W := ⟨fun _ => False, W.old⟩) (W' := oldW H) (fun _ (z : False) => z.elim) (o2.rep fun z => z)
    cases s0 with
    | dead => exact absurd rfl ne
    | bor d => exact absurd rfl ne
    | dp d => exact absurd rfl ne
    | bdp d => exact absurd rfl ne
    | pure d =>
      obtain ⟨v, ev, it⟩ := s.get i _ q (by intro z; cases z)
      exact ⟨v, ev, Rep.stale (W := W) (W' := oldW H) (fun _ (z : False) => z.elim) it⟩
    | own d =>
      obtain ⟨v, ev, it⟩ := s.get i _ q (by intro z; cases z)
      exact ⟨v, ev, ofOwn it⟩
/-- back in the old world, all names set since dead -/
theorem Bd.back2 {Γ : Ga} {B : Ent} {W : Wd} {H H2 : Hp} {Vt V2 : Addr → Prop} {n n2 : Nat} {σ σ2 : L2.St} {ρ : List Sl} {vs : List Nat} (b : Bd Γ B W H Vt n σ ρ) (hfx : ∀ i ∈ Γ.fx, i ∉ vs) (g : Grow H Vt H2 V2) (p : ∀ a, V2 a → PurseAt n2 H2 a) (hl : σ2.length = σ.length) (hs : ∀ i : Nat, i ∉ vs → σ2[i]? = σ[i]?) :
    Bd Γ B W H2 V2 n2 σ2 (wipeS ρ vs) := by
  have sg := b.sl.grow g
  have wl : ∀ us : List Nat, (wipeS ρ us).length = ρ.length := fun us => by
    induction us with
    | nil => rfl
    | cons u us ih => unfold wipeS; rw [List.length_set]; exact ih
  have un : ∀ {i : Nat} {s : Sl}, (wipeS ρ vs)[i]? = some s → s ≠ .dead → ρ[i]? = some s ∧ σ2[i]? = σ[i]? := fun {i s} e ne => by
    obtain ⟨a, c⟩ := wipeS_own e ne
    exact ⟨a, hs i c⟩
  refine ⟨b.est.grow g p, ⟨by rw [wl, hl]; exact b.sl.len, fun i s e ne => ?_, fun i d a e1 e2 => ?_, fun i j a d d' e1 e2 e3 e4 => ?_⟩, b.old, b.sub, b.gr.grow g, fun i d a e1 e2 => ?_, fun i hi => ?_, B.on b.past (Ext.grow g).stp, fun i d => ⟨fun e => (b.nob i d).1 (un e (by intro z; cases z)).1, fun e => (b.nob i d).2 (un e (by intro z; cases z)).1⟩, b.dps.imp fun S q => ⟨(q.1.ext (Ext.grow g)).less (fun j d e => un e (by intro z; cases z)) fun j d e => un e (by intro z; cases z), q.2⟩⟩
  · obtain ⟨h1, h2⟩ := un e ne
    obtain ⟨v, ev, it⟩ := sg.get i s h1 ne
    exact ⟨v, by rw [h2]; exact ev, it⟩
  · obtain ⟨h1, h2⟩ := un e1 (by intro z; cases z)
    exact b.sl.own i d a h1 (h2 ▸ e2)
  · obtain ⟨h1, h2⟩ := un e1 (by intro z; cases z)
    obtain ⟨h3, h4⟩ := un e2 (by intro z; cases z)
    exact b.sl.inj i j a d d' h1 h3 (h2 ▸ e3) (h4 ▸ e4)
  · obtain ⟨h1, h2⟩ := un e1 (by intro z; cases z)
    exact b.young i d a h1 (h2 ▸ e2)
  · rw [hs i (hfx i hi)]; exact b.fixd i hi
theorem bss_scp {Γ : Ga} {C : CkD} (hC : C.Of Γ) {sc : Scope} {fnk : Str → Bool} {a rest : Sm} {vs : List Nat} {j : Nat} {ops : List Op} {sa so sr : List Stmt} {fx : List Nat} {N : Nat} (ha : blkK { C with fx := fx } N sc fnk a sa = true) (hfx : ∀ i, i < Γ.N.length → i ∉ vs → i ∈ fx) (hov : ∀ i ∈ Γ.fx, i ∉ vs)
    (hops : opsCk C sc fnk j ops so = true) (hov2 : ∀ x ∈ ops.flatMap Op.var, x ∈ vs) (hr : BSs Γ sc fnk sr rest) : BSs Γ sc fnk (sa ++ (so ++ sr)) (.scp Γ.N.length a vs j ops rest) := by
  obtain ⟨tr, pr, srm⟩ := hr
  obtain ⟨to, po, som⟩ := ops_app hC pr ops so hops
  have hC' : ({ C with fx := fx } : CkD).Of (Γ.fxed fx) := ⟨hC.1, hC.2.1, rfl, hC.2.2.2.1, hC.2.2.2.2⟩
  obtain ⟨t, p, s⟩ := blk_app hC' (fun E X g => po E X g.unfx) a sa ha
  refine ⟨t, fun E X g => p E X (g.fxed fx), fun B W H Vt n σ ρ E R K Dn b x w k => ?_⟩
  unfold wpS at w
  obtain ⟨hlen, w⟩ := w
  let B' : Ent := ⟨oldW H, H, Vt, σ, fun _ => False, fun _ _ _ => True, fun _ _ => True.intro, fun _ z => z.elim⟩
  have b0 : Bd (Γ.fxed fx) B' (oldW H) H Vt n σ (ρ.map Sl.aged) :=
    ⟨⟨fun _ z => z.elim, fun _ z => z, b.est.pur, fun _ z => z.elim⟩, b.sl.aged, rfl, fun _ z => z, .refl, fun i d a e _ => absurd e aged_own.1, fun _ _ => rfl, True.intro, fun i d => ⟨aged_own.2.1, aged_own.2.2.1⟩, ⟨_, DpOk.none fun i d => aged_own.2.2.2, fun _ _ z => z.elim⟩⟩
  have hσl : σ.length = Γ.N.length := by rw [b.sl.len]; exact hlen
  have back : ∀ {W1 H1 V1 n1 σ1 ρ1}, Bd (Γ.fxed fx) B' W1 H1 V1 n1 σ1 ρ1 → ρ1.length = Γ.N.length → σ1.length = σ.length ∧ (∀ i : Nat, i ∉ vs → σ1[i]? = σ[i]?) ∧ Grow H Vt H1 V1 := fun {W1 H1 V1 n1 σ1 ρ1} b1 hl => by
    have hl1 : σ1.length = σ.length := by rw [b1.sl.len, hl, hσl]
    refine ⟨hl1, fun i hi => ?_, b1.gr.to fun _ z => z⟩
    rcases Nat.lt_or_ge i Γ.N.length with c | c
    · exact b1.fixd i (hfx i c hi)
    · rw [List.getElem?_eq_none (by omega), List.getElem?_eq_none (by omega)]
  refine s B' (oldW H) H Vt n σ _ E noR _ Dn b0 (fun _ _ _ _ _ _ _ _ _ _ z => z.elim) w ⟨?_, ?_, fun _ _ _ _ _ _ _ z => z.elim, fun _ _ _ _ _ _ _ z => z.elim⟩
  · intro W1 H1 V1 n1 σ1 ρ1 b1 w1
    obtain ⟨⟨hl1, tt, ds, hh, hf, hk⟩, w2⟩ := w1
    obtain ⟨l1, hs1, g1⟩ := back b1 hl1
    have hold : ∀ a, ¬ W1.old a → H a = none := fun a z => by
      rw [b1.old] at z
      exact Classical.byContradiction fun q => z q
    have hf : (tt && D.freshs ds) = true := hf
    rw [Bool.and_eq_true] at hf
    obtain ⟨root, us, ev, e1, nv, hy, r1⟩ : ∃ root us, σ1[j]? = some (some (.ref root)) ∧ H1 root = some (.lst us) ∧ ¬ V1 root ∧ (tt = true → ¬ W1.old root) ∧ Reps W1 H1 V1 us ds := by
      rcases hh with hh | hh
      · obtain ⟨v, ev, it⟩ := b1.sl.get j _ (getD_some hh (by intro z; cases z)) (by intro z; cases z)
        cases (show Rep W1 H1 V1 v (.lst tt ds) from it) with
        | lst e _ nv hy r => exact ⟨_, _, ev, e, nv, hy, r⟩
      · obtain ⟨v, ev, it⟩ := b1.sl.get j _ (getD_some hh (by intro z; cases z)) (by intro z; cases z)
        cases (show Own W1 H1 V1 v (.lst tt ds) from it) with
        | lst e nv hy r => exact ⟨_, _, ev, e, nv, hy, r⟩
    have op : OP W1 H H1 V1 root us ds := ⟨hold, g1.dom, fun a z => (b1.est.pur a z).dom, nv, e1, r1, hf.2⟩
    unfold opsK at hk
    rw [Bool.and_eq_true, Bool.and_eq_true, decide_eq_true_eq] at hk
    refine som E W1 H H1 V1 root us ds 0 H1 σ1 Dn (by rw [l1, hσl]) op (hold root (hy hf.1)) hk.1.1 hk.1.2 (.inr ⟨rfl, rfl⟩) (by omega) hk.2 ev .refl fun σ2 H2 m2 q1 q2 q3 => ?_
    have g2 : Grow H Vt H2 V1 := ⟨fun a o e n => by rw [q3.old a (by rw [e]; simp)]; exact g1.keep a o e n, fun a e => q3.dom a (g1.dom a e), g1.sub, g1.new⟩
    have p2 : ∀ a, V1 a → PurseAt n1 H2 a := fun a z => by
      obtain ⟨s, c, kk, t, h1, rr⟩ := b1.est.pur a z
      exact ⟨s, c, kk, t, by rw [q3.pur a z]; exact h1, rr⟩
    exact srm B W H2 V1 n1 σ2 _ E R K Dn (b.back2 hov g2 p2 (q2.trans l1) fun i hi => by rw [q1 i fun z => hi (hov2 i z)]; exact hs1 i hi) x w2 k
  · intro W1 H1 V1 n1 σ1 ρ1 v d b1 r w1
    obtain ⟨⟨hl1, hf⟩, w2⟩ := w1
    obtain ⟨l1, hs1, g1⟩ := back b1 hl1
    exact k.rt W H1 V1 n1 σ1 _ v d (b.back2 hov g1 b1.est.pur l1 hs1) (r.ofFlat hf) w2
/-! ### a change of what a name owns all through -/
mutual
theorem Rdp.rep1 {W W1 : Wd} {S : Addr → Prop} {H : Hp} {Vt : Addr → Prop} (hO : ∀ a, ¬ W1.O a) (hS : ∀ a, S a → ¬ W1.old a) : ∀ {v : V} {d : D}, Rdp W S H Vt v d → Rep W1 H Vt v d
  | _, _, .non => .non
  | _, _, .bl b => .bl b
  | _, _, .int i => .int i
  | _, _, .str s => .str s
  | _, _, .lst e h1 h2 h3 r => .lst e (hO _) h2 (fun _ => hS _ h1) (Rdps.rep1 hO hS r)
  | _, _, .tup e h1 h2 r => .tup e (hO _) h2 (Rdps.rep1 hO hS r)
theorem Rdps.rep1 {W W1 : Wd} {S : Addr → Prop} {H : Hp} {Vt : Addr → Prop} (hO : ∀ a, ¬ W1.O a) (hS : ∀ a, S a → ¬ W1.old a) : ∀ {vs : List V} {ds : List D}, Rdps W S H Vt vs ds → Reps W1 H Vt vs ds
  | _, _, .nil => .nil
  | _, _, .cons r rs => .cons (Rdp.rep1 hO hS r) (Rdps.rep1 hO hS rs)
end
theorem Bd.wreck {Γ : Ga} {B : Ent} {W : Wd} {H H2 : Hp} {Vt : Addr → Prop} {n : Nat} {σ σ2 : L2.St} {ρ : List Sl} {S : Nat → Addr → Prop} {j : Nat} {vs : List Nat} (b : Bd Γ B W H Vt n σ ρ) (kS : DpOk W H Vt σ ρ S) (yS : ∀ i a, S i a → B.H a = none)
    (hk : ∀ a, H a ≠ none → ¬ S j a → H2 a = H a) (dm : ∀ a, H a ≠ none → H2 a ≠ none) (pu : ∀ a, Vt a → H2 a = H a) (hl : σ2.length = σ.length) (hs : ∀ i : Nat, i ∉ vs → σ2[i]? = σ[i]?) (hfx : ∀ i ∈ Γ.fx, i ∉ vs) : Bd Γ B W H2 Vt n σ2 (wipeS (ρ.set j .dead) vs) := by
  have wl : ∀ us : List Nat, (wipeS (ρ.set j .dead) us).length = ρ.length := fun us => by
    induction us with
    | nil => exact List.length_set ..
    | cons u us ih => unfold wipeS; rw [List.length_set]; exact ih
  have un : ∀ {i : Nat} {s : Sl}, (wipeS (ρ.set j .dead) vs)[i]? = some s → s ≠ .dead → ρ[i]? = some s ∧ σ2[i]? = σ[i]? ∧ i ≠ j := fun {i s} e ne => by
    obtain ⟨a, c⟩ := wipeS_own e ne
    by_cases h : j = i
    · subst h
      have hl : j < ρ.length := by simpa using (List.getElem?_eq_some_iff.mp a).1
      rw [List.getElem?_set_self hl] at a
      exact absurd (Option.some.inj a).symm ne
    · rw [List.getElem?_set_ne h] at a
      exact ⟨a, hs i c, Ne.symm h⟩
  have sm : ∀ {a : Addr} {o : HO}, H a = some o → ¬ S j a → H2 a = some o := fun {a o} e n => by rw [hk a (by rw [e]; simp) n]; exact e
  have nS : ∀ {a : Addr}, ¬ W.O a → ¬ S j a := fun n z => n (kS.sub _ _ z)
  have cv : ∀ a o, H a = some o → ¬ W.O a → ¬ Vt a → H2 a = some o ∧ ¬ W.O a ∧ ¬ Vt a ∧ (¬ W.old a → ¬ W.old a) := fun a o e n1 n2 => ⟨sm e (nS n1), n1, n2, fun z => z⟩
  have rd : ∀ {i : Nat} {d : D} {v : V}, i ≠ j → ρ[i]? = some (.dp d) → σ[i]? = some (some v) → Rdp W (S i) H2 Vt v d := fun {i d v} ne e1 e2 =>
    (kS.rep i d v e1 e2).conv (fun a us e h1 h2 => ⟨sm e fun z => ne (kS.dis i j a h1 z), h1, h2, fun z => z⟩) fun a us e h1 h2 => ⟨sm e (nS h1), h1, h2⟩
  refine ⟨⟨fun a z => dm a (b.est.oDom a z), fun a z => dm a (b.est.oldDom a z), fun a z => ?_, b.est.oV⟩, ⟨by rw [wl, hl]; exact b.sl.len, fun i s e ne => ?_, fun i d a e1 e2 => ?_, fun i l a d d' e1 e2 e3 e4 => ?_⟩, b.old, b.sub, ⟨fun a o e n m => ?_, fun a e => dm a (b.gr.dom a e), b.gr.sub, b.gr.new⟩, fun i d a e1 e2 => ?_, fun i hi => ?_,
    B.on b.past ⟨fun a o e n m => sm e (nS m), dm, fun _ z => z, fun _ z => .inl z, rfl, fun _ z => .inl z⟩, fun i d => ⟨fun e => (b.nob i d).1 (un e (by intro z; cases z)).1, fun e => (b.nob i d).2 (un e (by intro z; cases z)).1⟩,
    fun i a => i ≠ j ∧ S i a, ⟨fun i d v e1 e2 => ?_, fun i a h => kS.sub i a h.2, fun i l a h1 h2 => kS.dis i l a h1.2 h2.2, fun i l d a e1 e2 h => ?_⟩, fun i a h => yS i a h.2⟩
  · obtain ⟨s, c, k, t, h1, r⟩ := b.est.pur a z
    exact ⟨s, c, k, t, by rw [pu a z]; exact h1, r⟩
  · obtain ⟨h1, h2, h3⟩ := un e ne
    obtain ⟨v, ev, it⟩ := b.sl.get i s h1 ne
    refine ⟨v, by rw [h2]; exact ev, ?_⟩
    cases s with
    | dead => exact it
    | pure d => exact Rep.conv cv (fun _ z => z) it
    | own d => exact Own.conv it cv (fun _ z => z) fun a o ea e2 n => ⟨sm e2 fun z => kS.own i j d a h1 (by rw [ev, ea]) z, n, fun z => z⟩
    | bor d => exact absurd h1 (b.nob i d).1
    | bdp d => exact absurd h1 (b.nob i d).2
    | dp d => exact (rd h3 h1 ev).repL
  · obtain ⟨h1, h2, _⟩ := un e1 (by intro z; cases z)
    exact b.sl.own i d a h1 (h2 ▸ e2)
  · obtain ⟨h1, h2, _⟩ := un e1 (by intro z; cases z)
    obtain ⟨h3, h4, _⟩ := un e2 (by intro z; cases z)
    exact b.sl.inj i l a d d' h1 h3 (h2 ▸ e3) (h4 ▸ e4)
  · exact sm (b.gr.keep a o e n m) fun z => by rw [yS j a z] at e; cases e
  · obtain ⟨h1, h2, _⟩ := un e1 (by intro z; cases z)
    exact b.young i d a h1 (h2 ▸ e2)
  · rw [hs i (hfx i hi)]; exact b.fixd i hi
  · obtain ⟨h1, h2, h3⟩ := un e1 (by intro z; cases z)
    exact (rd h3 h1 (h2 ▸ e2)).conv (fun a us e k1 k2 => ⟨e, ⟨h3, k1⟩, k2, fun z => z⟩) fun a us e k1 k2 => ⟨e, k1, k2⟩
  · obtain ⟨h1, h2, _⟩ := un e1 (by intro z; cases z)
    exact kS.own i l d a h1 (h2 ▸ e2) h.2
open Classical in
theorem bs_wrk {Γ : Ga} {C : CkD} (hC : C.Of Γ) {sc : Scope} {fnk : Str → Bool} {j : Nat} {op : Op} {st : Stmt} (h : opCk C sc fnk j op st = true) (hx : ∀ x ∈ op.var, x < Γ.N.length) (hfx : ∀ i ∈ Γ.fx, i ∉ op.var) : BS Γ sc fnk st (.wrk Γ.N.length j op) := by
  obtain ⟨t, p, s⟩ := op_ok hC h hx
  refine ⟨t, p, fun B W H Vt n σ ρ E R K Dn b x w k => ?_⟩
  unfold wpS at w
  split at w
  · rename_i tt ds hj
    obtain ⟨⟨⟨hlen, hf⟩, hop⟩, w⟩ := w
    have hj' := getD_some hj (by intro z; cases z)
    obtain ⟨S, kS, yS⟩ := b.dps
    obtain ⟨v, ev, _⟩ := b.sl.get j _ hj' (by intro z; cases z)
    have r := kS.rep j _ v hj' ev
    have hf : (tt && D.freshs ds) = true := hf
    rw [Bool.and_eq_true] at hf
    cases r with
    | @lst root us _ _ e hS nv _ rs =>
    let Hh : Hp := fun a => if S j a then none else H a
    have h0 : ∀ {a : Addr}, S j a → Hh a = none := fun z => if_pos z
    have h1 : ∀ {a : Addr}, ¬ S j a → Hh a = H a := fun z => if_neg z
    let W1 : Wd := ⟨fun _ => False, fun a => Hh a ≠ none⟩
    have od : ∀ a, ¬ W1.old a → Hh a = none := fun a z => Classical.byContradiction fun q => z q
    have opp : OP W1 Hh H Vt root us ds := ⟨od, fun a z => (by
      by_cases q : S j a
      · exact absurd (h0 q) z
      · rw [h1 q] at z; exact z), fun a z => (b.est.pur a z).dom, nv, e, Rdps.rep1 (W1 := W1) (fun _ z => z) (fun a z (q : Hh a ≠ none) => q (h0 z)) rs, hf.2⟩
    refine s E W1 Hh H Vt root us ds 0 H σ Dn (by rw [b.sl.len]; exact hlen) opp (h0 hS) hop ev .refl (by omega) (.inr ⟨rfl, rfl⟩) fun σ' H2 m' q1 q2 q3 q4 => ?_
    refine k.nx W H2 Vt n σ' _ (b.wreck kS yS (fun a ne ns => q3.old a (by rw [h1 ns]; exact ne)) q3.dom q3.pur q2 (fun i hi => q1 i fun c s x l e z => hi (by subst e; subst z; exact List.mem_singleton_self _)) hfx) w
  · exact w.elim
/-! ### a def's body, such blocks at its top -/
def Sm.len : Sm → Nat
  | .scons _ s => Sm.len s + 1
  | .frz _ s => Sm.len s
  | .scp _ a _ _ ops rest => Sm.len a + ops.length + Sm.len rest
  | _ => 0
def topS (C : CkD) (sc : Scope) (fnk : Str → Bool) (st : Stmt) : Sm → Bool
  | .wrk k j op => decide (k = C.N.length) && opCk C sc fnk j op st && (op.var.all fun x => decide (x < C.N.length)) && (C.fx.all fun i => !op.var.contains i)
  | s => scK C 29 sc fnk (.s st s)
theorem topS_ok {Γ : Ga} {C : CkD} (hC : C.Of Γ) {sc : Scope} {fnk : Str → Bool} {st : Stmt} {s : Sm} (h : topS C sc fnk st s = true) : BS Γ sc fnk st s := by
  unfold topS at h
  split at h
  · simp only [Bool.and_eq_true, decide_eq_true_eq] at h
    obtain ⟨⟨⟨rfl, h1⟩, h2⟩, h3⟩ := h
    rw [← hC.1]
    exact bs_wrk hC h1 (fun x m => by rw [hC.1]; exact of_decide_eq_true (List.all_eq_true.mp h2 x m)) fun i hi hv => by
      rw [← hC.2.2.1] at h3
      have := List.all_eq_true.mp h3 i hi
      rw [List.contains_iff_mem.mpr hv] at this; cases this
  · exact scK_ok hC 29 _ _ _ h
def topK (C : CkD) (sc : Scope) (fnk : Str → Bool) : Sm → List Stmt → Bool
  | .scp k a vs j ops rest, sts => decide (k = C.N.length) && blkK { C with fx := (List.range C.N.length).filter fun i => !vs.contains i } 28 sc fnk a (sts.take (sts.length - (Sm.len rest + ops.length))) && (C.fx.all fun i => !vs.contains i) &&
      opsCk C sc fnk j ops ((sts.drop (sts.length - (Sm.len rest + ops.length))).take ops.length) && ((ops.flatMap Op.var).all fun x => vs.contains x) && topK C sc fnk rest ((sts.drop (sts.length - (Sm.len rest + ops.length))).drop ops.length)
  | .scons s s2, sts => (match sts with | st :: ss => topS C sc fnk st s && topK C sc fnk s2 ss | [] => false)
  | .frz i s, sts => !C.fx.contains i && topK C sc fnk s sts
  | .snil, sts => (match sts with | [] => true | _ => false)
  | _, _ => false
theorem topK_ok {Γ : Ga} {C : CkD} (hC : C.Of Γ) {sc : Scope} {fnk : Str → Bool} : ∀ (sm : Sm) (sts : List Stmt), topK C sc fnk sm sts = true → BSs Γ sc fnk sts sm
  | .snil, sts, h => by
    unfold topK at h
    split at h
    · exact bss_nil
    · cases h
  | .scons s s2, sts, h => by
    unfold topK at h
    split at h
    · rw [Bool.and_eq_true] at h
      exact bss_cons (topS_ok hC h.1) (topK_ok hC s2 _ h.2)
    · cases h
  | .frz i s, sts, h => by
    unfold topK at h
    rw [Bool.and_eq_true, Bool.not_eq_true'] at h
    exact bss_frz (fxC hC h.1) (topK_ok hC s sts h.2)
  | .scp k a vs j ops rest, sts, h => by
    unfold topK at h
    simp only [Bool.and_eq_true, decide_eq_true_eq] at h
    obtain ⟨⟨⟨⟨⟨rfl, h2⟩, h3⟩, h4⟩, h5⟩, h6⟩ := h
    have hr := topK_ok hC rest _ h6
    have := bss_scp hC (N := 28) (fx := (List.range C.N.length).filter fun i => !vs.contains i) h2 (fun i hi hn => List.mem_filter.mpr ⟨List.mem_range.mpr (by rw [← hC.1]; exact hi), by simpa using hn⟩) (fun i hi hv => by
      rw [← hC.2.2.1] at h3
      have := List.all_eq_true.mp h3 i hi
      rw [List.contains_iff_mem.mpr hv] at this; cases this) h4 (fun x hx => List.contains_iff_mem.mp (List.all_eq_true.mp h5 x hx)) hr
    rw [List.take_append_drop, List.take_append_drop, hC.1] at this
    exact this
  | .pass, _, h => by cases h
  | .asg _ _, _, h => by cases h
  | .asgO _ _, _, h => by cases h
  | .asgD _ _, _, h => by cases h
  | .wrk _ _ _, _, h => by cases h
  | .asgT _ _, _, h => by cases h
  | .par2 _ _ _ _ _ _, _, h => by cases h
  | .par3 _ _ _ _ _ _ _ _ _, _, h => by cases h
  | .aug _ _ _, _, h => by cases h
  | .mut _ _ _, _, h => by cases h
  | .setIx _ _ _, _, h => by cases h
  | .dput _ _ _, _, h => by cases h
  | .expr _, _, h => by cases h
  | .ife _ _ _, _, h => by cases h
  | .whil _ _, _, h => by cases h
  | .for _ _ _ _, _, h => by cases h
  | .ret _, _, h => by cases h
  | .retN, _, h => by cases h
  | .brk, _, h => by cases h
  | .cont, _, h => by cases h
  | .never, _, h => by cases h
  | .io _ _ _, _, h => by cases h
  | .retP _, _, h => by cases h
end Vm
/-! Vm19: defs. -/
namespace Vm
open PySem PySem.Spec L2
open PyProof.Rows (envOfC)

def ρ0 (f : Fd) (ds : List D) : List Sl := ds.map Sl.pure ++ List.replicate (f.nn - f.np) .dead
theorem ρ0_get {f : Fd} {ds : List D} {i : Nat} {s : Sl} (e : (ρ0 f ds)[i]? = some s) (ne : s ≠ .dead) : ∃ d, ds[i]? = some d ∧ s = .pure d := by
  unfold ρ0 at e
  by_cases h : i < ds.length
  · rw [List.getElem?_append_left (by simpa using h), List.getElem?_map, List.getElem?_eq_getElem h] at e
    cases e
    exact ⟨_, List.getElem?_eq_getElem h, rfl⟩
  · rw [List.getElem?_append_right (by simpa using h), List.getElem?_replicate] at e
    split at e
    · cases e; exact absurd rfl ne
    · cases e
theorem slots0 {W : Wd} {H : Hp} {Vt : Addr → Prop} {N : List Str} {vs : List V} {f : Fd} {ds : List D} (r : Reps W H Vt vs ds) (hl : ds.length = f.np) (hn : f.nn = N.length) (hle : f.np ≤ f.nn) : SlotsOk W H Vt (L2.start N vs) (ρ0 f ds) where
  len := by
    unfold L2.start ρ0
    rw [List.length_append, List.length_append, List.length_map, List.length_map, List.length_replicate, List.length_replicate, r.length]
    omega
  get := fun i s e ne => by
    obtain ⟨d, e1, rfl⟩ := ρ0_get e ne
    obtain ⟨v, e2, rv⟩ := r.get' e1
    refine ⟨v, ?_, rv⟩
    unfold L2.start
    have hi : i < vs.length := (List.getElem?_eq_some_iff.mp e2).1
    rw [List.getElem?_append_left (by simpa using hi), List.getElem?_map, e2]
    rfl
  own := fun i d a e1 _ => by
    obtain ⟨d', _, z⟩ := ρ0_get e1 (by intro z; cases z)
    cases z
  inj := fun i j a d d' e1 _ _ _ => by
    obtain ⟨d', _, z⟩ := ρ0_get e1 (by intro z; cases z)
    cases z

section
variable {P : Program} {w : World} {K : PySem.W.Frag} {mg : Str → Option Value} {base : Heap}
/-- a def's body in its context -/
theorem body_ok {Γ : Ga} {fd : Fd} {N ps : List Str} {body : List Stmt} {sc : Scope} {qual : Str} {f : Addr} {cdv : Value} {A : Around} {outer : List Env} {s : Shared} {H : Hp} {vs : List V} {Q : VK} {E : XK}
    (hN : Γ.N = N) (hK : Γ.K = K) (S : FnScope N ps sc) (hnn : fd.nn = N.length) (hle : fd.np ≤ fd.nn)
    (hb : BSs Γ sc (fun _ => true) body fd.body) (hfns : ∀ g x m, Γ.T[g]? = some x → Γ.ar g m = true → FnFact P w K mg base Γ.cl Γ.lv x (Γ.fi g m)) (hfio : ∀ g x, Γ.T[g]? = some x → Γ.ion g ≠ 0 → FnFactIO P w K mg base Γ.lv x (Γ.ion g) (Γ.Ψ g)) (hblt : ∀ x ∈ bltNames, mg x = none)
    (hr : Room Γ.lv (A.deeper (envOfC qual sc s.heap.objs.size f cdv))) (h : spB Γ.cl fd.np (fnW Γ.Ψ fd) vs H Q E) :
    ∃ t, PSs (cxOf (L2.CX P w) P w K mg base N qual sc f cdv A outer s H E) body t ∧ t { nx := fun _ H' => Q .non H', rt := Q } (L2.start N vs) H := by
  obtain ⟨t, p, sd⟩ := hb
  have hx : ∀ (pins : List (Addr × Obj)) (σ : L2.St) (Hq : Hp) (sq : Shared) (e : Value) (s' : Shared), Inv (cxOf (L2.CX P w) P w K mg base N qual sc f cdv A outer s H E) pins σ Hq sq →
      L2.CX P w (cxOf (L2.CX P w) P w K mg base N qual sc f cdv A outer s H E).stack Hq sq E e s' → (cxOf (L2.CX P w) P w K mg base N qual sc f cdv A outer s H E).xe e s' :=
    passes_call (X := cxOf (L2.CX P w) P w K mg base N qual sc f cdv A outer s H E) (takes_of rfl rfl rfl rfl) fun _ _ _ _ z => z
  have good : GoodS Γ sc (fun _ => true) E (cxOf (L2.CX P w) P w K mg base N qual sc f cdv A outer s H E) :=
    { K := hK.symm, N := hN.symm, nd := S.nd, sc := rfl, fn := rfl, calm := rfl, room := hr, fns := hfns, fio := hfio, blt := hblt, pas := hx, owns := passes_of rfl }
  refine ⟨t E, p E _ good, ?_⟩
  obtain ⟨hl, W, Vt, n, ds, est, rps, Qd, Rd, hsem, hQ, hE⟩ := h
  let B : Ent := ⟨W, H, Vt, L2.start N vs, fun _ => False, fun _ _ _ => True, fun _ _ => True.intro, est.oDom⟩
  have hpo : ∀ (i : Nat) (s : Sl), (ρ0 fd ds)[i]? = some s → s ≠ .dead → (∃ d, s = .pure d) ∨ ∃ d, s = .own d := fun i s e ne => let ⟨d, _, z⟩ := ρ0_get e ne; .inl ⟨d, z⟩
  refine sd B W H Vt n (L2.start N vs) (ρ0 fd ds) E Rd { nx := fun _ n' => Qd .non n', rt := fun _ d n' => Qd d n' } _ ⟨est, slots0 rps (rps.length.symm.trans hl) hnn hle, rfl, fun _ z => z, .refl, fun i d a e1 _ => ?_, fun _ _ => rfl, True.intro, PO.nob hpo, PO.dps hpo⟩ ?_ hsem.2 ⟨?_, ?_, ?_, ?_⟩
  · obtain ⟨d', _, z⟩ := ρ0_get e1 (by intro z; cases z)
    cases z
  · intro H1 V1 C pl n' c dd H' g x r
    exact hE C pl n' c dd H' (x.grow (g.to fun _ z => z)) r
  · intro W' H' Vt' n' σ ρ b q
    exact hQ .non H' Vt' n' .non (b.gr.to fun _ z => z) b.est.pur .non q
  · intro W' H' Vt' n' σ ρ v d b r q
    exact hQ v H' Vt' n' d (b.gr.to fun _ z => z) b.est.pur r q
  · intro W' H' Vt' n' σ ρ b q
    exact q.elim
  · intro W' H' Vt' n' σ ρ b q
    exact q.elim
theorem len_spB {cl : Nat → Value} {np : Nat} {sem : FnSem} {ps : List Str} (h : np = ps.length) : ∀ vs H Q E, spB cl np sem vs H Q E → vs.length = ps.length := fun vs H Q E x => x.1.trans h
/-- a def of the row -/
theorem fn_plain {Γ : Ga} {fd : Fd} {N ps : List Str} {x qual : Str} {st : Stmt} {f : Addr} {fdat : FuncData} (F : Fun K x qual st f fdat) (hN : Γ.N = N) (hK : Γ.K = K) (S : FnScope N ps (defScope st)) (hnp : fd.np = ps.length) (hnn : fd.nn = N.length) (hle : fd.np ≤ fd.nn)
    (hb : BSs Γ (defScope st) (fun _ => true) (defBody st) fd.body) (hfns : ∀ g x m, Γ.T[g]? = some x → Γ.ar g m = true → FnFact P w K mg base Γ.cl Γ.lv x (Γ.fi g m)) (hfio : ∀ g x, Γ.T[g]? = some x → Γ.ion g ≠ 0 → FnFactIO P w K mg base Γ.lv x (Γ.ion g) (Γ.Ψ g)) (hblt : ∀ x ∈ bltNames, mg x = none) :
    FnOk P w K mg base (L2.CX P w) (Γ.lv + 1) f fdat ps (spB Γ.cl fd.np (fnW Γ.Ψ fd)) :=
  F.okX S (len_spB hnp) fun cdv A outer s H vs Q E hr h => body_ok hN hK S hnn hle hb hfns hfio hblt hr h
theorem fn_plainD {Γ : Ga} {fd : Fd} {N ps : List Str} {x qual : Str} {params : Arguments} {body : List Stmt} {sc : Scope} {dvs : List V} {kws : List (Str × V)} {f : Addr} {fdat : FuncData} (F : FunD K x qual params body sc dvs kws f fdat) (hN : Γ.N = N) (hK : Γ.K = K) (S : FnScope N ps sc) (hnp : fd.np = ps.length) (hnn : fd.nn = N.length) (hle : fd.np ≤ fd.nn)
    (hb : BSs Γ sc (fun _ => true) body fd.body) (hfns : ∀ g x m, Γ.T[g]? = some x → Γ.ar g m = true → FnFact P w K mg base Γ.cl Γ.lv x (Γ.fi g m)) (hfio : ∀ g x, Γ.T[g]? = some x → Γ.ion g ≠ 0 → FnFactIO P w K mg base Γ.lv x (Γ.ion g) (Γ.Ψ g)) (hblt : ∀ x ∈ bltNames, mg x = none) :
    FnOk P w K mg base (L2.CX P w) (Γ.lv + 1) f fdat ps (spB Γ.cl fd.np (fnW Γ.Ψ fd)) :=
  F.ok S (len_spB hnp) fun cdv A outer s H vs Q E hr h => body_ok hN hK S hnn hle hb hfns hfio hblt hr h
theorem slotsIO {W : Wd} {H : Hp} {Vt : Addr → Prop} {N : List Str} {a : Addr} {vs : List V} {f : Fd} {d0 : D} {ds : List D} (wo : W.O a) (ow : Own W H Vt (.ref a) d0) (r : Reps W H Vt vs ds) (hl : ds.length + 1 = f.np) (hn : f.nn = N.length) (hle : f.np ≤ f.nn) :
    SlotsOk W H Vt (L2.start N (.ref a :: vs)) (Sl.own d0 :: (ds.map Sl.pure ++ List.replicate (f.nn - f.np) .dead)) := by
  have cl : ∀ {j : Nat} {d : D}, (Sl.own d0 :: (ds.map Sl.pure ++ List.replicate (f.nn - f.np) .dead))[j]? = some (.own d) → j = 0 := fun {j d} e => by
    cases j with
    | zero => rfl
    | succ j =>
      have e : (ds.map Sl.pure ++ List.replicate (f.nn - f.np) .dead)[j]? = some (.own d) := by simpa using e
      have h := ρ0_get (f := f) (ds := ds) e (by intro z; cases z)
      obtain ⟨_, _, z⟩ := h
      cases z
  refine ⟨?_, fun i s e ne => ?_, fun i d c e1 e2 => ?_, fun i j c d d' e1 e2 _ _ => ?_⟩
  · unfold L2.start
    simp only [List.length_append, List.length_cons, List.length_map, List.length_replicate, r.length]
    omega
  · cases i with
    | zero =>
      have e : Sl.own d0 = s := by simpa using e
      subst e
      exact ⟨.ref a, rfl, ow⟩
    | succ i =>
      have e : (ds.map Sl.pure ++ List.replicate (f.nn - f.np) .dead)[i]? = some s := by simpa using e
      obtain ⟨d, e1, rfl⟩ := ρ0_get (f := f) (ds := ds) e ne
      obtain ⟨v, e2, rv⟩ := r.get' e1
      refine ⟨v, ?_, rv⟩
      unfold L2.start
      have hi : i < vs.length := (List.getElem?_eq_some_iff.mp e2).1
      rw [List.getElem?_append_left (by simpa using hi), List.getElem?_map, List.getElem?_cons_succ, e2]
      rfl
  · have := cl e1
    subst this
    have e2 : some (V.ref a) = some (V.ref c) := by simpa [L2.start] using e2
    cases e2; exact wo
  · rw [cl e1, cl e2]
/-- the body of a def that changes its first argument -/
theorem body_io {Γ : Ga} {fd : Fd} {N ps : List Str} {body : List Stmt} {sc : Scope} {qual : Str} {f : Addr} {cdv : Value} {A : Around} {outer : List Env} {s : Shared} {H : Hp} {vs : List V} {Q : VK} {E : XK}
    (hN : Γ.N = N) (hK : Γ.K = K) (hfx : Γ.fx = [0]) (S : FnScope N ps sc) (hnn : fd.nn = N.length) (hle : fd.np ≤ fd.nn)
    (hb : BSs Γ sc (fun _ => true) body fd.body) (hfns : ∀ g x m, Γ.T[g]? = some x → Γ.ar g m = true → FnFact P w K mg base Γ.cl Γ.lv x (Γ.fi g m)) (hfio : ∀ g x, Γ.T[g]? = some x → Γ.ion g ≠ 0 → FnFactIO P w K mg base Γ.lv x (Γ.ion g) (Γ.Ψ g)) (hblt : ∀ x ∈ bltNames, mg x = none)
    (hr : Room Γ.lv (A.deeper (envOfC qual sc s.heap.objs.size f cdv))) (h : spIO fd.np (fnIO Γ.Ψ fd) vs H Q E) :
    ∃ t, PSs (cxOf (L2.CX P w) P w K mg base N qual sc f cdv A outer s H E) body t ∧ t { nx := fun _ H' => Q .non H', rt := Q } (L2.start N vs) H := by
  obtain ⟨t, p, sd⟩ := hb
  have hx : ∀ (pins : List (Addr × Obj)) (σ : L2.St) (Hq : Hp) (sq : Shared) (e : Value) (s' : Shared), Inv (cxOf (L2.CX P w) P w K mg base N qual sc f cdv A outer s H E) pins σ Hq sq →
      L2.CX P w (cxOf (L2.CX P w) P w K mg base N qual sc f cdv A outer s H E).stack Hq sq E e s' → (cxOf (L2.CX P w) P w K mg base N qual sc f cdv A outer s H E).xe e s' :=
    passes_call (X := cxOf (L2.CX P w) P w K mg base N qual sc f cdv A outer s H E) (takes_of rfl rfl rfl rfl) fun _ _ _ _ z => z
  have good : GoodS Γ sc (fun _ => true) E (cxOf (L2.CX P w) P w K mg base N qual sc f cdv A outer s H E) :=
    { K := hK.symm, N := hN.symm, nd := S.nd, sc := rfl, fn := rfl, calm := rfl, room := hr, fns := hfns, fio := hfio, blt := hblt, pas := hx, owns := passes_of rfl }
  refine ⟨t E, p E _ good, ?_⟩
  obtain ⟨hl, W, Vt, n, a, rest, d0, ds, rfl, est, wo, ow, rps, Qd, hsem, hQ⟩ := h
  let B : Ent := ⟨W, H, Vt, L2.start N (.ref a :: rest), fun b => b = a, fun _ _ _ => True, fun _ _ => True.intro, est.oDom⟩
  have s0 := slotsIO (N := N) wo ow rps hsem.1 hnn hle
  have hpo : ∀ (i : Nat) (s : Sl), (Sl.own d0 :: (ds.map Sl.pure ++ List.replicate (fd.nn - fd.np) .dead))[i]? = some s → s ≠ .dead → (∃ d, s = .pure d) ∨ ∃ d, s = .own d := fun i s e ne => by
    cases i with
    | zero => exact .inr ⟨_, (Option.some.inj (show some (Sl.own d0) = some s from e)).symm⟩
    | succ i =>
      obtain ⟨d, _, z⟩ := ρ0_get (f := fd) (ds := ds) (i := i) (show (ds.map Sl.pure ++ List.replicate (fd.nn - fd.np) .dead)[i]? = some s from e) ne
      exact .inl ⟨d, z⟩
  refine sd B W H Vt n (L2.start N (.ref a :: rest)) _ E noR { nx := fun ρ' n' => match ρ'.getD 0 .dead with | .own y => Qd (.tup [.non, y]) n' | _ => False, rt := fun _ _ _ => False } _ ⟨est, s0, rfl, fun _ z => z, .refl, fun i d c e1 e2 => ?_, fun _ _ => rfl, True.intro, PO.nob hpo, PO.dps hpo⟩ ?_ hsem.2 ⟨?_, ?_, ?_, ?_⟩
  · cases i with
    | zero =>
      have e2 : some (V.ref a) = some (V.ref c) := by simpa [L2.start] using e2
      cases e2
      exact .inr ⟨by rw [hfx]; simp, rfl⟩
    | succ i =>
      have e1 : (ds.map Sl.pure ++ List.replicate (fd.nn - fd.np) .dead)[i]? = some (.own d) := by simpa using e1
      obtain ⟨_, _, z⟩ := ρ0_get (f := fd) (ds := ds) e1 (by intro z; cases z)
      cases z
  · intro H1 V1 C pl n' c dd H' g x r
    exact r.elim
  · intro W' H' Vt' n' σ ρ b q
    have q : (match ρ.getD 0 .dead with | .own y => Qd (.tup [.non, y]) n' | _ => False) := q
    cases e : ρ.getD 0 .dead with
    | dead => rw [e] at q; exact q.elim
    | pure _ => rw [e] at q; exact q.elim
    | bor _ => rw [e] at q; exact q.elim
    | dp _ => rw [e] at q; exact q.elim
    | bdp _ => rw [e] at q; exact q.elim
    | own y =>
      rw [e] at q
      have e' := getD_some e (by intro z; cases z)
      obtain ⟨v, ev, it⟩ := b.sl.get 0 _ e' (by intro z; cases z)
      have hfix := b.fixd 0 (by rw [hfx]; simp)
      rw [ev] at hfix
      have hv : v = .ref a := by
        have : some (some v) = some (some (V.ref a)) := hfix.trans rfl
        cases this; rfl
      subst hv
      refine hQ H' Vt' n' .non y (fun b' o e1 n1 n2 => b.gr.keep b' o e1 n1 n2) b.gr.dom b.gr.sub b.gr.new b.est.pur ?_ q
      exact Own.conv it (fun c o e1 n1 n2 => ⟨e1, fun z => n1 (b.sub c z), n2, fun n z => n (b.old ▸ z)⟩) (fun _ z => z) fun c o _ e1 n1 => ⟨e1, n1, fun n z => n (b.old ▸ z)⟩
  · intro W' H' Vt' n' σ ρ v d b r q
    exact q.elim
  · intro W' H' Vt' n' σ ρ b q
    exact q.elim
  · intro W' H' Vt' n' σ ρ b q
    exact q.elim
theorem fn_io {Γ : Ga} {fd : Fd} {N ps : List Str} {x qual : Str} {st : Stmt} {f : Addr} {fdat : FuncData} (F : Fun K x qual st f fdat) (hN : Γ.N = N) (hK : Γ.K = K) (hfx : Γ.fx = [0]) (S : FnScope N ps (defScope st)) (hnp : fd.np = ps.length) (hnn : fd.nn = N.length) (hle : fd.np ≤ fd.nn)
    (hb : BSs Γ (defScope st) (fun _ => true) (defBody st) fd.body) (hfns : ∀ g x m, Γ.T[g]? = some x → Γ.ar g m = true → FnFact P w K mg base Γ.cl Γ.lv x (Γ.fi g m)) (hfio : ∀ g x, Γ.T[g]? = some x → Γ.ion g ≠ 0 → FnFactIO P w K mg base Γ.lv x (Γ.ion g) (Γ.Ψ g)) (hblt : ∀ x ∈ bltNames, mg x = none) :
    FnOk P w K mg base (L2.CX P w) (Γ.lv + 1) f fdat ps (spIO fd.np (fnIO Γ.Ψ fd)) :=
  F.okX S (fun vs H Q E x => x.1.trans hnp) fun cdv A outer s H vs Q E hr h => body_io hN hK hfx S hnn hle hb hfns hfio hblt hr h
/-- the body of a def that draws -/
theorem body_pu {Γ : Ga} {fd : Fd} {N ps : List Str} {body : List Stmt} {sc : Scope} {qual : Str} {f : Addr} {cdv : Value} {A : Around} {outer : List Env} {s : Shared} {H : Hp} {vs : List V} {Q : VK} {E : XK}
    (hN : Γ.N = N) (hK : Γ.K = K) (hfx : Γ.fx = [0]) (S : FnScope N ps sc) (hnn : fd.nn = N.length) (hle : fd.np ≤ fd.nn)
    (hb : BSs Γ sc (fun _ => true) body fd.body) (hfns : ∀ g x m, Γ.T[g]? = some x → Γ.ar g m = true → FnFact P w K mg base Γ.cl Γ.lv x (Γ.fi g m)) (hfio : ∀ g x, Γ.T[g]? = some x → Γ.ion g ≠ 0 → FnFactIO P w K mg base Γ.lv x (Γ.ion g) (Γ.Ψ g)) (hblt : ∀ x ∈ bltNames, mg x = none)
    (hr : Room Γ.lv (A.deeper (envOfC qual sc s.heap.objs.size f cdv))) (h : spB Γ.cl fd.np (fnPu Γ.Ψ fd) vs H Q E) :
    ∃ t, PSs (cxOf (L2.CX P w) P w K mg base N qual sc f cdv A outer s H E) body t ∧ t { nx := fun _ H' => Q .non H', rt := Q } (L2.start N vs) H := by
  obtain ⟨t, p, sd⟩ := hb
  have hx : ∀ (pins : List (Addr × Obj)) (σ : L2.St) (Hq : Hp) (sq : Shared) (e : Value) (s' : Shared), Inv (cxOf (L2.CX P w) P w K mg base N qual sc f cdv A outer s H E) pins σ Hq sq →
      L2.CX P w (cxOf (L2.CX P w) P w K mg base N qual sc f cdv A outer s H E).stack Hq sq E e s' → (cxOf (L2.CX P w) P w K mg base N qual sc f cdv A outer s H E).xe e s' :=
    passes_call (X := cxOf (L2.CX P w) P w K mg base N qual sc f cdv A outer s H E) (takes_of rfl rfl rfl rfl) fun _ _ _ _ z => z
  have good : GoodS Γ sc (fun _ => true) E (cxOf (L2.CX P w) P w K mg base N qual sc f cdv A outer s H E) :=
    { K := hK.symm, N := hN.symm, nd := S.nd, sc := rfl, fn := rfl, calm := rfl, room := hr, fns := hfns, fio := hfio, blt := hblt, pas := hx, owns := passes_of rfl }
  refine ⟨t E, p E _ good, ?_⟩
  obtain ⟨hl, W, Vt, n, dss, est, rps, Qd, Rd, hsem, hQ, hE⟩ := h
  obtain ⟨hlen, hsem⟩ := hsem
  split at hsem
  · rename_i ds
    obtain ⟨hflat, hsem⟩ := hsem
    cases rps with
    | @cons _ rest _ _ r0 rps =>
      cases r0 with
      | @pur a va =>
        obtain ⟨s0, c0, k0, t0, ha, hok⟩ := est.pur a va
        -- the purse is this def's own while it runs
        let W0 : Wd := ⟨fun b => W.O b ∨ b = a, W.old⟩
        let V0 : Addr → Prop := fun b => Vt b ∧ b ≠ a
        have est0 : ESt W0 H V0 n := ⟨fun b z => z.elim (est.oDom b) fun z => by rw [z, ha]; simp, est.oldDom, fun b z => est.pur b z.1, fun b z z' => z.elim (fun z => est.oV b z z'.1) fun z => z'.2 z⟩
        have flat : ∀ {vs : List V} {ds : List D}, Reps W H Vt vs ds → ds.all D.flat = true → Reps W0 H V0 vs ds := by
          intro vs ds r
          induction vs generalizing ds with
          | nil => intro h; cases r; exact .nil
          | cons v vs ih =>
            intro h
            cases r with
            | cons r q =>
              rw [List.all_cons, Bool.and_eq_true] at h
              exact .cons (r.ofFlat h.1) (ih q h.2)
        have ow : Own W0 H V0 (.ref a) (.lst false [.int s0, .int c0, .int k0, .int t0]) := .lst ha (fun z => z.2 rfl) (fun z => nomatch z) (.cons (.int _) (.cons (.int _) (.cons (.int _) (.cons (.int _) .nil))))
        let B : Ent := ⟨W0, H, V0, L2.start N (.ref a :: rest), fun b => b = a, fun _ _ _ => True, fun _ _ => True.intro, est0.oDom⟩
        have s1 := slotsIO (N := N) (f := fd) (W := W0) (.inr rfl) ow (flat rps hflat) hlen hnn hle
        have hpo : ∀ (i : Nat) (s : Sl), (Sl.own (.lst false [.int s0, .int c0, .int k0, .int t0]) :: (ds.map Sl.pure ++ List.replicate (fd.nn - fd.np) .dead))[i]? = some s → s ≠ .dead → (∃ d, s = .pure d) ∨ ∃ d, s = .own d := fun i s e ne => by
          cases i with
          | zero => exact .inr ⟨_, (Option.some.inj (show some (Sl.own (.lst false [.int s0, .int c0, .int k0, .int t0])) = some s from e)).symm⟩
          | succ i =>
            obtain ⟨d, _, z⟩ := ρ0_get (f := fd) (ds := ds) (i := i) (show (ds.map Sl.pure ++ List.replicate (fd.nn - fd.np) .dead)[i]? = some s from e) ne
            exact .inl ⟨d, z⟩
        refine sd B W0 H V0 n (L2.start N (.ref a :: rest)) _ E noR _ _ ⟨est0, s1, rfl, fun _ z => z, .refl, fun i d c e1 e2 => ?_, fun _ _ => rfl, True.intro, PO.nob hpo, PO.dps hpo⟩ ?_ (hsem s0 c0 k0 t0 hok) ⟨?_, ?_, ?_, ?_⟩
        · cases i with
          | zero =>
            have e2 : some (V.ref a) = some (V.ref c) := by simpa [L2.start] using e2
            cases e2
            exact .inr ⟨by rw [hfx]; simp, rfl⟩
          | succ i =>
            have e1 : (ds.map Sl.pure ++ List.replicate (fd.nn - fd.np) .dead)[i]? = some (.own d) := by simpa using e1
            obtain ⟨_, _, z⟩ := ρ0_get (f := fd) (ds := ds) e1 (by intro z; cases z)
            cases z
        · intro H1 V1 C pl n' c dd H' g x r
          exact r.elim
        · intro W' H' Vt' n' σ ρ b q
          exact q.elim
        · intro W' H' Vt' n' σ ρ v d b r q
          obtain ⟨hfl, q⟩ := q
          split at q
          · rename_i tt s2 c2 k2 t2 hs2
            obtain ⟨m, hnm, hok2, q⟩ := q
            have e' := getD_some hs2 (by intro z; cases z)
            obtain ⟨u, ev, it⟩ := b.sl.get 0 _ e' (by intro z; cases z)
            have hfix := b.fixd 0 (by rw [hfx]; simp)
            rw [ev] at hfix
            have hv : u = .ref a := by
              have : some (some u) = some (some (V.ref a)) := hfix.trans rfl
              cases this; rfl
            subst hv
            have it : Own W' H' Vt' (.ref a) _ := it
            cases it with
            | lst ea na _ rr =>
              have ev := reps_four rr
              subst ev
              refine hQ v H' (fun z => Vt' z ∨ z = a) m d ⟨fun z o e1 n1 => b.gr.keep z o e1 (fun y => n1 y.1) (fun y => n1 (y ▸ va)), b.gr.dom, fun z h => ?_, fun z h => ?_⟩ (fun z h => ?_) (r.ofFlat hfl) q
              · by_cases y : z = a
                · exact .inr y
                · exact .inl (b.gr.sub z ⟨h, y⟩)
              · rcases h with h | h
                · exact (b.gr.new z h).imp (fun y => y.1) id
                · exact .inl (h ▸ va)
              · rcases h with h | h
                · exact (b.est.pur z h).mono hnm
                · exact ⟨s2, c2, k2, t2, by rw [h]; exact ea, hok2⟩
          · exact q.elim
        · intro W' H' Vt' n' σ ρ b q
          exact q.elim
        · intro W' H' Vt' n' σ ρ b q
          exact q.elim
  · exact hsem.elim
theorem fn_pu {Γ : Ga} {fd : Fd} {N ps : List Str} {x qual : Str} {st : Stmt} {f : Addr} {fdat : FuncData} (F : Fun K x qual st f fdat) (hN : Γ.N = N) (hK : Γ.K = K) (hfx : Γ.fx = [0]) (S : FnScope N ps (defScope st)) (hnp : fd.np = ps.length) (hnn : fd.nn = N.length) (hle : fd.np ≤ fd.nn)
    (hb : BSs Γ (defScope st) (fun _ => true) (defBody st) fd.body) (hfns : ∀ g x m, Γ.T[g]? = some x → Γ.ar g m = true → FnFact P w K mg base Γ.cl Γ.lv x (Γ.fi g m)) (hfio : ∀ g x, Γ.T[g]? = some x → Γ.ion g ≠ 0 → FnFactIO P w K mg base Γ.lv x (Γ.ion g) (Γ.Ψ g)) (hblt : ∀ x ∈ bltNames, mg x = none) :
    FnOk P w K mg base (L2.CX P w) (Γ.lv + 1) f fdat ps (spB Γ.cl fd.np (fnPu Γ.Ψ fd)) :=
  F.okX S (len_spB hnp) fun cdv A outer s H vs Q E hr h => body_pu hN hK hfx S hnn hle hb hfns hfio hblt hr h
theorem fn_noIO {np : Nat} {sem : FnSem} {k : Nat} {f : Addr} {fdat : FuncData} {ps : List Str} (hnp : np = ps.length) (h : ∀ ds n Q R, ¬ sem ds n Q R) : FnOk P w K mg base (L2.CX P w) k f fdat ps (spIO np sem) :=
  ⟨fun vs H Q E x => x.1.trans hnp, fun A outer s H args us vs Q E hr he hb hv ⟨_, W, Vt, n, a, rest, d0, ds, _, _, _, _, _, Qd, hs, _⟩ => (h _ n Qd noR hs).elim⟩
/-- nothing is promised -/
theorem fn_no {cl : Nat → Value} {np : Nat} {sem : FnSem} {k : Nat} {f : Addr} {fdat : FuncData} {ps : List Str} (hnp : np = ps.length) (h : ∀ ds n Q R, ¬ sem ds n Q R) : FnOk P w K mg base (L2.CX P w) k f fdat ps (spB cl np sem) :=
  ⟨len_spB hnp, fun A outer s H args us vs Q E hr he hb hv ⟨_, W, Vt, n, ds, _, _, Qd, Rd, hs, _⟩ => (h ds n Qd Rd hs).elim⟩
end
end Vm
/-! Vm20: all defs of a row, by levels of calls. -/
namespace Vm
open PySem PySem.Spec L2
inductive Kd where
  | plain | io | pu
  deriving DecidableEq
/-- a def, as the text and as the small language have it -/
structure Tf where
  nm : Str
  st : Stmt
  N : List Str
  ps : List Str
  fd : Fd
  kind : Kd
  dvs : List V
  dfl : List D
/-- a row's defs; cus: what some of them do beyond the small language -/
structure Tab where
  T : List Str
  tf : Nat → Tf
  cus : Nat → Option ((Nat → FnSem) → FnSem)
section
variable (B : Tab)
def Tab.ion (f : Nat) : Nat := if f < B.T.length then (match (B.tf f).kind with | .io => (B.tf f).ps.length | _ => 0) else 0
def Tab.ar (f m : Nat) : Bool := decide (f < B.T.length) && (match (B.tf f).kind with | .io => false | _ => true) && decide (m ≤ (B.tf f).ps.length) && decide ((B.tf f).ps.length ≤ m + (B.tf f).dfl.length)
def kdSem (k : Kd) (Ψ : Nat → FnSem) (fd : Fd) (dfl : List D) : FnSem :=
  match k with
  | .plain => fnD Ψ fd dfl
  | .io => fnIO Ψ fd
  | .pu => fnPu Ψ fd
def Tab.step (Ψ : Nat → FnSem) (f : Nat) : FnSem := fun ds n Q R => f < B.T.length ∧
  match B.cus f with
  | some s => s Ψ (ds ++ (B.tf f).dfl.drop (ds.length + (B.tf f).dfl.length - (B.tf f).ps.length)) n Q R
  | none => kdSem (B.tf f).kind Ψ (B.tf f).fd (B.tf f).dfl ds n Q R
/-- what a def does, where so many calls may lie within one another -/
def Tab.sem : Nat → Nat → FnSem
  | 0 => fun _ _ _ _ _ => False
  | k + 1 => B.step (Tab.sem k)
def CusMono (B : Tab) : Prop := ∀ f s, B.cus f = some s → ∀ Ψ, MonoF Ψ → ∀ ds n (Q Q' : D → Nat → Prop) (R R' : RK), (∀ d m, Q d m → Q' d m) → (∀ c d m, R c d m → R' c d m) → s Ψ ds n Q R → s Ψ ds n Q' R'
theorem Tab.mono (h : CusMono B) : ∀ k, MonoF (B.sem k)
  | 0 => fun _ _ _ _ _ _ _ _ _ w => w.elim
  | k + 1 => fun f ds n Q Q' R R' hq hr w => by
    have ih := Tab.mono h k
    refine ⟨w.1, ?_⟩
    have w2 := w.2
    cases e : B.cus f with
    | some s =>
      rw [e] at w2
      exact h f s e _ ih _ n Q Q' R R' hq hr w2
    | none =>
      rw [e] at w2
      have w2 : kdSem (B.tf f).kind (B.sem k) (B.tf f).fd (B.tf f).dfl ds n Q R := w2
      show kdSem (B.tf f).kind (B.sem k) (B.tf f).fd (B.tf f).dfl ds n Q' R'
      cases ek : (B.tf f).kind with
      | plain => rw [ek] at w2; exact fnD_mono ih _ _ ds n Q Q' R R' hq hr w2
      | io => rw [ek] at w2; exact fnIO_mono ih _ ds n Q Q' R R' hq w2
      | pu => rw [ek] at w2; exact fnPu_mono ih _ ds n Q Q' R R' hq w2
/-- what the checks say of one def -/
def tfOk (T : List Str) (ar : Nat → Nat → Bool) (ion : Nat → Nat) (t : Tf) : Bool :=
  decide (t.fd.np = t.ps.length) && decide (t.fd.nn = t.N.length) && decide (t.fd.np ≤ t.fd.nn) && C8.scC t.N t.ps (defScope t.st) &&
  topK ⟨t.N, T, (match t.kind with | .plain => [] | _ => [0]), ar, ion⟩ (defScope t.st) (fun _ => true) t.fd.body (defBody t.st)
/-- .. and of its defaults -/
def dflOk (t : Tf) : Prop := t.dfl.length ≤ t.ps.length ∧ (t.kind ≠ .plain → t.dfl = []) ∧ FlatVs t.dvs t.dfl
end
/-- what stands of them behind the top -/
structure Facts (K : PySem.W.Frag) (mg : Str → Option Value) (B : Tab) (adr : Nat → Addr) (fdt : Nat → FuncData) : Prop where
  mg : ∀ f, f < B.T.length → mg (B.tf f).nm = some (.ref (adr f))
  nm : ∀ f x, B.T[f]? = some x → (B.tf f).nm = x
  kp : ∀ f, f < B.T.length → PySem.W.keepIn K (.ref (adr f)) = true
  fn : ∀ f, f < B.T.length → FunD K (B.tf f).nm (B.tf f).nm (defArgs (B.tf f).st) (defBody (B.tf f).st) (defScope (B.tf f).st) (B.tf f).dvs [] (adr f) (fdt f)
  bd : ∀ f, f < B.T.length → ∀ m, m ≤ (B.tf f).ps.length → (B.tf f).ps.length ≤ m + (B.tf f).dfl.length → ∃ ds, Vals ((B.tf f).dvs.drop (m + (B.tf f).dfl.length - (B.tf f).ps.length)) ds ∧ Binds K (fdt f) (B.tf f).ps ds
  dfl : ∀ f, f < B.T.length → dflOk (B.tf f)
theorem FlatVs.drop : ∀ {vs : List V} {ds : List D} (n : Nat), FlatVs vs ds → FlatVs (vs.drop n) (ds.drop n)
  | _, _, 0, h => h
  | _, _, _ + 1, .nil => .nil
  | _, _, n + 1, .cons _ r => FlatVs.drop n r

section
variable {P : Program} {w : World} {K : PySem.W.Frag} {mg : Str → Option Value} {base : Heap} {B : Tab} {adr : Nat → Addr} {fdt : Nat → FuncData}
def clN : Nat → Value := fun _ => .none
/-- the promise of a def at a level -/
def Tab.sp (B : Tab) (k f : Nat) : Sp := match (B.tf f).kind with
  | .io => spIO (B.tf f).ps.length (B.sem k f)
  | _ => spB clN (B.tf f).ps.length (B.sem k f)
def gaOf (K : PySem.W.Frag) (B : Tab) (hm : CusMono B) (hd : ∀ f, f < B.T.length → dflOk (B.tf f)) (hcus : ∀ f s, B.cus f = some s → (B.tf f).kind = .plain) (k : Nat) (N : List Str) (fx : List Nat) (hnp : ∀ f, f < B.T.length → (B.tf f).fd.np = (B.tf f).ps.length) : Ga where
  T := B.T
  Ψ := B.sem k
  N := N
  lv := k
  K := K
  cl := clN
  ar := B.ar
  fi := fun f m => ⟨(B.tf f).ps.length, B.sem k f, (B.tf f).dvs.drop (m + (B.tf f).dfl.length - (B.tf f).ps.length), (B.tf f).dfl.drop (m + (B.tf f).dfl.length - (B.tf f).ps.length)⟩
  mono := B.mono hm k
  fx := fx
  ion := B.ion
  fiOk := fun f m h => by
    unfold Tab.ar at h
    simp only [Bool.and_eq_true, decide_eq_true_eq] at h
    obtain ⟨⟨⟨h1, h0⟩, h2⟩, h3⟩ := h
    obtain ⟨d1, d2, d3⟩ := hd f h1
    refine ⟨d3.drop _, by show m + ((B.tf f).dfl.drop _).length = (B.tf f).ps.length; rw [List.length_drop]; omega, fun args n Q R hl w => ?_⟩
    subst hl
    cases k with
    | zero => exact w.elim
    | succ k =>
      refine ⟨w.1, ?_⟩
      have w2 := w.2
      have hz : ((B.tf f).dfl.drop ((args ++ (B.tf f).dfl.drop (args.length + (B.tf f).dfl.length - (B.tf f).ps.length)).length + (B.tf f).dfl.length - (B.tf f).ps.length)) = [] := by
        refine List.drop_of_length_le ?_
        rw [List.length_append, List.length_drop]
        omega
      cases e : B.cus f with
      | some s =>
        rw [e] at w2
        show s (B.sem k) ((args ++ (B.tf f).dfl.drop (args.length + (B.tf f).dfl.length - (B.tf f).ps.length)) ++ (B.tf f).dfl.drop _) n Q R
        rw [hz, List.append_nil]
        exact w2
      | none =>
        rw [e] at w2
        have w2 : kdSem (B.tf f).kind (B.sem k) (B.tf f).fd (B.tf f).dfl args n Q R := w2
        show kdSem (B.tf f).kind (B.sem k) (B.tf f).fd (B.tf f).dfl (args ++ (B.tf f).dfl.drop (args.length + (B.tf f).dfl.length - (B.tf f).ps.length)) n Q R
        cases ek : (B.tf f).kind with
        | plain =>
          rw [ek] at w2
          show fnW (B.sem k) (B.tf f).fd ((args ++ (B.tf f).dfl.drop (args.length + (B.tf f).dfl.length - (B.tf f).ps.length)) ++ (B.tf f).dfl.drop ((args ++ (B.tf f).dfl.drop (args.length + (B.tf f).dfl.length - (B.tf f).ps.length)).length + (B.tf f).dfl.length - (B.tf f).fd.np)) n Q R
          rw [hnp f h1, hz, List.append_nil]
          have w3 : fnW (B.sem k) (B.tf f).fd (args ++ (B.tf f).dfl.drop (args.length + (B.tf f).dfl.length - (B.tf f).fd.np)) n Q R := w2
          rw [hnp f h1] at w3
          exact w3
        | io =>
          rw [ek] at w2
          rw [d2 (by rw [ek]; intro z; cases z), List.drop_nil, List.append_nil]
          rw [d2 (by rw [ek]; intro z; cases z)] at w2
          exact w2
        | pu =>
          rw [ek] at w2
          rw [d2 (by rw [ek]; intro z; cases z), List.drop_nil, List.append_nil]
          rw [d2 (by rw [ek]; intro z; cases z)] at w2
          exact w2
theorem tfOk_np {T : List Str} {ar : Nat → Nat → Bool} {ion : Nat → Nat} {t : Tf} (h : tfOk T ar ion t = true) : t.fd.np = t.ps.length := by
  unfold tfOk at h
  simp only [Bool.and_eq_true, decide_eq_true_eq] at h
  exact h.1.1.1.1
/-- EVERY def at every level; hc: those beyond the small language -/
theorem levels (F : Facts K mg B adr fdt) (hm : CusMono B) (hcus : ∀ f s, B.cus f = some s → (B.tf f).kind = .plain) (hck : ∀ f, f < B.T.length → B.cus f = none → tfOk B.T B.ar B.ion (B.tf f) = true) (hnp : ∀ f, f < B.T.length → (B.tf f).fd.np = (B.tf f).ps.length) (hblt : ∀ x ∈ bltNames, mg x = none)
    (hc : ∀ f s, f < B.T.length → B.cus f = some s → ∀ k, (∀ g x m, B.T[g]? = some x → B.ar g m = true → FnFact P w K mg base clN k x ((gaOf K B hm F.dfl hcus k [] [] hnp).fi g m)) →
      FnOk P w K mg base (L2.CX P w) (k + 1) (adr f) (fdt f) (B.tf f).ps (spB clN (B.tf f).ps.length (B.sem (k + 1) f))) :
    ∀ k f, f < B.T.length → FnOk P w K mg base (L2.CX P w) k (adr f) (fdt f) (B.tf f).ps (B.sp k f) := by
  intro k
  induction k with
  | zero =>
    intro f hf
    unfold Tab.sp
    split
    · exact fn_noIO rfl fun ds n Q R z => z
    · exact fn_no rfl fun ds n Q R z => z
  | succ k ih =>
    have hfns : ∀ g x m, B.T[g]? = some x → B.ar g m = true → FnFact P w K mg base clN k x ((gaOf K B hm F.dfl hcus k [] [] hnp).fi g m) := by
      intro g x m hx har
      have hg : g < B.T.length := (List.getElem?_eq_some_iff.mp hx).1
      have har' := har
      unfold Tab.ar at har
      simp only [Bool.and_eq_true, decide_eq_true_eq] at har
      obtain ⟨⟨⟨_, h0⟩, h2⟩, h3⟩ := har
      obtain ⟨ds, v1, v2⟩ := F.bd g hg m h2 h3
      have hn := F.nm g x hx
      have ok := ih g hg
      refine ⟨adr g, fdt g, (B.tf g).ps, ds, ?_, by rw [← hn]; exact F.mg g hg, F.kp g hg, v2, v1⟩
      unfold Tab.sp at ok
      split at ok
      · rename_i e; rw [e] at h0; cases h0
      · exact ok
    have hfio : ∀ g x, B.T[g]? = some x → B.ion g ≠ 0 → FnFactIO P w K mg base k x (B.ion g) (B.sem k g) := by
      intro g x hx hio
      have hg : g < B.T.length := (List.getElem?_eq_some_iff.mp hx).1
      unfold Tab.ion at hio ⊢
      rw [if_pos hg] at hio ⊢
      split at hio
      · rename_i e
        have ok := ih g hg
        unfold Tab.sp at ok
        rw [e] at ok
        obtain ⟨ds, v1, v2⟩ := F.bd g hg (B.tf g).ps.length (Nat.le_refl _) (Nat.le_add_right _ _)
        have hn := F.nm g x hx
        have hz : (B.tf g).dvs.drop ((B.tf g).ps.length + (B.tf g).dfl.length - (B.tf g).ps.length) = [] := by
          obtain ⟨d1, d2, d3⟩ := F.dfl g hg
          refine List.drop_of_length_le ?_
          rw [d3.length]; omega
        rw [hz] at v1
        cases v1
        exact ⟨adr g, fdt g, (B.tf g).ps, ok, by rw [← hn]; exact F.mg g hg, F.kp g hg, v2⟩
      · exact absurd rfl hio
    intro f hf
    cases e : B.cus f with
    | some s =>
      have := hc f s hf e k hfns
      unfold Tab.sp
      rw [hcus f s e]
      exact this
    | none =>
      have hck' := hck f hf e
      unfold tfOk at hck'
      simp only [Bool.and_eq_true, decide_eq_true_eq] at hck'
      obtain ⟨⟨⟨⟨c1, c2⟩, c3⟩, c4⟩, c5⟩ := hck'
      have S := C8.fnScope_by c4
      have hs : B.sem (k + 1) f = fun ds n Q R => f < B.T.length ∧ kdSem (B.tf f).kind (B.sem k) (B.tf f).fd (B.tf f).dfl ds n Q R := by
        funext ds n Q R
        show (f < B.T.length ∧ match B.cus f with | some s => _ | none => _) = _
        rw [e]
      unfold Tab.sp
      rw [hs]
      cases ek : (B.tf f).kind with
      | plain =>
        rw [ek] at c5
        have hb := topK_ok (Γ := gaOf K B hm F.dfl hcus k (B.tf f).N [] hnp) (C := ⟨(B.tf f).N, B.T, [], B.ar, B.ion⟩) ⟨rfl, rfl, rfl, rfl, rfl⟩ _ _ c5
        have := fn_plainD (P := P) (w := w) (base := base) (mg := mg) (Γ := gaOf K B hm F.dfl hcus k (B.tf f).N [] hnp) (F.fn f hf) rfl rfl S c1 c2 c3 hb hfns hfio hblt
        refine this.imp fun vs H Q E x => ?_
        obtain ⟨h1, W, Vt, n, ds, h2, h3, Qd, Rd, h4, h5⟩ := x
        refine ⟨h1.trans c1.symm, W, Vt, n, ds, h2, h3, Qd, Rd, ?_, h5⟩
        have h6 : fnW (B.sem k) (B.tf f).fd (ds ++ (B.tf f).dfl.drop (ds.length + (B.tf f).dfl.length - (B.tf f).fd.np)) n Qd Rd := h4.2
        rw [show (B.tf f).dfl.drop (ds.length + (B.tf f).dfl.length - (B.tf f).fd.np) = [] from List.drop_of_length_le (by rw [← h3.length, h1, c1]; omega), List.append_nil] at h6
        exact h6
      | io =>
        rw [ek] at c5
        have hb := topK_ok (Γ := gaOf K B hm F.dfl hcus k (B.tf f).N [0] hnp) (C := ⟨(B.tf f).N, B.T, [0], B.ar, B.ion⟩) ⟨rfl, rfl, rfl, rfl, rfl⟩ _ _ c5
        have Fd := F.fn f hf
        have := Fd.ok (P := P) (w := w) (base := base) (mg := mg) (CX := L2.CX P w) (k := k) S (sp := spIO (B.tf f).fd.np (fnIO (B.sem k) (B.tf f).fd)) (fun vs H Q E x => x.1.trans c1) fun cdv A outer s H vs Q E hr h =>
          body_io (Γ := gaOf K B hm F.dfl hcus k (B.tf f).N [0] hnp) rfl rfl rfl S c2 c3 hb hfns hfio hblt hr h
        refine this.imp fun vs H Q E x => ?_
        obtain ⟨h1, W, Vt, n, a, rest, d0, ds, h2, h3, h4, h5, h6, Qd, h7, h8⟩ := x
        exact ⟨h1.trans c1.symm, W, Vt, n, a, rest, d0, ds, h2, h3, h4, h5, h6, Qd, h7.2, h8⟩
      | pu =>
        rw [ek] at c5
        have hb := topK_ok (Γ := gaOf K B hm F.dfl hcus k (B.tf f).N [0] hnp) (C := ⟨(B.tf f).N, B.T, [0], B.ar, B.ion⟩) ⟨rfl, rfl, rfl, rfl, rfl⟩ _ _ c5
        have Fd := F.fn f hf
        have := Fd.ok (P := P) (w := w) (base := base) (mg := mg) (CX := L2.CX P w) (k := k) S (sp := spB clN (B.tf f).fd.np (fnPu (B.sem k) (B.tf f).fd)) (fun vs H Q E x => x.1.trans c1) fun cdv A outer s H vs Q E hr h =>
          body_pu (Γ := gaOf K B hm F.dfl hcus k (B.tf f).N [0] hnp) rfl rfl rfl S c2 c3 hb hfns hfio hblt hr h
        refine this.imp fun vs H Q E x => ?_
        obtain ⟨h1, W, Vt, n, ds, h2, h3, Qd, Rd, h4, h5⟩ := x
        exact ⟨h1.trans c1.symm, W, Vt, n, ds, h2, h3, Qd, Rd, h4.2, h5⟩
end
end Vm
/-! Vm21: what sees the script: _law_purse, _law_purses. -/
namespace Vm
open PySem PySem.Spec L2
open PyProof.Rows (envOfC)

/-- a new purse is told -/
def spPurse (K : PySem.W.Frag) : Sp := fun vs H Q _ => ∃ (a : Addr) (ns : List Int) (i : Int), vs = [.ref a, .int i] ∧ SqL K H a (ns.map V.int) ∧ 0 ≤ i ∧ i ≤ 63 ∧
  ∀ (p : Addr) (H' : Hp), H p = none → (∀ b o, H b = some o → H' b = some o) → PurseAt 0 H' p → Q (.ref p) H'
/-- .. its last statement -/
def bP : Sm := .scons (.retP (.lst (.econs (.bin .mod (.blt .int (.econs (.blt .max2 (.econs (.bin .sub (.var 2) (.bin .pow (.int 10) (.int 18))) (.econs (.int 0) .enil))) .enil)) (.bin .pow (.bin .pow (.int 10) (.int 60)) (.int 8)))
  (.econs (.bin .mod (.blt .int (.econs (.var 2) .enil)) (.int 2147483629)) (.econs (.int 0) (.econs (.var 1) .enil)))))) .snil
def NP : List Str := ["script", "at", "seed"]
theorem bP_ok {Ψ : Nat → FnSem} {i s : Int} {Q : D → Nat → Prop} (h0 : 0 ≤ i) (h1 : i ≤ 63) (q : Q .pur 0) : wpS Ψ noR bP [.dead, .pure (.int i), .pure (.int s)] 0 { nx := fun _ _ => False, rt := fun _ d n => Q d n } := by
  have e1 : (10 : Int) ^ (18 : Int).toNat = 10 ^ 18 := rfl
  have hb : (0 : Int) ≤ 18 ∧ ((Builtin.Int.intBits 10 : Nat) : Int) * 18 ≤ 2 ^ 27 := by decide +kernel
  have hb2 : (0 : Int) ≤ 60 ∧ ((Builtin.Int.intBits 10 : Nat) : Int) * 60 ≤ 2 ^ 27 := by decide +kernel
  have hb3 : (0 : Int) ≤ 8 ∧ ((Builtin.Int.intBits (10 ^ (60 : Int).toNat) : Nat) : Int) * 8 ≤ 2 ^ 27 := by decide +kernel
  have pp : (0 : Int) < (10 ^ (60 : Int).toNat) ^ (8 : Int).toNat := by decide +kernel
  unfold bP
  simp only [wpS, wpE, wpL, Sl.read, Sl.take, reads, takes, binW, bltW, List.getD, List.getElem?_cons_succ, List.getElem?_cons_zero, Option.getD_some]
  refine ⟨hb, hb2, hb3, pp, by decide, ⟨by show 4 ≤ sizeLine; decide, ?_⟩⟩
  refine ⟨⟨Int.emod_nonneg _ (by omega), ?_, Int.emod_nonneg _ (by decide), Int.emod_lt_of_pos _ (by decide), Int.le_refl _, by decide, h0, h1⟩, q⟩
  have := Int.emod_lt_of_pos (if 0 > s - 10 ^ (18 : Int).toNat then 0 else s - 10 ^ (18 : Int).toNat) pp
  have e : ((10 : Int) ^ (60 : Int).toNat) ^ (8 : Int).toNat = 10 ^ 480 := by decide +kernel
  rw [e] at this
  rw [e]
  exact this

section
variable {P : Program} {w : World} {K : PySem.W.Frag} {mg : Str → Option Value} {base : Heap}
def gaP (K : PySem.W.Frag) (k : Nat) (N : List Str) : Ga where
  T := []
  Ψ := fun _ _ _ _ _ => False
  N := N
  lv := k
  K := K
  cl := clN
  ar := fun _ _ => false
  fi := fun _ _ => ⟨0, fun _ _ _ _ => False, [], []⟩
  mono := fun _ _ _ _ _ _ _ _ _ z => z.elim
  fiOk := fun _ _ h => nomatch h
def ckP (N : List Str) : CkD := ⟨N, [], [], fun _ _ => false, fun _ => 0⟩
theorem ckP_of (k : Nat) (N : List Str) : (ckP N).Of (gaP K k N) := ⟨rfl, rfl, rfl, rfl, rfl⟩
theorem good_cx {N ps : List Str} {qual : Str} {sc : Scope} {f : Addr} {cdv : Value} {A : Around} {outer : List Env} {s : Shared} {H : Hp} {E : XK} {Γ : Ga} (hK : Γ.K = K) (hN : Γ.N = N) (S : FnScope N ps sc)
    (hfns : ∀ g x m, Γ.T[g]? = some x → Γ.ar g m = true → FnFact P w K mg base Γ.cl Γ.lv x (Γ.fi g m)) (hfio : ∀ g x, Γ.T[g]? = some x → Γ.ion g ≠ 0 → FnFactIO P w K mg base Γ.lv x (Γ.ion g) (Γ.Ψ g)) (hblt : ∀ x ∈ bltNames, mg x = none)
    (hr : Room Γ.lv (A.deeper (envOfC qual sc s.heap.objs.size f cdv))) : GoodS Γ sc (fun _ => true) E (cxOf (L2.CX P w) P w K mg base N qual sc f cdv A outer s H E) := by
  have hx : ∀ (pins : List (Addr × Obj)) (σ : L2.St) (Hq : Hp) (sq : Shared) (e : Value) (s' : Shared), Inv (cxOf (L2.CX P w) P w K mg base N qual sc f cdv A outer s H E) pins σ Hq sq →
      L2.CX P w (cxOf (L2.CX P w) P w K mg base N qual sc f cdv A outer s H E).stack Hq sq E e s' → (cxOf (L2.CX P w) P w K mg base N qual sc f cdv A outer s H E).xe e s' :=
    passes_call (X := cxOf (L2.CX P w) P w K mg base N qual sc f cdv A outer s H E) (takes_of rfl rfl rfl rfl) fun _ _ _ _ z => z
  exact { K := hK.symm, N := hN.symm, nd := S.nd, sc := rfl, fn := rfl, calm := rfl, room := hr, fns := hfns, fio := hfio, blt := hblt, pas := hx, owns := passes_of rfl }
theorem cut_ints (ns : List Int) (lo hi : Option Int) : ∃ ms : List Int, cutV (ns.map V.int) lo hi = ms.map V.int := by
  unfold cutV
  rw [← List.map_drop, ← List.map_take]
  exact ⟨_, rfl⟩
theorem purse_ok {k kk : Nat} {st : Stmt} {f : Addr} {fdat : FuncData} {nm : Str} {dvs : List V} {kws : List (Str × V)} {p1 p2 p3 p4 p5 p6 p7 p8 p9 p10 p11 : Pos} {s2 : List Stmt} (F : FunD K nm nm (defArgs st) (defBody st) (defScope st) dvs kws f fdat) (S : FnScope NP ["script", "at"] (defScope st))
    (hbody : defBody st = .Assign [.Name "seed" p1] (.Call (.Name "sum" p2) [.Subscript (.Name "script" p3) (.Slice (some (.Name "at" p4)) (some (.BinOp (.Name "at" p5) .Add (.Constant (.int 1) kk p6) p7)) none p8) p9] [] p10) p11 :: s2)
    (h1 : localB (defScope st) "seed" = true) (h2 : vis (defScope st) "script" = true) (h3 : vis (defScope st) "at" = true) (h4 : gbl (defScope st) "sum" = true)
    (hck : scK (ckP NP) 30 (defScope st) (fun _ => true) (.ss s2 bP) = true) (hblt : ∀ x ∈ bltNames, mg x = none) :
    FnOk P w K mg base (L2.CX P w) (k + 1) f fdat ["script", "at"] (spPurse K) := by
  refine F.ok S (fun vs H Q E h => ?_) (fun cdv A outer s H vs Q E hr h => ?_)
  · obtain ⟨a, ns, i, rfl, _⟩ := h
    rfl
  obtain ⟨a, ns, i, rfl, hS, hi0, hi1, hQ⟩ := h
  have good := good_cx (P := P) (w := w) (mg := mg) (base := base) (Γ := gaP K k NP) (E := E) (H := H) (s := s) (outer := outer) (cdv := cdv) (f := f) (qual := nm) rfl rfl S (fun g x m e => nomatch e) (fun g x e => nomatch e) hblt hr
  obtain ⟨t2, p2', s2'⟩ := scK_ok (ckP_of k NP) 30 _ _ _ hck
  rw [hbody]
  have g := good.toGood
  have pv : ∀ {j : Nat} {x : Str} {p : Pos}, NP[j]? = some x → vis (defScope st) x = true → (x == ("__debug__" : Str)) = false → (x == ("__classdict__" : Str)) = false → PE _ (.Name x p) (tVar j) := fun e v d c => pe_var (X := cxOf (L2.CX P w) P w K mg base NP nm (defScope st) f cdv A outer s H E) e (vis_of v) d c
  refine ⟨_, pss_cons (ps_set (i := 2) S.nd rfl (.inl (localB_of h1)) (pe_callB (cr_sum rfl) (gbl_of g h4) (g.blt _ (by decide +kernel)) (by decide +kernel)
    (pa_cons (pe_slice sl_list (pv (j := 0) rfl h2 (by decide +kernel) (by decide +kernel)) (po_some (pv (j := 1) rfl h3 (by decide +kernel) (by decide +kernel))) (po_some (pe_op op_add (pv (j := 1) rfl h3 (by decide +kernel) (by decide +kernel)) pe_int))) pa_nil) (by decide +kernel) (by decide +kernel)) rfl) (p2' E _ good), ?_⟩
  obtain ⟨ms, hm⟩ := cut_ints ns (some i) (some (i + 1))
  refine ⟨.ref a, rfl, .int i, rfl, i, rfl, .int i, rfl, i, 1, rfl, rfl, i + 1, rfl, a, _, rfl, hS, fun p hp => ?_⟩
  rw [hm]
  refine ⟨p, ms, rfl, SqL.of upd_same, ?_⟩
  let H1 := upd H p (.lst (ms.map V.int))
  have kp : ∀ b o, H b = some o → H1 b = some o := fun b o e => by
    show upd H p _ b = _
    rw [upd_ne (ne_of_none e hp)]; exact e
  let W : Wd := ⟨fun _ => False, fun b => H1 b ≠ none⟩
  let B : Ent := ⟨W, H1, fun _ => False, [some (.ref a), some (.int i), some (.int ms.sum)], fun _ => False, fun _ _ _ => True, fun _ _ => True.intro, fun _ z => z.elim⟩
  have est : ESt W H1 (fun _ => False) 0 := ⟨fun _ z => z.elim, fun _ z => z, fun _ z => z.elim, fun _ z => z.elim⟩
  have sl : SlotsOk W H1 (fun _ => False) [some (.ref a), some (.int i), some (.int ms.sum)] [.dead, .pure (.int i), .pure (.int ms.sum)] := by
    refine ⟨rfl, fun j s e ne => ?_, fun j d c e1 _ => ?_, fun j l c d d' e1 _ _ _ => ?_⟩
    · match j, e with
      | 0, e => cases e; exact absurd rfl ne
      | 1, e => cases e; exact ⟨_, rfl, .int _⟩
      | 2, e => cases e; exact ⟨_, rfl, .int _⟩
      | j + 3, e => simp at e
    · match j, e1 with
      | 0, e => cases e
      | 1, e => cases e
      | 2, e => cases e
      | j + 3, e => simp at e
    · match j, e1 with
      | 0, e => cases e
      | 1, e => cases e
      | 2, e => cases e
      | j + 3, e => simp at e
  have bd : Bd (gaP K k NP) B W H1 (fun _ => False) 0 [some (.ref a), some (.int i), some (.int ms.sum)] [.dead, .pure (.int i), .pure (.int ms.sum)] := by
    have hpo : PO [.dead, .pure (.int i), .pure (.int ms.sum)] := fun j s e ne => by
      match j, e with
      | 0, e => cases e; exact absurd rfl ne
      | 1, e => cases e; exact .inl ⟨_, rfl⟩
      | 2, e => cases e; exact .inl ⟨_, rfl⟩
      | j + 3, e => simp at e
    refine ⟨est, sl, rfl, fun _ z => z, .refl, fun j d c e1 _ => ?_, (fun j hj => nomatch hj), True.intro, PO.nob hpo, PO.dps hpo⟩
    · match j, e1 with
      | 0, e => cases e
      | 1, e => cases e
      | 2, e => cases e
      | j + 3, e => simp at e
  refine s2' B W H1 (fun _ => False) 0 _ _ E noR { nx := fun _ _ => False, rt := fun _ d n => d = .pur ∧ n = 0 } _ bd (fun _ _ _ _ _ _ _ _ _ _ z => z.elim) (bP_ok hi0 hi1 ⟨rfl, rfl⟩) ⟨fun _ _ _ _ _ _ _ z => z.elim, ?_, fun _ _ _ _ _ _ _ z => z.elim, fun _ _ _ _ _ _ _ z => z.elim⟩
  rintro W' H' Vt' n' σ ρ v d b r ⟨rfl, rfl⟩
  cases r with
  | @pur q hq =>
    refine hQ q H' ?_ (fun b' o e => b.gr.keep b' o (kp b' o e) (fun z => z) (fun z => z)) (b.est.pur q hq)
    rcases b.gr.new q hq with z | z
    · exact z.elim
    · refine none_of (H := H) (H1 := H1) (fun c hc => ?_) z
      cases e : H c with
      | none => exact absurd e hc
      | some o => rw [kp c o e]; simp

/-- the purses -/
def spPurses (K : PySem.W.Frag) : Sp := fun vs H Q _ => ∃ (a : Addr) (ns : List Int) (few : Int), vs = [.ref a, .int few] ∧ SqL K H a (ns.map V.int) ∧ ns.length ≤ 63 ∧ few ≤ 63 ∧
  ∀ (L : Addr) (qs : List Addr) (H' : Hp) (Vt' : Addr → Prop), Grow H (fun _ => False) H' Vt' → (∀ a, Vt' a → PurseAt 0 H' a) → H L = none → ¬ Vt' L → H' L = some (.lst (qs.map V.ref)) → (∀ q ∈ qs, Vt' q) → qs.length ≤ 63 → Q (.ref L) H'
theorem SqL.keep {H H' : Hp} {a : Addr} {xs : List V} (h : SqL K H a xs) (k : ∀ b o, H b = some o → H' b = some o) : SqL K H' a xs := by
  rcases h with (h | ⟨f, h⟩) | h
  · exact .inl (.inl (k _ _ h))
  · exact .inl (.inr ⟨f, k _ _ h⟩)
  · exact .inr h
def NQ : List Str := ["script", "few", "at"]
theorem purses_ok {k k1 : Nat} {st : Stmt} {f fp : Addr} {fdat fdp : FuncData} {nm : Str} {dvs : List V} {kws : List (Str × V)} {scope : Scope} {q1 q2 q3 q4 q5 q6 q7 q8 q9 q10 q11 q12 q13 q14 q15 q16 q17 q18 : Pos}
    (F : FunD K nm nm (defArgs st) (defBody st) (defScope st) dvs kws f fdat) (S : FnScope NQ ["script", "few"] (defScope st))
    (hbody : defBody st = [.Return (some (.ListComp (.Call (.Name "_law_purse" q1) [.Name "script" q2, .Name "at" q3] [] q4) [⟨.Name "at" q5, .Call (.Name "range" q6) [.Call (.Name "max" q7) [.Constant (.int 1) k1 q8, .Call (.Name "min" q9) [.Name "few" q10, .Call (.Name "len" q11) [.Name "script" q12] [] q13] [] q14] [] q15] [] q16, [], 0⟩] scope q17)) q18])
    (hsc : vis (defScope st) "script" = true ∧ vis (defScope st) "few" = true ∧ gbl (defScope st) "range" = true ∧ gbl (defScope st) "max" = true ∧ gbl (defScope st) "min" = true ∧ gbl (defScope st) "len" = true)
    (hblk : blkC NQ (defScope st) scope [("at", 2)] = true) (hin : vis (scB scope (defScope st)) "script" = true ∧ vis (scB scope (defScope st)) "at" = true ∧ gbl (scB scope (defScope st)) "_law_purse" = true ∧ locB (scB scope (defScope st)) (fnB scope) "at" = true)
    (hblt : ∀ x ∈ bltNames, mg x = none) (FP : FnOk P w K mg base (L2.CX P w) k fp fdp ["script", "at"] (spPurse K)) (hmp : mg "_law_purse" = some (.ref fp)) (hkp : PySem.W.keepIn K (.ref fp) = true) (hbp : Binds K fdp ["script", "at"] []) :
    FnOk P w K mg base (L2.CX P w) (k + 1) f fdat ["script", "few"] (spPurses K) := by
  refine F.ok S (fun vs H Q E h => ?_) (fun cdv A outer s H vs Q E hr h => ?_)
  · obtain ⟨a, ns, i, rfl, _⟩ := h
    rfl
  obtain ⟨a, ns, few, rfl, hS, hns, hfew, hQ⟩ := h
  have good := good_cx (P := P) (w := w) (mg := mg) (base := base) (Γ := gaP K k NQ) (E := E) (H := H) (s := s) (outer := outer) (cdv := cdv) (f := f) (qual := nm) rfl rfl S (fun g x m e => nomatch e) (fun g x e => nomatch e) hblt hr
  rw [hbody]
  have g := good.toGood
  have pv : ∀ {j : Nat} {x : Str} {p : Pos}, NQ[j]? = some x → vis (defScope st) x = true → (x == ("__debug__" : Str)) = false → (x == ("__classdict__" : Str)) = false → PE _ (.Name x p) (tVar j) := fun e v d c => pe_var (X := cxOf (L2.CX P w) P w K mg base NQ nm (defScope st) f cdv A outer s H E) e (vis_of v) d c
  have pw : ∀ (E : XK) (Xb : Cx), Good (gaP K k NQ) (scB scope (defScope st)) (fnB scope) E Xb → ∀ (j : Nat) (x : Str) (p : Pos), NQ[j]? = some x → vis (scB scope (defScope st)) x = true → (x == ("__debug__" : Str)) = false → (x == ("__classdict__" : Str)) = false → PE Xb (.Name x p) (tVar j) := fun E Xb gb j x p e v d c => pe_var (by rw [gb.N]; exact e) (by rw [gb.sc]; exact vis_of v) d c
  have bi : ∀ {nm2 : Str} {id : String} {r : List V → Hp → VK → Prop} {e : Expr} {es : List Expr} {t : TA} {p pos : Pos}, CallR (cxOf (L2.CX P w) P w K mg base NQ nm (defScope st) f cdv A outer s H E) (.builtin id) r → gbl (defScope st) nm2 = true → nm2 ∈ bltNames → bootBuiltins nm2 = some (.builtin id) → (nm2 ≠ "__name__") → (nm2 == ("__debug__" : Str)) = false → (e :: es).all noStar = true →
      PA (cxOf (L2.CX P w) P w K mg base NQ nm (defScope st) f cdv A outer s H E) (e :: es) t → PE (cxOf (L2.CX P w) P w K mg base NQ nm (defScope st) f cdv A outer s H E) (.Call (.Name nm2 p) (e :: es) [] pos) (tCB r t) := fun hc hg hm hv h1 h2 hn ha => by
    have hn' := hn
    rw [List.all_cons, Bool.and_eq_true] at hn'
    exact pe_callB hc (gbl_of g hg) (g.blt _ hm) hv ha h1 h2 (star_cons hn'.1 _) (star_any _ _ hn'.2)
  refine ⟨_, pss_one (ps_ret (pe_lc (g := gName 2) (tt := tYes) (te := tCall (spPurse K) [] E0 (tCons (tVar 0) (tCons (tVar 2) tNil))) (own := [("at", 2)]) rfl S.nd (pi_range1 (gbl_of g hsc.2.2.1) (g.blt _ (by decide +kernel))
      (pa_cons (bi (call_bi g .max2 rfl) hsc.2.2.2.1 (by decide +kernel) (by decide +kernel) (by decide +kernel) (by decide +kernel) rfl
        (pa_cons pe_int (pa_cons (bi (call_bi g .min2 rfl) hsc.2.2.2.2.1 (by decide +kernel) (by decide +kernel) (by decide +kernel) (by decide +kernel) rfl
          (pa_cons (pv (j := 1) rfl hsc.2.1 (by decide +kernel) (by decide +kernel)) (pa_cons (bi (call_bi g .len rfl) hsc.2.2.2.2.2 (by decide +kernel) (by decide +kernel) (by decide +kernel) (by decide +kernel) rfl
            (pa_cons (pv (j := 0) rfl hsc.1 (by decide +kernel) (by decide +kernel)) pa_nil)) pa_nil))) pa_nil))) pa_nil)) (blkOk_by hblk)
    (fun s' H' C cl fp' => ?pg) (fun s' H' C cl fp' => pts_nil) (fun s' H' C cl fp' => ?pe) (fun _ => rfl))), ?_⟩
  case pg =>
    have gb := g.blk scope s' H' C cl fp'
    obtain ⟨l1, l2⟩ := loc_of gb hin.2.2.2
    exact pg_name (i := 2) gb.nd rfl l1 l2
  case pe =>
    have gb := g.blk scope s' H' C cl fp'
    exact pe_call (dvs := []) (E := E0) FP gb.room (gbl_of gb hin.2.2.1) hmp hkp hbp .nil gb.pas (pa_cons (pw _ _ gb 0 _ _ rfl hin.1 (by decide +kernel) (by decide +kernel)) (pa_cons (pw _ _ gb 2 _ _ rfl hin.2.1 (by decide +kernel) (by decide +kernel)) pa_nil)) (by decide +kernel)
  -- the reading
  have hlen : ((ns.map V.int).length : Int) = ns.length := by rw [List.length_map]
  generalize hm : (if ((ns.map V.int).length : Int) < few then ((ns.map V.int).length : Int) else few) = mn
  have hmn : mn ≤ 63 := by rw [← hm, hlen]; split <;> omega
  generalize hx : (if mn > 1 then mn else (1 : Int)) = mx
  have hmx : 1 ≤ mx ∧ mx ≤ 63 := by rw [← hx]; split <;> omega
  refine ⟨.int few, rfl, .ref a, rfl, .inl ⟨a, ns.map V.int, rfl, .inl hS, few, _, rfl, 1, mn, by rw [← hm], mx, by rw [← hx], by omega, by omega, fun A0 hA0 => ?_⟩⟩
  have big : (64 : Nat) < sizeLine := by decide
  refine lc_it (walk_range (lo := 0) (n := mx.toNat)) (fun i Hc => ∃ (Vc : Addr → Prop) (qs : List Addr), Grow H (fun _ => False) Hc Vc ∧ (∀ b, Vc b → PurseAt 0 Hc b) ∧ ¬ Vc A0 ∧ Hc A0 = some (.lst (qs.map V.ref)) ∧ (∀ q ∈ qs, Vc q) ∧ qs.length = i)
    ⟨fun _ => False, [], Grow.upd hA0, fun _ z => z.elim, fun z => z, upd_same, (fun q z => nomatch z), rfl⟩ (fun _ _ _ _ => True.intro) ?_ ?_
  · rintro i x Hc H' hi ⟨Vc, qs, gg, pp, nA, hA, hq, hl⟩ ⟨rfl, rfl⟩
    refine ⟨rfl, .ref a, rfl, .int (0 + (i : Int)), rfl, a, ns, 0 + (i : Int), rfl, SqL.keep hS (fun b o e => gg.keep b o e fun z => z), by omega, by omega, fun p H2 hp kp pu => ?_⟩
    have pA : p ≠ A0 := fun z => by rw [z, hA] at hp; cases hp
    refine ⟨qs.map V.ref, kp _ _ hA, by rw [List.length_map]; omega, fun b => Vc b ∨ b = p, qs ++ [p], ⟨fun b o e _ => ?_, fun b e => ?_, fun b z => z.elim, fun b z => ?_⟩, fun b z => ?_, fun z => z.elim nA (fun z => pA z.symm), ?_, fun q hq' => ?_, by rw [List.length_append, hl]; rfl⟩
    · rw [upd_ne (ne_of_none e hA0)]; exact kp b o (gg.keep b o e fun z => z)
    · by_cases z : b = A0
      · rw [z, upd_same]; simp
      · rw [upd_ne z]
        cases e2 : H' b with
        | none => exact absurd e2 (gg.dom b e)
        | some o => rw [kp b o e2]; simp
    · rcases z with z | z
      · exact gg.new b z
      · exact .inr (z ▸ none_of gg.dom hp)
    · have : PurseAt 0 H2 b := z.elim (fun z => by
        obtain ⟨s1, c, k2, t, h1, r⟩ := pp b z
        exact ⟨s1, c, k2, t, kp _ _ h1, r⟩) fun z => z ▸ pu
      obtain ⟨s1, c, k2, t, h1, r⟩ := this
      have ne : b ≠ A0 := fun z' => z.elim (fun z => nA (z' ▸ z)) fun z => pA (z ▸ z')
      exact ⟨s1, c, k2, t, by rw [upd_ne ne]; exact h1, r⟩
    · rw [List.map_append]; exact upd_same
    · rcases List.mem_append.mp hq' with z | z
      · exact .inl (hq q z)
      · exact .inr (by simpa using z)
  · rintro Hc ⟨Vc, qs, gg, pp, nA, hA, hq, hl⟩
    exact hQ A0 qs Hc Vc gg pp hA0 nA hA hq (by omega)
end
end Vm
/-! Vm22: the law itself. -/
namespace Vm
open PySem PySem.Spec L2
open PyProof.Rows (envOfC)
def spLaw (K : PySem.W.Frag) : Sp := fun vs H Q _ => ∃ (a : Addr) (ns : List Int), vs = [.ref a] ∧ SqL K H a (ns.map V.int) ∧ ns.length ≤ 63 ∧ ∀ H', Q (.bl true) H'
def lawρ (N j : Nat) : List Sl := (List.replicate N Sl.dead).set j (.pure .pur)
theorem lawρ_get {N j i : Nat} {s : Sl} (e : (lawρ N j)[i]? = some s) (ne : s ≠ .dead) : i = j ∧ s = .pure .pur := by
  unfold lawρ at e
  by_cases h : j = i
  · subst h
    have hl : j < N := by simpa using (List.getElem?_eq_some_iff.mp e).1
    rw [List.getElem?_set_self (by simpa using hl)] at e
    cases e; exact ⟨rfl, rfl⟩
  · rw [List.getElem?_set_ne h, List.getElem?_replicate] at e
    split at e
    · cases e; exact absurd rfl ne
    · cases e
section
variable {P : Program} {w : World} {K : PySem.W.Frag} {mg : Str → Option Value} {base : Heap}
/-- the law's loop over its purses -/
theorem law_for {Γ : Ga} {N : List Str} {j M : Nat} {st : Stmt} {f fp : Addr} {fdat fdp : FuncData} {nm : Str} {dvs : List V} {kws : List (Str × V)} {body : List Stmt} {sm : Sm} {m : Int} {k1 k2 : Nat} {p1 p2 p3 p4 p5 p6 p7 p8 : Pos}
    (hN : Γ.N = N) (hK : Γ.K = K) (hfx : Γ.fx = []) (F : FunD K nm nm (defArgs st) (defBody st) (defScope st) dvs kws f fdat) (S : FnScope N ["script"] (defScope st))
    (hbody : defBody st = [.For (.Name "purse" p1) (.Call (.Name "_law_purses" p2) [.Name "script" p3, .Constant (.int m) k1 p4] [] p5) body [] p6, .Return (some (.Constant (.bool true) k2 p7)) p8])
    (hsc : vis (defScope st) "script" = true ∧ gbl (defScope st) "_law_purses" = true ∧ locB (defScope st) (fun _ => true) "purse" = true) (hN0 : N[0]? = some ("script" : Str)) (hNj : N[j]? = some ("purse" : Str)) (hm : m ≤ 63)
    (hb : BSs Γ (defScope st) (fun _ => true) body sm)
    (hspec : ∀ n, n ≤ 64 * M → wpS Γ.Ψ noR sm (lawρ N.length j) n { nx := fun ρ' n' => ρ'.length = N.length ∧ n' ≤ n + M, ct := fun ρ' n' => ρ'.length = N.length ∧ n' ≤ n + M, rt := fun _ _ _ => False })
    (hfns : ∀ g x m, Γ.T[g]? = some x → Γ.ar g m = true → FnFact P w K mg base Γ.cl Γ.lv x (Γ.fi g m)) (hfio : ∀ g x, Γ.T[g]? = some x → Γ.ion g ≠ 0 → FnFactIO P w K mg base Γ.lv x (Γ.ion g) (Γ.Ψ g)) (hblt : ∀ x ∈ bltNames, mg x = none)
    (FP : FnOk P w K mg base (L2.CX P w) Γ.lv fp fdp ["script", "few"] (spPurses K)) (hmp : mg "_law_purses" = some (.ref fp)) (hkp : PySem.W.keepIn K (.ref fp) = true) (hbp : Binds K fdp ["script", "few"] []) :
    FnOk P w K mg base (L2.CX P w) (Γ.lv + 1) f fdat ["script"] (spLaw K) := by
  refine F.ok S (fun vs H Q E h => ?_) (fun cdv A outer s H vs Q E hr h => ?_)
  · obtain ⟨a, ns, rfl, _⟩ := h
    rfl
  obtain ⟨a, ns, rfl, hS, hns, hQ⟩ := h
  have good := good_cx (P := P) (w := w) (mg := mg) (base := base) (Γ := Γ) (E := E) (H := H) (s := s) (outer := outer) (cdv := cdv) (f := f) (qual := nm) hK hN S hfns hfio hblt hr
  rw [hbody]
  have g := good.toGood
  obtain ⟨tb, pb, sb⟩ := hb
  obtain ⟨l1, l2⟩ := loc_of g hsc.2.2
  refine ⟨_, pss_cons (ps_for good.owns rfl (pi_list (pe_call (dvs := []) (E := E) FP g.room (gbl_of g hsc.2.1) hmp hkp hbp .nil g.pas
      (pa_cons (pe_var (i := 0) hN0 (vis_of hsc.1) (by decide +kernel) (by decide +kernel)) (pa_cons pe_int pa_nil)) (by decide +kernel))) (pg_name (i := j) S.nd hNj l1 l2) (pb E _ good) (fun _ => rfl)) (pss_one (ps_ret pe_bl)), ?_⟩
  have hσ0 : (L2.start N [V.ref a])[0]? = some (some (.ref a)) := rfl
  have hl0 : (L2.start N [V.ref a]).length = N.length := by
    unfold L2.start
    rw [List.length_append, List.length_map, List.length_replicate]
    have : 0 < N.length := (List.getElem?_eq_some_iff.mp hN0).1
    simp only [List.length_cons, List.length_nil]
    omega
  refine ⟨.ref a, hσ0, a, ns, m, rfl, hS, hns, hm, fun L qs H1 V1 g1 q1 hL nL eL hq hl => ⟨L, rfl, ⟨_, SqL.of eL⟩, ?_⟩⟩
  refine for_it (walk_list (K := K) (a := L) (xs := qs.map V.ref)) (fun i σ Hc => σ.length = N.length ∧ ∃ (Vc : Addr → Prop) (n : Nat), Grow H1 V1 Hc Vc ∧ (∀ b, Vc b → PurseAt n Hc b) ∧ n ≤ i * M) ⟨hl0, V1, 0, Grow.refl, q1, Nat.zero_le _⟩ (fun i σ Hc _ ⟨_, Vc, n, gg, _⟩ => SqL.of (gg.keep L _ eL nL)) ?_ ?_
  · rintro i x σ Hc H' hi ⟨hlen, Vc, n, gg, pp, hn⟩ ⟨e1, e2⟩
    subst e1
    rw [List.length_map] at hi
    rw [List.getElem?_map] at e2
    obtain ⟨q, eq, rfl⟩ : ∃ q, qs[i]? = some q ∧ x = .ref q := by
      cases e : qs[i]? with
      | none => rw [e] at e2; cases e2
      | some q => rw [e] at e2; cases e2; exact ⟨q, rfl, rfl⟩
    have hvq : Vc q := gg.sub q (hq q (List.mem_of_getElem? eq))
    let W : Wd := ⟨fun _ => False, fun b => H' b ≠ none⟩
    let B : Ent := ⟨W, H', Vc, σ.set j (some (.ref q)), fun _ => False, fun _ _ _ => True, fun _ _ => True.intro, fun _ z => z.elim⟩
    have est : ESt W H' Vc n := ⟨fun _ z => z.elim, fun _ z => z, pp, fun _ z => z.elim⟩
    have nown : ∀ (i : Nat) (d : Vm.D), (lawρ N.length j)[i]? ≠ some (.own d) := fun i d e => by
      have := (lawρ_get e (by intro z; cases z)).2
      cases this
    have sl : SlotsOk W H' Vc (σ.set j (some (.ref q))) (lawρ N.length j) := by
      refine ⟨by unfold lawρ; simp [hlen], fun i s e ne => ?_, fun i d c e1 _ => absurd e1 (nown i d), fun i l c d d' e1 _ _ _ => absurd e1 (nown i d)⟩
      obtain ⟨rfl, rfl⟩ := lawρ_get e ne
      have hj : i < N.length := (List.getElem?_eq_some_iff.mp hNj).1
      exact ⟨.ref q, List.getElem?_set_self (by rw [hlen]; exact hj), .pur hvq⟩
    have hpo : ∀ (i : Nat) (s : Sl), (lawρ N.length j)[i]? = some s → s ≠ .dead → (∃ d, s = .pure d) ∨ ∃ d, s = .own d := fun i s e ne => .inl ⟨_, (lawρ_get e ne).2⟩
    have bd : Bd Γ B W H' Vc n (σ.set j (some (.ref q))) (lawρ N.length j) :=
      ⟨est, sl, rfl, fun _ z => z, .refl, fun i d c e1 _ => absurd e1 (nown i d), (fun i hi => absurd (show i ∈ ([] : List Nat) from hfx ▸ hi) (by simp)), True.intro, PO.nob hpo, PO.dps hpo⟩
    have hnM : n ≤ 64 * M := Nat.le_trans hn (Nat.mul_le_mul_right M (by omega))
    have nxt : ∀ W' H2 V2 n2 σ2 ρ2, Bd Γ B W' H2 V2 n2 σ2 ρ2 → (ρ2.length = N.length ∧ n2 ≤ n + M) → σ2.length = N.length ∧ ∃ (Vc : Addr → Prop) (n : Nat), Grow H1 V1 H2 Vc ∧ (∀ b, Vc b → PurseAt n H2 b) ∧ n ≤ (i + 1) * M := by
      rintro W' H2 V2 n2 σ2 ρ2 b ⟨h1, h2⟩
      refine ⟨b.sl.len.trans h1, V2, n2, gg.trans (b.gr.to fun _ z => z), b.est.pur, ?_⟩
      rw [Nat.succ_mul]; omega
    exact sb B W H' Vc n _ _ E noR _ _ bd (fun _ _ _ _ _ _ _ _ _ _ z => z.elim) (hspec n hnM) ⟨nxt, fun _ _ _ _ _ _ _ _ _ _ z => z.elim, fun _ _ _ _ _ _ _ z => z.elim, nxt⟩
  · rintro σ Hc ⟨_, Vc, n, gg, pp, hn⟩
    exact hQ Hc
end
end Vm
/-! Vm23: the facts of a row's defs behind its top. -/
namespace Vm
open PySem PySem.Spec L2
structure FnAt (K : PySem.W.Frag) (mg : Str → Option Value) (t : Tf) (a : Addr) (fd : FuncData) : Prop where
  mg : mg t.nm = some (.ref a)
  kp : PySem.W.keepIn K (.ref a) = true
  fn : FunD K t.nm t.nm (defArgs t.st) (defBody t.st) (defScope t.st) t.dvs [] a fd
  bd : ∀ m, m ≤ t.ps.length → t.ps.length ≤ m + t.dfl.length → ∃ ds, Vals (t.dvs.drop (m + t.dfl.length - t.ps.length)) ds ∧ Binds K fd t.ps ds
section
variable {K : PySem.W.Frag} {mg : Str → Option Value} {h : Heap}
/-- with K from what stands in the heap -/
abbrev FnP {K : PySem.W.Frag} {h : Heap} (_ : K.In h) (mg : Str → Option Value) (t : Tf) : Prop := ∃ a fd, FnAt K mg t a fd
theorem fnAt0 (X : K.In h) (G : h.Ns mainGlobals mg) {t : Tf} {a : Addr} {oc kV dc pm cd ct : Value} {od an : Option Addr} {sl : Array (Option Value)} (hd : t.dvs = []) (hf : t.dfl = [])
    (n : PySem.W.nsIn K mainGlobals t.nm = some (some (.ref a))) (l : K.lookup a = some ⟨oc, od, .func (PySem.W.fnOf t.nm t.nm (defArgs t.st) (defBody t.st) (defScope t.st) .none kV dc pm an cd ct), sl⟩) (c : PySem.W.codeIn K cd t.nm = true) (k : PySem.W.keepIn K (.ref a) = true)
    (hb : ∀ (kV doc pm : Value) (an : Option Addr) (cdv ct : Value) (us : List Value), us.length = t.ps.length → bindArgs (PySem.W.fnOf t.nm t.nm (defArgs t.st) (defBody t.st) (defScope t.st) .none kV doc pm an cdv ct) ⟨us, []⟩ = pure (t.ps.zip us)) :
    ∃ a fd, FnAt K mg t a fd := by
  have F : FunD K t.nm t.nm (defArgs t.st) (defBody t.st) (defScope t.st) [] [] a (PySem.W.fnOf t.nm t.nm (defArgs t.st) (defBody t.st) (defScope t.st) .none kV dc pm an cd ct) :=
    ⟨⟨oc, od, .none, kV, dc, pm, an, cd, ct, sl, rfl, l, c, .inl ⟨rfl, rfl⟩, .inl rfl⟩, k⟩
  refine ⟨a, _, PySem.W.mg_of X G n, k, by rw [hd]; exact F, fun m h1 h2 => ?_⟩
  rw [hd, List.drop_nil]
  rw [hf, List.length_nil] at h2
  exact ⟨[], .nil, F.bindsN hb⟩
theorem fnAt1 (X : K.In h) (G : h.Ns mainGlobals mg) {t : Tf} {a T : Addr} {oc kV dc pm cd ct ocT : Value} {od an odT : Option Addr} {sl slT : Array (Option Value)} {its : Array Value} {nT : Nat} {v : V} {d : D} (hd : t.dvs = [v]) (hf : t.dfl = [d])
    (n : PySem.W.nsIn K mainGlobals t.nm = some (some (.ref a))) (l : K.lookup a = some ⟨oc, od, .func (PySem.W.fnOf t.nm t.nm (defArgs t.st) (defBody t.st) (defScope t.st) (.ref T) kV dc pm an cd ct), sl⟩) (c : PySem.W.codeIn K cd t.nm = true) (k : PySem.W.keepIn K (.ref a) = true)
    (lT : K.lookup T = some ⟨ocT, odT, .seq its nT, slT⟩) (hi : Vals [v] its.toList)
    (hb : ∀ (m : Nat) (T : Addr) (kV doc pm : Value) (an : Option Addr) (cdv ct : Value) (us its : List Value), m ≤ t.ps.length → t.ps.length ≤ m + 1 → us.length = m → its.length = 1 →
      ∃ k, bindArgs (PySem.W.fnOf t.nm t.nm (defArgs t.st) (defBody t.st) (defScope t.st) (.ref T) kV doc pm an cdv ct) ⟨us, []⟩ = seqItems? (.ref T) >>= k ∧ k (some its.toArray) = pure (t.ps.zip (us ++ its.drop (m + 1 - t.ps.length)))) :
    ∃ a fd, FnAt K mg t a fd := by
  have F : FunD K t.nm t.nm (defArgs t.st) (defBody t.st) (defScope t.st) [v] [] a (PySem.W.fnOf t.nm t.nm (defArgs t.st) (defBody t.st) (defScope t.st) (.ref T) kV dc pm an cd ct) :=
    ⟨⟨oc, od, .ref T, kV, dc, pm, an, cd, ct, sl, rfl, l, c, .inr ⟨by simp, T, _, its.toList, nT, rfl, lT, by rw [Array.toArray_toList], hi⟩, .inl rfl⟩, k⟩
  refine ⟨a, _, PySem.W.mg_of X G n, k, by rw [hd]; exact F, fun m h1 h2 => ?_⟩
  rw [hd, hf]
  rw [hf, List.length_singleton] at h2
  exact F.binds1 m (m + 1 - t.ps.length) (by simp) (by rw [List.length_singleton]; omega) fun T kV doc pm an cdv ct us its hl hz => hb m T kV doc pm an cdv ct us its h1 h2 hl hz
theorem facts_of {B : Tab} (hnm : ∀ f x, B.T[f]? = some x → (B.tf f).nm = x) (hd : ∀ f, f < B.T.length → dflOk (B.tf f)) (hf : ∀ f, f < B.T.length → ∃ a fd, FnAt K mg (B.tf f) a fd) : ∃ adr fdt, Facts K mg B adr fdt := by
  have hc : ∀ f, ∃ (a : Addr) (fd : Option FuncData), f < B.T.length → ∃ x, fd = some x ∧ FnAt K mg (B.tf f) a x := fun f => by
    by_cases h : f < B.T.length
    · obtain ⟨a, fd, q⟩ := hf f h
      exact ⟨a, some fd, fun _ => ⟨fd, rfl, q⟩⟩
    · exact ⟨0, none, fun z => absurd z h⟩
  obtain ⟨adr, h1⟩ := Classical.axiomOfChoice hc
  obtain ⟨fdo, h2⟩ := Classical.axiomOfChoice h1
  have hq : ∀ f, ∃ fd : FuncData, f < B.T.length → FnAt K mg (B.tf f) (adr f) fd := fun f => by
    by_cases h : f < B.T.length
    · obtain ⟨x, _, q⟩ := h2 f h
      exact ⟨x, fun _ => q⟩
    · by_cases h0 : 0 < B.T.length
      · obtain ⟨x, _, _⟩ := h2 0 h0
        exact ⟨x, fun z => absurd z h⟩
      · exact ⟨PySem.W.fnOf "" "" ⟨[], [], none, [], [], none, []⟩ [] ⟨.function, [], false, false, []⟩ .none .none .none .none none .none .none, fun z => absurd z h⟩
  obtain ⟨fdt, h3⟩ := Classical.axiomOfChoice hq
  exact ⟨adr, fdt, fun f h => (h3 f h).mg, hnm, fun f h => (h3 f h).kp, fun f h => (h3 f h).fn, fun f h => (h3 f h).bd, hd⟩
end
end Vm
/-! Vm24: a law's frame put together. -/
namespace Vm
open PySem PySem.Spec L2
section
variable {P : Program} {w : World} {K : PySem.W.Frag} {mg : Str → Option Value} {base : Heap} {B : Tab} {adr : Nat → Addr} {fdt : Nat → FuncData}
/-- what a def's body asks of its callees -/
theorem tab_fns (F : Facts K mg B adr fdt) (hm : CusMono B) (hcus : ∀ f s, B.cus f = some s → (B.tf f).kind = .plain) (hnp : ∀ f, f < B.T.length → (B.tf f).fd.np = (B.tf f).ps.length) {k : Nat} (N : List Str) (fx : List Nat)
    (ih : ∀ f, f < B.T.length → FnOk P w K mg base (L2.CX P w) k (adr f) (fdt f) (B.tf f).ps (B.sp k f)) :
    (∀ g x m, B.T[g]? = some x → B.ar g m = true → FnFact P w K mg base clN k x ((gaOf K B hm F.dfl hcus k N fx hnp).fi g m)) ∧ ∀ g x, B.T[g]? = some x → B.ion g ≠ 0 → FnFactIO P w K mg base k x (B.ion g) (B.sem k g) := by
  refine ⟨fun g x m hx har => ?_, fun g x hx hio => ?_⟩
  · have hg : g < B.T.length := (List.getElem?_eq_some_iff.mp hx).1
    unfold Tab.ar at har
    simp only [Bool.and_eq_true, decide_eq_true_eq] at har
    obtain ⟨⟨⟨_, h0⟩, h2⟩, h3⟩ := har
    obtain ⟨ds, v1, v2⟩ := F.bd g hg m h2 h3
    have hn := F.nm g x hx
    have ok := ih g hg
    refine ⟨adr g, fdt g, (B.tf g).ps, ds, ?_, by rw [← hn]; exact F.mg g hg, F.kp g hg, v2, v1⟩
    unfold Tab.sp at ok
    split at ok
    · rename_i e; rw [e] at h0; cases h0
    · exact ok
  · have hg : g < B.T.length := (List.getElem?_eq_some_iff.mp hx).1
    unfold Tab.ion at hio ⊢
    rw [if_pos hg] at hio ⊢
    split at hio
    · rename_i e
      have ok := ih g hg
      unfold Tab.sp at ok
      rw [e] at ok
      obtain ⟨ds, v1, v2⟩ := F.bd g hg (B.tf g).ps.length (Nat.le_refl _) (Nat.le_add_right _ _)
      have hn := F.nm g x hx
      have hz : (B.tf g).dvs.drop ((B.tf g).ps.length + (B.tf g).dfl.length - (B.tf g).ps.length) = [] := by
        obtain ⟨d1, d2, d3⟩ := F.dfl g hg
        refine List.drop_of_length_le ?_
        rw [d3.length]; omega
      rw [hz] at v1
      cases v1
      exact ⟨adr g, fdt g, (B.tf g).ps, ok, by rw [← hn]; exact F.mg g hg, F.kp g hg, v2⟩
    · exact absurd rfl hio
/-- a def without defaults binds its arguments -/
theorem bind0 (F : Facts K mg B adr fdt) {f : Nat} (hf : f < B.T.length) (hd : (B.tf f).dfl = []) : Binds K (fdt f) (B.tf f).ps [] := by
  obtain ⟨ds, v1, v2⟩ := F.bd f hf (B.tf f).ps.length (Nat.le_refl _) (Nat.le_add_right _ _)
  have hz : (B.tf f).dvs.drop ((B.tf f).ps.length + (B.tf f).dfl.length - (B.tf f).ps.length) = [] := by
    obtain ⟨d1, d2, d3⟩ := F.dfl f hf
    refine List.drop_of_length_le ?_
    rw [d3.length]; omega
  rw [hz] at v1
  cases v1
  exact v2
/-- all levels, where those beyond the small language promise nothing -/
theorem levels0 (F : Facts K mg B adr fdt) (hm : CusMono B) (hcus : ∀ f s, B.cus f = some s → (B.tf f).kind = .plain) (hno : ∀ f s, B.cus f = some s → ∀ Ψ ds n Q R, ¬ s Ψ ds n Q R)
    (hck : ∀ f, f < B.T.length → B.cus f = none → tfOk B.T B.ar B.ion (B.tf f) = true) (hnp : ∀ f, f < B.T.length → (B.tf f).fd.np = (B.tf f).ps.length) (hblt : ∀ x ∈ bltNames, mg x = none) (k : Nat) :
    ∀ f, f < B.T.length → FnOk P w K mg base (L2.CX P w) k (adr f) (fdt f) (B.tf f).ps (B.sp k f) :=
  levels F hm hcus hck hnp hblt (fun f s hf e k _ => fn_no rfl fun ds n Q R h => by
    have h2 := h.2
    rw [e] at h2
    exact hno f s e _ _ _ _ _ h2) k
end
end Vm
/-! VmX: how what a body wants is worked out. -/
namespace Vm
open PySem PySem.Spec L2
/-- so many levels of calls at least -/
def Lv (B : Tab) (Ψ : Nat → FnSem) (k : Nat) : Prop := ∃ j, k ≤ j ∧ Ψ = B.sem j
theorem Lv.le {B : Tab} {Ψ : Nat → FnSem} {k m : Nat} (h : Lv B Ψ k) (l : m ≤ k := by omega) : Lv B Ψ m := let ⟨j, a, b⟩ := h; ⟨j, by omega, b⟩
theorem Lv.un {B : Tab} {Ψ : Nat → FnSem} {k : Nat} (h : Lv B Ψ (k + 1)) : ∃ Ψ', Lv B Ψ' k ∧ Ψ = B.step Ψ' := by
  obtain ⟨j, a, rfl⟩ := h
  obtain ⟨i, rfl⟩ : ∃ i, j = i + 1 := ⟨j - 1, by omega⟩
  exact ⟨B.sem i, ⟨i, by omega, rfl⟩, rfl⟩
/-- where nothing is lent -/
theorem nb {p q : Prop} (h : q) : (false = true → p) ∧ q := ⟨fun z => (by cases z), h⟩
theorem lent {p q : Prop} (hp : p) (h : q) : (true = true → p) ∧ q := ⟨fun _ => hp, h⟩

/-- one beside the other -/
inductive A2 {α β : Type} (r : α → β → Prop) : List α → List β → Prop where
  | nil : A2 r [] []
  | cons {a : α} {b : β} {as : List α} {bs : List β} : r a b → A2 r as bs → A2 r (a :: as) (b :: bs)
section
variable {α β : Type} {r : α → β → Prop}
theorem A2.length : ∀ {as : List α} {bs : List β}, A2 r as bs → as.length = bs.length
  | _, _, .nil => rfl
  | _, _, .cons _ t => congrArg (· + 1) t.length
theorem A2.append : ∀ {as as' : List α} {bs bs' : List β}, A2 r as bs → A2 r as' bs' → A2 r (as ++ as') (bs ++ bs')
  | _, _, _, _, .nil, q => q
  | _, _, _, _, .cons a t, q => .cons a (t.append q)
theorem A2.get : ∀ {as : List α} {bs : List β} {i : Nat} {a : α}, A2 r as bs → as[i]? = some a → ∃ b, bs[i]? = some b ∧ r a b
  | _, _, _, _, .nil, e => by simp at e
  | _, _, 0, _, .cons h _, e => by simp at e; subst e; exact ⟨_, rfl, h⟩
  | _, _, i + 1, a, .cons _ t, e => by
    obtain ⟨b, h1, h2⟩ := A2.get (i := i) (a := a) t (by simpa using e)
    exact ⟨b, by simpa using h1, h2⟩
theorem A2.get' : ∀ {as : List α} {bs : List β} {i : Nat} {b : β}, A2 r as bs → bs[i]? = some b → ∃ a, as[i]? = some a ∧ r a b
  | _, _, _, _, .nil, e => by simp at e
  | _, _, 0, _, .cons h _, e => by simp at e; subst e; exact ⟨_, rfl, h⟩
  | _, _, i + 1, a, .cons _ t, e => by
    obtain ⟨b, h1, h2⟩ := A2.get' (i := i) (b := a) t (by simpa using e)
    exact ⟨b, by simpa using h1, h2⟩
theorem A2.imp {s : α → β → Prop} : ∀ {as : List α} {bs : List β}, A2 r as bs → (∀ a b, a ∈ as → r a b → s a b) → A2 s as bs
  | _, _, .nil, _ => .nil
  | _, _, .cons h t, f => .cons (f _ _ (List.mem_cons_self ..) h) (t.imp fun a b m => f a b (List.mem_cons_of_mem _ m))
theorem A2.map (f : α → β) : ∀ {as : List α}, (∀ a ∈ as, r a (f a)) → A2 r as (as.map f)
  | [], _ => .nil
  | _ :: _, h => .cons (h _ (List.mem_cons_self ..)) (A2.map f fun a m => h a (List.mem_cons_of_mem _ m))
theorem A2.eq_map {f : α → β} : ∀ {as : List α} {bs : List β}, A2 r as bs → (∀ a b, r a b → b = f a) → bs = as.map f
  | _, _, .nil, _ => rfl
  | _, _, .cons h t, e => by rw [e _ _ h, t.eq_map e]; rfl
end

/-! ### the turns of a comprehension -/
theorem compW_a2 {α β : Type} {r : α → D → Prop} {r' : β → D → Prop} (f : α → Option β) {step : D → Nat → (Option D → Nat → Prop) → Prop} {Q : List D → Nat → Prop} :
    ∀ {as : List α} {xs : List D} {n : Nat} {ad : List β} {acc : List D}, A2 r as xs → A2 r' ad acc → acc.length + as.length ≤ sizeLine →
      (∀ a d n K, a ∈ as → r a d → (f a = none → K none n) → (∀ b d', f a = some b → r' b d' → K (some d') n) → step d n K) →
      (∀ ds, A2 r' (ad ++ as.filterMap f) ds → Q ds n) → compW step xs n acc Q
  | _, _, n, ad, acc, .nil, h, _, _, q => q acc (by simpa using h)
  | a :: as, x :: xs, n, ad, acc, .cons hr t, h, hl, hs, q => by
    unfold compW
    have hl : acc.length + (as.length + 1) ≤ sizeLine := hl
    refine hs a x n _ (List.mem_cons_self ..) hr (fun e => ?_) fun b d' e hb => ⟨by omega, ?_⟩
    · refine compW_a2 f t h (by omega) (fun a d n K m => hs a d n K (List.mem_cons_of_mem _ m)) fun ds z => q ds ?_
      rwa [List.filterMap_cons_none e]
    · refine compW_a2 f t (h.append (.cons hb .nil)) (by rw [List.length_append, List.length_singleton]; omega) (fun a d n K m => hs a d n K (List.mem_cons_of_mem _ m)) fun ds z => q ds ?_
      rw [List.filterMap_cons_some e]
      simpa using z
/-- .. each item gives one -/
theorem compW_map {α β : Type} {r : α → D → Prop} {r' : β → D → Prop} (f : α → β) {step : D → Nat → (Option D → Nat → Prop) → Prop} {Q : List D → Nat → Prop} {as : List α} {xs : List D} {n : Nat} (h : A2 r as xs) (hl : as.length ≤ sizeLine)
    (hs : ∀ a d n K, a ∈ as → r a d → (∀ d', r' (f a) d' → K (some d') n) → step d n K) (q : ∀ ds, A2 r' (as.map f) ds → Q ds n) : compW step xs n [] Q := by
  refine compW_a2 (r := r) (r' := r') (fun a => some (f a)) (ad := []) h .nil (by simpa using hl) (fun a d n K m hr _ k => hs a d n K m hr fun d' z => k _ d' rfl z) fun ds z => q ds ?_
  have : as.filterMap (fun a => some (f a)) = as.map f := by rw [← List.filterMap_eq_map]; rfl
  rw [List.nil_append, this] at z; exact z
/-- .. those that are let through -/
theorem compW_filter {α β : Type} {r : α → D → Prop} {r' : β → D → Prop} (p : α → Bool) (f : α → β) {step : D → Nat → (Option D → Nat → Prop) → Prop} {Q : List D → Nat → Prop} {as : List α} {xs : List D} {n : Nat} (h : A2 r as xs) (hl : as.length ≤ sizeLine)
    (hs : ∀ a d n K, a ∈ as → r a d → (p a = false → K none n) → (∀ d', p a = true → r' (f a) d' → K (some d') n) → step d n K) (q : ∀ ds, A2 r' ((as.filter p).map f) ds → Q ds n) : compW step xs n [] Q := by
  refine compW_a2 (r := r) (r' := r') (fun a => if p a then some (f a) else none) (ad := []) h .nil (by simpa using hl) (fun a d n K m hr k0 k1 => hs a d n K m hr (fun e => k0 (by simp [e])) fun d' e z => k1 _ d' (by simp [e]) z) fun ds z => q ds ?_
  have : as.filterMap (fun a => if p a then some (f a) else none) = (as.filter p).map f := by
    clear h hl hs q z
    induction as with
    | nil => rfl
    | cons a as ih => cases e : p a <;> simp [List.filterMap_cons, List.filter_cons, e, ih]
  rw [List.nil_append, this] at z; exact z
/-- .. where something is drawn: a thing of each turn -/
theorem compW_draw {α : Type} {r : α → D → Prop} {s : α → D → Prop} (c : Nat) {step : D → Nat → (Option D → Nat → Prop) → Prop} {Q : List D → Nat → Prop} :
    ∀ {as : List α} {xs : List D} {n : Nat} {as0 : List α} {acc : List D}, A2 r as xs → A2 s as0 acc → acc.length + as.length ≤ sizeLine →
      (∀ a d n K, a ∈ as → r a d → (∀ d' n', s a d' → n' ≤ n + c → K (some d') n') → step d n K) →
      (∀ ds n', A2 s (as0 ++ as) ds → n' ≤ n + c * as.length → Q ds n') → compW step xs n acc Q
  | _, _, n, as0, acc, .nil, h, _, _, q => q acc n (by simpa using h) (Nat.le_add_right _ _)
  | a :: as, x :: xs, n, as0, acc, .cons hr t, h, hl, hs, q => by
    unfold compW
    have hl : acc.length + (as.length + 1) ≤ sizeLine := hl
    refine hs a x n _ (List.mem_cons_self ..) hr fun d' n' hb hn => ⟨by omega, ?_⟩
    refine compW_draw c t (h.append (.cons hb .nil)) (by rw [List.length_append, List.length_singleton]; omega) (fun a d n K m => hs a d n K (List.mem_cons_of_mem _ m)) fun ds n2 z hn2 => q ds n2 ?_ ?_
    · simpa using z
    · rw [List.length_cons, Nat.mul_add]; omega
/-! ### loops -/
theorem forW_inv {step : D → List Sl → Nat → (List Sl → Nat → Prop) → Prop} {nx : List Sl → Nat → Prop} (I : Nat → List Sl → Nat → Prop) {xs : List D} {ρ : List Sl} {n : Nat} (h0 : I 0 ρ n)
    (hs : ∀ i d ρ n next, xs[i]? = some d → I i ρ n → (∀ ρ' n', I (i + 1) ρ' n' → next ρ' n') → step d ρ n next) (hend : ∀ ρ n, I xs.length ρ n → nx ρ n) : forW step nx xs ρ n := by
  have key : ∀ (ys : List D) (i : Nat) (ρ : List Sl) (n : Nat), (∀ j, ys[j]? = xs[i + j]?) → i + ys.length = xs.length → I i ρ n → forW step nx ys ρ n := by
    intro ys
    induction ys with
    | nil => intro i ρ n _ hl hI; unfold forW; exact hend ρ n (by rw [← hl]; exact hI)
    | cons y ys ih =>
      intro i ρ n hy hl hI
      unfold forW
      refine hs i y ρ n _ (by rw [← Nat.add_zero i, ← hy 0]; rfl) hI fun ρ' n' h' => ih (i + 1) ρ' n' (fun j => ?_) (by simp at hl; omega) h'
      have := hy (j + 1)
      rw [show i + 1 + j = i + (j + 1) by omega, ← this]; rfl
  exact key xs 0 ρ n (fun j => by rw [Nat.zero_add]) (by simp) h0
/-- a loop whose turns end one after the other: what is held is told of the items so far -/
theorem forW_a2 {α : Type} {r : α → D → Prop} {step : D → List Sl → Nat → (List Sl → Nat → Prop) → Prop} {nx : List Sl → Nat → Prop} (I : List α → List Sl → Nat → Prop) {as : List α} {xs : List D} {ρ : List Sl} {n : Nat} (h : A2 r as xs) (h0 : I [] ρ n)
    (hs : ∀ pre a post d ρ n next, as = pre ++ a :: post → r a d → I pre ρ n → (∀ ρ' n', I (pre ++ [a]) ρ' n' → next ρ' n') → step d ρ n next) (hend : ∀ ρ n, I as ρ n → nx ρ n) : forW step nx xs ρ n := by
  have key : ∀ (post : List α) (xs : List D) (pre : List α) (ρ : List Sl) (n : Nat), as = pre ++ post → A2 r post xs → I pre ρ n → forW step nx xs ρ n := by
    intro post
    induction post with
    | nil => intro xs pre ρ n e t hI; cases t; unfold forW; exact hend ρ n (by rw [e, List.append_nil]; exact hI)
    | cons a post ih =>
      intro xs pre ρ n e t hI
      cases t with
      | cons hr t =>
        unfold forW
        exact hs pre a post _ ρ n _ e hr hI fun ρ' n' h' => ih _ (pre ++ [a]) ρ' n' (by rw [e]; simp) t h'
  exact key as xs [] ρ n rfl h h0

/-! ### what data stand for -/
class En (α : Type) where
  en : α → D
/-- d is x, whatever is young in it -/
def Is {α : Type} [En α] (x : α) (d : D) : Prop := d.stale = En.en x
instance : En Int := ⟨D.int⟩
instance : En Nat := ⟨fun i => D.int (i : Int)⟩
instance : En Bool := ⟨D.bl⟩
instance {α : Type} [En α] : En (List α) := ⟨fun xs => .lst false (xs.map En.en)⟩
instance {α β : Type} [En α] [En β] : En (α × β) := ⟨fun p => .tup [En.en p.1, En.en p.2]⟩
instance {α : Type} [En α] : En (Option α) := ⟨fun o => match o with | none => .non | some x => En.en x⟩
theorem stales_map : ∀ ds : List D, D.stales ds = ds.map D.stale
  | [] => rfl
  | d :: ds => by rw [D.stales, stales_map ds]; rfl
theorem is_int {i : Int} {d : D} : Is i d ↔ d = .int i := by
  unfold Is
  show d.stale = .int i ↔ d = .int i
  cases d <;> simp [D.stale]
theorem is_nat {i : Nat} {d : D} : Is i d ↔ d = .int i := by
  unfold Is
  show d.stale = .int i ↔ d = .int i
  cases d <;> simp [D.stale]
theorem is_bl {i : Bool} {d : D} : Is i d ↔ d = .bl i := by
  unfold Is
  show d.stale = .bl i ↔ d = .bl i
  cases d <;> simp [D.stale]
section
variable {α β : Type} [En α] [En β]
theorem a2_is : ∀ {xs : List α} {ds : List D}, A2 Is xs ds ↔ ds.map D.stale = xs.map En.en
  | [], [] => ⟨fun _ => rfl, fun _ => .nil⟩
  | [], d :: ds => ⟨fun h => (by cases h), fun h => (by cases h)⟩
  | x :: xs, [] => ⟨fun h => (by cases h), fun h => (by cases h)⟩
  | x :: xs, d :: ds => ⟨fun h => (by cases h with | cons a b => rw [List.map_cons, List.map_cons, a2_is.mp b, show d.stale = En.en x from a]), fun h => (by
      rw [List.map_cons, List.map_cons] at h
      injection h with h1 h2
      exact .cons h1 (a2_is.mpr h2))⟩
theorem is_lst {xs : List α} {d : D} : Is xs d ↔ ∃ t ds, d = .lst t ds ∧ A2 Is xs ds := by
  unfold Is
  show d.stale = .lst false (xs.map En.en) ↔ _
  constructor
  · intro h
    cases d with
    | lst t ds =>
      rw [D.stale, stales_map] at h
      injection h with _ h
      exact ⟨t, ds, rfl, a2_is.mpr h⟩
    | _ => simp [D.stale] at h
  · rintro ⟨t, ds, rfl, h⟩
    rw [D.stale, stales_map, a2_is.mp h]
theorem is_lst' {xs : List α} {t : Bool} {ds : List D} : Is xs (.lst t ds) ↔ A2 Is xs ds :=
  ⟨fun h => by obtain ⟨t', ds', e, q⟩ := is_lst.mp h; cases e; exact q, fun h => is_lst.mpr ⟨t, ds, rfl, h⟩⟩
theorem is_pair {x : α × β} {d : D} : Is x d ↔ ∃ a b, d = .tup [a, b] ∧ Is x.1 a ∧ Is x.2 b := by
  unfold Is
  show d.stale = .tup [En.en x.1, En.en x.2] ↔ _
  constructor
  · intro h
    cases d with
    | tup ds =>
      rw [D.stale, stales_map] at h
      injection h with h
      rcases ds with _ | ⟨a, _ | ⟨b, _ | ⟨c, r⟩⟩⟩ <;> simp at h
      exact ⟨a, b, rfl, h.1, h.2⟩
    | _ => simp [D.stale] at h
  · rintro ⟨a, b, rfl, h1, h2⟩
    rw [D.stale, stales_map, List.map_cons, List.map_cons, h1, h2]; rfl
theorem is_none {d : D} : Is (none : Option α) d ↔ d = .non := by
  unfold Is
  show d.stale = .non ↔ _
  cases d <;> simp [D.stale]
theorem is_some {x : α} {d : D} : Is (some x) d ↔ Is x d := Iff.rfl
end
end Vm
/-! VmY: small facts for the working out. -/
namespace Vm
open PySem PySem.Spec L2
theorem slE : sizeLine = 16777216 := rfl
theorem sl_lt {n : Nat} (h : n ≤ 1000000) : n < sizeLine := by have := slE; omega
theorem sl_le {n : Nat} (h : n ≤ 1000000) : n ≤ sizeLine := by have := slE; omega
theorem a2_map {α : Type} (f : α → D) (as : List α) : A2 (fun a d => d = f a) as (as.map f) := A2.map f fun _ _ => rfl
theorem bools_a2 {bs : List Bool} {ds : List D} (h : A2 (fun b d => d = D.bl b) bs ds) : D.bools ds = some bs := by
  induction h with
  | nil => rfl
  | cons e _ ih => subst e; rw [D.bools, ih]; rfl
theorem ints_a2 {bs : List Int} {ds : List D} (h : A2 (fun b d => d = D.int b) bs ds) : D.ints ds = some bs := by
  induction h with
  | nil => rfl
  | cons e _ ih => subst e; rw [D.ints, ih]; rfl
theorem atI_map {α : Type} {f : α → D} {xs : List α} {k : Int} {i : Nat} {a : α} (e : k = i) (h : xs[i]? = some a) : atI (xs.map f) k = some (f a) := atI_of e (by rw [List.getElem?_map, h]; rfl)
theorem atI_a2 {α : Type} {r : α → D → Prop} {as : List α} {ds : List D} {k : Int} {i : Nat} {a : α} (h : A2 r as ds) (e : k = i) (g : as[i]? = some a) : ∃ d, atI ds k = some d ∧ r a d := by
  obtain ⟨d, h1, h2⟩ := h.get g
  exact ⟨d, atI_of e h1, h2⟩
theorem all_true {α : Type} (l : List α) : (l.map fun _ => true).all id = true := by simp
theorem any_false {α : Type} (l : List α) : (l.map fun _ => false).any id = false := by simp
theorem is_flat {α : Type} [En α] (f : α → D) (hf : ∀ a d, Is a d ↔ d = f a) {xs : List α} {d : D} : Is xs d ↔ ∃ t, d = .lst t (xs.map f) := by
  rw [is_lst]
  constructor
  · rintro ⟨t, ds, rfl, h⟩
    exact ⟨t, by rw [h.eq_map fun a b e => (hf a b).mp e]⟩
  · rintro ⟨t, rfl⟩
    exact ⟨t, _, rfl, A2.map f fun a _ => (hf a _).mpr rfl⟩
theorem is_ints {xs : List Int} {d : D} : Is xs d ↔ ∃ t, d = .lst t (xs.map D.int) := is_flat D.int fun _ _ => is_int
abbrev nD (i : Nat) : D := .int (i : Int)
theorem is_nats {xs : List Nat} {d : D} : Is xs d ↔ ∃ t, d = .lst t (xs.map nD) := is_flat nD fun _ _ => is_nat
def eD (e : Int × Int) : D := .tup [.int e.1, .int e.2]
theorem is_edge {e : Int × Int} {d : D} : Is e d ↔ d = eD e := by
  rw [is_pair]
  constructor
  · rintro ⟨a, b, rfl, h1, h2⟩
    rw [is_int] at h1 h2
    subst h1; subst h2; rfl
  · rintro rfl
    exact ⟨_, _, rfl, is_int.mpr rfl, is_int.mpr rfl⟩
theorem is_edges {xs : List (Int × Int)} {d : D} : Is xs d ↔ ∃ t, d = .lst t (xs.map eD) := is_flat eD fun _ _ => is_edge
def eLt (a b : Int × Int) : Prop := HT.lexLt [a.1, a.2] [b.1, b.2] = true
/-- edges, as they must be -/
structure EdOk (size : Nat) (es : List (Int × Int)) : Prop where
  bd : ∀ e ∈ es, 0 ≤ e.1 ∧ e.1 < size ∧ 0 ≤ e.2 ∧ e.2 < size
  asc : es.Pairwise eLt
  few : es.length ≤ 12
  sz : size ≤ 5
end Vm
/-! Pm1: pairings by their positions. -/
namespace Pm
abbrev E := List (Int × Int)
def lf (es : E) (a : Nat) : Int := (es.getD a (0, 0)).1
def rt (es : E) (a : Nat) : Int := (es.getD a (0, 0)).2
def takenOf (es : E) (p : List Nat) : List Int := p.map (rt es)
def ext (es : E) (left : Int) (p : List Nat) : List (List Nat) :=
  ((List.range es.length).filter fun a => decide (lf es a = left) && !(takenOf es p).contains (rt es a)).map fun a => p ++ [a]
def prs (es : E) : Nat → List (List Nat)
  | 0 => [[]]
  | n + 1 => (prs es n).flatMap (ext es (n : Int))
/-- a pairing of the first n left ones -/
structure IsP (es : E) (n : Nat) (p : List Nat) : Prop where
  len : p.length = n
  pos : ∀ (i a : Nat), p[i]? = some a → a < es.length ∧ lf es a = (i : Int)
  nd : (takenOf es p).Nodup
theorem mem_ext {es : E} {left : Int} {p q : List Nat} : q ∈ ext es left p ↔ ∃ a, q = p ++ [a] ∧ a < es.length ∧ lf es a = left ∧ rt es a ∉ takenOf es p := by
  unfold ext
  simp only [List.mem_map, List.mem_filter, List.mem_range, Bool.and_eq_true, decide_eq_true_eq, Bool.not_eq_true', List.contains_eq_mem, decide_eq_false_iff_not]
  constructor
  · rintro ⟨a, ⟨h1, h2, h3⟩, rfl⟩; exact ⟨a, rfl, h1, h2, h3⟩
  · rintro ⟨a, rfl, h1, h2, h3⟩; exact ⟨a, ⟨h1, h2, h3⟩, rfl⟩
theorem taken_snoc (es : E) (p : List Nat) (a : Nat) : takenOf es (p ++ [a]) = takenOf es p ++ [rt es a] := by simp [takenOf]
theorem isP_snoc {es : E} {n : Nat} {p : List Nat} {a : Nat} (h : IsP es n p) (h1 : a < es.length) (h2 : lf es a = (n : Int)) (h3 : rt es a ∉ takenOf es p) : IsP es (n + 1) (p ++ [a]) := by
  refine ⟨by simp [h.len], fun i b e => ?_, ?_⟩
  · by_cases hi : i < p.length
    · rw [List.getElem?_append_left hi] at e; exact h.pos i b e
    · rw [List.getElem?_append_right (by omega)] at e
      have : i - p.length = 0 := by
        rcases Nat.eq_zero_or_pos (i - p.length) with z | z
        · exact z
        · rw [List.getElem?_eq_none (by simp; omega)] at e; cases e
      rw [this] at e
      have hi : i = n := by have := h.len; omega
      simp at e; subst e; subst hi
      exact ⟨h1, h2⟩
  · rw [taken_snoc, List.nodup_append]
    refine ⟨h.nd, by simp, ?_⟩
    rintro x hx y hy rfl
    simp at hy; subst hy
    exact h3 hx
theorem isP_init {es : E} {n : Nat} {q : List Nat} (h : IsP es (n + 1) q) : ∃ p a, q = p ++ [a] ∧ IsP es n p ∧ a < es.length ∧ lf es a = (n : Int) ∧ rt es a ∉ takenOf es p := by
  have hl := h.len
  have hne : q ≠ [] := by intro z; rw [z] at hl; cases hl
  obtain ⟨p, a, rfl⟩ : ∃ p a, q = p ++ [a] := ⟨q.dropLast, q.getLast hne, (List.dropLast_concat_getLast hne).symm⟩
  have hp : p.length = n := by simp at hl; exact hl
  have nd := h.nd
  rw [taken_snoc, List.nodup_append] at nd
  have ha := h.pos n a (by rw [List.getElem?_append_right (by omega)]; simp [hp])
  refine ⟨p, a, rfl, ⟨hp, fun i b e => h.pos i b ?_, nd.1⟩, ha.1, ha.2, fun z => nd.2.2 _ z _ (List.mem_singleton_self _) rfl⟩
  rw [List.getElem?_append_left]
  · exact e
  · exact (List.getElem?_eq_some_iff.mp e).1
theorem mem_prs {es : E} : ∀ {n : Nat} {p : List Nat}, p ∈ prs es n ↔ IsP es n p
  | 0, p => by
    simp only [prs, List.mem_singleton]
    constructor
    · rintro rfl; exact ⟨rfl, fun i a e => by simp at e, by simp [takenOf]⟩
    · intro h; exact List.eq_nil_of_length_eq_zero h.len
  | n + 1, q => by
    simp only [prs, List.mem_flatMap, mem_ext]
    constructor
    · rintro ⟨p, hp, a, rfl, h1, h2, h3⟩
      exact isP_snoc (mem_prs.mp hp) h1 h2 h3
    · intro h
      obtain ⟨p, a, rfl, hp, h1, h2, h3⟩ := isP_init h
      exact ⟨p, mem_prs.mpr hp, a, rfl, h1, h2, h3⟩
theorem nodup_prs (es : E) : ∀ n, (prs es n).Nodup
  | 0 => by simp [prs]
  | n + 1 => by
    unfold prs
    rw [List.nodup_iff_pairwise_ne, List.pairwise_flatMap]
    refine ⟨fun p hp => ?_, ?_⟩
    · unfold ext
      rw [List.pairwise_map]
      refine List.Pairwise.imp ?_ (List.Pairwise.filter _ (List.nodup_iff_pairwise_ne.mp List.nodup_range))
      intro a b h z
      exact h (by simpa using z)
    · refine List.Pairwise.imp_of_mem ?_ (List.nodup_iff_pairwise_ne.mp (nodup_prs es n))
      intro p q hp hq ne x hx y hy z
      obtain ⟨a, rfl, _⟩ := mem_ext.mp hx
      obtain ⟨b, rfl, _⟩ := mem_ext.mp hy
      have := (mem_prs.mp hp).len
      have := (mem_prs.mp hq).len
      exact ne (List.append_inj z (by omega)).1
/-- positions in it are its own -/
theorem IsP.mem {es : E} {n : Nat} {p : List Nat} (h : IsP es n p) {a : Nat} (m : a ∈ p) : a < es.length ∧ ∃ i : Nat, i < n ∧ lf es a = (i : Int) ∧ p[i]? = some a := by
  obtain ⟨i, e⟩ := List.mem_iff_getElem?.mp m
  have q := h.pos i a e
  exact ⟨q.1, i, by have := (List.getElem?_eq_some_iff.mp e).1; have := h.len; omega, q.2, e⟩
theorem IsP.nodup {es : E} {n : Nat} {p : List Nat} (h : IsP es n p) : p.Nodup := by
  have := h.nd
  unfold takenOf at this
  rw [List.nodup_iff_pairwise_ne] at this ⊢
  rw [List.pairwise_map] at this
  exact this.imp fun h z => h (by rw [z])
theorem IsP.has {es : E} {n : Nat} {p : List Nat} (h : IsP es n p) {i : Nat} (hi : i < n) : ∃ a, p[i]? = some a ∧ a < es.length ∧ lf es a = (i : Int) := by
  have hl : i < p.length := by rw [h.len]; exact hi
  refine ⟨p[i], List.getElem?_eq_getElem hl, h.pos i _ (List.getElem?_eq_getElem hl)⟩
/-- two pairings differ in an edge -/
theorem IsP.diff {es : E} {n : Nat} {p q : List Nat} (hp : IsP es n p) (hq : IsP es n q) (ne : p ≠ q) : ∃ a, a ∈ p ∧ a ∉ q := by
  apply Classical.byContradiction
  intro hno
  refine ne (List.ext_getElem? fun i => ?_)
  by_cases hi : i < n
  · obtain ⟨a, e, _, l⟩ := hp.has hi
    have : a ∈ q := Classical.byContradiction fun z => hno ⟨a, List.mem_of_getElem? e, z⟩
    obtain ⟨_, j, _, l2, e2⟩ := hq.mem this
    have : i = j := by omega
    rw [e, this, e2]
  · rw [List.getElem?_eq_none (by rw [hp.len]; omega), List.getElem?_eq_none (by rw [hq.len]; omega)]
end Pm
/-! Pm2: costs, cheapest ones, rows of weights. -/
namespace Pm
def cost (w : List Int) (p : List Nat) : Int := (p.map fun a => w.getD a 0).sum
def Cheap (w : List Int) (ps : List (List Nat)) (p : List Nat) : Prop := p ∈ ps ∧ ∀ q ∈ ps, cost w p ≤ cost w q
/-- the rows of m numbers below top, the first one the most -/
def box (top : Nat) : Nat → List (List Int)
  | 0 => [[]]
  | m + 1 => (box top m).flatMap fun row => (List.range top).map fun (w : Nat) => row ++ [(w : Int)]
theorem mem_box {top : Nat} : ∀ {m : Nat} {r : List Int}, r ∈ box top m ↔ r.length = m ∧ ∀ x ∈ r, 0 ≤ x ∧ x < top
  | 0, r => by
    simp only [box, List.mem_singleton]
    constructor
    · rintro rfl; simp
    · intro h; exact List.eq_nil_of_length_eq_zero h.1
  | m + 1, r => by
    simp only [box, List.mem_flatMap, List.mem_map, List.mem_range]
    constructor
    · rintro ⟨s, hs, w, hw, rfl⟩
      have := mem_box.mp hs
      refine ⟨by simp [this.1], fun x hx => ?_⟩
      rcases List.mem_append.mp hx with h | h
      · exact this.2 x h
      · simp at h; subst h; omega
    · rintro ⟨h1, h2⟩
      have hne : r ≠ [] := by intro z; rw [z] at h1; cases h1
      have e := List.dropLast_concat_getLast hne
      have hb := h2 _ (List.getLast_mem hne)
      refine ⟨r.dropLast, mem_box.mpr ⟨by simp [h1], fun x hx => h2 x (List.dropLast_subset _ hx)⟩, (r.getLast hne).toNat, by omega, ?_⟩
      rw [Int.toNat_of_nonneg hb.1]; exact e
theorem nodup_box (top : Nat) : ∀ m, (box top m).Nodup
  | 0 => by simp [box]
  | m + 1 => by
    unfold box
    rw [List.nodup_iff_pairwise_ne, List.pairwise_flatMap]
    refine ⟨fun p hp => ?_, ?_⟩
    · rw [List.pairwise_map]
      refine List.Pairwise.imp ?_ (List.nodup_iff_pairwise_ne.mp (List.nodup_range (n := top)))
      intro a b h z
      have := (List.append_inj' z rfl).2
      simp at this
      exact h (by omega)
    · refine List.Pairwise.imp ?_ (List.nodup_iff_pairwise_ne.mp (nodup_box top m))
      intro p q ne x hx y hy z
      obtain ⟨a, _, rfl⟩ := List.mem_map.mp hx
      obtain ⟨b, _, rfl⟩ := List.mem_map.mp hy
      exact ne (List.append_inj' z rfl).1
theorem length_box (top : Nat) : ∀ m, (box top m).length = top ^ m
  | 0 => rfl
  | m + 1 => by
    unfold box
    have : ∀ (l : List (List Int)), (l.flatMap fun row => (List.range top).map fun (w : Nat) => row ++ [(w : Int)]).length = l.length * top := by
      intro l
      induction l with
      | nil => simp
      | cons a l ih => rw [List.flatMap_cons, List.length_append, ih]; simp [Nat.add_mul, Nat.add_comm]
    rw [this, length_box top m, Nat.pow_succ]
/-- pigeons -/
theorem nodup_le {α : Type} : ∀ {l m : List α}, l.Nodup → (∀ x ∈ l, x ∈ m) → l.length ≤ m.length
  | [], m, _, _ => Nat.zero_le _
  | a :: l, m, h, hs => by
    obtain ⟨m1, m2, rfl⟩ := List.append_of_mem (hs a (List.mem_cons_self ..))
    have hn := List.nodup_cons.mp h
    have := nodup_le (l := l) (m := m1 ++ m2) hn.2 fun x hx => by
      have hx' := hs x (List.mem_cons_of_mem _ hx)
      rcases List.mem_append.mp hx' with z | z
      · exact List.mem_append_left _ z
      · rcases List.mem_cons.mp z with z | z
        · subst z; exact absurd hx hn.1
        · exact List.mem_append_right _ z
    simp only [List.length_append, List.length_cons] at this ⊢
    omega
theorem nodup_map_le {α β : Type} {l : List α} {m : List β} (f : α → β) (h : l.Nodup) (hi : ∀ x ∈ l, ∀ y ∈ l, f x = f y → x = y) (hm : ∀ x ∈ l, f x ∈ m) : l.length ≤ m.length := by
  rw [← List.length_map (f := f)]
  refine nodup_le ?_ fun y hy => by
    obtain ⟨x, hx, rfl⟩ := List.mem_map.mp hy
    exact hm x hx
  rw [List.nodup_iff_pairwise_ne, List.pairwise_map]
  refine List.Pairwise.imp_of_mem ?_ (List.nodup_iff_pairwise_ne.mp h)
  intro a b ha hb ne z
  exact ne (hi a ha b hb z)
/-- the cost without an edge -/
def costBut (w : List Int) (x : Nat) (p : List Nat) : Int := cost w (p.filter fun a => a != x)
theorem cost_cons (w : List Int) (a : Nat) (p : List Nat) : cost w (a :: p) = w.getD a 0 + cost w p := by simp [cost]
theorem cost_split (w : List Int) (x : Nat) : ∀ {p : List Nat}, p.Nodup → cost w p = costBut w x p + if x ∈ p then w.getD x 0 else 0
  | [], _ => by simp [cost, costBut]
  | a :: p, h => by
    have hn := List.nodup_cons.mp h
    have ih := cost_split w x hn.2
    rw [cost_cons, ih]
    by_cases e : a = x
    · subst e
      have : costBut w a (a :: p) = costBut w a p := by simp [costBut]
      rw [this, if_neg hn.1, if_pos (List.mem_cons_self ..)]
      omega
    · have : costBut w x (a :: p) = w.getD a 0 + costBut w x p := by
        unfold costBut
        rw [List.filter_cons_of_pos (by simp [e]), cost_cons]
      rw [this]
      have : (x ∈ a :: p) = (x ∈ p) := by simp [Ne.symm e]
      simp only [this]
      omega
theorem costBut_eq {w w' : List Int} {x : Nat} (h : ∀ a, a ≠ x → w.getD a 0 = w'.getD a 0) (p : List Nat) : costBut w x p = costBut w' x p := by
  unfold costBut cost
  congr 1
  refine List.map_congr_left fun a ha => h a ?_
  have := (List.mem_filter.mp ha).2
  simpa using this
/-- threatened -/
def Threat (w : List Int) (ps : List (List Nat)) (x : Nat) : Prop := ∃ p q, Cheap w ps p ∧ Cheap w ps q ∧ x ∈ p ∧ x ∉ q
/-- one weight at most threatens an edge -/
theorem one_weight {w w' : List Int} {ps : List (List Nat)} {x : Nat} (hn : ∀ p ∈ ps, p.Nodup) (h : ∀ a, a ≠ x → w.getD a 0 = w'.getD a 0) (t : Threat w ps x) (t' : Threat w' ps x) : w.getD x 0 = w'.getD x 0 := by
  obtain ⟨p, q, cp, cq, mp, mq⟩ := t
  obtain ⟨p', q', cp', cq', mp', mq'⟩ := t'
  have sp := cost_split w x (hn p cp.1)
  have sq := cost_split w x (hn q cq.1)
  have sp' := cost_split w' x (hn p' cp'.1)
  have sq' := cost_split w' x (hn q' cq'.1)
  have rp := cost_split w' x (hn p cp.1)
  have rq := cost_split w' x (hn q cq.1)
  have rp' := cost_split w x (hn p' cp'.1)
  have rq' := cost_split w x (hn q' cq'.1)
  rw [if_pos mp] at sp rp
  rw [if_neg mq] at sq rq
  rw [if_pos mp'] at sp' rp'
  rw [if_neg mq'] at sq' rq'
  have e1 := costBut_eq h p
  have e2 := costBut_eq h q
  have e3 := costBut_eq h p'
  have e4 := costBut_eq h q'
  have i1 := cp.2 q cq.1
  have i2 := cq.2 p cp.1
  have i3 := cp.2 p' cp'.1
  have i4 := cq.2 q' cq'.1
  have j1 := cp'.2 q' cq'.1
  have j2 := cq'.2 p' cp'.1
  have j3 := cp'.2 p cp.1
  have j4 := cq'.2 q cq.1
  omega
theorem eraseIdx_getD {w : List Int} {x a : Nat} (h : a ≠ x) (hl : x < w.length) : w.getD a 0 = (w.eraseIdx x).getD (if a < x then a else a - 1) 0 := by
  rw [List.getD_eq_getElem?_getD, List.getD_eq_getElem?_getD, List.getElem?_eraseIdx]
  by_cases hx : a < x
  · simp [hx]
  · have : ¬ (a - 1 < x) := by omega
    rw [if_neg hx, if_neg this]
    congr 2
    omega
/-- rows that threaten x -/
theorem threat_count {ps : List (List Nat)} {top m x : Nat} (hn : ∀ p ∈ ps, p.Nodup) (hx : x < m) (c : List Int → Bool) (hc : ∀ w, c w = true → Threat w ps x) : ((box top m).filter c).length ≤ top ^ (m - 1) := by
  rw [← length_box top (m - 1)]
  refine nodup_map_le (fun w => w.eraseIdx x) (List.Nodup.sublist List.filter_sublist (nodup_box top m)) ?_ ?_
  · intro w hw w' hw' e
    obtain ⟨b1, c1⟩ := List.mem_filter.mp hw
    obtain ⟨b2, c2⟩ := List.mem_filter.mp hw'
    have l1 := (mem_box.mp b1).1
    have l2 := (mem_box.mp b2).1
    have e : w.eraseIdx x = w'.eraseIdx x := e
    have oth : ∀ a, a ≠ x → w.getD a 0 = w'.getD a 0 := fun a h => by rw [eraseIdx_getD h (by omega), eraseIdx_getD (w := w') h (by omega), e]
    have own := one_weight hn oth (hc w c1) (hc w' c2)
    refine List.ext_getElem (by omega) fun i h1 h2 => ?_
    have : w.getD i 0 = w'.getD i 0 := by
      by_cases z : i = x
      · rw [z]; exact own
      · exact oth i z
    simpa [h1, h2] using this
  · intro w hw
    obtain ⟨b1, c1⟩ := List.mem_filter.mp hw
    obtain ⟨l1, r1⟩ := mem_box.mp b1
    refine mem_box.mpr ⟨by rw [List.length_eraseIdx_of_lt (by omega)]; omega, fun y hy => r1 y (List.mem_of_mem_eraseIdx hy)⟩
open Classical in
theorem union_count {α : Type} (l : List α) (T : α → Nat → Prop) : ∀ (m : Nat) (B : Nat) (c : α → Bool), (∀ a ∈ l, c a = true → ∃ x, x < m ∧ T a x) → (∀ x, x < m → (l.filter fun a => decide (T a x)).length ≤ B) → (l.filter c).length ≤ m * B
  | 0, B, c, h, _ => by
    have : l.filter c = [] := by
      rw [List.filter_eq_nil_iff]
      intro a ha z
      obtain ⟨x, hx, _⟩ := h a ha z
      omega
    simp [this]
  | m + 1, B, c, h, hb => by
    have h1 := union_count l T m B (fun a => c a && !decide (T a m)) (fun a ha z => by
      simp only [Bool.and_eq_true, Bool.not_eq_true', decide_eq_false_iff_not] at z
      obtain ⟨x, hx, t⟩ := h a ha z.1
      refine ⟨x, ?_, t⟩
      rcases Nat.lt_or_ge x m with q | q
      · exact q
      · have : x = m := by omega
        subst this; exact absurd t z.2) fun x hx => hb x (by omega)
    have h2 := hb m (by omega)
    have h3 : (l.filter c).length ≤ (l.filter fun a => c a && !decide (T a m)).length + (l.filter fun a => decide (T a m)).length := by
      clear h1 h2 h hb
      induction l with
      | nil => simp
      | cons a l ih =>
        simp only [List.filter_cons]
        cases c a <;> cases decide (T a m) <;> simp <;> omega
    have : (m + 1) * B = m * B + B := by rw [Nat.add_mul]; omega
    omega
open Classical in
/-- few rows threaten at all -/
theorem few {es : E} {n top : Nat} (c : List Int → Bool) (hc : ∀ w, c w = true → ∃ p q, Cheap w (prs es n) p ∧ Cheap w (prs es n) q ∧ p ≠ q) : ((box top es.length).filter c).length ≤ es.length * top ^ (es.length - 1) := by
  refine union_count _ (fun w x => Threat w (prs es n) x) es.length _ c (fun w _ z => ?_) fun x hx => ?_
  · obtain ⟨p, q, cp, cq, ne⟩ := hc w z
    obtain ⟨a, ha, hb⟩ := (mem_prs.mp cp.1).diff (mem_prs.mp cq.1) ne
    exact ⟨a, ((mem_prs.mp cp.1).mem ha).1, p, q, cp, cq, ha, hb⟩
  · exact threat_count (fun p hp => (mem_prs.mp hp).nodup) hx _ fun w z => of_decide_eq_true z
end Pm
/-! VmZ: more facts for the working out; pairings as data. -/
namespace Vm
open PySem PySem.Spec L2 Pm
theorem oks_of {k : Nat} : ∀ {ds : List D}, (∀ d ∈ ds, d.ok k = true) → D.oks ds k = true
  | [], _ => rfl
  | d :: ds, h => by
    rw [D.oks, h d (List.mem_cons_self ..), oks_of fun x m => h x (List.mem_cons_of_mem _ m)]; rfl
theorem A2.right {α β : Type} {r : α → β → Prop} {as : List α} {bs : List β} (h : A2 r as bs) {b : β} (m : b ∈ bs) : ∃ a, a ∈ as ∧ r a b := by
  induction h with
  | nil => cases m
  | cons e _ ih =>
    rcases List.mem_cons.mp m with rfl | m
    · exact ⟨_, List.mem_cons_self .., e⟩
    · obtain ⟨a, h1, h2⟩ := ih m
      exact ⟨a, List.mem_cons_of_mem _ h1, h2⟩
theorem ok_ints {t : Bool} {k : Nat} (xs : List Int) : (D.lst t (xs.map D.int)).ok (k + 1) = true := by
  show D.oks _ k = true
  exact oks_of fun d m => by obtain ⟨i, _, rfl⟩ := List.mem_map.mp m; rfl
theorem ok_nats {t : Bool} {k : Nat} (xs : List Nat) : (D.lst t (xs.map nD)).ok (k + 1) = true := by
  show D.oks _ k = true
  exact oks_of fun d m => by obtain ⟨i, _, rfl⟩ := List.mem_map.mp m; rfl
theorem eqv_nil {t t' : Bool} {ds : List D} : D.eqv (.lst t ds) (.lst t' []) = ds.isEmpty := by
  cases ds <;> simp [D.eqv, D.eqvs]
theorem any_nats (xs : List Nat) (a : Nat) : ((xs.map nD).any fun z => D.eqv z (.int (a : Int))) = decide (a ∈ xs) := by
  induction xs with
  | nil => rfl
  | cons x xs ih =>
    rw [List.map_cons, List.any_cons, ih]
    show ((x : Int) == (a : Int) || _) = _
    by_cases h : x = a
    · subst h; simp
    · have : ¬ (x : Int) = a := by omega
      simp [h, this, Ne.symm h]
theorem any_ints (xs : List Int) (a : Int) : ((xs.map D.int).any fun z => D.eqv z (.int a)) = decide (a ∈ xs) := by
  induction xs with
  | nil => rfl
  | cons x xs ih =>
    rw [List.map_cons, List.any_cons, ih]
    show (x == a || _) = _
    by_cases h : x = a
    · subst h; simp
    · simp [h, Ne.symm h]
theorem oks_ints (xs : List Int) (k : Nat) : D.oks (xs.map D.int) k = true := oks_of fun d m => by obtain ⟨i, _, rfl⟩ := List.mem_map.mp m; rfl
theorem oks_nats (xs : List Nat) (k : Nat) : D.oks (xs.map nD) k = true := oks_of fun d m => by obtain ⟨i, _, rfl⟩ := List.mem_map.mp m; rfl
theorem fresh_of : ∀ {ds : List D}, (∀ d ∈ ds, d.fresh = true) → D.freshs ds = true
  | [], _ => rfl
  | d :: ds, h => by rw [D.freshs, h d (List.mem_cons_self ..), fresh_of fun x m => h x (List.mem_cons_of_mem _ m)]; rfl
/-- data of its own, young all through -/
def Yo {α : Type} [En α] (x : α) (d : D) : Prop := Is x d ∧ d.fresh = true
theorem yo_lst {α : Type} [En α] {xs : List α} {ds : List D} (h : A2 Yo xs ds) : Yo xs (.lst true ds) :=
  ⟨is_lst'.mpr (h.imp fun _ _ _ e => e.1), by
    show (true && D.freshs ds) = true
    rw [fresh_of fun d m => by obtain ⟨a, _, e⟩ := h.right m; exact e.2]; rfl⟩
theorem yo_ints {xs : List Int} : Yo xs (.lst true (xs.map D.int)) := yo_lst (A2.map _ fun _ _ => ⟨is_int.mpr rfl, rfl⟩)
theorem yo_nats {xs : List Nat} : Yo xs (.lst true (xs.map nD)) := yo_lst (A2.map _ fun _ _ => ⟨is_nat.mpr rfl, rfl⟩)
theorem zip_a2 {α : Type} {r : α → D → Prop} {f : α → Int} : ∀ {as : List α} {ds cs : List D}, A2 r as ds → A2 (fun c d => d = D.int c) (as.map f) cs → A2 (fun a d => ∃ da, r a da ∧ d = .tup [da, .int (f a)]) as (List.zipWith pairD ds cs)
  | [], _, _, .nil, .nil => .nil
  | _ :: _, _, _, .cons h t, .cons e t' => .cons ⟨_, h, by rw [e]; rfl⟩ (zip_a2 t t')
theorem enum_a2 (es : List (Int × Int)) : A2 (fun (i : Nat) d => d = .tup [.int (i : Int), .tup [.int (lf es i), .int (rt es i)]]) (List.range es.length) ((es.map eD).mapIdx fun i x => pairD (.int (i : Int)) x) := by
  have : ((es.map eD).mapIdx fun i x => pairD (.int (i : Int)) x) = (List.range es.length).map fun (i : Nat) => D.tup [.int (i : Int), .tup [.int (lf es i), .int (rt es i)]] := by
    refine List.ext_getElem (by simp) fun i h1 h2 => ?_
    simp at h1
    simp only [List.getElem_mapIdx, List.getElem_map, List.getElem_range]
    unfold pairD eD lf rt
    rw [List.getD_eq_getElem?_getD, List.getElem?_eq_getElem h1]; rfl
  rw [this]
  exact A2.map _ fun _ _ => rfl
/-! pairings in their number -/
theorem len_ext (es : E) (left : Int) (p : List Nat) : (ext es left p).length ≤ es.length := by
  unfold ext
  rw [List.length_map]
  exact Nat.le_trans (List.length_filter_le ..) (by simp)
theorem len_flatMap_le {α β : Type} {f : α → List β} {c : Nat} (h : ∀ a, (f a).length ≤ c) : ∀ l : List α, (l.flatMap f).length ≤ l.length * c
  | [] => by simp
  | a :: l => by
    rw [List.flatMap_cons, List.length_append, List.length_cons, Nat.add_mul]
    have := len_flatMap_le h l
    have := h a
    omega
theorem len_prs {es : E} (h : es.length ≤ 12) : ∀ n, (prs es n).length ≤ 12 ^ n
  | 0 => by simp [prs]
  | n + 1 => by
    unfold prs
    refine Nat.le_trans (len_flatMap_le (c := 12) (fun p => Nat.le_trans (len_ext ..) h) _) ?_
    rw [Nat.pow_succ]
    exact Nat.mul_le_mul_right _ (len_prs h n)
theorem len_prs5 {es : E} (h : es.length ≤ 12) {n : Nat} (hn : n ≤ 5) : (prs es n).length ≤ 248832 :=
  Nat.le_trans (len_prs h n) (Nat.pow_le_pow_right (by omega) hn)
theorem prs_nil {es : E} {n : Nat} (h : prs es n = []) : ∀ m, n ≤ m → prs es m = []
  | 0, l => by have : n = 0 := by omega
               subst this; exact h
  | m + 1, l => by
    rcases Nat.lt_or_ge m n with q | q
    · have : n = m + 1 := by omega
      subst this; exact h
    · rw [prs, prs_nil h m q]; rfl
end Vm
namespace Pm
/-- the cheapest of some pairings -/
def cheapL (ws : List Int) (ps : List (List Nat)) : List (List Nat) := ps.filter fun p => decide (∀ q ∈ ps, cost ws p ≤ cost ws q)
def thrL (ws : List Int) (ps : List (List Nat)) : List Nat := (List.range ws.length).filter fun a => decide (0 < ((cheapL ws ps).filter fun p => decide (a ∈ p)).length ∧ ((cheapL ws ps).filter fun p => decide (a ∈ p)).length < (cheapL ws ps).length)
theorem cheapL_eq {ws : List Int} {ps : List (List Nat)} {m : Int} (h : m ∈ ps.map (cost ws)) (hm : ∀ y ∈ ps.map (cost ws), m ≤ y) : ps.filter (fun p => decide (cost ws p = m)) = cheapL ws ps := by
  obtain ⟨p0, h0, e0⟩ := List.mem_map.mp h
  refine List.filter_congr fun p hp => ?_
  have h1 := hm _ (List.mem_map_of_mem hp)
  have : (cost ws p = m) ↔ ∀ q ∈ ps, cost ws p ≤ cost ws q := by
    constructor
    · intro e q hq
      have := hm _ (List.mem_map_of_mem hq)
      omega
    · intro a
      have := a p0 h0
      omega
  by_cases c : cost ws p = m
  · rw [decide_eq_true c, decide_eq_true (this.mp c)]
  · rw [decide_eq_false c, decide_eq_false fun z => c (this.mpr z)]
end Pm
/-! VmV: two fors; counting. -/
namespace Vm
open PySem PySem.Spec L2 Pm
theorem range_split {n a : Nat} {pre post : List Nat} (h : List.range n = pre ++ a :: post) : a = pre.length ∧ a < n := by
  have hl := congrArg List.length h
  simp at hl
  have h1 : (List.range n)[pre.length]? = some a := by rw [h]; simp
  rw [List.getElem?_range (by omega)] at h1
  cases h1
  exact ⟨rfl, by omega⟩
theorem comp2W_a2 {α β : Type} {r : α → D → Prop} {r' : β → D → Prop} (f : α → List β) {step : D → Nat → List D → (List D → Nat → Prop) → Prop} {Q : List D → Nat → Prop} :
    ∀ {as : List α} {xs : List D} {n : Nat} {ad : List β} {acc : List D}, A2 r as xs → A2 r' ad acc → (ad ++ as.flatMap f).length ≤ sizeLine →
      (∀ a d n ad acc K, a ∈ as → r a d → A2 r' ad acc → acc.length + (f a).length ≤ sizeLine → (∀ acc', A2 r' (ad ++ f a) acc' → K acc' n) → step d n acc K) →
      (∀ ds, A2 r' (ad ++ as.flatMap f) ds → Q ds n) → comp2W step xs n acc Q
  | _, _, n, ad, acc, .nil, h, _, _, q => q acc (by simpa using h)
  | a :: as, x :: xs, n, ad, acc, .cons hr t, h, hl, hs, q => by
    unfold comp2W
    rw [List.flatMap_cons] at hl q
    refine hs a x n ad acc _ (List.mem_cons_self ..) hr h (by rw [← h.length]; simp at hl ⊢; omega) fun acc' z => ?_
    exact comp2W_a2 f t z (by rw [List.append_assoc]; exact hl) (fun a d n ad acc K m => hs a d n ad acc K (List.mem_cons_of_mem _ m)) fun ds z => q ds (by rw [← List.append_assoc]; exact z)
theorem count_map {α : Type} (f : α → Int) (m : Int) : ∀ l : List α, (l.map f).count m = (l.filter fun a => decide (f a = m)).length
  | [] => rfl
  | a :: l => by
    rw [List.map_cons, List.count_cons, count_map f m l, List.filter_cons]
    by_cases h : f a = m <;> simp [h]
end Vm
namespace Pm
/-- rows in which a pairing is not alone the cheapest -/
def cntT (es : E) (size top : Nat) : Nat := ((box top es.length).filter fun row => decide (1 < (cheapL row (prs es size)).length)).length
end Pm
/-! Pm3: the law's own rows are all rows. -/
namespace Pm
def rowL (top : Int) : Nat → Int → List Int
  | 0, _ => []
  | m + 1, x => (x % top) :: rowL top m (x / top)
theorem rowL_len (top : Int) : ∀ (m : Nat) (x : Int), (rowL top m x).length = m
  | 0, _ => rfl
  | m + 1, x => by rw [rowL, List.length_cons, rowL_len top m]
theorem rowL_mem {top : Nat} : ∀ {m : Nat} {x : Int}, (0 < m → 0 < top) → ∀ w ∈ rowL top m x, 0 ≤ w ∧ w < top
  | 0, _, _, _, h => by cases h
  | m + 1, x, ht, w, h => by
    have := ht (by omega)
    rcases List.mem_cons.mp h with rfl | h
    · exact ⟨Int.emod_nonneg _ (by omega), Int.emod_lt_of_pos _ (by omega)⟩
    · exact rowL_mem (fun _ => this) w h
theorem rowL_inj {top : Nat} : ∀ {m x y : Nat}, x < top ^ m → y < top ^ m → rowL top m x = rowL top m y → x = y
  | 0, x, y, hx, hy, _ => by simp at hx hy; omega
  | m + 1, x, y, hx, hy, h => by
    have ht : 0 < top := by
      rcases Nat.eq_zero_or_pos top with z | z
      · subst z; simp at hx
      · exact z
    rw [rowL, rowL, ← Int.natCast_ediv, ← Int.natCast_ediv, ← Int.natCast_emod, ← Int.natCast_emod] at h
    injection h with h1 h2
    have hd : ∀ z, z < top ^ (m + 1) → z / top < top ^ m := fun z hz => by
      rw [Nat.div_lt_iff_lt_mul ht, ← Nat.pow_succ]; exact hz
    have := rowL_inj (hd x hx) (hd y hy) h2
    have h1 : x % top = y % top := by omega
    rw [← Nat.div_add_mod x top, ← Nat.div_add_mod y top, this, h1]
theorem rowL_sur {top : Nat} : ∀ {m : Nat} {r : List Int}, r.length = m → (∀ w ∈ r, 0 ≤ w ∧ w < top) → ∃ x : Nat, x < top ^ m ∧ rowL top m x = r
  | 0, [], _, _ => ⟨0, by simp, rfl⟩
  | m + 1, w :: r, hl, hw => by
    obtain ⟨x, hx, e⟩ := rowL_sur (m := m) (r := r) (by simpa using hl) fun w h => hw w (List.mem_cons_of_mem _ h)
    have h0 := hw w (List.mem_cons_self ..)
    have ht : 0 < top := by omega
    refine ⟨w.toNat + top * x, ?_, ?_⟩
    · rw [Nat.pow_succ]
      have : top * (x + 1) ≤ top * top ^ m := Nat.mul_le_mul_left _ hx
      rw [Nat.mul_add, Nat.mul_one] at this
      rw [Nat.mul_comm (top ^ m)]
      omega
    · rw [rowL, ← Int.natCast_ediv, ← Int.natCast_emod, Nat.add_mul_div_left _ _ ht, Nat.add_mul_mod_self_left, Nat.mod_eq_of_lt (by omega), Nat.div_eq_of_lt (by omega), Nat.zero_add, e, Int.toNat_of_nonneg h0.1]
theorem rows_perm {top m : Nat} (ht : 0 < m → 0 < top) : ((List.range (top ^ m)).map fun (x : Nat) => rowL top m x).Perm (box top m) := by
  rw [List.perm_ext_iff_of_nodup ?_ (nodup_box top m)]
  · intro r
    rw [mem_box]
    constructor
    · intro h
      obtain ⟨x, _, rfl⟩ := List.mem_map.mp h
      exact ⟨rowL_len .., rowL_mem ht⟩
    · rintro ⟨h1, h2⟩
      obtain ⟨x, hx, e⟩ := rowL_sur h1 h2
      exact List.mem_map.mpr ⟨x, List.mem_range.mpr hx, e⟩
  · rw [List.nodup_iff_pairwise_ne, List.pairwise_map]
    refine List.Pairwise.imp_of_mem ?_ (List.nodup_iff_pairwise_ne.mp List.nodup_range)
    intro a b ha hb ne z
    exact ne (rowL_inj (List.mem_range.mp ha) (List.mem_range.mp hb) z)
theorem rows_count {top m : Nat} (c : List Int → Bool) : (((List.range (top ^ m)).map fun (x : Nat) => rowL top m x).filter c).length = ((box top m).filter c).length := by
  by_cases h : 0 < m → 0 < top
  · exact ((rows_perm h).filter c).length_eq
  · have h1 : 0 < m := by omega
    have h2 : top = 0 := by omega
    subst h2
    have : (box 0 m) = [] := List.eq_nil_of_length_eq_zero (by rw [length_box, Nat.zero_pow h1])
    rw [this, Nat.zero_pow h1]; rfl
end Pm
/-! VmU: draws, orders, edges. -/
namespace Vm
open PySem PySem.Spec L2 Pm
theorem perm_map_inv {α β : Type} {f : α → β} : ∀ {ys zs : List β}, ys.Perm zs → ∀ {xs : List α}, zs = xs.map f → ∃ xs' : List α, xs'.Perm xs ∧ ys = xs'.map f := by
  intro ys zs h
  induction h with
  | nil => intro xs e; refine ⟨xs, .refl _, e⟩
  | cons a _ ih =>
    intro xs e
    cases xs with
    | nil => cases e
    | cons x xs =>
      rw [List.map_cons] at e
      injection e with e1 e2
      obtain ⟨xs', p, rfl⟩ := ih e2
      exact ⟨x :: xs', p.cons x, by rw [e1]; rfl⟩
  | swap a b l =>
    intro xs e
    match xs, e with
    | x :: y :: xs, e =>
      simp only [List.map_cons, List.cons.injEq] at e
      obtain ⟨rfl, rfl, rfl⟩ := e
      exact ⟨y :: x :: xs, .swap .., rfl⟩
  | trans _ _ ih1 ih2 =>
    intro xs e
    obtain ⟨xs1, p1, e1⟩ := ih2 e
    obtain ⟨xs2, p2, e2⟩ := ih1 e1
    exact ⟨xs2, p2.trans p1, e2⟩
theorem ins_perm (xs : List D) (i : Int) (d : D) : (insAt xs i d).Perm (xs ++ [d]) := by
  unfold insAt
  refine List.perm_middle.trans ?_
  rw [List.take_append_drop]
  exact (List.perm_append_singleton d xs).symm
theorem a2_eq {α : Type} : ∀ xs : List α, A2 (fun a b => a = b) xs xs
  | [] => .nil
  | _ :: xs => .cons rfl (a2_eq xs)
theorem cut_pre {xs : List D} {k : Int} (h : 0 ≤ k) : cutD xs none (some k) = xs.take k.toNat := by
  unfold cutD HT.sIx
  simp only []
  have : ¬ k < 0 := by omega
  simp [this]
theorem any_edges (es : E) (e : Int × Int) : ((es.map eD).any fun z => D.eqv z (eD e)) = decide (e ∈ es) := by
  induction es with
  | nil => rfl
  | cons x xs ih =>
    rw [List.map_cons, List.any_cons, ih]
    show (x.1 == e.1 && (x.2 == e.2 && true) || _) = _
    by_cases h : x = e
    · subst h; simp
    · have : ¬ (x.1 = e.1 ∧ x.2 = e.2) := fun z => h (Prod.ext z.1 z.2)
      by_cases h1 : x.1 = e.1
      · have h2 : ¬ x.2 = e.2 := fun z => this ⟨h1, z⟩
        simp [h1, h2, h, Ne.symm h]
      · simp [h1, h, Ne.symm h]
theorem oks_edges (es : E) (k : Nat) : D.oks (es.map eD) (k + 1) = true := oks_of fun d m => by obtain ⟨i, _, rfl⟩ := List.mem_map.mp m; rfl
theorem pairs_edges : ∀ es : E, D.pairs (es.map eD) = some es
  | [] => rfl
  | e :: es => by rw [List.map_cons, eD, D.pairs, pairs_edges es]; rfl
theorem lex_lt {a b : Int × Int} (h : lexLe a b = true) (ne : a ≠ b) : eLt a b := by
  unfold lexLe at h
  unfold eLt HT.lexLt HT.lexLt HT.lexLt
  simp only [Bool.or_eq_true, Bool.and_eq_true, decide_eq_true_eq] at h
  by_cases h1 : a.1 = b.1
  · rw [if_pos h1]
    have : ¬ a.2 = b.2 := fun z => ne (Prod.ext h1 z)
    rw [if_neg this]
    exact decide_eq_true (by omega)
  · rw [if_neg h1]
    exact decide_eq_true (by omega)
/-- all pairs of so many left ones -/
def allE (size : Nat) : Nat → E
  | 0 => []
  | k + 1 => allE size k ++ (List.range size).map fun (r : Nat) => ((k : Int), (r : Int))
theorem mem_allE {size : Nat} : ∀ {k : Nat} {e : Int × Int}, e ∈ allE size k → 0 ≤ e.1 ∧ e.1 < k ∧ 0 ≤ e.2 ∧ e.2 < size
  | 0, e, h => by cases h
  | k + 1, e, h => by
    rcases List.mem_append.mp h with h | h
    · have := mem_allE h; omega
    · obtain ⟨r, hr, rfl⟩ := List.mem_map.mp h
      have := List.mem_range.mp hr
      exact ⟨by simp, by simp; omega, by simp, by simp; omega⟩
theorem len_allE (size : Nat) : ∀ k, (allE size k).length = k * size
  | 0 => by simp [allE]
  | k + 1 => by rw [allE, List.length_append, len_allE size k, List.length_map, List.length_range, Nat.add_mul, Nat.one_mul]
theorem nodup_allE (size : Nat) : ∀ k, (allE size k).Nodup
  | 0 => by simp [allE]
  | k + 1 => by
    rw [allE, List.nodup_append]
    refine ⟨nodup_allE size k, ?_, ?_⟩
    · rw [List.nodup_iff_pairwise_ne, List.pairwise_map]
      refine List.Pairwise.imp ?_ (List.nodup_iff_pairwise_ne.mp List.nodup_range)
      intro a b ne z
      have := congrArg Prod.snd z
      simp at this; exact ne (by omega)
    · rintro a ha b hb rfl
      have h1 := mem_allE ha
      obtain ⟨r, _, rfl⟩ := List.mem_map.mp hb
      simp at h1
/-- drawn ones in order -/
theorem sorted_ok {size : Nat} {es qs : E} (hs : size ≤ 5) (hb : ∀ e ∈ es, 0 ≤ e.1 ∧ e.1 < size ∧ 0 ≤ e.2 ∧ e.2 < size) (hn : es.Nodup) (hl : es.length ≤ 12) (p : qs.Perm es) (h : qs.Pairwise fun a b => lexLe a b = true) : EdOk size qs := by
  refine ⟨fun e m => hb e (p.mem_iff.mp m), ?_, by rw [p.length_eq]; exact hl, hs⟩
  have hn2 : qs.Nodup := (p.nodup_iff).mpr hn
  exact (h.and (List.nodup_iff_pairwise_ne.mp hn2)).imp fun z => lex_lt z.1 z.2
end Vm
/-! Pm4: a pairing is grown. -/
namespace Pm
abbrev M := List (Int × Int)
def keys (m : M) : List Int := m.map (·.1)
def vals (m : M) : List Int := m.map (·.2)
def look (m : M) (k : Int) : Option Int := (m.find? fun p => decide (p.1 = k)).map (·.2)
def put (m : M) (k v : Int) : M := if (m.any fun p => decide (p.1 = k)) = true then m.map (fun p => if p.1 = k then (p.1, v) else p) else m ++ [(k, v)]
def but (m : M) (k : Int) : M := m.filter fun p => decide (p.1 ≠ k)
theorem nodup_map_inj {α β : Type} {f : α → β} {l : List α} (h : (l.map f).Nodup) {a b : α} (ha : a ∈ l) (hb : b ∈ l) (e : f a = f b) : a = b := by
  induction l with
  | nil => cases ha
  | cons x l ih =>
    rw [List.map_cons, List.nodup_cons] at h
    rcases List.mem_cons.mp ha with h1 | h1
    · rcases List.mem_cons.mp hb with h2 | h2
      · rw [h1, h2]
      · exact absurd (List.mem_map.mpr ⟨b, h2, by rw [← e, h1]⟩) h.1
    · rcases List.mem_cons.mp hb with h2 | h2
      · exact absurd (List.mem_map.mpr ⟨a, h1, by rw [e, h2]⟩) h.1
      · exact ih h.2 h1 h2
theorem nodup_filter {α : Type} {l : List α} (p : α → Bool) (h : l.Nodup) : (l.filter p).Nodup := h.sublist List.filter_sublist
theorem look_mem {m : M} {k v : Int} (h : look m k = some v) : (k, v) ∈ m := by
  unfold look at h
  cases e : m.find? (fun p => decide (p.1 = k)) with
  | none => rw [e] at h; cases h
  | some p =>
    rw [e] at h
    cases h
    have h1 := List.find?_some e
    have h2 := List.mem_of_find?_eq_some e
    have : p.1 = k := by simpa using h1
    rw [← this]; exact h2
theorem look_of {m : M} (hk : (keys m).Nodup) {k v : Int} (h : (k, v) ∈ m) : look m k = some v := by
  unfold look
  cases e : m.find? (fun p => decide (p.1 = k)) with
  | none =>
    have := List.find?_eq_none.mp e _ h
    simp at this
  | some p =>
    have h1 := List.find?_some e
    have h2 := List.mem_of_find?_eq_some e
    have : p.1 = k := by simpa using h1
    rw [nodup_map_inj hk h2 h this]; rfl
theorem look_none {m : M} {k : Int} : look m k = none ↔ k ∉ keys m := by
  unfold look keys
  cases e : m.find? (fun p => decide (p.1 = k)) with
  | none =>
    simp only [Option.map_none, true_iff]
    intro z
    obtain ⟨p, hp, h⟩ := List.mem_map.mp z
    have := List.find?_eq_none.mp e _ hp
    simp at this; exact this h
  | some p =>
    have h1 := List.find?_some e
    have h2 := List.mem_of_find?_eq_some e
    have : p.1 = k := by simpa using h1
    simp only [Option.map_some, reduceCtorEq, false_iff, Classical.not_not]
    exact List.mem_map.mpr ⟨p, h2, this⟩
theorem but_perm {m : M} (hk : (keys m).Nodup) {k v : Int} (h : (k, v) ∈ m) : m.Perm ((k, v) :: but m k) := by
  induction m with
  | nil => cases h
  | cons p m ih =>
    unfold keys at hk
    rw [List.map_cons, List.nodup_cons] at hk
    rcases List.mem_cons.mp h with rfl | h
    · have : but ((k, v) :: m) k = m := by
        unfold but
        rw [List.filter_cons_of_neg (by simp)]
        refine List.filter_eq_self.mpr fun p hp => ?_
        simp only [ne_eq, decide_eq_true_eq]
        intro z
        exact hk.1 (List.mem_map.mpr ⟨p, hp, z⟩)
      rw [this]
    · have ne : p.1 ≠ k := fun z => hk.1 (List.mem_map.mpr ⟨_, h, z.symm⟩)
      have : but (p :: m) k = p :: but m k := by
        unfold but
        rw [List.filter_cons_of_pos (by simpa using ne)]
      rw [this]
      exact ((ih hk.2 h).cons p).trans (List.Perm.swap ..)
theorem but_none {m : M} {k : Int} (h : k ∉ keys m) : but m k = m := by
  unfold but
  refine List.filter_eq_self.mpr fun p hp => ?_
  simp only [ne_eq, decide_eq_true_eq]
  intro z
  exact h (List.mem_map.mpr ⟨p, hp, z⟩)
theorem put_perm {m : M} (hk : (keys m).Nodup) (k v : Int) : (put m k v).Perm ((k, v) :: but m k) := by
  unfold put
  by_cases h : k ∈ keys m
  · obtain ⟨q, hq, e⟩ := List.mem_map.mp h
    rw [if_pos (List.any_eq_true.mpr ⟨q, hq, by simpa using e⟩)]
    have hp := (but_perm hk (k := k) (v := q.2) (by rw [← e]; exact hq)).map (fun p : Int × Int => if p.1 = k then (p.1, v) else p)
    refine hp.trans ?_
    rw [List.map_cons, if_pos rfl]
    have : (but m k).map (fun p : Int × Int => if p.1 = k then (p.1, v) else p) = but m k := by
      rw [List.map_congr_left (g := id), List.map_id]
      intro p hp
      have := (List.mem_filter.mp hp).2
      simp only [ne_eq, decide_eq_true_eq] at this
      rw [if_neg this]; rfl
    rw [this]
  · rw [if_neg]
    · rw [but_none h]; exact (List.perm_append_singleton _ _)
    · intro z
      obtain ⟨q, hq, e⟩ := List.any_eq_true.mp z
      exact h (List.mem_map.mpr ⟨q, hq, by simpa using e⟩)
theorem keys_put {m : M} (hk : (keys m).Nodup) (k v : Int) : (keys (put m k v)).Nodup := by
  have := (put_perm hk k v).map (·.1)
  unfold keys
  rw [this.nodup_iff, List.map_cons, List.nodup_cons]
  refine ⟨fun z => ?_, ?_⟩
  · obtain ⟨p, hp, e⟩ := List.mem_map.mp z
    have := (List.mem_filter.mp hp).2
    simp at this; exact this e
  · exact hk.sublist (List.Sublist.map _ List.filter_sublist)
theorem mem_put {m : M} (hk : (keys m).Nodup) {k v : Int} {p : Int × Int} : p ∈ put m k v ↔ p = (k, v) ∨ (p ∈ m ∧ p.1 ≠ k) := by
  rw [(put_perm hk k v).mem_iff, List.mem_cons]
  unfold but
  rw [List.mem_filter]
  simp
/-- each left one below k has one right one -/
structure Mat (es : E) (k : Nat) (m : M) : Prop where
  ks : (keys m).Nodup
  vs : (vals m).Perm ((List.range k).map fun (i : Nat) => (i : Int))
  ed : ∀ r l, (r, l) ∈ m → (l, r) ∈ es
theorem nodup_ints (k : Nat) : ((List.range k).map fun (i : Nat) => (i : Int)).Nodup := by
  rw [List.nodup_iff_pairwise_ne, List.pairwise_map]
  exact (List.nodup_iff_pairwise_ne.mp List.nodup_range).imp fun ne z => ne (by omega)
theorem mem_ints {k : Nat} {x : Int} : x ∈ ((List.range k).map fun (i : Nat) => (i : Int)) ↔ 0 ≤ x ∧ x < k := by
  rw [List.mem_map]
  constructor
  · rintro ⟨i, hi, rfl⟩
    have := List.mem_range.mp hi
    omega
  · rintro ⟨h1, h2⟩
    exact ⟨x.toNat, List.mem_range.mpr (by omega), by omega⟩
theorem Mat.vnd {es : E} {k : Nat} {m : M} (h : Mat es k m) : (vals m).Nodup := h.vs.nodup_iff.mpr (nodup_ints k)
theorem Mat.lt {es : E} {k : Nat} {m : M} (h : Mat es k m) {r l : Int} (q : (r, l) ∈ m) : 0 ≤ l ∧ l < k :=
  mem_ints.mp (h.vs.mem_iff.mp (List.mem_map.mpr ⟨_, q, rfl⟩))
theorem Mat.inj {es : E} {k : Nat} {m : M} (h : Mat es k m) {r r' l : Int} (q : (r, l) ∈ m) (q' : (r', l) ∈ m) : r = r' :=
  congrArg Prod.fst (nodup_map_inj h.vnd q q' rfl)
/-- what was reached so far -/
structure Rch (es : E) (held : M) (k : Nat) (lefts : List Int) (ways : M) : Prop where
  lf : lefts = (k : Int) :: ways.filterMap fun p => look held p.1
  ks : (keys ways).Nodup
  ed : ∀ r l, (r, l) ∈ ways → (l, r) ∈ es
  path : ∀ (W1 : M) (r l : Int) (W2 : M), ways = W1 ++ (r, l) :: W2 → l = (k : Int) ∨ ∃ r', r' ∈ keys W1 ∧ (r', l) ∈ held
  off : ∀ r l, (r, l) ∈ ways → (r, l) ∉ held
theorem Rch.start (es : E) (held : M) (k : Nat) : Rch es held k [(k : Int)] [] :=
  ⟨rfl, by simp [keys], (fun _ _ h => (by cases h)), (fun W1 r l W2 h => (by simp at h)), (fun _ _ h => (by cases h))⟩
theorem Rch.more {es : E} {held : M} {k : Nat} {lefts : List Int} {ways : M} (m : Mat es k held) (h : Rch es held k lefts ways) {r l : Int} (hl : l ∈ lefts) (hr : r ∉ keys ways) (he : (l, r) ∈ es) :
    Rch es held k (lefts ++ (look held r).toList) (ways ++ [(r, l)]) := by
  have hl' : l = k ∨ ∃ r', r' ∈ keys ways ∧ (r', l) ∈ held := by
    rw [h.lf] at hl
    rcases List.mem_cons.mp hl with hl | hl
    · exact .inl hl
    · obtain ⟨p, hp, e⟩ := List.mem_filterMap.mp hl
      exact .inr ⟨p.1, List.mem_map.mpr ⟨p, hp, rfl⟩, look_mem e⟩
  refine ⟨?_, ?_, ?_, ?_, ?_⟩
  · rw [List.filterMap_append, h.lf]
    cases e : look held r <;> simp [List.filterMap_cons, e]
  · unfold keys
    rw [List.map_append, List.nodup_append]
    refine ⟨h.ks, by simp, ?_⟩
    rintro a ha b hb rfl
    simp at hb
    exact hr (hb ▸ ha)
  · intro r' l' hm
    rcases List.mem_append.mp hm with hm | hm
    · exact h.ed r' l' hm
    · simp at hm; obtain ⟨rfl, rfl⟩ := hm; exact he
  · intro W1 r' l' W2 e
    rcases List.eq_nil_or_concat W2 with rfl | ⟨W, x, rfl⟩
    · have := List.append_inj' e rfl
      simp only [List.cons.injEq, Prod.mk.injEq, and_true] at this
      obtain ⟨rfl, rfl, rfl⟩ := this
      exact hl'
    · rw [List.concat_eq_append, ← List.cons_append, ← List.append_assoc] at e
      have := List.append_inj' e rfl
      exact h.path W1 r' l' W this.1
  · intro r' l' hm
    rcases List.mem_append.mp hm with hm | hm
    · exact h.off r' l' hm
    · simp at hm
      obtain ⟨rfl, rfl⟩ := hm
      intro z
      rcases hl' with e | ⟨r2, h1, h2⟩
      · have := m.lt z; omega
      · exact hr (m.inj z h2 ▸ h1)
/-- the way back: what is held, with one right one that is to be given away -/
structure Flip (es : E) (held ways : M) (k : Nat) (H : M) (r : Int) (W1 : M) : Prop where
  ks : (keys H).Nodup
  ed : ∀ r l, (r, l) ∈ H → (l, r) ∈ es
  same : ∀ r', r' = r ∨ r' ∈ keys W1 → ∀ l, (r', l) ∈ H ↔ (r', l) ∈ held
  vs : (vals (but H r)).Perm ((List.range k).map fun (i : Nat) => (i : Int))
  at_ : ∃ l W2, ways = W1 ++ (r, l) :: W2
theorem Flip.start {es : E} {held ways : M} {k : Nat} {lefts : List Int} (m : Mat es k held) (h : Rch es held k lefts ways) {r : Int} (hr : r ∈ keys ways) (hn : r ∉ keys held) : ∃ W1, Flip es held ways k held r W1 := by
  obtain ⟨p, hp, rfl⟩ := List.mem_map.mp hr
  obtain ⟨W1, W2, e⟩ := List.append_of_mem hp
  exact ⟨W1, m.ks, m.ed, fun _ _ _ => Iff.rfl, by rw [but_none hn]; exact m.vs, p.2, W2, e⟩
/-- a turn: it ends, or it goes on nearer to the start -/
theorem Flip.turn {es : E} {held ways : M} {k : Nat} {lefts : List Int} (m : Mat es k held) (h : Rch es held k lefts ways) {H : M} {r : Int} {W1 : M} (f : Flip es held ways k H r W1) :
    ∃ l, look ways r = some l ∧ ((((H.filter fun p => decide (p.2 = l)).map (·.1)) = [] ∧ Mat es (k + 1) (put H r l)) ∨
      ∃ r' W0, ((H.filter fun p => decide (p.2 = l)).map (·.1))[0]? = some r' ∧ ((H.filter fun p => decide (p.2 = l)).map (·.1)) ≠ [] ∧ W0.length < W1.length ∧ Flip es held ways k (put H r l) r' W0) := by
  obtain ⟨l, W2, ew⟩ := f.at_
  have hin : (r, l) ∈ ways := by rw [ew]; simp
  refine ⟨l, look_of h.ks hin, ?_⟩
  have hoff : (r, l) ∉ H := fun z => h.off r l hin ((f.same r (.inl rfl) l).mp z)
  have hb : ∀ r' l', (r', l') ∈ H → r' ≠ r → (r', l') ∈ but H r := fun r' l' q ne => List.mem_filter.mpr ⟨q, by simpa using ne⟩
  have hvn : (vals (but H r)).Nodup := f.vs.nodup_iff.mpr (nodup_ints k)
  have edp : ∀ r' l', (r', l') ∈ put H r l → (l', r') ∈ es := fun r' l' q => by
    rcases (mem_put f.ks).mp q with e | ⟨q, _⟩
    · cases e; exact h.ed r l hin
    · exact f.ed r' l' q
  rcases h.path W1 r l W2 ew with e | ⟨r', h1, h2⟩
  · refine .inl ⟨?_, keys_put f.ks r l, ?_, edp⟩
    · rw [List.map_eq_nil_iff, List.filter_eq_nil_iff]
      rintro ⟨r', l'⟩ q z
      have z : l' = l := by simpa using z
      subst z
      by_cases c : r' = r
      · subst c; exact hoff q
      · have := mem_ints.mp (f.vs.mem_iff.mp (List.mem_map.mpr ⟨_, hb _ _ q c, rfl⟩))
        simp at this; omega
    · refine ((put_perm f.ks r l).map (·.2)).trans ?_
      rw [List.map_cons, List.range_succ, List.map_append]
      refine ((f.vs.cons l)).trans ?_
      rw [e]
      exact (List.perm_append_singleton _ _).symm
  · have hne : r' ≠ r := fun z => h.off r l hin (z ▸ h2)
    have hH : (r', l) ∈ H := (f.same r' (.inr h1) l).mpr h2
    have hall : ∀ x ∈ (H.filter fun p => decide (p.2 = l)).map (·.1), x = r' := by
      intro x hx
      obtain ⟨⟨r2, l2⟩, hp, rfl⟩ := List.mem_map.mp hx
      obtain ⟨q, z⟩ := List.mem_filter.mp hp
      have z : l2 = l := by simpa using z
      subst z
      by_cases c : r2 = r
      · subst c; exact absurd q hoff
      · exact congrArg Prod.fst (nodup_map_inj hvn (hb _ _ q c) (hb _ _ hH hne) rfl)
    have hmem : r' ∈ (H.filter fun p => decide (p.2 = l)).map (·.1) := List.mem_map.mpr ⟨(r', l), List.mem_filter.mpr ⟨hH, by simp⟩, rfl⟩
    obtain ⟨p, hp, e1⟩ := List.mem_map.mp h1
    obtain ⟨W0, W3, ew1⟩ := List.append_of_mem hp
    refine .inr ⟨r', W0, ?_, ?_, by rw [ew1]; simp, keys_put f.ks r l, edp, ?_, ?_, p.2, W3 ++ (r, l) :: W2, by rw [ew, ew1]; simp [← e1]⟩
    · cases hL : (H.filter fun p => decide (p.2 = l)).map (·.1) with
      | nil => rw [hL] at hmem; cases hmem
      | cons x xs => rw [hL] at hall; rw [hall x (List.mem_cons_self ..)]; rfl
    · intro z; rw [z] at hmem; cases hmem
    · intro r2 hr2 l2
      have hk2 : (keys ways).Nodup := h.ks
      have hr2' : r2 ∈ keys W1 := by
        rcases hr2 with rfl | hr2
        · exact h1
        · rw [ew1]; unfold keys; rw [List.map_append]; exact List.mem_append_left _ hr2
      have ne2 : r2 ≠ r := by
        rintro rfl
        rw [ew] at hk2
        unfold keys at hk2
        rw [List.map_append, List.nodup_append] at hk2
        exact hk2.2.2 _ hr2' _ (List.mem_map.mpr ⟨(r2, l), List.mem_cons_self .., rfl⟩) rfl
      rw [mem_put f.ks, ← f.same r2 (.inr hr2') l2]
      constructor
      · rintro (e | q)
        · cases e; exact absurd rfl ne2
        · exact q.1
      · exact fun q => .inr ⟨q, ne2⟩
    · have p1 : (but (put H r l) r').Perm ((r, l) :: but (but H r) r') := by
        have := (put_perm f.ks r l).filter fun p => decide (p.1 ≠ r')
        rw [List.filter_cons_of_pos (by simpa using hne.symm)] at this
        exact this
      have p2 : (but H r).Perm ((r', l) :: but (but H r) r') := but_perm (f.ks.sublist (List.Sublist.map _ List.filter_sublist)) (hb _ _ hH hne)
      refine ((p1.map (·.2)).trans ?_)
      refine List.Perm.trans ?_ f.vs
      have := (p2.map (·.2)).symm
      exact this
end Pm
/-! Pm5: what a grown pairing, what a stuck one tells. -/
namespace Pm
theorem nodup_full {α : Type} {l m : List α} (h : l.Nodup) (hs : ∀ x ∈ l, x ∈ m) (hl : m.length ≤ l.length) : ∀ x ∈ m, x ∈ l := by
  intro x hx
  apply Classical.byContradiction
  intro hn
  have := nodup_le (l := x :: l) (m := m) (List.nodup_cons.mpr ⟨hn, h⟩) fun y hy => by
    rcases List.mem_cons.mp hy with rfl | hy
    · exact hx
    · exact hs y hy
  simp at this; omega
theorem at_pos {es : E} {e : Int × Int} (h : e ∈ es) : ∃ a, a < es.length ∧ lf es a = e.1 ∧ rt es a = e.2 := by
  obtain ⟨a, ha, e⟩ := List.mem_iff_getElem.mp h
  refine ⟨a, ha, ?_, ?_⟩
  · unfold lf; rw [List.getD_eq_getElem?_getD, List.getElem?_eq_getElem ha, e]; rfl
  · unfold rt; rw [List.getD_eq_getElem?_getD, List.getElem?_eq_getElem ha, e]; rfl
theorem pos_mem {es : E} {a : Nat} (h : a < es.length) : (lf es a, rt es a) ∈ es := by
  unfold lf rt
  rw [List.getD_eq_getElem?_getD, List.getElem?_eq_getElem h]
  exact List.getElem_mem h
/-- the left ones are more than what they lead to -/
structure Short (es : E) (size : Nat) (ls : List Int) : Prop where
  nd : ls.Nodup
  ne : ls ≠ []
  bd : ∀ l ∈ ls, 0 ≤ l ∧ l < size
  few : ∃ rs : List Int, rs.length < ls.length ∧ ∀ l ∈ ls, ∀ r, (l, r) ∈ es → r ∈ rs
theorem Short.none {es : E} {size : Nat} {ls : List Int} (h : Short es size ls) : prs es size = [] := by
  obtain ⟨rs, h1, h2⟩ := h.few
  cases hp : prs es size with
  | nil => rfl
  | cons p _ =>
    have hP : IsP es size p := mem_prs.mp (by rw [hp]; exact List.mem_cons_self ..)
    have := nodup_map_le (l := ls) (m := rs) (fun l => rt es (p.getD l.toNat 0)) h.nd ?_ ?_
    · omega
    · intro x hx y hy e
      have bx := h.bd x hx
      have by_ := h.bd y hy
      obtain ⟨a, ea, _, la⟩ := hP.has (i := x.toNat) (by omega)
      obtain ⟨b, eb, _, lb⟩ := hP.has (i := y.toNat) (by omega)
      have e : rt es (p.getD x.toNat 0) = rt es (p.getD y.toNat 0) := e
      rw [List.getD_eq_getElem?_getD, ea, List.getD_eq_getElem?_getD, eb] at e
      have : a = b := nodup_map_inj hP.nd (List.mem_of_getElem? ea) (List.mem_of_getElem? eb) e
      subst this
      omega
    · intro x hx
      have bx := h.bd x hx
      obtain ⟨a, ea, ha, la⟩ := hP.has (i := x.toNat) (by omega)
      show rt es (p.getD x.toNat 0) ∈ rs
      rw [List.getD_eq_getElem?_getD, ea]
      refine h2 x hx _ ?_
      have := pos_mem ha
      rw [la, Int.toNat_of_nonneg bx.1] at this
      exact this
theorem stuck {es : E} {held ways : M} {k size : Nat} {lefts : List Int} (hk : k < size) (m : Mat es k held) (h : Rch es held k lefts ways) (hc : ∀ l ∈ lefts, ∀ r, (l, r) ∈ es → r ∈ keys ways) (ha : ∀ r ∈ keys ways, r ∈ keys held) : Short es size lefts := by
  have hl : (ways.filterMap fun p => look held p.1).length = ways.length := by
    clear hc h
    induction ways with
    | nil => rfl
    | cons p w ih =>
      have : p.1 ∈ keys held := ha _ (by simp [keys])
      cases e : look held p.1 with
      | none => exact absurd this (look_none.mp e)
      | some v => rw [List.filterMap_cons, e]; simp [ih fun r hr => ha r (by unfold keys at hr ⊢; rw [List.map_cons]; exact List.mem_cons_of_mem _ hr)]
  have hmem : ∀ l ∈ ways.filterMap (fun p => look held p.1), 0 ≤ l ∧ l < k := by
    intro l hl
    obtain ⟨p, _, e⟩ := List.mem_filterMap.mp hl
    exact m.lt (look_mem e)
  have hnd : (ways.filterMap fun p => look held p.1).Nodup := by
    have hks := h.ks
    clear hl hmem ha hc h
    induction ways with
    | nil => simp
    | cons p w ih =>
      unfold keys at hks
      rw [List.map_cons, List.nodup_cons] at hks
      rw [List.filterMap_cons]
      cases e : look held p.1 with
      | none => exact ih hks.2
      | some v =>
        simp only []
        rw [List.nodup_cons]
        refine ⟨fun z => ?_, ih hks.2⟩
        obtain ⟨q, hq, e2⟩ := List.mem_filterMap.mp z
        have := m.inj (look_mem e) (look_mem e2)
        exact hks.1 (this ▸ List.mem_map.mpr ⟨q, hq, rfl⟩)
  refine ⟨?_, ?_, ?_, keys ways, ?_, hc⟩
  · rw [h.lf, List.nodup_cons]
    exact ⟨fun z => by have := hmem _ z; omega, hnd⟩
  · rw [h.lf]; simp
  · intro l hl
    rw [h.lf] at hl
    rcases List.mem_cons.mp hl with rfl | hl
    · omega
    · have := hmem l hl; omega
  · rw [h.lf, List.length_cons, hl]; simp [keys]
/-- the pairing that is told -/
def heldP (es : E) (held : M) : List Nat := (List.range es.length).filter fun a => decide (look held (rt es a) = some (lf es a))
theorem Mat.full {es : E} {size : Nat} {held : M} (m : Mat es size held) (hb : ∀ e ∈ es, 0 ≤ e.2 ∧ e.2 < size) {r : Int} (h1 : 0 ≤ r) (h2 : r < size) : r ∈ keys held := by
  refine nodup_full m.ks (m := (List.range size).map fun (i : Nat) => (i : Int)) (fun x hx => ?_) ?_ r (mem_ints.mpr ⟨h1, h2⟩)
  · obtain ⟨p, hp, rfl⟩ := List.mem_map.mp hx
    exact mem_ints.mpr (hb _ (m.ed p.1 p.2 hp))
  · have := m.vs.length_eq
    unfold vals at this
    unfold keys
    simp only [List.length_map, List.length_range] at this ⊢
    omega
theorem heldP_ok {es : E} {size : Nat} {held : M} (m : Mat es size held) (hb : ∀ e ∈ es, 0 ≤ e.1 ∧ e.1 < size ∧ 0 ≤ e.2 ∧ e.2 < size) (hn : es.Nodup) (ho : ∀ a b, a < b → b < es.length → lf es a ≤ lf es b) : heldP es held ∈ prs es size := by
  have inF : ∀ a, a ∈ heldP es held ↔ a < es.length ∧ look held (rt es a) = some (lf es a) := fun a => by simp [heldP]
  have inj : ∀ a ∈ heldP es held, ∀ b ∈ heldP es held, lf es a = lf es b → a = b := by
    intro a ha b hb' e
    obtain ⟨a1, a2⟩ := (inF a).mp ha
    obtain ⟨b1, b2⟩ := (inF b).mp hb'
    have : rt es a = rt es b := m.inj (look_mem a2) (e ▸ look_mem b2)
    have pe : es[a] = es[b] := by
      have h1 : (lf es a, rt es a) = es[a] := by unfold lf rt; rw [List.getD_eq_getElem?_getD, List.getElem?_eq_getElem a1]; rfl
      have h2 : (lf es b, rt es b) = es[b] := by unfold lf rt; rw [List.getD_eq_getElem?_getD, List.getElem?_eq_getElem b1]; rfl
      rw [← h1, ← h2, e, this]
    apply Classical.byContradiction
    intro ne
    have hp := List.pairwise_iff_getElem.mp (List.nodup_iff_pairwise_ne.mp hn)
    rcases Nat.lt_or_ge a b with c | c
    · exact hp a b a1 b1 c pe
    · exact hp b a b1 a1 (by omega) pe.symm
  have hFn : (heldP es held).Nodup := nodup_filter _ List.nodup_range
  have hFs : (heldP es held).Pairwise (· < ·) := List.Pairwise.filter _ List.pairwise_lt_range
  have hperm : ((heldP es held).map (lf es)).Perm ((List.range size).map fun (i : Nat) => (i : Int)) := by
    rw [List.perm_ext_iff_of_nodup ?_ (nodup_ints size)]
    · intro x
      rw [mem_ints]
      constructor
      · intro h
        obtain ⟨a, ha, rfl⟩ := List.mem_map.mp h
        have := hb _ (pos_mem ((inF a).mp ha).1)
        exact ⟨this.1, this.2.1⟩
      · intro h
        have := m.vs.mem_iff.mpr (mem_ints.mpr h)
        obtain ⟨⟨r, l⟩, hp, e⟩ := List.mem_map.mp this
        have e : l = x := e
        subst e
        obtain ⟨a, ha, e1, e2⟩ := at_pos (m.ed r l hp)
        have e1 : lf es a = l := e1
        have e2 : rt es a = r := e2
        exact List.mem_map.mpr ⟨a, (inF a).mpr ⟨ha, by rw [e1, e2]; exact look_of m.ks hp⟩, e1⟩
    · rw [List.nodup_iff_pairwise_ne, List.pairwise_map]
      refine List.Pairwise.imp_of_mem ?_ (List.nodup_iff_pairwise_ne.mp hFn)
      intro a b ha hb ne z
      exact ne (inj a ha b hb z)
  have heq : (heldP es held).map (lf es) = (List.range size).map fun (i : Nat) => (i : Int) := by
    refine List.Perm.eq_of_pairwise (le := (· ≤ ·)) (fun a b _ _ h1 h2 => by omega) ?_ ?_ hperm
    · rw [List.pairwise_map]
      refine List.Pairwise.imp_of_mem ?_ hFs
      intro a b ha hb h
      exact ho a b h ((inF b).mp hb).1
    · rw [List.pairwise_map]
      exact List.pairwise_lt_range.imp fun h => by omega
  have hlen : (heldP es held).length = size := by
    have := congrArg List.length heq
    simpa using this
  refine mem_prs.mpr ⟨hlen, fun i a e => ?_, ?_⟩
  · have hi : i < size := by rw [← hlen]; exact (List.getElem?_eq_some_iff.mp e).1
    refine ⟨((inF a).mp (List.mem_of_getElem? e)).1, ?_⟩
    have : ((heldP es held).map (lf es))[i]? = some (lf es a) := by rw [List.getElem?_map, e]; rfl
    rw [heq, List.getElem?_map, List.getElem?_range hi] at this
    simpa using this.symm
  · unfold takenOf
    rw [List.nodup_iff_pairwise_ne, List.pairwise_map]
    refine List.Pairwise.imp_of_mem ?_ (List.nodup_iff_pairwise_ne.mp hFn)
    intro a b ha hb ne z
    have h1 := ((inF a).mp ha).2
    have h2 := ((inF b).mp hb).2
    rw [z, h2] at h1
    exact ne (inj a ha b hb (by simpa using h1.symm))
end Pm
/-! VmP: dicts of ints. -/
namespace Vm
open PySem PySem.Spec L2 Pm
def kD (m : M) : List (Key × D) := m.map fun p => (Sum.inl p.1, D.int p.2)
theorem kget_kD (m : M) (k : Int) : kget (kD m) (.inl k) = (look m k).map D.int := by
  unfold kget look kD
  rw [List.find?_map, Option.map_map, Option.map_map]
  have : ((fun p : Key × D => decide (p.1 = Sum.inl k)) ∘ fun p : Int × Int => ((Sum.inl p.1 : Key), D.int p.2)) = fun p => decide (p.1 = k) := by
    funext p
    simp
  rw [this]; rfl
theorem kput_kD (m : M) (k v : Int) : kput (kD m) (.inl k) (.int v) = kD (put m k v) := by
  unfold kput put kD
  have : ((m.map fun p : Int × Int => ((Sum.inl p.1 : Key), D.int p.2)).any fun p => decide (p.1 = Sum.inl k)) = m.any fun p => decide (p.1 = k) := by
    rw [List.any_map]
    congr 1
    funext p
    simp
  rw [this]
  split
  · rw [List.map_map, List.map_map]
    refine List.map_congr_left fun p _ => ?_
    simp only [Function.comp]
    by_cases h : p.1 = k
    · rw [if_pos h, if_pos (by rw [h])]
    · rw [if_neg h, if_neg (fun z => h (by injection z))]
  · rw [List.map_append]; rfl
theorem stalek_kD : ∀ m : M, D.stalek (kD m) = kD m
  | [] => rfl
  | p :: m => by
    show (_ :: D.stalek (kD m)) = _
    rw [stalek_kD m]; rfl
theorem stales_of {α : Type} {f : α → D} (h : ∀ a, (f a).stale = f a) (l : List α) : D.stales (l.map f) = l.map f := by
  rw [stales_map, List.map_map]
  exact List.map_congr_left fun a _ => h a
theorem freshk_kD : ∀ m : M, D.freshk (kD m) = true
  | [] => rfl
  | p :: m => by
    show (true && D.freshk (kD m)) = true
    rw [freshk_kD m]; rfl
theorem nodick_kD : ∀ m : M, D.nodick (kD m) = true
  | [] => rfl
  | p :: m => by
    show (true && D.nodick (kD m)) = true
    rw [nodick_kD m]; rfl
theorem put_new {m : M} {k v : Int} (h : k ∉ keys m) : put m k v = m ++ [(k, v)] := by
  unfold put
  rw [if_neg]
  intro z
  obtain ⟨q, hq, e⟩ := List.any_eq_true.mp z
  exact h (List.mem_map.mpr ⟨q, hq, by simpa using e⟩)
theorem EdOk.nodup {size : Nat} {es : E} (h : EdOk size es) : es.Nodup := by
  refine h.asc.imp fun {a b} q z => ?_
  subst z
  unfold eLt HT.lexLt HT.lexLt HT.lexLt at q
  simp at q
theorem EdOk.ord {size : Nat} {es : E} (h : EdOk size es) : ∀ a b, a < b → b < es.length → lf es a ≤ lf es b := by
  intro a b hab hb
  have q := List.pairwise_iff_getElem.mp h.asc a b (by omega) hb hab
  have e : ∀ c (hc : c < es.length), lf es c = es[c].1 := fun c hc => by unfold lf; rw [List.getD_eq_getElem?_getD, List.getElem?_eq_getElem hc]; rfl
  rw [e a (by omega), e b hb]
  unfold eLt HT.lexLt at q
  by_cases h1 : es[a].1 = es[b].1
  · omega
  · rw [if_neg h1] at q
    have := of_decide_eq_true q
    omega
end Vm
/-! VmC: the cheapest and the threatened. -/
namespace Vm
/-- what stands behind the first statements -/
def Sm.tl : Nat → Sm → Sm
  | 0, s => s
  | k + 1, .scons _ s => Sm.tl k s
  | k + 1, .frz _ s => Sm.tl k s
  | _, s => s
open PySem PySem.Spec L2
theorem wpS_asg {Ψ : Nat → FnSem} {R : RK} {i : Nat} {e : Ex} {ss : Sm} {ρ : List Sl} {n : Nat} {K : KS} (h : wpE Ψ e R ρ n fun s n1 => s.keep .v fun z => wpS Ψ R ss (ρ.set i z) n1 K) : wpS Ψ R (.scons (.asg i e) ss) ρ n K := h
/-- a comprehension over a list or tuple: its items are given as one likes -/
theorem wpE_comp_seq {Ψ : Nat → FnSem} {R : RK} {e cond elt : Ex} {tg : Tg} {vs : List Nat} {ρ : List Sl} {n : Nat} {Q : Sl → Nat → Prop}
    (h : wpE Ψ e R ρ n fun s n1 => ∃ xs, (∃ d, (∀ P : D → Prop, P d → s.read P) ∧ d.items = some xs) ∧ compW (fun x n K => tgW tg x (wipeS ρ vs) fun ρ' => wpE Ψ cond noR ρ' n fun c n2 => c.read fun y => truW y fun b => if b = true then wpE Ψ elt noR ρ' n2 fun z n3 => z.take fun d => K (some d) n3 else K none n2)
        xs n1 [] fun ys n2 => Q (.own (.lst true ys)) n2) (hΨ : MonoF Ψ) : wpE Ψ (.comp .seq (.econs e .enil) tg cond elt vs) R ρ n Q := by
  unfold wpE
  show wpL Ψ (.econs e .enil) R ρ n _
  unfold wpL
  refine wpE_monoR hΨ e (fun _ _ _ z => z) (fun s m q => ?_) h
  unfold wpL
  obtain ⟨xs, ⟨d, hr, hi⟩, hc⟩ := q
  show s.read _
  refine hr _ ?_
  show itemsW .seq [d] _
  cases d <;> first | (cases hi; done) | skip
  · cases hi; exact hc
  · cases hi; exact hc
end Vm
namespace Pm
theorem mem_cheapL {ws : List Int} {ps : List (List Nat)} {p : List Nat} : p ∈ cheapL ws ps ↔ Cheap ws ps p := by
  unfold cheapL Cheap
  rw [List.mem_filter, decide_eq_true_eq]
theorem nodup_cheapL {ws : List Int} {ps : List (List Nat)} (h : ps.Nodup) : (cheapL ws ps).Nodup := nodup_filter _ h
theorem two_cheap {ws : List Int} {es : E} {n : Nat} (h : 1 < (cheapL ws (prs es n)).length) : ∃ p q, Cheap ws (prs es n) p ∧ Cheap ws (prs es n) q ∧ p ≠ q := by
  have hn := nodup_cheapL (ws := ws) (nodup_prs es n)
  match hc : cheapL ws (prs es n), h with
  | p :: q :: r, _ =>
    rw [hc] at hn
    refine ⟨p, q, mem_cheapL.mp (by rw [hc]; simp), mem_cheapL.mp (by rw [hc]; simp), fun z => ?_⟩
    subst z
    simp at hn
theorem thrL_iff {ws : List Int} {es : E} {n : Nat} (hl : ws.length = es.length) : thrL ws (prs es n) ≠ [] ↔ 1 < (cheapL ws (prs es n)).length := by
  constructor
  · intro h
    obtain ⟨a, ha⟩ := List.exists_mem_of_ne_nil _ h
    unfold thrL at ha
    have := of_decide_eq_true (List.mem_filter.mp ha).2
    omega
  · intro h z
    obtain ⟨p, q, cp, cq, ne⟩ := two_cheap h
    have hp := mem_prs.mp cp.1
    have hq := mem_prs.mp cq.1
    obtain ⟨a, h1, h2⟩ := hp.diff hq ne
    have : a ∈ thrL ws (prs es n) := by
      unfold thrL
      rw [List.mem_filter, List.mem_range, decide_eq_true_eq]
      refine ⟨by rw [hl]; exact (hp.mem h1).1, ?_, ?_⟩
      · exact List.length_pos_iff.mpr (List.ne_nil_of_mem (List.mem_filter.mpr ⟨mem_cheapL.mpr cp, by simpa using h1⟩))
      · rw [List.length_filter_lt_length_iff_exists]
        exact ⟨q, mem_cheapL.mpr cq, by simpa using h2⟩
    rw [z] at this
    cases this
theorem cnt_le (es : E) (size top : Nat) : cntT es size top ≤ es.length * top ^ (es.length - 1) :=
  few (n := size) _ fun w z => two_cheap (of_decide_eq_true z)
theorem cnt_quot {es : E} {size top : Nat} (h : es ≠ []) (ht : 0 < top) : cntT es size top ≤ es.length * (top ^ es.length / top) := by
  have hl : 0 < es.length := List.length_pos_iff.mpr h
  have : top ^ es.length / top = top ^ (es.length - 1) := by
    have e : top ^ es.length = top ^ (es.length - 1) * top := by rw [← Nat.pow_succ]; congr 1; omega
    rw [e, Nat.mul_div_cancel _ ht]
  rw [this]
  exact cnt_le es size top
theorem cnt_half {es : E} {size top : Nat} (h : top = 2 * es.length) : 2 * cntT es size top ≤ top ^ es.length := by
  rcases Nat.eq_zero_or_pos es.length with z | z
  · have := cnt_le es size top
    rw [z, Nat.zero_mul] at this
    omega
  · have := cnt_le es size top
    have e : top ^ es.length = top ^ (es.length - 1) * top := by rw [← Nat.pow_succ]; congr 1; omega
    rw [e]
    have h2 : top ^ (es.length - 1) * top = 2 * (es.length * top ^ (es.length - 1)) := by
      rw [Nat.mul_comm, ← Nat.mul_assoc, ← h]
    omega
/-- counted by the law's own rows -/
theorem cnt_rows (es : E) (size top : Nat) : (((List.range (top ^ es.length)).map fun (x : Nat) => thrL (rowL top es.length x) (prs es size)).filter fun l => decide (l ≠ [])).length = cntT es size top := by
  unfold cntT
  rw [← rows_count, List.filter_map, List.filter_map, List.length_map, List.length_map]
  congr 1
  refine List.filter_congr fun x _ => ?_
  simp only [Function.comp]
  exact decide_eq_decide.mpr (thrL_iff (rowL_len ..))
end Pm
namespace Vm
open PySem PySem.Spec L2
/-- one statement, then the others -/
theorem wpS_seq {Ψ : Nat → FnSem} {R : RK} {s ss : Sm} {ρ : List Sl} {n : Nat} {K : KS} (P : List Sl → Nat → Prop) (hΨ : MonoF Ψ) (h1 : wpS Ψ R s ρ n { nx := P, rt := K.rt, bk := K.bk, ct := K.ct }) (h2 : ∀ ρ' n', P ρ' n' → wpS Ψ R ss ρ' n' K) : wpS Ψ R (.scons s ss) ρ n K := by
  unfold wpS
  refine wpS_mono hΨ s (fun _ _ _ z => z) ?_ h1
  exact ⟨h2, fun _ _ _ z => z, fun _ _ z => z, fun _ _ z => z⟩
end Vm
namespace Vm
open PySem PySem.Spec L2
theorem wpS_for_seq {Ψ : Nat → FnSem} {R : RK} {e : Ex} {tg : Tg} {b : Sm} {ρ : List Sl} {n : Nat} {K : KS}
    (h : wpE Ψ e R ρ n fun s n1 => ∃ xs, (∃ d, (∀ P : D → Prop, P d → s.take P) ∧ d.items = some xs) ∧ forW (fun x ρ n next => tgW tg x ρ fun ρ' => wpS Ψ R b ρ' n (K.loop next)) K.nx xs ρ n1) (hΨ : MonoF Ψ) : wpS Ψ R (.for .seq (.econs e .enil) tg b) ρ n K := by
  unfold wpS wpL
  refine wpE_monoR hΨ e (fun _ _ _ z => z) (fun s m q => ?_) h
  unfold wpL
  obtain ⟨xs, ⟨d, hr, hi⟩, hc⟩ := q
  show s.take _
  refine hr _ ?_
  show itemsW .seq [d] _
  cases d <;> first | (cases hi; done) | skip
  · cases hi; exact hc
  · cases hi; exact hc
end Vm
/-! VmG: what the search for a pairing computes, as functions. -/
namespace Pm
section
variable {σ : Type}
def itr (f : σ → σ) : Nat → σ → σ
  | 0, s => s
  | k + 1, s => f (itr f k s)
/-- some turns on -/
def To (f : σ → σ) (go : σ → Bool) (s0 s : σ) : Prop := ∃ j, s = itr f j s0 ∧ ∀ i, i < j → go (itr f i s0) = true
variable {f : σ → σ} {go : σ → Bool} {s0 s s' : σ}
theorem To.start : To f go s0 s0 := ⟨0, rfl, fun _ h => by omega⟩
theorem To.next (h : To f go s0 s) (g : go s = true) : To f go s0 (f s) := by
  obtain ⟨j, e, k⟩ := h
  refine ⟨j + 1, by rw [itr, e], fun i hi => ?_⟩
  rcases Nat.lt_or_ge i j with c | c
  · exact k i c
  · have : i = j := by omega
    subst this
    rw [← e]; exact g
theorem To.uniq (h : To f go s0 s) (h' : To f go s0 s') (e : go s = false) (e' : go s' = false) : s = s' := by
  obtain ⟨j, rfl, k⟩ := h
  obtain ⟨j', rfl, k'⟩ := h'
  have : j = j' := by
    rcases Nat.lt_trichotomy j j' with c | c | c
    · rw [k' j c] at e; cases e
    · exact c
    · rw [k j' c] at e'; cases e'
  rw [this]
open Classical in
noncomputable def endOf (f : σ → σ) (go : σ → Bool) (s0 : σ) : σ := if h : ∃ s, To f go s0 s ∧ go s = false then h.choose else s0
theorem To.eq (h : To f go s0 s) (e : go s = false) : s = endOf f go s0 := by
  have q : ∃ s, To f go s0 s ∧ go s = false := ⟨s, h, e⟩
  unfold endOf
  rw [dif_pos q]
  exact h.uniq q.choose_spec.1 e q.choose_spec.2
end
/-! ### the left ones reached -/
def stepE (held : M) (l : Int) (s : List Int × M) (e : Int × Int) : List Int × M := if e.1 = l ∧ e.2 ∉ keys s.2 then (s.1 ++ (look held e.2).toList, s.2 ++ [(e.2, e.1)]) else s
def turnR (es : E) (held : M) (s : (List Int × M) × Nat) : (List Int × M) × Nat := (es.foldl (stepE held (s.1.1.getD s.2 0)) s.1, s.2 + 1)
def goR (s : (List Int × M) × Nat) : Bool := decide (s.2 < s.1.1.length)
noncomputable def rfun (es : E) (held : M) (k : Nat) : List Int × M := (endOf (turnR es held) goR (([(k : Int)], []), 0)).1
/-! ### held anew -/
def stepH (ways : M) (s : M × Option Int) : M × Option Int :=
  match s.2 with
  | none => s
  | some r => match look ways r with | none => s | some l => (put s.1 r l, ((s.1.filter fun p => decide (p.2 = l)).map (·.1)).head?)
def goH (s : M × Option Int) : Bool := s.2.isSome
noncomputable def hanew (held ways : M) (r : Int) : M := (endOf (stepH ways) goH (held, some r)).1
/-! ### one left one after the other -/
noncomputable def freeR (es : E) (held : M) (k : Nat) : M := (rfun es held k).2.filter fun p => decide (p.1 ∉ keys held)
noncomputable def heldF (es : E) : Nat → M
  | 0 => []
  | k + 1 => match freeR es (heldF es k) k with | [] => heldF es k | p :: _ => hanew (heldF es k) (rfun es (heldF es k) k).2 p.1
/-- the short set that is told -/
def ShortIs (es : E) (size : Nat) (ls : List Int) : Prop := ∃ k, k < size ∧ freeR es (heldF es k) k = [] ∧ (∀ i, i < k → freeR es (heldF es i) i ≠ []) ∧ ls.Perm (rfun es (heldF es k) k).1 ∧ ls.Pairwise (· ≤ ·)
theorem sorted_uniq : ∀ {a b : List Int}, a.Perm b → a.Pairwise (· ≤ ·) → b.Pairwise (· ≤ ·) → a = b
  | [], b, p, _, _ => (List.nil_perm.mp p).symm ▸ rfl
  | x :: a, [], p, _, _ => by have := p.length_eq; simp at this
  | x :: a, y :: b, p, h1, h2 => by
    have h1' := List.pairwise_cons.mp h1
    have h2' := List.pairwise_cons.mp h2
    have e : x = y := by
      have m1 : x ∈ y :: b := p.mem_iff.mp (List.mem_cons_self ..)
      have m2 : y ∈ x :: a := p.mem_iff.mpr (List.mem_cons_self ..)
      rcases List.mem_cons.mp m1 with z | z
      · exact z
      · rcases List.mem_cons.mp m2 with z2 | z2
        · exact z2.symm
        · have := h2'.1 x z
          have := h1'.1 y z2
          omega
    subst e
    rw [sorted_uniq (List.Perm.cons_inv p) h1'.2 h2'.2]
theorem ShortIs.uniq {es : E} {size : Nat} {a b : List Int} (h : ShortIs es size a) (h' : ShortIs es size b) : a = b := by
  obtain ⟨k, _, k2, k3, k4, k5⟩ := h
  obtain ⟨j, _, j2, j3, j4, j5⟩ := h'
  have : k = j := by
    rcases Nat.lt_trichotomy k j with c | c | c
    · exact absurd k2 (j3 k c)
    · exact c
    · exact absurd j2 (k3 j c)
  subst this
  exact sorted_uniq (k4.trans j4.symm) k5 j5
end Pm
/-! VmR: a number more for all edges of one left or right one. -/
namespace Pm
open Vm
def sideOf (side : Bool) (e : Int × Int) : Int := if side then e.2 else e.1
def raised (es : E) (ws : List Int) (side : Bool) (one more : Int) : List Int := List.zipWith (fun e w => w + more * (if sideOf side e = one then 1 else 0)) es ws
theorem sum_ind {α : Type} (f : α → Int) (one : Int) : ∀ l : List α, (l.map f).Nodup → (l.map fun a => if f a = one then (1 : Int) else 0).sum = if one ∈ l.map f then 1 else 0
  | [], _ => by simp
  | a :: l, h => by
    rw [List.map_cons, List.nodup_cons] at h
    rw [List.map_cons, List.sum_cons, sum_ind f one l h.2, List.map_cons]
    by_cases e : f a = one
    · have : one ∉ l.map f := e ▸ h.1
      rw [if_pos e, if_neg this, if_pos (by rw [e]; exact List.mem_cons_self ..)]; rfl
    · rw [if_neg e]
      by_cases m : one ∈ l.map f
      · rw [if_pos m, if_pos (List.mem_cons_of_mem _ m)]; rfl
      · rw [if_neg m, if_neg (fun z => by rcases List.mem_cons.mp z with z | z; exact e z.symm; exact m z)]; rfl
theorem sum_add_mul {α : Type} (f g : α → Int) (k : Int) : ∀ l : List α, (l.map fun a => f a + k * g a).sum = (l.map f).sum + k * (l.map g).sum
  | [] => by simp
  | a :: l => by
    rw [List.map_cons, List.sum_cons, sum_add_mul f g k l, List.map_cons, List.sum_cons, List.map_cons, List.sum_cons, Int.mul_add]
    omega
theorem raised_cost {es : E} {size : Nat} {ws : List Int} {side : Bool} {one more : Int} (hl : ws.length = es.length) (hb : ∀ e ∈ es, 0 ≤ e.1 ∧ e.1 < size ∧ 0 ≤ e.2 ∧ e.2 < size) (h1 : 0 ≤ one ∧ one < size) {p : List Nat} (hp : p ∈ prs es size) : cost (raised es ws side one more) p = cost ws p + more := by
  have hP := mem_prs.mp hp
  unfold cost
  have e1 : (p.map fun a => (raised es ws side one more).getD a 0) = p.map fun a => ws.getD a 0 + more * (if sideOf side (lf es a, rt es a) = one then 1 else 0) := by
    refine List.map_congr_left fun a ha => ?_
    have hlt := (hP.mem ha).1
    unfold raised
    rw [List.getD_eq_getElem?_getD, List.getElem?_zipWith, List.getElem?_eq_getElem hlt, List.getElem?_eq_getElem (by omega : a < ws.length), List.getD_eq_getElem?_getD, List.getElem?_eq_getElem (by omega : a < ws.length)]
    have : (lf es a, rt es a) = es[a] := by unfold lf rt; rw [List.getD_eq_getElem?_getD, List.getElem?_eq_getElem hlt]; rfl
    rw [this]; rfl
  rw [e1, sum_add_mul]
  have e2 : (p.map fun a => if sideOf side (lf es a, rt es a) = one then (1 : Int) else 0).sum = 1 := by
    cases side with
    | false =>
      have hm : p.map (lf es) = (List.range size).map fun (i : Nat) => (i : Int) := by
        refine List.ext_getElem? fun i => ?_
        rw [List.getElem?_map, List.getElem?_map]
        by_cases hi : i < size
        · obtain ⟨a, ea, _, la⟩ := hP.has hi
          rw [ea, List.getElem?_range hi]
          show some (lf es a) = some (i : Int)
          rw [la]
        · rw [List.getElem?_eq_none (by rw [hP.len]; omega), List.getElem?_eq_none (by rw [List.length_range]; omega)]; rfl
      have := sum_ind (lf es) one p (by rw [hm]; exact nodup_ints size)
      rw [if_pos (by rw [hm]; exact mem_ints.mpr h1)] at this
      exact this
    | true =>
      have hmem : one ∈ p.map (rt es) := by
        refine nodup_full hP.nd (m := (List.range size).map fun (i : Nat) => (i : Int)) (fun x hx => ?_) (by simp [takenOf, hP.len]) one (mem_ints.mpr h1)
        obtain ⟨a, ha, rfl⟩ := List.mem_map.mp hx
        have := hb _ (pos_mem (hP.mem ha).1)
        exact mem_ints.mpr this.2.2
      have := sum_ind (rt es) one p hP.nd
      rw [if_pos hmem] at this
      exact this
  rw [e2]
  omega
theorem raised_cheap {es : E} {size : Nat} {ws : List Int} {side : Bool} {one more : Int} (hl : ws.length = es.length) (hb : ∀ e ∈ es, 0 ≤ e.1 ∧ e.1 < size ∧ 0 ≤ e.2 ∧ e.2 < size) (h1 : 0 ≤ one ∧ one < size) : cheapL (raised es ws side one more) (prs es size) = cheapL ws (prs es size) := by
  unfold cheapL
  refine List.filter_congr fun p hp => decide_eq_decide.mpr ?_
  constructor
  · intro h q hq
    have := h q hq
    rw [raised_cost hl hb h1 hp, raised_cost hl hb h1 hq] at this
    omega
  · intro h q hq
    have := h q hq
    rw [raised_cost hl hb h1 hp, raised_cost hl hb h1 hq]
    omega
theorem raised_len {es : E} {ws : List Int} {side : Bool} {one more : Int} (hl : ws.length = es.length) : (raised es ws side one more).length = es.length := by
  unfold raised
  rw [List.length_zipWith]; omega
theorem raised_thr {es : E} {size : Nat} {ws : List Int} {side : Bool} {one more : Int} (hl : ws.length = es.length) (hb : ∀ e ∈ es, 0 ≤ e.1 ∧ e.1 < size ∧ 0 ≤ e.2 ∧ e.2 < size) (h1 : 0 ≤ one ∧ one < size) : thrL (raised es ws side one more) (prs es size) = thrL ws (prs es size) := by
  unfold thrL
  rw [raised_cheap hl hb h1, raised_len hl, hl]
theorem raised_nn {es : E} {ws : List Int} {side : Bool} {one more : Int} (hm : 0 ≤ more) (hw : ∀ w ∈ ws, 0 ≤ w) : ∀ w ∈ raised es ws side one more, 0 ≤ w := by
  intro w h
  unfold raised at h
  obtain ⟨i, hi, rfl⟩ := List.mem_iff_getElem.mp h
  rw [List.getElem_zipWith]
  have := hw _ (List.getElem_mem (by rw [List.length_zipWith] at hi; omega : i < ws.length))
  split <;> omega
end Pm
namespace Vm
open PySem PySem.Spec L2 Pm
/-- turns that draw -/
theorem compW_draw2 {α : Type} {r : α → D → Prop} {s : α → D → Prop} (c N : Nat) {step : D → Nat → (Option D → Nat → Prop) → Prop} {Q : List D → Nat → Prop} :
    ∀ {as : List α} {xs : List D} {n : Nat} {as0 : List α} {acc : List D}, A2 r as xs → A2 s as0 acc → acc.length + as.length ≤ sizeLine → n + c * as.length ≤ N →
      (∀ a d n K, a ∈ as → r a d → n ≤ N → (∀ d' n', s a d' → n' ≤ n + c → K (some d') n') → step d n K) →
      (∀ ds n', A2 s (as0 ++ as) ds → n' ≤ n + c * as.length → Q ds n') → compW step xs n acc Q
  | _, _, n, as0, acc, .nil, h, _, _, _, q => q acc n (by simpa using h) (Nat.le_add_right _ _)
  | a :: as, x :: xs, n, as0, acc, .cons hr t, h, hl, hN, hs, q => by
    unfold compW
    have hl : acc.length + (as.length + 1) ≤ sizeLine := hl
    rw [List.length_cons, Nat.mul_add] at hN
    refine hs a x n _ (List.mem_cons_self ..) hr (by omega) fun d' n' hb hn => ⟨by omega, ?_⟩
    refine compW_draw2 c N t (h.append (.cons hb .nil)) (by rw [List.length_append, List.length_singleton]; omega) (by omega) (fun a d n K m => hs a d n K (List.mem_cons_of_mem _ m)) fun ds n2 z hn2 => q ds n2 ?_ ?_
    · simpa using z
    · rw [List.length_cons, Nat.mul_add]; omega
theorem a2_ex {α : Type} {P : Int → Prop} : ∀ {as : List α} {ds : List D}, A2 (fun _ d => ∃ w : Int, P w ∧ d = .int w) as ds → ∃ ws : List Int, ds = ws.map D.int ∧ ws.length = as.length ∧ ∀ w ∈ ws, P w
  | _, _, .nil => ⟨[], rfl, rfl, fun _ h => by cases h⟩
  | _, _, .cons ⟨w, hw, e⟩ t => by
    obtain ⟨ws, e2, hl, h⟩ := a2_ex t
    refine ⟨w :: ws, by rw [e, e2]; rfl, by simp [hl], fun x hx => ?_⟩
    rcases List.mem_cons.mp hx with rfl | hx
    · exact hw
    · exact h x hx
end Vm
namespace Vm
open PySem PySem.Spec L2 Pm
mutual
theorem stale_stale : ∀ d : D, d.stale.stale = d.stale
  | .lst t xs => by rw [D.stale, D.stale, stales_stales xs]
  | .tup xs => by rw [D.stale, D.stale, stales_stales xs]
  | .dic t kvs => by rw [D.stale, D.stale, stalek_stalek kvs]
  | .non => rfl
  | .bl _ => rfl
  | .int _ => rfl
  | .str _ => rfl
  | .pur => rfl
theorem stales_stales : ∀ xs : List D, D.stales (D.stales xs) = D.stales xs
  | [] => rfl
  | x :: xs => by rw [D.stales, D.stales, stale_stale x, stales_stales xs]
theorem stalek_stalek : ∀ xs : List (Key × D), D.stalek (D.stalek xs) = D.stalek xs
  | [] => rfl
  | (k, x) :: xs => by rw [D.stalek, D.stalek, stale_stale x, stalek_stalek xs]
end
theorem Is.stale {α : Type} [En α] {x : α} {d : D} (h : Is x d) : Is x d.stale := by
  unfold Is at h ⊢
  rw [stale_stale]; exact h
theorem A2.stales {α : Type} [En α] : ∀ {xs : List α} {ds : List D}, A2 Is xs ds → A2 Is xs (D.stales ds)
  | _, _, .nil => .nil
  | _, _, .cons h t => .cons h.stale t.stales
theorem rep_zero (m : Nat) : (List.replicate m [D.int 0]).flatten = (List.replicate m (0 : Int)).map D.int := by
  induction m with
  | zero => rfl
  | succ m ih => rw [List.replicate_succ, List.flatten_cons, ih, List.replicate_succ]; rfl
theorem fresh_yo {α : Type} [En α] {xs : List α} {ds : List D} (h : A2 Yo xs ds) : D.freshs ds = true := fresh_of fun d m => by obtain ⟨a, _, e⟩ := h.right m; exact e.2
theorem A2.is {α : Type} [En α] {xs : List α} {ds : List D} (h : A2 Yo xs ds) : A2 Is xs ds := h.imp fun _ _ _ e => e.1
end Vm
namespace Pm
theorem cheap_ne {ws : List Int} : ∀ {ps : List (List Nat)}, ps ≠ [] → cheapL ws ps ≠ [] := by
  intro ps h
  have : ∃ p ∈ ps, ∀ q ∈ ps, cost ws p ≤ cost ws q := by
    induction ps with
    | nil => exact absurd rfl h
    | cons a l ih =>
      by_cases hl : l = []
      · subst hl
        exact ⟨a, List.mem_cons_self .., fun q hq => by rw [List.mem_singleton] at hq; subst hq; exact Int.le_refl _⟩
      · obtain ⟨p, hp, hm⟩ := ih hl
        by_cases c : cost ws a ≤ cost ws p
        · exact ⟨a, List.mem_cons_self .., fun q hq => by
            rcases List.mem_cons.mp hq with rfl | hq
            · exact Int.le_refl _
            · exact Int.le_trans c (hm q hq)⟩
        · exact ⟨p, List.mem_cons_of_mem _ hp, fun q hq => by
            rcases List.mem_cons.mp hq with rfl | hq
            · omega
            · exact hm q hq⟩
  obtain ⟨p, hp, hm⟩ := this
  exact List.ne_nil_of_mem (mem_cheapL.mpr ⟨hp, hm⟩)
theorem lone_iff {ws : List Int} {es : E} {n : Nat} (hl : ws.length = es.length) : (cheapL ws (prs es n)).length = 1 ↔ prs es n ≠ [] ∧ thrL ws (prs es n) = [] := by
  have h := thrL_iff (n := n) hl
  constructor
  · intro e
    refine ⟨fun z => ?_, Classical.byContradiction fun z => ?_⟩
    · rw [z] at e; simp [cheapL] at e
    · have := h.mp z; omega
  · rintro ⟨h1, h2⟩
    have h3 : ¬ 1 < (cheapL ws (prs es n)).length := fun z => h.mpr z h2
    have := List.length_pos_iff.mpr (cheap_ne (ws := ws) h1)
    omega
end Pm
namespace Vm
open PySem PySem.Spec L2 Pm
theorem wpS_scp {Ψ : Nat → FnSem} {R : RK} {k j : Nat} {a rest : Sm} {vs : List Nat} {ops : List Op} {ρ ρa : List Sl} {n : Nat} {K : KS} (hl : ρ.length = k) (e : ρ.map Sl.aged = ρa)
    (h : wpS Ψ noR a ρa n { nx := fun ρ' n' => (ρ'.length = k ∧ ∃ t ds, (ρ'.getD j .dead).heldBy (.lst t ds) ∧ (D.lst t ds).fresh = true ∧ opsK ops ds = true) ∧ wpS Ψ R rest (wipeS ρ vs) n' K, rt := fun ρ' d n' => (ρ'.length = k ∧ d.flat = true) ∧ K.rt (wipeS ρ vs) d n' }) : wpS Ψ R (.scp k a vs j ops rest) ρ n K := by
  subst e
  exact ⟨hl, h⟩
end Vm
namespace Vm
open PySem PySem.Spec L2 Pm
theorem cut_suf {xs : List D} (k : Nat) : cutD xs (some (k : Int)) none = xs.drop k := by
  unfold cutD HT.sIx
  simp only []
  have : ¬ (k : Int) < 0 := by omega
  simp only [this, if_false, Int.toNat_natCast]
  rcases Nat.le_total k xs.length with h | h
  · rw [Nat.min_eq_left h]
    exact List.take_of_length_le (by rw [List.length_drop]; omega)
  · rw [Nat.min_eq_right h, List.drop_of_length_le (Nat.le_refl _), List.drop_of_length_le h, List.take_nil]
theorem sub_ok {size : Nat} {es es' : E} (h : EdOk size es) (hs : List.Sublist es' es) : EdOk size es' :=
  ⟨fun e m => h.bd e (hs.subset m), h.asc.sublist hs, Nat.le_trans hs.length_le h.few, h.sz⟩
end Vm
namespace K70
open PySem PySem.Spec L2 Vm
def top (i : Nat) : Stmt := PySem.Challenge.pw_lentmemory_k70_whole_pairings_or_short_s.main.body.getD i (.Pass ⟨0, 0, 0, 0⟩)
def T : List Str := [("is_whole" : Str), ("is_count" : Str), ("check_count" : Str), ("is_edge" : Str), ("check_edges" : Str), ("reached_from" : Str), ("held_anew" : Str), ("held_or_short" : Str), ("any_pairing" : Str), ("short_set" : Str), ("is_short_set" : Str), ("_law_purse" : Str), ("_law_mixed" : Str), ("_law_draw" : Str), ("_law_purses" : Str), ("_law_one_of" : Str), ("_law_shuffled" : Str), ("_law_exact" : Str), ("_law_same" : Str), ("_law_edges" : Str), ("_law_pairings" : Str), ("_law_are_counts" : Str), ("_law_is_short" : Str), ("_law_sets" : Str), ("_law_just_one" : Str), ("_law_judged" : Str), ("law" : Str)]
/-- is_whole (0 value) -/
def b0 : Fd := ⟨1, 1, (.scons (.ret (.and (.isi (.var 0) [.int]) (.not (.isi (.var 0) [.bool])))) .snil)⟩
/-- is_count (0 value) -/
def b1 : Fd := ⟨1, 1, (.scons (.ret (.and (.call 0 (.econs (.var 0) .enil)) (.cmp .ge (.var 0) (.int 0)))) .snil)⟩
/-- check_count (0 value, 1 least) -/
def b2 : Fd := ⟨2, 2, (.scons (.ife (.or (.not (.call 1 (.econs (.var 0) .enil))) (.cmp .lt (.var 0) (.var 1))) (.scons .never .snil) .snil) .snil)⟩
/-- is_edge (0 size, 1 value, 2 one) -/
def b3 : Fd := ⟨2, 3, (.scons (.ife (.or (.not (.isi (.var 1) [.tuple])) (.cmp .ne (.blt .len (.econs (.var 1) .enil)) (.int 2))) (.scons (.ret (.bl false)) .snil) .snil) (.scons (.ret (.blt .all (.econs (.comp .seq (.econs (.var 1) .enil) (.nm 2) (.bl true) (.and (.call 1 (.econs (.var 2) .enil)) (.cmp .lt (.var 2) (.var 0))) [2]) .enil))) .snil))⟩
/-- check_edges (0 size, 1 value, 2 edge, 3 at) -/
def b4 : Fd := ⟨2, 4, (.scons (.expr (.call 2 (.econs (.var 0) .enil))) (.scons (.ife (.or (.not (.isi (.var 1) [.list])) (.not (.blt .all (.econs (.comp .seq (.econs (.var 1) .enil) (.nm 2) (.bl true) (.call 3 (.econs (.var 0) (.econs (.var 2) .enil))) [2]) .enil)))) (.scons .never .snil) .snil) (.scons (.ife (.blt .any (.econs (.comp .range2 (.econs (.int 1) (.econs (.blt .len (.econs (.var 1) .enil)) .enil)) (.nm 3) (.bl true) (.cmp .ge (.ix (.var 1) (.bin .sub (.var 3) (.int 1))) (.ix (.var 1) (.var 3))) [3]) .enil)) (.scons .never .snil) .snil) .snil)))⟩
/-- reached_from (0 edges, 1 held, 2 left, 3 lefts, 4 ways, 5 at, 6 one, 7 other) -/
def b5 : Fd := ⟨3, 8, (.scons (.par3 3 4 5 .o .o .v (.lst (.econs (.var 2) .enil)) .dnew (.int 0)) (.scons (.whil (.cmp .lt (.var 5) (.blt .len (.econs (.var 3) .enil))) (.scons (.for .seq (.econs (.var 0) .enil) (.tup (.tcons (.nm 6) (.tcons (.nm 7) .tnil))) (.scons (.ife (.and (.cmp .eq (.var 6) (.ix (.var 3) (.var 5))) (.cmp .ninD (.var 7) (.var 4))) (.scons (.dput 4 (.var 7) (.var 6)) (.scons (.mut 3 .extend (.econs (.ite (.cmp .inD (.var 7) (.var 1)) (.lst (.econs (.dget (.var 1) (.var 7)) .enil)) (.lst .enil)) .enil)) .snil)) .snil) .snil)) (.scons (.aug 5 .add (.int 1)) .snil))) (.frz 4 (.frz 3 (.scons (.ret (.tup (.econs (.var 3) (.econs (.var 4) .enil)))) .snil)))))⟩
/-- held_anew (0 held, 1 ways, 2 right, 3 one, 4 left, 5 early, 6 late, 7 other) -/
def b6 : Fd := ⟨3, 8, (.scons (.asg 3 (.var 2)) (.scons (.whil (.notN (.var 3)) (.scons (.asg 4 (.dget (.var 1) (.var 3))) (.scons (.asg 5 (.comp .items (.econs (.var 0) .enil) (.tup (.tcons (.nm 6) (.tcons (.nm 7) .tnil))) (.cmp .eq (.var 7) (.var 4)) (.var 6) [6, 7])) (.scons (.dput 0 (.var 3) (.var 4)) (.scons (.asg 3 (.ite (.cmp .ne (.var 5) (.lst .enil)) (.ix (.var 5) (.int 0)) .non)) .snil))))) .snil))⟩
/-- held_or_short (0 size, 1 edges, 2 held, 3 left, 4 free, 5 lefts, 6 ways, 7 right) -/
def b7 : Fd := ⟨2, 8, (.scons (.asgO 2 .dnew) (.scons (.for .range1 (.econs (.var 0) .enil) (.nm 3) (.scons (.asgT (.tup (.tcons (.nm 5) (.tcons (.nm 6) .tnil))) (.call 5 (.econs (.var 1) (.econs (.var 2) (.econs (.var 3) .enil))))) (.scons (.asg 4 (.comp .keys (.econs (.var 6) .enil) (.nm 7) (.cmp .ninD (.var 7) (.var 2)) (.var 7) [7])) (.scons (.ife (.cmp .eq (.var 4) (.lst .enil)) (.scons (.ret (.tup (.econs .non (.econs (.blt .sorted (.econs (.var 5) .enil)) .enil)))) .snil) .snil) (.scons (.io 2 6 (.econs (.var 6) (.econs (.ix (.var 4) (.int 0)) .enil))) .snil))))) (.frz 2 (.scons (.ret (.tup (.econs (.var 2) (.econs .non .enil)))) .snil))))⟩
/-- any_pairing (0 size, 1 edges, 2 held, 3 at, 4 edge) -/
def b8 : Fd := ⟨2, 5, (.scons (.expr (.call 4 (.econs (.var 0) (.econs (.var 1) .enil)))) (.scons (.asg 2 (.ix (.call 7 (.econs (.var 0) (.econs (.var 1) .enil))) (.int 0))) (.scons (.ife (.isN (.var 2)) (.scons (.ret .non) .snil) .snil) (.scons (.ret (.comp .enum (.econs (.var 1) .enil) (.tup (.tcons (.nm 3) (.tcons (.nm 4) .tnil))) (.cmp .eq (.dget (.var 2) (.ix (.var 4) (.int 1))) (.ix (.var 4) (.int 0))) (.var 3) [3, 4])) .snil))))⟩
/-- short_set (0 size, 1 edges) -/
def b9 : Fd := ⟨2, 2, (.scons (.expr (.call 4 (.econs (.var 0) (.econs (.var 1) .enil)))) (.scons (.ret (.ix (.call 7 (.econs (.var 0) (.econs (.var 1) .enil))) (.int 1))) .snil))⟩
/-- is_short_set (0 size, 1 edges, 2 value, 3 left, 4 at, 5 right) -/
def b10 : Fd := ⟨3, 6, (.scons (.expr (.call 4 (.econs (.var 0) (.econs (.var 1) .enil)))) (.scons (.ife (.or (.not (.isi (.var 2) [.list])) (.or (.cmp .eq (.var 2) (.lst .enil)) (.not (.blt .all (.econs (.comp .seq (.econs (.var 2) .enil) (.nm 3) (.bl true) (.and (.call 1 (.econs (.var 3) .enil)) (.cmp .lt (.var 3) (.var 0))) [3]) .enil))))) (.scons (.ret (.bl false)) .snil) .snil) (.scons (.ife (.blt .any (.econs (.comp .range2 (.econs (.int 1) (.econs (.blt .len (.econs (.var 2) .enil)) .enil)) (.nm 4) (.bl true) (.cmp .ge (.ix (.var 2) (.bin .sub (.var 4) (.int 1))) (.ix (.var 2) (.var 4))) [4]) .enil)) (.scons (.ret (.bl false)) .snil) .snil) (.scons (.ret (.cmp .lt (.lset .seq (.econs (.var 1) .enil) (.tup (.tcons (.nm 3) (.tcons (.nm 5) .tnil))) (.cmp .inS (.var 3) (.var 2)) (.var 5) [3, 5]) (.blt .len (.econs (.var 2) .enil)))) .snil))))⟩
/-- _law_purse (0 script, 1 at, 2 seed) -/
def b11 : Fd := ⟨2, 3, (.scons (.asg 2 (.blt .sum (.econs (.slice (.var 0) (.var 1) (.bin .add (.var 1) (.int 1))) .enil))) (.scons (.ret (.lst (.econs (.bin .mod (.blt .int (.econs (.blt .max2 (.econs (.bin .sub (.var 2) (.bin .pow (.int 10) (.int 18))) (.econs (.int 0) .enil))) .enil)) (.bin .pow (.bin .pow (.int 10) (.int 60)) (.int 8))) (.econs (.bin .mod (.blt .int (.econs (.var 2) .enil)) (.int 2147483629)) (.econs (.int 0) (.econs (.var 1) .enil)))))) .snil))⟩
/-- _law_mixed (0 seed, 1 spin, 2 at, 3 mixed) -/
def b12 : Fd := ⟨3, 4, (.scons (.asg 3 (.bin .add (.bin .mul (.var 0) (.int 69069)) (.bin .mul (.bin .mul (.int 104729) (.var 1)) (.var 1)))) (.scons (.asg 3 (.bin .mod (.blt .int (.econs (.bin .add (.bin .add (.var 3) (.bin .mul (.int 7919) (.var 2))) (.var 1)) .enil)) (.int 2147483647))) (.scons (.asg 3 (.bin .mod (.blt .int (.econs (.bin .add (.bin .mul (.var 3) (.var 3)) (.int 40503)) .enil)) (.int 2147483629))) (.scons (.ret (.bin .mod (.blt .int (.econs (.bin .mul (.var 3) (.int 48271)) .enil)) (.int 2147483587))) .snil))))⟩
/-- _law_draw (0 purse, 1 many, 2 drawn, 3 found, 4 piece) -/
def b13 : Fd := ⟨2, 5, (.scons (.ife (.cmp .gt (.ix (.var 0) (.int 0)) (.int 0)) (.scons (.asg 2 (.bin .mod (.blt .int (.econs (.ix (.var 0) (.int 0)) .enil)) (.var 1))) (.scons (.setIx 0 (.int 0) (.bin .fdiv (.ix (.var 0) (.int 0)) (.var 1))) (.scons (.ret (.var 2)) .snil))) .snil) (.scons (.asg 3 (.int 0)) (.scons (.for .range1 (.econs (.bin .add (.int 1) (.bin .fdiv (.bits (.var 1)) (.int 28))) .enil) (.nm 4) (.scons (.setIx 0 (.int 2) (.bin .add (.ix (.var 0) (.int 2)) (.int 1))) (.scons (.asg 3 (.bin .add (.bin .mul (.var 3) (.int 2147483587)) (.call 12 (.econs (.ix (.var 0) (.int 1)) (.econs (.ix (.var 0) (.int 2)) (.econs (.ix (.var 0) (.int 3)) .enil)))))) .snil))) (.scons (.ret (.bin .mod (.blt .int (.econs (.var 3) .enil)) (.var 1))) .snil))))⟩
/-- _law_purses (0 script, 1 few, 2 at) -/
def b14 : Fd := ⟨2, 3, (.scons (.ret (.comp .range1 (.econs (.blt .max2 (.econs (.int 1) (.econs (.blt .min2 (.econs (.var 1) (.econs (.blt .len (.econs (.var 0) .enil)) .enil))) .enil))) .enil) (.nm 2) (.bl true) (.call 11 (.econs (.var 0) (.econs (.var 2) .enil))) [2])) .snil)⟩
/-- _law_one_of (0 purse, 1 some) -/
def b15 : Fd := ⟨2, 2, (.scons (.ret (.ix (.var 1) (.call 13 (.econs (.var 0) (.econs (.blt .len (.econs (.var 1) .enil)) .enil))))) .snil)⟩
/-- _law_shuffled (0 purse, 1 some, 2 found, 3 item) -/
def b16 : Fd := ⟨2, 4, (.scons (.asgO 2 (.lst .enil)) (.scons (.for .seq (.econs (.var 1) .enil) (.nm 3) (.scons (.mut 2 .insert (.econs (.call 13 (.econs (.var 0) (.econs (.bin .add (.blt .len (.econs (.var 2) .enil)) (.int 1)) .enil))) (.econs (.var 3) .enil))) .snil)) (.frz 2 (.scons (.ret (.var 2)) .snil))))⟩
/-- _law_exact (0 mine, 1 theirs, 2 is_like, 3 a, 4 b) -/
def b17 : Fd := ⟨2, 5, (.scons (.ife (.isi (.var 0) [.list, .tuple]) (.scons (.asg 2 (.and (.cmp .eqd (.isi (.var 1) [.list]) (.isi (.var 0) [.list])) (.cmp .eqd (.isi (.var 1) [.tuple]) (.isi (.var 0) [.tuple])))) (.scons (.ret (.and (.var 2) (.and (.cmp .eqd (.blt .len (.econs (.var 0) .enil)) (.blt .len (.econs (.var 1) .enil))) (.blt .all (.econs (.comp .zip (.econs (.var 0) (.econs (.var 1) .enil)) (.tup (.tcons (.nm 3) (.tcons (.nm 4) .tnil))) (.bl true) (.call 17 (.econs (.var 3) (.econs (.var 4) .enil))) [3, 4]) .enil))))) .snil)) .snil) (.scons (.ife (.or (.isi (.var 1) [.list, .tuple]) (.or (.cmp .ne (.isi (.var 0) [.dict]) (.isi (.var 1) [.dict])) (.cmp .ne (.isN (.var 0)) (.isN (.var 1))))) (.scons (.ret (.bl false)) .snil) .snil) (.scons (.asg 2 (.and (.cmp .eqd (.isi (.var 0) [.int]) (.isi (.var 1) [.int])) (.cmp .eqd (.isi (.var 0) [.str]) (.isi (.var 1) [.str])))) (.scons (.ret (.and (.var 2) (.and (.cmp .eqd (.isi (.var 0) [.bool]) (.isi (.var 1) [.bool])) (.cmp .eqd (.var 0) (.var 1))))) .snil))))⟩
/-- _law_same (0 thing, 1 key, 2 item) -/
def b18 : Fd := ⟨1, 3, (.scons (.ife (.isi (.var 0) [.dict]) (.scons (.ret (.mkd (.compd 0 18 1 [1]))) .snil) .snil) (.scons (.ife (.isi (.var 0) [.list]) (.scons (.ret (.comp .seq (.econs (.var 0) .enil) (.nm 2) (.bl true) (.call 18 (.econs (.var 2) .enil)) [2])) .snil) .snil) (.scons (.ret (.ite (.isi (.var 0) [.tuple]) (.blt .tuple (.econs (.comp .seq (.econs (.var 0) .enil) (.nm 2) (.bl true) (.call 18 (.econs (.var 2) .enil)) [2]) .enil)) (.var 0))) .snil)))⟩
/-- _law_edges (0 purse, 1 size, 2 pairs, 3 left, 4 right, 5 found, 6 mixed, 7 some, 8 pair) -/
def b19 : Fd := ⟨2, 9, (.scons (.asg 2 (.lst .enil)) (.scons (.for .range1 (.econs (.var 1) .enil) (.nm 3) (.scons (.asg 2 (.bin .add (.var 2) (.comp .range1 (.econs (.var 1) .enil) (.nm 4) (.bl true) (.tup (.econs (.var 3) (.econs (.var 4) .enil))) [4]))) .snil)) (.scons (.asgT (.tup (.tcons (.nm 5) (.tcons (.nm 6) .tnil))) (.tup (.econs (.slice (.call 16 (.econs (.var 0) (.econs (.var 2) .enil))) .non (.call 13 (.econs (.var 0) (.econs (.bin .add (.blt .min2 (.econs (.int 12) (.econs (.blt .len (.econs (.var 2) .enil)) .enil))) (.int 1)) .enil)))) (.econs (.call 16 (.econs (.var 0) (.econs (.blt .lrange (.econs (.var 1) .enil)) .enil))) .enil)))) (.scons (.ife (.cmp .gt (.call 13 (.econs (.var 0) (.econs (.int 4) .enil))) (.int 0)) (.scons (.asg 7 (.comp .range1 (.econs (.var 1) .enil) (.nm 3) (.bl true) (.tup (.econs (.var 3) (.econs (.ix (.var 6) (.var 3)) .enil))) [3])) (.scons (.asg 5 (.bin .add (.var 7) (.slice (.comp .seq (.econs (.var 5) .enil) (.nm 8) (.cmp .ninS (.var 8) (.var 7)) (.var 8) [8]) .non (.bin .sub (.int 12) (.var 1))))) .snil)) .snil) (.scons (.ret (.blt .sortedP (.econs (.var 5) .enil))) .snil)))))⟩
/-- _law_pairings (0 size, 1 edges, 2 found, 3 left, 4 later, 5 some, 6 taken, 7 at) -/
def b20 : Fd := ⟨2, 8, (.scons (.asg 2 (.lst (.econs (.lst .enil) .enil))) (.scons (.for .range1 (.econs (.var 0) .enil) (.nm 3) (.scons (.asg 4 (.lst .enil)) (.scons (.for .seq (.econs (.var 2) .enil) (.nm 5) (.scons (.asg 6 (.comp .seq (.econs (.var 5) .enil) (.nm 7) (.bl true) (.ix (.ix (.var 1) (.var 7)) (.int 1)) [7])) (.scons (.asg 4 (.bin .add (.var 4) (.comp .range1 (.econs (.blt .len (.econs (.var 1) .enil)) .enil) (.nm 7) (.and (.cmp .eq (.ix (.ix (.var 1) (.var 7)) (.int 0)) (.var 3)) (.cmp .ninS (.ix (.ix (.var 1) (.var 7)) (.int 1)) (.var 6))) (.bin .add (.var 5) (.lst (.econs (.var 7) .enil))) [7]))) .snil))) (.scons (.asg 2 (.var 4)) .snil)))) (.scons (.ret (.var 2)) .snil)))⟩
/-- _law_are_counts (0 value, 1 many, 2 one) -/
def b21 : Fd := ⟨2, 3, (.scons (.ife (.or (.not (.isi (.var 0) [.list])) (.cmp .ne (.blt .len (.econs (.var 0) .enil)) (.var 1))) (.scons (.ret (.bl false)) .snil) .snil) (.scons (.ret (.blt .all (.econs (.comp .seq (.econs (.var 0) .enil) (.nm 2) (.bl true) (.and (.isi (.var 2) [.int]) (.and (.not (.isi (.var 2) [.bool])) (.cmp .ge (.var 2) (.int 0)))) [2]) .enil))) .snil))⟩
/-- _law_is_short (0 size, 1 edges, 2 value, 3 at, 4 right, 5 left) -/
def b22 : Fd := ⟨3, 6, (.scons (.ife (.or (.not (.isi (.var 2) [.list])) (.or (.cmp .eq (.var 2) (.lst .enil)) (.or (.not (.call 21 (.econs (.var 2) (.econs (.blt .len (.econs (.var 2) .enil)) .enil)))) (.cmp .ge (.blt .max1 (.econs (.var 2) .enil)) (.var 0))))) (.scons (.ret (.bl false)) .snil) .snil) (.scons (.ife (.blt .any (.econs (.comp .range2 (.econs (.int 1) (.econs (.blt .len (.econs (.var 2) .enil)) .enil)) (.nm 3) (.bl true) (.cmp .ge (.ix (.var 2) (.bin .sub (.var 3) (.int 1))) (.ix (.var 2) (.var 3))) [3]) .enil)) (.scons (.ret (.bl false)) .snil) .snil) (.scons (.ret (.cmp .lt (.blt .len (.econs (.comp .range1 (.econs (.var 0) .enil) (.nm 4) (.blt .any (.econs (.comp .seq (.econs (.var 2) .enil) (.nm 5) (.bl true) (.cmp .inS (.tup (.econs (.var 5) (.econs (.var 4) .enil))) (.var 1)) [5]) .enil)) (.var 4) [4]) .enil)) (.blt .len (.econs (.var 2) .enil)))) .snil)))⟩
/-- _law_sets (0 size, 1 found, 2 left, 3 some) -/
def b23 : Fd := ⟨1, 4, (.scons (.asg 1 (.lst (.econs (.lst .enil) .enil))) (.scons (.for .range1 (.econs (.var 0) .enil) (.nm 2) (.scons (.asg 1 (.bin .add (.var 1) (.comp .seq (.econs (.var 1) .enil) (.nm 3) (.bl true) (.bin .add (.var 3) (.lst (.econs (.var 2) .enil))) [3]))) .snil)) (.scons (.ret (.var 1)) .snil)))⟩
/-- _law_just_one (0 size, 1 edges, 2 pairings, 3 mine, 4 told, 5 is_right, 6 some, 7 shown, 8 more, 9 late) -/
def b24 : Fd := ⟨2, 10, (.scons (.par2 2 3 .v .o (.call 20 (.econs (.var 0) (.econs (.var 1) .enil))) (.blt .list (.econs (.var 1) .enil))) (.scons (.asgD 4 (.lst (.econs (.call 8 (.econs (.var 0) (.econs (.var 3) .enil))) (.econs (.call 9 (.econs (.var 0) (.econs (.var 3) .enil))) .enil)))) (.scons (.ife (.cmp .eq (.var 2) (.lst .enil)) (.scons (.asg 5 (.and (.isN (.ix (.var 4) (.int 0))) (.and (.call 22 (.econs (.var 0) (.econs (.var 1) (.econs (.ix (.var 4) (.int 1)) .enil)))) (.isB (.call 10 (.econs (.var 0) (.econs (.var 3) (.econs (.ix (.var 4) (.int 1)) .enil)))) true)))) .snil) (.scons (.asg 5 (.and (.isN (.ix (.var 4) (.int 1))) (.blt .any (.econs (.comp .seq (.econs (.var 2) .enil) (.nm 6) (.bl true) (.call 17 (.econs (.ix (.var 4) (.int 0)) (.econs (.var 6) .enil))) [6]) .enil)))) .snil)) (.scons (.ife (.or (.not (.var 5)) (.not (.call 17 (.econs (.var 3) (.econs (.var 1) .enil))))) (.scons (.ret (.bl false)) .snil) .snil) (.scons (.par2 7 8 .v .v (.call 18 (.econs (.var 4) .enil)) (.lst (.econs (.call 8 (.econs (.int 1) (.econs (.lst (.econs (.tup (.econs (.int 0) (.econs (.int 0) .enil))) .enil)) .enil))) (.econs (.call 9 (.econs (.int 1) (.econs (.lst .enil) .enil))) .enil)))) (.scons (.ife (.not (.call 17 (.econs (.lst (.econs (.var 4) (.econs (.var 8) .enil))) (.econs (.lst (.econs (.var 7) (.econs (.lst (.econs (.lst (.econs (.int 0) .enil)) (.econs (.lst (.econs (.int 0) .enil)) .enil))) .enil))) .enil)))) (.scons (.ret (.bl false)) .snil) .snil) (.scons (.wrk 10 4 (.each none true 9 (.str "more"))) (.scons (.mut 3 .clear .enil) (.scons (.ret (.call 17 (.econs (.lst (.econs (.call 8 (.econs (.var 0) (.econs (.var 1) .enil))) (.econs (.call 9 (.econs (.var 0) (.econs (.var 1) .enil))) .enil))) (.econs (.var 7) .enil)))) .snil)))))))))⟩
/-- _law_judged (0 purse, 1 size, 2 edges, 3 sets, 4 some, 5 odds, 6 late, 7 row, 8 mine, 9 value, 10 shown, 11 right) -/
def b25 : Fd := ⟨3, 12, (.scons (.asg 3 (.call 23 (.econs (.var 1) .enil))) (.scons (.asg 4 (.call 15 (.econs (.var 0) (.econs (.var 3) .enil)))) (.scons (.asg 5 (.lst (.econs .non (.econs (.int 0) (.econs (.bl true) (.econs (.str "") (.econs (.str "0") (.econs (.tup .enil) (.econs .dnew (.econs (.blt .tuple (.econs (.var 4) .enil)) (.econs (.lst (.econs (.var 4) .enil)) (.econs (.bin .add (.var 4) (.slice (.var 4) (.neg (.int 1)) .non)) (.econs (.rev (.var 4)) (.econs (.bin .add (.var 4) (.lst (.econs (.var 1) .enil))) (.econs (.bin .add (.lst (.econs (.neg (.int 1)) .enil)) (.var 4)) (.econs (.var 2) .enil)))))))))))))))) (.scons (.asg 5 (.bin .add (.bin .add (.var 5) (.comp .seq (.econs (.tup (.econs .non (.econs (.bl true) (.econs (.str "0") (.econs (.lst (.econs (.int 0) .enil)) (.econs (.bin .pow (.int 10) (.int 29)) .enil)))))) .enil) (.nm 6) (.bl true) (.bin .add (.var 4) (.lst (.econs (.var 6) .enil))) [6])) (.lst (.econs (.comp .seq (.econs (.var 4) .enil) (.nm 6) (.bl true) (.blt .bool (.econs (.var 6) .enil)) [6]) (.econs (.mkd (.lst (.econs (.tup (.econs (.int 0) (.econs (.var 4) .enil))) .enil))) .enil))))) (.scons (.asg 5 (.bin .add (.var 5) (.comp .seq (.econs (.var 3) .enil) (.nm 7) (.cmp .gt (.blt .len (.econs (.var 7) .enil)) (.int 3)) (.bin .add (.bin .add (.slice (.var 7) .non (.int 1)) (.rev (.slice (.var 7) (.int 1) (.neg (.int 1))))) (.slice (.var 7) (.neg (.int 1)) .non)) [7]))) (.scons (.asg 5 (.bin .add (.var 5) (.lst (.econs (.bin .add (.lst (.econs .non .enil)) (.var 4)) (.econs (.comp .seq (.econs (.var 4) .enil) (.nm 6) (.bl true) (.blt .str (.econs (.var 6) .enil)) [6]) (.econs (.lst (.econs (.var 1) .enil)) (.econs (.lst (.econs (.neg (.int 1)) .enil)) (.econs (.lst (.econs (.bl false) .enil)) (.econs (.lst (.econs (.bl true) .enil)) (.econs (.lst (.econs (.int 0) (.econs (.int 0) .enil))) .enil)))))))))) (.scons (.asg 8 (.blt .list (.econs (.var 2) .enil))) (.scons (.for .seq (.econs (.call 16 (.econs (.var 0) (.econs (.bin .add (.var 3) (.var 5)) .enil))) .enil) (.nm 9) (.scons (.par2 10 11 .v .v (.call 18 (.econs (.var 9) .enil)) (.call 22 (.econs (.var 1) (.econs (.var 2) (.econs (.var 9) .enil))))) (.scons (.ife (.not (.call 17 (.econs (.lst (.econs (.call 10 (.econs (.var 1) (.econs (.var 8) (.econs (.var 9) .enil)))) (.econs (.var 9) (.econs (.var 8) .enil)))) (.econs (.lst (.econs (.var 11) (.econs (.var 10) (.econs (.var 2) .enil)))) .enil)))) (.scons (.ret (.bl false)) .snil) .snil) .snil))) (.scons (.ret (.bl true)) .snil)))))))))⟩
/-- law (0 script, 1 purse, 2 size, 3 edges, 4 few, 5 lone, 6 some, 7 edge) -/
def b26 : Fd := ⟨1, 8, (.scons (.for .seq (.econs (.call 14 (.econs (.var 0) (.econs (.int 3) .enil))) .enil) (.nm 1) (.scons (.asg 2 (.call 15 (.econs (.var 1) (.econs (.lst (.econs (.int 0) (.econs (.int 1) (.econs (.int 2) (.econs (.int 2) (.econs (.int 3) (.econs (.int 3) (.econs (.int 4) (.econs (.int 4) (.econs (.int 5) (.econs (.int 5) (.econs (.int 5) .enil)))))))))))) .enil)))) (.scons (.asg 3 (.call 19 (.econs (.var 1) (.econs (.var 2) .enil)))) (.scons (.asg 4 (.comp .seq (.econs (.var 3) .enil) (.nm 7) (.cmp .gt (.call 13 (.econs (.var 1) (.econs (.int 4) .enil))) (.int 0)) (.var 7) [7])) (.scons (.asg 5 (.comp .seq (.econs (.var 3) .enil) (.nm 7) (.cmp .ne (.ix (.var 7) (.int 0)) (.bin .sub (.var 2) (.int 1))) (.var 7) [7])) (.scons (.for .seq (.econs (.tup (.econs (.var 3) (.econs (.var 4) (.econs (.var 5) (.econs (.slice (.var 3) (.int 1) .non) (.econs (.slice (.var 3) .non (.neg (.int 1))) (.econs (.lst .enil) .enil))))))) .enil) (.nm 6) (.scons (.ife (.not (.call 24 (.econs (.var 2) (.econs (.var 6) .enil)))) (.scons (.ret (.bl false)) .snil) .snil) .snil)) (.scons (.ife (.or (.not (.call 25 (.econs (.var 1) (.econs (.var 2) (.econs (.var 3) .enil))))) (.or (.not (.call 25 (.econs (.var 1) (.econs (.var 2) (.econs (.var 4) .enil))))) (.not (.call 25 (.econs (.var 1) (.econs (.var 2) (.econs (.var 5) .enil))))))) (.scons (.ret (.bl false)) .snil) .snil) .snil))))))) (.scons (.ret (.bl true)) .snil))⟩
def N0 : List Str := [("value" : Str)]
def N1 : List Str := [("value" : Str)]
def N2 : List Str := [("value" : Str), ("least" : Str)]
def N3 : List Str := [("size" : Str), ("value" : Str), ("one" : Str)]
def N4 : List Str := [("size" : Str), ("value" : Str), ("edge" : Str), ("at" : Str)]
def N5 : List Str := [("edges" : Str), ("held" : Str), ("left" : Str), ("lefts" : Str), ("ways" : Str), ("at" : Str), ("one" : Str), ("other" : Str)]
def N6 : List Str := [("held" : Str), ("ways" : Str), ("right" : Str), ("one" : Str), ("left" : Str), ("early" : Str), ("late" : Str), ("other" : Str)]
def N7 : List Str := [("size" : Str), ("edges" : Str), ("held" : Str), ("left" : Str), ("free" : Str), ("lefts" : Str), ("ways" : Str), ("right" : Str)]
def N8 : List Str := [("size" : Str), ("edges" : Str), ("held" : Str), ("at" : Str), ("edge" : Str)]
def N9 : List Str := [("size" : Str), ("edges" : Str)]
def N10 : List Str := [("size" : Str), ("edges" : Str), ("value" : Str), ("left" : Str), ("at" : Str), ("right" : Str)]
def N11 : List Str := [("script" : Str), ("at" : Str), ("seed" : Str)]
def N12 : List Str := [("seed" : Str), ("spin" : Str), ("at" : Str), ("mixed" : Str)]
def N13 : List Str := [("purse" : Str), ("many" : Str), ("drawn" : Str), ("found" : Str), ("piece" : Str)]
def N14 : List Str := [("script" : Str), ("few" : Str), ("at" : Str)]
def N15 : List Str := [("purse" : Str), ("some" : Str)]
def N16 : List Str := [("purse" : Str), ("some" : Str), ("found" : Str), ("item" : Str)]
def N17 : List Str := [("mine" : Str), ("theirs" : Str), ("is_like" : Str), ("a" : Str), ("b" : Str)]
def N18 : List Str := [("thing" : Str), ("key" : Str), ("item" : Str)]
def N19 : List Str := [("purse" : Str), ("size" : Str), ("pairs" : Str), ("left" : Str), ("right" : Str), ("found" : Str), ("mixed" : Str), ("some" : Str), ("pair" : Str)]
def N20 : List Str := [("size" : Str), ("edges" : Str), ("found" : Str), ("left" : Str), ("later" : Str), ("some" : Str), ("taken" : Str), ("at" : Str)]
def N21 : List Str := [("value" : Str), ("many" : Str), ("one" : Str)]
def N22 : List Str := [("size" : Str), ("edges" : Str), ("value" : Str), ("at" : Str), ("right" : Str), ("left" : Str)]
def N23 : List Str := [("size" : Str), ("found" : Str), ("left" : Str), ("some" : Str)]
def N24 : List Str := [("size" : Str), ("edges" : Str), ("pairings" : Str), ("mine" : Str), ("told" : Str), ("is_right" : Str), ("some" : Str), ("shown" : Str), ("more" : Str), ("late" : Str)]
def N25 : List Str := [("purse" : Str), ("size" : Str), ("edges" : Str), ("sets" : Str), ("some" : Str), ("odds" : Str), ("late" : Str), ("row" : Str), ("mine" : Str), ("value" : Str), ("shown" : Str), ("right" : Str)]
def N26 : List Str := [("script" : Str), ("purse" : Str), ("size" : Str), ("edges" : Str), ("few" : Str), ("lone" : Str), ("some" : Str), ("edge" : Str)]
def tf : Nat → Tf
  | 0 => ⟨"is_whole", top 5, N0, [("value" : Str)], b0, .plain, [], []⟩
  | 1 => ⟨"is_count", top 6, N1, [("value" : Str)], b1, .plain, [], []⟩
  | 2 => ⟨"check_count", top 7, N2, [("value" : Str), ("least" : Str)], b2, .plain, [.int (0)], [.int (0)]⟩
  | 3 => ⟨"is_edge", top 9, N3, [("size" : Str), ("value" : Str)], b3, .plain, [], []⟩
  | 4 => ⟨"check_edges", top 10, N4, [("size" : Str), ("value" : Str)], b4, .plain, [], []⟩
  | 5 => ⟨"reached_from", top 11, N5, [("edges" : Str), ("held" : Str), ("left" : Str)], b5, .plain, [], []⟩
  | 6 => ⟨"held_anew", top 12, N6, [("held" : Str), ("ways" : Str), ("right" : Str)], b6, .io, [], []⟩
  | 7 => ⟨"held_or_short", top 13, N7, [("size" : Str), ("edges" : Str)], b7, .plain, [], []⟩
  | 8 => ⟨"any_pairing", top 14, N8, [("size" : Str), ("edges" : Str)], b8, .plain, [], []⟩
  | 9 => ⟨"short_set", top 15, N9, [("size" : Str), ("edges" : Str)], b9, .plain, [], []⟩
  | 10 => ⟨"is_short_set", top 16, N10, [("size" : Str), ("edges" : Str), ("value" : Str)], b10, .plain, [], []⟩
  | 11 => ⟨"_law_purse", top 18, N11, [("script" : Str), ("at" : Str)], ⟨2, 3, .never⟩, .plain, [], []⟩
  | 12 => ⟨"_law_mixed", top 19, N12, [("seed" : Str), ("spin" : Str), ("at" : Str)], b12, .plain, [], []⟩
  | 13 => ⟨"_law_draw", top 20, N13, [("purse" : Str), ("many" : Str)], b13, .pu, [], []⟩
  | 14 => ⟨"_law_purses", top 21, N14, [("script" : Str), ("few" : Str)], ⟨2, 3, .never⟩, .plain, [], []⟩
  | 15 => ⟨"_law_one_of", top 22, N15, [("purse" : Str), ("some" : Str)], b15, .plain, [], []⟩
  | 16 => ⟨"_law_shuffled", top 23, N16, [("purse" : Str), ("some" : Str)], b16, .plain, [], []⟩
  | 17 => ⟨"_law_exact", top 24, N17, [("mine" : Str), ("theirs" : Str)], b17, .plain, [], []⟩
  | 18 => ⟨"_law_same", top 25, N18, [("thing" : Str)], b18, .plain, [], []⟩
  | 19 => ⟨"_law_edges", top 26, N19, [("purse" : Str), ("size" : Str)], b19, .plain, [], []⟩
  | 20 => ⟨"_law_pairings", top 27, N20, [("size" : Str), ("edges" : Str)], b20, .plain, [], []⟩
  | 21 => ⟨"_law_are_counts", top 28, N21, [("value" : Str), ("many" : Str)], b21, .plain, [], []⟩
  | 22 => ⟨"_law_is_short", top 29, N22, [("size" : Str), ("edges" : Str), ("value" : Str)], b22, .plain, [], []⟩
  | 23 => ⟨"_law_sets", top 30, N23, [("size" : Str)], b23, .plain, [], []⟩
  | 24 => ⟨"_law_just_one", top 31, N24, [("size" : Str), ("edges" : Str)], b24, .plain, [], []⟩
  | 25 => ⟨"_law_judged", top 32, N25, [("purse" : Str), ("size" : Str), ("edges" : Str)], b25, .plain, [], []⟩
  | 26 => ⟨"law", top 33, N26, [("script" : Str)], ⟨1, 8, .never⟩, .plain, [], []⟩
  | _ => ⟨"", .Pass ⟨0, 0, 0, 0⟩, [], [], ⟨0, 0, .never⟩, .plain, [], []⟩
def cus (f : Nat) : Option ((Nat → FnSem) → FnSem) := if [11, 14, 26].contains f then some (fun _ _ _ _ _ => False) else none
def B : Tab := ⟨T, tf, cus⟩
theorem cus_mono : CusMono B := fun f s e Ψ _ ds n Q Q' R R' _ _ w => by
  have e : (if _ then _ else _) = some s := e
  split at e
  · cases e; exact w.elim
  · cases e
theorem ck_all : ((List.range T.length).all fun f => (cus f).isSome || tfOk T B.ar B.ion (tf f)) = true := by decide +kernel
theorem bn0 : ∀ (kV doc pm : Value) (an : Option Addr) (cdv ct : Value) (us : List Value), us.length = (tf 0).ps.length → bindArgs (PySem.W.fnOf (tf 0).nm (tf 0).nm (defArgs (tf 0).st) (defBody (tf 0).st) (defScope (tf 0).st) .none kV doc pm an cdv ct) ⟨us, []⟩ = pure ((tf 0).ps.zip us) := fun _ _ _ _ _ _ us hl => match us, hl with | [_], _ => rfl
theorem bn1 : ∀ (kV doc pm : Value) (an : Option Addr) (cdv ct : Value) (us : List Value), us.length = (tf 1).ps.length → bindArgs (PySem.W.fnOf (tf 1).nm (tf 1).nm (defArgs (tf 1).st) (defBody (tf 1).st) (defScope (tf 1).st) .none kV doc pm an cdv ct) ⟨us, []⟩ = pure ((tf 1).ps.zip us) := fun _ _ _ _ _ _ us hl => match us, hl with | [_], _ => rfl
theorem bn2 : ∀ (m : Nat) (T : Addr) (kV doc pm : Value) (an : Option Addr) (cdv ct : Value) (us its : List Value), m ≤ (tf 2).ps.length → (tf 2).ps.length ≤ m + 1 → us.length = m → its.length = 1 → ∃ k, bindArgs (PySem.W.fnOf (tf 2).nm (tf 2).nm (defArgs (tf 2).st) (defBody (tf 2).st) (defScope (tf 2).st) (.ref T) kV doc pm an cdv ct) ⟨us, []⟩ = seqItems? (.ref T) >>= k ∧ k (some its.toArray) = pure ((tf 2).ps.zip (us ++ its.drop (m + 1 - (tf 2).ps.length))) := by
  intro m T kV doc pm an cdv ct us its h1 h2 hl hi
  have h1 : m ≤ 2 := h1
  have h2 : 2 ≤ m + 1 := h2
  subst hl
  rcases (by omega : us.length = 1 ∨ us.length = 2) with e | e
  · match us, its, e, hi with
    | [_], [_], _, _ => exact ⟨_, rfl, rfl⟩
  · match us, its, e, hi with
    | [_, _], [_], _, _ => exact ⟨_, rfl, rfl⟩
theorem bn3 : ∀ (kV doc pm : Value) (an : Option Addr) (cdv ct : Value) (us : List Value), us.length = (tf 3).ps.length → bindArgs (PySem.W.fnOf (tf 3).nm (tf 3).nm (defArgs (tf 3).st) (defBody (tf 3).st) (defScope (tf 3).st) .none kV doc pm an cdv ct) ⟨us, []⟩ = pure ((tf 3).ps.zip us) := fun _ _ _ _ _ _ us hl => match us, hl with | [_, _], _ => rfl
theorem bn4 : ∀ (kV doc pm : Value) (an : Option Addr) (cdv ct : Value) (us : List Value), us.length = (tf 4).ps.length → bindArgs (PySem.W.fnOf (tf 4).nm (tf 4).nm (defArgs (tf 4).st) (defBody (tf 4).st) (defScope (tf 4).st) .none kV doc pm an cdv ct) ⟨us, []⟩ = pure ((tf 4).ps.zip us) := fun _ _ _ _ _ _ us hl => match us, hl with | [_, _], _ => rfl
theorem bn5 : ∀ (kV doc pm : Value) (an : Option Addr) (cdv ct : Value) (us : List Value), us.length = (tf 5).ps.length → bindArgs (PySem.W.fnOf (tf 5).nm (tf 5).nm (defArgs (tf 5).st) (defBody (tf 5).st) (defScope (tf 5).st) .none kV doc pm an cdv ct) ⟨us, []⟩ = pure ((tf 5).ps.zip us) := fun _ _ _ _ _ _ us hl => match us, hl with | [_, _, _], _ => rfl
theorem bn6 : ∀ (kV doc pm : Value) (an : Option Addr) (cdv ct : Value) (us : List Value), us.length = (tf 6).ps.length → bindArgs (PySem.W.fnOf (tf 6).nm (tf 6).nm (defArgs (tf 6).st) (defBody (tf 6).st) (defScope (tf 6).st) .none kV doc pm an cdv ct) ⟨us, []⟩ = pure ((tf 6).ps.zip us) := fun _ _ _ _ _ _ us hl => match us, hl with | [_, _, _], _ => rfl
theorem bn7 : ∀ (kV doc pm : Value) (an : Option Addr) (cdv ct : Value) (us : List Value), us.length = (tf 7).ps.length → bindArgs (PySem.W.fnOf (tf 7).nm (tf 7).nm (defArgs (tf 7).st) (defBody (tf 7).st) (defScope (tf 7).st) .none kV doc pm an cdv ct) ⟨us, []⟩ = pure ((tf 7).ps.zip us) := fun _ _ _ _ _ _ us hl => match us, hl with | [_, _], _ => rfl
theorem bn8 : ∀ (kV doc pm : Value) (an : Option Addr) (cdv ct : Value) (us : List Value), us.length = (tf 8).ps.length → bindArgs (PySem.W.fnOf (tf 8).nm (tf 8).nm (defArgs (tf 8).st) (defBody (tf 8).st) (defScope (tf 8).st) .none kV doc pm an cdv ct) ⟨us, []⟩ = pure ((tf 8).ps.zip us) := fun _ _ _ _ _ _ us hl => match us, hl with | [_, _], _ => rfl
theorem bn9 : ∀ (kV doc pm : Value) (an : Option Addr) (cdv ct : Value) (us : List Value), us.length = (tf 9).ps.length → bindArgs (PySem.W.fnOf (tf 9).nm (tf 9).nm (defArgs (tf 9).st) (defBody (tf 9).st) (defScope (tf 9).st) .none kV doc pm an cdv ct) ⟨us, []⟩ = pure ((tf 9).ps.zip us) := fun _ _ _ _ _ _ us hl => match us, hl with | [_, _], _ => rfl
theorem bn10 : ∀ (kV doc pm : Value) (an : Option Addr) (cdv ct : Value) (us : List Value), us.length = (tf 10).ps.length → bindArgs (PySem.W.fnOf (tf 10).nm (tf 10).nm (defArgs (tf 10).st) (defBody (tf 10).st) (defScope (tf 10).st) .none kV doc pm an cdv ct) ⟨us, []⟩ = pure ((tf 10).ps.zip us) := fun _ _ _ _ _ _ us hl => match us, hl with | [_, _, _], _ => rfl
theorem bn11 : ∀ (kV doc pm : Value) (an : Option Addr) (cdv ct : Value) (us : List Value), us.length = (tf 11).ps.length → bindArgs (PySem.W.fnOf (tf 11).nm (tf 11).nm (defArgs (tf 11).st) (defBody (tf 11).st) (defScope (tf 11).st) .none kV doc pm an cdv ct) ⟨us, []⟩ = pure ((tf 11).ps.zip us) := fun _ _ _ _ _ _ us hl => match us, hl with | [_, _], _ => rfl
theorem bn12 : ∀ (kV doc pm : Value) (an : Option Addr) (cdv ct : Value) (us : List Value), us.length = (tf 12).ps.length → bindArgs (PySem.W.fnOf (tf 12).nm (tf 12).nm (defArgs (tf 12).st) (defBody (tf 12).st) (defScope (tf 12).st) .none kV doc pm an cdv ct) ⟨us, []⟩ = pure ((tf 12).ps.zip us) := fun _ _ _ _ _ _ us hl => match us, hl with | [_, _, _], _ => rfl
theorem bn13 : ∀ (kV doc pm : Value) (an : Option Addr) (cdv ct : Value) (us : List Value), us.length = (tf 13).ps.length → bindArgs (PySem.W.fnOf (tf 13).nm (tf 13).nm (defArgs (tf 13).st) (defBody (tf 13).st) (defScope (tf 13).st) .none kV doc pm an cdv ct) ⟨us, []⟩ = pure ((tf 13).ps.zip us) := fun _ _ _ _ _ _ us hl => match us, hl with | [_, _], _ => rfl
theorem bn14 : ∀ (kV doc pm : Value) (an : Option Addr) (cdv ct : Value) (us : List Value), us.length = (tf 14).ps.length → bindArgs (PySem.W.fnOf (tf 14).nm (tf 14).nm (defArgs (tf 14).st) (defBody (tf 14).st) (defScope (tf 14).st) .none kV doc pm an cdv ct) ⟨us, []⟩ = pure ((tf 14).ps.zip us) := fun _ _ _ _ _ _ us hl => match us, hl with | [_, _], _ => rfl
theorem bn15 : ∀ (kV doc pm : Value) (an : Option Addr) (cdv ct : Value) (us : List Value), us.length = (tf 15).ps.length → bindArgs (PySem.W.fnOf (tf 15).nm (tf 15).nm (defArgs (tf 15).st) (defBody (tf 15).st) (defScope (tf 15).st) .none kV doc pm an cdv ct) ⟨us, []⟩ = pure ((tf 15).ps.zip us) := fun _ _ _ _ _ _ us hl => match us, hl with | [_, _], _ => rfl
theorem bn16 : ∀ (kV doc pm : Value) (an : Option Addr) (cdv ct : Value) (us : List Value), us.length = (tf 16).ps.length → bindArgs (PySem.W.fnOf (tf 16).nm (tf 16).nm (defArgs (tf 16).st) (defBody (tf 16).st) (defScope (tf 16).st) .none kV doc pm an cdv ct) ⟨us, []⟩ = pure ((tf 16).ps.zip us) := fun _ _ _ _ _ _ us hl => match us, hl with | [_, _], _ => rfl
theorem bn17 : ∀ (kV doc pm : Value) (an : Option Addr) (cdv ct : Value) (us : List Value), us.length = (tf 17).ps.length → bindArgs (PySem.W.fnOf (tf 17).nm (tf 17).nm (defArgs (tf 17).st) (defBody (tf 17).st) (defScope (tf 17).st) .none kV doc pm an cdv ct) ⟨us, []⟩ = pure ((tf 17).ps.zip us) := fun _ _ _ _ _ _ us hl => match us, hl with | [_, _], _ => rfl
theorem bn18 : ∀ (kV doc pm : Value) (an : Option Addr) (cdv ct : Value) (us : List Value), us.length = (tf 18).ps.length → bindArgs (PySem.W.fnOf (tf 18).nm (tf 18).nm (defArgs (tf 18).st) (defBody (tf 18).st) (defScope (tf 18).st) .none kV doc pm an cdv ct) ⟨us, []⟩ = pure ((tf 18).ps.zip us) := fun _ _ _ _ _ _ us hl => match us, hl with | [_], _ => rfl
theorem bn19 : ∀ (kV doc pm : Value) (an : Option Addr) (cdv ct : Value) (us : List Value), us.length = (tf 19).ps.length → bindArgs (PySem.W.fnOf (tf 19).nm (tf 19).nm (defArgs (tf 19).st) (defBody (tf 19).st) (defScope (tf 19).st) .none kV doc pm an cdv ct) ⟨us, []⟩ = pure ((tf 19).ps.zip us) := fun _ _ _ _ _ _ us hl => match us, hl with | [_, _], _ => rfl
theorem bn20 : ∀ (kV doc pm : Value) (an : Option Addr) (cdv ct : Value) (us : List Value), us.length = (tf 20).ps.length → bindArgs (PySem.W.fnOf (tf 20).nm (tf 20).nm (defArgs (tf 20).st) (defBody (tf 20).st) (defScope (tf 20).st) .none kV doc pm an cdv ct) ⟨us, []⟩ = pure ((tf 20).ps.zip us) := fun _ _ _ _ _ _ us hl => match us, hl with | [_, _], _ => rfl
theorem bn21 : ∀ (kV doc pm : Value) (an : Option Addr) (cdv ct : Value) (us : List Value), us.length = (tf 21).ps.length → bindArgs (PySem.W.fnOf (tf 21).nm (tf 21).nm (defArgs (tf 21).st) (defBody (tf 21).st) (defScope (tf 21).st) .none kV doc pm an cdv ct) ⟨us, []⟩ = pure ((tf 21).ps.zip us) := fun _ _ _ _ _ _ us hl => match us, hl with | [_, _], _ => rfl
theorem bn22 : ∀ (kV doc pm : Value) (an : Option Addr) (cdv ct : Value) (us : List Value), us.length = (tf 22).ps.length → bindArgs (PySem.W.fnOf (tf 22).nm (tf 22).nm (defArgs (tf 22).st) (defBody (tf 22).st) (defScope (tf 22).st) .none kV doc pm an cdv ct) ⟨us, []⟩ = pure ((tf 22).ps.zip us) := fun _ _ _ _ _ _ us hl => match us, hl with | [_, _, _], _ => rfl
theorem bn23 : ∀ (kV doc pm : Value) (an : Option Addr) (cdv ct : Value) (us : List Value), us.length = (tf 23).ps.length → bindArgs (PySem.W.fnOf (tf 23).nm (tf 23).nm (defArgs (tf 23).st) (defBody (tf 23).st) (defScope (tf 23).st) .none kV doc pm an cdv ct) ⟨us, []⟩ = pure ((tf 23).ps.zip us) := fun _ _ _ _ _ _ us hl => match us, hl with | [_], _ => rfl
theorem bn24 : ∀ (kV doc pm : Value) (an : Option Addr) (cdv ct : Value) (us : List Value), us.length = (tf 24).ps.length → bindArgs (PySem.W.fnOf (tf 24).nm (tf 24).nm (defArgs (tf 24).st) (defBody (tf 24).st) (defScope (tf 24).st) .none kV doc pm an cdv ct) ⟨us, []⟩ = pure ((tf 24).ps.zip us) := fun _ _ _ _ _ _ us hl => match us, hl with | [_, _], _ => rfl
theorem bn25 : ∀ (kV doc pm : Value) (an : Option Addr) (cdv ct : Value) (us : List Value), us.length = (tf 25).ps.length → bindArgs (PySem.W.fnOf (tf 25).nm (tf 25).nm (defArgs (tf 25).st) (defBody (tf 25).st) (defScope (tf 25).st) .none kV doc pm an cdv ct) ⟨us, []⟩ = pure ((tf 25).ps.zip us) := fun _ _ _ _ _ _ us hl => match us, hl with | [_, _, _], _ => rfl
theorem bn26 : ∀ (kV doc pm : Value) (an : Option Addr) (cdv ct : Value) (us : List Value), us.length = (tf 26).ps.length → bindArgs (PySem.W.fnOf (tf 26).nm (tf 26).nm (defArgs (tf 26).st) (defBody (tf 26).st) (defScope (tf 26).st) .none kV doc pm an cdv ct) ⟨us, []⟩ = pure ((tf 26).ps.zip us) := fun _ _ _ _ _ _ us hl => match us, hl with | [_], _ => rfl
theorem nm_ok : ∀ f x, B.T[f]? = some x → (B.tf f).nm = x := by
  intro f x e
  have hl : f < 27 := (List.getElem?_eq_some_iff.mp e).1
  match f, hl, e with
  | 0, _, e => cases e; rfl
  | 1, _, e => cases e; rfl
  | 2, _, e => cases e; rfl
  | 3, _, e => cases e; rfl
  | 4, _, e => cases e; rfl
  | 5, _, e => cases e; rfl
  | 6, _, e => cases e; rfl
  | 7, _, e => cases e; rfl
  | 8, _, e => cases e; rfl
  | 9, _, e => cases e; rfl
  | 10, _, e => cases e; rfl
  | 11, _, e => cases e; rfl
  | 12, _, e => cases e; rfl
  | 13, _, e => cases e; rfl
  | 14, _, e => cases e; rfl
  | 15, _, e => cases e; rfl
  | 16, _, e => cases e; rfl
  | 17, _, e => cases e; rfl
  | 18, _, e => cases e; rfl
  | 19, _, e => cases e; rfl
  | 20, _, e => cases e; rfl
  | 21, _, e => cases e; rfl
  | 22, _, e => cases e; rfl
  | 23, _, e => cases e; rfl
  | 24, _, e => cases e; rfl
  | 25, _, e => cases e; rfl
  | 26, _, e => cases e; rfl
  | n + 27, hl, _ => exact absurd hl (by omega)
theorem dfl_ok : ∀ f, f < B.T.length → dflOk (B.tf f) := by
  intro f hl
  have hl : f < 27 := hl
  match f, hl with
  | 0, _ => exact ⟨by decide +kernel, fun z => rfl, .nil⟩
  | 1, _ => exact ⟨by decide +kernel, fun z => rfl, .nil⟩
  | 2, _ => exact ⟨by decide +kernel, fun z => absurd rfl z, .cons (fun _ _ _ => .int _) .nil⟩
  | 3, _ => exact ⟨by decide +kernel, fun z => rfl, .nil⟩
  | 4, _ => exact ⟨by decide +kernel, fun z => rfl, .nil⟩
  | 5, _ => exact ⟨by decide +kernel, fun z => rfl, .nil⟩
  | 6, _ => exact ⟨by decide +kernel, fun z => rfl, .nil⟩
  | 7, _ => exact ⟨by decide +kernel, fun z => rfl, .nil⟩
  | 8, _ => exact ⟨by decide +kernel, fun z => rfl, .nil⟩
  | 9, _ => exact ⟨by decide +kernel, fun z => rfl, .nil⟩
  | 10, _ => exact ⟨by decide +kernel, fun z => rfl, .nil⟩
  | 11, _ => exact ⟨by decide +kernel, fun z => rfl, .nil⟩
  | 12, _ => exact ⟨by decide +kernel, fun z => rfl, .nil⟩
  | 13, _ => exact ⟨by decide +kernel, fun z => rfl, .nil⟩
  | 14, _ => exact ⟨by decide +kernel, fun z => rfl, .nil⟩
  | 15, _ => exact ⟨by decide +kernel, fun z => rfl, .nil⟩
  | 16, _ => exact ⟨by decide +kernel, fun z => rfl, .nil⟩
  | 17, _ => exact ⟨by decide +kernel, fun z => rfl, .nil⟩
  | 18, _ => exact ⟨by decide +kernel, fun z => rfl, .nil⟩
  | 19, _ => exact ⟨by decide +kernel, fun z => rfl, .nil⟩
  | 20, _ => exact ⟨by decide +kernel, fun z => rfl, .nil⟩
  | 21, _ => exact ⟨by decide +kernel, fun z => rfl, .nil⟩
  | 22, _ => exact ⟨by decide +kernel, fun z => rfl, .nil⟩
  | 23, _ => exact ⟨by decide +kernel, fun z => rfl, .nil⟩
  | 24, _ => exact ⟨by decide +kernel, fun z => rfl, .nil⟩
  | 25, _ => exact ⟨by decide +kernel, fun z => rfl, .nil⟩
  | 26, _ => exact ⟨by decide +kernel, fun z => rfl, .nil⟩
  | n + 27, hl => exact absurd hl (by omega)
end K70
namespace K70
open PySem PySem.Spec L2 Vm
abbrev i_is_whole : Nat := 0
theorem u_is_whole {Ψ : Nat → FnSem} {k n : Nat} {Q : D → Nat → Prop} {R : RK} {d0 : D} (h : Lv B Ψ (k + 1)) (hb : ∀ Ψ, Lv B Ψ k → wpS Ψ R b0.body [.pure d0] n { nx := fun _ n' => Q .non n', rt := fun _ d n' => Q d n' }) : Ψ 0 [d0] n Q R := by
  obtain ⟨Ψ', h', rfl⟩ := h.un
  exact ⟨by decide, rfl, hb Ψ' h'⟩
abbrev i_is_count : Nat := 1
theorem u_is_count {Ψ : Nat → FnSem} {k n : Nat} {Q : D → Nat → Prop} {R : RK} {d0 : D} (h : Lv B Ψ (k + 1)) (hb : ∀ Ψ, Lv B Ψ k → wpS Ψ R b1.body [.pure d0] n { nx := fun _ n' => Q .non n', rt := fun _ d n' => Q d n' }) : Ψ 1 [d0] n Q R := by
  obtain ⟨Ψ', h', rfl⟩ := h.un
  exact ⟨by decide, rfl, hb Ψ' h'⟩
abbrev i_check_count : Nat := 2
theorem u_check_count {Ψ : Nat → FnSem} {k n : Nat} {Q : D → Nat → Prop} {R : RK} {d0 d1 : D} (h : Lv B Ψ (k + 1)) (hb : ∀ Ψ, Lv B Ψ k → wpS Ψ R b2.body [.pure d0, .pure d1] n { nx := fun _ n' => Q .non n', rt := fun _ d n' => Q d n' }) : Ψ 2 [d0, d1] n Q R := by
  obtain ⟨Ψ', h', rfl⟩ := h.un
  exact ⟨by decide, rfl, hb Ψ' h'⟩
theorem u_check_count_1 {Ψ : Nat → FnSem} {k n : Nat} {Q : D → Nat → Prop} {R : RK} {d0 : D} (h : Lv B Ψ (k + 1)) (hb : ∀ Ψ, Lv B Ψ k → wpS Ψ R b2.body [.pure d0, .pure (.int (0))] n { nx := fun _ n' => Q .non n', rt := fun _ d n' => Q d n' }) : Ψ 2 [d0] n Q R := by
  obtain ⟨Ψ', h', rfl⟩ := h.un
  exact ⟨by decide, rfl, hb Ψ' h'⟩
abbrev i_is_edge : Nat := 3
theorem u_is_edge {Ψ : Nat → FnSem} {k n : Nat} {Q : D → Nat → Prop} {R : RK} {d0 d1 : D} (h : Lv B Ψ (k + 1)) (hb : ∀ Ψ, Lv B Ψ k → wpS Ψ R b3.body [.pure d0, .pure d1, .dead] n { nx := fun _ n' => Q .non n', rt := fun _ d n' => Q d n' }) : Ψ 3 [d0, d1] n Q R := by
  obtain ⟨Ψ', h', rfl⟩ := h.un
  exact ⟨by decide, rfl, hb Ψ' h'⟩
abbrev i_check_edges : Nat := 4
theorem u_check_edges {Ψ : Nat → FnSem} {k n : Nat} {Q : D → Nat → Prop} {R : RK} {d0 d1 : D} (h : Lv B Ψ (k + 1)) (hb : ∀ Ψ, Lv B Ψ k → wpS Ψ R b4.body [.pure d0, .pure d1, .dead, .dead] n { nx := fun _ n' => Q .non n', rt := fun _ d n' => Q d n' }) : Ψ 4 [d0, d1] n Q R := by
  obtain ⟨Ψ', h', rfl⟩ := h.un
  exact ⟨by decide, rfl, hb Ψ' h'⟩
abbrev i_reached_from : Nat := 5
theorem u_reached_from {Ψ : Nat → FnSem} {k n : Nat} {Q : D → Nat → Prop} {R : RK} {d0 d1 d2 : D} (h : Lv B Ψ (k + 1)) (hb : ∀ Ψ, Lv B Ψ k → wpS Ψ R b5.body [.pure d0, .pure d1, .pure d2, .dead, .dead, .dead, .dead, .dead] n { nx := fun _ n' => Q .non n', rt := fun _ d n' => Q d n' }) : Ψ 5 [d0, d1, d2] n Q R := by
  obtain ⟨Ψ', h', rfl⟩ := h.un
  exact ⟨by decide, rfl, hb Ψ' h'⟩
abbrev i_held_anew : Nat := 6
theorem u_held_anew {Ψ : Nat → FnSem} {k n : Nat} {Q : D → Nat → Prop} {R : RK} {d0 d1 d2 : D} (h : Lv B Ψ (k + 1)) (hb : ∀ Ψ, Lv B Ψ k → wpS Ψ noR b6.body [.own d0, .pure d1, .pure d2, .dead, .dead, .dead, .dead, .dead] n { nx := fun ρ' n' => match ρ'.getD 0 .dead with | .own y => Q (.tup [.non, y]) n' | _ => False, rt := fun _ _ _ => False }) : Ψ 6 [d0, d1, d2] n Q R := by
  obtain ⟨Ψ', h', rfl⟩ := h.un
  exact ⟨by decide, rfl, hb Ψ' h'⟩
abbrev i_held_or_short : Nat := 7
theorem u_held_or_short {Ψ : Nat → FnSem} {k n : Nat} {Q : D → Nat → Prop} {R : RK} {d0 d1 : D} (h : Lv B Ψ (k + 1)) (hb : ∀ Ψ, Lv B Ψ k → wpS Ψ R b7.body [.pure d0, .pure d1, .dead, .dead, .dead, .dead, .dead, .dead] n { nx := fun _ n' => Q .non n', rt := fun _ d n' => Q d n' }) : Ψ 7 [d0, d1] n Q R := by
  obtain ⟨Ψ', h', rfl⟩ := h.un
  exact ⟨by decide, rfl, hb Ψ' h'⟩
abbrev i_any_pairing : Nat := 8
theorem u_any_pairing {Ψ : Nat → FnSem} {k n : Nat} {Q : D → Nat → Prop} {R : RK} {d0 d1 : D} (h : Lv B Ψ (k + 1)) (hb : ∀ Ψ, Lv B Ψ k → wpS Ψ R b8.body [.pure d0, .pure d1, .dead, .dead, .dead] n { nx := fun _ n' => Q .non n', rt := fun _ d n' => Q d n' }) : Ψ 8 [d0, d1] n Q R := by
  obtain ⟨Ψ', h', rfl⟩ := h.un
  exact ⟨by decide, rfl, hb Ψ' h'⟩
abbrev i_short_set : Nat := 9
theorem u_short_set {Ψ : Nat → FnSem} {k n : Nat} {Q : D → Nat → Prop} {R : RK} {d0 d1 : D} (h : Lv B Ψ (k + 1)) (hb : ∀ Ψ, Lv B Ψ k → wpS Ψ R b9.body [.pure d0, .pure d1] n { nx := fun _ n' => Q .non n', rt := fun _ d n' => Q d n' }) : Ψ 9 [d0, d1] n Q R := by
  obtain ⟨Ψ', h', rfl⟩ := h.un
  exact ⟨by decide, rfl, hb Ψ' h'⟩
abbrev i_is_short_set : Nat := 10
theorem u_is_short_set {Ψ : Nat → FnSem} {k n : Nat} {Q : D → Nat → Prop} {R : RK} {d0 d1 d2 : D} (h : Lv B Ψ (k + 1)) (hb : ∀ Ψ, Lv B Ψ k → wpS Ψ R b10.body [.pure d0, .pure d1, .pure d2, .dead, .dead, .dead] n { nx := fun _ n' => Q .non n', rt := fun _ d n' => Q d n' }) : Ψ 10 [d0, d1, d2] n Q R := by
  obtain ⟨Ψ', h', rfl⟩ := h.un
  exact ⟨by decide, rfl, hb Ψ' h'⟩
abbrev i__law_purse : Nat := 11
abbrev i__law_mixed : Nat := 12
theorem u__law_mixed {Ψ : Nat → FnSem} {k n : Nat} {Q : D → Nat → Prop} {R : RK} {d0 d1 d2 : D} (h : Lv B Ψ (k + 1)) (hb : ∀ Ψ, Lv B Ψ k → wpS Ψ R b12.body [.pure d0, .pure d1, .pure d2, .dead] n { nx := fun _ n' => Q .non n', rt := fun _ d n' => Q d n' }) : Ψ 12 [d0, d1, d2] n Q R := by
  obtain ⟨Ψ', h', rfl⟩ := h.un
  exact ⟨by decide, rfl, hb Ψ' h'⟩
abbrev i__law_draw : Nat := 13
theorem u__law_draw {Ψ : Nat → FnSem} {k n : Nat} {Q : D → Nat → Prop} {R : RK} {d1 : D} (hf : [d1].all D.flat = true) (h : Lv B Ψ (k + 1)) (hb : ∀ Ψ, Lv B Ψ k → ∀ a c p t : Int, PurOk n a c p t → wpS Ψ noR b13.body [.own (.lst false [.int a, .int c, .int p, .int t]), .pure d1, .dead, .dead, .dead] n { nx := fun _ _ => False, rt := fun ρ' d n' => d.flat = true ∧ match ρ'.getD 0 .dead with | .own (.lst _ [.int a, .int c, .int k, .int t]) => ∃ m, n' ≤ m ∧ PurOk m a c k t ∧ Q d m | _ => False }) : Ψ 13 [.pur, d1] n Q R := by
  obtain ⟨Ψ', h', rfl⟩ := h.un
  exact ⟨by decide, rfl, hf, hb Ψ' h'⟩
abbrev i__law_purses : Nat := 14
abbrev i__law_one_of : Nat := 15
theorem u__law_one_of {Ψ : Nat → FnSem} {k n : Nat} {Q : D → Nat → Prop} {R : RK} {d0 d1 : D} (h : Lv B Ψ (k + 1)) (hb : ∀ Ψ, Lv B Ψ k → wpS Ψ R b15.body [.pure d0, .pure d1] n { nx := fun _ n' => Q .non n', rt := fun _ d n' => Q d n' }) : Ψ 15 [d0, d1] n Q R := by
  obtain ⟨Ψ', h', rfl⟩ := h.un
  exact ⟨by decide, rfl, hb Ψ' h'⟩
abbrev i__law_shuffled : Nat := 16
theorem u__law_shuffled {Ψ : Nat → FnSem} {k n : Nat} {Q : D → Nat → Prop} {R : RK} {d0 d1 : D} (h : Lv B Ψ (k + 1)) (hb : ∀ Ψ, Lv B Ψ k → wpS Ψ R b16.body [.pure d0, .pure d1, .dead, .dead] n { nx := fun _ n' => Q .non n', rt := fun _ d n' => Q d n' }) : Ψ 16 [d0, d1] n Q R := by
  obtain ⟨Ψ', h', rfl⟩ := h.un
  exact ⟨by decide, rfl, hb Ψ' h'⟩
abbrev i__law_exact : Nat := 17
theorem u__law_exact {Ψ : Nat → FnSem} {k n : Nat} {Q : D → Nat → Prop} {R : RK} {d0 d1 : D} (h : Lv B Ψ (k + 1)) (hb : ∀ Ψ, Lv B Ψ k → wpS Ψ R b17.body [.pure d0, .pure d1, .dead, .dead, .dead] n { nx := fun _ n' => Q .non n', rt := fun _ d n' => Q d n' }) : Ψ 17 [d0, d1] n Q R := by
  obtain ⟨Ψ', h', rfl⟩ := h.un
  exact ⟨by decide, rfl, hb Ψ' h'⟩
abbrev i__law_same : Nat := 18
theorem u__law_same {Ψ : Nat → FnSem} {k n : Nat} {Q : D → Nat → Prop} {R : RK} {d0 : D} (h : Lv B Ψ (k + 1)) (hb : ∀ Ψ, Lv B Ψ k → wpS Ψ R b18.body [.pure d0, .dead, .dead] n { nx := fun _ n' => Q .non n', rt := fun _ d n' => Q d n' }) : Ψ 18 [d0] n Q R := by
  obtain ⟨Ψ', h', rfl⟩ := h.un
  exact ⟨by decide, rfl, hb Ψ' h'⟩
abbrev i__law_edges : Nat := 19
theorem u__law_edges {Ψ : Nat → FnSem} {k n : Nat} {Q : D → Nat → Prop} {R : RK} {d0 d1 : D} (h : Lv B Ψ (k + 1)) (hb : ∀ Ψ, Lv B Ψ k → wpS Ψ R b19.body [.pure d0, .pure d1, .dead, .dead, .dead, .dead, .dead, .dead, .dead] n { nx := fun _ n' => Q .non n', rt := fun _ d n' => Q d n' }) : Ψ 19 [d0, d1] n Q R := by
  obtain ⟨Ψ', h', rfl⟩ := h.un
  exact ⟨by decide, rfl, hb Ψ' h'⟩
abbrev i__law_pairings : Nat := 20
theorem u__law_pairings {Ψ : Nat → FnSem} {k n : Nat} {Q : D → Nat → Prop} {R : RK} {d0 d1 : D} (h : Lv B Ψ (k + 1)) (hb : ∀ Ψ, Lv B Ψ k → wpS Ψ R b20.body [.pure d0, .pure d1, .dead, .dead, .dead, .dead, .dead, .dead] n { nx := fun _ n' => Q .non n', rt := fun _ d n' => Q d n' }) : Ψ 20 [d0, d1] n Q R := by
  obtain ⟨Ψ', h', rfl⟩ := h.un
  exact ⟨by decide, rfl, hb Ψ' h'⟩
abbrev i__law_are_counts : Nat := 21
theorem u__law_are_counts {Ψ : Nat → FnSem} {k n : Nat} {Q : D → Nat → Prop} {R : RK} {d0 d1 : D} (h : Lv B Ψ (k + 1)) (hb : ∀ Ψ, Lv B Ψ k → wpS Ψ R b21.body [.pure d0, .pure d1, .dead] n { nx := fun _ n' => Q .non n', rt := fun _ d n' => Q d n' }) : Ψ 21 [d0, d1] n Q R := by
  obtain ⟨Ψ', h', rfl⟩ := h.un
  exact ⟨by decide, rfl, hb Ψ' h'⟩
abbrev i__law_is_short : Nat := 22
theorem u__law_is_short {Ψ : Nat → FnSem} {k n : Nat} {Q : D → Nat → Prop} {R : RK} {d0 d1 d2 : D} (h : Lv B Ψ (k + 1)) (hb : ∀ Ψ, Lv B Ψ k → wpS Ψ R b22.body [.pure d0, .pure d1, .pure d2, .dead, .dead, .dead] n { nx := fun _ n' => Q .non n', rt := fun _ d n' => Q d n' }) : Ψ 22 [d0, d1, d2] n Q R := by
  obtain ⟨Ψ', h', rfl⟩ := h.un
  exact ⟨by decide, rfl, hb Ψ' h'⟩
abbrev i__law_sets : Nat := 23
theorem u__law_sets {Ψ : Nat → FnSem} {k n : Nat} {Q : D → Nat → Prop} {R : RK} {d0 : D} (h : Lv B Ψ (k + 1)) (hb : ∀ Ψ, Lv B Ψ k → wpS Ψ R b23.body [.pure d0, .dead, .dead, .dead] n { nx := fun _ n' => Q .non n', rt := fun _ d n' => Q d n' }) : Ψ 23 [d0] n Q R := by
  obtain ⟨Ψ', h', rfl⟩ := h.un
  exact ⟨by decide, rfl, hb Ψ' h'⟩
abbrev i__law_just_one : Nat := 24
theorem u__law_just_one {Ψ : Nat → FnSem} {k n : Nat} {Q : D → Nat → Prop} {R : RK} {d0 d1 : D} (h : Lv B Ψ (k + 1)) (hb : ∀ Ψ, Lv B Ψ k → wpS Ψ R b24.body [.pure d0, .pure d1, .dead, .dead, .dead, .dead, .dead, .dead, .dead, .dead] n { nx := fun _ n' => Q .non n', rt := fun _ d n' => Q d n' }) : Ψ 24 [d0, d1] n Q R := by
  obtain ⟨Ψ', h', rfl⟩ := h.un
  exact ⟨by decide, rfl, hb Ψ' h'⟩
abbrev i__law_judged : Nat := 25
theorem u__law_judged {Ψ : Nat → FnSem} {k n : Nat} {Q : D → Nat → Prop} {R : RK} {d0 d1 d2 : D} (h : Lv B Ψ (k + 1)) (hb : ∀ Ψ, Lv B Ψ k → wpS Ψ R b25.body [.pure d0, .pure d1, .pure d2, .dead, .dead, .dead, .dead, .dead, .dead, .dead, .dead, .dead] n { nx := fun _ n' => Q .non n', rt := fun _ d n' => Q d n' }) : Ψ 25 [d0, d1, d2] n Q R := by
  obtain ⟨Ψ', h', rfl⟩ := h.un
  exact ⟨by decide, rfl, hb Ψ' h'⟩
abbrev i_law : Nat := 26
end K70
namespace K70
open PySem PySem.Spec L2 Vm
local macro_rules | `(tactic| walk_at "w") => `(tactic| conv => whnf)
section
variable {Ψ : Nat → FnSem} {n : Nat} {Q : D → Nat → Prop} {R : RK}
theorem s_is_whole {i : Int} (h : Lv B Ψ 1) (q : Q (.bl true) n) : Ψ i_is_whole [.int i] n Q R := by
  refine u_is_whole h fun Ψ h => ?_
  walk_at "w"
  exact q
theorem s_is_count {i : Int} (h : Lv B Ψ 2) (q : Q (.bl (decide (0 ≤ i))) n) : Ψ i_is_count [.int i] n Q R := by
  refine u_is_count h fun Ψ h => ?_
  walk_at "w"
  refine s_is_whole h (nb ?_)
  walk_at "w"
  exact q
theorem s_check_count {i j : Int} (h : Lv B Ψ 3) (hi : 0 ≤ i) (hj : j ≤ i) (q : Q .non n) : Ψ i_check_count [.int i, .int j] n Q R := by
  refine u_check_count h fun Ψ h => ?_
  walk_at "w"
  refine s_is_count h (nb ?_)
  rw [decide_eq_true hi]
  walk_at "w"
  rw [decide_eq_false (by omega)]
  walk_at "w"
  exact q
theorem s_check_count1 {i : Int} (h : Lv B Ψ 3) (hi : 0 ≤ i) (q : Q .non n) : Ψ i_check_count [.int i] n Q R := by
  refine u_check_count_1 h fun Ψ h => ?_
  walk_at "w"
  refine s_is_count h (nb ?_)
  rw [decide_eq_true hi]
  walk_at "w"
  rw [decide_eq_false (by omega)]
  walk_at "w"
  exact q
theorem s_is_edge {size : Int} {a b : Int} (h : Lv B Ψ 3) (h1 : 0 ≤ a ∧ a < size ∧ 0 ≤ b ∧ b < size) (q : Q (.bl true) n) : Ψ i_is_edge [.int size, .tup [.int a, .int b]] n Q R := by
  refine u_is_edge h fun Ψ h => ?_
  walk_at "w"
  refine ⟨⟨rfl, rfl⟩, ?_⟩
  walk_at "w"
  refine s_is_count h (nb ?_)
  rw [decide_eq_true h1.1]
  walk_at "w"
  refine ⟨sl_lt (by simp), ?_⟩
  walk_at "w"
  refine s_is_count h (nb ?_)
  rw [decide_eq_true h1.2.2.1]
  walk_at "w"
  refine ⟨sl_lt (by simp), ?_⟩
  walk_at "w"
  simpa [h1.2.1, h1.2.2.2] using q
theorem s_check_edges {size : Nat} {es : List (Int × Int)} {t : Bool} (h : Lv B Ψ 4) (ok : EdOk size es) (q : Q .non n) : Ψ i_check_edges [.int size, .lst t (es.map eD)] n Q R := by
  have hf := ok.few
  refine u_check_edges h fun Ψ h => ?_
  walk_at "w"
  refine s_check_count1 h.le (by omega) (nb ?_)
  walk_at "w"
  refine compW_map (r := fun a d => d = eD a) (r' := fun b d => d = D.bl b) (fun _ => true) (a2_map eD es) (sl_le (by omega)) (fun e d n K m hr k => ?_) fun ds hds => ?_
  · subst hr
    walk_at "w"
    refine s_is_edge h.le (ok.bd e m) (nb ?_)
    walk_at "w"
    exact k _ rfl
  walk_at "w"
  rw [bools_a2 hds]
  walk_at "w"
  rw [all_true]
  walk_at "w"
  refine ⟨⟨by omega, by omega, by omega, by simp; omega⟩, ?_⟩
  refine compW_map (r := fun (a : Nat) d => d = D.int (1 + (a : Int))) (r' := fun b d => d = D.bl b) (fun _ => false) (a2_map _ _) (sl_le (by simp; omega)) (fun i d n K m hr k => ?_) fun ds hds => ?_
  · subst hr
    rw [List.length_map, List.mem_range] at m
    have h1 : i < es.length := by omega
    have h2 : i + 1 < es.length := by omega
    walk_at "w"
    rw [atI_map (i := i) (by omega) (List.getElem?_eq_getElem h1)]
    walk_at "w"
    rw [atI_map (i := i + 1) (by omega) (List.getElem?_eq_getElem h2)]
    walk_at "w"
    refine ⟨rfl, ?_⟩
    refine k _ ?_
    have : eLt es[i] es[i + 1] := List.pairwise_iff_getElem.mp ok.asc i (i + 1) h1 h2 (by omega)
    show D.bl (!HT.lexLt _ _) = _
    rw [show HT.lexLt [es[i].1, es[i].2] [es[i + 1].1, es[i + 1].2] = true from this]; rfl
  walk_at "w"
  rw [bools_a2 hds]
  walk_at "w"
  rw [any_false]
  walk_at "w"
  exact q
end
end K70
namespace K70
open PySem PySem.Spec L2 Vm Pm
local macro_rules | `(tactic| walk_at "w") => `(tactic| conv => whnf)
section
variable {Ψ : Nat → FnSem} {n : Nat} {Q : D → Nat → Prop} {R : RK}
end
end K70
namespace K70
open PySem PySem.Spec L2 Vm Pm
local macro_rules | `(tactic| walk_at "w") => `(tactic| conv => whnf)
section
variable {Ψ : Nat → FnSem} {n : Nat} {Q : D → Nat → Prop} {R : RK}
/-- a pairing and what it takes -/
def r2 (es : E) (p : List Nat) (d : D) : Prop := ∃ t', d = .tup [.lst true (p.map nD), .lst t' ((takenOf es p).map D.int)]
theorem r2_ok {es : E} {p : List Nat} {d : D} (h : r2 es p d) : d.ok 59 = true := by
  obtain ⟨t', rfl⟩ := h
  show (D.oks _ 57 && (D.oks _ 57 && true)) = true
  rw [oks_nats, oks_ints]; rfl
end
end K70
namespace K70
open PySem PySem.Spec L2 Vm Pm
local macro_rules | `(tactic| walk_at "w") => `(tactic| conv => whnf)
local macro_rules | `(tactic| walk_at "ww") => `(tactic| ((conv => whnf); repeat ((refine And.intro ?_ ?_); (next => first | exact rfl | exact ⟨rfl, rfl⟩ | (refine sl_le ?_; simp; done) | (refine sl_lt ?_; simp; done)); conv => whnf)))
section
variable {Ψ : Nat → FnSem} {n : Nat} {Q : D → Nat → Prop} {R : RK}
theorem prs_ok {es : E} {m k : Nat} (hm : m ≤ 5) (hk : es.length = k) : ∀ p ∈ prs es m, p.length ≤ 100 ∧ ∀ a ∈ p, a < k := fun p hp => by
  have := mem_prs.mp hp
  refine ⟨by have := this.len; omega, fun a ha => ?_⟩
  rw [← hk]
  exact (this.mem ha).1
theorem box_le {top m : Nat} (h : top ^ m ≤ 1000000) : ∀ {k : Nat}, k ≤ m → (box top k).length ≤ 1000000 := fun {k} hk => by
  rw [length_box]
  rcases Nat.eq_zero_or_pos top with z | z
  · subst z
    rcases Nat.eq_zero_or_pos k with y | y
    · subst y; simp
    · rw [Nat.zero_pow y]; omega
  · exact Nat.le_trans (Nat.pow_le_pow_right z hk) h
end
end K70
namespace K70
open PySem PySem.Spec L2 Vm Pm
local macro_rules | `(tactic| walk_at "w") => `(tactic| conv => whnf)
local macro_rules | `(tactic| walk_at "ww") => `(tactic| ((conv => whnf); repeat ((refine And.intro ?_ ?_); (next => first | exact rfl | exact ⟨rfl, rfl⟩ | (refine sl_le ?_; simp; done) | (refine sl_lt ?_; simp; done)); conv => whnf)))
section
variable {Ψ : Nat → FnSem} {n : Nat} {Q : D → Nat → Prop} {R : RK}
theorem at_edge {es : E} {a : Nat} (h : a < es.length) : atI (es.map eD) (a : Int) = some (.tup [.int (lf es a), .int (rt es a)]) := by
  rw [atI_map (i := a) rfl (List.getElem?_eq_getElem h)]
  unfold eD lf rt
  rw [List.getD_eq_getElem?_getD, List.getElem?_eq_getElem h]; rfl
theorem s_law_pairings {size : Nat} {es : E} {t : Bool} (h : Lv B Ψ 1) (ok : EdOk size es) (q : ∀ ds, A2 Yo (prs es size) ds → Q (.lst true ds) n) : Ψ i__law_pairings [.int size, .lst t (es.map eD)] n Q R := by
  have hf := ok.few
  have hs := ok.sz
  refine u__law_pairings h fun Ψ h => ?_
  walk_at "ww"
  refine ⟨⟨by omega, by omega⟩, ?_⟩
  refine forW_a2 (as := List.range size) (r := fun (a : Nat) d => d = nD a) (fun pre ρ n' => n' = n ∧ ∃ ds x3 x4 x5 x6 x7, ρ = [.pure (.int size), .pure (.lst t (es.map eD)), .pure (.lst true ds), x3, x4, x5, x6, x7] ∧ A2 Yo (prs es pre.length) ds) (by rw [Int.toNat_natCast]; exact a2_map nD _) ⟨rfl, _, _, _, _, _, _, rfl, .cons ⟨rfl, rfl⟩ .nil⟩ ?_ ?_
  · rintro pre a post d ρ n' next e rfl ⟨rfl, ds, x3, x4, x5, x6, x7, rfl, hds⟩ nx
    obtain ⟨rfl, ha⟩ := range_split e
    have hlp := len_prs5 hf (n := pre.length) (by omega)
    walk_at "ww"
    refine forW_a2 (r := Yo) (fun pre2 ρ n2 => n2 = n' ∧ ∃ acc x5 x6 x7, ρ = [.pure (.int size), .pure (.lst t (es.map eD)), .pure (.lst true ds), .pure (nD pre.length), .pure (.lst true acc), x5, x6, x7] ∧ A2 Yo (pre2.flatMap (ext es (pre.length : Nat))) acc) hds ⟨rfl, _, _, _, _, rfl, .nil⟩ ?_ ?_
    · rintro pre2 p post2 d ρ n2 next2 e2 ⟨hr, hr'⟩ ⟨rfl, acc, x5, x6, x7, rfl, hacc⟩ nx2
      obtain ⟨t', rfl⟩ := is_nats.mp hr
      have hp : p ∈ prs es pre.length := by rw [e2]; simp
      have hP := mem_prs.mp hp
      have hpl := hP.len
      have l2 : pre2.length ≤ 248832 := by
        have := congrArg List.length e2
        rw [List.length_append] at this; omega
      have l3 := len_flatMap_le (f := ext es (pre.length : Nat)) (c := 12) (fun p => Nat.le_trans (len_ext ..) hf) pre2
      have l4 := hacc.length
      walk_at "ww"
      refine compW_map (r := fun a d => d = nD a) (r' := fun b d => d = D.int b) (rt es) (a2_map nD p) (sl_le (by omega)) (fun a d n K m hr k => ?_) fun ts hts => ?_
      · subst hr
        walk_at "w"
        rw [at_edge (hP.mem m).1]
        walk_at "w"
        exact k _ rfl
      have := hts.eq_map (f := D.int) fun _ _ e => e
      subst this
      walk_at "w"
      refine ⟨by simp; omega, ?_⟩
      let c : Nat → Bool := fun b => decide (lf es b = (pre.length : Nat)) && !(takenOf es p).contains (rt es b)
      refine compW_filter (as := List.range es.length) (r := fun (a : Nat) d => d = nD a) (r' := Yo) c (fun b => p ++ [b]) (by rw [List.length_map, Int.toNat_natCast]; exact a2_map nD _) (sl_le (by simp; omega)) (fun b d n K m hr k0 k1 => ?_) fun ds' hds' => ?_
      · subst hr
        have hb : b < es.length := List.mem_range.mp m
        walk_at "w"
        rw [at_edge hb]
        walk_at "ww"
        by_cases h1 : lf es b = (pre.length : Nat)
        · rw [show D.eqv (D.int (lf es b)) (nD pre.length) = true by simp [D.eqv, h1]]
          walk_at "w"
          rw [at_edge hb]
          walk_at "w"
          refine ⟨by show (true && D.oks _ 60) = true; rw [oks_ints]; rfl, ?_⟩
          rw [Vm.any_ints]
          by_cases h2 : rt es b ∈ takenOf es p
          · rw [decide_eq_true (show rt es b ∈ p.map (rt es) from h2)]
            walk_at "w"
            refine k0 ?_
            simp [c, h2]
          · rw [decide_eq_false (show ¬ rt es b ∈ p.map (rt es) from h2)]
            walk_at "ww"
            refine ⟨sl_le (by simp; omega), ?_⟩
            refine k1 _ (by simp [c, h1, h2]) ?_
            rw [← List.map_singleton, ← List.map_append]
            exact yo_nats
        · rw [show D.eqv (D.int (lf es b)) (nD pre.length) = false by simp [D.eqv, h1]]
          walk_at "w"
          refine k0 ?_
          simp [c, h1]
      have hds' : A2 Yo (ext es (pre.length : Nat) p) ds' := hds'
      have l5 := hds'.length
      have l6 := len_ext es (pre.length : Nat) p
      walk_at "w"
      refine ⟨by have := slE; omega, ?_⟩
      refine nx2 _ _ ⟨rfl, _, _, _, _, rfl, ?_⟩
      rw [List.flatMap_append, List.flatMap_singleton]
      exact hacc.append hds'
    · rintro ρ n2 ⟨rfl, acc, x5, x6, x7, rfl, hacc⟩
      walk_at "w"
      refine nx _ _ ⟨rfl, _, _, _, _, _, _, rfl, ?_⟩
      rw [List.length_append, List.length_singleton]
      exact hacc
  · rintro ρ n' ⟨rfl, ds, x3, x4, x5, x6, x7, rfl, hds⟩
    rw [List.length_range] at hds
    walk_at "w"
    exact q _ hds
end
end K70
namespace K70
open PySem PySem.Spec L2 Vm Pm
local macro_rules | `(tactic| walk_at "w") => `(tactic| conv => whnf)
local macro_rules | `(tactic| walk_at "ww") => `(tactic| ((conv => whnf); repeat ((refine And.intro ?_ ?_); (next => first | exact rfl | exact ⟨rfl, rfl⟩ | (refine sl_le ?_; simp; done) | (refine sl_lt ?_; simp; done)); conv => whnf)))
section
variable {Ψ : Nat → FnSem} {n : Nat} {Q : D → Nat → Prop} {R : RK}
end
end K70
namespace K70
open PySem PySem.Spec L2 Vm Pm
local macro_rules | `(tactic| walk_at "w") => `(tactic| conv => whnf)
local macro_rules | `(tactic| walk_at "ww") => `(tactic| ((conv => whnf); repeat ((refine And.intro ?_ ?_); (next => first | exact rfl | exact ⟨rfl, rfl⟩ | (refine sl_le ?_; simp; done) | (refine sl_lt ?_; simp; done)); conv => whnf)))
section
variable {Ψ : Nat → FnSem} {n : Nat} {Q : D → Nat → Prop} {R : RK}
theorem s_mixed {seed spin at_ : Int} (h : Lv B Ψ 1) (h1 : 0 ≤ spin ∧ spin < 2 ^ 60) (q : ∀ i : Int, 0 ≤ i → Q (.int i) n) : Ψ i__law_mixed [.int seed, .int spin, .int at_] n Q R := by
  refine u__law_mixed h fun Ψ h => ?_
  walk_at "w"
  refine ⟨.inr (.inl ⟨by omega, by omega⟩), ?_⟩
  walk_at "w"
  refine ⟨.inl ⟨by omega, by omega⟩, ?_⟩
  walk_at "w"
  refine ⟨.inr (.inl ⟨by omega, by omega⟩), ?_⟩
  walk_at "w"
  refine ⟨.inl ⟨by omega, by omega⟩, ?_⟩
  walk_at "w"
  refine ⟨by omega, ?_⟩
  generalize hm : (seed * 69069 + 104729 * spin * spin + 7919 * at_ + spin) % 2147483647 = m
  have hm0 : 0 ≤ m ∧ m < 2147483647 := by rw [← hm]; omega
  walk_at "w"
  refine ⟨.inl ⟨by omega, by omega⟩, ?_⟩
  walk_at "w"
  refine ⟨by omega, ?_⟩
  walk_at "w"
  refine ⟨.inr (.inl ⟨by omega, by omega⟩), ?_⟩
  walk_at "w"
  refine ⟨by omega, ?_⟩
  exact q _ (Int.emod_nonneg _ (by omega))
theorem bits_le {i : Int} {k : Nat} (h0 : 0 ≤ i) (h : i < 2 ^ k) : Builtin.Int.intBits i ≤ k := by
  unfold Builtin.Int.intBits
  split
  · omega
  · rename_i hz
    have hz : i ≠ 0 := by simpa using hz
    have h2 : i.natAbs < 2 ^ k := by
      have : (i.natAbs : Int) = i := by omega
      have h3 : ((2 ^ k : Nat) : Int) = 2 ^ k := by rw [Int.natCast_pow]; rfl
      omega
    exact (Nat.log2_lt (by omega)).mpr h2
theorem log_lt {i : Int} {k : Nat} (h0 : 0 < i) (h : i < 2 ^ k) (hk : k ≤ 9000) : i.natAbs.log2 < 9000 := by
  have h2 : i.natAbs < 2 ^ k := by
    have : (i.natAbs : Int) = i := by omega
    have h3 : ((2 ^ k : Nat) : Int) = 2 ^ k := by rw [Int.natCast_pow]; rfl
    omega
  have := (Nat.log2_lt (by omega)).mpr h2
  omega
theorem s_draw {many : Int} (h : Lv B Ψ 2) (hm : 0 < many) (hb : many < 2 ^ 252) (hn : n ≤ 10 ^ 9) (q : ∀ (i : Int) (n' : Nat), 0 ≤ i → i < many → n' ≤ n + 10 → Q (.int i) n') : Ψ i__law_draw [.pur, .int many] n Q R := by
  refine u__law_draw rfl h fun Ψ h a c p t ok => ?_
  have ok' := ok
  obtain ⟨h1, h2, h3, h4, h5, h6, h7, h8⟩ := ok
  walk_at "w"
  by_cases ha : 0 < a
  · rw [decide_eq_true ha]
    walk_at "w"
    refine ⟨hm, ?_⟩
    walk_at "w"
    refine ⟨⟨hm, log_lt hm hb (by omega)⟩, ?_⟩
    walk_at "w"
    refine ⟨rfl, n, Nat.le_refl _, ⟨Int.ediv_nonneg h1 (by omega), ?_, h3, h4, h5, h6, h7, h8⟩, ?_⟩
    · exact Int.lt_of_le_of_lt (Int.ediv_le_self _ h1) h2
    · exact q _ _ (Int.emod_nonneg _ (by omega)) (Int.emod_lt_of_pos _ hm) (by omega)
  · rw [decide_eq_false ha]
    have hbits := bits_le (by omega) hb
    walk_at "w"
    refine ⟨⟨by omega, log_lt (k := 5) (by omega) (by omega) (by omega)⟩, ?_⟩
    walk_at "w"
    refine ⟨⟨by omega, by omega⟩, ?_⟩
    generalize hP : (1 + (Builtin.Int.intBits many : Int) / 28).toNat = P
    have hP10 : P ≤ 10 := by omega
    refine forW_a2 (as := List.range P) (r := fun (a : Nat) d => d = nD a) (fun pre ρ n' => n' = n ∧ ∃ (x2 : Sl) (y k : Int) (x4 : Sl), ρ = [.own (.lst false [.int a, .int c, .int k, .int t]), .pure (.int many), x2, .pure (.int y), x4] ∧ k = p + pre.length ∧ 0 ≤ y) (a2_map nD _) ⟨rfl, _, _, _, _, rfl, by simp, by omega⟩ ?_ ?_
    · rintro pre b post d ρ n' next e rfl ⟨rfl, x2, y, k, x4, rfl, rfl, hy⟩ nx
      obtain ⟨rfl, hb'⟩ := range_split e
      walk_at "w"
      refine ⟨.inr (.inl ⟨by omega, by omega⟩), ?_⟩
      walk_at "w"
      refine s_mixed h.le ⟨by omega, by omega⟩ fun i hi => (nb ?_)
      refine nx _ _ ⟨rfl, _, _, _, _, rfl, by simp; omega, ?_⟩
      have := Int.mul_nonneg hy (show (0 : Int) ≤ 2147483587 by omega)
      omega
    · rintro ρ n' ⟨rfl, x2, y, k, x4, rfl, rfl, hy⟩
      rw [List.length_range]
      walk_at "w"
      refine ⟨hm, ?_⟩
      walk_at "w"
      refine ⟨rfl, n' + P, by omega, ⟨h1, h2, h3, h4, by omega, by omega, h7, h8⟩, ?_⟩
      exact q _ _ (Int.emod_nonneg _ (by omega)) (Int.emod_lt_of_pos _ hm) (by omega)
end
end K70
namespace K70
open PySem PySem.Spec L2 Vm Pm
local macro_rules | `(tactic| walk_at "w") => `(tactic| conv => whnf)
local macro_rules | `(tactic| walk_at "ww") => `(tactic| ((conv => whnf); repeat ((refine And.intro ?_ ?_); (next => first | exact rfl | exact ⟨rfl, rfl⟩ | (refine sl_le ?_; simp; done) | (refine sl_lt ?_; simp; done)); conv => whnf)))
section
variable {Ψ : Nat → FnSem} {n : Nat} {Q : D → Nat → Prop} {R : RK}
theorem s_one_of {xs : List D} {t : Bool} (h : Lv B Ψ 3) (h0 : xs ≠ []) (hl : xs.length ≤ 16777216) (hn : n ≤ 10 ^ 9) (q : ∀ d n', d ∈ xs → n' ≤ n + 10 → Q d n') : Ψ i__law_one_of [.pur, .lst t xs] n Q R := by
  have : 0 < xs.length := List.length_pos_iff.mpr h0
  refine u__law_one_of h fun Ψ h => ?_
  walk_at "w"
  refine s_draw h.le (by omega) (by omega) hn fun i n' h1 h2 hn' => (nb ?_)
  have hi : i.toNat < xs.length := by omega
  walk_at "w"
  rw [atI_of (i := i.toNat) (by omega) (List.getElem?_eq_getElem hi)]
  walk_at "w"
  exact q _ _ (List.getElem_mem hi) hn'
theorem s_shuffled {xs : List D} {t : Bool} (h : Lv B Ψ 3) (hl : xs.length ≤ 1000000) (hn : n + 10 * xs.length ≤ 10 ^ 9) (q : ∀ ys n', List.Perm ys xs → n' ≤ n + 10 * xs.length → Q (.lst true ys) n') : Ψ i__law_shuffled [.pur, .lst t xs] n Q R := by
  refine u__law_shuffled h fun Ψ h => ?_
  walk_at "ww"
  refine forW_a2 (r := fun a b => a = b) (fun pre ρ n' => n' ≤ n + 10 * pre.length ∧ ∃ (acc : List D) (x3 : Sl), ρ = [.pure .pur, .pure (.lst t xs), .own (.lst true acc), x3] ∧ acc.Perm pre) (a2_eq xs) ⟨by omega, _, _, rfl, .refl _⟩ ?_ ?_
  · rintro pre a post d ρ n1 next e rfl ⟨hn1, acc, x3, rfl, hp⟩ nx
    have hl2 := congrArg List.length e
    rw [List.length_append, List.length_cons] at hl2
    have hl3 := hp.length_eq
    walk_at "w"
    refine ⟨rfl, ?_⟩
    walk_at "w"
    refine s_draw h.le (by omega) (by omega) (by omega) fun i n' h1 h2 hn' => (nb ?_)
    walk_at "w"
    refine ⟨⟨h1, by omega, by have := slE; omega⟩, ?_⟩
    refine nx _ _ ⟨by rw [List.length_append, List.length_singleton]; omega, _, _, rfl, ?_⟩
    exact (ins_perm _ _ _).trans (hp.append_right _)
  · rintro ρ n1 ⟨hn1, acc, x3, rfl, hp⟩
    walk_at "w"
    exact q _ _ hp hn1
theorem s_edges {size : Nat} (h : Lv B Ψ 4) (hs : size ≤ 5) (hn : n ≤ 10 ^ 8) (q : ∀ es n', EdOk size es → n' ≤ n + 400 → Q (.lst true (es.map eD)) n') : Ψ i__law_edges [.pur, .int size] n Q R := by
  refine u__law_edges h fun Ψ h => ?_
  walk_at "ww"
  refine ⟨⟨by omega, by omega⟩, ?_⟩
  refine forW_a2 (as := List.range size) (r := fun (a : Nat) d => d = nD a) (fun pre ρ n' => n' = n ∧ ∃ (acc : List D) (x3 x4 x5 x6 x7 x8 : Sl), ρ = [.pure .pur, .pure (.int size), .pure (.lst true acc), x3, x4, x5, x6, x7, x8] ∧ acc = (allE size pre.length).map eD) (by rw [Int.toNat_natCast]; exact a2_map nD _) ⟨rfl, _, _, _, _, _, _, _, rfl, rfl⟩ ?_ ?_
  · rintro pre a post d ρ n' next e rfl ⟨rfl, acc, x3, x4, x5, x6, x7, x8, rfl, rfl⟩ nx
    obtain ⟨rfl, ha⟩ := range_split e
    walk_at "w"
    refine ⟨⟨by omega, by omega⟩, ?_⟩
    refine compW_map (as := List.range size) (r := fun (a : Nat) d => d = nD a) (r' := fun b d => d = eD b) (fun (r : Nat) => ((pre.length : Int), (r : Int))) (by rw [Int.toNat_natCast]; exact a2_map nD _) (sl_le (by simp; omega)) (fun a d n K m hr k => ?_) fun ds hds => ?_
    · subst hr
      walk_at "ww"
      exact k _ rfl
    have := hds.eq_map (f := eD) fun _ _ e => e
    subst this
    walk_at "w"
    refine ⟨sl_le (by
      simp only [List.length_map, List.length_range, len_allE]
      have := Nat.mul_le_mul (show pre.length ≤ 5 by omega) hs
      omega), ?_⟩
    refine nx _ _ ⟨rfl, _, _, _, _, _, _, _, rfl, ?_⟩
    rw [List.length_append, List.length_singleton, allE, List.map_append]
  · rintro ρ n' ⟨rfl, acc, x3, x4, x5, x6, x7, x8, rfl, rfl⟩
    rw [List.length_range]
    have hla := len_allE size size
    have h25 : (allE size size).length ≤ 25 := by rw [hla]; exact Nat.mul_le_mul hs hs
    walk_at "w"
    refine s_shuffled h.le (by simp; omega) (by simp; omega) fun ys n1 hp hn1 => (nb ?_)
    rw [List.length_map] at hn1
    obtain ⟨es0, hp0, rfl⟩ := perm_map_inv hp rfl
    have hp1 := hp0.length_eq
    walk_at "w"
    refine s_draw (many := (if ((((allE size size).map eD).length : Nat) : Int) < 12 then ((((allE size size).map eD).length : Nat) : Int) else 12) + 1) h.le (by split <;> omega) (by split <;> omega) (by omega) fun k n2 hk1 hk2 hn2 => (nb ?_)
    have hk12 : k ≤ 12 := by split at hk2 <;> omega
    walk_at "w"
    rw [cut_pre hk1]
    rw [← List.map_take]
    walk_at "w"
    refine ⟨⟨by omega, by omega⟩, ?_⟩
    rw [Int.toNat_natCast]
    refine s_shuffled h.le (by simp; omega) (by simp; omega) fun ms n3 hp2 hn3 => (nb ?_)
    obtain ⟨mx, hp3, rfl⟩ := perm_map_inv (f := nD) hp2 rfl
    have hmx := hp3.length_eq
    rw [List.length_range] at hmx
    simp only [List.length_map, List.length_range] at hn3
    walk_at "ww"
    refine s_draw h.le (by omega) (by omega) (by omega) fun g n4 hg1 hg2 hn4 => (nb ?_)
    walk_at "w"
    have hnd0 : es0.Nodup := hp0.nodup_iff.mpr (nodup_allE size size)
    have hbd0 : ∀ e ∈ es0, 0 ≤ e.1 ∧ e.1 < size ∧ 0 ≤ e.2 ∧ e.2 < size := fun e m => mem_allE (hp0.mem_iff.mp m)
    generalize hE1 : es0.take k.toNat = es1
    have hl1 : es1.length ≤ 12 := by rw [← hE1, List.length_take]; omega
    have hnd1 : es1.Nodup := by rw [← hE1]; exact hnd0.sublist (List.take_sublist ..)
    have hbd1 : ∀ e ∈ es1, 0 ≤ e.1 ∧ e.1 < size ∧ 0 ≤ e.2 ∧ e.2 < size := fun e m => hbd0 e (by rw [← hE1] at m; exact List.mem_of_mem_take m)
    by_cases hg : 0 < g
    · rw [decide_eq_true hg]
      walk_at "w"
      refine ⟨⟨by omega, by omega⟩, ?_⟩
      refine compW_map (as := List.range size) (r := fun (a : Nat) d => d = nD a) (r' := fun b d => d = eD b) (fun (l : Nat) => ((l : Int), ((mx.getD l 0 : Nat) : Int))) (by rw [Int.toNat_natCast]; exact a2_map nD _) (sl_le (by simp; omega)) (fun a d n K m hr k => ?_) fun ds hds => ?_
      · subst hr
        have ha : a < mx.length := by rw [hmx]; exact List.mem_range.mp m
        walk_at "w"
        rw [atI_map (i := a) rfl (List.getElem?_eq_getElem ha)]
        walk_at "ww"
        refine k _ ?_
        unfold eD
        rw [List.getD_eq_getElem?_getD, List.getElem?_eq_getElem ha]; rfl
      have := hds.eq_map (f := eD) fun _ _ e => e
      subst this
      generalize hS : (List.range size).map (fun (l : Nat) => ((l : Int), ((mx.getD l 0 : Nat) : Int))) = some_
      have hSl : some_.length = size := by rw [← hS]; simp
      have hSb : ∀ e ∈ some_, 0 ≤ e.1 ∧ e.1 < size ∧ 0 ≤ e.2 ∧ e.2 < size := fun e m => by
        rw [← hS] at m
        obtain ⟨l, hl, rfl⟩ := List.mem_map.mp m
        have hl := List.mem_range.mp hl
        have : mx.getD l 0 ∈ List.range size := by
          rw [← hp3.mem_iff, List.getD_eq_getElem?_getD, List.getElem?_eq_getElem (by omega)]
          exact List.getElem_mem _
        have := List.mem_range.mp this
        exact ⟨by simp, by simp; omega, by simp, by simp only []; omega⟩
      have hSn : some_.Nodup := by
        rw [← hS, List.nodup_iff_pairwise_ne, List.pairwise_map]
        refine List.Pairwise.imp ?_ (List.nodup_iff_pairwise_ne.mp List.nodup_range)
        intro a b ne z
        have := congrArg Prod.fst z
        simp at this; exact ne (by omega)
      walk_at "w"
      refine compW_filter (as := es1) (r := fun a d => d = eD a) (r' := fun b d => d = eD b) (fun e => !decide (e ∈ some_)) id (a2_map eD _) (sl_le (by omega)) (fun a d n K m hr k0 k1 => ?_) fun ds hds => ?_
      · subst hr
        walk_at "w"
        refine ⟨by show (true && D.oks _ 60) = true; rw [oks_edges]; rfl, ?_⟩
        rw [any_edges]
        by_cases hm : a ∈ some_
        · rw [decide_eq_true hm]
          walk_at "w"
          exact k0 (by simp [hm])
        · rw [decide_eq_false hm]
          walk_at "w"
          exact k1 _ (by simp [hm]) rfl
      have := hds.eq_map (f := eD) fun _ _ e => e
      subst this
      rw [List.map_id]
      walk_at "w"
      rw [cut_pre (by omega), ← List.map_take]
      generalize hC : (es1.filter fun e => !decide (e ∈ some_)).take ((12 : Int) - size).toNat = es2
      have hl2 : es2.length ≤ 12 - size := by rw [← hC, List.length_take]; omega
      have hm2 : ∀ e ∈ es2, e ∈ es1 ∧ e ∉ some_ := fun e m => by
        rw [← hC] at m
        have := List.mem_filter.mp (List.mem_of_mem_take m)
        exact ⟨this.1, by simpa using this.2⟩
      have hn2 : es2.Nodup := by rw [← hC]; exact (hnd1.sublist List.filter_sublist).sublist (List.take_sublist ..)
      walk_at "w"
      refine ⟨sl_le (by simp; omega), ?_⟩
      rw [← List.map_append]
      walk_at "w"
      rw [pairs_edges]
      refine fun qs hq1 hq2 => q qs _ (sorted_ok hs (es := some_ ++ es2) ?_ ?_ ?_ hq1 hq2) (by omega)
      · intro e m
        rcases List.mem_append.mp m with m | m
        · exact hSb e m
        · exact hbd1 e (hm2 e m).1
      · rw [List.nodup_append]
        refine ⟨hSn, hn2, ?_⟩
        rintro a ha b hb rfl
        exact (hm2 a hb).2 ha
      · rw [List.length_append]; omega
    · rw [decide_eq_false hg]
      walk_at "w"
      rw [pairs_edges]
      exact fun qs hq1 hq2 => q qs _ (sorted_ok hs hbd1 hnd1 hl1 hq1 hq2) (by omega)
end
end K70
namespace K70
open PySem PySem.Spec L2 Vm Pm
local macro_rules | `(tactic| walk_at "w") => `(tactic| conv => whnf)
local macro_rules | `(tactic| walk_at "wl") => `(tactic| ((conv => whnf); repeat ((refine And.intro ?_ ?_); (next => first | exact rfl | exact ⟨rfl, rfl⟩ | (constructor <;> assumption)); conv => whnf)))
section
variable {Ψ : Nat → FnSem} {n : Nat} {Q : D → Nat → Prop} {R : RK}
/-- what is told of two things' sameness -/
def Tells (a b : D) (d : D) : Prop := ∃ v : Bool, d = .bl v ∧ (v = true ↔ a.stale = b.stale)
theorem tells_all : ∀ {ps : List (D × D)} {ds : List D}, A2 (fun (p : D × D) d => Tells p.1 p.2 d) ps ds → ∃ vs : List Bool, D.bools ds = some vs ∧ (vs.all id = true ↔ ∀ p ∈ ps, p.1.stale = p.2.stale)
  | [], _, .nil => ⟨[], rfl, by simp⟩
  | p :: ps, d :: ds, .cons ⟨v, e, h⟩ t => by
    obtain ⟨vs, e2, h2⟩ := tells_all t
    subst e
    refine ⟨v :: vs, by rw [D.bools, e2]; rfl, ?_⟩
    rw [List.all_cons, Bool.and_eq_true, h2]
    simp only [id, List.mem_cons, forall_eq_or_imp]
    rw [h]
theorem zip_pairs : ∀ {xs ys : List D}, A2 (fun (p : D × D) d => d = .tup [p.1, p.2]) (xs.zip ys) (List.zipWith pairD xs ys)
  | [], _ => by simp; exact .nil
  | _ :: _, [] => by simp; exact .nil
  | x :: xs, y :: ys => .cons rfl zip_pairs
theorem stales_zip : ∀ {xs ys : List D}, xs.length = ys.length → ((∀ p ∈ xs.zip ys, p.1.stale = p.2.stale) ↔ D.stales xs = D.stales ys)
  | [], [], _ => by simp
  | [], _ :: _, h => by simp at h
  | _ :: _, [], h => by simp at h
  | x :: xs, y :: ys, h => by
    have := stales_zip (xs := xs) (ys := ys) (by simpa using h)
    simp only [List.zip_cons_cons, List.mem_cons, forall_eq_or_imp, D.stales, List.cons.injEq]
    rw [this]
theorem oks_mem : ∀ {xs : List D} {k : Nat}, D.oks xs k = true → ∀ d ∈ xs, d.ok k = true
  | [], _, _, _, h => by cases h
  | x :: xs, k, h, d, m => by
    rw [D.oks, Bool.and_eq_true] at h
    rcases List.mem_cons.mp m with rfl | m
    · exact h.1
    · exact oks_mem h.2 d m
theorem stales_len (xs : List D) : (D.stales xs).length = xs.length := by rw [stales_map, List.length_map]
def D.leaf : D → Bool
  | .non => true | .bl _ => true | .int _ => true | .str _ => true | _ => false
def Fit : Nat → D → Prop
  | 0, d => D.leaf d = true ∧ d.ok 0 = true
  | k + 1, d => (D.leaf d = true ∧ d.ok 0 = true) ∨ ∃ xs, ((∃ t, d = .lst t xs) ∨ d = .tup xs) ∧ xs.length ≤ 1000000 ∧ ∀ x ∈ xs, Fit k x
theorem leaf_ok {d : D} (h : D.leaf d = true) (h0 : d.ok 0 = true) (k : Nat) : d.ok k = true := by
  cases d <;> first | cases h; done | exact h0
theorem Fit.ok : ∀ {k : Nat} {d : D}, Fit k d → d.ok k = true
  | 0, d, h => h.2
  | k + 1, d, h => by
    rcases h with h | ⟨xs, ⟨t, rfl⟩ | rfl, _, h⟩
    · exact leaf_ok h.1 h.2 _
    · show D.oks xs k = true
      exact oks_of fun x m => (h x m).ok
    · show D.oks xs k = true
      exact oks_of fun x m => (h x m).ok
theorem fit_leaf {d : D} (h : D.leaf d = true) (h0 : d.ok 0 = true) : ∀ k, Fit k d
  | 0 => ⟨h, h0⟩
  | _ + 1 => .inl ⟨h, h0⟩
theorem s_exact_leaf {k : Nat} {a b : D} (ha : a.ok k = true) (hb : b.ok k = true) (hl : D.leaf a = true) (h : Lv B Ψ 1) (q : ∀ d, Tells a b d → Q d n) : Ψ i__law_exact [a, b] n Q R := by
  refine u__law_exact h fun Ψ h => ?_
  cases a <;> first | (cases hl; done) | skip
  all_goals (cases b <;> first | (cases hb; done) | skip)
  all_goals walk_at "wl"
  all_goals (refine q _ ⟨_, rfl, ?_⟩; simp [D.stale, D.eqv, D.isTy, D.isNon]; done)
theorem s_exact : ∀ {k : Nat} {a b : D} {Ψ : Nat → FnSem} {n : Nat} {Q : D → Nat → Prop} {R : RK}, Fit k a → Fit k b → k ≤ 50 → Lv B Ψ (k + 1) → (∀ d, Tells a b d → Q d n) → Ψ i__law_exact [a, b] n Q R := by
  intro k
  induction k with
  | zero => exact fun {a b Ψ n Q R} ha hb hk h q => s_exact_leaf ha.2 hb.2 ha.1 h.le q
  | succ k ih =>
    intro a b Ψ n Q R ha hb hk h q
    have hb' := hb.ok
    rcases ha with ha | ⟨xs, ⟨t, rfl⟩ | rfl, hl, hx⟩
    · exact s_exact_leaf (leaf_ok ha.1 ha.2 (k + 1)) hb.ok ha.1 h.le q
    · refine u__law_exact h fun Ψ h => ?_
      cases b with
      | lst t' ys =>
        walk_at "wl"
        by_cases hlen : xs.length = ys.length
        · rw [show D.eqv (D.int (xs.length : Nat)) (D.int (ys.length : Nat)) = true by simp [D.eqv, hlen]]
          walk_at "w"
          have hy : ∀ y ∈ ys, Fit k y := by
            rcases hb with hb | ⟨zs, ⟨t, e⟩ | e, _, h⟩
            · cases hb.1
            · cases e; exact h
            · cases e
          refine compW_map (r' := fun (p : D × D) d => Tells p.1 p.2 d) id zip_pairs (sl_le (by simp; omega)) (fun p d n K m hr kk => ?_) fun ds hds => ?_
          · subst hr
            have hm := List.of_mem_zip m
            walk_at "wl"
            refine ih (hx _ hm.1) (hy _ hm.2) (by omega) h.le fun d hd => (nb ?_)
            walk_at "w"
            exact kk _ hd
          · rw [List.map_id] at hds
            obtain ⟨vs, e1, e2⟩ := tells_all hds
            walk_at "w"
            rw [e1]
            walk_at "w"
            refine q _ ⟨_, rfl, ?_⟩
            rw [e2, stales_zip hlen]
            simp [D.stale]
        · rw [show D.eqv (D.int (xs.length : Nat)) (D.int (ys.length : Nat)) = false by simp [D.eqv]; omega]
          walk_at "w"
          refine q _ ⟨_, rfl, ?_⟩
          simp only [D.stale, D.lst.injEq, true_and]
          constructor
          · intro z; cases z
          · intro z
            have := congrArg List.length z
            rw [stales_len, stales_len] at this
            exact absurd this hlen
      | dic _ _ => cases hb'
      | pur => cases hb'
      | _ =>
        walk_at "wl"
        refine q _ ⟨_, rfl, ?_⟩
        simp [D.stale, D.isTy, D.eqv]
    · refine u__law_exact h fun Ψ h => ?_
      cases b with
      | tup ys =>
        walk_at "wl"
        by_cases hlen : xs.length = ys.length
        · rw [show D.eqv (D.int (xs.length : Nat)) (D.int (ys.length : Nat)) = true by simp [D.eqv, hlen]]
          walk_at "w"
          have hy : ∀ y ∈ ys, Fit k y := by
            rcases hb with hb | ⟨zs, ⟨t, e⟩ | e, _, h⟩
            · cases hb.1
            · cases e
            · cases e; exact h
          refine compW_map (r' := fun (p : D × D) d => Tells p.1 p.2 d) id zip_pairs (sl_le (by simp; omega)) (fun p d n K m hr kk => ?_) fun ds hds => ?_
          · subst hr
            have hm := List.of_mem_zip m
            walk_at "wl"
            refine ih (hx _ hm.1) (hy _ hm.2) (by omega) h.le fun d hd => (nb ?_)
            walk_at "w"
            exact kk _ hd
          · rw [List.map_id] at hds
            obtain ⟨vs, e1, e2⟩ := tells_all hds
            walk_at "w"
            rw [e1]
            walk_at "w"
            refine q _ ⟨_, rfl, ?_⟩
            rw [e2, stales_zip hlen]
            simp [D.stale]
        · rw [show D.eqv (D.int (xs.length : Nat)) (D.int (ys.length : Nat)) = false by simp [D.eqv]; omega]
          walk_at "w"
          refine q _ ⟨_, rfl, ?_⟩
          simp only [D.stale, D.tup.injEq]
          constructor
          · intro z; cases z
          · intro z
            have := congrArg List.length z
            rw [stales_len, stales_len] at this
            exact absurd this hlen
      | dic _ _ => cases hb'
      | pur => cases hb'
      | _ =>
        walk_at "wl"
        refine q _ ⟨_, rfl, ?_⟩
        simp [D.stale, D.isTy, D.eqv]
/-- two that are the same -/
theorem s_exact_same {k : Nat} {a b : D} (ha : Fit k a) (hb : Fit k b) (hk : k ≤ 50) (h : Lv B Ψ (k + 1)) (e : a.stale = b.stale) (q : Q (.bl true) n) : Ψ i__law_exact [a, b] n Q R :=
  s_exact ha hb hk h fun d ⟨v, e1, e2⟩ => by
    rw [e1, e2.mpr e]; exact q
end
end K70
namespace K70
open PySem PySem.Spec L2 Vm Pm
local macro_rules | `(tactic| walk_at "w") => `(tactic| conv => whnf)
local macro_rules | `(tactic| walk_at "ww") => `(tactic| ((conv => whnf); repeat ((refine And.intro ?_ ?_); (next => first | exact rfl | exact ⟨rfl, rfl⟩ | exact True.intro | (refine sl_le ?_; simp; done) | (refine sl_lt ?_; simp; done)); conv => whnf)))
section
variable {Ψ : Nat → FnSem} {n : Nat} {Q : D → Nat → Prop} {R : RK}
theorem rch_len {es : E} {held ways : M} {k size : Nat} {lefts : List Int} (hb : ∀ e ∈ es, 0 ≤ e.2 ∧ e.2 < size) (h : Rch es held k lefts ways) : ways.length ≤ size ∧ lefts.length ≤ size + 1 := by
  have h1 : ways.length ≤ size := by
    have := nodup_le (l := keys ways) (m := (List.range size).map fun (i : Nat) => (i : Int)) h.ks fun r hr => by
      obtain ⟨p, hp, rfl⟩ := List.mem_map.mp hr
      exact mem_ints.mpr (hb _ (h.ed _ _ hp))
    simpa [keys] using this
  refine ⟨h1, ?_⟩
  rw [h.lf, List.length_cons]
  have := List.length_filterMap_le (fun p => look held p.1) ways
  omega
theorem s_reached_from {size k : Nat} {es : E} {held : M} {t t' : Bool} (h : Lv B Ψ 1) (ok : EdOk size es) (hm : Mat es k held)
    (q : ∀ lefts ways, Rch es held k lefts ways → (∀ l ∈ lefts, ∀ r, (l, r) ∈ es → r ∈ keys ways) → (lefts, ways) = rfun es held k → Q (.tup [.lst true (lefts.map D.int), .dic true (kD ways)]) n) : Ψ i_reached_from [.lst t (es.map eD), .dic t' (kD held), .int k] n Q R := by
  have hs := ok.sz
  have hf := ok.few
  have hb2 : ∀ e ∈ es, 0 ≤ e.2 ∧ e.2 < size := fun e m => (ok.bd e m).2.2
  refine u_reached_from h fun Ψ h => ?_
  walk_at "ww"
  refine ⟨fun ρ n' => n' = n ∧ ∃ (lefts : List Int) (ways : M) (a : Nat) (ls : List D) (ws : List (Key × D)) (x6 x7 : Sl), ρ = [.pure (.lst t (es.map eD)), .pure (.dic t' (kD held)), .pure (.int k), .own (.lst true ls), .own (.dic true ws), .pure (.int a), x6, x7] ∧
      ls = lefts.map D.int ∧ ws = kD ways ∧ Rch es held k lefts ways ∧ a ≤ lefts.length ∧ (∀ i l, i < a → lefts[i]? = some l → (∀ r, (l, r) ∈ es → r ∈ keys ways)) ∧ To (turnR es held) goR (([(k : Int)], []), 0) ((lefts, ways), a),
    fun ρ _ => match ρ.getD 5 .dead with | .pure (.int a) => 100 - a.toNat | _ => 0, ⟨rfl, [(k : Int)], [], 0, _, _, _, _, rfl, rfl, rfl, Rch.start es held k, by simp, by omega, .start⟩, ?_⟩
  rintro ρ n' ⟨rfl, lefts, ways, a, ls, ws, x6, x7, rfl, rfl, rfl, hR, hal, hcl, hto⟩
  obtain ⟨hwl, hll⟩ := rch_len hb2 hR
  walk_at "w"
  rw [List.length_map]
  by_cases ha : a < lefts.length
  · rw [decide_eq_true (show (a : Int) < (lefts.length : Nat) by omega)]
    walk_at "w"
    have hla : ∃ l, lefts[a]? = some l := ⟨_, List.getElem?_eq_getElem ha⟩
    obtain ⟨l, hla⟩ := hla
    refine forW_a2 (r := fun e d => d = eD e) (fun pre ρ n2 => n2 = n' ∧ ∃ (lefts2 : List Int) (ways2 : M) (ls : List D) (ws : List (Key × D)) (x6 x7 : Sl), ρ = [.pure (.lst t (es.map eD)), .pure (.dic t' (kD held)), .pure (.int k), .own (.lst true ls), .own (.dic true ws), .pure (.int a), x6, x7] ∧
      ls = lefts2.map D.int ∧ ws = kD ways2 ∧ Rch es held k lefts2 ways2 ∧ (∃ more, lefts2 = lefts ++ more) ∧ (∀ r ∈ keys ways, r ∈ keys ways2) ∧ (∀ e ∈ pre, e.1 = l → e.2 ∈ keys ways2) ∧ (lefts2, ways2) = pre.foldl (stepE held l) (lefts, ways)) (a2_map eD es) ⟨rfl, lefts, ways, _, _, _, _, rfl, rfl, rfl, hR, ⟨[], by simp⟩, fun _ z => z, (fun _ z => by cases z), rfl⟩ ?_ ?_
    · rintro pre e post d ρ n2 next he rfl ⟨rfl, lefts2, ways2, ls, ws, x6, x7, rfl, rfl, rfl, hR2, ⟨more, hmore⟩, hsub, hpre, hfo⟩ nx
      obtain ⟨hwl2, hll2⟩ := rch_len hb2 hR2
      have hla2 : lefts2[a]? = some l := by rw [hmore, List.getElem?_append_left ha]; exact hla
      have hem : e ∈ es := by rw [he]; simp
      walk_at "ww"
      rw [atI_map (i := a) rfl hla2]
      walk_at "w"
      refine ⟨⟨rfl, rfl⟩, ?_⟩
      by_cases h1 : e.1 = l
      · rw [show D.eqv (D.int e.1) (D.int l) = true by simp [D.eqv, h1]]
        walk_at "w"
        rw [kget_kD]
        by_cases h2 : e.2 ∈ keys ways2
        · rw [show ((look ways2 e.2).map D.int).isSome = true by
            cases q : look ways2 e.2 with
            | none => exact absurd h2 (look_none.mp q)
            | some v => rfl]
          walk_at "w"
          refine nx _ _ ⟨rfl, lefts2, ways2, _, _, _, _, rfl, rfl, rfl, hR2, ⟨more, hmore⟩, hsub, fun e2 m ee => ?_, ?_⟩
          · rcases List.mem_append.mp m with m | m
            · exact hpre e2 m ee
            · rw [List.mem_singleton] at m; subst m; exact h2
          · rw [List.foldl_append, ← hfo]
            show _ = stepE held l (lefts2, ways2) e
            unfold stepE
            rw [if_neg fun z => z.2 h2]
        · rw [show ((look ways2 e.2).map D.int).isSome = false by rw [look_none.mpr h2]; rfl]
          walk_at "w"
          refine ⟨sl_lt (by simp [kD]; omega), ?_⟩
          rw [kput_kD, put_new h2]
          walk_at "ww"
          rw [kget_kD]
          have hl2 : l ∈ lefts2 := List.mem_of_getElem? hla2
          have hR3 := Rch.more hm hR2 hl2 h2 (by rw [← h1]; exact hem)
          obtain ⟨hwl3, hll3⟩ := rch_len hb2 hR3
          have fin : ∀ (ls : List D), ls = (lefts2 ++ (look held e.2).toList).map D.int → next ([.pure (.lst t (es.map eD)), .pure (.dic t' (kD held)), .pure (.int k), .own (.lst true ls), .own (.dic true (kD (ways2 ++ [(e.2, e.1)]))), .pure (.int a), .pure (.int e.1), .pure (.int e.2)]) n2 := fun ls e3 =>
            nx _ _ ⟨rfl, _, _, _, _, _, _, rfl, e3, rfl, by rw [h1]; exact hR3, ⟨more ++ (look held e.2).toList, by rw [hmore, List.append_assoc]⟩, fun r hr => by unfold keys; rw [List.map_append]; exact List.mem_append_left _ (hsub r hr), fun e2 m ee => by
              unfold keys; rw [List.map_append]
              rcases List.mem_append.mp m with m | m
              · exact List.mem_append_left _ (hpre e2 m ee)
              · rw [List.mem_singleton] at m; subst m; exact List.mem_append_right _ (by simp), by
              rw [List.foldl_append, ← hfo]
              show _ = stepE held l (lefts2, ways2) e
              unfold stepE
              rw [if_pos ⟨h1, h2⟩]⟩
          cases hq : look held e.2 with
          | none =>
            rw [hq] at fin
            walk_at "ww"
            refine ⟨sl_le (by simp; omega), ?_⟩
            exact fin _ (by simp)
          | some v =>
            rw [hq] at fin
            walk_at "w"
            rw [kget_kD, hq]
            walk_at "ww"
            refine ⟨sl_le (by simp; omega), ?_⟩
            exact fin _ (by simp)
      · rw [show D.eqv (D.int e.1) (D.int l) = false by simp [D.eqv, h1]]
        walk_at "w"
        refine nx _ _ ⟨rfl, lefts2, ways2, _, _, _, _, rfl, rfl, rfl, hR2, ⟨more, hmore⟩, hsub, fun e2 m ee => ?_, ?_⟩
        · rcases List.mem_append.mp m with m | m
          · exact hpre e2 m ee
          · rw [List.mem_singleton] at m; subst m; exact absurd ee h1
        · rw [List.foldl_append, ← hfo]
          show _ = stepE held l (lefts2, ways2) e
          unfold stepE
          rw [if_neg fun z => h1 z.1]
    · rintro ρ n2 ⟨rfl, lefts2, ways2, ls, ws, x6, x7, rfl, rfl, rfl, hR2, ⟨more, hmore⟩, hsub, hpre, hfo⟩
      walk_at "ww"
      refine ⟨⟨rfl, lefts2, ways2, a + 1, _, _, _, _, rfl, rfl, rfl, hR2, ?_, ?_, ?_⟩, ?_⟩
      · rw [hmore, List.length_append]; omega
      · intro i l' hi hl' r hr
        have hlen : i < lefts.length := by omega
        rw [hmore, List.getElem?_append_left hlen] at hl'
        rcases Nat.lt_or_ge i a with c | c
        · exact hsub r (hcl i l' c hl' r hr)
        · have : i = a := by omega
          subst this
          rw [hla] at hl'
          cases hl'
          exact hpre _ hr rfl
      · have z := hto.next (decide_eq_true ha)
        have e : turnR es held ((lefts, ways), a) = ((lefts2, ways2), a + 1) := by
          unfold turnR
          rw [show (lefts.getD a 0) = l by rw [List.getD_eq_getElem?_getD, hla]; rfl, ← hfo]
        rw [e] at z
        exact z
      · show 100 - ((a : Int) + 1).toNat < 100 - (a : Int).toNat
        omega
  · rw [decide_eq_false (show ¬ (a : Int) < (lefts.length : Nat) by omega)]
    walk_at "ww"
    refine q lefts ways hR (fun l hl r hr => ?_) (congrArg (·.1) (hto.eq (decide_eq_false ha)))
    obtain ⟨i, hi⟩ := List.mem_iff_getElem?.mp hl
    exact hcl i l (by have := (List.getElem?_eq_some_iff.mp hi).1; omega) hi r hr
end
end K70
namespace K70
open PySem PySem.Spec L2 Vm Pm
local macro_rules | `(tactic| walk_at "w") => `(tactic| conv => whnf)
local macro_rules | `(tactic| walk_at "ww") => `(tactic| ((conv => whnf); repeat ((refine And.intro ?_ ?_); (next => first | exact rfl | exact ⟨rfl, rfl⟩ | exact True.intro | (refine sl_le ?_; simp; done) | (refine sl_lt ?_; simp; done)); conv => whnf)))
section
variable {Ψ : Nat → FnSem} {n : Nat} {Q : D → Nat → Prop} {R : RK}
theorem items_kD (m : M) : A2 (fun (p : Int × Int) d => d = .tup [.int p.1, .int p.2]) m ((kD m).map fun p => pairD (match p.1 with | .inl i => D.int i | .inr s => D.str s) p.2) := by
  unfold kD
  rw [List.map_map]
  exact A2.map _ fun _ _ => rfl
theorem keys_kD (m : M) : A2 (fun (p : Int × Int) d => d = .int p.1) m ((kD m).map fun p => match p.1 with | .inl i => D.int i | .inr s => D.str s) := by
  unfold kD
  rw [List.map_map]
  exact A2.map _ fun _ _ => rfl
theorem idx_at {ways W : M} {r : Int} (hk : (keys ways).Nodup) (h : ∃ l W2, ways = W ++ (r, l) :: W2) : (keys ways).idxOf r = W.length := by
  obtain ⟨l, W2, rfl⟩ := h
  unfold keys at hk ⊢
  rw [List.map_append, List.nodup_append] at hk
  rw [List.map_append, List.idxOf_append, if_neg]
  · simp
  · intro z
    exact hk.2.2 _ z _ (List.mem_map.mpr ⟨(r, l), List.mem_cons_self .., rfl⟩) rfl
theorem s_held_anew {size k : Nat} {es : E} {held ways : M} {lefts : List Int} {r : Int} {t t' : Bool} (h : Lv B Ψ 1) (hs : size ≤ 5) (hk : k < size) (hb2 : ∀ e ∈ es, 0 ≤ e.2 ∧ e.2 < size) (hm : Mat es k held) (hR : Rch es held k lefts ways) (hr : r ∈ keys ways) (hn : r ∉ keys held)
    (q : ∀ H, Mat es (k + 1) H → H = hanew held ways r → Q (.tup [.non, .dic t (kD H)]) n) : Ψ i_held_anew [.dic t (kD held), .dic t' (kD ways), .int r] n Q R := by
  refine u_held_anew h fun Ψ h => ?_
  walk_at "w"
  obtain ⟨W1, hF⟩ := Flip.start hm hR hr hn
  have hw := (rch_len hb2 hR).1
  refine ⟨fun ρ n' => n' = n ∧ ∃ (H : M) (o : Option (Int × M)) (hs ws : List (Key × D)) (d : D) (x4 x5 x6 x7 : Sl), ρ = [.own (.dic t hs), .pure (.dic t' ws), .pure (.int r), .pure d, x4, x5, x6, x7] ∧ hs = kD H ∧ ws = kD ways ∧
      (match o with | none => d = .non ∧ Mat es (k + 1) H | some (r', W) => d = .int r' ∧ Flip es held ways k H r' W) ∧ To (stepH ways) goH (held, some r) (H, o.map (·.1)),
    fun ρ _ => match ρ.getD 3 .dead with | .pure (.int r') => 1 + (keys ways).idxOf r' | _ => 0, ⟨rfl, held, some (r, W1), _, _, _, _, _, _, _, rfl, rfl, rfl, ⟨rfl, hF⟩, .start⟩, ?_⟩
  rintro ρ n' ⟨rfl, H, o, hs', ws, d, x4, x5, x6, x7, rfl, rfl, rfl, ho, hto⟩
  cases o with
  | none =>
    obtain ⟨rfl, ho⟩ := ho
    walk_at "w"
    exact q H ho (congrArg (·.1) (hto.eq rfl))
  | some o =>
    obtain ⟨r', W⟩ := o
    obtain ⟨rfl, ho⟩ := ho
    obtain ⟨l, hl, hc⟩ := ho.turn hm hR
    have hHlen : (kD H).length ≤ 6 := by
      have := nodup_le (l := keys H) (m := (List.range size).map fun (i : Nat) => (i : Int)) ho.ks fun x hx => by
        obtain ⟨p, hp, rfl⟩ := List.mem_map.mp hx
        exact mem_ints.mpr (hb2 _ (ho.ed _ _ hp))
      simp [keys] at this
      simp [kD]; omega
    walk_at "w"
    rw [kget_kD, hl]
    walk_at "w"
    refine compW_filter (r := fun (p : Int × Int) d => d = .tup [.int p.1, .int p.2]) (r' := fun b d => d = D.int b) (fun p => decide (p.2 = l)) (·.1) (items_kD H) (sl_le (by simpa [kD] using Nat.le_trans hHlen (by omega))) (fun p d n K m e k0 k1 => ?_) fun ds hds => ?_
    · subst e
      walk_at "ww"
      by_cases c : p.2 = l
      · rw [show D.eqv (D.int p.2) (D.int l) = true by simp [D.eqv, c]]
        walk_at "w"
        exact k1 _ (decide_eq_true c) rfl
      · rw [show D.eqv (D.int p.2) (D.int l) = false by simp [D.eqv, c]]
        walk_at "w"
        exact k0 (decide_eq_false c)
    have := hds.eq_map (f := D.int) fun _ _ e => e
    subst this
    walk_at "w"
    refine ⟨sl_lt (by omega), ?_⟩
    rw [kput_kD]
    have hst : stepH ways (H, some r') = (put H r' l, ((H.filter fun p => decide (p.2 = l)).map (·.1)).head?) := by
      unfold stepH
      simp only [hl]
    have hto2 := hto.next rfl
    rw [show (H, Option.map (·.1) (some (r', W))) = (H, some r') from rfl, hst] at hto2
    walk_at "ww"
    refine ⟨⟨ok_ints _, rfl⟩, ?_⟩
    rw [eqv_nil]
    rcases hc with ⟨c1, c2⟩ | ⟨r2, W0, c1, c2, c3, c4⟩
    · rw [c1]
      walk_at "w"
      refine ⟨⟨rfl, put H r' l, none, _, _, _, _, _, _, _, rfl, rfl, rfl, ⟨rfl, c2⟩, by rw [c1] at hto2; exact hto2⟩, ?_⟩
      show 0 < 1 + _
      omega
    · rw [show ((((H.filter fun p => decide (p.2 = l)).map (·.1)).map D.int)).isEmpty = false by simpa using c2]
      walk_at "w"
      rw [atI_map (k := 0) (i := 0) rfl c1]
      walk_at "w"
      refine ⟨⟨rfl, put H r' l, some (r2, W0), _, _, _, _, _, _, _, rfl, rfl, rfl, ⟨rfl, c4⟩, by rw [List.head?_eq_getElem?, c1] at hto2; exact hto2⟩, ?_⟩
      show 1 + (keys ways).idxOf r2 < 1 + (keys ways).idxOf r'
      rw [idx_at hR.ks ho.at_, idx_at hR.ks c4.at_]
      omega
theorem lock_get {ρ : List Sl} {i j v : Nat} {x : Sl} {b : Bool} {m : M} (h1 : j ≠ i) (h2 : v ≠ j) (h : ρ.getD j .dead = .own (.dic b (kD m))) : ((wipeS (lockI false i ρ) [v]).set v x).getD j .dead = .own (.dic b (kD m)) := by
  have hj : ρ[j]? = some (.own (.dic b (kD m))) := by
    rw [List.getD_eq_getElem?_getD] at h
    cases q : ρ[j]? with
    | none => rw [q] at h; cases h
    | some u => rw [q] at h; simp at h; rw [h]
  rw [List.getD_eq_getElem?_getD, List.getElem?_set_ne h2]
  show ((((lockI false i ρ).set v .dead))[j]?).getD .dead = _
  rw [List.getElem?_set_ne h2]
  unfold lockI
  rw [List.getElem?_mapIdx, hj]
  show (if j = i then Sl.dead else (if (false || D.nodick (kD m)) = true then Sl.own _ else .dead)) = _
  rw [if_neg h1, nodick_kD]; rfl
theorem s_held_or_short {size : Nat} {es : E} {t : Bool} (h : Lv B Ψ 2) (ok : EdOk size es)
    (q : ∀ d, (∃ held b, d = .tup [.dic b (kD held), .non] ∧ Mat es size held ∧ held = heldF es size) ∨ (∃ ls : List Int, d = .tup [.non, .lst true (ls.map D.int)] ∧ Short es size ls ∧ ls.Pairwise (· ≤ ·) ∧ ShortIs es size ls) → Q d n) : Ψ i_held_or_short [.int size, .lst t (es.map eD)] n Q R := by
  have hs := ok.sz
  have hf := ok.few
  have hb2 : ∀ e ∈ es, 0 ≤ e.2 ∧ e.2 < size := fun e m => (ok.bd e m).2.2
  refine u_held_or_short h fun Ψ h => ?_
  walk_at "ww"
  refine ⟨⟨by omega, by omega⟩, ?_⟩
  refine forW_a2 (as := List.range size) (r := fun (a : Nat) d => d = nD a) (fun pre ρ n' => n' = n ∧ ∃ (held : M) (hs : List (Key × D)) (x3 x4 x5 x6 x7 : Sl), ρ = [.pure (.int size), .pure (.lst t (es.map eD)), .own (.dic true hs), x3, x4, x5, x6, x7] ∧ hs = kD held ∧ Mat es pre.length held ∧ held = heldF es pre.length ∧ ∀ i, i < pre.length → freeR es (heldF es i) i ≠ []) (by rw [Int.toNat_natCast]; exact a2_map nD _) ⟨rfl, [], _, _, _, _, _, _, rfl, rfl, ⟨by simp [keys], by simp [vals], fun _ _ h => by cases h⟩, rfl, fun i hi => absurd hi (Nat.not_lt_zero i)⟩ ?_ ?_
  · rintro pre a post d ρ n' next e rfl ⟨rfl, held, hs', x3, x4, x5, x6, x7, rfl, rfl, hm, hhf, hno⟩ nx
    obtain ⟨rfl, ha⟩ := range_split e
    walk_at "w"
    rw [show lentD _ [D.lst t (es.map eD), D.dic true (kD held), nD pre.length] = [D.lst false (es.map eD), D.dic false (kD held), .int pre.length] by
      show [D.lst false (D.stales (es.map eD)), D.dic false (D.stalek (kD held)), _] = _
      rw [stales_of (f := eD) (fun _ => rfl), stalek_kD]; rfl]
    refine s_reached_from h.le ok hm fun lefts ways hR hc hfu => lent ?_ ?_
    · show (true && D.freshs (lefts.map D.int) && (true && D.freshk (kD ways) && true)) = true
      rw [fresh_of (ds := lefts.map D.int) fun d m => by obtain ⟨i, _, rfl⟩ := List.mem_map.mp m; rfl, freshk_kD]; rfl
    walk_at "ww"
    rw [show lockP Ik.keys ((Ex.var 6).econs Ex.enil) ((([Sl.pure (D.int (size : Nat)), Sl.pure (D.lst t (List.map eD es)), Sl.own (D.dic true (kD held)), x3, x4, x5, x6, x7].set 3 (Sl.pure (nD pre.length))).set 5 (Sl.pure (D.lst true (List.map D.int lefts)))).set 6 (Sl.pure (D.dic true (kD ways)))) =
      some (lockI false 6 ((([Sl.pure (D.int (size : Nat)), Sl.pure (D.lst t (List.map eD es)), Sl.own (D.dic true (kD held)), x3, x4, x5, x6, x7].set 3 (Sl.pure (nD pre.length))).set 5 (Sl.pure (D.lst true (List.map D.int lefts)))).set 6 (Sl.pure (D.dic true (kD ways))))) by
        show (if D.nodick (kD ways) = true then some (lockI false 6 _) else none) = _
        rw [nodick_kD]; rfl]
    walk_at "w"
    refine compW_filter (r := fun (p : Int × Int) d => d = .int p.1) (r' := fun b d => d = D.int b) (fun p => decide (p.1 ∉ keys held)) (·.1) (keys_kD ways) (sl_le (by have := (rch_len hb2 hR).1; omega)) (fun p d n K m e k0 k1 => ?_) fun ds hds => ?_
    · subst e
      walk_at "w"
      rw [lock_get (b := true) (m := held) (by decide) (by decide)]
      rotate_left
      · rfl
      walk_at "w"
      rw [kget_kD]
      by_cases c : p.1 ∈ keys held
      · rw [show ((look held p.1).map D.int).isSome = true by
          cases q : look held p.1 with
          | none => exact absurd c (look_none.mp q)
          | some v => rfl]
        walk_at "w"
        exact k0 (by simp [c])
      · rw [show ((look held p.1).map D.int).isSome = false by rw [look_none.mpr c]; rfl]
        walk_at "w"
        exact k1 _ (by simp [c]) rfl
    have := hds.eq_map (f := D.int) fun _ _ e => e
    subst this
    walk_at "ww"
    refine ⟨⟨ok_ints _, rfl⟩, ?_⟩
    rw [eqv_nil]
    by_cases c : (ways.filter fun p => decide (p.1 ∉ keys held)) = []
    · rw [c]
      walk_at "w"
      rw [ints_map true]
      refine fun ms h1 h2 => ?_
      have hS : Short es size lefts := stuck (by omega) hm hR hc fun r hr => by
        obtain ⟨p, hp, rfl⟩ := List.mem_map.mp hr
        have := List.filter_eq_nil_iff.mp c p hp
        simpa using this
      walk_at "ww"
      refine q _ (.inr ⟨ms, rfl, ⟨h1.nodup_iff.mpr hS.nd, fun z => ?_, fun l hl => hS.bd l (h1.mem_iff.mp hl), ?_⟩, h2, pre.length, ha, ?_, hno, ?_, h2⟩)
      · rw [z] at h1
        exact hS.ne (List.nil_perm.mp h1)
      · obtain ⟨rs, e1, e2⟩ := hS.few
        exact ⟨rs, by rw [h1.length_eq]; exact e1, fun l hl => e2 l (h1.mem_iff.mp hl)⟩
      · rw [← hhf]; unfold freeR; rw [← hfu]; exact c
      · rw [← hhf, ← hfu]; exact h1
    · rw [show (((ways.filter fun p => decide (p.1 ∉ keys held)).map (·.1)).map D.int).isEmpty = false by simpa using c]
      walk_at "w"
      obtain ⟨p, rest, hp⟩ : ∃ p rest, (ways.filter fun p => decide (p.1 ∉ keys held)) = p :: rest := by
        cases q : ways.filter fun p => decide (p.1 ∉ keys held) with
        | nil => exact absurd q c
        | cons p rest => exact ⟨p, rest, rfl⟩
      have hpm : p ∈ ways.filter fun p => decide (p.1 ∉ keys held) := by rw [hp]; exact List.mem_cons_self ..
      obtain ⟨hp1, hp2⟩ := List.mem_filter.mp hpm
      rw [hp]
      walk_at "w"
      rw [atI_map (k := 0) (i := 0) (a := p.1) rfl rfl]
      walk_at "w"
      refine s_held_anew h.le hs ha hb2 hm hR (r := p.1) (List.mem_map.mpr ⟨p, hp1, rfl⟩) (by simpa using hp2) fun H hH hHe => ?_
      refine nx _ _ ⟨rfl, H, _, _, _, _, _, _, rfl, rfl, ?_⟩
      rw [List.length_append, List.length_singleton]
      have hfr : freeR es (heldF es pre.length) pre.length = p :: rest := by rw [← hhf]; unfold freeR; rw [← hfu]; exact hp
      refine ⟨hH, ?_, fun i hi => ?_⟩
      · rw [hHe]
        show _ = heldF es (pre.length + 1)
        rw [heldF, hfr]
        show _ = hanew (heldF es pre.length) (rfun es (heldF es pre.length) pre.length).2 p.1
        rw [← hhf, ← hfu]
      · rcases Nat.lt_or_ge i pre.length with g | g
        · exact hno i g
        · have : i = pre.length := by omega
          subst this
          rw [hfr]; exact List.cons_ne_nil _ _
  · rintro ρ n' ⟨rfl, held, hs', x3, x4, x5, x6, x7, rfl, rfl, hm, hhf, hno⟩
    rw [List.length_range] at hm hhf
    walk_at "ww"
    exact q _ (.inl ⟨held, _, rfl, hm, hhf⟩)
/-- a pairing, where there is one -/
theorem s_any_pairing' {size : Nat} {es : E} {t : Bool} (h : Lv B Ψ 5) (ok : EdOk size es)
    (q0 : prs es size = [] → Q .non n) (q1 : ∀ p, p ∈ prs es size → p = heldP es (heldF es size) → Q (.lst true (p.map nD)) n) : Ψ i_any_pairing [.int size, .lst t (es.map eD)] n Q R := by
  have hs := ok.sz
  have hf := ok.few
  refine u_any_pairing h fun Ψ h => ?_
  walk_at "w"
  refine s_check_edges h.le ok (nb ?_)
  walk_at "w"
  refine s_held_or_short h.le ok fun d hd => (nb ?_)
  rcases hd with ⟨held, b, rfl, hm, hhf⟩ | ⟨ls, rfl, hS, _⟩
  · walk_at "w"
    have hb2 : ∀ e ∈ es, 0 ≤ e.2 ∧ e.2 < size := fun e m => (ok.bd e m).2.2
    refine compW_filter (r' := fun b d => d = nD b) (fun (a : Nat) => decide (look held (rt es a) = some (lf es a))) id (enum_a2 es) (sl_le (by simp; omega)) (fun a d n K m e k0 k1 => ?_) fun ds hds => ?_
    · subst e
      have ha : a < es.length := List.mem_range.mp m
      have hb := ok.bd _ (pos_mem ha)
      walk_at "ww"
      rw [kget_kD]
      obtain ⟨l, hl⟩ : ∃ l, look held (rt es a) = some l := by
        cases q : look held (rt es a) with
        | none => exact absurd (hm.full hb2 hb.2.2.1 hb.2.2.2) (look_none.mp q)
        | some l => exact ⟨l, rfl⟩
      rw [hl]
      walk_at "ww"
      by_cases c : l = lf es a
      · rw [show D.eqv (D.int l) (D.int (lf es a)) = true by simp [D.eqv, c]]
        walk_at "w"
        exact k1 _ (by simp [hl, c]) rfl
      · rw [show D.eqv (D.int l) (D.int (lf es a)) = false by simp [D.eqv, c]]
        walk_at "w"
        exact k0 (by simp [hl, c])
    · rw [List.map_id] at hds
      have := hds.eq_map (f := nD) fun _ _ e => e
      subst this
      walk_at "w"
      exact q1 _ (heldP_ok hm ok.bd ok.nodup ok.ord) (by rw [← hhf]; rfl)
  · walk_at "w"
    exact q0 hS.none
theorem s_any_pairing {size : Nat} {es : E} {t : Bool} (h : Lv B Ψ 5) (ok : EdOk size es)
    (q0 : prs es size = [] → Q .non n) (q1 : ∀ p, p ∈ prs es size → Q (.lst true (p.map nD)) n) : Ψ i_any_pairing [.int size, .lst t (es.map eD)] n Q R :=
  s_any_pairing' h ok q0 fun p hp _ => q1 p hp
end
end K70
namespace K70
open PySem PySem.Spec L2 Vm Pm
local macro_rules | `(tactic| walk_at "w") => `(tactic| conv => whnf)
local macro_rules | `(tactic| walk_at "ww") => `(tactic| ((conv => whnf); repeat ((refine And.intro ?_ ?_); (next => first | exact rfl | exact ⟨rfl, rfl⟩ | exact True.intro | (refine sl_le ?_; simp; done) | (refine sl_lt ?_; simp; done)); conv => whnf)))
section
variable {Ψ : Nat → FnSem} {n : Nat} {Q : D → Nat → Prop} {R : RK}
/-- a short set, where no pairing is -/
theorem s_short_set' {size : Nat} {es : E} {t : Bool} (h : Lv B Ψ 5) (ok : EdOk size es)
    (q0 : prs es size ≠ [] → Q .non n) (q1 : ∀ ls, prs es size = [] → Short es size ls → ls.Pairwise (· ≤ ·) → ShortIs es size ls → Q (.lst true (ls.map D.int)) n) : Ψ i_short_set [.int size, .lst t (es.map eD)] n Q R := by
  refine u_short_set h fun Ψ h => ?_
  walk_at "w"
  refine s_check_edges h.le ok (nb ?_)
  walk_at "w"
  refine s_held_or_short h.le ok fun d hd => (nb ?_)
  rcases hd with ⟨held, b, rfl, hm, _⟩ | ⟨ls, rfl, hS, ha, hI⟩
  · walk_at "w"
    refine q0 fun z => ?_
    have := heldP_ok hm ok.bd ok.nodup ok.ord
    rw [z] at this
    cases this
  · walk_at "w"
    exact q1 ls hS.none hS ha hI
theorem s_short_set {size : Nat} {es : E} {t : Bool} (h : Lv B Ψ 5) (ok : EdOk size es)
    (q0 : prs es size ≠ [] → Q .non n) (q1 : ∀ ls, prs es size = [] → Short es size ls → ls.Pairwise (· ≤ ·) → Q (.lst true (ls.map D.int)) n) : Ψ i_short_set [.int size, .lst t (es.map eD)] n Q R :=
  s_short_set' h ok q0 fun ls a b c _ => q1 ls a b c
/-- any object -/
def cntB : D → Bool
  | .int i => decide (0 ≤ i) | _ => false
theorem s_count_any {d : D} (h : Lv B Ψ 2) (np : d ≠ .pur) (q : Q (.bl (cntB d)) n) : Ψ i_is_count [d] n Q R := by
  refine u_is_count h fun Ψ h => ?_
  walk_at "w"
  refine u_is_whole (k := 0) h.le fun Ψ h => ?_
  cases d <;> first | exact absurd rfl np | skip
  all_goals walk_at "w"
  all_goals (refine nb ?_)
  all_goals walk_at "w"
  all_goals exact q
end
end K70
namespace K70
open PySem PySem.Spec L2 Vm Pm
local macro_rules | `(tactic| walk_at "w") => `(tactic| conv => whnf)
local macro_rules | `(tactic| walk_at "ww") => `(tactic| ((conv => whnf); repeat ((refine And.intro ?_ ?_); (next => first | exact rfl | exact ⟨rfl, rfl⟩ | exact True.intro | (refine sl_le ?_; simp; done) | (refine sl_lt ?_; simp; done)); conv => whnf)))
section
variable {Ψ : Nat → FnSem} {n : Nat} {Q : D → Nat → Prop} {R : RK}
def inB (size : Nat) : D → Bool
  | .int i => decide (0 ≤ i) && decide (i < size) | _ => false
def dI : D → Int
  | .int i => i | _ => 0
/-- somewhere not rising -/
def dropB (is : List Int) : Bool := ((List.range (is.length - 1)).map fun i => decide (is.getD (i + 1) 0 ≤ is.getD i 0)).any id
/-- the right ones of some left ones -/
def rightsOf (es : E) (is : List Int) : List Int := (es.filter fun e => decide (e.1 ∈ is)).foldl (fun acc e => putI acc e.2) []
def shortI (es : E) (is : List Int) : Bool := !dropB is && decide ((rightsOf es is).length < is.length)
def shortL (size : Nat) (es : E) (ds : List D) : Bool := !ds.isEmpty && ds.all (inB size) && shortI es (ds.map dI)
theorem all_in {size : Nat} {ds : List D} (h : ds.all (inB size) = true) : ds = (ds.map dI).map D.int ∧ ∀ i ∈ ds.map dI, 0 ≤ i ∧ i < size := by
  have k : ∀ d ∈ ds, ∃ i : Int, d = .int i ∧ 0 ≤ i ∧ i < size := fun d m => by
    have := List.all_eq_true.mp h d m
    cases d with
    | int i =>
      have : (decide (0 ≤ i) && decide (i < size)) = true := this
      simp at this
      exact ⟨i, rfl, this⟩
    | _ => cases this
  refine ⟨?_, fun i m => ?_⟩
  · rw [List.map_map]
    conv => lhs; rw [← List.map_id ds]
    refine List.map_congr_left fun d m => ?_
    obtain ⟨i, rfl, _⟩ := k d m
    rfl
  · obtain ⟨d, m', rfl⟩ := List.mem_map.mp m
    obtain ⟨i, rfl, b⟩ := k d m'
    exact b
theorem putI_le (acc : List Int) (i : Int) : (putI acc i).length ≤ acc.length + 1 := by
  unfold putI
  split <;> simp
theorem intsW_filter {α : Type} {r : α → D → Prop} (p : α → Bool) (f : α → Int) {step : D → Nat → (Option D → Nat → Prop) → Prop} {Q : List Int → Nat → Prop} {n : Nat} : ∀ {as : List α} {xs : List D} {acc : List Int}, A2 r as xs → acc.length + as.length < 4095 →
    (∀ a d (K : Option D → Nat → Prop), a ∈ as → r a d → (p a = false → K none n) → (p a = true → K (some (.int (f a))) n) → step d n K) → Q ((as.filter p).foldl (fun acc e => putI acc (f e)) acc) n → intsW step xs n acc Q
  | _, _, _, .nil, _, _, q => q
  | a :: as, _, acc, .cons h t, hl, hs, q => by
    have hl' : acc.length + (as.length + 1) < 4095 := hl
    refine hs a _ _ (List.mem_cons_self ..) h (fun e => ?_) fun e => ?_
    · rw [List.filter_cons, if_neg (by rw [e]; simp)] at q
      exact intsW_filter p f t (by omega) (fun a d K m => hs a d K (List.mem_cons_of_mem _ m)) q
    · rw [List.filter_cons, if_pos e] at q
      have := putI_le acc (f a)
      refine ⟨by omega, intsW_filter p f t (by omega) (fun a d K m => hs a d K (List.mem_cons_of_mem _ m)) q⟩
theorem s_is_short_list {size : Nat} {es : E} {t t' : Bool} {ds : List D} (h : Lv B Ψ 5) (ok : EdOk size es) (hl : ds.length ≤ 1000) (hd : ∀ x ∈ ds, x ≠ .pur) (ho : (D.lst t' ds).ok 60 = true) (q : Q (.bl (shortL size es ds)) n) :
    Ψ i_is_short_set [.int size, .lst t (es.map eD), .lst t' ds] n Q R := by
  refine u_is_short_set h fun Ψ h => ?_
  walk_at "w"
  refine s_check_edges h.le ok (nb ?_)
  walk_at "w"
  refine ⟨sl_le (by simp), ?_⟩
  walk_at "w"
  refine ⟨⟨ho, rfl⟩, ?_⟩
  rw [eqv_nil]
  unfold shortL at q
  cases he : ds.isEmpty with
  | true =>
    rw [he] at q
    walk_at "w"
    exact q
  | false =>
    rw [he] at q
    walk_at "w"
    refine compW_map (r := fun a d => a = d) (r' := fun b d => d = D.bl b) (inB size) (a2_eq ds) (sl_le (by omega)) (fun x d n K m hr k => ?_) fun bs hbs => ?_
    · subst hr
      walk_at "w"
      refine s_count_any h.le (hd x m) (nb ?_)
      cases x with
      | int i =>
        by_cases hi : 0 ≤ i
        · rw [show cntB (.int i) = true from decide_eq_true hi]
          walk_at "w"
          refine k _ ?_
          simp [inB, hi]
        · rw [show cntB (.int i) = false from decide_eq_false hi]
          walk_at "w"
          refine k _ ?_
          simp [inB, hi]
      | _ =>
        walk_at "w"
        exact k _ rfl
    walk_at "w"
    rw [bools_a2 hbs]
    walk_at "w"
    cases ha : ds.all (inB size) with
    | false =>
      rw [show ((ds.map (inB size)).all id) = false by rw [List.all_map]; exact ha]
      rw [ha] at q
      walk_at "w"
      exact q
    | true =>
      rw [show ((ds.map (inB size)).all id) = true by rw [List.all_map]; exact ha]
      rw [ha] at q
      obtain ⟨e1, e2⟩ := all_in ha
      obtain ⟨is, rfl, e2, q, hl'⟩ : ∃ is : List Int, ds = is.map D.int ∧ (∀ i ∈ is, 0 ≤ i ∧ i < size) ∧ Q (.bl (shortI es is)) n ∧ is.length ≤ 1000 := ⟨ds.map dI, e1, e2, q, by rw [List.length_map]; exact hl⟩
      walk_at "w"
      refine ⟨⟨by omega, by omega, by omega, by simp; omega⟩, ?_⟩
      refine compW_map (r := fun (a : Nat) d => d = D.int (1 + (a : Int))) (r' := fun b d => d = D.bl b) (fun i => decide (is.getD (i + 1) 0 ≤ is.getD i 0)) (a2_map _ _) (sl_le (by simp; omega)) (fun i d n K m hr k => ?_) fun bs' hbs' => ?_
      · subst hr
        rw [List.length_map, List.mem_range] at m
        have h1 : i < is.length := by omega
        have h2 : i + 1 < is.length := by omega
        walk_at "w"
        rw [atI_map (i := i) (by omega) (List.getElem?_eq_getElem h1)]
        walk_at "w"
        rw [atI_map (i := i + 1) (by omega) (List.getElem?_eq_getElem h2)]
        walk_at "w"
        refine k _ ?_
        rw [List.getD_eq_getElem?_getD, List.getD_eq_getElem?_getD, List.getElem?_eq_getElem h1, List.getElem?_eq_getElem h2]
        rfl
      walk_at "w"
      rw [bools_a2 hbs']
      walk_at "w"
      unfold shortI dropB at q
      rw [show (Int.toNat (((is.map D.int).length : Int) - 1)) = is.length - 1 by simp]
      generalize ((List.range (is.length - 1)).map fun i => decide (is.getD (i + 1) 0 ≤ is.getD i 0)).any id = b at q ⊢
      cases b with
      | true =>
        walk_at "w"
        exact q
      | false =>
        walk_at "w"
        refine ⟨rfl, ?_⟩
        refine intsW_filter (r := fun e d => d = eD e) (fun e => decide (e.1 ∈ is)) (fun e => e.2) (a2_map eD es) (by have := ok.few; simp; omega) (fun e d K m hr k0 k1 => ?_) ?_
        · subst hr
          walk_at "ww"
          refine ⟨?_, ?_⟩
          · exact oks_ints is 60
          · rw [Vm.any_ints]
            cases hm : decide (e.1 ∈ is) with
            | false => walk_at "w"; exact k0 hm
            | true => walk_at "w"; exact k1 hm
        · walk_at "w"
          refine Eq.mp (congrArg (fun b => Q (.bl b) n) ?_) q
          rw [Bool.not_false, Bool.true_and]
          refine decide_eq_decide.mpr ?_
          rw [List.length_map]
          exact (Int.ofNat_lt (n := (rightsOf es is).length) (m := is.length)).symm
end
end K70
namespace K70
open PySem PySem.Spec L2 Vm Pm
local macro_rules | `(tactic| walk_at "w") => `(tactic| conv => whnf)
local macro_rules | `(tactic| walk_at "ww") => `(tactic| ((conv => whnf); repeat ((refine And.intro ?_ ?_); (next => first | exact rfl | exact ⟨rfl, rfl⟩ | exact True.intro | (refine sl_le ?_; simp; done) | (refine sl_lt ?_; simp; done)); conv => whnf)))
section
variable {Ψ : Nat → FnSem} {n : Nat} {Q : D → Nat → Prop} {R : RK}
theorem s_is_short_other {size : Nat} {es : E} {t : Bool} {d : D} (h : Lv B Ψ 5) (ok : EdOk size es) (np : d ≠ .pur) (nl : ∀ t ds, d ≠ .lst t ds) (q : Q (.bl false) n) : Ψ i_is_short_set [.int size, .lst t (es.map eD), d] n Q R := by
  refine u_is_short_set h fun Ψ h => ?_
  walk_at "w"
  refine s_check_edges h.le ok (nb ?_)
  walk_at "w"
  cases d <;> first | exact absurd rfl np | exact absurd rfl (nl _ _) | skip
  all_goals walk_at "w"
  all_goals exact q
theorem s_law_are_counts {t : Bool} {ds : List D} (h : Lv B Ψ 1) (hl : ds.length ≤ 1000) (hd : ∀ x ∈ ds, x ≠ .pur) (q : Q (.bl (ds.all cntB)) n) : Ψ i__law_are_counts [.lst t ds, .int (ds.length : Nat)] n Q R := by
  refine u__law_are_counts h fun Ψ h => ?_
  walk_at "w"
  refine ⟨⟨rfl, rfl⟩, ?_⟩
  rw [show D.eqv (D.int (ds.length : Nat)) (D.int (ds.length : Nat)) = true by simp [D.eqv]]
  walk_at "w"
  refine compW_map (r := fun a d => a = d) (r' := fun b d => d = D.bl b) cntB (a2_eq ds) (sl_le (by omega)) (fun x d n K m hr k => ?_) fun bs hbs => ?_
  · subst hr
    walk_at "w"
    cases x <;> first | exact absurd rfl (hd _ m) | skip
    all_goals walk_at "w"
    all_goals exact k _ rfl
  walk_at "w"
  rw [bools_a2 hbs]
  walk_at "w"
  rw [show ((ds.map cntB).all id) = ds.all cntB by rw [List.all_map]; rfl]
  exact q
end
end K70
namespace K70
open PySem PySem.Spec L2 Vm Pm
local macro_rules | `(tactic| walk_at "w") => `(tactic| conv => whnf)
local macro_rules | `(tactic| walk_at "ww") => `(tactic| ((conv => whnf); repeat ((refine And.intro ?_ ?_); (next => first | exact rfl | exact ⟨rfl, rfl⟩ | exact True.intro | (refine sl_le ?_; simp; done) | (refine sl_lt ?_; simp; done)); conv => whnf)))
section
variable {Ψ : Nat → FnSem} {n : Nat} {Q : D → Nat → Prop} {R : RK}
theorem foldl_put : ∀ (l : List (Int × Int)) (acc : List Int), acc.Nodup → (l.foldl (fun acc e => putI acc e.2) acc).Nodup ∧ ∀ j, j ∈ l.foldl (fun acc e => putI acc e.2) acc ↔ (j ∈ acc ∨ ∃ e ∈ l, e.2 = j)
  | [], acc, h => ⟨h, fun j => by simp⟩
  | e :: l, acc, h => by
    have h1 : (putI acc e.2).Nodup := by
      unfold putI
      split
      · exact h
      · rename_i g
        exact List.nodup_append.mpr ⟨h, by simp, fun a ha b hb => by
          rw [List.mem_singleton] at hb
          subst hb
          intro z
          exact g (z ▸ ha)⟩
    obtain ⟨a, b⟩ := foldl_put l (putI acc e.2) h1
    refine ⟨a, fun j => ?_⟩
    have mem : j ∈ putI acc e.2 ↔ (j ∈ acc ∨ e.2 = j) := by
      unfold putI
      split
      · rename_i g
        exact ⟨.inl, fun z => z.elim id fun z => z ▸ g⟩
      · rw [List.mem_append, List.mem_singleton]
        exact or_congr Iff.rfl eq_comm
    show j ∈ List.foldl _ (putI acc e.2) l ↔ _
    rw [b j, mem]
    simp only [List.mem_cons, exists_eq_or_imp, or_assoc]
/-- the right ones, by the law's own count -/
def lawRights (size : Nat) (es : E) (is : List Int) : List Nat := (List.range size).filter fun r => (is.map fun l => decide ((l, (r : Int)) ∈ es)).any id
theorem rights_len {size : Nat} {es : E} {is : List Int} (hb : ∀ e ∈ es, 0 ≤ e.1 ∧ e.1 < size ∧ 0 ≤ e.2 ∧ e.2 < size) : (rightsOf es is).length = (lawRights size es is).length := by
  obtain ⟨a, b⟩ := foldl_put (es.filter fun e => decide (e.1 ∈ is)) [] (by simp)
  have c : ((lawRights size es is).map fun (r : Nat) => (r : Int)).Nodup := by
    exact List.Pairwise.map _ (fun x y (h : x ≠ y) => by omega) (List.Pairwise.filter _ List.nodup_range)
  have m : ∀ j, j ∈ rightsOf es is ↔ j ∈ (lawRights size es is).map fun (r : Nat) => (r : Int) := fun j => by
    unfold rightsOf
    rw [b j]
    constructor
    · rintro (z | ⟨e, he, rfl⟩)
      · cases z
      · obtain ⟨h1, h2⟩ := List.mem_filter.mp he
        have h2 := of_decide_eq_true h2
        have hb' := hb e h1
        refine List.mem_map.mpr ⟨e.2.toNat, List.mem_filter.mpr ⟨List.mem_range.mpr (by omega), ?_⟩, by omega⟩
        rw [List.any_map, List.any_eq_true]
        refine ⟨e.1, h2, decide_eq_true ?_⟩
        rw [show ((e.2.toNat : Nat) : Int) = e.2 by omega]
        exact h1
    · intro z
      obtain ⟨r, hr, rfl⟩ := List.mem_map.mp z
      obtain ⟨h1, h2⟩ := List.mem_filter.mp hr
      rw [List.any_map, List.any_eq_true] at h2
      obtain ⟨l, hl, h3⟩ := h2
      exact .inr ⟨(l, (r : Int)), List.mem_filter.mpr ⟨of_decide_eq_true h3, decide_eq_true hl⟩, rfl⟩
  have z1 := nodup_le (l := rightsOf es is) (m := (lawRights size es is).map fun (r : Nat) => (r : Int)) a fun x h => (m x).mp h
  have z2 := nodup_le (l := (lawRights size es is).map fun (r : Nat) => (r : Int)) (m := rightsOf es is) c fun x h => (m x).mpr h
  rw [List.length_map] at z1 z2
  omega
end
end K70
namespace K70
open PySem PySem.Spec L2 Vm Pm
local macro_rules | `(tactic| walk_at "w") => `(tactic| conv => whnf)
local macro_rules | `(tactic| walk_at "ww") => `(tactic| ((conv => whnf); repeat ((refine And.intro ?_ ?_); (next => first | exact rfl | exact ⟨rfl, rfl⟩ | exact True.intro | (refine sl_le ?_; simp; done) | (refine sl_lt ?_; simp; done)); conv => whnf)))
section
variable {Ψ : Nat → FnSem} {n : Nat} {Q : D → Nat → Prop} {R : RK}
theorem all_cnt {ds : List D} (h : ds.all cntB = true) : ∃ is : List Int, ds = is.map D.int ∧ ∀ i ∈ is, 0 ≤ i := by
  induction ds with
  | nil => exact ⟨[], rfl, by simp⟩
  | cons d ds ih =>
    rw [List.all_cons, Bool.and_eq_true] at h
    obtain ⟨is, e, hi⟩ := ih h.2
    cases d with
    | int i => exact ⟨i :: is, by rw [e]; rfl, fun j m => (List.mem_cons.mp m).elim (fun z => z ▸ of_decide_eq_true h.1) (hi j)⟩
    | _ => cases h.1
theorem in_cnt {size : Nat} {ds : List D} (h : ds.all (inB size) = true) : ds.all cntB = true := by
  refine List.all_eq_true.mpr fun d m => ?_
  have := List.all_eq_true.mp h d m
  cases d with
  | int i =>
    have : (decide (0 ≤ i) && decide (i < size)) = true := this
    rw [Bool.and_eq_true] at this
    exact this.1
  | _ => cases this
theorem s_law_is_short_other {size : Nat} {es : E} {t : Bool} {d : D} (h : Lv B Ψ 2) (np : d ≠ .pur) (nl : ∀ t ds, d ≠ .lst t ds) (q : Q (.bl false) n) : Ψ i__law_is_short [.int size, .lst t (es.map eD), d] n Q R := by
  refine u__law_is_short h fun Ψ h => ?_
  cases d <;> first | exact absurd rfl np | exact absurd rfl (nl _ _) | skip
  all_goals walk_at "w"
  all_goals exact q
theorem s_law_is_short {size : Nat} {es : E} {t t' : Bool} {ds : List D} (h : Lv B Ψ 2) (ok : EdOk size es) (hl : ds.length ≤ 1000) (hd : ∀ x ∈ ds, x ≠ .pur) (ho : (D.lst t' ds).ok 60 = true) (q : Q (.bl (shortL size es ds)) n) :
    Ψ i__law_is_short [.int size, .lst t (es.map eD), .lst t' ds] n Q R := by
  refine u__law_is_short h fun Ψ h => ?_
  walk_at "w"
  refine ⟨sl_le (by simp), ?_⟩
  walk_at "w"
  refine ⟨⟨ho, rfl⟩, ?_⟩
  rw [eqv_nil]
  unfold shortL at q
  cases he : ds.isEmpty with
  | true =>
    rw [he] at q
    walk_at "w"
    exact q
  | false =>
    rw [he] at q
    walk_at "w"
    refine s_law_are_counts h.le hl hd (nb ?_)
    cases ha : ds.all cntB with
    | false =>
      have z : ds.all (inB size) = false := by
        cases e : ds.all (inB size) with
        | false => rfl
        | true => rw [in_cnt e] at ha; cases ha
      rw [z] at q
      walk_at "w"
      exact q
    | true =>
      obtain ⟨is, rfl, h0⟩ := all_cnt ha
      walk_at "w"
      rw [ints_a2 (a2_map D.int is)]
      walk_at "w"
      have ne : is ≠ [] := fun z => by rw [z] at he; cases he
      refine ⟨List.length_pos_iff.mpr ne, fun m hm hmax => ?_⟩
      walk_at "w"
      by_cases hs : (size : Int) ≤ m
      · rw [decide_eq_true hs]
        have z : (is.map D.int).all (inB size) = false := by
          cases e : (is.map D.int).all (inB size) with
          | false => rfl
          | true =>
            have := List.all_eq_true.mp e (.int m) (List.mem_map.mpr ⟨m, hm, rfl⟩)
            have : (decide (0 ≤ m) && decide (m < size)) = true := this
            simp at this
            omega
        rw [z] at q
        walk_at "w"
        exact q
      · rw [decide_eq_false hs]
        have z : (is.map D.int).all (inB size) = true := by
          refine List.all_eq_true.mpr fun d md => ?_
          obtain ⟨i, mi, rfl⟩ := List.mem_map.mp md
          have h1 := h0 i mi
          have h2 := hmax i mi
          show (decide (0 ≤ i) && decide (i < size)) = true
          rw [decide_eq_true h1, decide_eq_true (by omega)]
          rfl
        rw [z] at q
        have q : Q (.bl (shortI es is)) n := by
          have e : (is.map D.int).map dI = is := by rw [List.map_map]; exact List.map_id' _
          rw [e] at q
          exact q
        have hl' : is.length ≤ 1000 := by simpa using hl
        walk_at "w"
        refine ⟨⟨by omega, by omega, by omega, by simp; omega⟩, ?_⟩
        refine compW_map (r := fun (a : Nat) d => d = D.int (1 + (a : Int))) (r' := fun b d => d = D.bl b) (fun i => decide (is.getD (i + 1) 0 ≤ is.getD i 0)) (a2_map _ _) (sl_le (by simp; omega)) (fun i d n K m hr k => ?_) fun bs' hbs' => ?_
        · subst hr
          rw [List.length_map, List.mem_range] at m
          have h1 : i < is.length := by omega
          have h2 : i + 1 < is.length := by omega
          walk_at "w"
          rw [atI_map (i := i) (by omega) (List.getElem?_eq_getElem h1)]
          walk_at "w"
          rw [atI_map (i := i + 1) (by omega) (List.getElem?_eq_getElem h2)]
          walk_at "w"
          refine k _ ?_
          rw [List.getD_eq_getElem?_getD, List.getD_eq_getElem?_getD, List.getElem?_eq_getElem h1, List.getElem?_eq_getElem h2]
          rfl
        walk_at "w"
        rw [bools_a2 hbs']
        walk_at "w"
        unfold shortI dropB at q
        rw [show (Int.toNat (((is.map D.int).length : Int) - 1)) = is.length - 1 by simp]
        generalize ((List.range (is.length - 1)).map fun i => decide (is.getD (i + 1) 0 ≤ is.getD i 0)).any id = b at q ⊢
        cases b with
        | true =>
          walk_at "w"
          exact q
        | false =>
          have hs5 := ok.sz
          walk_at "ww"
          refine ⟨⟨by omega, by omega⟩, ?_⟩
          rw [Int.toNat_natCast]
          refine compW_filter (r := fun (a : Nat) d => d = nD a) (r' := fun b d => d = nD b) (fun r : Nat => (is.map fun l => decide ((l, (r : Int)) ∈ es)).any id) id (a2_map nD _) (sl_le (by simp; omega)) (fun a d n K m e k0 k1 => ?_) fun ds hds => ?_
          · subst e
            walk_at "ww"
            refine compW_map (r := fun l d => d = D.int l) (r' := fun b d => d = D.bl b) (fun l => decide ((l, (a : Int)) ∈ es)) (a2_map D.int is) (sl_le (by omega)) (fun l d n K m hr k => ?_) fun bs hbs => ?_
            · subst hr
              walk_at "ww"
              refine ⟨?_, ?_⟩
              · exact oks_edges es 59
              · rw [show D.tup [D.int l, D.int (a : Nat)] = eD (l, (a : Int)) from rfl, any_edges]
                walk_at "w"
                exact k _ rfl
            walk_at "ww"
            rw [bools_a2 hbs]
            walk_at "w"
            cases hb : (is.map fun l => decide ((l, (a : Int)) ∈ es)).any id with
            | true => walk_at "w"; exact k1 _ hb rfl
            | false => walk_at "w"; exact k0 hb
          · walk_at "ww"
            refine Eq.mp (congrArg (fun b => Q (.bl b) n) ?_) q
            rw [Bool.not_false, Bool.true_and]
            refine decide_eq_decide.mpr ?_
            have e1 := hds.length
            rw [List.map_id] at e1
            have e2 := rights_len (is := is) ok.bd
            unfold lawRights at e2
            rw [List.length_map, ← e1, ← e2]
            exact (Int.ofNat_lt (n := (rightsOf es is).length) (m := is.length)).symm
end
end K70
namespace K70
open PySem PySem.Spec L2 Vm Pm
local macro_rules | `(tactic| walk_at "w") => `(tactic| conv => whnf)
local macro_rules | `(tactic| walk_at "ww") => `(tactic| ((conv => whnf); repeat ((refine And.intro ?_ ?_); (next => first | exact rfl | exact ⟨rfl, rfl⟩ | exact True.intro | (refine sl_le ?_; simp; done) | (refine sl_lt ?_; simp; done)); conv => whnf)))
section
variable {Ψ : Nat → FnSem} {n : Nat} {Q : D → Nat → Prop} {R : RK}
/-- all rising lists below k -/
def setsL : Nat → List (List Nat)
  | 0 => [[]]
  | k + 1 => setsL k ++ (setsL k).map fun s => s ++ [k]
theorem len_setsL : ∀ k, (setsL k).length = 2 ^ k
  | 0 => rfl
  | k + 1 => by unfold setsL; rw [List.length_append, List.length_map, len_setsL k, Nat.pow_succ]; omega
theorem mem_setsL : ∀ {k : Nat} {s : List Nat}, s ∈ setsL k → s.length ≤ k ∧ ∀ a ∈ s, a < k
  | 0, s, h => by
    rw [setsL, List.mem_singleton] at h
    subst h
    exact ⟨Nat.le_refl _, fun a m => by cases m⟩
  | k + 1, s, h => by
    unfold setsL at h
    rcases List.mem_append.mp h with h | h
    · have := mem_setsL h
      exact ⟨by omega, fun a m => Nat.lt_succ_of_lt (this.2 a m)⟩
    · obtain ⟨s', m, rfl⟩ := List.mem_map.mp h
      have := mem_setsL m
      refine ⟨by simp; omega, fun a m => ?_⟩
      rcases List.mem_append.mp m with m | m
      · exact Nat.lt_succ_of_lt (this.2 a m)
      · rw [List.mem_singleton] at m; omega
theorem s_law_sets {size : Nat} (h : Lv B Ψ 1) (hs : size ≤ 5) (q : ∀ ds, A2 Yo (setsL size) ds → Q (.lst true ds) n) : Ψ i__law_sets [.int size] n Q R := by
  refine u__law_sets h fun Ψ h => ?_
  walk_at "ww"
  refine ⟨⟨by omega, by omega⟩, ?_⟩
  refine forW_a2 (as := List.range size) (r := fun (a : Nat) d => d = nD a) (fun pre ρ n' => n' = n ∧ ∃ ds x2 x3, ρ = [.pure (.int size), .pure (.lst true ds), x2, x3] ∧ A2 Yo (setsL pre.length) ds) (by rw [Int.toNat_natCast]; exact a2_map nD _) ⟨rfl, _, _, _, rfl, .cons ⟨rfl, rfl⟩ .nil⟩ ?_ ?_
  · rintro pre a post d ρ n' next e rfl ⟨rfl, ds, x2, x3, rfl, hds⟩ nx
    obtain ⟨rfl, ha⟩ := range_split e
    have l1 := len_setsL pre.length
    have l2 : 2 ^ pre.length ≤ 2 ^ 5 := Nat.pow_le_pow_right (by omega) (by omega)
    have l3 := hds.length
    walk_at "ww"
    refine compW_map (r := Yo) (r' := Yo) (fun s : List Nat => s ++ [pre.length]) hds (sl_le (by omega)) (fun s d n K m hr k => ?_) fun ds' hds' => ?_
    · obtain ⟨hr, hr'⟩ := hr
      obtain ⟨t', rfl⟩ := is_nats.mp hr
      have := mem_setsL m
      walk_at "ww"
      refine ⟨sl_le (by simp; omega), ?_⟩
      walk_at "ww"
      refine k _ ?_
      have := @yo_nats (s ++ [pre.length])
      rw [List.map_append] at this
      exact this
    · have l4 := hds'.length
      rw [List.length_map] at l4
      walk_at "ww"
      refine ⟨sl_le (by omega), ?_⟩
      walk_at "ww"
      refine nx _ _ ⟨rfl, _, _, _, rfl, ?_⟩
      rw [List.length_append, List.length_singleton]
      exact hds.append hds'
  · rintro ρ n' ⟨rfl, ds, x2, x3, rfl, hds⟩
    rw [List.length_range] at hds
    walk_at "ww"
    exact q _ hds
end
end K70
namespace K70
open PySem PySem.Spec L2 Vm Pm
local macro_rules | `(tactic| walk_at "w") => `(tactic| conv => whnf)
local macro_rules | `(tactic| walk_at "wl") => `(tactic| ((conv => whnf); repeat ((refine And.intro ?_ ?_); (next => first | exact rfl | exact ⟨rfl, rfl⟩ | exact True.intro | (refine sl_le ?_; omega) | (refine sl_lt ?_; omega)); conv => whnf)))
section
/-- a copy -/
def Cp (x y : D) : Prop := y.stale = x.stale ∧ y.fresh = true
theorem cp_list {xs ys : List D} (h : A2 Cp xs ys) : D.stales ys = D.stales xs ∧ D.freshs ys = true := by
  refine ⟨?_, fresh_of fun d m => let ⟨_, _, e⟩ := h.right m; e.2⟩
  induction h with
  | nil => rfl
  | cons a _ ih => rw [D.stales, D.stales, a.1, ih]
theorem s_law_same : ∀ {k : Nat} {a : D} {Ψ : Nat → FnSem} {n : Nat} {Q : D → Nat → Prop} {R : RK}, Fit k a → k ≤ 50 → Lv B Ψ (k + 1) → (∀ d, Cp a d → Q d n) → Ψ i__law_same [a] n Q R := by
  intro k
  induction k with
  | zero =>
    intro a Ψ n Q R ha hk h q
    refine u__law_same h fun Ψ h => ?_
    obtain ⟨hl, h0⟩ := ha
    cases a <;> first | (cases hl; done) | skip
    all_goals walk_at "wl"
    all_goals exact q _ ⟨rfl, rfl⟩
  | succ k ih =>
    intro a Ψ n Q R ha hk h q
    refine u__law_same h fun Ψ h => ?_
    rcases ha with ha | ⟨xs, ⟨t, rfl⟩ | rfl, hl, hx⟩
    · obtain ⟨hl, h0⟩ := ha
      cases a <;> first | (cases hl; done) | skip
      all_goals walk_at "wl"
      all_goals exact q _ ⟨rfl, rfl⟩
    · walk_at "wl"
      refine compW_map (r := fun a d => a = d) (r' := Cp) id (a2_eq xs) (sl_le (by omega)) (fun x d n K m hr kk => ?_) fun ds hds => ?_
      · subst hr
        walk_at "wl"
        refine ih (hx x m) (by omega) h.le fun d hd => (nb ?_)
        walk_at "w"
        exact kk _ hd
      · rw [List.map_id] at hds
        obtain ⟨e1, e2⟩ := cp_list hds
        walk_at "w"
        exact q _ ⟨by rw [D.stale, D.stale, e1], e2⟩
    · walk_at "wl"
      refine compW_map (r := fun a d => a = d) (r' := Cp) id (a2_eq xs) (sl_le (by omega)) (fun x d n K m hr kk => ?_) fun ds hds => ?_
      · subst hr
        walk_at "wl"
        refine ih (hx x m) (by omega) h.le fun d hd => (nb ?_)
        walk_at "w"
        exact kk _ hd
      · rw [List.map_id] at hds
        obtain ⟨e1, e2⟩ := cp_list hds
        walk_at "wl"
        exact q _ ⟨by rw [D.stale, D.stale, e1], e2⟩
end
end K70
namespace K70
open PySem PySem.Spec L2 Vm Pm
local macro_rules | `(tactic| walk_at "w") => `(tactic| conv => whnf)
local macro_rules | `(tactic| walk_at "wl") => `(tactic| ((conv => whnf); repeat ((refine And.intro ?_ ?_); (next => first | exact rfl | exact ⟨rfl, rfl⟩ | exact True.intro | (refine sl_le ?_; omega) | (refine sl_lt ?_; omega)); conv => whnf)))
section
variable {Ψ : Nat → FnSem} {n : Nat} {Q : D → Nat → Prop} {R : RK}
theorem fit_int (i : Int) (k : Nat) : Fit k (.int i) := fit_leaf rfl rfl k
theorem fit_list {ds : List D} {t : Bool} {k : Nat} (h : ds.length ≤ 1000000) (hd : ∀ d ∈ ds, Fit k d) : Fit (k + 1) (.lst t ds) := .inr ⟨_, .inl ⟨t, rfl⟩, h, hd⟩
theorem fit_edges {es : E} {t : Bool} (h : es.length ≤ 1000000) (k : Nat) : Fit (k + 2) (.lst t (es.map eD)) :=
  .inr ⟨_, .inl ⟨t, rfl⟩, by simpa using h, fun d m => by
    obtain ⟨e, _, rfl⟩ := List.mem_map.mp m
    exact .inr ⟨[.int e.1, .int e.2], .inr rfl, by simp, fun x hx => by
      rcases List.mem_cons.mp hx with rfl | hx
      · exact fit_int _ k
      · rw [List.mem_singleton] at hx; subst hx; exact fit_int _ k⟩⟩
theorem fit_nats {xs : List Nat} {t : Bool} (h : xs.length ≤ 1000000) (k : Nat) : Fit (k + 1) (.lst t (xs.map nD)) := fit_list (by simpa using h) fun d m => by
  obtain ⟨i, _, rfl⟩ := List.mem_map.mp m
  exact fit_int _ k
theorem fit_ints {xs : List Int} {t : Bool} (h : xs.length ≤ 1000000) (k : Nat) : Fit (k + 1) (.lst t (xs.map D.int)) := fit_list (by simpa using h) fun d m => by
  obtain ⟨i, _, rfl⟩ := List.mem_map.mp m
  exact fit_int _ k
theorem fit_cons {a : D} {ds : List D} {t : Bool} {k : Nat} (ha : Fit k a) (h : Fit (k + 1) (.lst t ds)) (hl : ds.length ≤ 999999) : Fit (k + 1) (.lst t (a :: ds)) := fit_list (by simp; omega) fun d m => by
  rcases List.mem_cons.mp m with rfl | m
  · exact ha
  · rcases h with h | ⟨xs, ⟨t', e⟩ | e, _, hx⟩
    · cases h.1
    · cases e; exact hx d m
    · cases e
theorem fit_nil {t : Bool} {k : Nat} : Fit (k + 1) (.lst t []) := fit_list (by simp) fun d m => by cases m
theorem ints_st : ∀ {xs : List D} {is : List Int}, D.stales xs = is.map D.int → xs = is.map D.int
  | [], [], _ => rfl
  | [], _ :: _, e => by simp [D.stales] at e
  | _ :: _, [], e => by simp [D.stales] at e
  | x :: xs, i :: is, e => by
    simp only [D.stales, List.map_cons, List.cons.injEq] at e
    have hx : x = .int i := by
      have := e.1
      cases x <;> simp [D.stale] at this
      rw [this]
    rw [hx, List.map_cons, ints_st e.2]
theorem ints_of_st {d : D} {t : Bool} {is : List Int} (e : d.stale = (D.lst t (is.map D.int)).stale) : ∃ t', d = .lst t' (is.map D.int) := by
  have q : (D.lst t (is.map D.int)).stale = .lst false (is.map D.int) := by
    show D.lst false (D.stales (is.map D.int)) = _
    rw [stales_of (f := D.int) fun _ => rfl]
  rw [q] at e
  cases d with
  | lst t' xs =>
    have e : D.lst false (D.stales xs) = .lst false (is.map D.int) := e
    rw [D.lst.injEq] at e
    exact ⟨t', by rw [ints_st e.2]⟩
  | _ => cases e
/-- the dicts that are asked: none, one of ints -/
inductive Odd : D → D → Prop where
  | nil (t t' : Bool) : Odd (.dic t []) (.dic t' [])
  | one (t t' u u' : Bool) (is : List Int) : Odd (.dic t [(.inl 0, .lst u (is.map D.int))]) (.dic t' [(.inl 0, .lst u' (is.map D.int))])
theorem all2_ints (k : Nat) : ∀ is : List Int, all2 (D.same (k + 1)) (is.map D.int) (is.map D.int) = true
  | [] => rfl
  | i :: is => by
    show (D.same (k + 1) (.int i) (.int i) && all2 _ _ _) = true
    rw [all2_ints k is]
    simp [D.same, D.fe]
theorem odd_eq {a b : List (Key × D)} {t t' : Bool} (h : Odd (.dic t a) (.dic t' b)) : dEq a b = true := by
  cases h with
  | nil => rfl
  | one _ _ u u' is =>
    have z : D.same 50 (.lst u (is.map D.int)) (.lst u' (is.map D.int)) = true := by
      show (D.fe _ _ || all2 (D.same 49) _ _) = true
      rw [all2_ints 48 is]
      simp
    show (decide ((1 : Nat) = 1) && (D.same 50 (.lst u (is.map D.int)) (.lst u' (is.map D.int)) && true)) = true
    rw [z]
    rfl
theorem s_exact_odd {a b : D} (o : Odd a b) (h : Lv B Ψ 1) (q : Q (.bl true) n) : Ψ i__law_exact [a, b] n Q R := by
  refine u__law_exact h fun Ψ h => ?_
  have e : ∃ t t' x y, a = .dic t x ∧ b = .dic t' y := by cases o <;> exact ⟨_, _, _, _, rfl, rfl⟩
  obtain ⟨t, t', x, y, rfl, rfl⟩ := e
  walk_at "wl"
  refine ⟨odd_eq o, ?_⟩
  walk_at "w"
  exact q
theorem s_law_same_nil {t : Bool} (h : Lv B Ψ 1) (q : ∀ d, Odd (.dic t []) d → d.fresh = true → Q d n) : Ψ i__law_same [.dic t []] n Q R := by
  refine u__law_same h fun Ψ h => ?_
  walk_at "w"
  refine ⟨⟨by simp, by simp, by simp, by simp⟩, ?_⟩
  walk_at "wl"
  exact q _ (.nil _ true) rfl
theorem nodics_ints : ∀ is : List Int, D.nodics (is.map D.int) = true
  | [] => rfl
  | _ :: is => nodics_ints is
theorem s_law_same_one {t u : Bool} {is : List Int} (h : Lv B Ψ 3) (hl : is.length ≤ 1000) (q : ∀ d, Odd (.dic t [(.inl 0, .lst u (is.map D.int))]) d → d.fresh = true → Q d n) : Ψ i__law_same [.dic t [(.inl 0, .lst u (is.map D.int))]] n Q R := by
  refine u__law_same h fun Ψ h => ?_
  walk_at "w"
  refine ⟨⟨by simp, by simp, by simp, by simp⟩, ?_⟩
  walk_at "w"
  refine ⟨by show (D.nodics (is.map D.int) && true) = true; rw [nodics_ints]; rfl, ?_⟩
  have ep : pairsd [((.inl 0 : Key), D.lst u (is.map D.int))] = [pairD (.int 0) (.lst u (is.map D.int))] := by
    unfold pairsd
    simp [kget]
  rw [ep]
  walk_at "w"
  refine s_law_same (k := 1) (fit_list (by simp; omega) fun d m => by obtain ⟨i, _, rfl⟩ := List.mem_map.mp m; exact fit_int _ 0) (by omega) h.le fun d hd => ?_
  obtain ⟨e1, e2⟩ := hd
  obtain ⟨t', rfl⟩ := ints_of_st e1
  walk_at "w"
  refine ⟨sl_lt (by simp), ?_⟩
  walk_at "wl"
  exact q _ (.one t true u t' is) (by
    show (true && (D.fresh (.lst t' (is.map D.int)) && true)) = true
    rw [e2]; rfl)
end
end K70
namespace K70
open PySem PySem.Spec L2 Vm Pm
local macro_rules | `(tactic| walk_at "w") => `(tactic| conv => whnf)
local macro_rules | `(tactic| walk_at "wl") => `(tactic| ((conv => whnf); repeat ((refine And.intro ?_ ?_); (next => first | exact rfl | exact ⟨rfl, rfl⟩ | exact True.intro | (refine sl_le ?_; omega) | (refine sl_lt ?_; omega)); conv => whnf)))
local macro_rules | `(tactic| walk_at "ww") => `(tactic| ((conv => whnf); repeat ((refine And.intro ?_ ?_); (next => first | exact rfl | exact ⟨rfl, rfl⟩ | exact True.intro | (refine sl_le ?_; simp; done) | (refine sl_lt ?_; simp; done)); conv => whnf)))
section
variable {Ψ : Nat → FnSem} {n : Nat} {Q : D → Nat → Prop} {R : RK}
theorem map_dI (ls : List Int) : (ls.map D.int).map dI = ls := by
  rw [List.map_map]
  conv => rhs; rw [← List.map_id ls]
  exact List.map_congr_left fun _ _ => rfl
theorem short_true {size : Nat} {es : E} {ls : List Int} (hS : Short es size ls) (ha : ls.Pairwise (· ≤ ·)) : shortL size es (ls.map D.int) = true := by
  unfold shortL
  rw [map_dI]
  have h1 : (ls.map D.int).isEmpty = false := by
    cases ls with
    | nil => exact absurd rfl hS.ne
    | cons _ _ => rfl
  have h2 : (ls.map D.int).all (inB size) = true := List.all_eq_true.mpr fun d m => by
    obtain ⟨i, mi, rfl⟩ := List.mem_map.mp m
    have := hS.bd i mi
    show (decide (0 ≤ i) && decide (i < size)) = true
    simp; omega
  have h3 : dropB ls = false := by
    unfold dropB
    rw [List.any_map, List.any_eq_false]
    intro i hi
    rw [List.mem_range] at hi
    have a1 : i < ls.length := by omega
    have a2 : i + 1 < ls.length := by omega
    have le := List.pairwise_iff_getElem.mp ha i (i + 1) a1 a2 (by omega)
    have ne : ls[i] ≠ ls[i + 1] := fun z => by
      have := List.pairwise_iff_getElem.mp hS.nd i (i + 1) a1 a2 (by omega)
      exact this z
    rw [show ((id ∘ fun i => decide (ls.getD (i + 1) 0 ≤ ls.getD i 0)) i) = decide (ls.getD (i + 1) 0 ≤ ls.getD i 0) from rfl, List.getD_eq_getElem?_getD, List.getD_eq_getElem?_getD, List.getElem?_eq_getElem a1, List.getElem?_eq_getElem a2]
    simp
    omega
  have h4 : (rightsOf es ls).length < ls.length := by
    obtain ⟨rs, hr, hm⟩ := hS.few
    obtain ⟨a, b⟩ := foldl_put (es.filter fun e => decide (e.1 ∈ ls)) [] (by simp)
    have := nodup_le (l := rightsOf es ls) (m := rs) a fun x h => by
      rcases (b x).mp h with z | ⟨e, he, rfl⟩
      · cases z
      · obtain ⟨e1, e2⟩ := List.mem_filter.mp he
        exact hm e.1 (of_decide_eq_true e2) e.2 e1
    omega
  unfold shortI
  rw [h1, h2, h3, decide_eq_true h4]
  rfl
/-- the same, also dicts -/
def Like (k : Nat) (a b : D) : Prop := (Fit k a ∧ Fit k b ∧ a.stale = b.stale) ∨ Odd a b
theorem s_exact_like {k : Nat} {a b : D} (l : Like k a b) (hk : k ≤ 50) (h : Lv B Ψ (k + 1)) (q : Q (.bl true) n) : Ψ i__law_exact [a, b] n Q R := by
  rcases l with ⟨l1, l2, l3⟩ | l
  · exact s_exact_same l1 l2 hk h l3 q
  · exact s_exact_odd l (h.le (by omega)) q
theorem s_exact_likes {k : Nat} {t t' : Bool} {xs ys : List D} (hlen : xs.length = ys.length) (hl : xs.length ≤ 1000) (hx : ∀ p ∈ xs.zip ys, Like k p.1 p.2) (hk : k ≤ 50) (h : Lv B Ψ (k + 2)) (q : Q (.bl true) n) : Ψ i__law_exact [.lst t xs, .lst t' ys] n Q R := by
  refine u__law_exact h fun Ψ h => ?_
  walk_at "wl"
  rw [show D.eqv (D.int (xs.length : Nat)) (D.int (ys.length : Nat)) = true by simp [D.eqv, hlen]]
  walk_at "w"
  refine compW_map (r' := fun b d => d = D.bl b) (fun _ => true) zip_pairs (sl_le (by simp; omega)) (fun p d n K m hr kk => ?_) fun ds hds => ?_
  · subst hr
    walk_at "wl"
    refine s_exact_like (hx p m) (by omega) h.le (nb ?_)
    walk_at "w"
    exact kk _ rfl
  · walk_at "w"
    rw [bools_a2 hds]
    walk_at "w"
    rw [all_true]
    exact q
end
end K70
namespace K70
open PySem PySem.Spec L2 Vm Pm
local macro_rules | `(tactic| walk_at "w") => `(tactic| conv => whnf)
local macro_rules | `(tactic| walk_at "wl") => `(tactic| ((conv => whnf); repeat ((refine And.intro ?_ ?_); (next => first | exact rfl | exact ⟨rfl, rfl⟩ | exact True.intro | (refine sl_le ?_; omega) | (refine sl_lt ?_; omega)); conv => whnf)))
local macro_rules | `(tactic| walk_at "ww") => `(tactic| ((conv => whnf); repeat ((refine And.intro ?_ ?_); (next => first | exact rfl | exact ⟨rfl, rfl⟩ | exact True.intro | (refine sl_le ?_; simp; done) | (refine sl_lt ?_; simp; done)); conv => whnf)))
section
variable {Ψ : Nat → FnSem} {n : Nat} {Q : D → Nat → Prop} {R : RK}
theorem st_ed (es : E) : D.stales (es.map eD) = es.map eD := stales_of (f := eD) (fun _ => rfl) es
theorem lent2 {es : E} {t : Bool} (i : Int) : lentD true [.int i, .lst t (es.map eD)] = [.int i, .lst false (es.map eD)] := by
  show [D.int i, .lst false (D.stales (es.map eD))] = _
  rw [st_ed]
/-- what is told: a pairing or a short set -/
inductive JT (es : E) (size : Nat) : D → D → Prop where
  | short {ls : List Int} : prs es size = [] → Short es size ls → ls.Pairwise (· ≤ ·) → ShortIs es size ls → JT es size .non (.lst true (ls.map D.int))
  | pair : heldP es (heldF es size) ∈ prs es size → JT es size (.lst true ((heldP es (heldF es size)).map nD)) .non
theorem JT.uniq {es : E} {size : Nat} {a b a' b' : D} (h : JT es size a b) (h' : JT es size a' b') : a = a' ∧ b = b' := by
  cases h with
  | short h1 _ _ h2 => cases h' with
    | short _ _ _ h3 => rw [h2.uniq h3]; exact ⟨rfl, rfl⟩
    | pair h3 => rw [h1] at h3; cases h3
  | pair h1 => cases h' with
    | short h2 _ _ _ => rw [h2] at h1; cases h1
    | pair _ => exact ⟨rfl, rfl⟩
theorem fresh_map {α : Type} {f : α → D} (h : ∀ a, (f a).fresh = true) (xs : List α) : D.freshs (xs.map f) = true := fresh_of fun d m => by
  obtain ⟨i, _, rfl⟩ := List.mem_map.mp m
  exact h i
theorem plain_map {α : Type} {f : α → D} (h : ∀ a, (f a).plain = true) : ∀ xs : List α, D.plains (xs.map f) = true
  | [] => rfl
  | x :: xs => by
    show ((f x).plain && D.plains (xs.map f)) = true
    rw [h, plain_map h xs]; rfl
theorem lent3 {es : E} {ls : List Int} {t t' : Bool} (i : Int) : lentD true [.int i, .lst t (es.map eD), .lst t' (ls.map D.int)] = [.int i, .lst false (es.map eD), .lst false (ls.map D.int)] := by
  show [D.int i, .lst false (D.stales (es.map eD)), .lst false (D.stales (ls.map D.int))] = _
  rw [st_ed, stales_of (f := D.int) (fun _ => rfl) ls]
theorem short_len {es : E} {size : Nat} {ls : List Int} (hS : Short es size ls) : ls.length ≤ size := by
  have := nodup_le (l := ls) (m := (List.range size).map fun (i : Nat) => (i : Int)) hS.nd fun x h => mem_ints.mpr (hS.bd x h)
  simpa using this
theorem Fit.st : ∀ {k : Nat} {d : D}, Fit k d → Fit k d.stale
  | 0, d, h => by obtain ⟨h1, h2⟩ := h; cases d <;> first | exact ⟨h1, h2⟩ | (cases h1; done)
  | k + 1, d, h => by
    rcases h with h | ⟨xs, ⟨t, rfl⟩ | rfl, hl, hx⟩
    · obtain ⟨h1, h2⟩ := h; cases d <;> first | exact .inl ⟨h1, h2⟩ | (cases h1; done)
    · refine .inr ⟨D.stales xs, .inl ⟨false, rfl⟩, by rw [stales_len]; exact hl, fun x m => ?_⟩
      rw [stales_map] at m
      obtain ⟨y, my, rfl⟩ := List.mem_map.mp m
      exact (hx y my).st
    · refine .inr ⟨D.stales xs, .inr rfl, by rw [stales_len]; exact hl, fun x m => ?_⟩
      rw [stales_map] at m
      obtain ⟨y, my, rfl⟩ := List.mem_map.mp m
      exact (hx y my).st
theorem Fit.unst : ∀ {k : Nat} {d : D}, Fit k d.stale → Fit k d
  | 0, d, h => by obtain ⟨h1, h2⟩ := h; cases d <;> first | exact ⟨h1, h2⟩ | (cases h1; done)
  | k + 1, d, h => by
    rcases h with h | ⟨xs, hxs, hl, hx⟩
    · obtain ⟨h1, h2⟩ := h; cases d <;> first | exact .inl ⟨h1, h2⟩ | (cases h1; done)
    · cases d with
      | lst t ys =>
        have e : D.stales ys = xs := by
          rcases hxs with ⟨t', e⟩ | e
          · rw [D.stale, D.lst.injEq] at e; exact e.2
          · cases e
        subst e
        refine .inr ⟨ys, .inl ⟨t, rfl⟩, by rw [stales_len] at hl; exact hl, fun y m => ?_⟩
        exact (hx y.stale (by rw [stales_map]; exact List.mem_map.mpr ⟨y, m, rfl⟩)).unst
      | tup ys =>
        have e : D.stales ys = xs := by
          rcases hxs with ⟨t', e⟩ | e
          · cases e
          · rw [D.stale, D.tup.injEq] at e; exact e
        subst e
        refine .inr ⟨ys, .inr rfl, by rw [stales_len] at hl; exact hl, fun y m => ?_⟩
        exact (hx y.stale (by rw [stales_map]; exact List.mem_map.mpr ⟨y, m, rfl⟩)).unst
      | _ =>
        rcases hxs with ⟨t', e⟩ | e <;> cases e
theorem one_ok : EdOk 1 [((0 : Int), (0 : Int))] := ⟨by simp, by simp, by simp, by omega⟩
theorem none_ok : EdOk 1 [] := ⟨by simp, by simp, by simp, by omega⟩
theorem prs_one : prs [((0 : Int), (0 : Int))] 1 = [[0]] := by decide +kernel
theorem prs_none : prs [] 1 = [] := by decide +kernel
theorem short_one {ls : List Int} (h : Short [] 1 ls) : ls = [0] := by
  have hl := short_len h
  cases ls with
  | nil => exact absurd rfl h.ne
  | cons x xs =>
    have hx := h.bd x (List.mem_cons_self ..)
    have hl' : xs.length + 1 ≤ 1 := hl
    have : xs = [] := List.length_eq_zero_iff.mp (by omega)
    subst this
    have : x = 0 := by omega
    rw [this]
theorem s_law_just_one {size : Nat} {es : E} {t : Bool} (h : Lv B Ψ 8) (ok : EdOk size es) (q : Q (.bl true) n) : Ψ i__law_just_one [.int size, .lst t (es.map eD)] n Q R := by
  have hf := ok.few
  have hs := ok.sz
  have hlp := len_prs5 hf hs
  refine u__law_just_one h fun Ψ h => ?_
  have hΨ : MonoF Ψ := by obtain ⟨j, _, rfl⟩ := h; exact B.mono cus_mono j
  refine wpS_seq (fun ρ n' => n' = n ∧ ∃ ds, A2 Yo (prs es size) ds ∧ ρ = [.pure (.int size), .pure (.lst t (es.map eD)), .pure (.lst true ds), .own (.lst true (es.map eD)), .dead, .dead, .dead, .dead, .dead, .dead]) hΨ ?_ ?_
  · walk_at "w"
    refine s_law_pairings h.le ok fun ds hds => (nb ?_)
    walk_at "w"
    exact ⟨rfl, ds, hds, rfl⟩
  rintro ρ n' ⟨rfl, ds, hds, rfl⟩
  refine wpS_seq (fun ρ n2 => n2 = n' ∧ ∃ a b, JT es size a b ∧ ρ = [.pure (.int size), .pure (.lst t (es.map eD)), .pure (.lst true ds), .own (.lst true (es.map eD)), .dp (.lst true [a, b]), .dead, .dead, .dead, .dead, .dead]) hΨ ?_ ?_
  · walk_at "w"
    show Ψ i_any_pairing (lentD true [.int size, .lst false (D.stales (es.map eD))]) n' _ _
    rw [st_ed, lent2]
    refine s_any_pairing' h.le ok (fun h0 => lent rfl ?_) fun p hp hpe => lent (by show (true && D.freshs (p.map nD)) = true; rw [fresh_map fun _ => rfl]; rfl) ?_
    · walk_at "w"
      show Ψ i_short_set (lentD true [.int size, .lst false (D.stales (es.map eD))]) n' _ _
      rw [st_ed, lent2]
      refine s_short_set' h.le ok (fun h1 => absurd h0 h1) fun ls _ hS ha hI => lent (by show (true && D.freshs (ls.map D.int)) = true; rw [fresh_map fun _ => rfl]; rfl) ?_
      walk_at "ww"
      refine ⟨⟨by show (true && (true && (true && D.freshs (ls.map D.int) && true))) = true; rw [fresh_map fun _ => rfl]; rfl, by show (true && (D.plains (ls.map D.int) && true)) = true; rw [plain_map fun _ => rfl]; rfl⟩, ?_⟩
      exact ⟨rfl, _, _, .short h0 hS ha hI, rfl⟩
    · walk_at "w"
      show Ψ i_short_set (lentD true [.int size, .lst false (D.stales (es.map eD))]) n' _ _
      rw [st_ed, lent2]
      refine s_short_set' h.le ok (fun _ => lent rfl ?_) fun ls h0 hS ha hI => by rw [h0] at hp; cases hp
      walk_at "ww"
      refine ⟨⟨by show (true && ((true && D.freshs (p.map nD)) && true)) = true; rw [fresh_map fun _ => rfl]; rfl, by show (D.plains (p.map nD) && (true && true)) = true; rw [plain_map fun _ => rfl]; rfl⟩, ?_⟩
      subst hpe
      exact ⟨rfl, _, _, .pair hp, rfl⟩
  rintro ρ n2 ⟨rfl, a, b, hJ, rfl⟩
  refine wpS_seq (fun ρ n3 => n3 = n2 ∧ ∃ x6, ρ = [.pure (.int size), .pure (.lst t (es.map eD)), .pure (.lst true ds), .own (.lst true (es.map eD)), .dp (.lst true [a, b]), .pure (.bl true), x6, .dead, .dead, .dead]) hΨ ?_ ?_
  · walk_at "ww"
    refine ⟨⟨oks_of (k := 59) fun d m => by obtain ⟨p, _, e⟩ := hds.right m; obtain ⟨tt, rfl⟩ := is_nats.mp e.1; exact ok_nats _, rfl⟩, ?_⟩
    rw [eqv_nil]
    cases hJ with
    | @short ls h0 hS ha hI =>
      have hd0 : ds = [] := by rw [h0] at hds; cases hds; rfl
      subst hd0
      walk_at "w"
      show Ψ i__law_is_short (lentD true [.int size, .lst t (es.map eD), .lst true (ls.map D.int)]) n2 _ _
      rw [lent3]
      have hll := short_len hS
      refine s_law_is_short h.le ok (by rw [List.length_map]; omega) (fun x m => by obtain ⟨i, _, rfl⟩ := List.mem_map.mp m; intro z; cases z) (oks_ints ls 59) (lent rfl ?_)
      rw [short_true hS ha]
      walk_at "w"
      show Ψ i_is_short_set (lentD true [.int size, .lst true (es.map eD), .lst true (ls.map D.int)]) n2 _ _
      rw [lent3]
      refine s_is_short_list h.le ok (by rw [List.length_map]; omega) (fun x m => by obtain ⟨i, _, rfl⟩ := List.mem_map.mp m; intro z; cases z) (oks_ints ls 59) (lent rfl ?_)
      rw [short_true hS ha]
      walk_at "w"
      exact ⟨rfl, _, rfl⟩
    | pair hp =>
      have hd0 : ds.isEmpty = false := by
        have h1 := hds.length
        have h2 := List.length_pos_of_mem hp
        cases ds with
        | nil => rw [List.length_nil] at h1; omega
        | cons _ _ => rfl
      rw [hd0]
      walk_at "w"
      generalize hP : heldP es (heldF es size) = P at hp
      have hPl : P.length ≤ 5 := by rw [(mem_prs.mp hp).len]; exact hs
      refine compW_map (r := Yo) (r' := fun b d => d = D.bl b) (fun p => decide (p = P)) hds (sl_le (by have := hds.length; omega)) (fun p d n K m hr kk => ?_) fun bs hbs => ?_
      · obtain ⟨tt, rfl⟩ := is_nats.mp hr.1
        have hpl : p.length ≤ 5 := by rw [(mem_prs.mp m).len]; exact hs
        walk_at "w"
        show Ψ i__law_exact (lentD true [.lst true (P.map nD), .lst tt (p.map nD)]) n _ _
        rw [show lentD true [D.lst true (P.map nD), .lst tt (p.map nD)] = [.lst false (P.map nD), .lst false (p.map nD)] by
          show [D.lst false (D.stales (P.map nD)), .lst false (D.stales (p.map nD))] = _
          rw [stales_of (f := nD) (fun _ => rfl), stales_of (f := nD) (fun _ => rfl)]]
        refine s_exact (k := 1) (fit_nats (by omega) 0) (fit_nats (by omega) 0) (by omega) h.le fun d hd => ?_
        obtain ⟨v, rfl, hv⟩ := hd
        refine lent rfl ?_
        walk_at "w"
        refine kk _ ?_
        have e : v = decide (p = P) := by
          rw [Bool.eq_iff_iff, hv, decide_eq_true_eq]
          simp only [D.stale, stales_of (f := nD) (fun _ => rfl), D.lst.injEq, true_and]
          exact ⟨fun z => (List.map_inj_right (f := nD) (fun a b (e : nD a = nD b) => by injection e with e; omega)).mp z.symm, fun z => by rw [z]⟩
        rw [e]
      · walk_at "w"
        rw [bools_a2 hbs]
        walk_at "w"
        rw [show ((prs es size).map fun p => decide (p = P)).any id = true by
          rw [List.any_map, List.any_eq_true]
          exact ⟨P, hp, decide_eq_true rfl⟩]
        exact ⟨rfl, _, rfl⟩
  rintro ρ n3 ⟨rfl, x6, rfl⟩
  have hfa : ∀ {a b : D} {tt : Bool}, JT es size a b → Fit 3 (.lst tt [a, b]) := fun {a b tt} hJ => by
    cases hJ with
    | short _ hS _ _ => exact fit_cons (fit_leaf rfl rfl 2) (fit_cons (fit_ints (by have := short_len hS; omega) 1) fit_nil (by simp)) (by simp)
    | pair hp => exact fit_cons (fit_nats (by rw [(mem_prs.mp hp).len]; omega) 1) (fit_cons (fit_leaf rfl rfl 2) fit_nil (by simp)) (by simp)
  refine wpS_seq (fun ρ n4 => n4 = n3 ∧ ρ = [.pure (.int size), .pure (.lst t (es.map eD)), .pure (.lst true ds), .own (.lst true (es.map eD)), .dp (.lst true [a, b]), .pure (.bl true), x6, .dead, .dead, .dead]) hΨ ?_ ?_
  · walk_at "w"
    show Ψ i__law_exact (lentD true [.lst true (es.map eD), .lst t (es.map eD)]) n3 _ _
    rw [show lentD true [D.lst true (es.map eD), .lst t (es.map eD)] = [.lst false (es.map eD), .lst false (es.map eD)] by
      show [D.lst false (D.stales (es.map eD)), .lst false (D.stales (es.map eD))] = _
      rw [st_ed]]
    refine s_exact_same (k := 2) (fit_edges (by omega) 0) (fit_edges (by omega) 0) (by omega) h.le rfl (lent rfl ?_)
    walk_at "w"
    exact ⟨rfl, rfl⟩
  rintro ρ n4 ⟨rfl, rfl⟩
  refine wpS_seq (fun ρ n5 => n5 = n4 ∧ ∃ d, Cp (.lst false [a.stale, b.stale]) d ∧ ρ = [.pure (.int size), .pure (.lst t (es.map eD)), .pure (.lst true ds), .own (.lst true (es.map eD)), .dp (.lst true [a, b]), .pure (.bl true), x6, .pure d, .pure (.lst true [.lst true [.int 0], .lst true [.int 0]]), .dead]) hΨ ?_ ?_
  · walk_at "w"
    show Ψ i__law_same [.lst false [a.stale, b.stale]] n4 _ _
    refine s_law_same (k := 3) (hfa (tt := true) hJ).st (by omega) h.le fun d hd => lent hd.2 ?_
    walk_at "ww"
    show Ψ i_any_pairing [.int (1 : Nat), .lst true ([((0 : Int), (0 : Int))].map eD)] n4 _ _
    refine s_any_pairing h.le one_ok (fun z => by rw [prs_one] at z; cases z) fun p hp => (nb ?_)
    have : p = [0] := by rw [prs_one] at hp; simpa using hp
    subst this
    walk_at "ww"
    show Ψ i_short_set [.int (1 : Nat), .lst true (([] : E).map eD)] n4 _ _
    refine s_short_set h.le none_ok (fun z => absurd prs_none z) fun ls _ hS _ => (nb ?_)
    have := short_one hS
    subst this
    walk_at "ww"
    first | exact ⟨d, hd, rfl⟩ | exact ⟨rfl, d, hd, rfl⟩
  rintro ρ n5 ⟨rfl, d, hd, rfl⟩
  have hdf : Fit 3 d := Fit.unst (by rw [hd.1]; exact (hfa (tt := true) hJ).st.st)
  have hds2 : d.stale = .lst false [a.stale, b.stale] := by
    rw [hd.1]
    show D.lst false [a.stale.stale, b.stale.stale] = _
    rw [stale_stale, stale_stale]
  refine wpS_seq (fun ρ n6 => n6 = n5 ∧ ρ = [.pure (.int size), .pure (.lst t (es.map eD)), .pure (.lst true ds), .own (.lst true (es.map eD)), .dp (.lst true [a, b]), .pure (.bl true), x6, .pure d, .pure (.lst true [.lst true [.int 0], .lst true [.int 0]]), .dead]) hΨ ?_ ?_
  · walk_at "ww"
    show Ψ i__law_exact [.lst false [.lst false [a.stale, b.stale], .lst false [.lst false [.int 0], .lst false [.int 0]]], .lst false [d.stale, .lst false [.lst false [.int 0], .lst false [.int 0]]]] n5 _ _
    have f0 : ∀ {k : Nat} {tt uu vv : Bool}, Fit (k + 2) (.lst tt [.lst uu [.int 0], .lst vv [.int 0]]) := fun {k tt uu vv} =>
      fit_cons (fit_cons (fit_int _ _) fit_nil (by simp)) (fit_cons (fit_cons (fit_int _ _) fit_nil (by simp)) fit_nil (by simp)) (by simp)
    refine s_exact_same (k := 4) (fit_cons (hfa (tt := true) hJ).st (fit_cons f0 fit_nil (by simp)) (by simp)) (fit_cons hdf.st (fit_cons f0 fit_nil (by simp)) (by simp)) (by omega) h.le (by
      rw [hds2]) (lent rfl ?_)
    walk_at "w"
    exact ⟨rfl, rfl⟩
  rintro ρ n6 ⟨rfl, rfl⟩
  walk_at "w"
  refine ⟨⟨⟨rfl, ?_⟩, ?_⟩, ?_⟩
  · cases hJ with
    | short _ _ _ _ => show (true && (true && (true && D.freshs (List.map D.int _) && true))) = true; rw [fresh_map fun _ => rfl]; rfl
    | pair _ => show (true && ((true && D.freshs (List.map nD _)) && true)) = true; rw [fresh_map fun _ => rfl]; rfl
  · cases hJ with
    | short _ hS _ _ =>
      show (decide (2 ≤ 1000000) && ((false || true) && ((decide ((List.map D.int _).length ≤ 1000000) || _) && true))) = true
      rw [decide_eq_true (show (List.map D.int _).length ≤ 1000000 by rw [List.length_map]; have := short_len hS; omega)]; rfl
    | pair hp =>
      show (decide (2 ≤ 1000000) && ((decide ((List.map nD _).length ≤ 1000000) || _) && ((false || true) && true))) = true
      rw [decide_eq_true (show (List.map nD _).length ≤ 1000000 by rw [List.length_map, (mem_prs.mp hp).len]; omega)]; rfl
  walk_at "w"
  have fin : ∀ {Q' : D → Nat → Prop} {R' : RK} (a' b' : D), Q' (.bl true) n6 → JT es size a' b' → Ψ i__law_exact [.lst true [a', b'], d] n6 Q' R' := fun {Q' R'} a' b' q hJ' => by
    obtain ⟨rfl, rfl⟩ := hJ.uniq hJ'
    exact s_exact_same (k := 3) (hfa hJ) hdf (by omega) h.le (by rw [hds2]; rfl) q
  refine ⟨rfl, ?_⟩
  walk_at "w"
  refine s_any_pairing' h.le ok (fun h0 => (nb ?_)) fun p hp hpe => (nb ?_)
  · walk_at "w"
    refine s_short_set' h.le ok (fun z => absurd h0 z) fun ls _ hS ha hI => (nb ?_)
    walk_at "ww"
    exact fin _ _ (nb q) (.short h0 hS ha hI)
  · walk_at "w"
    refine s_short_set' h.le ok (fun _ => (nb ?_)) fun ls h0 hS ha hI => by rw [h0] at hp; cases hp
    walk_at "ww"
    subst hpe
    exact fin _ _ (nb q) (.pair hp)
end
end K70
namespace K70
open PySem PySem.Spec L2 Vm Pm
local macro_rules | `(tactic| walk_at "w") => `(tactic| conv => whnf)
local macro_rules | `(tactic| walk_at "ww") => `(tactic| ((conv => whnf); repeat ((refine And.intro ?_ ?_); (next => first | exact rfl | exact ⟨rfl, rfl⟩ | exact True.intro | (refine sl_le ?_; simp; done) | (refine sl_lt ?_; simp; done)); conv => whnf)))
local macro_rules | `(tactic| walk_at "wl") => `(tactic| ((conv => whnf); repeat ((refine And.intro ?_ ?_); (next => first | exact rfl | exact ⟨rfl, rfl⟩ | exact True.intro | (refine sl_le ?_; omega) | (refine sl_lt ?_; omega)); conv => whnf)))
section
variable {Ψ : Nat → FnSem} {n : Nat} {Q : D → Nat → Prop} {R : RK}
/-- a value that is judged -/
def JV (v : D) : Prop := (Fit 3 v ∧ ∀ t ds, v = .lst t ds → ds.length ≤ 1000) ∨ (∃ t : Bool, v = .dic t []) ∨ ∃ (t u : Bool) (is : List Int), is.length ≤ 1000 ∧ v = .dic t [(.inl 0, .lst u (is.map D.int))]
theorem Fit.mono : ∀ {k j : Nat} {d : D}, Fit k d → k ≤ j → Fit j d
  | 0, j, d, h, _ => fit_leaf h.1 h.2 j
  | k + 1, 0, d, _, l => by omega
  | k + 1, j + 1, d, h, l => by
    rcases h with h | ⟨xs, e, hl, hx⟩
    · exact .inl h
    · exact .inr ⟨xs, e, hl, fun x m => (hx x m).mono (by omega)⟩
theorem Fit.np {k : Nat} {d : D} (h : Fit k d) : d ≠ .pur := fun z => by
  subst z
  cases k with
  | zero => cases h.1
  | succ k =>
    rcases h with h | ⟨xs, ⟨t, e⟩ | e, _⟩
    · cases h.1
    · cases e
    · cases e
theorem Fit.mem {k : Nat} {t : Bool} {ds : List D} (h : Fit (k + 1) (.lst t ds)) : ∀ d ∈ ds, Fit k d := by
  rcases h with h | ⟨xs, ⟨t', e⟩ | e, _, hx⟩
  · cases h.1
  · cases e; exact hx
  · cases e
/-- both judge alike -/
theorem s_both {size : Nat} {es : E} {v : D} (ok : EdOk size es) (hv : JV v) : ∃ b : Bool, (∀ {Ψ : Nat → FnSem} {n : Nat} {Q : D → Nat → Prop} {R : RK} {t : Bool}, Lv B Ψ 5 → Q (.bl b) n → Ψ i_is_short_set [.int size, .lst t (es.map eD), v] n Q R) ∧
    ∀ {Ψ : Nat → FnSem} {n : Nat} {Q : D → Nat → Prop} {R : RK} {t : Bool}, Lv B Ψ 2 → Q (.bl b) n → Ψ i__law_is_short [.int size, .lst t (es.map eD), v] n Q R := by
  by_cases c : ∃ t ds, v = .lst t ds
  · obtain ⟨tv, ds, rfl⟩ := c
    have hf : Fit 3 (.lst tv ds) ∧ ds.length ≤ 1000 := by
      rcases hv with ⟨h1, h2⟩ | ⟨t, e⟩ | ⟨t, u, is, _, e⟩
      · exact ⟨h1, h2 _ _ rfl⟩
      · cases e
      · cases e
    have ho : (D.lst tv ds).ok 60 = true := (hf.1.mono (by omega)).ok
    exact ⟨shortL size es ds, fun h q => s_is_short_list h ok hf.2 (fun x m => (hf.1.mem x m).np) ho q, fun h q => s_law_is_short h ok hf.2 (fun x m => (hf.1.mem x m).np) ho q⟩
  · have nl : ∀ t ds, v ≠ .lst t ds := fun t ds e => c ⟨t, ds, e⟩
    have np : v ≠ .pur := by
      rcases hv with ⟨h1, _⟩ | ⟨t, rfl⟩ | ⟨t, u, is, _, rfl⟩
      · exact h1.np
      · intro z; cases z
      · intro z; cases z
    exact ⟨false, fun h q => s_is_short_other h ok np nl q, fun h q => s_law_is_short_other h np nl q⟩
theorem s_same_jv {v : D} (hv : JV v) (h : Lv B Ψ 4) (q : ∀ d, Like 3 v d → Q d n) : Ψ i__law_same [v] n Q R := by
  rcases hv with ⟨h1, _⟩ | ⟨t, rfl⟩ | ⟨t, u, is, hl, rfl⟩
  · exact s_law_same h1 (by omega) h fun d hd => q d (.inl ⟨h1, Fit.unst (by rw [hd.1]; exact h1.st), hd.1.symm⟩)
  · exact s_law_same_nil h.le fun d ho _ => q d (.inr ho)
  · exact s_law_same_one h.le hl fun d ho _ => q d (.inr ho)
theorem jv_leaf {d : D} (h : D.leaf d = true) (h0 : d.ok 0 = true) : JV d := .inl ⟨fit_leaf h h0 3, fun t ds e => by subst e; cases h⟩
theorem jv_list {t : Bool} {ds : List D} (hl : ds.length ≤ 1000) (h : ∀ d ∈ ds, Fit 2 d) : JV (.lst t ds) := .inl ⟨fit_list (by omega) h, fun t' ds' e => by cases e; exact hl⟩
theorem jv_tup {ds : List D} (hl : ds.length ≤ 1000) (h : ∀ d ∈ ds, Fit 2 d) : JV (.tup ds) := .inl ⟨.inr ⟨ds, .inr rfl, by omega, h⟩, fun t' ds' e => by cases e⟩
theorem fit_nD (i k : Nat) : Fit k (nD i) := fit_int _ k
theorem fits_nats {s : List Nat} {k : Nat} : ∀ d ∈ s.map nD, Fit k d := fun d m => by obtain ⟨i, _, rfl⟩ := List.mem_map.mp m; exact fit_nD i k
theorem fits_app {a b : List D} {k : Nat} (ha : ∀ d ∈ a, Fit k d) (hb : ∀ d ∈ b, Fit k d) : ∀ d ∈ a ++ b, Fit k d := fun d m => (List.mem_append.mp m).elim (ha d) (hb d)
theorem fits_cut {a : List D} {k : Nat} {lo hi : Option Int} (ha : ∀ d ∈ a, Fit k d) : ∀ d ∈ cutD a lo hi, Fit k d := fun d m => ha d (List.mem_of_mem_drop (List.mem_of_mem_take m))
theorem cut_len {a : List D} {lo hi : Option Int} : (cutD a lo hi).length ≤ a.length := by
  unfold cutD
  rw [List.length_take, List.length_drop]; omega
theorem fits_one {d : D} {k : Nat} (h : Fit k d) : ∀ x ∈ [d], Fit k x := fun x m => by rw [List.mem_singleton] at m; subst m; exact h
theorem fits_nil {k : Nat} : ∀ x ∈ ([] : List D), Fit k x := fun x m => by cases m
end
end K70
namespace K70
open PySem PySem.Spec L2 Vm Pm
local macro_rules | `(tactic| walk_at "w") => `(tactic| conv => whnf)
local macro_rules | `(tactic| walk_at "ww") => `(tactic| ((conv => whnf); repeat ((refine And.intro ?_ ?_); (next => first | exact rfl | exact ⟨rfl, rfl⟩ | exact True.intro | (refine sl_le ?_; simp; done) | (refine sl_lt ?_; simp; done)); conv => whnf)))
local macro_rules | `(tactic| walk_at "wj") => `(tactic| ((conv => whnf); repeat ((refine And.intro ?_ ?_); (next => first | exact rfl | exact ⟨rfl, rfl⟩ | exact True.intro | (refine sl_le ?_; simp; done) | (refine sl_lt ?_; simp; done) | (refine sl_le ?_; simp; omega) | (refine sl_lt ?_; simp; omega)); conv => whnf)))
section
variable {Ψ : Nat → FnSem} {n : Nat} {Q : D → Nat → Prop} {R : RK}
theorem str_small (i : Nat) (h : i < 5) : (D.str (toString (i : Int))).ok 0 = true := by
  match i, h with
  | 0, _ => decide +kernel
  | 1, _ => decide +kernel
  | 2, _ => decide +kernel
  | 3, _ => decide +kernel
  | 4, _ => decide +kernel
theorem s_law_judged {size : Nat} {es : E} {t : Bool} (h : Lv B Ψ 8) (ok : EdOk size es) (hn : n ≤ 10 ^ 8) (q : ∀ n', n' ≤ n + 1200 → Q (.bl true) n') : Ψ i__law_judged [.pur, .int size, .lst t (es.map eD)] n Q R := by
  have hf := ok.few
  have hs := ok.sz
  refine u__law_judged h fun Ψ h => ?_
  have hΨ : MonoF Ψ := by obtain ⟨j, _, rfl⟩ := h; exact B.mono cus_mono j
  have hl5 : (setsL size).length ≤ 32 := by rw [len_setsL]; exact Nat.pow_le_pow_right (by omega) hs
  refine wpS_seq (fun ρ n' => n' = n ∧ ∃ ds, A2 Yo (setsL size) ds ∧ ρ = [.pure .pur, .pure (.int size), .pure (.lst t (es.map eD)), .pure (.lst true ds), .dead, .dead, .dead, .dead, .dead, .dead, .dead, .dead]) hΨ ?_ ?_
  · walk_at "w"
    refine s_law_sets h.le hs fun ds hds => (nb ?_)
    walk_at "w"
    exact ⟨rfl, ds, hds, rfl⟩
  rintro ρ n' ⟨rfl, ds, hds, rfl⟩
  have hdl := hds.length
  have hd0 : ds ≠ [] := fun z => by
    rw [z, len_setsL] at hdl
    have := Nat.two_pow_pos size
    simp at hdl
  refine wpS_seq (fun ρ n2 => n2 ≤ n' + 10 ∧ ∃ (s : List Nat) (ts : Bool), s.length ≤ 5 ∧ (∀ a ∈ s, a < 5) ∧ ρ = [.pure .pur, .pure (.int size), .pure (.lst t (es.map eD)), .pure (.lst true ds), .pure (.lst ts (s.map nD)), .dead, .dead, .dead, .dead, .dead, .dead, .dead]) hΨ ?_ ?_
  · walk_at "w"
    refine s_one_of h.le hd0 (by omega) (by omega) fun d n2 hd hn2 => (nb ?_)
    obtain ⟨s, ms, e⟩ := hds.right hd
    obtain ⟨ts, rfl⟩ := is_nats.mp e.1
    have hms := mem_setsL ms
    walk_at "w"
    exact ⟨hn2, s, ts, by omega, fun a m => by have := hms.2 a m; omega, rfl⟩
  rintro ρ n2 ⟨hn2, s, ts, hsl, hsb, rfl⟩
  -- the odd ones
  have hsml : (s.map nD).length ≤ 5 := by rw [List.length_map]; exact hsl
  have fS : ∀ {k : Nat}, ∀ d ∈ s.map nD, Fit k d := fun {k} => fits_nats
  refine wpS_seq (fun ρ n3 => n3 = n2 ∧ ∃ os : List D, os.length = 14 ∧ (∀ v ∈ os, JV v) ∧ ρ = [.pure .pur, .pure (.int size), .pure (.lst t (es.map eD)), .pure (.lst true ds), .pure (.lst ts (s.map nD)), .pure (.lst true os), .dead, .dead, .dead, .dead, .dead, .dead]) hΨ ?_ ?_
  · generalize s.map nD = sm at hsml fS
    walk_at "wj"
    have hc := @cut_len sm (some (-1)) none
    refine ⟨sl_le (by omega), ?_⟩
    walk_at "wj"
    refine ⟨_, rfl, ?_, rfl⟩
    have fc : ∀ {k : Nat}, ∀ d ∈ cutD sm (some (-1)) none, Fit k d := fun {k} => fits_cut fS
    intro v hv
    simp only [List.mem_cons, List.not_mem_nil, or_false] at hv
    rcases hv with rfl | rfl | rfl | rfl | rfl | rfl | rfl | rfl | rfl | rfl | rfl | rfl | rfl | rfl
    · exact jv_leaf rfl rfl
    · exact jv_leaf rfl rfl
    · exact jv_leaf rfl rfl
    · exact jv_leaf rfl (by decide +kernel)
    · exact jv_leaf rfl (by decide +kernel)
    · exact jv_tup (by simp) fits_nil
    · exact .inr (.inl ⟨_, rfl⟩)
    · exact jv_tup (by omega) fS
    · exact jv_list (by simp) (fits_one (fit_list (by omega) fS))
    · exact jv_list (by rw [List.length_append]; omega) (fits_app fS fc)
    · exact jv_list (by rw [List.length_reverse]; omega) fun d m => fS d (List.mem_reverse.mp m)
    · exact jv_list (by simp; omega) (fits_app fS (fits_one (fit_int _ _)))
    · exact jv_list (by simp; omega) (fits_app (fits_one (fit_int _ _)) fS)
    · refine jv_list (by simp; omega) fun d m => ?_
      rcases fit_edges (es := es) (t := true) (by omega) 1 with z | ⟨xs, ⟨_, e⟩ | e, _, hx⟩
      · cases z.1
      · cases e; exact hx d m
      · cases e
  rintro ρ n3 ⟨rfl, os, hol, hjo, rfl⟩
  refine wpS_seq (fun ρ n4 => n4 = n3 ∧ ∃ os : List D, os.length = 21 ∧ (∀ v ∈ os, JV v) ∧ ρ = [.pure .pur, .pure (.int size), .pure (.lst t (es.map eD)), .pure (.lst true ds), .pure (.lst ts (s.map nD)), .pure (.lst true os), .dead, .dead, .dead, .dead, .dead, .dead]) hΨ ?_ ?_
  · walk_at "wj"
    refine ⟨⟨by decide, by decide +kernel⟩, ?_⟩
    walk_at "wj"
    refine compW_map (r := fun (a : Nat) d => d = nD a) (r' := fun a d => d = a) (fun (a : Nat) => D.bl ((a : Int) != 0)) (a2_map nD s) (sl_le (by omega)) (fun a d n K m hr kk => ?_) fun ds2 hds2 => ?_
    · subst hr
      walk_at "wj"
      exact kk _ rfl
    have e2 := hds2.eq_map (f := id) fun _ _ e => e
    rw [List.map_id] at e2
    subst e2
    walk_at "wj"
    refine ⟨_, ?_, ?_, rfl⟩
    · simp [hol]
    · intro v hv
      simp only [List.mem_append, List.mem_cons, List.not_mem_nil, or_false, false_or] at hv
      have jl : ∀ x : D, Fit 2 x → JV (.lst true (s.map nD ++ [x])) := fun x hx => jv_list (by simp; omega) (fits_app fS (fits_one hx))
      rcases hv with (hv | ((((rfl | rfl) | rfl) | rfl) | rfl)) | rfl | rfl
      · exact hjo v hv
      · exact jl _ (fit_leaf rfl rfl 2)
      · exact jl _ (fit_leaf rfl rfl 2)
      · exact jl _ (fit_leaf rfl (by decide +kernel) 2)
      · exact jl _ (fit_list (by simp) (fits_one (fit_int _ _)))
      · exact jl _ (fit_int _ _)
      · exact jv_list (by simp; omega) fun d m => by obtain ⟨a, _, rfl⟩ := List.mem_map.mp m; exact fit_leaf rfl rfl 2
      · refine .inr (.inr ⟨true, ts, s.map fun (i : Nat) => (i : Int), by simp; omega, ?_⟩)
        rw [show (s.map fun (i : Nat) => (i : Int)).map D.int = s.map nD by rw [List.map_map]; rfl]
        rfl
  rintro ρ n4 ⟨rfl, os2, hol2, hjo2, rfl⟩
  clear hjo hol os
  refine wpS_seq (fun ρ n5 => n5 = n4 ∧ ∃ os : List D, os.length ≤ 53 ∧ (∀ v ∈ os, JV v) ∧ ρ = [.pure .pur, .pure (.int size), .pure (.lst t (es.map eD)), .pure (.lst true ds), .pure (.lst ts (s.map nD)), .pure (.lst true os), .dead, .dead, .dead, .dead, .dead, .dead]) hΨ ?_ ?_
  · walk_at "w"
    refine compW_a2 (r := Yo) (r' := fun (_ : Unit) d => JV d) (fun (p : List Nat) => if 3 < p.length then some () else none) (ad := []) hds .nil (sl_le (by simp; omega)) (fun p d n K m hr k0 k1 => ?_) fun ds1 hds1 => ?_
    · obtain ⟨tt, rfl⟩ := is_nats.mp hr.1
      have hml := mem_setsL m
      have hpm : (p.map nD).length ≤ 5 := by rw [List.length_map]; omega
      have fP : ∀ {k : Nat}, ∀ d ∈ p.map nD, Fit k d := fun {k} => fits_nats
      have hpl : p.length = (p.map nD).length := (List.length_map ..).symm
      rw [hpl] at k0 k1
      generalize p.map nD = pm at hpm fP k0 k1
      walk_at "w"
      by_cases c : 3 < pm.length
      · rw [decide_eq_true (show (3 : Int) < (pm.length : Nat) by omega)]
        walk_at "w"
        have c1 := @cut_len pm none (some 1)
        have c2 := @cut_len pm (some 1) (some (-1))
        have c3 := @cut_len pm (some (-1)) none
        refine ⟨sl_le (by rw [List.length_reverse]; omega), ?_⟩
        walk_at "w"
        refine ⟨sl_le (by rw [List.length_append, List.length_reverse]; omega), ?_⟩
        walk_at "w"
        refine k1 () _ (if_pos c) (jv_list (by rw [List.length_append, List.length_append, List.length_reverse]; omega) ?_)
        exact fits_app (fits_app (fits_cut fP) fun d m => fits_cut fP d (List.mem_reverse.mp m)) (fits_cut fP)
      · rw [decide_eq_false (show ¬ (3 : Int) < (pm.length : Nat) by omega)]
        walk_at "w"
        exact k0 (if_neg c)
    · have hl1 : ds1.length ≤ 32 := by
        rw [← hds1.length, List.nil_append]
        exact Nat.le_trans (List.length_filterMap_le _ _) hl5
      walk_at "w"
      refine ⟨sl_le (by omega), ?_⟩
      walk_at "w"
      refine ⟨rfl, _, by rw [List.length_append]; omega, fun v hv => ?_, rfl⟩
      rcases List.mem_append.mp hv with hv | hv
      · exact hjo2 v hv
      · obtain ⟨_, _, e⟩ := hds1.right hv
        exact e
  rintro ρ n5 ⟨rfl, os3, hol3, hjo3, rfl⟩
  clear hjo2 hol2 os2
  refine wpS_seq (fun ρ n6 => n6 = n5 ∧ ∃ os : List D, os.length ≤ 60 ∧ (∀ v ∈ os, JV v) ∧ ρ = [.pure .pur, .pure (.int size), .pure (.lst t (es.map eD)), .pure (.lst true ds), .pure (.lst ts (s.map nD)), .pure (.lst true os), .dead, .dead, .dead, .dead, .dead, .dead]) hΨ ?_ ?_
  · walk_at "wj"
    refine compW_map (r := fun (a : Nat) d => d = nD a) (r' := fun a d => d = a) (fun (a : Nat) => D.str (toString (a : Int))) (a2_map nD s) (sl_le (by omega)) (fun a d n K m hr kk => ?_) fun ds2 hds2 => ?_
    · subst hr
      walk_at "w"
      refine ⟨?_, kk _ rfl⟩
      have ha := hsb a m
      match a, ha with
      | 0, _ => decide +kernel
      | 1, _ => decide +kernel
      | 2, _ => decide +kernel
      | 3, _ => decide +kernel
      | 4, _ => decide +kernel
    have e2 := hds2.eq_map (f := id) fun _ _ e => e
    rw [List.map_id] at e2
    subst e2
    walk_at "wj"
    refine ⟨_, ?_, ?_, rfl⟩
    · simp; omega
    · intro v hv
      simp only [List.mem_append, List.mem_cons, List.not_mem_nil, or_false] at hv
      rcases hv with hv | rfl | rfl | rfl | rfl | rfl | rfl | rfl
      · exact hjo3 v hv
      · exact jv_list (by simp; omega) (fits_app (fits_one (fit_leaf rfl rfl 2)) fS)
      · exact jv_list (by simp; omega) fun d m => by obtain ⟨a, ma, rfl⟩ := List.mem_map.mp m; exact fit_leaf rfl (str_small a (hsb a ma)) 2
      · exact jv_list (by simp) (fits_one (fit_int _ _))
      · exact jv_list (by simp) (fits_one (fit_int _ _))
      · exact jv_list (by simp) (fits_one (fit_leaf rfl rfl 2))
      · exact jv_list (by simp) (fits_one (fit_leaf rfl rfl 2))
      · exact jv_list (by simp) fun d m => by
          simp only [List.mem_cons, List.not_mem_nil, or_false, or_self] at m
          subst m; exact fit_int _ _
  rintro ρ n6 ⟨rfl, os4, hol4, hjo4, rfl⟩
  clear hjo3 hol3 os3
  refine wpS_seq (fun ρ n7 => n7 = n6 ∧ ρ = [.pure .pur, .pure (.int size), .pure (.lst t (es.map eD)), .pure (.lst true ds), .pure (.lst ts (s.map nD)), .pure (.lst true os4), .dead, .dead, .pure (.lst true (es.map eD)), .dead, .dead, .dead]) hΨ ?_ ?_
  · walk_at "w"
    exact ⟨rfl, rfl⟩
  rintro ρ n7 ⟨rfl, rfl⟩
  have hjs : ∀ v ∈ ds, JV v := fun v hv => by
    obtain ⟨p, mp, e⟩ := hds.right hv
    obtain ⟨tt, rfl⟩ := is_nats.mp e.1
    have := mem_setsL mp
    exact jv_list (by rw [List.length_map]; omega) fits_nats
  walk_at "w"
  refine ⟨sl_le (by omega), ?_⟩
  walk_at "w"
  refine s_shuffled h.le (by rw [List.length_append]; omega) (by rw [List.length_append]; omega) fun ys n8 hp hn8 => (nb ?_)
  rw [List.length_append] at hn8
  have hjy : ∀ v ∈ ys, JV v := fun v hv => (List.mem_append.mp (hp.mem_iff.mp hv)).elim (hjs v) (hjo4 v)
  walk_at "w"
  refine forW_a2 (r := fun a d => a = d) (fun pre ρ n' => n' = n8 ∧ ∃ x9 x10 x11 : Sl, ρ = [.pure .pur, .pure (.int size), .pure (.lst t (es.map eD)), .pure (.lst true ds), .pure (.lst ts (s.map nD)), .pure (.lst true os4), .dead, .dead, .pure (.lst true (es.map eD)), x9, x10, x11]) (a2_eq ys) ⟨rfl, _, _, _, rfl⟩ ?_ ?_
  · rintro pre v post d ρ n9 next e rfl ⟨rfl, x9, x10, x11, rfl⟩ nx
    have hv : JV v := hjy v (by rw [e]; simp)
    obtain ⟨b, hb1, hb2⟩ := s_both ok hv
    walk_at "w"
    refine s_same_jv hv h.le fun d' hd' => (nb ?_)
    walk_at "w"
    refine hb2 h.le (nb ?_)
    walk_at "w"
    refine hb1 h.le (nb ?_)
    walk_at "wj"
    refine s_exact_likes (k := 3) rfl (by simp) (fun p m => ?_) (by omega) h.le (nb ?_)
    · simp only [List.zip_cons_cons, List.zip_nil_left, List.mem_cons, List.not_mem_nil, or_false] at m
      rcases m with rfl | rfl | rfl
      · exact .inl ⟨fit_leaf rfl rfl 3, fit_leaf rfl rfl 3, rfl⟩
      · exact hd'
      · exact .inl ⟨fit_edges (by omega) 1, fit_edges (by omega) 1, rfl⟩
    walk_at "w"
    exact nx _ _ ⟨rfl, _, _, _, rfl⟩
  · rintro ρ n9 ⟨rfl, x9, x10, x11, rfl⟩
    walk_at "w"
    exact q _ (by omega)
end
end K70
namespace K70
open PySem PySem.Spec L2 Vm
/-- the body of the law's loop (0 script, 1 purse, 2 size, 3 edges, 4 few, 5 lone, 6 some, 7 edge) -/
def bL : Sm := (.scons (.asg 2 (.call 15 (.econs (.var 1) (.econs (.lst (.econs (.int 0) (.econs (.int 1) (.econs (.int 2) (.econs (.int 2) (.econs (.int 3) (.econs (.int 3) (.econs (.int 4) (.econs (.int 4) (.econs (.int 5) (.econs (.int 5) (.econs (.int 5) .enil)))))))))))) .enil)))) (.scons (.asg 3 (.call 19 (.econs (.var 1) (.econs (.var 2) .enil)))) (.scons (.asg 4 (.comp .seq (.econs (.var 3) .enil) (.nm 7) (.cmp .gt (.call 13 (.econs (.var 1) (.econs (.int 4) .enil))) (.int 0)) (.var 7) [7])) (.scons (.asg 5 (.comp .seq (.econs (.var 3) .enil) (.nm 7) (.cmp .ne (.ix (.var 7) (.int 0)) (.bin .sub (.var 2) (.int 1))) (.var 7) [7])) (.scons (.for .seq (.econs (.tup (.econs (.var 3) (.econs (.var 4) (.econs (.var 5) (.econs (.slice (.var 3) (.int 1) .non) (.econs (.slice (.var 3) .non (.neg (.int 1))) (.econs (.lst .enil) .enil))))))) .enil) (.nm 6) (.scons (.ife (.not (.call 24 (.econs (.var 2) (.econs (.var 6) .enil)))) (.scons (.ret (.bl false)) .snil) .snil) .snil)) (.scons (.ife (.or (.not (.call 25 (.econs (.var 1) (.econs (.var 2) (.econs (.var 3) .enil))))) (.or (.not (.call 25 (.econs (.var 1) (.econs (.var 2) (.econs (.var 4) .enil))))) (.not (.call 25 (.econs (.var 1) (.econs (.var 2) (.econs (.var 5) .enil))))))) (.scons (.ret (.bl false)) .snil) .snil) .snil))))))
theorem ckL : scK ⟨N26, T, [], B.ar, B.ion⟩ 30 (defScope (top 33)) (fun _ => true) (.ss (match (defBody (top 33)).head? with | some (.For _ _ b _ _) => b | _ => []) bL) = true := by decide +kernel
def LawSpec (M : Nat) : Prop := ∀ n, n ≤ 64 * M → wpS (B.sem 23) noR bL (lawρ N26.length 1) n { nx := fun ρ' n' => ρ'.length = N26.length ∧ n' ≤ n + M, ct := fun ρ' n' => ρ'.length = N26.length ∧ n' ≤ n + M, rt := fun _ _ _ => False }
theorem cus_list : ∀ f s, B.cus f = some s → f ∈ ([11, 14, 26] : List Nat) ∧ s = fun _ _ _ _ _ => False := fun f s e => by
  have e : (if ([11, 14, 26] : List Nat).contains f = true then some (fun _ _ _ _ _ => False) else none) = some s := e
  split at e
  · rename_i h; cases e; exact ⟨List.contains_iff_mem.mp h, rfl⟩
  · cases e
theorem cus_kind : ∀ f s, B.cus f = some s → (B.tf f).kind = .plain := fun f s e => by
  have := (cus_list f s e).1
  simp only [List.mem_cons, List.not_mem_nil, or_false] at this
  rcases this with rfl | rfl | rfl <;> rfl
theorem ck_at : ∀ f, f < B.T.length → B.cus f = none → tfOk B.T B.ar B.ion (B.tf f) = true := fun f hf e => by
  have := List.all_eq_true.mp ck_all f (List.mem_range.mpr hf)
  have e : cus f = none := e
  rw [e] at this
  have : (false || tfOk T B.ar B.ion (tf f)) = true := this
  rwa [Bool.false_or] at this
theorem np_all : ((List.range T.length).all fun f => decide ((tf f).fd.np = (tf f).ps.length)) = true := by decide +kernel
theorem np_at : ∀ f, f < B.T.length → (B.tf f).fd.np = (B.tf f).ps.length := fun f hf => of_decide_eq_true (List.all_eq_true.mp np_all f (List.mem_range.mpr hf))
theorem cxno {P : Program} {w : World} (H : Hp) (s : Shared) (e : Value) (s' : Shared) : L2.CX P w [] H s (fun _ _ _ => False) e s' → False := fun h => by
  obtain ⟨_, _, _, _, _, _, _, _, _, _, _, _, z⟩ := h
  exact z.elim
theorem walk {l : PySem.W.OpenLaw} {q : Program} {loose : List Str} {XP : (Str → Option Value) → Heap → Prop} {YP : World → Heap → Prop} {d : DefRec} {K : Params → PySem.W.Frag} (hn : l.most = some 63) (hdf : d.params.defaults = [])
    (hY : ∀ (w : World) (h : Heap), YP w h → (K w.params).In h)
    (F : ∀ (w : World) (mg : Str → Option Value) (fa : Addr) (h : Heap), (K w.params).In h → h.Ns mainGlobals mg → mg d.name = some (.ref fa) →
      ∃ fd : FuncData, (∀ (s : Shared) (u : Value), BindsTo s fd ⟨[u], []⟩ [("script", u)]) ∧ ∀ base : Heap, (K w.params).In base → base.Ns mainGlobals mg → FnOk l.prog w (K w.params) mg base (L2.CX l.prog w) 24 fa fd ["script"] (spLaw (K w.params))) :
    PySem.W.WalkO q loose XP YP l.row.toRowW d [] (fun f vs => PySem.call f vs) :=
  L2.walk_of (n := 63) (k := 24) (x := "script") (CX := fun w => L2.CX l.prog w) (sp := fun w => spLaw (K w.params)) hn (by decide) hdf ⟨rfl, by decide, by decide⟩ hY F (fun _ _ a ns hl _ hS => ⟨a, ns, rfl, hS, hl, fun _ => rfl⟩) fun w H s e s' => cxno H s e s'
theorem finS {M : Nat} (hspec : LawSpec M) {P : Program} {w : World} {K : PySem.W.Frag} {h : Heap} {mg : Str → Option Value} {fa : Addr} (X : K.In h) (G : h.Ns mainGlobals mg) (hfa : mg "law" = some (.ref fa)) (hf : ∀ f, f < B.T.length → ∃ a fd, FnAt K mg (B.tf f) a fd) (hblt : ∀ x ∈ bltNames, mg x = none) :
    ∃ fd : FuncData, (∀ (s : Shared) (u : Value), BindsTo s fd ⟨[u], []⟩ [("script", u)]) ∧ ∀ base : Heap, K.In base → base.Ns mainGlobals mg → FnOk P w K mg base (L2.CX P w) 24 fa fd ["script"] (spLaw K) := by
  obtain ⟨adr, fdt, F⟩ := facts_of (B := B) nm_ok dfl_ok hf
  have hL : 26 < B.T.length := by decide
  have hP : 11 < B.T.length := by decide
  have hQ : 14 < B.T.length := by decide
  have e := hfa.symm.trans (F.mg 26 hL)
  cases e
  have FL : FunD K "law" "law" (defArgs (top 33)) (defBody (top 33)) (defScope (top 33)) [] [] (adr 26) (fdt 26) := F.fn 26 hL
  refine ⟨fdt 26, fun s u => FL.bindsA (ps := ["script"]) bn26 s [u] rfl, fun base _ _ => ?_⟩
  have lv := levels0 (P := P) (w := w) (base := base) F cus_mono cus_kind (fun f s e Ψ ds n Q R => by rw [(cus_list f s e).2]; exact id) ck_at np_at hblt 23
  obtain ⟨hfns, hfio⟩ := tab_fns F cus_mono cus_kind np_at N26 [] lv
  have FP := purse_ok (P := P) (w := w) (mg := mg) (base := base) (k := 21) (F.fn 11 hP) (C8.fnScope_by (by decide +kernel)) rfl (by decide +kernel) (by decide +kernel) (by decide +kernel) (by decide +kernel) (by decide +kernel) hblt
  have FQ := purses_ok (P := P) (w := w) (mg := mg) (base := base) (k := 22) (F.fn 14 hQ) (C8.fnScope_by (by decide +kernel)) rfl ⟨by decide +kernel, by decide +kernel, by decide +kernel, by decide +kernel, by decide +kernel, by decide +kernel⟩ (by decide +kernel) ⟨by decide +kernel, by decide +kernel, by decide +kernel, by decide +kernel⟩ hblt FP (F.mg 11 hP) (F.kp 11 hP) (bind0 F hP rfl)
  have SL : FnScope N26 ["script"] (defScope (top 33)) := C8.fnScope_by (by decide +kernel)
  exact law_for (Γ := gaOf K B cus_mono F.dfl cus_kind 23 N26 [] np_at) (j := 1) (M := M) rfl rfl rfl FL SL rfl ⟨by decide +kernel, by decide +kernel, by decide +kernel⟩ rfl rfl (by decide)
    (scK_ok (C := ⟨N26, T, [], B.ar, B.ion⟩) ⟨rfl, rfl, rfl, rfl, rfl⟩ 30 _ _ _ ckL) hspec hfns hfio hblt FQ (F.mg 14 hQ) (F.kp 14 hQ) (bind0 F hQ rfl)
end K70
namespace K70
open PySem PySem.Spec L2 Vm Pm
local macro_rules | `(tactic| walk_at "w") => `(tactic| conv => whnf)
local macro_rules | `(tactic| walk_at "ww") => `(tactic| ((conv => whnf); repeat ((refine And.intro ?_ ?_); (next => first | exact rfl | exact ⟨rfl, rfl⟩ | exact True.intro | (refine sl_le ?_; simp; done) | (refine sl_lt ?_; simp; done)); conv => whnf)))
section
variable {Ψ : Nat → FnSem} {n : Nat} {Q : D → Nat → Prop} {R : RK}
theorem size_of {d : D} (h : d ∈ [D.int 0, D.int 1, D.int 2, D.int 2, D.int 3, D.int 3, D.int 4, D.int 4, D.int 5, D.int 5, D.int 5]) : ∃ s : Nat, s ≤ 5 ∧ d = nD s := by
  simp at h
  rcases h with rfl | rfl | rfl | rfl | rfl | rfl
  · exact ⟨0, by omega, rfl⟩
  · exact ⟨1, by omega, rfl⟩
  · exact ⟨2, by omega, rfl⟩
  · exact ⟨3, by omega, rfl⟩
  · exact ⟨4, by omega, rfl⟩
  · exact ⟨5, by omega, rfl⟩
/-- some are kept, by draws -/
theorem compW_sub {α : Type} {f : α → D} (c N : Nat) {step : D → Nat → (Option D → Nat → Prop) → Prop} {Q : List D → Nat → Prop} : ∀ {as : List α} {n : Nat} {acc : List α}, acc.length + as.length ≤ sizeLine → n + c * as.length ≤ N →
      (∀ a n K, a ∈ as → n ≤ N → (∀ n', n' ≤ n + c → K none n') → (∀ n', n' ≤ n + c → K (some (f a)) n') → step (f a) n K) →
      (∀ sub n', List.Sublist sub as → n' ≤ n + c * as.length → Q ((acc ++ sub).map f) n') → compW step (as.map f) n (acc.map f) Q
  | [], n, acc, _, _, _, q => by have := q [] n (.slnil) (Nat.le_add_right _ _); rw [List.append_nil] at this; exact this
  | a :: as, n, acc, hl, hN, hs, q => by
    rw [List.map_cons]
    unfold compW
    have hl : acc.length + (as.length + 1) ≤ sizeLine := hl
    rw [List.length_cons, Nat.mul_add] at hN
    refine hs a n _ (List.mem_cons_self ..) (by omega) (fun n' hn => ?_) fun n' hn => ⟨by rw [List.length_map]; omega, ?_⟩
    · refine compW_sub c N (acc := acc) (by omega) (by omega) (fun a n K m => hs a n K (List.mem_cons_of_mem _ m)) fun sub n2 h h2 => q sub n2 (h.cons a) (by rw [List.length_cons, Nat.mul_add]; omega)
    · have := compW_sub c N (f := f) (step := step) (Q := Q) (as := as) (n := n') (acc := acc ++ [a]) (by simp; omega) (by omega) (fun a n K m => hs a n K (List.mem_cons_of_mem _ m)) fun sub n2 h h2 => by
        have := q (a :: sub) n2 (h.cons_cons a) (by rw [List.length_cons, Nat.mul_add]; omega)
        rwa [List.append_assoc]
      rwa [List.map_append] at this
theorem cut_sub {es : E} {lo hi : Option Int} : ∃ es', List.Sublist es' es ∧ cutD (es.map eD) lo hi = es'.map eD := by
  unfold cutD
  rw [← List.map_drop, ← List.map_take]
  exact ⟨_, (List.take_sublist _ _).trans (List.drop_sublist _ _), rfl⟩
theorem law_spec : LawSpec 5000 := by
  intro n hn
  have h : Lv B (B.sem 23) 23 := ⟨23, Nat.le_refl _, rfl⟩
  have hΨ := B.mono cus_mono 23
  generalize B.sem 23 = Ψ at h hΨ
  refine wpS_seq (fun ρ n' => n' ≤ n + 10 ∧ ∃ size : Nat, size ≤ 5 ∧ ρ = [.dead, .pure .pur, .pure (.int size), .dead, .dead, .dead, .dead, .dead]) hΨ ?_ ?_
  · walk_at "ww"
    refine s_one_of h.le (by simp) (by simp) (by omega) fun d n1 hd hn1 => (nb ?_)
    obtain ⟨size, hs, rfl⟩ := size_of hd
    exact ⟨hn1, size, hs, rfl⟩
  rintro ρ n1 ⟨hn1, size, hs, rfl⟩
  refine wpS_seq (fun ρ n' => n' ≤ n + 410 ∧ ∃ es : E, EdOk size es ∧ ρ = [.dead, .pure .pur, .pure (.int size), .pure (.lst true (es.map eD)), .dead, .dead, .dead, .dead]) hΨ ?_ ?_
  · walk_at "w"
    refine s_edges h.le hs (by omega) fun es n2 ok hn2 => (nb ?_)
    exact ⟨by omega, es, ok, rfl⟩
  rintro ρ n2 ⟨hn2, es, ok, rfl⟩
  have hf := ok.few
  refine wpS_seq (fun ρ n' => n' ≤ n + 530 ∧ ∃ few : E, EdOk size few ∧ ρ = [.dead, .pure .pur, .pure (.int size), .pure (.lst true (es.map eD)), .pure (.lst true (few.map eD)), .dead, .dead, .dead]) hΨ ?_ ?_
  · walk_at "w"
    refine compW_sub (f := eD) (acc := []) 10 (10 ^ 8) (by simp; have := slE; omega) (by omega) (fun a n3 K m hn3 k0 k1 => ?_) fun sub n3 hsub hn3 => ?_
    · walk_at "w"
      refine s_draw h.le (by omega) (by omega) (by omega) fun i n' h1 h2 hn' => (nb ?_)
      walk_at "w"
      by_cases hi : 0 < i
      · rw [decide_eq_true hi]
        walk_at "w"
        exact k1 _ hn'
      · rw [decide_eq_false hi]
        walk_at "w"
        exact k0 _ hn'
    · walk_at "w"
      exact ⟨by omega, sub, sub_ok ok hsub, rfl⟩
  rintro ρ n3 ⟨hn3, few, okf, rfl⟩
  refine wpS_seq (fun ρ n' => n' ≤ n + 530 ∧ ∃ lone : E, EdOk size lone ∧ ρ = [.dead, .pure .pur, .pure (.int size), .pure (.lst true (es.map eD)), .pure (.lst true (few.map eD)), .pure (.lst true (lone.map eD)), .dead, .dead]) hΨ ?_ ?_
  · walk_at "w"
    refine compW_filter (r := fun a d => d = eD a) (r' := fun a d => d = eD a) (fun (e : Int × Int) => !decide (e.1 = (size : Int) - 1)) id (a2_map eD es) (sl_le (by omega)) (fun a d n K m hr k0 k1 => ?_) fun ds hds => ?_
    · subst hr
      walk_at "w"
      refine ⟨⟨rfl, rfl⟩, ?_⟩
      by_cases c : a.1 = (size : Int) - 1
      · rw [show D.eqv (D.int a.1) (D.int ((size : Int) - 1)) = true by simp [D.eqv, c]]
        walk_at "w"
        exact k0 (by simp [c])
      · rw [show D.eqv (D.int a.1) (D.int ((size : Int) - 1)) = false by simp [D.eqv, c]]
        walk_at "w"
        exact k1 _ (by simp [c]) rfl
    · have e := hds.eq_map (f := eD) fun _ _ e => e
      rw [List.map_id] at e
      subst e
      walk_at "w"
      exact ⟨hn3, _, sub_ok ok List.filter_sublist, rfl⟩
  rintro ρ n4 ⟨hn4, lone, okl, rfl⟩
  refine wpS_seq (fun ρ n' => n' = n4 ∧ ∃ x6 : Sl, ρ = [.dead, .pure .pur, .pure (.int size), .pure (.lst true (es.map eD)), .pure (.lst true (few.map eD)), .pure (.lst true (lone.map eD)), x6, .dead]) hΨ ?_ ?_
  · refine wpS_for_seq ?_ hΨ
    walk_at "ww"
    refine ⟨[.lst true (es.map eD), .lst true (few.map eD), .lst true (lone.map eD), .lst true (cutD (es.map eD) (some 1) none), .lst true (cutD (es.map eD) none (some (-1))), .lst true []], ⟨_, fun _ z => z, rfl⟩, ?_⟩
    have hall : ∀ d ∈ [D.lst true (es.map eD), .lst true (few.map eD), .lst true (lone.map eD), .lst true (cutD (es.map eD) (some 1) none), .lst true (cutD (es.map eD) none (some (-1))), .lst true []], ∃ es' : E, EdOk size es' ∧ d = .lst true (es'.map eD) := by
      intro d m
      simp only [List.mem_cons, List.not_mem_nil, or_false] at m
      rcases m with rfl | rfl | rfl | rfl | rfl | rfl
      · exact ⟨es, ok, rfl⟩
      · exact ⟨few, okf, rfl⟩
      · exact ⟨lone, okl, rfl⟩
      · obtain ⟨es', hsub, e⟩ := @cut_sub es (some 1) none
        exact ⟨es', sub_ok ok hsub, by rw [e]⟩
      · obtain ⟨es', hsub, e⟩ := @cut_sub es none (some (-1))
        exact ⟨es', sub_ok ok hsub, by rw [e]⟩
      · exact ⟨[], sub_ok ok (List.nil_sublist _), rfl⟩
    generalize [D.lst true (es.map eD), .lst true (few.map eD), .lst true (lone.map eD), .lst true (cutD (es.map eD) (some 1) none), .lst true (cutD (es.map eD) none (some (-1))), .lst true []] = its at hall
    refine forW_a2 (r := fun a d => a = d) (fun pre ρ n' => n' = n4 ∧ ∃ x6 : Sl, ρ = [.dead, .pure .pur, .pure (.int size), .pure (.lst true (es.map eD)), .pure (.lst true (few.map eD)), .pure (.lst true (lone.map eD)), x6, .dead]) (a2_eq its) ⟨rfl, _, rfl⟩ ?_ ?_
    · rintro pre v post d ρ n5 next e rfl ⟨rfl, x6, rfl⟩ nx
      obtain ⟨es', ok', rfl⟩ := hall v (by rw [e]; simp)
      walk_at "w"
      refine s_law_just_one h.le ok' (nb ?_)
      walk_at "w"
      exact nx _ _ ⟨rfl, _, rfl⟩
    · rintro ρ n5 ⟨rfl, x6, rfl⟩
      exact ⟨rfl, _, rfl⟩
  rintro ρ n5 ⟨rfl, x6, rfl⟩
  walk_at "w"
  refine s_law_judged h.le ok (by omega) fun n6 hn6 => (nb ?_)
  walk_at "w"
  refine s_law_judged h.le okf (by omega) fun n7 hn7 => (nb ?_)
  walk_at "w"
  refine s_law_judged h.le okl (by omega) fun n8 hn8 => (nb ?_)
  walk_at "w"
  exact ⟨rfl, by omega⟩
def fin := @finS 5000 law_spec
end
end K70
open PySem PySem.W PyProof.Rows
set_option maxRecDepth 100000 in
set_option maxHeartbeats 0 in
theorem PySem.Challenge.cw_lentmemory_k70_whole_pairings_or_short_s_holds : PySem.Challenge.rw_lentmemory_k70_whole_pairings_or_short_s.Holds := by
  w_on; o_law; k_headL; (case hw => w_witness2)
  k_fill
  refine K70.walk (l := PySem.Challenge.rw_lentmemory_k70_whole_pairings_or_short_s) rfl rfl (fun w h Y => PySem.W.kIn_of Y) ?F
  case F =>
    intro w mg fa h KX G hmg
    have f0 : Vm.FnP KX mg (K70.tf 0) := by
      refine' Vm.fnAt0 KX G rfl rfl ?n ?l ?c ?k K70.bn0
      (case n => k_is)
      (case l => k_is)
      (case c => k_is)
      (case k => k_is)
    have f1 : Vm.FnP KX mg (K70.tf 1) := by
      refine' Vm.fnAt0 KX G rfl rfl ?n ?l ?c ?k K70.bn1
      (case n => k_is)
      (case l => k_is)
      (case c => k_is)
      (case k => k_is)
    have f2 : Vm.FnP KX mg (K70.tf 2) := by
      refine' Vm.fnAt1 KX G rfl rfl ?n ?l ?c ?k ?t ?hi K70.bn2
      (case n => k_is)
      (case l => k_is)
      (case c => k_is)
      (case k => k_is)
      (case t => k_is)
      (case hi => exact .cons ⟨_, rfl⟩ .nil)
    have f3 : Vm.FnP KX mg (K70.tf 3) := by
      refine' Vm.fnAt0 KX G rfl rfl ?n ?l ?c ?k K70.bn3
      (case n => k_is)
      (case l => k_is)
      (case c => k_is)
      (case k => k_is)
    have f4 : Vm.FnP KX mg (K70.tf 4) := by
      refine' Vm.fnAt0 KX G rfl rfl ?n ?l ?c ?k K70.bn4
      (case n => k_is)
      (case l => k_is)
      (case c => k_is)
      (case k => k_is)
    have f5 : Vm.FnP KX mg (K70.tf 5) := by
      refine' Vm.fnAt0 KX G rfl rfl ?n ?l ?c ?k K70.bn5
      (case n => k_is)
      (case l => k_is)
      (case c => k_is)
      (case k => k_is)
    have f6 : Vm.FnP KX mg (K70.tf 6) := by
      refine' Vm.fnAt0 KX G rfl rfl ?n ?l ?c ?k K70.bn6
      (case n => k_is)
      (case l => k_is)
      (case c => k_is)
      (case k => k_is)
    have f7 : Vm.FnP KX mg (K70.tf 7) := by
      refine' Vm.fnAt0 KX G rfl rfl ?n ?l ?c ?k K70.bn7
      (case n => k_is)
      (case l => k_is)
      (case c => k_is)
      (case k => k_is)
    have f8 : Vm.FnP KX mg (K70.tf 8) := by
      refine' Vm.fnAt0 KX G rfl rfl ?n ?l ?c ?k K70.bn8
      (case n => k_is)
      (case l => k_is)
      (case c => k_is)
      (case k => k_is)
    have f9 : Vm.FnP KX mg (K70.tf 9) := by
      refine' Vm.fnAt0 KX G rfl rfl ?n ?l ?c ?k K70.bn9
      (case n => k_is)
      (case l => k_is)
      (case c => k_is)
      (case k => k_is)
    have f10 : Vm.FnP KX mg (K70.tf 10) := by
      refine' Vm.fnAt0 KX G rfl rfl ?n ?l ?c ?k K70.bn10
      (case n => k_is)
      (case l => k_is)
      (case c => k_is)
      (case k => k_is)
    have f11 : Vm.FnP KX mg (K70.tf 11) := by
      refine' Vm.fnAt0 KX G rfl rfl ?n ?l ?c ?k K70.bn11
      (case n => k_is)
      (case l => k_is)
      (case c => k_is)
      (case k => k_is)
    have f12 : Vm.FnP KX mg (K70.tf 12) := by
      refine' Vm.fnAt0 KX G rfl rfl ?n ?l ?c ?k K70.bn12
      (case n => k_is)
      (case l => k_is)
      (case c => k_is)
      (case k => k_is)
    have f13 : Vm.FnP KX mg (K70.tf 13) := by
      refine' Vm.fnAt0 KX G rfl rfl ?n ?l ?c ?k K70.bn13
      (case n => k_is)
      (case l => k_is)
      (case c => k_is)
      (case k => k_is)
    have f14 : Vm.FnP KX mg (K70.tf 14) := by
      refine' Vm.fnAt0 KX G rfl rfl ?n ?l ?c ?k K70.bn14
      (case n => k_is)
      (case l => k_is)
      (case c => k_is)
      (case k => k_is)
    have f15 : Vm.FnP KX mg (K70.tf 15) := by
      refine' Vm.fnAt0 KX G rfl rfl ?n ?l ?c ?k K70.bn15
      (case n => k_is)
      (case l => k_is)
      (case c => k_is)
      (case k => k_is)
    have f16 : Vm.FnP KX mg (K70.tf 16) := by
      refine' Vm.fnAt0 KX G rfl rfl ?n ?l ?c ?k K70.bn16
      (case n => k_is)
      (case l => k_is)
      (case c => k_is)
      (case k => k_is)
    have f17 : Vm.FnP KX mg (K70.tf 17) := by
      refine' Vm.fnAt0 KX G rfl rfl ?n ?l ?c ?k K70.bn17
      (case n => k_is)
      (case l => k_is)
      (case c => k_is)
      (case k => k_is)
    have f18 : Vm.FnP KX mg (K70.tf 18) := by
      refine' Vm.fnAt0 KX G rfl rfl ?n ?l ?c ?k K70.bn18
      (case n => k_is)
      (case l => k_is)
      (case c => k_is)
      (case k => k_is)
    have f19 : Vm.FnP KX mg (K70.tf 19) := by
      refine' Vm.fnAt0 KX G rfl rfl ?n ?l ?c ?k K70.bn19
      (case n => k_is)
      (case l => k_is)
      (case c => k_is)
      (case k => k_is)
    have f20 : Vm.FnP KX mg (K70.tf 20) := by
      refine' Vm.fnAt0 KX G rfl rfl ?n ?l ?c ?k K70.bn20
      (case n => k_is)
      (case l => k_is)
      (case c => k_is)
      (case k => k_is)
    have f21 : Vm.FnP KX mg (K70.tf 21) := by
      refine' Vm.fnAt0 KX G rfl rfl ?n ?l ?c ?k K70.bn21
      (case n => k_is)
      (case l => k_is)
      (case c => k_is)
      (case k => k_is)
    have f22 : Vm.FnP KX mg (K70.tf 22) := by
      refine' Vm.fnAt0 KX G rfl rfl ?n ?l ?c ?k K70.bn22
      (case n => k_is)
      (case l => k_is)
      (case c => k_is)
      (case k => k_is)
    have f23 : Vm.FnP KX mg (K70.tf 23) := by
      refine' Vm.fnAt0 KX G rfl rfl ?n ?l ?c ?k K70.bn23
      (case n => k_is)
      (case l => k_is)
      (case c => k_is)
      (case k => k_is)
    have f24 : Vm.FnP KX mg (K70.tf 24) := by
      refine' Vm.fnAt0 KX G rfl rfl ?n ?l ?c ?k K70.bn24
      (case n => k_is)
      (case l => k_is)
      (case c => k_is)
      (case k => k_is)
    have f25 : Vm.FnP KX mg (K70.tf 25) := by
      refine' Vm.fnAt0 KX G rfl rfl ?n ?l ?c ?k K70.bn25
      (case n => k_is)
      (case l => k_is)
      (case c => k_is)
      (case k => k_is)
    have f26 : Vm.FnP KX mg (K70.tf 26) := by
      refine' Vm.fnAt0 KX G rfl rfl ?n ?l ?c ?k K70.bn26
      (case n => k_is)
      (case l => k_is)
      (case c => k_is)
      (case k => k_is)
    have u_len : mg ("len" : PySem.Str) = none := by
      refine' PySem.W.mg_none_of KX G ?u
      (case u => k_is)
    have u_int : mg ("int" : PySem.Str) = none := by
      refine' PySem.W.mg_none_of KX G ?u
      (case u => k_is)
    have u_str : mg ("str" : PySem.Str) = none := by
      refine' PySem.W.mg_none_of KX G ?u
      (case u => k_is)
    have u_bool : mg ("bool" : PySem.Str) = none := by
      refine' PySem.W.mg_none_of KX G ?u
      (case u => k_is)
    have u_abs : mg ("abs" : PySem.Str) = none := by
      refine' PySem.W.mg_none_of KX G ?u
      (case u => k_is)
    have u_min : mg ("min" : PySem.Str) = none := by
      refine' PySem.W.mg_none_of KX G ?u
      (case u => k_is)
    have u_max : mg ("max" : PySem.Str) = none := by
      refine' PySem.W.mg_none_of KX G ?u
      (case u => k_is)
    have u_sum : mg ("sum" : PySem.Str) = none := by
      refine' PySem.W.mg_none_of KX G ?u
      (case u => k_is)
    have u_any : mg ("any" : PySem.Str) = none := by
      refine' PySem.W.mg_none_of KX G ?u
      (case u => k_is)
    have u_all : mg ("all" : PySem.Str) = none := by
      refine' PySem.W.mg_none_of KX G ?u
      (case u => k_is)
    have u_sorted : mg ("sorted" : PySem.Str) = none := by
      refine' PySem.W.mg_none_of KX G ?u
      (case u => k_is)
    have u_list : mg ("list" : PySem.Str) = none := by
      refine' PySem.W.mg_none_of KX G ?u
      (case u => k_is)
    have u_tuple : mg ("tuple" : PySem.Str) = none := by
      refine' PySem.W.mg_none_of KX G ?u
      (case u => k_is)
    have u_range : mg ("range" : PySem.Str) = none := by
      refine' PySem.W.mg_none_of KX G ?u
      (case u => k_is)
    have u_enumerate : mg ("enumerate" : PySem.Str) = none := by
      refine' PySem.W.mg_none_of KX G ?u
      (case u => k_is)
    have u_zip : mg ("zip" : PySem.Str) = none := by
      refine' PySem.W.mg_none_of KX G ?u
      (case u => k_is)
    have u_isinstance : mg ("isinstance" : PySem.Str) = none := by
      refine' PySem.W.mg_none_of KX G ?u
      (case u => k_is)
    have u_dict : mg ("dict" : PySem.Str) = none := by
      refine' PySem.W.mg_none_of KX G ?u
      (case u => k_is)
    exact K70.fin KX G hmg (fun f hl => match f, hl with
      | 0, _ => f0
      | 1, _ => f1
      | 2, _ => f2
      | 3, _ => f3
      | 4, _ => f4
      | 5, _ => f5
      | 6, _ => f6
      | 7, _ => f7
      | 8, _ => f8
      | 9, _ => f9
      | 10, _ => f10
      | 11, _ => f11
      | 12, _ => f12
      | 13, _ => f13
      | 14, _ => f14
      | 15, _ => f15
      | 16, _ => f16
      | 17, _ => f17
      | 18, _ => f18
      | 19, _ => f19
      | 20, _ => f20
      | 21, _ => f21
      | 22, _ => f22
      | 23, _ => f23
      | 24, _ => f24
      | 25, _ => f25
      | 26, _ => f26
      | n + 27, hl => absurd (show n + 27 < 27 from hl) (by omega)) (by
      intro x hx
      simp only [Vm.bltNames, List.mem_cons, List.not_mem_nil, or_false] at hx
      rcases hx with rfl | rfl | rfl | rfl | rfl | rfl | rfl | rfl | rfl | rfl | rfl | rfl | rfl | rfl | rfl | rfl | rfl | rfl
      · exact u_len
      · exact u_int
      · exact u_str
      · exact u_bool
      · exact u_abs
      · exact u_min
      · exact u_max
      · exact u_sum
      · exact u_any
      · exact u_all
      · exact u_sorted
      · exact u_list
      · exact u_tuple
      · exact u_range
      · exact u_enumerate
      · exact u_zip
      · exact u_isinstance
      · exact u_dict
      )
