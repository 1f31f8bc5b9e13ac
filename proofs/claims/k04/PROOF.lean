import PyProof.Rows.All
import Wide.All
import OpenK.AllK
import Wide.FinOn
import HandS.ForMost
import HandS.ForExc
import HandS.More
import HandS.Wide
import HandS.Deep
import HandS.TupAny
import HandS.ExcOwn
import HandS.CallSlots
import HandS.Zip
import HandS.Flow
import PySem.Challenge.RW_onepurse_k04_whole_rows_gone_again_and_a
set_option Elab.async false
set_option linter.all false
set_option maxRecDepth 100000
set_option maxHeartbeats 4000000
/-! DA: data without a heap (D), how the abstract heap bears it (Rep), the state of a frame by data (Rl). -/
namespace DL
open PySem L2

/-- data: what a value stands for, read down to the ground -/
inductive D where
  | non | bl (b : Bool) | int (i : Int) | str (s : Str)
  | tup (xs : List D) | lst (xs : List D)
  | obj (k : Nat) (fs : List (Str × D))
  | kd (kvs : List (Str × D))
  | scr (ns : List Int)
/-- a flat thing's value -/
def fv : D → V
  | .non => .non
  | .bl b => .bl b
  | .int i => .int i
  | .str s => .str s
  | _ => .ty ""

/-- the written part of the world that data may speak of: the classes by number -/
structure Gd where
  K : PySem.W.Frag
  w : World
  cl : Nat → Addr

abbrev Le (F H : Hp) : Prop := ∀ a o, F a = some o → H a = some o

mutual
def Rep (G : Gd) (F : Hp) : V → D → Prop
  | v, .non => v = .non
  | v, .bl b => v = .bl b
  | v, .int i => v = .int i
  | v, .str s => v = .str s
  | v, .tup xs => ∃ a vs, v = .ref a ∧ SqT G.K F a vs ∧ RepL G F vs xs
  | v, .lst xs => ∃ a vs, v = .ref a ∧ F a = some (.lst vs) ∧ RepL G F vs xs
  | v, .obj k fs => ∃ a dx vs, v = .ref a ∧ F a = some (.ins (G.cl k) dx vs) ∧ RepF G F vs fs
  | v, .kd kvs => ∃ a, v = .ref a ∧ ∀ x d, kvs.lookup x = some d → KDct G.K G.w a x (fv d)
  | v, .scr ns => ∃ a, v = .ref a ∧ SqL G.K F a (ns.map V.int)
def RepL (G : Gd) (F : Hp) : List V → List D → Prop
  | vs, [] => vs = []
  | vs, d :: ds => ∃ v r, vs = v :: r ∧ Rep G F v d ∧ RepL G F r ds
def RepF (G : Gd) (F : Hp) : List (Str × V) → List (Str × D) → Prop
  | vs, [] => vs = []
  | vs, (x, d) :: ds => ∃ v r, vs = (x, v) :: r ∧ Rep G F v d ∧ RepF G F r ds
end

section
variable {G : Gd} {F F' H : Hp}
theorem sqT_mono {K : PySem.W.Frag} (h : Le F F') {a : Addr} {vs : List V} (q : SqT K F a vs) : SqT K F' a vs := by
  rcases q with (q | ⟨o, q⟩) | q
  · exact .inl (.inl (h _ _ q))
  · exact .inl (.inr ⟨o, h _ _ q⟩)
  · exact .inr q
theorem sqL_mono {K : PySem.W.Frag} (h : Le F F') {a : Addr} {vs : List V} (q : SqL K F a vs) : SqL K F' a vs := by
  rcases q with (q | ⟨o, q⟩) | q
  · exact .inl (.inl (h _ _ q))
  · exact .inl (.inr ⟨o, h _ _ q⟩)
  · exact .inr q
mutual
theorem Rep.mono (h : Le F F') : ∀ (d : D) (v : V), Rep G F v d → Rep G F' v d
  | .non, v, r => by simpa only [Rep] using r
  | .bl b, v, r => by simpa only [Rep] using r
  | .int i, v, r => by simpa only [Rep] using r
  | .str s, v, r => by simpa only [Rep] using r
  | .tup xs, v, r => by
    simp only [Rep] at r ⊢
    obtain ⟨a, vs, e, q, l⟩ := r
    exact ⟨a, vs, e, sqT_mono h q, RepL.mono h xs vs l⟩
  | .lst xs, v, r => by
    simp only [Rep] at r ⊢
    obtain ⟨a, vs, e, q, l⟩ := r
    exact ⟨a, vs, e, h _ _ q, RepL.mono h xs vs l⟩
  | .obj k fs, v, r => by
    simp only [Rep] at r ⊢
    obtain ⟨a, dx, vs, e, q, l⟩ := r
    exact ⟨a, dx, vs, e, h _ _ q, RepF.mono h fs vs l⟩
  | .kd kvs, v, r => by simpa only [Rep] using r
  | .scr ns, v, r => by
    simp only [Rep] at r ⊢
    obtain ⟨a, e, q⟩ := r
    exact ⟨a, e, sqL_mono h q⟩
theorem RepL.mono (h : Le F F') : ∀ (ds : List D) (vs : List V), RepL G F vs ds → RepL G F' vs ds
  | [], vs, r => by simpa only [RepL] using r
  | d :: ds, vs, r => by
    simp only [RepL] at r ⊢
    obtain ⟨v, s, e, r1, r2⟩ := r
    exact ⟨v, s, e, Rep.mono h d v r1, RepL.mono h ds s r2⟩
theorem RepF.mono (h : Le F F') : ∀ (fs : List (Str × D)) (vs : List (Str × V)), RepF G F vs fs → RepF G F' vs fs
  | [], vs, r => by simpa only [RepF] using r
  | (x, d) :: ds, vs, r => by
    simp only [RepF] at r ⊢
    obtain ⟨v, s, e, r1, r2⟩ := r
    exact ⟨v, s, e, Rep.mono h d v r1, RepF.mono h ds s r2⟩
end
theorem RepL.nil : RepL G F [] [] := by simp only [RepL]
theorem RepL.cons {v : V} {d : D} {vs : List V} {ds : List D} (a : Rep G F v d) (b : RepL G F vs ds) : RepL G F (v :: vs) (d :: ds) := by
  simp only [RepL]
  exact ⟨v, vs, rfl, a, b⟩
theorem RepL.inv {vs : List V} {d : D} {ds : List D} (h : RepL G F vs (d :: ds)) : ∃ v r, vs = v :: r ∧ Rep G F v d ∧ RepL G F r ds := by
  simpa only [RepL] using h
theorem RepL.nil_inv {vs : List V} (h : RepL G F vs []) : vs = [] := by simpa only [RepL] using h
theorem RepL.length : ∀ {ds : List D} {vs : List V}, RepL G F vs ds → vs.length = ds.length
  | [], vs, h => by rw [RepL.nil_inv h]; rfl
  | d :: ds, vs, h => by
    obtain ⟨v, r, e, _, l⟩ := RepL.inv h
    rw [e, List.length_cons, List.length_cons, RepL.length l]
theorem RepL.append : ∀ {ds es : List D} {vs us : List V}, RepL G F vs ds → RepL G F us es → RepL G F (vs ++ us) (ds ++ es)
  | [], es, vs, us, h, k => by rw [RepL.nil_inv h]; exact k
  | d :: ds, es, vs, us, h, k => by
    obtain ⟨v, r, e, a, l⟩ := RepL.inv h
    rw [e]
    exact RepL.cons a (RepL.append l k)
theorem RepL.get : ∀ {ds : List D} {vs : List V} {i : Nat} {d : D}, RepL G F vs ds → ds[i]? = some d → ∃ v, vs[i]? = some v ∧ Rep G F v d
  | [], vs, i, d, h, e => by simp at e
  | d :: ds, vs, 0, d', h, e => by
    obtain ⟨v, r, e', a, l⟩ := RepL.inv h
    simp at e
    subst e
    exact ⟨v, by rw [e']; rfl, a⟩
  | d :: ds, vs, i + 1, d', h, e => by
    obtain ⟨v, r, e', a, l⟩ := RepL.inv h
    obtain ⟨v', q, s⟩ := RepL.get (i := i) l (by simpa using e)
    exact ⟨v', by rw [e']; simpa using q, s⟩
theorem RepL.set : ∀ {ds : List D} {vs : List V} (i : Nat) {d : D} {v : V}, RepL G F vs ds → Rep G F v d → RepL G F (vs.set i v) (ds.set i d)
  | [], vs, i, d, v, h, q => by rw [RepL.nil_inv h]; exact RepL.nil
  | d :: ds, vs, 0, d', v', h, q => by
    obtain ⟨v, r, e', a, l⟩ := RepL.inv h
    rw [e']
    exact RepL.cons q l
  | d :: ds, vs, i + 1, d', v', h, q => by
    obtain ⟨v, r, e', a, l⟩ := RepL.inv h
    rw [e']
    exact RepL.cons a (RepL.set i l q)
theorem RepL.drop : ∀ {ds : List D} {vs : List V} (n : Nat), RepL G F vs ds → RepL G F (vs.drop n) (ds.drop n)
  | [], vs, n, h => by rw [RepL.nil_inv h, List.drop_nil, List.drop_nil]; exact RepL.nil
  | d :: ds, vs, 0, h => h
  | d :: ds, vs, n + 1, h => by
    obtain ⟨v, r, e', a, l⟩ := RepL.inv h
    rw [e']
    exact RepL.drop n l
theorem RepL.take : ∀ {ds : List D} {vs : List V} (n : Nat), RepL G F vs ds → RepL G F (vs.take n) (ds.take n)
  | [], vs, n, h => by rw [RepL.nil_inv h, List.take_nil, List.take_nil]; exact RepL.nil
  | d :: ds, vs, 0, h => RepL.nil
  | d :: ds, vs, n + 1, h => by
    obtain ⟨v, r, e', a, l⟩ := RepL.inv h
    rw [e']
    exact RepL.cons a (RepL.take n l)
theorem RepL.of_map {α : Type} {f : α → V} {g : α → D} (h : ∀ a, Rep G F (f a) (g a)) : ∀ l : List α, RepL G F (l.map f) (l.map g)
  | [] => RepL.nil
  | a :: l => RepL.cons (h a) (RepL.of_map h l)
theorem Rep.int' (i : Int) : Rep G F (.int i) (.int i) := by simp only [Rep]
theorem Rep.str' (s : Str) : Rep G F (.str s) (.str s) := by simp only [Rep]
theorem Rep.bl' (b : Bool) : Rep G F (.bl b) (.bl b) := by simp only [Rep]
theorem Rep.non' : Rep G F .non .non := by simp only [Rep]
theorem Rep.lst' {a : Addr} {vs : List V} {xs : List D} (h : F a = some (.lst vs)) (l : RepL G F vs xs) : Rep G F (.ref a) (.lst xs) := by
  simp only [Rep]
  exact ⟨a, vs, rfl, h, l⟩
theorem Rep.tup' {a : Addr} {vs : List V} {xs : List D} (h : SqT G.K F a vs) (l : RepL G F vs xs) : Rep G F (.ref a) (.tup xs) := by
  simp only [Rep]
  exact ⟨a, vs, rfl, h, l⟩
theorem RepL.ints : ∀ {ns : List Int} {vs : List V}, RepL G F vs (ns.map D.int) → vs = ns.map V.int
  | [], vs, h => RepL.nil_inv h
  | n :: ns, vs, h => by
    obtain ⟨v, r, e, a, l⟩ := RepL.inv h
    rw [e, RepL.ints l]
    simp only [Rep] at a
    rw [a]; rfl
theorem RepL.strs : ∀ {ns : List Str} {vs : List V}, RepL G F vs (ns.map D.str) → vs = ns.map V.str
  | [], vs, h => RepL.nil_inv h
  | n :: ns, vs, h => by
    obtain ⟨v, r, e, a, l⟩ := RepL.inv h
    rw [e, RepL.strs l]
    simp only [Rep] at a
    rw [a]; rfl
theorem RepL.bls : ∀ {ns : List Bool} {vs : List V}, RepL G F vs (ns.map D.bl) → vs = ns.map V.bl
  | [], vs, h => RepL.nil_inv h
  | n :: ns, vs, h => by
    obtain ⟨v, r, e, a, l⟩ := RepL.inv h
    rw [e, RepL.bls l]
    simp only [Rep] at a
    rw [a]; rfl
end

/-! ### the slots of a frame by data -/
/-- a slot: nothing known; frozen data; a list of the frame's own (b: handed in, to be changed for the caller) -/
inductive Sl where
  | no | fz (d : D) | ow (b : Bool) (xs : List D)
abbrev Rho := List Sl

/-- the world of one run of a def: the written part, the heaps at its entry (frozen, whole), the addresses of what was handed in to be changed, cells that are held aside -/
structure Wd where
  G : Gd
  F0 : Hp
  H0 : Hp
  par : Nat → Option Addr
  fr : Addr → Option HO

def SlOk (w : Wd) (F H : Hp) (i : Nat) (o : Option (Option V)) : Sl → Prop
  | .no => True
  | .fz d => ∃ v, o = some (some v) ∧ Rep w.G F v d
  | .ow b xs => ∃ a vs, o = some (some (V.ref a)) ∧ H a = some (.lst vs) ∧ RepL w.G F vs xs ∧ F a = none ∧ w.fr a = none ∧ (if b = true then w.par i = some a else w.H0 a = none)

/-- no slot owns the address -/
def Free (σ : St) (ρ : Rho) (p : Addr) : Prop := ∀ (i : Nat) (b : Bool) (xs : List D), ρ[i]? = some (Sl.ow b xs) → σ[i]? ≠ some (some (V.ref p))

structure Rl (w : Wd) (F H : Hp) (σ : St) (ρ : Rho) : Prop where
  len : σ.length = ρ.length
  le : Le F H
  f0 : Le w.F0 F
  kp : ∀ a o, w.H0 a = some o → (∀ i, w.par i ≠ some a) → H a = some o
  al : ∀ a, H a = none → w.H0 a = none
  nf : ∀ a, w.H0 a ≠ none → w.F0 a = none → F a = none
  sl : ∀ (i : Nat) (s : Sl), ρ[i]? = some s → SlOk w F H i σ[i]? s
  pr : ∀ (i : Nat) (a : Addr), w.par i = some a → ∃ xs, ρ[i]? = some (Sl.ow true xs)
  dj : ∀ (i j : Nat) (a : Addr) (b c : Bool) (xs ys : List D), ρ[i]? = some (Sl.ow b xs) → ρ[j]? = some (Sl.ow c ys) → σ[i]? = some (some (V.ref a)) → σ[j]? = some (some (V.ref a)) → i = j
  fx : ∀ a o, w.fr a = some o → H a = some o ∧ F a = none

/-- the heaps grow: what stood stands, newly frozen is what is new -/
structure Grow (F H F' H' : Hp) : Prop where
  fm : Le F F'
  hm : Le H H'
  le : Le F' H'
  nf : ∀ a, H a ≠ none → F a = none → F' a = none
theorem Grow.refl {F H : Hp} (h : Le F H) : Grow F H F H := ⟨fun _ _ e => e, fun _ _ e => e, h, fun _ _ e => e⟩
theorem ne_none_mono {H H' : Hp} (h : Le H H') {a : Addr} (n : H a ≠ none) : H' a ≠ none := by
  cases e : H a with
  | none => exact absurd e n
  | some o => rw [h a o e]; simp
theorem Grow.trans {F H F1 H1 F2 H2 : Hp} (a : Grow F H F1 H1) (b : Grow F1 H1 F2 H2) : Grow F H F2 H2 :=
  ⟨fun c o e => b.fm c o (a.fm c o e), fun c o e => b.hm c o (a.hm c o e), b.le, fun c h n => b.nf c (ne_none_mono a.hm h) (a.nf c h n)⟩
/-- a new object, known only to the whole heap -/
theorem Grow.alloc {F H : Hp} (h : Le F H) {p : Addr} (n : H p = none) (o : HO) : Grow F H F (upd H p o) :=
  ⟨fun _ _ e => e, fun b u e => by rw [upd_ne (ne_of_none e n)]; exact e, fun b u e => by rw [upd_ne (ne_of_none (h b u e) n)]; exact h b u e, fun _ _ e => e⟩
theorem le_none {F H : Hp} (h : Le F H) {p : Addr} (n : H p = none) : F p = none := by
  cases e : F p with
  | none => rfl
  | some o => rw [h p o e] at n; cases n
/-- a new frozen object -/
theorem Grow.new {F H : Hp} (h : Le F H) {p : Addr} (n : H p = none) (o : HO) : Grow F H (upd F p o) (upd H p o) := by
  have nf := le_none h n
  refine ⟨fun b u e => ?_, fun b u e => ?_, fun b u e => ?_, fun b hb e => ?_⟩
  · rw [upd_ne (ne_of_none e nf)]; exact e
  · rw [upd_ne (ne_of_none e n)]; exact e
  · by_cases hb : b = p
    · subst hb; rw [upd_same] at e ⊢; exact e
    · rw [upd_ne hb] at e ⊢; exact h b u e
  · rw [upd_ne (fun z => hb (by rw [z]; exact n))]; exact e
/-- a cell that is not frozen yet is frozen -/
theorem le_freeze {F H : Hp} (h : Le F H) {p : Addr} {o : HO} (e : H p = some o) : Le (upd F p o) H := fun b u q => by
  by_cases hb : b = p
  · subst hb; rw [upd_same] at q; rw [e]; exact q
  · rw [upd_ne hb] at q; exact h b u q
theorem le_upd {F : Hp} {p : Addr} {o : HO} (n : F p = none) : Le F (upd F p o) := fun b u q => by rw [upd_ne (ne_of_none q n)]; exact q

section
variable {w : Wd} {F H F' H' : Hp} {σ : St} {ρ : Rho}
theorem Rl.hnone (r : Rl w F H σ ρ) {a : Addr} (h : w.H0 a ≠ none) : H a ≠ none := fun e => h (r.al a e)
theorem SlOk.grow {i : Nat} {o : Option (Option V)} {s : Sl} (g : Grow F H F' H') (h : SlOk w F H i o s) : SlOk w F' H' i o s := by
  cases s with
  | no => exact h
  | fz d =>
    obtain ⟨v, e, q⟩ := h
    exact ⟨v, e, q.mono g.fm⟩
  | ow b xs =>
    obtain ⟨a, vs, e, ha, l, n, f, c⟩ := h
    exact ⟨a, vs, e, g.hm _ _ ha, l.mono g.fm, g.nf a (by rw [ha]; simp) n, f, c⟩
theorem Rl.grow (r : Rl w F H σ ρ) (g : Grow F H F' H') : Rl w F' H' σ ρ where
  len := r.len
  le := g.le
  f0 := fun a o e => g.fm _ _ (r.f0 a o e)
  kp := fun a o e n => g.hm _ _ (r.kp a o e n)
  al := fun a e => r.al a (by
    cases q : H a with
    | none => rfl
    | some o => rw [g.hm a o q] at e; cases e)
  nf := fun a h n => g.nf a (r.hnone h) (r.nf a h n)
  sl := fun i s e => (r.sl i s e).grow g
  pr := r.pr
  dj := r.dj
  fx := fun a o e => ⟨g.hm _ _ (r.fx a o e).1, g.nf a (by rw [(r.fx a o e).1]; simp) (r.fx a o e).2⟩
/-- a new frozen value in slot i -/
theorem Rl.set (r : Rl w F H σ ρ) {i : Nat} {v : V} {d : D} (hp : w.par i = none) (q : Rep w.G F v d) : Rl w F H (σ.set i (some v)) (ρ.set i (Sl.fz d)) where
  len := by rw [List.length_set, List.length_set]; exact r.len
  le := r.le
  f0 := r.f0
  kp := r.kp
  al := r.al
  nf := r.nf
  sl := fun j s e => by
    by_cases hj : i = j
    · subst hj
      have hl : i < ρ.length := by
        have := (List.getElem?_eq_some_iff.mp e).1
        rwa [List.length_set] at this
      rw [List.getElem?_set_self hl] at e
      cases e
      exact ⟨v, List.getElem?_set_self (by rw [r.len]; exact hl), q⟩
    · rw [List.getElem?_set_ne hj] at e ⊢
      exact r.sl j s e
  pr := fun j a e => by
    have hj : i ≠ j := fun z => by subst z; rw [hp] at e; cases e
    rw [List.getElem?_set_ne hj]
    exact r.pr j a e
  dj := fun j k a b c xs ys e1 e2 e3 e4 => by
    have h1 : i ≠ j := fun z => by
      subst z
      have hl : i < ρ.length := by
        have := (List.getElem?_eq_some_iff.mp e1).1
        rwa [List.length_set] at this
      rw [List.getElem?_set_self hl] at e1; cases e1
    have h2 : i ≠ k := fun z => by
      subst z
      have hl : i < ρ.length := by
        have := (List.getElem?_eq_some_iff.mp e2).1
        rwa [List.length_set] at this
      rw [List.getElem?_set_self hl] at e2; cases e2
    rw [List.getElem?_set_ne h1] at e1 e3
    rw [List.getElem?_set_ne h2] at e2 e4
    exact r.dj j k a b c xs ys e1 e2 e3 e4
  fx := r.fx
/-- a list of the frame's own in slot i -/
theorem Rl.setow (r : Rl w F H σ ρ) {i : Nat} {p : Addr} {vs : List V} {xs : List D} (hp : w.par i = none) (ha : H p = some (.lst vs)) (l : RepL w.G F vs xs) (hF : F p = none) (h0 : w.H0 p = none) (hf : w.fr p = none)
    (fr : Free σ ρ p) : Rl w F H (σ.set i (some (V.ref p))) (ρ.set i (Sl.ow false xs)) where
  len := by rw [List.length_set, List.length_set]; exact r.len
  le := r.le
  f0 := r.f0
  kp := r.kp
  al := r.al
  nf := r.nf
  sl := fun j s e => by
    by_cases hj : i = j
    · subst hj
      have hl : i < ρ.length := by
        have := (List.getElem?_eq_some_iff.mp e).1
        rwa [List.length_set] at this
      rw [List.getElem?_set_self hl] at e
      cases e
      exact ⟨p, vs, List.getElem?_set_self (by rw [r.len]; exact hl), ha, l, hF, hf, h0⟩
    · rw [List.getElem?_set_ne hj] at e ⊢
      exact r.sl j s e
  pr := fun j a e => by
    have hj : i ≠ j := fun z => by subst z; rw [hp] at e; cases e
    rw [List.getElem?_set_ne hj]
    exact r.pr j a e
  dj := fun j k a b c xs' ys e1 e2 e3 e4 => by
    have lt : ∀ {s}, (ρ.set i s)[j]? = some (Sl.ow b xs') → j < ρ.length := fun {s} e => by
      have := (List.getElem?_eq_some_iff.mp e).1
      rwa [List.length_set] at this
    have lt2 : ∀ {s}, (ρ.set i s)[k]? = some (Sl.ow c ys) → k < ρ.length := fun {s} e => by
      have := (List.getElem?_eq_some_iff.mp e).1
      rwa [List.length_set] at this
    by_cases h1 : i = j
    · by_cases h2 : i = k
      · exact h1.symm.trans h2
      · subst h1
        rw [List.getElem?_set_self (by rw [r.len]; exact lt e1)] at e3
        have ea : p = a := by injection e3 with e3; injection e3 with e3; injection e3
        subst ea
        rw [List.getElem?_set_ne h2] at e2 e4
        exact absurd e4 (fr k c ys e2)
    · by_cases h2 : i = k
      · subst h2
        rw [List.getElem?_set_self (by rw [r.len]; exact lt2 e2)] at e4
        have ea : p = a := by injection e4 with e4; injection e4 with e4; injection e4
        subst ea
        rw [List.getElem?_set_ne h1] at e1 e3
        exact absurd e3 (fr j b xs' e1)
      · rw [List.getElem?_set_ne h1] at e1 e3
        rw [List.getElem?_set_ne h2] at e2 e4
        exact r.dj j k a b c xs' ys e1 e2 e3 e4
  fx := r.fx
/-- a slot is forgotten (nothing handed in) -/
theorem Rl.wipe (r : Rl w F H σ ρ) {i : Nat} {o : Option V} (hp : w.par i = none) : Rl w F H (σ.set i o) (ρ.set i .no) where
  len := by rw [List.length_set, List.length_set]; exact r.len
  le := r.le
  f0 := r.f0
  kp := r.kp
  al := r.al
  nf := r.nf
  sl := fun j s e => by
    by_cases hj : i = j
    · subst hj
      have hl : i < ρ.length := by
        have := (List.getElem?_eq_some_iff.mp e).1
        rwa [List.length_set] at this
      rw [List.getElem?_set_self hl] at e
      cases e
      exact True.intro
    · rw [List.getElem?_set_ne hj] at e ⊢
      exact r.sl j s e
  pr := fun j a e => by
    have hj : i ≠ j := fun z => by subst z; rw [hp] at e; cases e
    rw [List.getElem?_set_ne hj]
    exact r.pr j a e
  dj := fun j k a b c xs ys e1 e2 e3 e4 => by
    have h1 : i ≠ j := fun z => by
      subst z
      have hl : i < ρ.length := by
        have := (List.getElem?_eq_some_iff.mp e1).1
        rwa [List.length_set] at this
      rw [List.getElem?_set_self hl] at e1; cases e1
    have h2 : i ≠ k := fun z => by
      subst z
      have hl : i < ρ.length := by
        have := (List.getElem?_eq_some_iff.mp e2).1
        rwa [List.length_set] at this
      rw [List.getElem?_set_self hl] at e2; cases e2
    rw [List.getElem?_set_ne h1] at e1 e3
    rw [List.getElem?_set_ne h2] at e2 e4
    exact r.dj j k a b c xs ys e1 e2 e3 e4
  fx := r.fx
/-- the frame's own list in slot i is frozen -/
theorem Rl.freeze (r : Rl w F H σ ρ) {i : Nat} {xs : List D} (e : ρ[i]? = some (Sl.ow false xs)) :
    ∃ (a : Addr) (vs : List V), σ[i]? = some (some (V.ref a)) ∧ H a = some (.lst vs) ∧ F a = none ∧ Rep w.G (upd F a (.lst vs)) (.ref a) (.lst xs) ∧ Rl w (upd F a (.lst vs)) H σ (ρ.set i (Sl.fz (.lst xs))) := by
  obtain ⟨a, vs, es, ha, l, n, f, c⟩ := r.sl i _ e
  have c : w.H0 a = none := by simpa using c
  have hl : i < ρ.length := (List.getElem?_eq_some_iff.mp e).1
  have fm : Le F (upd F a (.lst vs)) := le_upd n
  have hpar : w.par i = none := by
    cases q : w.par i with
    | none => rfl
    | some b =>
      obtain ⟨ys, z⟩ := r.pr i b q
      rw [e] at z; cases z
  have rp : Rep w.G (upd F a (.lst vs)) (.ref a) (.lst xs) := Rep.lst' upd_same (l.mono fm)
  refine ⟨a, vs, es, ha, n, rp, ?_⟩
  refine ⟨by rw [List.length_set]; exact r.len, le_freeze r.le ha, fun b o q => fm _ _ (r.f0 b o q), r.kp, r.al, fun b h q => ?_, fun j s q => ?_, fun j b q => ?_, fun j k b c1 c2 ys zs e1 e2 e3 e4 => ?_, fun b o q => ?_⟩
  · rw [upd_ne (fun z => h (by rw [z]; exact c))]
    exact r.nf b h q
  · by_cases hj : i = j
    · subst hj
      rw [List.getElem?_set_self hl] at q
      cases q
      exact ⟨.ref a, es, rp⟩
    · rw [List.getElem?_set_ne hj] at q
      have z := r.sl j s q
      cases s with
      | no => exact z
      | fz d =>
        obtain ⟨v, e', q'⟩ := z
        exact ⟨v, e', q'.mono fm⟩
      | ow b ys =>
        obtain ⟨a', vs', e', ha', l', n', f', c'⟩ := z
        have ne : a' ≠ a := fun y => hj (r.dj i j a false b xs ys e q es (by rw [← y]; exact e'))
        exact ⟨a', vs', e', ha', l'.mono fm, by rw [upd_ne ne]; exact n', f', c'⟩
  · have hj : i ≠ j := fun z => by subst z; rw [hpar] at q; cases q
    rw [List.getElem?_set_ne hj]
    exact r.pr j b q
  · have h1 : i ≠ j := fun z => by
      subst z
      rw [List.getElem?_set_self hl] at e1; cases e1
    have h2 : i ≠ k := fun z => by
      subst z
      rw [List.getElem?_set_self hl] at e2; cases e2
    rw [List.getElem?_set_ne h1] at e1
    rw [List.getElem?_set_ne h2] at e2
    exact r.dj j k b c1 c2 ys zs e1 e2 e3 e4
  · have z := r.fx b o q
    have ne : b ≠ a := fun y => by rw [y, f] at q; cases q
    exact ⟨z.1, by rw [upd_ne ne]; exact z.2⟩
/-- the frame's own list in slot i is changed -/
theorem Rl.write (r : Rl w F H σ ρ) {i : Nat} {b : Bool} {xs ys : List D} (e : ρ[i]? = some (Sl.ow b xs)) {a : Addr} {us : List V} (es : σ[i]? = some (some (V.ref a))) (l : RepL w.G F us ys) :
    Rl w F (upd H a (.lst us)) σ (ρ.set i (Sl.ow b ys)) := by
  obtain ⟨a', vs, es', ha, l0, n, f, c⟩ := r.sl i _ e
  have ea : a' = a := by
    rw [es] at es'
    injection es' with q; injection q with q; injection q with q; exact q.symm
  subst ea
  have hl : i < ρ.length := (List.getElem?_eq_some_iff.mp e).1
  refine ⟨by rw [List.length_set]; exact r.len, fun c o q => ?_, r.f0, fun c o q np => ?_, fun c q => ?_, r.nf, fun j s q => ?_, fun j c q => ?_, fun j k c c1 c2 ws zs e1 e2 e3 e4 => ?_, fun c o q => ?_⟩
  · rw [upd_ne (ne_of_none q n)]; exact r.le c o q
  · have ne : c ≠ a' := fun z => by
      cases b with
      | true => exact np i (by rw [z]; simpa using ‹(if true = true then w.par i = some a' else w.H0 a' = none)›)
      | false => rw [z] at q; rw [show w.H0 a' = none by simpa using ‹(if false = true then w.par i = some a' else w.H0 a' = none)›] at q; cases q
    rw [upd_ne ne]; exact r.kp c o q np
  · have ne : c ≠ a' := fun z => by rw [z, upd_same] at q; cases q
    rw [upd_ne ne] at q; exact r.al c q
  · by_cases hj : i = j
    · subst hj
      rw [List.getElem?_set_self hl] at q
      cases q
      exact ⟨a', us, es, upd_same, l, n, f, c⟩
    · rw [List.getElem?_set_ne hj] at q
      have z := r.sl j s q
      cases s with
      | no => exact z
      | fz d => exact z
      | ow b' ws =>
        obtain ⟨a2, vs', e', ha', l', n', f', c'⟩ := z
        have ne : a2 ≠ a' := fun y => hj (r.dj i j a' b b' xs ws e q es (by rw [← y]; exact e'))
        exact ⟨a2, vs', e', by rw [upd_ne ne]; exact ha', l', n', f', c'⟩
  · obtain ⟨ws, z⟩ := r.pr j c q
    by_cases hj : i = j
    · subst hj
      rw [e] at z; cases z
      exact ⟨ys, List.getElem?_set_self hl⟩
    · exact ⟨ws, by rw [List.getElem?_set_ne hj]; exact z⟩
  · have back : ∀ {m : Nat} {c : Bool} {ws : List D}, (ρ.set i (Sl.ow b ys))[m]? = some (Sl.ow c ws) → ∃ c' ws', ρ[m]? = some (Sl.ow c' ws') := fun {m c ws} q => by
      by_cases hm : i = m
      · subst hm; exact ⟨_, _, e⟩
      · rw [List.getElem?_set_ne hm] at q; exact ⟨_, _, q⟩
    obtain ⟨_, _, q1⟩ := back e1
    obtain ⟨_, _, q2⟩ := back e2
    exact r.dj j k c _ _ _ _ q1 q2 e3 e4
  · have z := r.fx c o q
    have ne : c ≠ a' := fun y => by rw [y, f] at q; cases q
    exact ⟨by rw [upd_ne ne]; exact z.1, z.2⟩
/-- what stands newly in the heap is nobody's -/
theorem Rl.free (r : Rl w F H σ ρ) {p : Addr} (n : H p = none) : Free σ ρ p := fun i b xs e z => by
  obtain ⟨a, vs, es, ha, _⟩ := r.sl i _ e
  rw [z] at es
  have ea : p = a := by injection es with q; injection q with q; injection q
  rw [← ea, n] at ha
  cases ha
theorem Rl.freshFr (r : Rl w F H σ ρ) {p : Addr} (n : H p = none) : w.fr p = none := by
  cases q : w.fr p with
  | none => rfl
  | some o => rw [(r.fx p o q).1] at n; cases n
/-- a further cell is held aside -/
theorem Rl.hold (r : Rl w F H σ ρ) {p : Addr} {o : HO} (e : H p = some o) (n : F p = none) (fr : Free σ ρ p) : Rl { w with fr := upd w.fr p o } F H σ ρ where
  len := r.len
  le := r.le
  f0 := r.f0
  kp := r.kp
  al := r.al
  nf := r.nf
  sl := fun i s q => by
    have z := r.sl i s q
    cases s with
    | no => exact z
    | fz d => exact z
    | ow b xs =>
      obtain ⟨a, vs, es, ha, l, nn, f, c⟩ := z
      have ne : a ≠ p := fun y => fr i b xs q (by rw [← y]; exact es)
      exact ⟨a, vs, es, ha, l, nn, by show upd w.fr p o a = none; rw [upd_ne ne]; exact f, c⟩
  pr := r.pr
  dj := r.dj
  fx := fun a u q => by
    have q : upd w.fr p o a = some u := q
    by_cases ha : a = p
    · subst ha; rw [upd_same] at q; cases q; exact ⟨e, n⟩
    · rw [upd_ne ha] at q; exact r.fx a u q
theorem Rl.unhold {fr' : Addr → Option HO} (r : Rl { w with fr := fr' } F H σ ρ) (h : ∀ a o, w.fr a = some o → fr' a = some o) : Rl w F H σ ρ where
  len := r.len
  le := r.le
  f0 := r.f0
  kp := r.kp
  al := r.al
  nf := r.nf
  sl := fun i s q => by
    have z := r.sl i s q
    cases s with
    | no => exact z
    | fz d => exact z
    | ow b xs =>
      obtain ⟨a, vs, es, ha, l, nn, f, c⟩ := z
      refine ⟨a, vs, es, ha, l, nn, ?_, c⟩
      cases y : w.fr a with
      | none => rfl
      | some o => exact absurd ((h a o y).symm.trans f) (by simp)
  pr := r.pr
  dj := r.dj
  fx := fun a u q => r.fx a u (h a u q)
end
end DL

/-! DB: operators, comparisons, tests, places and slices by data. -/
namespace DL
open PySem L2

/-- a result: data, or a new list -/
inductive Res where
  | d (x : D) | n (xs : List D)

/-- read at this moment: a list may be any that stands -/
def RdV (G : Gd) (F H : Hp) (v : V) : D → Prop
  | .lst xs => ∃ a vs, v = .ref a ∧ H a = some (.lst vs) ∧ RepL G F vs xs
  | d => Rep G F v d
theorem Rep.rd {G : Gd} {F H : Hp} (h : Le F H) {v : V} {d : D} (r : Rep G F v d) : RdV G F H v d := by
  cases d with
  | lst xs =>
    simp only [Rep] at r
    obtain ⟨a, vs, e, q, l⟩ := r
    exact ⟨a, vs, e, h _ _ q, l⟩
  | _ => exact r
/-- what a result is, in the heaps behind -/
def RRes (G : Gd) (H F' H' : Hp) (v : V) : Res → Prop
  | .d x => Rep G F' v x
  | .n xs => ∃ p vs, v = .ref p ∧ H p = none ∧ H' p = some (.lst vs) ∧ RepL G F' vs xs ∧ F' p = none
/-- Q holds of what sem tells -/
def OutD (G : Gd) (F H : Hp) (sem : (Res → Prop) → Prop) (Q : VK) : Prop :=
  ∃ Kd : Res → Prop, sem Kd ∧ ∀ v r F' H', Grow F H F' H' → RRes G H F' H' v r → Kd r → Q v H'

section
variable {G : Gd} {F H : Hp} {Q : VK}
/-- the ways an operation ends -/
theorem out_at {Kd : Res → Prop} (h : Le F H) (k : ∀ v r F' H', Grow F H F' H' → RRes G H F' H' v r → Kd r → Q v H') {v : V} {d : D} (q : Kd (.d d)) (r : Rep G F v d) : Q v H := k v (.d d) F H (.refl h) r q
theorem out_lst {Kd : Res → Prop} (h : Le F H) (k : ∀ v r F' H', Grow F H F' H' → RRes G H F' H' v r → Kd r → Q v H') {vs : List V} {xs : List D} (q : Kd (.n xs)) (l : RepL G F vs xs) {p : Addr} (n : H p = none) : Q (.ref p) (upd H p (.lst vs)) :=
  k (.ref p) (.n xs) F _ (.alloc h n _) ⟨p, vs, rfl, n, upd_same, l, le_none h n⟩ q
theorem out_tup {Kd : Res → Prop} (h : Le F H) (k : ∀ v r F' H', Grow F H F' H' → RRes G H F' H' v r → Kd r → Q v H') {vs : List V} {xs : List D} (q : Kd (.d (.tup xs))) (l : RepL G F vs xs) {p : Addr} (n : H p = none) : Q (.ref p) (upd H p (.tup vs)) :=
  k (.ref p) (.d (.tup xs)) (upd F p (.tup vs)) _ (.new h n _) (Rep.tup' (SqT.of upd_same) (l.mono (le_upd (le_none h n)))) q
end

/-! ### the operators' meaning -/
def addD : D → D → (Res → Prop) → Prop
  | .int i, .int j, K => K (.d (.int (i + j)))
  | .str a, .str b, K => a.length + b.length ≤ sizeLine ∧ K (.d (.str (a ++ b)))
  | .lst xs, .lst ys, K => xs.length + ys.length ≤ sizeLine ∧ K (.n (xs ++ ys))
  | .tup xs, .tup ys, K => xs.length + ys.length ≤ sizeLine ∧ K (.d (.tup (xs ++ ys)))
  | _, _, _ => False
def subD : D → D → (Res → Prop) → Prop
  | .int i, .int j, K => K (.d (.int (i - j)))
  | _, _, _ => False
def BigM (i j : Int) : Prop := CMul i j ∨ CMulW i j
def mulD : D → D → (Res → Prop) → Prop
  | .int i, .int j, K => BigM i j ∧ K (.d (.int (i * j)))
  | .lst xs, .int k, K => (-(2 ^ 63) ≤ k ∧ k < 2 ^ 63 ∧ xs.length * k.toNat ≤ sizeLine) ∧ K (.n (List.replicate k.toNat xs).flatten)
  | _, _, _ => False
def fdivD : D → D → (Res → Prop) → Prop
  | .int i, .int j, K => (0 < j ∧ j < 340282366920938463463374607431768211456) ∧ K (.d (.int (i / j)))
  | _, _, _ => False
def modD : D → D → (Res → Prop) → Prop
  | .int i, .int j, K => 0 < j ∧ K (.d (.int (i % j)))
  | _, _, _ => False
def powD : D → D → (Res → Prop) → Prop
  | .int i, .int j, K => CPow i j ∧ K (.d (.int (i ^ j.toNat)))
  | _, _, _ => False
inductive BOp where | add | sub | mul | fdiv | mod | pow
def BOp.op : BOp → Operator
  | .add => .Add | .sub => .Sub | .mul => .Mult | .fdiv => .FloorDiv | .mod => .Mod | .pow => .Pow
def BOp.sem : BOp → D → D → (Res → Prop) → Prop
  | .add => addD | .sub => subD | .mul => mulD | .fdiv => fdivD | .mod => modD | .pow => powD

/-- the reading of a two-place operation by data -/
def rD2 (G : Gd) (sem : D → D → (Res → Prop) → Prop) : R2 := fun x y H Q => ∃ F dx dy, Le F H ∧ RdV G F H x dx ∧ RdV G F H y dy ∧ OutD G F H (sem dx dy) Q
section
variable {X : Cx} {G : Gd}
theorem log2_of {j : Int} (h0 : 0 < j) (h : j < 340282366920938463463374607431768211456) : j.natAbs.log2 < 9000 := by
  have h1 : j.natAbs < 2 ^ 128 := by
    have : (2 : Nat) ^ 128 = 340282366920938463463374607431768211456 := by decide
    omega
  have := PySem.Flt.log2_lt_of (k := 128) (by decide) h1
  omega
theorem op_D (hG : G.K = X.K) : ∀ o : BOp, OpR X (binaryOp o.op) (rD2 G o.sem) := by
  intro o pins s σ H x y v u Q I rx ry h
  obtain ⟨F, dx, dy, hle, hx, hy, Kd, hs, k⟩ := h
  cases o with
  | add =>
    cases dx with
    | int i =>
      cases dy with
      | int j =>
        simp only [RdV, Rep] at hx hy; subst hx; subst hy
        exact op_add pins s σ H _ _ v u Q I rx ry ⟨i, j, rfl, rfl, out_at hle k hs (Rep.int' _)⟩
      | _ => exact (show False from hs).elim
    | str a =>
      cases dy with
      | str b =>
        simp only [RdV, Rep] at hx hy; subst hx; subst hy
        exact op_add_str pins s σ H _ _ v u Q I rx ry ⟨a, b, rfl, rfl, hs.1, out_at hle k hs.2 (Rep.str' _)⟩
      | _ => exact (show False from hs).elim
    | lst xs =>
      cases dy with
      | lst ys =>
        obtain ⟨a, vs, rfl, ha, la⟩ := hx
        obtain ⟨b, us, rfl, hb, lb⟩ := hy
        exact op_cat pins s σ H _ _ v u Q I rx ry ⟨a, b, vs, us, rfl, rfl, ha, hb, by rw [la.length, lb.length]; exact hs.1, fun p n => out_lst hle k hs.2 (la.append lb) n⟩
      | _ => exact (show False from hs).elim
    | tup xs =>
      cases dy with
      | tup ys =>
        simp only [RdV, Rep] at hx hy
        obtain ⟨a, vs, rfl, ha, la⟩ := hx
        obtain ⟨b, us, rfl, hb, lb⟩ := hy
        rw [hG] at ha hb
        refine op_catA pins s σ H _ _ v u Q I rx ry ⟨a, b, vs, us, rfl, rfl, sqT_mono hle ha, sqT_mono hle hb, by rw [la.length, lb.length]; exact hs.1, fun e => ?_, fun _ e => ?_, fun _ _ p n => out_tup hle k hs.2 (la.append lb) n⟩
        · have e0 : xs = [] := by
            have := la.length
            rw [e] at this
            exact List.eq_nil_of_length_eq_zero this.symm
          subst e0
          exact out_at hle k hs.2 (Rep.tup' (by rw [hG]; exact hb) lb)
        · have e0 : ys = [] := by
            have := lb.length
            rw [e] at this
            exact List.eq_nil_of_length_eq_zero this.symm
          subst e0
          exact out_at hle k hs.2 (by rw [List.append_nil]; exact Rep.tup' (by rw [hG]; exact ha) la)
      | _ => exact (show False from hs).elim
    | _ => cases dy <;> exact (show False from hs).elim
  | sub =>
    cases dx with
    | int i =>
      cases dy with
      | int j =>
        simp only [RdV, Rep] at hx hy; subst hx; subst hy
        exact op_sub pins s σ H _ _ v u Q I rx ry ⟨i, j, rfl, rfl, out_at hle k hs (Rep.int' _)⟩
      | _ => exact (show False from hs).elim
    | _ => cases dy <;> exact (show False from hs).elim
  | mul =>
    cases dx with
    | int i =>
      cases dy with
      | int j =>
        simp only [RdV, Rep] at hx hy; subst hx; subst hy
        rcases hs.1 with c | c
        · exact op_mul pins s σ H _ _ v u Q I rx ry ⟨i, j, rfl, rfl, c, out_at hle k hs.2 (Rep.int' _)⟩
        · exact op_mulW pins s σ H _ _ v u Q I rx ry ⟨i, j, rfl, rfl, c, out_at hle k hs.2 (Rep.int' _)⟩
      | _ => exact (show False from hs).elim
    | lst xs =>
      cases dy with
      | int j =>
        obtain ⟨a, vs, rfl, ha, la⟩ := hx
        simp only [RdV, Rep] at hy; subst hy
        have hl : RepL G F (List.replicate j.toNat vs).flatten (List.replicate j.toNat xs).flatten := by
          induction j.toNat with
          | zero => exact RepL.nil
          | succ m ih => rw [List.replicate_succ, List.replicate_succ, List.flatten_cons, List.flatten_cons]; exact la.append ih
        exact op_rep pins s σ H _ _ v u Q I rx ry ⟨a, j, vs, rfl, rfl, ha, hs.1.1, hs.1.2.1, by rw [la.length]; exact hs.1.2.2, fun p n => out_lst hle k hs.2 hl n⟩
      | _ => exact (show False from hs).elim
    | _ => cases dy <;> exact (show False from hs).elim
  | fdiv =>
    cases dx with
    | int i =>
      cases dy with
      | int j =>
        simp only [RdV, Rep] at hx hy; subst hx; subst hy
        exact op_fdivW pins s σ H _ _ v u Q I rx ry ⟨i, j, rfl, rfl, ⟨hs.1.1, log2_of hs.1.1 hs.1.2⟩, out_at hle k hs.2 (Rep.int' _)⟩
      | _ => exact (show False from hs).elim
    | _ => cases dy <;> exact (show False from hs).elim
  | mod =>
    cases dx with
    | int i =>
      cases dy with
      | int j =>
        simp only [RdV, Rep] at hx hy; subst hx; subst hy
        exact op_mod pins s σ H _ _ v u Q I rx ry ⟨i, j, rfl, rfl, hs.1, out_at hle k hs.2 (Rep.int' _)⟩
      | _ => exact (show False from hs).elim
    | _ => cases dy <;> exact (show False from hs).elim
  | pow =>
    cases dx with
    | int i =>
      cases dy with
      | int j =>
        simp only [RdV, Rep] at hx hy; subst hx; subst hy
        exact op_pow pins s σ H _ _ v u Q I rx ry ⟨i, j, rfl, rfl, hs.1, out_at hle k hs.2 (Rep.int' _)⟩
      | _ => exact (show False from hs).elim
    | _ => cases dy <;> exact (show False from hs).elim
end

/-! ### data as the library's own data: for == and in at any depth -/
mutual
def py : D → PyData
  | .non => .none
  | .bl b => .bool b
  | .int i => .int i
  | .str s => .str s
  | .tup xs => .tuple (pys xs)
  | .lst xs => .list (pys xs)
  | .obj _ _ => .none
  | .kd _ => .none
  | .scr _ => .none
def pys : List D → List PyData
  | [] => []
  | d :: ds => py d :: pys ds
end
mutual
/-- no instance in it -/
def bare : D → Bool
  | .tup xs => bares xs
  | .lst xs => bares xs
  | .obj _ _ => false
  | .kd _ => false
  | .scr _ => false
  | _ => true
def bares : List D → Bool
  | [] => true
  | d :: ds => bare d && bares ds
end
mutual
theorem Rep.dp {G : Gd} {F H : Hp} {K : PySem.W.Frag} (hG : G.K = K) (h : Le F H) : ∀ (d : D) (v : V), bare d = true → Rep G F v d → Dp K H v (py d)
  | .non, v, b, r => by simp only [Rep] at r; subst r; exact .non
  | .bl b, v, _, r => by simp only [Rep] at r; subst r; exact .bl b
  | .int i, v, _, r => by simp only [Rep] at r; subst r; exact .int i
  | .str s, v, _, r => by simp only [Rep] at r; subst r; exact .str s
  | .tup xs, v, b, r => by
    simp only [Rep] at r
    obtain ⟨a, vs, rfl, q, l⟩ := r
    simp only [py]
    exact .tup (by rw [← hG]; exact sqT_mono h q) (RepL.dp hG h xs vs (by simpa only [bare] using b) l)
  | .lst xs, v, b, r => by
    simp only [Rep] at r
    obtain ⟨a, vs, rfl, q, l⟩ := r
    simp only [py]
    exact .lst (SqL.of (h _ _ q)) (RepL.dp hG h xs vs (by simpa only [bare] using b) l)
  | .obj k fs, v, b, r => by simp only [bare] at b; exact absurd b (by decide)
  | .kd kvs, v, b, r => by simp only [bare] at b; exact absurd b (by decide)
  | .scr kvs, v, b, r => by simp only [bare] at b; exact absurd b (by decide)
theorem RepL.dp {G : Gd} {F H : Hp} {K : PySem.W.Frag} (hG : G.K = K) (h : Le F H) : ∀ (ds : List D) (vs : List V), bares ds = true → RepL G F vs ds → DpAll K H vs (pys ds)
  | [], vs, _, r => by rw [RepL.nil_inv r]; simp only [pys]; exact .nil
  | d :: ds, vs, b, r => by
    obtain ⟨v, s, rfl, r1, r2⟩ := RepL.inv r
    simp only [bares, Bool.and_eq_true] at b
    simp only [pys]
    exact .cons (Rep.dp hG h d v b.1 r1) (RepL.dp hG h ds s b.2 r2)
end
theorem RdV.dp {G : Gd} {F H : Hp} {K : PySem.W.Frag} (hG : G.K = K) (h : Le F H) {d : D} {v : V} (b : bare d = true) (r : RdV G F H v d) : Dp K H v (py d) := by
  cases d with
  | lst xs =>
    obtain ⟨a, vs, rfl, q, l⟩ := r
    simp only [py]
    exact .lst (SqL.of q) (RepL.dp hG h xs vs (by simpa only [bare] using b) l)
  | _ => exact Rep.dp hG h _ v b r

/-- == by data -/
def eqD : D → D → (Bool → Prop) → Prop
  | .int i, .int j, K => K (decide (i = j))
  | .str a, .str b, K => K (decide (a = b))
  | x, y, K => (bare x = true ∧ bare y = true ∧ SeqAt.shaped (py x) = true ∧ SeqAt.shaped (py y) = true) ∧ K (PyData.eqv (py x) (py y))
def flat (d : D) : Bool := flatV (fv d)
theorem fv_of {G : Gd} {F : Hp} {d : D} {v : V} (f : flat d = true) (r : Rep G F v d) : v = fv d := by
  cases d <;> first
    | (simp only [Rep] at r; exact r)
    | exact absurd f (by simp [flat, fv, flatV])
theorem fvs_of {G : Gd} {F : Hp} : ∀ {ds : List D} {vs : List V}, ds.all flat = true → RepL G F vs ds → vs = ds.map fv
  | [], vs, _, r => RepL.nil_inv r
  | d :: ds, vs, f, r => by
    obtain ⟨v, s, rfl, r1, r2⟩ := RepL.inv r
    rw [List.all_cons, Bool.and_eq_true] at f
    rw [List.map_cons, ← fv_of f.1 r1, ← fvs_of f.2 r2]
theorem flats_of : ∀ {ds : List D}, ds.all flat = true → (ds.map fv).all flatV = true
  | [], _ => rfl
  | d :: ds, f => by
    rw [List.all_cons, Bool.and_eq_true] at f
    rw [List.map_cons, List.all_cons, Bool.and_eq_true]
    exact ⟨f.1, flats_of f.2⟩
/-- x in y -/
def inD : D → D → (Bool → Prop) → Prop
  | x, .lst ys, K => ((flat x = true ∧ ys.all flat = true) ∧ K (inV (fv x) (ys.map fv))) ∨
      ((bare x = true ∧ bares ys = true ∧ SeqAt.shaped (py x) = true ∧ SeqAt.shaped (.list (pys ys)) = true) ∧ K ((pys ys).any fun z => PyData.eqv z (py x)))
  | x, .tup ys, K => (flat x = true ∧ ys.all flat = true) ∧ K (inV (fv x) (ys.map fv))
  | .str a, .str z, K => (∃ c, a = ⟨#[c]⟩ ∧ K (decide (c ∈ z.cps.toList))) ∨ K (!(Builtin.Str.occurrences z a 0 z.length 1).isEmpty)
  | _, _, _ => False
def ltD : D → D → (Bool → Prop) → Prop
  | .int i, .int j, K => K (decide (i < j))
  | .str a, .str b, K => K (decide (a.cps.toList < b.cps.toList))
  | _, _, _ => False
def leD : D → D → (Bool → Prop) → Prop
  | .int i, .int j, K => K (decide (i ≤ j))
  | .str a, .str b, K => K (!decide (b.cps.toList < a.cps.toList))
  | _, _, _ => False
def gtD : D → D → (Bool → Prop) → Prop
  | .int i, .int j, K => K (decide (j < i))
  | .str a, .str b, K => K (decide (b.cps.toList < a.cps.toList))
  | _, _, _ => False
def geD : D → D → (Bool → Prop) → Prop
  | .int i, .int j, K => K (decide (j ≤ i))
  | .str a, .str b, K => K (!decide (a.cps.toList < b.cps.toList))
  | _, _, _ => False
def isNone : D → Bool
  | .non => true
  | _ => false
def isD : D → D → (Bool → Prop) → Prop
  | x, .non, K => K (isNone x)
  | _, _, _ => False
inductive COp where | eq | ne | lt | le | gt | ge | isin | notin | is | isnot
def COp.op : COp → CmpOp
  | .eq => .Eq | .ne => .NotEq | .lt => .Lt | .le => .LtE | .gt => .Gt | .ge => .GtE | .isin => .In | .notin => .NotIn | .is => .Is | .isnot => .IsNot
def COp.sem : COp → D → D → (Bool → Prop) → Prop
  | .eq => eqD | .ne => fun x y K => eqD x y fun b => K (!b) | .lt => ltD | .le => leD | .gt => gtD | .ge => geD | .isin => inD | .notin => fun x y K => inD x y fun b => K (!b)
  | .is => isD | .isnot => fun x y K => isD x y fun b => K (!b)
/-- the reading of a comparison by data -/
def rC2 (G : Gd) (sem : D → D → (Bool → Prop) → Prop) : R2 := fun x y H Q => ∃ F dx dy, Le F H ∧ RdV G F H x dx ∧ RdV G F H y dy ∧ ∃ Kd : Bool → Prop, sem dx dy Kd ∧ ∀ b, Kd b → Q (.bl b) H
section
variable {X : Cx} {G : Gd}
theorem decide_cps {a b : Str} : decide (V.str a = V.str b) = decide (a = b) := by
  by_cases h : a = b
  · subst h; simp
  · rw [decide_eq_false h, decide_eq_false (fun z => h (V.str.inj z))]
theorem decide_ints {a b : Int} : decide (V.int a = V.int b) = decide (a = b) := by
  by_cases h : a = b
  · subst h; simp
  · rw [decide_eq_false h, decide_eq_false (fun z => h (V.int.inj z))]
/-- the three makes of == -/
theorem eqD_cases {x y : D} {K : Bool → Prop} (h : eqD x y K) : (∃ i j, x = .int i ∧ y = .int j ∧ K (decide (i = j))) ∨ (∃ a b, x = .str a ∧ y = .str b ∧ K (decide (a = b))) ∨
    ((bare x = true ∧ bare y = true ∧ SeqAt.shaped (py x) = true ∧ SeqAt.shaped (py y) = true) ∧ K (PyData.eqv (py x) (py y))) := by
  unfold eqD at h
  split at h
  · exact .inl ⟨_, _, rfl, rfl, h⟩
  · exact .inr (.inl ⟨_, _, rfl, rfl, h⟩)
  · exact .inr (.inr h)
theorem isNone_v {F H : Hp} {x : V} {d : D} (r : RdV G F H x d) : decide (x = .non) = isNone d := by
  cases d with
  | lst xs => obtain ⟨a, vs, rfl, _⟩ := r; rfl
  | non => simp only [RdV, Rep] at r; subst r; rfl
  | bl b => simp only [RdV, Rep] at r; subst r; rfl
  | int b => simp only [RdV, Rep] at r; subst r; rfl
  | str b => simp only [RdV, Rep] at r; subst r; rfl
  | tup xs => simp only [RdV, Rep] at r; obtain ⟨a, vs, rfl, _⟩ := r; rfl
  | obj k fs => simp only [RdV, Rep] at r; obtain ⟨a, dx, vs, rfl, _⟩ := r; rfl
  | kd kvs => simp only [RdV, Rep] at r; obtain ⟨a, rfl, _⟩ := r; rfl
  | scr kvs => simp only [RdV, Rep] at r; obtain ⟨a, rfl, _⟩ := r; rfl
theorem in_run {neg : Bool} {pins : List (Addr × Obj)} {s : Shared} {σ : St} {H F : Hp} {x y : V} {v u : Value} {Q : VK} {dx dy : D} {Kd : Bool → Prop} (hG : G.K = X.K) (hu : X.A.units + 65 < cLine) (I : Inv X pins σ H s) (rx : RelV x v) (ry : RelV y u) (hle : Le F H)
    (hx : RdV G F H x dx) (hy : RdV G F H y dy) (hs : inD dx dy Kd) (k : ∀ b, Kd b → Q (.bl (if neg = true then !b else b)) H) : wpAny (model X.prog X.w) X.A (compareOp (if neg = true then .NotIn else .In) v u) (EP X pins σ Q) X.xe s := by
  have fl : ∀ {p : Addr} {us : List V} {ys : List D}, (SqL X.K H p us ∨ SqT X.K H p us) → y = .ref p → RepL G F us ys → (flat dx = true ∧ ys.all flat = true) → Kd (inV (fv dx) (ys.map fv)) →
      wpAny (model X.prog X.w) X.A (compareOp (if neg = true then .NotIn else .In) v u) (EP X pins σ Q) X.xe s := by
    intro p us ys hq ey l f q
    have ex : x = fv dx := by
      have : Rep G F x dx := by
        cases dx <;> first | exact hx | exact absurd f.1 (by simp [flat, fv, flatV])
      exact fv_of f.1 this
    have eu := fvs_of f.2 l
    have h := k _ q
    cases neg with
    | true => exact op_notIn_seq pins s σ H x y v u Q I rx ry ⟨p, us, ey, hq, by rw [ex]; exact f.1, by rw [eu]; exact flats_of f.2, by rw [ex, eu]; exact h⟩
    | false => exact op_in_seq pins s σ H x y v u Q I rx ry ⟨p, us, ey, hq, by rw [ex]; exact f.1, by rw [eu]; exact flats_of f.2, by rw [ex, eu]; exact h⟩
  cases dy with
  | lst ys =>
    obtain ⟨p, us, ey, hq, l⟩ := hy
    have hs : ((flat dx = true ∧ ys.all flat = true) ∧ Kd (inV (fv dx) (ys.map fv))) ∨
      ((bare dx = true ∧ bares ys = true ∧ SeqAt.shaped (py dx) = true ∧ SeqAt.shaped (.list (pys ys)) = true) ∧ Kd ((pys ys).any fun z => PyData.eqv z (py dx))) := by
      cases dx <;> exact hs
    rcases hs with ⟨f, q⟩ | ⟨⟨b1, b2, s1, s2⟩, q⟩
    · exact fl (.inl (SqL.of hq)) ey l f q
    · have h := k _ q
      subst ey
      have d1 := RdV.dp hG hle b1 hx
      have d2 : Dp X.K H (.ref p) (.list (pys ys)) := .lst (SqL.of hq) (RepL.dp hG hle ys us b2 l)
      cases neg with
      | true => exact op_notInD hu pins s σ H x _ v u Q I rx ry ⟨_, _, d1, d2, s1, s2, h⟩
      | false => exact op_inD hu pins s σ H x _ v u Q I rx ry ⟨_, _, d1, d2, s1, s2, h⟩
  | tup ys =>
    simp only [RdV, Rep] at hy
    obtain ⟨p, us, ey, hq, l⟩ := hy
    rw [hG] at hq
    have hs : (flat dx = true ∧ ys.all flat = true) ∧ Kd (inV (fv dx) (ys.map fv)) := by
      cases dx <;> exact hs
    exact fl (.inr (sqT_mono hle hq)) ey l hs.1 hs.2
  | str z =>
    cases dx with
    | str a =>
      simp only [RdV, Rep] at hx hy
      subst hx; subst hy
      rcases hs with ⟨c, rfl, q⟩ | q
      · have h := k _ q
        cases neg with
        | true => exact op_notIn_sign pins s σ H _ _ v u Q I rx ry ⟨c, z, rfl, rfl, h⟩
        | false => exact op_in_sign pins s σ H _ _ v u Q I rx ry ⟨c, z, rfl, rfl, h⟩
      · have h := k _ q
        cases neg with
        | true => exact op_notIn_str pins s σ H _ _ v u Q I rx ry ⟨a, z, rfl, rfl, h⟩
        | false => exact op_in_str pins s σ H _ _ v u Q I rx ry ⟨a, z, rfl, rfl, h⟩
    | _ => exact (show False from hs).elim
  | _ => cases dx <;> exact (show False from hs).elim
theorem cmp_D (hG : G.K = X.K) (hu : X.A.units + 65 < cLine) : ∀ o : COp, OpR X (compareOp o.op) (rC2 G o.sem) := by
  intro o pins s σ H x y v u Q I rx ry h
  obtain ⟨F, dx, dy, hle, hx, hy, Kd, hs, k⟩ := h
  cases o with
  | eq =>
    rcases eqD_cases hs with ⟨i, j, rfl, rfl, q⟩ | ⟨i, j, rfl, rfl, q⟩ | ⟨⟨b1, b2, s1, s2⟩, q⟩
    · simp only [RdV, Rep] at hx hy; subst hx; subst hy
      exact op_eq pins s σ H _ _ v u Q I rx ry ⟨rfl, by rw [decide_ints]; exact k _ q⟩
    · simp only [RdV, Rep] at hx hy; subst hx; subst hy
      exact op_eq pins s σ H _ _ v u Q I rx ry ⟨rfl, by rw [decide_cps]; exact k _ q⟩
    · exact op_eqD (by omega) pins s σ H _ _ v u Q I rx ry ⟨_, _, RdV.dp hG hle b1 hx, RdV.dp hG hle b2 hy, s1, s2, k _ q⟩
  | ne =>
    rcases eqD_cases hs with ⟨i, j, rfl, rfl, q⟩ | ⟨i, j, rfl, rfl, q⟩ | ⟨⟨b1, b2, s1, s2⟩, q⟩
    · simp only [RdV, Rep] at hx hy; subst hx; subst hy
      exact op_ne pins s σ H _ _ v u Q I rx ry ⟨rfl, by rw [decide_ints]; exact k _ q⟩
    · simp only [RdV, Rep] at hx hy; subst hx; subst hy
      exact op_ne pins s σ H _ _ v u Q I rx ry ⟨rfl, by rw [decide_cps]; exact k _ q⟩
    · exact op_neD (by omega) pins s σ H _ _ v u Q I rx ry ⟨_, _, RdV.dp hG hle b1 hx, RdV.dp hG hle b2 hy, s1, s2, k _ q⟩
  | lt =>
    cases dx <;> cases dy <;> first | exact (show False from hs).elim | skip
    · simp only [RdV, Rep] at hx hy; subst hx; subst hy
      exact op_lt pins s σ H _ _ v u Q I rx ry ⟨_, _, rfl, rfl, k _ hs⟩
    · simp only [RdV, Rep] at hx hy; subst hx; subst hy
      exact op_lt_str pins s σ H _ _ v u Q I rx ry ⟨_, _, rfl, rfl, k _ hs⟩
  | le =>
    cases dx <;> cases dy <;> first | exact (show False from hs).elim | skip
    · simp only [RdV, Rep] at hx hy; subst hx; subst hy
      exact op_le pins s σ H _ _ v u Q I rx ry ⟨_, _, rfl, rfl, k _ hs⟩
    · simp only [RdV, Rep] at hx hy; subst hx; subst hy
      exact op_le_str pins s σ H _ _ v u Q I rx ry ⟨_, _, rfl, rfl, k _ hs⟩
  | gt =>
    cases dx <;> cases dy <;> first | exact (show False from hs).elim | skip
    · simp only [RdV, Rep] at hx hy; subst hx; subst hy
      exact op_gt pins s σ H _ _ v u Q I rx ry ⟨_, _, rfl, rfl, k _ hs⟩
    · simp only [RdV, Rep] at hx hy; subst hx; subst hy
      exact op_gt_str pins s σ H _ _ v u Q I rx ry ⟨_, _, rfl, rfl, k _ hs⟩
  | ge =>
    cases dx <;> cases dy <;> first | exact (show False from hs).elim | skip
    · simp only [RdV, Rep] at hx hy; subst hx; subst hy
      exact op_ge pins s σ H _ _ v u Q I rx ry ⟨_, _, rfl, rfl, k _ hs⟩
    · simp only [RdV, Rep] at hx hy; subst hx; subst hy
      exact op_ge_str pins s σ H _ _ v u Q I rx ry ⟨_, _, rfl, rfl, k _ hs⟩
  | isin => exact in_run (neg := false) hG hu I rx ry hle hx hy hs k
  | notin => exact in_run (neg := true) hG hu I rx ry hle hx hy (Kd := fun b => Kd (!b)) hs fun b q => k _ q
  | is =>
    cases dy with
    | non =>
      simp only [RdV, Rep] at hy
      have hs : Kd (isNone dx) := by cases dx <;> exact hs
      exact op_isN pins s σ H _ _ v u Q I rx ry ⟨hy, by rw [isNone_v hx]; exact k _ hs⟩
    | _ => cases dx <;> exact (show False from hs).elim
  | isnot =>
    cases dy with
    | non =>
      simp only [RdV, Rep] at hy
      have hs : Kd (!isNone dx) := by cases dx <;> exact hs
      exact op_notN pins s σ H _ _ v u Q I rx ry ⟨hy, by rw [isNone_v hx]; exact k _ hs⟩
    | _ => cases dx <;> exact (show False from hs).elim
end

/-! ### truth -/
def truD : D → (Bool → Prop) → Prop
  | .non, K => K false
  | .bl b, K => K b
  | .int i, K => K (i != 0)
  | .str s, K => s.length ≤ sizeLine ∧ K ((s.length : Int) != 0)
  | .tup xs, K => K (!xs.isEmpty)
  | .lst xs, K => K (!xs.isEmpty)
  | .obj _ _, _ => False
  | .kd _, _ => False
  | .scr _, _ => False
theorem isEmpty_rep {G : Gd} {F : Hp} {vs : List V} {ds : List D} (l : RepL G F vs ds) : vs.isEmpty = ds.isEmpty := by
  have := l.length
  cases vs <;> cases ds <;> first | rfl | (simp at this)
theorem tru_v {X : Cx} {G : Gd} (hG : G.K = X.K) {F H : Hp} (hle : Le F H) {v : V} {d : D} {K : Bool → Prop} (r : RdV G F H v d) (h : truD d K) : ∃ b, TruV X.K v H b ∧ K b := by
  cases d with
  | non => simp only [RdV, Rep] at r; subst r; exact ⟨false, rfl, h⟩
  | bl b => simp only [RdV, Rep] at r; subst r; exact ⟨b, rfl, h⟩
  | int i => simp only [RdV, Rep] at r; subst r; exact ⟨_, rfl, h⟩
  | str s => simp only [RdV, Rep] at r; subst r; exact ⟨_, ⟨h.1, rfl⟩, h.2⟩
  | tup xs =>
    simp only [RdV, Rep] at r
    obtain ⟨a, vs, rfl, q, l⟩ := r
    rw [hG] at q
    exact ⟨_, .inr (.inl ⟨vs, sqT_mono hle q, rfl⟩), by rw [isEmpty_rep l]; exact h⟩
  | lst xs =>
    obtain ⟨a, vs, rfl, q, l⟩ := r
    exact ⟨_, .inl ⟨vs, SqL.of q, rfl⟩, by rw [isEmpty_rep l]; exact h⟩
  | obj k fs => exact (show False from h).elim
  | kd kvs => exact (show False from h).elim
  | scr kvs => exact (show False from h).elim

/-! ### places, slices -/
def ixD : D → D → (Res → Prop) → Prop
  | .kd kvs, .str z, K => ∃ d, kvs.lookup z = some d ∧ flat d = true ∧ K (.d d)
  | .lst xs, .int i, K => ∃ d, atI xs i = some d ∧ K (.d d)
  | .tup xs, .int i, K => ∃ d, atI xs i = some d ∧ K (.d d)
  | .str z, .int i, K => z.length ≤ sizeLine ∧ ∃ c, atI z.cps.toList i = some c ∧ K (.d (.str ⟨#[c]⟩))
  | _, _, _ => False
theorem RepL.at {G : Gd} {F : Hp} {ds : List D} {vs : List V} {i : Int} {d : D} (l : RepL G F vs ds) (h : atI ds i = some d) : ∃ v, atI vs i = some v ∧ Rep G F v d := by
  unfold atI at h ⊢
  rw [l.length]
  cases e : ixN ds.length i with
  | none => rw [e] at h; cases h
  | some j =>
    rw [e] at h
    exact l.get (show ds[j]? = some d from h)
theorem rep_fv {G : Gd} {F : Hp} {d : D} (f : flat d = true) : Rep G F (fv d) d := by
  cases d <;> first
    | (simp only [Rep, fv]; done)
    | exact absurd f (by simp [flat, fv, flatV])
theorem ix_D {X : Cx} {G : Gd} (hG : G.K = X.K) (hw : G.w = X.w) : IxR X (rD2 G ixD) := by
  intro value slice pins s σ H x y v u Q I rx ry h hsub
  obtain ⟨F, dx, dy, hle, hx, hy, Kd, hs, k⟩ := h
  cases dx with
  | lst xs =>
    cases dy with
    | int i =>
      obtain ⟨a, vs, rfl, ha, la⟩ := hx
      simp only [RdV, Rep] at hy; subst hy
      obtain ⟨d, e, q⟩ := hs
      obtain ⟨w', e2, r⟩ := la.at e
      exact ix_seq value slice pins s σ H _ _ v u Q I rx ry (.inl ⟨a, vs, i, w', rfl, rfl, SqL.of ha, e2, out_at hle k q r⟩) hsub
    | _ => exact (show False from hs).elim
  | tup xs =>
    cases dy with
    | int i =>
      simp only [RdV, Rep] at hx hy
      obtain ⟨a, vs, rfl, ha, la⟩ := hx
      subst hy
      rw [hG] at ha
      obtain ⟨d, e, q⟩ := hs
      obtain ⟨w', e2, r⟩ := la.at e
      exact ix_seq value slice pins s σ H _ _ v u Q I rx ry (.inr (.inl ⟨a, vs, i, w', rfl, rfl, sqT_mono hle ha, e2, out_at hle k q r⟩)) hsub
    | _ => exact (show False from hs).elim
  | str z =>
    cases dy with
    | int i =>
      simp only [RdV, Rep] at hx hy
      subst hx; subst hy
      obtain ⟨hz, c, e, q⟩ := hs
      exact ix_seq value slice pins s σ H _ _ v u Q I rx ry (.inr (.inr ⟨z, i, c, rfl, rfl, hz, e, out_at hle k q (Rep.str' _)⟩)) hsub
    | _ => exact (show False from hs).elim
  | kd kvs =>
    cases dy with
    | str z =>
      simp only [RdV, Rep] at hx hy
      obtain ⟨a, rfl, hk⟩ := hx
      subst hy
      obtain ⟨d, e, f, q⟩ := hs
      have hd := hk z d e
      rw [hG, hw] at hd
      exact ix_kdict value slice pins s σ H _ _ v u Q I rx ry ⟨a, z, _, rfl, rfl, hd, out_at hle k q (rep_fv f)⟩ hsub
    | _ => exact (show False from hs).elim
  | _ => cases dy <;> exact (show False from hs).elim
def cutD (xs : List D) (lo hi : Option Int) : List D := (xs.drop (HT.sIx xs.length 0 lo)).take (HT.sIx xs.length xs.length hi - HT.sIx xs.length 0 lo)
def slD : D → Option Int → Option Int → (Res → Prop) → Prop
  | .lst xs, lo, hi, K => K (.n (cutD xs lo hi))
  | .scr ns, lo, hi, K => K (.n (cutD (ns.map D.int) lo hi))
  | .tup xs, lo, hi, K => K (.d (.tup (cutD xs lo hi)))
  | .str z, lo, hi, K => z.length ≤ sizeLine ∧ K (.d (.str (cutS z lo hi)))
  | _, _, _, _ => False
theorem RepL.cut {G : Gd} {F : Hp} {ds : List D} {vs : List V} (l : RepL G F vs ds) (lo hi : Option Int) : RepL G F (cutV vs lo hi) (cutD ds lo hi) := by
  unfold cutV cutD
  rw [l.length]
  exact (l.drop _).take _
theorem sl_D {X : Cx} {G : Gd} (hG : G.K = X.K) : SlR X (fun x lo hi H Q => ∃ F dx, Le F H ∧ RdV G F H x dx ∧ OutD G F H (slD dx lo hi) Q) := by
  intro pins s σ H x v vl vu lo hi sl Q I rx hs pl pu h
  obtain ⟨F, dx, hle, hx, Kd, hd, k⟩ := h
  cases dx with
  | lst xs =>
    obtain ⟨a, vs, rfl, ha, la⟩ := hx
    exact sl_list pins s σ H _ v vl vu lo hi sl Q I rx hs pl pu ⟨a, vs, rfl, SqL.of ha, fun p n => out_lst hle k hd (la.cut lo hi) n⟩
  | scr ns =>
    simp only [RdV, Rep] at hx
    obtain ⟨a, rfl, ha⟩ := hx
    rw [hG] at ha
    exact sl_list pins s σ H _ v vl vu lo hi sl Q I rx hs pl pu ⟨a, ns.map V.int, rfl, sqL_mono hle ha, fun p n => out_lst hle k hd ((RepL.of_map (G := G) (F := F) (f := V.int) (g := D.int) (fun i => Rep.int' i) ns).cut lo hi) n⟩
  | tup xs =>
    simp only [RdV, Rep] at hx
    obtain ⟨a, vs, rfl, ha, la⟩ := hx
    rw [hG] at ha
    refine sl_tupA pins s σ H _ v vl vu lo hi sl Q I rx hs pl pu ⟨a, vs, rfl, sqT_mono hle ha, fun e => ?_, fun _ p n => out_tup hle k hd (la.cut lo hi) n⟩
    have e2 : cutD xs lo hi = xs := by
      rw [la.length] at e
      unfold cutD
      rw [e.1, e.2, Nat.sub_zero, List.drop_zero, List.take_length]
    have hd' : Kd (.d (.tup (cutD xs lo hi))) := hd
    rw [e2] at hd'
    exact out_at hle k hd' (Rep.tup' (by rw [hG]; exact ha) la)
  | str z =>
    simp only [RdV, Rep] at hx
    subst hx
    exact sl_str (X := X) pins s σ H _ v vl vu lo hi sl Q I rx hs pl pu ⟨z, rfl, hd.1, out_at hle k hd.2 (Rep.str' _)⟩
  | _ => exact (show False from hd).elim
end DL

/-! DC: the small language (expressions C, statements Sm), what it means over data, when it is the given text. -/
namespace DL
open PySem L2

/-- what an expression gives: data, the list of a slot, a new list -/
inductive R where
  | v (d : D) | pl (i : Nat) | n (xs : List D)
def R.ofRes : Res → R
  | .d x => .v x
  | .n xs => .n xs
def R.stl : R → R
  | .n xs => .v (.lst xs)
  | .v d => .v d
  | .pl i => .pl i
abbrev KR := R → Rho → Prop
def rdr (ρ : Rho) : R → (D → Prop) → Prop
  | .v d, K => K d
  | .n xs, K => K (.lst xs)
  | .pl i, K => match ρ[i]? with
    | some (.ow _ xs) => K (.lst xs)
    | some (.fz d) => K d
    | _ => False
def frz (ρ : Rho) : R → (D → Rho → Prop) → Prop
  | .v d, K => K d ρ
  | .n xs, K => K (.lst xs) ρ
  | .pl i, K => match ρ[i]? with
    | some (.ow false xs) => K (.lst xs) (ρ.set i (.fz (.lst xs)))
    | some (.fz d) => K d ρ
    | _ => False
def rdrs (ρ : Rho) : List R → (List D → Prop) → Prop
  | [], K => K []
  | r :: rs, K => rdr ρ r fun d => rdrs ρ rs fun ds => K (d :: ds)

/-- an exception: its class by number, its fields -/
structure Xn where
  cls : Nat
  fs : List (Str × D)
abbrev XP := Xn → Rho → Prop
/-- a contract: m: the first argument is a list to be changed (its content is bag); n arguments beside it -/
structure Ct where
  m : Bool
  n : Nat
  sem : (Xn → List D → Prop) → List D → List D → (Res → List D → Prop) → Prop
structure FnE where
  name : Str
  ct : Ct
  dflt : List D
structure Sg where
  gv : List (Str × D)
  fs : List FnE

/-! ### built-ins by name -/
def ints? : List D → Option (List Int)
  | [] => some []
  | .int i :: r => (ints? r).map (i :: ·)
  | _ :: _ => none
def bls? : List D → Option (List Bool)
  | [] => some []
  | .bl i :: r => (bls? r).map (i :: ·)
  | _ :: _ => none
inductive Bi where
  | len | max2 | max3 | max1 | min2 | min1 | list | tuple | sum | any | all | int
def Bi.name : Bi → Str
  | .len => "len" | .max2 => "max" | .max3 => "max" | .max1 => "max" | .min2 => "min" | .min1 => "min" | .list => "list" | .tuple => "tuple" | .sum => "sum" | .any => "any" | .all => "all" | .int => "int"
def seqOf : D → (List D → Prop) → Prop
  | .lst xs, K => K xs
  | .tup xs, K => K xs
  | _, _ => False
def Bi.sem : Bi → List D → (Res → Prop) → Prop
  | .len, [.lst xs], K => K (.d (.int xs.length))
  | .len, [.tup xs], K => K (.d (.int xs.length))
  | .len, [.str s], K => s.length ≤ sizeLine ∧ K (.d (.int s.length))
  | .max2, [.int i, .int j], K => K (.d (.int (max i j)))
  | .min2, [.int i, .int j], K => K (.d (.int (min i j)))
  | .max3, [.int i, .int j, .int k], K => K (.d (.int (max (max i j) k)))
  | .max1, [.lst xs], K => ∃ ns : List Int, xs = ns.map D.int ∧ 0 < ns.length ∧ ∀ m, m ∈ ns → (∀ y, y ∈ ns → y ≤ m) → K (.d (.int m))
  | .max1, [.tup xs], K => ∃ ns : List Int, xs = ns.map D.int ∧ 0 < ns.length ∧ ∀ m, m ∈ ns → (∀ y, y ∈ ns → y ≤ m) → K (.d (.int m))
  | .min1, [.lst xs], K => ∃ ns : List Int, xs = ns.map D.int ∧ 0 < ns.length ∧ ∀ m, m ∈ ns → (∀ y, y ∈ ns → m ≤ y) → K (.d (.int m))
  | .list, [x], K => seqOf x fun xs => K (.n xs)
  | .tuple, [x], K => seqOf x fun xs => K (.d (.tup xs))
  | .sum, [.lst xs], K => ∃ ns : List Int, xs = ns.map D.int ∧ K (.d (.int ns.sum))
  | .any, [.lst xs], K => ∃ bs : List Bool, xs = bs.map D.bl ∧ K (.d (.bl (bs.any id)))
  | .all, [.lst xs], K => ∃ bs : List Bool, xs = bs.map D.bl ∧ K (.d (.bl (bs.all id)))
  | .int, [.int i], K => K (.d (.int i))
  | .int, [.bl b], K => K (.d (.int (if b then 1 else 0)))
  | _, _, _ => False

/-! ### the language -/
mutual
inductive Tg where
  | nm (i : Nat) | tp (ts : Tgs)
inductive Tgs where
  | nil | cons (t : Tg) (r : Tgs)
end
mutual
inductive C where
  | var (i : Nat) | int (i : Int) | str (s : Str) | bl (b : Bool) | non
  | glob (x : Str)
  | bin (o : BOp) (a b : C)
  | neg (a : C)
  | cmp (o : COp) (a b : C)
  | cmp2 (o o' : COp) (a b c : C)
  | and (a b : C) | or (a b : C) | one (a : C) | not (a : C)
  | ife (t a b : C)
  | tup (es : Cs) | lst (es : Cs)
  | ix (a b : C)
  | sl (a : C) (lo hi : Co)
  | bi (b : Bi) (es : Cs)
  | call (f : Nat) (es : Cs)
  | callm (f : Nat) (i : Nat) (es : Cs)
  | comp (own : List (Str × Nat)) (t : Tg) (it : Src) (ifs : Cs) (e : C)
inductive Co where
  | no | so (c : C)
inductive Cs where
  | nil | cons (c : C) (r : Cs)
inductive Src where
  | seq (c : C) | rng1 (c : C) | rng2 (a b : C) | zip (a b : C)
end
mutual
inductive Sm where
  | set (i : Nat) (c : C)
  | tgt (t : Tg) (c : C)
  | par (i j : Nat) (a b : C)
  | seti (i : Nat) (k c : C)
  | augi (i : Nat) (k c : C)
  | aug (i : Nat) (c : C)
  | app (i : Nat) (c : C)
  | ex (c : C)
  | ret (c : C) | retn
  | ife (t : C) (a b : Ss)
  | for (t : Tg) (it : Src) (b : Ss)
  | while (t : C) (b : Ss)
  | pass | brk | cont | nev
inductive Ss where
  | nil | cons (s : Sm) (r : Ss)
end

/-! ### its meaning -/
/-- may be stored to -/
def open? (ρ : Rho) (i : Nat) : Bool := match ρ[i]? with
  | some (.ow true _) => false
  | none => false
  | _ => true
def isOw (ρ : Rho) (i : Nat) : Bool := match ρ[i]? with
  | some (.ow _ _) => true
  | _ => false
def notOw (ρ : Rho) (i : Nat) : Bool := match ρ[i]? with
  | some (.ow _ _) => false
  | none => false
  | _ => true
mutual
def tgD : Tg → D → Rho → (Rho → Prop) → Prop
  | .nm i, d, ρ, K => open? ρ i = true ∧ K (ρ.set i (.fz d))
  | .tp ts, .tup xs, ρ, K => tgsD ts xs ρ K
  | .tp _, _, _, _ => False
def tgsD : Tgs → List D → Rho → (Rho → Prop) → Prop
  | .nil, [], ρ, K => K ρ
  | .cons t r, d :: ds, ρ, K => tgD t d ρ fun ρ1 => tgsD r ds ρ1 K
  | _, _, _, _ => False
end
mutual
def tgIn (vs : List Nat) : Tg → Bool
  | .nm i => vs.contains i
  | .tp ts => tgsIn vs ts
def tgsIn (vs : List Nat) : Tgs → Bool
  | .nil => true
  | .cons t r => tgIn vs t && tgsIn vs r
end
def wipeR (ρ : Rho) : List Nat → Rho
  | [] => ρ
  | i :: r => (wipeR ρ r).set i .no
def unwipe (ρ1 ρ2 : Rho) : List Nat → Rho
  | [] => ρ2
  | i :: r => (unwipe ρ1 ρ2 r).set i (ρ1.getD i .no)
def itemsD : D → (List D → Prop) → Prop
  | .lst xs, K => K xs
  | .tup xs, K => K xs
  | .str z, K => K (z.cps.toList.map fun c => .str ⟨#[c]⟩)
  | _, _ => False
def zipD : D → D → (List D → Prop) → Prop
  | .lst xs, .lst ys, K => K (List.zipWith (fun x y => .tup [x, y]) xs ys)
  | _, _, _ => False
/-- a comprehension: ft its tests, fe its element -/
def compD (vs : List Nat) (t : Tg) (ft : Rho → (Bool → Rho → Prop) → Prop) (fe : Rho → KR → Prop) : List D → List D → Rho → (List D → Rho → Prop) → Prop
  | [], acc, ρ, K => K acc ρ
  | d :: ds, acc, ρ, K => tgD t d ρ fun ρ1 => ft ρ1 fun b ρ2 =>
      if b = true then fe ρ2 fun r ρ3 => frz ρ3 r fun x ρ4 => acc.length < sizeLine ∧ vs.all (notOw ρ4) = true ∧ compD vs t ft fe ds (acc ++ [x]) (wipeR ρ4 vs) K
      else vs.all (notOw ρ2) = true ∧ compD vs t ft fe ds acc (wipeR ρ2 vs) K
def sl2 (x : D) (lo hi : Option Int) (K : Res → Prop) : Prop := slD x lo hi K
mutual
def iE (S : Sg) (xp : XP) : C → Rho → KR → Prop
  | .var i, ρ, K => match ρ[i]? with
    | some (.fz d) => K (.v d) ρ
    | some (.ow _ _) => K (.pl i) ρ
    | _ => False
  | .int i, ρ, K => K (.v (.int i)) ρ
  | .str s, ρ, K => K (.v (.str s)) ρ
  | .bl b, ρ, K => K (.v (.bl b)) ρ
  | .non, ρ, K => K (.v .non) ρ
  | .glob x, ρ, K => match S.gv.lookup x with
    | some d => K (.v d) ρ
    | none => False
  | .bin o a b, ρ, K => iE S xp a ρ fun x ρ1 => iE S xp b ρ1 fun y ρ2 => rdr ρ2 x.stl fun dx => rdr ρ2 y.stl fun dy => o.sem dx dy fun r => K (R.ofRes r) ρ2
  | .neg a, ρ, K => iE S xp a ρ fun x ρ1 => match x with
    | .v (.int i) => K (.v (.int (-i))) ρ1
    | _ => False
  | .cmp o a b, ρ, K => iE S xp a ρ fun x ρ1 => iE S xp b ρ1 fun y ρ2 => rdr ρ2 x.stl fun dx => rdr ρ2 y.stl fun dy => o.sem dx dy fun r => K (.v (.bl r)) ρ2
  | .cmp2 o o' a b c, ρ, K => iE S xp a ρ fun x ρ1 => iE S xp b ρ1 fun y ρ2 => rdr ρ2 x.stl fun dx => rdr ρ2 y.stl fun dy => o.sem dx dy fun r =>
      if r = true then iE S xp c ρ2 fun z ρ3 => rdr ρ3 y.stl fun dy' => rdr ρ3 z.stl fun dz => o'.sem dy' dz fun r' => K (.v (.bl r')) ρ3 else K (.v (.bl false)) ρ2
  | .and a b, ρ, K => iE S xp a ρ fun x ρ1 => match x with
    | .v (.bl c) => if c = true then iE S xp b ρ1 K else K (.v (.bl false)) ρ1
    | _ => False
  | .or a b, ρ, K => iE S xp a ρ fun x ρ1 => match x with
    | .v (.bl c) => if c = true then K (.v (.bl true)) ρ1 else iE S xp b ρ1 K
    | _ => False
  | .one a, ρ, K => iE S xp a ρ K
  | .not a, ρ, K => iE S xp a ρ fun x ρ1 => match x with
    | .v (.bl c) => K (.v (.bl (!c))) ρ1
    | _ => False
  | .ife t a b, ρ, K => iT S xp t ρ fun c ρ1 => if c = true then iE S xp a ρ1 K else iE S xp b ρ1 K
  | .tup es, ρ, K => iAs S xp es ρ fun ds ρ1 => ds.length ≤ sizeLine ∧ K (.v (.tup ds)) ρ1
  | .lst es, ρ, K => iAs S xp es ρ fun ds ρ1 => ds.length ≤ sizeLine ∧ K (.n ds) ρ1
  | .ix a b, ρ, K => iE S xp a ρ fun x ρ1 => iE S xp b ρ1 fun y ρ2 => rdr ρ2 x.stl fun dx => rdr ρ2 y.stl fun dy => ixD dx dy fun r => K (R.ofRes r) ρ2
  | .sl a lo hi, ρ, K => iE S xp a ρ fun x ρ1 => iO S xp lo ρ1 fun l ρ2 => iO S xp hi ρ2 fun h ρ3 => rdr ρ3 x.stl fun dx => slD dx l h fun r => K (R.ofRes r) ρ3
  | .bi b es, ρ, K => iRs S xp es ρ fun rs ρ1 => rdrs ρ1 rs fun ds => b.sem ds fun r => K (R.ofRes r) ρ1
  | .call f es, ρ, K => iAs S xp es ρ fun ds ρ1 => match S.fs[f]? with
    | none => False
    | some e => (e.ct.m = false ∧ (ds ++ e.dflt).length = e.ct.n) ∧ e.ct.sem (fun xn _ => xp xn ρ1) [] (ds ++ e.dflt) fun r _ => K (R.ofRes r) ρ1
  | .callm f i es, ρ, K => isOw ρ i = true ∧ iAs S xp es ρ fun ds ρ1 => match S.fs[f]?, ρ1[i]? with
    | some e, some (.ow b xs) => (e.ct.m = true ∧ (ds ++ e.dflt).length = e.ct.n) ∧ e.ct.sem (fun xn bag => xp xn (ρ1.set i (.ow b bag))) xs (ds ++ e.dflt) fun r bag => K (R.ofRes r) (ρ1.set i (.ow b bag))
    | _, _ => False
  | .comp own t it ifs e, ρ, K => iI S xp it ρ fun ds ρ1 => ((own.map (·.2)).all (notOw ρ1) = true ∧ tgIn (own.map (·.2)) t = true) ∧
      compD (own.map (·.2)) t (fun ρ K => iTs S (fun _ _ => False) ifs ρ K) (fun ρ K => iE S (fun _ _ => False) e ρ K) ds [] (wipeR ρ1 (own.map (·.2))) fun acc ρ2 => K (.n acc) (unwipe ρ1 ρ2 (own.map (·.2)))
def iT (S : Sg) (xp : XP) : C → Rho → (Bool → Rho → Prop) → Prop
  | .and a b, ρ, K => iT S xp a ρ fun c ρ1 => if c = true then iT S xp b ρ1 K else K false ρ1
  | .or a b, ρ, K => iT S xp a ρ fun c ρ1 => if c = true then K true ρ1 else iT S xp b ρ1 K
  | .one a, ρ, K => iT S xp a ρ K
  | .not a, ρ, K => iT S xp a ρ fun c ρ1 => K (!c) ρ1
  | .cmp o a b, ρ, K => iE S xp a ρ fun x ρ1 => iE S xp b ρ1 fun y ρ2 => rdr ρ2 x.stl fun dx => rdr ρ2 y.stl fun dy => o.sem dx dy fun r => K r ρ2
  | .cmp2 o o' a b c, ρ, K => iE S xp a ρ fun x ρ1 => iE S xp b ρ1 fun y ρ2 => rdr ρ2 x.stl fun dx => rdr ρ2 y.stl fun dy => o.sem dx dy fun r =>
      if r = true then iE S xp c ρ2 fun z ρ3 => rdr ρ3 y.stl fun dy' => rdr ρ3 z.stl fun dz => o'.sem dy' dz fun r' => K r' ρ3 else K false ρ2
  | .var i, ρ, K => rdr ρ (.pl i) fun d => truD d fun b => K b ρ
  | .bi b es, ρ, K => iRs S xp es ρ fun rs ρ1 => rdrs ρ1 rs fun ds => b.sem ds fun r => match r with
    | .d x => truD x fun b => K b ρ1
    | .n xs => K (!xs.isEmpty) ρ1
  | .call f es, ρ, K => iAs S xp es ρ fun ds ρ1 => match S.fs[f]? with
    | none => False
    | some e => (e.ct.m = false ∧ (ds ++ e.dflt).length = e.ct.n) ∧ e.ct.sem (fun xn _ => xp xn ρ1) [] (ds ++ e.dflt) fun r _ => match r with
      | .d x => truD x fun b => K b ρ1
      | .n xs => K (!xs.isEmpty) ρ1
  | .callm f i es, ρ, K => isOw ρ i = true ∧ iAs S xp es ρ fun ds ρ1 => match S.fs[f]?, ρ1[i]? with
    | some e, some (.ow b xs) => (e.ct.m = true ∧ (ds ++ e.dflt).length = e.ct.n) ∧ e.ct.sem (fun xn bag => xp xn (ρ1.set i (.ow b bag))) xs (ds ++ e.dflt) fun r bag => match r with
      | .d x => truD x fun c => K c (ρ1.set i (.ow b bag))
      | .n ys => K (!ys.isEmpty) (ρ1.set i (.ow b bag))
    | _, _ => False
  | _, _, _ => False
def iO (S : Sg) (xp : XP) : Co → Rho → (Option Int → Rho → Prop) → Prop
  | .no, ρ, K => K none ρ
  | .so c, ρ, K => iE S xp c ρ fun x ρ1 => match x with
    | .v (.int i) => K (some i) ρ1
    | _ => False
def iAs (S : Sg) (xp : XP) : Cs → Rho → (List D → Rho → Prop) → Prop
  | .nil, ρ, K => K [] ρ
  | .cons c r, ρ, K => iE S xp c ρ fun x ρ1 => frz ρ1 x.stl fun d ρ2 => iAs S xp r ρ2 fun ds ρ3 => K (d :: ds) ρ3
def iRs (S : Sg) (xp : XP) : Cs → Rho → (List R → Rho → Prop) → Prop
  | .nil, ρ, K => K [] ρ
  | .cons c r, ρ, K => iE S xp c ρ fun x ρ1 => iRs S xp r ρ1 fun rs ρ2 => K (x.stl :: rs) ρ2
def iTs (S : Sg) (xp : XP) : Cs → Rho → (Bool → Rho → Prop) → Prop
  | .nil, ρ, K => K true ρ
  | .cons c .nil, ρ, K => iT S xp c ρ K
  | .cons _ (.cons _ _), _, _ => False
def iI (S : Sg) (xp : XP) : Src → Rho → (List D → Rho → Prop) → Prop
  | .seq c, ρ, K => iE S xp c ρ fun x ρ1 => frz ρ1 x.stl fun d ρ2 => itemsD d fun ds => K ds ρ2
  | .rng1 c, ρ, K => iE S xp c ρ fun x ρ1 => match x with
    | .v (.int n) => (-(2 ^ 62) ≤ n ∧ n < 2 ^ 62) ∧ K ((List.range n.toNat).map fun (k : Nat) => D.int (k : Int)) ρ1
    | _ => False
  | .rng2 a b, ρ, K => iE S xp a ρ fun x ρ1 => iE S xp b ρ1 fun y ρ2 => match x, y with
    | .v (.int i), .v (.int j) => (-(2 ^ 62) ≤ i ∧ i < 2 ^ 62 ∧ -(2 ^ 62) ≤ j ∧ j < 2 ^ 62) ∧ K ((List.range (j - i).toNat).map fun (k : Nat) => D.int (i + (k : Int))) ρ2
    | _, _ => False
  | .zip a b, ρ, K => iE S xp a ρ fun x ρ1 => frz ρ1 x.stl fun dx ρ2 => iE S xp b ρ2 fun y ρ3 => frz ρ3 y.stl fun dy ρ4 => zipD dx dy fun ds => K ds ρ4
end
/-- what is wanted behind a statement -/
structure DE where
  nx : Rho → Prop
  rt : R → Rho → Prop
  bk : Rho → Prop := fun _ => False
  ct : Rho → Prop := fun _ => False
def setR (ρ : Rho) (i : Nat) (r : R) (K : Rho → Prop) : Prop := match r with
  | .v d => open? ρ i = true ∧ K (ρ.set i (.fz d))
  | .n xs => open? ρ i = true ∧ K (ρ.set i (.ow false xs))
  | .pl j => frz ρ (.pl j) fun d ρ' => open? ρ' i = true ∧ K (ρ'.set i (.fz d))
def forD (t : Tg) (fb : Rho → DE → Prop) : List D → Rho → DE → Prop
  | [], ρ, E => E.nx ρ
  | d :: ds, ρ, E => tgD t d ρ fun ρ1 => fb ρ1 { E with nx := fun ρ2 => forD t fb ds ρ2 E, ct := fun ρ2 => forD t fb ds ρ2 E, bk := E.nx }
mutual
def iS (S : Sg) (xp : XP) : Sm → Rho → DE → Prop
  | .set i c, ρ, E => iE S xp c ρ fun r ρ1 => setR ρ1 i r E.nx
  | .tgt t c, ρ, E => iE S xp c ρ fun r ρ1 => frz ρ1 r.stl fun d ρ2 => tgD t d ρ2 E.nx
  | .par i j a b, ρ, E => iE S xp a ρ fun x ρ1 => frz ρ1 x.stl fun d ρ2 => iE S xp b ρ2 fun y ρ3 => frz ρ3 y.stl fun e ρ4 => (open? ρ4 i = true ∧ open? ρ4 j = true) ∧ E.nx ((ρ4.set i (.fz d)).set j (.fz e))
  | .seti i k c, ρ, E => iE S xp c ρ fun x ρ1 => frz ρ1 x.stl fun d ρ2 => isOw ρ2 i = true ∧ iE S xp k ρ2 fun y ρ3 => match y, ρ3[i]? with
    | .v (.int n), some (.ow b xs) => ∃ j, ixN xs.length n = some j ∧ E.nx (ρ3.set i (.ow b (xs.set j d)))
    | _, _ => False
  | .augi i k c, ρ, E => isOw ρ i = true ∧ iE S xp k ρ fun y ρ1 => match y, ρ1[i]? with
    | .v (.int n), some (.ow _ xs) => ∃ m, atI xs n = some (.int m) ∧ iE S xp c ρ1 fun z ρ2 => match z, ρ2[i]? with
      | .v (.int l), some (.ow b ys) => ∃ j, ixN ys.length n = some j ∧ E.nx (ρ2.set i (.ow b (ys.set j (.int (m + l)))))
      | _, _ => False
    | _, _ => False
  | .aug i c, ρ, E => match ρ[i]? with
    | some (.fz dx) => iE S xp c ρ fun y ρ1 => rdr ρ1 y.stl fun dy => match dx, dy with
      | .int m, .int l => open? ρ1 i = true ∧ E.nx (ρ1.set i (.fz (.int (m + l))))
      | _, _ => False
    | _ => False
  | .app i c, ρ, E => isOw ρ i = true ∧ iE S xp c ρ fun x ρ1 => frz ρ1 x.stl fun d ρ2 => match ρ2[i]? with
    | some (.ow b xs) => xs.length < sizeLine ∧ E.nx (ρ2.set i (.ow b (xs ++ [d])))
    | _ => False
  | .ex c, ρ, E => iE S xp c ρ fun _ ρ1 => E.nx ρ1
  | .ret c, ρ, E => iE S xp c ρ E.rt
  | .retn, ρ, E => E.rt (.v .non) ρ
  | .ife t a b, ρ, E => iT S xp t ρ fun c ρ1 => if c = true then iSs S xp a ρ1 E else iSs S xp b ρ1 E
  | .for t it b, ρ, E => iI S xp it ρ fun ds ρ1 => forD t (fun ρ E => iSs S xp b ρ E) ds ρ1 E
  | .while t b, ρ, E => ∃ I : Nat → Rho → Prop, (∃ m, I m ρ) ∧ ∀ m ρ, I m ρ → iT S xp t ρ fun c ρ1 =>
      if c = true then iSs S xp b ρ1 { E with nx := fun ρ2 => ∃ m', m' < m ∧ I m' ρ2, ct := fun ρ2 => ∃ m', m' < m ∧ I m' ρ2, bk := E.nx } else E.nx ρ1
  | .pass, ρ, E => E.nx ρ
  | .brk, ρ, E => E.bk ρ
  | .cont, ρ, E => E.ct ρ
  | .nev, _, _ => False
def iSs (S : Sg) (xp : XP) : Ss → Rho → DE → Prop
  | .nil, ρ, E => E.nx ρ
  | .cons s r, ρ, E => iS S xp s ρ { E with nx := fun ρ1 => iSs S xp r ρ1 E }
end

/-! ### when it is the text -/
def visB (sc : Scope) (x : Str) : Bool := match sc.names.lookup x with
  | some .local => true
  | some .cell => true
  | some .free => true
  | _ => false
def locB (sc : Scope) (x : Str) : Bool := match sc.names.lookup x with
  | some .local => true
  | some .cell => true
  | _ => false
def glB (sc : Scope) (x : Str) : Bool := match sc.names.lookup x with
  | some .globalImplicit => true
  | _ => false
def noDb (x : Str) : Bool := !(x == ("__debug__" : Str)) && !(x == ("__classdict__" : Str))
def opB : BOp → Operator → Bool
  | .add, .Add => true | .sub, .Sub => true | .mul, .Mult => true | .fdiv, .FloorDiv => true | .mod, .Mod => true | .pow, .Pow => true
  | _, _ => false
def cmB : COp → CmpOp → Bool
  | .eq, .Eq => true | .ne, .NotEq => true | .lt, .Lt => true | .le, .LtE => true | .gt, .Gt => true | .ge, .GtE => true | .isin, .In => true | .notin, .NotIn => true | .is, .Is => true | .isnot, .IsNot => true
  | _, _ => false
/-- what may stand as an argument, an item, an index, a value that is stored or dropped -/
def plainE : Expr → Bool
  | .Starred .. => false
  | .Slice .. => false
  | .Set .. => false
  | .Lambda .. => false
  | _ => true
mutual
def mG (N : List Str) (sc : Scope) : Tg → Expr → Bool
  | .nm i, .Name x _ => decide (N[i]? = some x) && locB sc x
  | .tp ts, .Tuple es _ _ => mGs N sc ts es
  | _, _ => false
def mGs (N : List Str) (sc : Scope) : Tgs → List Expr → Bool
  | .nil, [] => true
  | .cons t r, e :: es => plainE e && mG N sc t e && mGs N sc r es
  | _, _ => false
end
mutual
def mE (S : Sg) (N : List Str) (sc : Scope) : C → Expr → Bool
  | .var i, .Name x _ => decide (N[i]? = some x) && visB sc x && noDb x
  | .int i, .Constant (.int j) _ _ => decide (i = j)
  | .str s, .Constant (.str t) _ _ => decide (s = t)
  | .bl b, .Constant (.bool c) _ _ => b == c
  | .non, .Constant .none _ _ => true
  | .glob x, .Name y _ => decide (x = y) && glB sc x && noDb x
  | .bin o a b, .BinOp ea op eb _ => opB o op && mE S N sc a ea && mE S N sc b eb
  | .neg a, .UnaryOp .USub ea _ => mE S N sc a ea
  | .cmp o a b, .Compare ea [op] [eb] _ => cmB o op && plainE eb && mE S N sc a ea && mE S N sc b eb
  | .cmp2 o o' a b c, .Compare ea [op, op'] [eb, ec] _ => cmB o op && cmB o' op' && plainE eb && plainE ec && mE S N sc a ea && mE S N sc b eb && mE S N sc c ec
  | .and a b, .BoolOp .And (ea :: eb :: r) p => mE S N sc a ea && mE S N sc b (.BoolOp .And (eb :: r) p)
  | .or a b, .BoolOp .Or (ea :: eb :: r) p => mE S N sc a ea && mE S N sc b (.BoolOp .Or (eb :: r) p)
  | .one a, .BoolOp _ [ea] _ => mE S N sc a ea
  | .not a, .UnaryOp .Not ea _ => mE S N sc a ea
  | .ife t a b, .IfExp et ea eb _ => mE S N sc t et && mE S N sc a ea && mE S N sc b eb
  | .tup es, .Tuple l _ _ => mEs S N sc es l
  | .lst es, .List l _ => mEs S N sc es l
  | .ix a b, .Subscript ea eb _ => plainE eb && mE S N sc a ea && mE S N sc b eb
  | .sl a lo hi, .Subscript ea (.Slice l h none _) _ => mE S N sc a ea && mO S N sc lo l && mO S N sc hi h
  | .bi b es, .Call (.Name x _) (e :: l) [] _ => decide (x = b.name) && glB sc x && mEs S N sc es (e :: l)
  | .call f es, .Call (.Name x _) l [] _ => (match S.fs[f]? with
    | some e => decide (x = e.name)
    | none => false) && glB sc x && noDb x && mEs S N sc es l
  | .callm f i es, .Call (.Name x _) (.Name y _ :: l) [] _ => (match S.fs[f]? with
    | some e => decide (x = e.name)
    | none => false) && glB sc x && noDb x && decide (N[i]? = some y) && visB sc y && noDb y && mEs S N sc es l
  | .comp own t it ifs e, .ListComp elt [⟨tg, iter, is, 0⟩] scope _ => blkC N sc scope own && plainE iter && mI S N sc it iter tg && mG N scope t tg && mTs S N scope ifs is && mE S N scope e elt
  | _, _ => false
def mO (S : Sg) (N : List Str) (sc : Scope) : Co → Option Expr → Bool
  | .no, none => true
  | .so c, some e => mE S N sc c e
  | _, _ => false
def mEs (S : Sg) (N : List Str) (sc : Scope) : Cs → List Expr → Bool
  | .nil, [] => true
  | .cons c r, e :: es => plainE e && mE S N sc c e && mEs S N sc r es
  | _, _ => false
def mTs (S : Sg) (N : List Str) (sc : Scope) : Cs → List Expr → Bool
  | .nil, [] => true
  | .cons c .nil, [e] => mE S N sc c e
  | _, _ => false
def mI (S : Sg) (N : List Str) (sc : Scope) : Src → Expr → Expr → Bool
  | .seq c, e, _ => mE S N sc c e
  | .rng1 c, .Call (.Name x _) [e] [] _, _ => decide (x = ("range" : Str)) && glB sc x && plainE e && mE S N sc c e
  | .rng2 a b, .Call (.Name x _) [e, f] [] _, _ => decide (x = ("range" : Str)) && glB sc x && plainE e && plainE f && mE S N sc a e && mE S N sc b f
  | .zip a b, .Call (.Name x _) [e, f] [] _, .Tuple _ _ _ => decide (x = ("zip" : Str)) && glB sc x && plainE e && plainE f && mE S N sc a e && mE S N sc b f
  | _, _, _ => false
end
mutual
def mS (S : Sg) (N : List Str) (sc : Scope) : Sm → Stmt → Bool
  | .set i c, .Assign [.Name x _] e _ => decide (N[i]? = some x) && locB sc x && plainE e && mE S N sc c e
  | .tgt t c, .Assign [.Tuple es k p] e _ => plainE e && (match e with | .Tuple .. => false | .ListComp .. => false | _ => true) && mG N sc t (.Tuple es k p) && mE S N sc c e
  | .par i j a b, .Assign [.Tuple [.Name x px, .Name y py] _ _] (.Tuple [ea, eb] _ _) _ => decide (N[i]? = some x) && decide (N[j]? = some y) && decide (i ≠ j) && decide (sc.names.lookup x = some .local) && decide (sc.names.lookup y = some .local) &&
      decide (px.line = py.line) && (!foldedForSure 8 ea || !foldedForSure 8 eb) && (!constantsAlone 8 ea || !constantsAlone 8 eb) && plainE ea && plainE eb && mE S N sc a ea && mE S N sc b eb
  | .seti i k c, .Assign [.Subscript (.Name x _) ek _] e _ => decide (N[i]? = some x) && visB sc x && noDb x && plainE ek && plainE e && (match e with | .ListComp .. => false | _ => true) && mE S N sc k ek && mE S N sc c e
  | .augi i k c, .AugAssign (.Subscript (.Name x _) ek _) .Add e _ => decide (N[i]? = some x) && visB sc x && noDb x && plainE ek && mE S N sc k ek && mE S N sc c e
  | .aug i c, .AugAssign (.Name x _) .Add e _ => decide (N[i]? = some x) && locB sc x && mE S N sc c e
  | .app i c, .Expr (.Call (.Attribute (.Name x _) m ap) [e] [] cp) _ => (ap.endLine == cp.line) && decide (m = ("append" : Str)) && decide (N[i]? = some x) && visB sc x && noDb x && plainE e && mE S N sc c e
  | .ex c, .Expr e _ => (match e with | .Call .. => true | _ => false) && mE S N sc c e
  | .ret c, .Return (some e) _ => mE S N sc c e
  | .retn, .Return none _ => true
  | .ife t a b, .If et ea eb _ => mE S N sc t et && mSs S N sc a ea && mSs S N sc b eb
  | .for t it b, .For tg iter body [] _ => plainE iter && mI S N sc it iter tg && mG N sc t tg && mSs S N sc b body
  | .while t b, .While et body [] _ => mE S N sc t et && mSs S N sc b body
  | .pass, .Pass _ => true
  | .pass, .Expr (.Constant (.str _) _ _) _ => true
  | .brk, .Break _ => true
  | .cont, .Continue _ => true
  | .nev, _ => true
  | _, _ => false
def mSs (S : Sg) (N : List Str) (sc : Scope) : Ss → List Stmt → Bool
  | .nil, [] => true
  | .cons s r, t :: ts => mS S N sc s t && mSs S N sc r ts
  | _, _ => false
end
end DL

/-! DS: the judgements of the small language and the rules of expressions. -/
namespace DL
open PySem L2

/-- a value held by an expression's result -/
def RelR (w : Wd) (F H : Hp) (σ : St) (ρ : Rho) (v : V) : R → Prop
  | .v d => Rep w.G F v d
  | .pl i => σ[i]? = some (some v)
  | .n xs => ∃ p vs, v = .ref p ∧ H p = some (.lst vs) ∧ RepL w.G F vs xs ∧ F p = none ∧ w.H0 p = none ∧ w.fr p = none ∧ Free σ ρ p
/-- .. settled: it may be held while others are reckoned -/
def RelS (w : Wd) (F : Hp) (σ : St) (v : V) : R → Prop
  | .v d => Rep w.G F v d
  | .pl i => σ[i]? = some (some v)
  | .n _ => False
def RepX (G : Gd) (F H : Hp) (cls : Value) (d : Option Addr) (xn : Xn) : Prop := cls = .ref (G.cl xn.cls) ∧ ∃ dd fs, d = some dd ∧ H dd = some (.xd fs) ∧ RepF G F fs xn.fs
def XW (w : Wd) (xp : XP) : WX := fun cls d σ H => ∃ F ρ xn, Rl w F H σ ρ ∧ RepX w.G F H cls d xn ∧ xp xn ρ
def XOk (X : Cx) (w : Wd) (xp : XP) : Prop := Takes X (XW w xp)

section
variable {w : Wd} {F F' H H' : Hp} {σ : St} {ρ : Rho} {v : V} {r : R}
theorem RelS.mono (h : Le F F') (q : RelS w F σ v r) : RelS w F' σ v r := by
  cases r with
  | v d => exact Rep.mono h d v q
  | pl i => exact q
  | n xs => exact q
/-- a new list of the run's own is frozen -/
theorem Rl.frzNew (l : Rl w F H σ ρ) {p : Addr} {vs : List V} (ha : H p = some (.lst vs)) (h0 : w.H0 p = none) (hf : w.fr p = none) (fr : Free σ ρ p) (n : F p = none) : Rl w (upd F p (.lst vs)) H σ ρ where
  len := l.len
  le := le_freeze l.le ha
  f0 := fun a o e => le_upd n a o (l.f0 a o e)
  kp := l.kp
  al := l.al
  nf := fun a h e => by
    rw [upd_ne (fun z => h (by rw [z]; exact h0))]
    exact l.nf a h e
  sl := fun i s e => by
    have z := l.sl i s e
    cases s with
    | no => exact z
    | fz d =>
      obtain ⟨v, e', q'⟩ := z
      exact ⟨v, e', q'.mono (le_upd n)⟩
    | ow b ys =>
      obtain ⟨a', vs', e', ha', l', n', f', c'⟩ := z
      have ne : a' ≠ p := fun y => fr i b ys e (by rw [← y]; exact e')
      exact ⟨a', vs', e', ha', l'.mono (le_upd n), by rw [upd_ne ne]; exact n', f', c'⟩
  pr := l.pr
  dj := l.dj
  fx := fun a o e => by
    have ne : a ≠ p := fun z => by rw [z, hf] at e; cases e
    exact ⟨(l.fx a o e).1, by rw [upd_ne ne]; exact (l.fx a o e).2⟩
theorem settle_rel (l : Rl w F H σ ρ) (q : RelR w F H σ ρ v r) : ∃ F', Le F F' ∧ Rl w F' H σ ρ ∧ RelS w F' σ v r.stl := by
  cases r with
  | v d => exact ⟨F, fun _ _ e => e, l, q⟩
  | pl i => exact ⟨F, fun _ _ e => e, l, q⟩
  | n xs =>
    obtain ⟨p, vs, rfl, ha, rl, n, h0, hf, fr⟩ := q
    exact ⟨_, le_upd n, l.frzNew ha h0 hf fr n, Rep.lst' upd_same (rl.mono (le_upd n))⟩
theorem rdr_rel (l : Rl w F H σ ρ) (q : RelS w F σ v r) {K : D → Prop} (h : rdr ρ r K) : ∃ d, RdV w.G F H v d ∧ K d := by
  cases r with
  | v d => exact ⟨d, Rep.rd l.le q, h⟩
  | n xs => exact (show False from q).elim
  | pl i =>
    have q : σ[i]? = some (some v) := q
    simp only [rdr] at h
    split at h
    · rename_i b xs e
      obtain ⟨a, vs, es, ha, rl, _⟩ := l.sl i _ e
      rw [q] at es
      have ev : v = .ref a := by injection es with es; injection es
      exact ⟨.lst xs, ⟨a, vs, ev, ha, rl⟩, h⟩
    · rename_i d e
      obtain ⟨u, es, rp⟩ := l.sl i _ e
      rw [q] at es
      have ev : v = u := by injection es with es; injection es
      exact ⟨d, Rep.rd l.le (by rw [ev]; exact rp), h⟩
    · exact h.elim
theorem frz_rel (l : Rl w F H σ ρ) (q : RelS w F σ v r) {K : D → Rho → Prop} (h : frz ρ r K) : ∃ d F' ρ', Le F F' ∧ Rl w F' H σ ρ' ∧ Rep w.G F' v d ∧ K d ρ' := by
  cases r with
  | v d => exact ⟨d, F, ρ, fun _ _ e => e, l, q, h⟩
  | n xs => exact (show False from q).elim
  | pl i =>
    have q : σ[i]? = some (some v) := q
    simp only [frz] at h
    split at h
    · rename_i xs e
      obtain ⟨a, vs, es, ha, n, rp, l'⟩ := l.freeze e
      rw [q] at es
      have ev : v = .ref a := by injection es with es; injection es
      exact ⟨_, _, _, le_upd n, l', by rw [ev]; exact rp, h⟩
    · rename_i d e
      obtain ⟨u, es, rp⟩ := l.sl i _ e
      rw [q] at es
      have ev : v = u := by injection es with es; injection es
      exact ⟨d, F, ρ, fun _ _ e => e, l, by rw [ev]; exact rp, h⟩
    · exact h.elim
theorem res_rel (l : Rl w F H σ ρ) (g : Grow F H F' H') {s : Res} (q : RRes w.G H F' H' v s) : RelR w F' H' σ ρ v (R.ofRes s) := by
  cases s with
  | d x => exact q
  | n xs =>
    obtain ⟨p, vs, ev, hn, ha, rl, n⟩ := q
    exact ⟨p, vs, ev, ha, rl, n, l.al p hn, l.freshFr hn, l.free hn⟩
end

/-- the facts of the world that the rules ask -/
structure XG (S : Sg) (G : Gd) (sc : Scope) (X : Cx) : Prop where
  nd : X.N.Nodup
  calm : X.calm = true
  K : G.K = X.K
  w : G.w = X.w
  scr : ∀ (x : Str) (k : NameKind), sc.names.lookup x = some k → X.env.scope.names.lookup x = some k ∨ (k = NameKind.free ∧ X.env.scope.names.lookup x = some NameKind.cell)
  fnc : ∀ x : Str, sc.names.lookup x = some NameKind.cell → X.fn x = true
  gv : ∀ x d, S.gv.lookup x = some d → ∃ u v, X.mg x = some u ∧ RelV v u ∧ ∀ F, Rep G F v d
  bn : ∀ x : Str, x ∈ (["len", "max", "min", "list", "tuple", "sum", "any", "all", "int", "range", "zip"] : List Str) → X.mg x = none
  hu : X.A.units + 65 < cLine

section
variable {S : Sg} {G : Gd} {sc : Scope} {X : Cx} {x : Str}
theorem XG.vis (g : XG S G sc X) (h : visB sc x = true) : Vis X.env.scope x := by
  unfold visB at h
  split at h
  · rename_i e; rcases g.scr x _ e with q | ⟨q, _⟩
    · exact .inl q
    · cases q
  · rename_i e; rcases g.scr x _ e with q | ⟨q, _⟩
    · exact .inr (.inl q)
    · cases q
  · rename_i e; rcases g.scr x _ e with q | ⟨_, q⟩
    · exact .inr (.inr q)
    · exact .inr (.inl q)
  · cases h
theorem XG.loc (g : XG S G sc X) (h : locB sc x = true) : Loc X.env.scope x ∧ (X.fn x = true ∨ X.env.scope.names.lookup x = some .local) := by
  unfold locB at h
  split at h
  · rename_i e; rcases g.scr x _ e with q | ⟨q, _⟩
    · exact ⟨.inl q, .inr q⟩
    · cases q
  · rename_i e; rcases g.scr x _ e with q | ⟨q, _⟩
    · exact ⟨.inr q, .inl (g.fnc x e)⟩
    · cases q
  · cases h
theorem XG.gl (g : XG S G sc X) (h : glB sc x = true) : Gl X x := by
  unfold glB at h
  split at h
  · rename_i e; rcases g.scr x _ e with q | ⟨q, _⟩
    · exact q
    · cases q
  · cases h
theorem noDb_1 (h : noDb x = true) : (x == ("__debug__" : Str)) = false := by
  unfold noDb at h
  rw [Bool.and_eq_true, Bool.not_eq_true', Bool.not_eq_true'] at h
  exact h.1
theorem noDb_2 (h : noDb x = true) : (x == ("__classdict__" : Str)) = false := by
  unfold noDb at h
  rw [Bool.and_eq_true, Bool.not_eq_true', Bool.not_eq_true'] at h
  exact h.2
theorem star_plain {e : Expr} {es : List Expr} {env : Env} (h : plainE e = true) : starEach (e :: es) env = (false, eval e env) :: starEach es env := by
  cases e <;> first | rfl | exact absurd h (by simp [plainE])
theorem ix_plain {e : Expr} (h : plainE e = true) : PlainIx e := fun o i => by
  cases e <;> first | rfl | exact absurd h (by simp [plainE])
theorem mark_plain {e : Expr} {op : CmpOp} (h : plainE e = true) : behindInMarks op e = false := by
  cases e <;> first | rfl | exact absurd h (by simp [plainE])
theorem set_plain {e : Expr} {env : Env} (h : plainE e = true) : ∀ x, foldedSetIterable e env x = pure x := fun x => by
  cases e <;> first | rfl | exact absurd h (by simp [plainE])
end

/-! ### the judgements -/
def tJ (w : Wd) (f : Rho → KR → Prop) : TE := fun σ H Q => ∃ F ρ, Rl w F H σ ρ ∧ ∃ Kd : KR, f ρ Kd ∧ ∀ r ρ' F' H' v, Le F F' → Rl w F' H' σ ρ' → RelR w F' H' σ ρ' v r → Kd r ρ' → Q v H'
def tJT (w : Wd) (f : Rho → (Bool → Rho → Prop) → Prop) : TT := fun σ H Q => ∃ F ρ, Rl w F H σ ρ ∧ ∃ Kd : Bool → Rho → Prop, f ρ Kd ∧ ∀ b ρ' F' H', Le F F' → Rl w F' H' σ ρ' → Kd b ρ' → Q b H'
def tJA (w : Wd) (f : Rho → (List D → Rho → Prop) → Prop) : TA := fun σ H Q => ∃ F ρ, Rl w F H σ ρ ∧ ∃ Kd : List D → Rho → Prop, f ρ Kd ∧ ∀ ds ρ' F' H' vs, Le F F' → Rl w F' H' σ ρ' → RepL w.G F' vs ds → Kd ds ρ' → Q vs H'
inductive RelSs (w : Wd) (F : Hp) (σ : St) : List V → List R → Prop where
  | nil : RelSs w F σ [] []
  | cons {v : V} {vs : List V} {r : R} {rs : List R} : RelS w F σ v r → RelSs w F σ vs rs → RelSs w F σ (v :: vs) (r :: rs)
theorem RelSs.mono {w : Wd} {F F' : Hp} {σ : St} (h : Le F F') : ∀ {vs : List V} {rs : List R}, RelSs w F σ vs rs → RelSs w F' σ vs rs
  | _, _, .nil => .nil
  | _, _, .cons a b => .cons (a.mono h) (b.mono h)
def tJR (w : Wd) (f : Rho → (List R → Rho → Prop) → Prop) : TA := fun σ H Q => ∃ F ρ, Rl w F H σ ρ ∧ ∃ Kd : List R → Rho → Prop, f ρ Kd ∧ ∀ rs ρ' F' H' vs, Le F F' → Rl w F' H' σ ρ' → RelSs w F' σ vs rs → Kd rs ρ' → Q vs H'
def tJO (w : Wd) (f : Rho → (Option Int → Rho → Prop) → Prop) : TO := fun σ H Q => ∃ F ρ, Rl w F H σ ρ ∧ ∃ Kd : Option Int → Rho → Prop, f ρ Kd ∧ ∀ o ρ' F' H', Le F F' → Rl w F' H' σ ρ' → Kd o ρ' → Q o H'
/-- the items that an iterator will give, data frozen in F -/
def Items (G : Gd) (J : It) (ds : List D) (F : Hp) : Prop := ∀ (i : Nat) (F1 H1 : Hp), Le F F1 → Le F1 H1 → i ≤ ds.length →
  (i = ds.length → J.stop i H1) ∧ ∀ d, ds[i]? = some d → J.go i H1 ∧ ∀ x H2, J.yld i H1 x H2 → ∃ F2, Grow F1 H1 F2 H2 ∧ Rep G F2 x d
def tJI (w : Wd) (f : Rho → (List D → Rho → Prop) → Prop) : TI := fun σ H R => ∃ F ρ, Rl w F H σ ρ ∧ ∃ Kd : List D → Rho → Prop, f ρ Kd ∧ ∀ ds ρ' F' H' J, Le F F' → Rl w F' H' σ ρ' → Items w.G J ds F' → Kd ds ρ' → R J H'

theorem _root_.L2.PE.imp {X : Cx} {e : Expr} {t t' : TE} (h : PE X e t) (k : ∀ σ H Q, t' σ H Q → t σ H Q) : PE X e t' := ⟨fun pins s σ H Q I q => h.run pins s σ H Q I (k σ H Q q)⟩
theorem _root_.L2.PT.imp {X : Cx} {e : Expr} {t t' : TT} (h : PT X e t) (k : ∀ σ H Q, t' σ H Q → t σ H Q) : PT X e t' := ⟨fun pins s σ H Q I q => h.run pins s σ H Q I (k σ H Q q)⟩
theorem _root_.L2.PW.imp {X : Cx} {e : Expr} {t t' : TT} (h : PW X e t) (k : ∀ σ H Q, t' σ H Q → t σ H Q) : PW X e t' := ⟨fun wh pins s σ H Q I q => h.run wh pins s σ H Q I (k σ H Q q)⟩
theorem _root_.L2.PA.imp {X : Cx} {e : List Expr} {t t' : TA} (h : PA X e t) (k : ∀ σ H Q, t' σ H Q → t σ H Q) : PA X e t' := ⟨fun pos pins s σ H Q I q => h.run pos pins s σ H Q I (k σ H Q q)⟩
theorem _root_.L2.PI.imp {X : Cx} {tg e : Expr} {t t' : TI} (h : PI X tg e t) (k : ∀ σ H Q, t' σ H Q → t σ H Q) : PI X tg e t' := ⟨fun pins s σ H Q I q => h.run pins s σ H Q I (k σ H Q q)⟩
theorem _root_.L2.PO.imp {X : Cx} {e : Option Expr} {t t' : TO} (h : PO X e t) (k : ∀ σ H Q, t' σ H Q → t σ H Q) : PO X e t' := ⟨fun pins s σ H Q I q => h.run pins s σ H Q I (k σ H Q q)⟩

theorem le_rfl' {F : Hp} : Le F F := fun _ _ e => e
theorem le_tr {F F1 F2 : Hp} (a : Le F F1) (b : Le F1 F2) : Le F F2 := fun c o e => b c o (a c o e)

section
variable {S : Sg} {X : Cx} {w : Wd} {sc : Scope} {xp : XP} {e ea eb ec : Expr} {pos : Pos}
/-- one value, settled -/
theorem tJ_settled {f : Rho → KR → Prop} {σ : St} {H : Hp} {Q : VK} {F : Hp} {ρ : Rho} (l : Rl w F H σ ρ) {Kd : KR} (h : f ρ Kd) (k : ∀ r ρ' F' H' v, Le F F' → Rl w F' H' σ ρ' → RelS w F' σ v r.stl → Kd r ρ' → Q v H') : tJ w f σ H Q :=
  ⟨F, ρ, l, Kd, h, fun r ρ' F' H' v le1 l1 rr q => by
    obtain ⟨F2, le2, l2, rs⟩ := settle_rel l1 rr
    exact k r ρ' F2 H' v (le_tr le1 le2) l2 rs q⟩
theorem j_bin {f g : Rho → KR → Prop} {op : Operator} {sem : D → D → (Res → Prop) → Prop} (ho : OpR X (binaryOp op) (rD2 w.G sem)) (ha : PE X ea (tJ w f)) (hb : PE X eb (tJ w g)) :
    PE X (.BinOp ea op eb pos) (tJ w fun ρ K => f ρ fun x ρ1 => g ρ1 fun y ρ2 => rdr ρ2 x.stl fun dx => rdr ρ2 y.stl fun dy => sem dx dy fun r => K (R.ofRes r) ρ2) := by
  refine (pe_op ho ha hb).imp fun σ H Q h => ?_
  obtain ⟨F, ρ, l, Kd, h, k⟩ := h
  refine tJ_settled l h fun x ρ1 F1 H1 v le1 l1 rx h1 => tJ_settled l1 h1 fun y ρ2 F2 H2 u le2 l2 ry h2 => ?_
  obtain ⟨dx, vx, h3⟩ := rdr_rel l2 (rx.mono le2) h2
  obtain ⟨dy, vy, h4⟩ := rdr_rel l2 ry h3
  exact ⟨F2, dx, dy, l2.le, vx, vy, _, h4, fun v' r F' H' gr rr q => k _ ρ2 F' H' v' (le_tr (le_tr le1 le2) gr.fm) (l2.grow gr) (res_rel l2 gr rr) q⟩
theorem j_ix {f g : Rho → KR → Prop} {sem : D → D → (Res → Prop) → Prop} (ho : IxR X (rD2 w.G sem)) (hp : plainE eb = true) (ha : PE X ea (tJ w f)) (hb : PE X eb (tJ w g)) :
    PE X (.Subscript ea eb pos) (tJ w fun ρ K => f ρ fun x ρ1 => g ρ1 fun y ρ2 => rdr ρ2 x.stl fun dx => rdr ρ2 y.stl fun dy => sem dx dy fun r => K (R.ofRes r) ρ2) := by
  refine (pe_ix ho ha hb (ix_plain hp)).imp fun σ H Q h => ?_
  obtain ⟨F, ρ, l, Kd, h, k⟩ := h
  refine tJ_settled l h fun x ρ1 F1 H1 v le1 l1 rx h1 => tJ_settled l1 h1 fun y ρ2 F2 H2 u le2 l2 ry h2 => ?_
  obtain ⟨dx, vx, h3⟩ := rdr_rel l2 (rx.mono le2) h2
  obtain ⟨dy, vy, h4⟩ := rdr_rel l2 ry h3
  exact ⟨F2, dx, dy, l2.le, vx, vy, _, h4, fun v' r F' H' gr rr q => k _ ρ2 F' H' v' (le_tr (le_tr le1 le2) gr.fm) (l2.grow gr) (res_rel l2 gr rr) q⟩
theorem j_cmp {f g : Rho → KR → Prop} {op : CmpOp} {sem : D → D → (Bool → Prop) → Prop} (ho : OpR X (compareOp op) (rC2 w.G sem)) (hp : plainE eb = true) (ha : PE X ea (tJ w f)) (hb : PE X eb (tJ w g)) :
    PE X (.Compare ea [op] [eb] pos) (tJ w fun ρ K => f ρ fun x ρ1 => g ρ1 fun y ρ2 => rdr ρ2 x.stl fun dx => rdr ρ2 y.stl fun dy => sem dx dy fun r => K (.v (.bl r)) ρ2) := by
  refine (pe_cmpR ho ha hb (mark_plain hp)).imp fun σ H Q h => ?_
  obtain ⟨F, ρ, l, Kd, h, k⟩ := h
  refine tJ_settled l h fun x ρ1 F1 H1 v le1 l1 rx h1 => tJ_settled l1 h1 fun y ρ2 F2 H2 u le2 l2 ry h2 => ?_
  obtain ⟨dx, vx, h3⟩ := rdr_rel l2 (rx.mono le2) h2
  obtain ⟨dy, vy, h4⟩ := rdr_rel l2 ry h3
  exact ⟨F2, dx, dy, l2.le, vx, vy, _, h4, fun b q => k (.v (.bl b)) ρ2 F2 H2 _ (le_tr le1 le2) l2 (Rep.bl' (G := w.G) (F := F2) b) q⟩
theorem jt_cmp {f g : Rho → KR → Prop} {op : CmpOp} {sem : D → D → (Bool → Prop) → Prop} (ho : OpR X (compareOp op) (rC2 w.G sem)) (hp : plainE eb = true) (ha : PE X ea (tJ w f)) (hb : PE X eb (tJ w g)) :
    PT X (.Compare ea [op] [eb] pos) (tJT w fun ρ K => f ρ fun x ρ1 => g ρ1 fun y ρ2 => rdr ρ2 x.stl fun dx => rdr ρ2 y.stl fun dy => sem dx dy fun r => K r ρ2) := by
  refine (pt_cmpR ho ha hb (mark_plain hp)).imp fun σ H Q h => ?_
  obtain ⟨F, ρ, l, Kd, h, k⟩ := h
  refine tJ_settled l h fun x ρ1 F1 H1 v le1 l1 rx h1 => tJ_settled l1 h1 fun y ρ2 F2 H2 u le2 l2 ry h2 => ?_
  obtain ⟨dx, vx, h3⟩ := rdr_rel l2 (rx.mono le2) h2
  obtain ⟨dy, vy, h4⟩ := rdr_rel l2 ry h3
  exact ⟨F2, dx, dy, l2.le, vx, vy, _, h4, fun b q => ⟨b, rfl, k b ρ2 F2 H2 (le_tr le1 le2) l2 q⟩⟩
theorem j_cmp2 {f g h' : Rho → KR → Prop} {op op' : CmpOp} {sem sem' : D → D → (Bool → Prop) → Prop} (ho : OpR X (compareOp op) (rC2 w.G sem)) (ho' : OpR X (compareOp op') (rC2 w.G sem')) (hp : plainE eb = true) (hp' : plainE ec = true)
    (ha : PE X ea (tJ w f)) (hb : PE X eb (tJ w g)) (hc : PE X ec (tJ w h')) :
    PE X (.Compare ea [op, op'] [eb, ec] pos) (tJ w fun ρ K => f ρ fun x ρ1 => g ρ1 fun y ρ2 => rdr ρ2 x.stl fun dx => rdr ρ2 y.stl fun dy => sem dx dy fun r =>
      if r = true then h' ρ2 fun z ρ3 => rdr ρ3 y.stl fun dy' => rdr ρ3 z.stl fun dz => sem' dy' dz fun r' => K (.v (.bl r')) ρ3 else K (.v (.bl false)) ρ2) := by
  have hm : lastMarks [op, op'] [eb, ec] = false := mark_plain hp'
  refine (pe_chain ho ho' ha hb hc hm).imp fun σ H Q h => ?_
  obtain ⟨F, ρ, l, Kd, h, k⟩ := h
  refine tJ_settled l h fun x ρ1 F1 H1 v le1 l1 rx h1 => tJ_settled l1 h1 fun y ρ2 F2 H2 u le2 l2 ry h2 => ?_
  obtain ⟨dx, vx, h3⟩ := rdr_rel l2 (rx.mono le2) h2
  obtain ⟨dy, vy, h4⟩ := rdr_rel l2 ry h3
  refine ⟨F2, dx, dy, l2.le, vx, vy, _, h4, fun b q => ⟨b, rfl, ?_⟩⟩
  cases b with
  | true =>
    rw [if_pos rfl] at q ⊢
    refine tJ_settled l2 q fun z ρ3 F3 H3 t le3 l3 rz h5 => ?_
    obtain ⟨dy', vy', h6⟩ := rdr_rel l3 (ry.mono le3) h5
    obtain ⟨dz, vz, h7⟩ := rdr_rel l3 rz h6
    exact ⟨F3, dy', dz, l3.le, vy', vz, _, h7, fun b q => k (.v (.bl b)) ρ3 F3 H3 _ (le_tr (le_tr le1 le2) le3) l3 (Rep.bl' (G := w.G) (F := F3) b) q⟩
  | false =>
    rw [if_neg Bool.false_ne_true] at q ⊢
    exact k (.v (.bl false)) ρ2 F2 H2 _ (le_tr le1 le2) l2 (Rep.bl' (G := w.G) (F := F2) false) q
theorem jt_cmp2 {f g h' : Rho → KR → Prop} {op op' : CmpOp} {sem sem' : D → D → (Bool → Prop) → Prop} (ho : OpR X (compareOp op) (rC2 w.G sem)) (ho' : OpR X (compareOp op') (rC2 w.G sem')) (hp : plainE eb = true) (hp' : plainE ec = true)
    (ha : PE X ea (tJ w f)) (hb : PE X eb (tJ w g)) (hc : PE X ec (tJ w h')) :
    PT X (.Compare ea [op, op'] [eb, ec] pos) (tJT w fun ρ K => f ρ fun x ρ1 => g ρ1 fun y ρ2 => rdr ρ2 x.stl fun dx => rdr ρ2 y.stl fun dy => sem dx dy fun r =>
      if r = true then h' ρ2 fun z ρ3 => rdr ρ3 y.stl fun dy' => rdr ρ3 z.stl fun dz => sem' dy' dz fun r' => K r' ρ3 else K false ρ2) := by
  have hm : lastMarks [op, op'] [eb, ec] = false := mark_plain hp'
  refine (pt_chain ho ho' ha hb hc hm).imp fun σ H Q h => ?_
  obtain ⟨F, ρ, l, Kd, h, k⟩ := h
  refine tJ_settled l h fun x ρ1 F1 H1 v le1 l1 rx h1 => tJ_settled l1 h1 fun y ρ2 F2 H2 u le2 l2 ry h2 => ?_
  obtain ⟨dx, vx, h3⟩ := rdr_rel l2 (rx.mono le2) h2
  obtain ⟨dy, vy, h4⟩ := rdr_rel l2 ry h3
  refine ⟨F2, dx, dy, l2.le, vx, vy, _, h4, fun b q => ⟨b, rfl, ?_⟩⟩
  cases b with
  | true =>
    rw [if_pos rfl] at q ⊢
    refine tJ_settled l2 q fun z ρ3 F3 H3 t le3 l3 rz h5 => ?_
    obtain ⟨dy', vy', h6⟩ := rdr_rel l3 (ry.mono le3) h5
    obtain ⟨dz, vz, h7⟩ := rdr_rel l3 rz h6
    exact ⟨F3, dy', dz, l3.le, vy', vz, _, h7, fun b q => ⟨b, rfl, k b ρ3 F3 H3 (le_tr (le_tr le1 le2) le3) l3 q⟩⟩
  | false =>
    rw [if_neg Bool.false_ne_true] at q ⊢
    exact ⟨false, rfl, k false ρ2 F2 H2 (le_tr le1 le2) l2 q⟩
theorem j_const {v : V} {d : D} (h : PE X e (tC v)) (r : ∀ F, Rep w.G F v d) : PE X e (tJ w fun ρ K => K (.v d) ρ) := by
  refine h.imp fun σ H Q h => ?_
  obtain ⟨F, ρ, l, Kd, h, k⟩ := h
  exact k (.v d) ρ F H v le_rfl' l (r F) h
theorem j_var {i : Nat} {x : Str} (hN : X.N[i]? = some x) (hv : Vis X.env.scope x) (hd : (x == ("__debug__" : Str)) = false) (hcd : (x == ("__classdict__" : Str)) = false) :
    PE X (.Name x pos) (tJ w fun ρ K => match ρ[i]? with
      | some (.fz d) => K (.v d) ρ
      | some (.ow _ _) => K (.pl i) ρ
      | _ => False) := by
  refine (pe_var hN hv hd hcd).imp fun σ H Q h => ?_
  obtain ⟨F, ρ, l, Kd, h, k⟩ := h
  split at h
  · rename_i d e
    obtain ⟨v, es, rp⟩ := l.sl i _ e
    exact ⟨v, es, k (.v d) ρ F H v le_rfl' l rp h⟩
  · rename_i b xs e
    obtain ⟨a, vs, es, _⟩ := l.sl i _ e
    exact ⟨.ref a, es, k (.pl i) ρ F H _ le_rfl' l es h⟩
  · exact h.elim
theorem j_neg {f : Rho → KR → Prop} (ha : PE X ea (tJ w f)) : PE X (.UnaryOp .USub ea pos) (tJ w fun ρ K => f ρ fun x ρ1 => match x with
    | .v (.int i) => K (.v (.int (-i))) ρ1
    | _ => False) := by
  refine (pe_un un_neg ha).imp fun σ H Q h => ?_
  obtain ⟨F, ρ, l, Kd, h, k⟩ := h
  refine ⟨F, ρ, l, _, h, fun x ρ1 F1 H1 v le1 l1 rx q => ?_⟩
  split at q
  · rename_i i
    simp only [RelR, Rep] at rx
    subst rx
    exact ⟨i, rfl, k (.v (.int (-i))) ρ1 F1 H1 _ le1 l1 (Rep.int' (G := w.G) (F := F1) _) q⟩
  · exact q.elim
theorem j_and {f g : Rho → KR → Prop} {r : List Expr} (ha : PE X ea (tJ w f)) (hb : PE X (.BoolOp .And (eb :: r) pos) (tJ w g)) : PE X (.BoolOp .And (ea :: eb :: r) pos) (tJ w fun ρ K => f ρ fun x ρ1 => match x with
    | .v (.bl c) => if c = true then g ρ1 K else K (.v (.bl false)) ρ1
    | _ => False) := by
  refine (pe_and ha hb).imp fun σ H Q h => ?_
  obtain ⟨F, ρ, l, Kd, h, k⟩ := h
  refine ⟨F, ρ, l, _, h, fun x ρ1 F1 H1 v le1 l1 rx q => ?_⟩
  split at q
  · rename_i c
    simp only [RelR, Rep] at rx
    subst rx
    refine ⟨c, rfl, ?_⟩
    cases c with
    | true =>
      rw [if_pos rfl] at q ⊢
      exact ⟨F1, ρ1, l1, Kd, q, fun r ρ2 F2 H2 u le2 l2 rr q2 => k r ρ2 F2 H2 u (le_tr le1 le2) l2 rr q2⟩
    | false =>
      rw [if_neg Bool.false_ne_true] at q ⊢
      exact k (.v (.bl false)) ρ1 F1 H1 _ le1 l1 (Rep.bl' (G := w.G) (F := F1) false) q
  · exact q.elim
theorem j_or {f g : Rho → KR → Prop} {r : List Expr} (ha : PE X ea (tJ w f)) (hb : PE X (.BoolOp .Or (eb :: r) pos) (tJ w g)) : PE X (.BoolOp .Or (ea :: eb :: r) pos) (tJ w fun ρ K => f ρ fun x ρ1 => match x with
    | .v (.bl c) => if c = true then K (.v (.bl true)) ρ1 else g ρ1 K
    | _ => False) := by
  refine (pe_or ha hb).imp fun σ H Q h => ?_
  obtain ⟨F, ρ, l, Kd, h, k⟩ := h
  refine ⟨F, ρ, l, _, h, fun x ρ1 F1 H1 v le1 l1 rx q => ?_⟩
  split at q
  · rename_i c
    simp only [RelR, Rep] at rx
    subst rx
    refine ⟨c, rfl, ?_⟩
    cases c with
    | false =>
      rw [if_neg Bool.false_ne_true] at q ⊢
      exact ⟨F1, ρ1, l1, Kd, q, fun r ρ2 F2 H2 u le2 l2 rr q2 => k r ρ2 F2 H2 u (le_tr le1 le2) l2 rr q2⟩
    | true =>
      rw [if_pos rfl] at q ⊢
      exact k (.v (.bl true)) ρ1 F1 H1 _ le1 l1 (Rep.bl' (G := w.G) (F := F1) true) q
  · exact q.elim
theorem j_not {f : Rho → KR → Prop} (ha : PE X ea (tJ w f)) : PE X (.UnaryOp .Not ea pos) (tJ w fun ρ K => f ρ fun x ρ1 => match x with
    | .v (.bl c) => K (.v (.bl (!c))) ρ1
    | _ => False) := by
  refine (pe_not ha).imp fun σ H Q h => ?_
  obtain ⟨F, ρ, l, Kd, h, k⟩ := h
  refine ⟨F, ρ, l, _, h, fun x ρ1 F1 H1 v le1 l1 rx q => ?_⟩
  split at q
  · rename_i c
    simp only [RelR, Rep] at rx
    subst rx
    exact ⟨c, rfl, k (.v (.bl (!c))) ρ1 F1 H1 _ le1 l1 (Rep.bl' (G := w.G) (F := F1) _) q⟩
  · exact q.elim
theorem j_ife {f g : Rho → KR → Prop} {ft : Rho → (Bool → Rho → Prop) → Prop} (ht : PT X e (tJT w ft)) (ha : PE X ea (tJ w f)) (hb : PE X eb (tJ w g)) :
    PE X (.IfExp e ea eb pos) (tJ w fun ρ K => ft ρ fun c ρ1 => if c = true then f ρ1 K else g ρ1 K) := by
  refine (pe_ifExp ht ha hb).imp fun σ H Q h => ?_
  obtain ⟨F, ρ, l, Kd, h, k⟩ := h
  refine ⟨F, ρ, l, _, h, fun c ρ1 F1 H1 le1 l1 q => ?_⟩
  cases c with
  | true =>
    rw [if_pos rfl] at q ⊢
    exact ⟨F1, ρ1, l1, Kd, q, fun r ρ2 F2 H2 u le2 l2 rr q2 => k r ρ2 F2 H2 u (le_tr le1 le2) l2 rr q2⟩
  | false =>
    rw [if_neg Bool.false_ne_true] at q ⊢
    exact ⟨F1, ρ1, l1, Kd, q, fun r ρ2 F2 H2 u le2 l2 rr q2 => k r ρ2 F2 H2 u (le_tr le1 le2) l2 rr q2⟩
/-- tests -/
theorem jt_and {f g : Rho → (Bool → Rho → Prop) → Prop} {r : List Expr} (ha : PT X ea (tJT w f)) (hb : PW X (.BoolOp .And (eb :: r) pos) (tJT w g)) : PW X (.BoolOp .And (ea :: eb :: r) pos) (tJT w fun ρ K => f ρ fun c ρ1 => if c = true then g ρ1 K else K false ρ1) := by
  refine (pw_and ha hb).imp fun σ H Q h => ?_
  obtain ⟨F, ρ, l, Kd, h, k⟩ := h
  refine ⟨F, ρ, l, _, h, fun c ρ1 F1 H1 le1 l1 q => ?_⟩
  cases c with
  | true =>
    rw [if_pos rfl] at q ⊢
    exact ⟨F1, ρ1, l1, Kd, q, fun b ρ2 F2 H2 le2 l2 q2 => k b ρ2 F2 H2 (le_tr le1 le2) l2 q2⟩
  | false =>
    rw [if_neg Bool.false_ne_true] at q ⊢
    exact k false ρ1 F1 H1 le1 l1 q
theorem jt_or {f g : Rho → (Bool → Rho → Prop) → Prop} {r : List Expr} (ha : PT X ea (tJT w f)) (hb : PW X (.BoolOp .Or (eb :: r) pos) (tJT w g)) : PW X (.BoolOp .Or (ea :: eb :: r) pos) (tJT w fun ρ K => f ρ fun c ρ1 => if c = true then K true ρ1 else g ρ1 K) := by
  refine (pw_or ha hb).imp fun σ H Q h => ?_
  obtain ⟨F, ρ, l, Kd, h, k⟩ := h
  refine ⟨F, ρ, l, _, h, fun c ρ1 F1 H1 le1 l1 q => ?_⟩
  cases c with
  | false =>
    rw [if_neg Bool.false_ne_true] at q ⊢
    exact ⟨F1, ρ1, l1, Kd, q, fun b ρ2 F2 H2 le2 l2 q2 => k b ρ2 F2 H2 (le_tr le1 le2) l2 q2⟩
  | true =>
    rw [if_pos rfl] at q ⊢
    exact k true ρ1 F1 H1 le1 l1 q
theorem jt_not {f : Rho → (Bool → Rho → Prop) → Prop} (ha : PT X ea (tJT w f)) : PT X (.UnaryOp .Not ea pos) (tJT w fun ρ K => f ρ fun c ρ1 => K (!c) ρ1) := by
  refine (pt_not ha).imp fun σ H Q h => ?_
  obtain ⟨F, ρ, l, Kd, h, k⟩ := h
  exact ⟨F, ρ, l, _, h, fun c ρ1 F1 H1 le1 l1 q => k (!c) ρ1 F1 H1 le1 l1 q⟩
/-- the truth of a value -/
theorem jt_val {f : Rho → KR → Prop} (hG : w.G.K = X.K) (he : ∀ whole, isTrue e X.env whole = (do let v ← whole; standAt e.pos; holding [v] (truthy v))) (ha : PE X e (tJ w f)) :
    PT X e (tJT w fun ρ K => f ρ fun r ρ1 => rdr ρ1 r.stl fun d => truD d fun b => K b ρ1) := by
  refine (pt_truth ha he).imp fun σ H Q h => ?_
  obtain ⟨F, ρ, l, Kd, h, k⟩ := h
  refine tJ_settled l h fun x ρ1 F1 H1 v le1 l1 rx h1 => ?_
  obtain ⟨d, vd, h2⟩ := rdr_rel l1 rx h1
  obtain ⟨b, tv, q⟩ := tru_v hG l1.le vd h2
  exact ⟨b, tv, k b ρ1 F1 H1 le1 l1 q⟩
/-- arguments: each frozen -/
theorem ja_nil : PA X [] (tJA w fun ρ K => K [] ρ) := by
  refine pa_nil.imp fun σ H Q h => ?_
  obtain ⟨F, ρ, l, Kd, h, k⟩ := h
  exact k [] ρ F H [] le_rfl' l RepL.nil h
theorem ja_cons {f : Rho → KR → Prop} {g : Rho → (List D → Rho → Prop) → Prop} {es : List Expr} (hp : plainE e = true) (he : PE X e (tJ w f)) (hr : PA X es (tJA w g)) :
    PA X (e :: es) (tJA w fun ρ K => f ρ fun x ρ1 => frz ρ1 x.stl fun d ρ2 => g ρ2 fun ds ρ3 => K (d :: ds) ρ3) := by
  refine (pa_cons he hr (star_plain hp)).imp fun σ H Q h => ?_
  obtain ⟨F, ρ, l, Kd, h, k⟩ := h
  refine tJ_settled l h fun x ρ1 F1 H1 v le1 l1 rx h1 => ?_
  obtain ⟨d, F2, ρ2, le2, l2, rp, h2⟩ := frz_rel l1 rx h1
  exact ⟨F2, ρ2, l2, _, h2, fun ds ρ3 F3 H3 vs le3 l3 rl q => k (d :: ds) ρ3 F3 H3 (v :: vs) (le_tr (le_tr le1 le2) le3) l3 (RepL.cons (rp.mono le3) rl) q⟩
/-- .. held as they come -/
theorem jr_nil : PA X [] (tJR w fun ρ K => K [] ρ) := by
  refine pa_nil.imp fun σ H Q h => ?_
  obtain ⟨F, ρ, l, Kd, h, k⟩ := h
  exact k [] ρ F H [] le_rfl' l .nil h
theorem jr_cons {f : Rho → KR → Prop} {g : Rho → (List R → Rho → Prop) → Prop} {es : List Expr} (hp : plainE e = true) (he : PE X e (tJ w f)) (hr : PA X es (tJR w g)) :
    PA X (e :: es) (tJR w fun ρ K => f ρ fun x ρ1 => g ρ1 fun rs ρ2 => K (x.stl :: rs) ρ2) := by
  refine (pa_cons he hr (star_plain hp)).imp fun σ H Q h => ?_
  obtain ⟨F, ρ, l, Kd, h, k⟩ := h
  refine tJ_settled l h fun x ρ1 F1 H1 v le1 l1 rx h1 => ?_
  exact ⟨F1, ρ1, l1, _, h1, fun rs ρ2 F2 H2 vs le2 l2 rl q => k (x.stl :: rs) ρ2 F2 H2 (v :: vs) (le_tr le1 le2) l2 (.cons (rx.mono le2) rl) q⟩
theorem rdrs_rel {F H : Hp} {σ : St} {ρ : Rho} (l : Rl w F H σ ρ) : ∀ {vs : List V} {rs : List R} {K : List D → Prop}, RelSs w F σ vs rs → rdrs ρ rs K → ∃ ds, Paired (RdV w.G F H) vs ds ∧ K ds
  | _, _, K, .nil, h => ⟨[], .nil, h⟩
  | _, _, K, .cons a b, h => by
    obtain ⟨d, vd, h1⟩ := rdr_rel l a h
    obtain ⟨ds, vds, h2⟩ := rdrs_rel l b h1
    exact ⟨d :: ds, .cons vd vds, h2⟩
theorem j_tup {es : List Expr} {k2 : Nat} {f : Rho → (List D → Rho → Prop) → Prop} (h : PA X es (tJA w f)) : PE X (.Tuple es k2 pos) (tJ w fun ρ K => f ρ fun ds ρ1 => ds.length ≤ sizeLine ∧ K (.v (.tup ds)) ρ1) := by
  refine (pe_tup h).imp fun σ H Q h => ?_
  obtain ⟨F, ρ, l, Kd, h, k⟩ := h
  refine ⟨F, ρ, l, _, h, fun ds ρ1 F1 H1 vs le1 l1 rl q => ⟨by rw [rl.length]; exact q.1, fun p n => ?_⟩⟩
  have g := Grow.new l1.le n (.tup vs)
  exact k (.v (.tup ds)) ρ1 _ _ _ (le_tr le1 g.fm) (l1.grow g) (Rep.tup' (SqT.of upd_same) (rl.mono g.fm)) q.2
theorem j_lst {es : List Expr} {f : Rho → (List D → Rho → Prop) → Prop} (h : PA X es (tJA w f)) : PE X (.List es pos) (tJ w fun ρ K => f ρ fun ds ρ1 => ds.length ≤ sizeLine ∧ K (.n ds) ρ1) := by
  refine (pe_lst h).imp fun σ H Q h => ?_
  obtain ⟨F, ρ, l, Kd, h, k⟩ := h
  refine ⟨F, ρ, l, _, h, fun ds ρ1 F1 H1 vs le1 l1 rl q => ⟨by rw [rl.length]; exact q.1, fun p n => ?_⟩⟩
  have g := Grow.alloc l1.le n (.lst vs)
  exact k (.n ds) ρ1 _ _ _ le1 (l1.grow g) ⟨p, vs, rfl, upd_same, rl, le_none l1.le n, l1.al p n, l1.freshFr n, l1.free n⟩ q.2
/-- slices -/
theorem jo_no : PO X none (tJO w fun ρ K => K none ρ) := by
  refine po_none.imp fun σ H Q h => ?_
  obtain ⟨F, ρ, l, Kd, h, k⟩ := h
  exact k none ρ F H le_rfl' l h
theorem jo_so {f : Rho → KR → Prop} (h : PE X e (tJ w f)) : PO X (some e) (tJO w fun ρ K => f ρ fun x ρ1 => match x with
    | .v (.int i) => K (some i) ρ1
    | _ => False) := by
  refine (po_some h).imp fun σ H Q h => ?_
  obtain ⟨F, ρ, l, Kd, h, k⟩ := h
  refine ⟨F, ρ, l, _, h, fun x ρ1 F1 H1 v le1 l1 rx q => ?_⟩
  split at q
  · rename_i i
    simp only [RelR, Rep] at rx
    subst rx
    exact ⟨i, rfl, k (some i) ρ1 F1 H1 le1 l1 q⟩
  · exact q.elim
theorem j_sl {f : Rho → KR → Prop} {g h' : Rho → (Option Int → Rho → Prop) → Prop} {lo hi : Option Expr} {p2 : Pos} (hG : w.G.K = X.K) (ha : PE X ea (tJ w f)) (hl : PO X lo (tJO w g)) (hh : PO X hi (tJO w h')) :
    PE X (.Subscript ea (.Slice lo hi none p2) pos) (tJ w fun ρ K => f ρ fun x ρ1 => g ρ1 fun l ρ2 => h' ρ2 fun h ρ3 => rdr ρ3 x.stl fun dx => slD dx l h fun r => K (R.ofRes r) ρ3) := by
  refine (pe_slice (sl_D hG) ha hl hh).imp fun σ H Q h => ?_
  obtain ⟨F, ρ, l, Kd, h, k⟩ := h
  refine tJ_settled l h fun x ρ1 F1 H1 v le1 l1 rx h1 => ⟨F1, ρ1, l1, _, h1, fun lo ρ2 F2 H2 le2 l2 h2 => ⟨F2, ρ2, l2, _, h2, fun hi ρ3 F3 H3 le3 l3 h3 => ?_⟩⟩
  obtain ⟨dx, vx, h4⟩ := rdr_rel l3 (rx.mono (le_tr le2 le3)) h3
  exact ⟨F3, dx, l3.le, vx, _, h4, fun v' r F' H' gr rr q => k _ ρ3 F' H' v' (le_tr (le_tr (le_tr le1 le2) le3) gr.fm) (l3.grow gr) (res_rel l3 gr rr) q⟩
end
end DL

/-! DT: what is walked, targets, comprehensions, calls. -/
namespace DL
open PySem L2

section
variable {G : Gd} {F : Hp}
theorem items_lst {K : PySem.W.Frag} {a : Addr} {vs : List V} {ds : List D} (ha : F a = some (.lst vs)) (l : RepL G F vs ds) : Items G (Itl K a) ds F := fun i F1 H1 le1 le2 hi => by
  have q : SqL K H1 a vs := SqL.of (le2 _ _ (le1 _ _ ha))
  refine ⟨fun e => ⟨vs, q, by rw [l.length, e]; exact Nat.le_refl _⟩, fun d hd => ?_⟩
  obtain ⟨v, hv, r⟩ := l.get hd
  refine ⟨⟨vs, v, q, hv⟩, fun x H2 y => ?_⟩
  obtain ⟨e, y⟩ := y
  subst e
  have z := y vs q
  rw [hv] at z
  cases z
  exact ⟨F1, .refl le2, r.mono le1⟩
theorem items_tup {K : PySem.W.Frag} {a : Addr} {vs : List V} {ds : List D} (ha : SqT K F a vs) (l : RepL G F vs ds) : Items G (Itt K a) ds F := fun i F1 H1 le1 le2 hi => by
  have q : SqT K H1 a vs := sqT_mono le2 (sqT_mono le1 ha)
  refine ⟨fun e => ⟨vs, q, by rw [l.length, e]; exact Nat.le_refl _⟩, fun d hd => ?_⟩
  obtain ⟨v, hv, r⟩ := l.get hd
  refine ⟨⟨vs, v, q, hv⟩, fun x H2 y => ?_⟩
  obtain ⟨e, y⟩ := y
  subst e
  have z := y vs q
  rw [hv] at z
  cases z
  exact ⟨F1, .refl le2, r.mono le1⟩
theorem items_str (z : Str) : Items G (Its z) (z.cps.toList.map fun c => D.str ⟨#[c]⟩) F := fun i F1 H1 le1 le2 hi => by
  refine ⟨fun e => ?_, fun d hd => ?_⟩
  · rw [List.length_map, Array.length_toList] at e
    show z.cps.size ≤ i
    omega
  · rw [List.getElem?_map] at hd
    cases hc : z.cps.toList[i]? with
    | none => rw [hc] at hd; cases hd
    | some c =>
      rw [hc] at hd
      cases hd
      rw [Array.getElem?_toList] at hc
      refine ⟨(Array.getElem?_eq_some_iff.mp hc).1, fun x H2 y => ?_⟩
      obtain ⟨e, c', hc', ex⟩ := y
      subst e
      rw [hc] at hc'
      cases hc'
      subst ex
      exact ⟨F1, .refl le2, Rep.str' _⟩
theorem items_rng (lo : Int) (n : Nat) : Items G (Itr lo n) ((List.range n).map fun (k : Nat) => D.int (lo + (k : Int))) F := fun i F1 H1 le1 le2 hi => by
  refine ⟨fun e => ?_, fun d hd => ?_⟩
  · rw [List.length_map, List.length_range] at e
    show n ≤ i
    omega
  · rw [List.getElem?_map] at hd
    cases hc : (List.range n)[i]? with
    | none => rw [hc] at hd; cases hd
    | some c =>
      rw [hc] at hd
      cases hd
      obtain ⟨h1, h2⟩ := List.getElem?_eq_some_iff.mp hc
      rw [List.getElem_range] at h2
      subst h2
      rw [List.length_range] at h1
      refine ⟨h1, fun x H2 y => ?_⟩
      obtain ⟨e, ex⟩ := y
      subst e
      subst ex
      exact ⟨F1, .refl le2, Rep.int' _⟩
theorem items_zip {K : PySem.W.Frag} {a b : Addr} {vs us : List V} {ds es : List D} (ha : F a = some (.lst vs)) (hb : F b = some (.lst us)) (la : RepL G F vs ds) (lb : RepL G F us es) : Items G (Itz K a b) (List.zipWith (fun x y => D.tup [x, y]) ds es) F := fun i F1 H1 le1 le2 hi => by
  have qa : SqL K H1 a vs := SqL.of (le2 _ _ (le1 _ _ ha))
  have qb : SqL K H1 b us := SqL.of (le2 _ _ (le1 _ _ hb))
  refine ⟨fun e => ⟨vs, us, qa, qb, ?_⟩, fun d hd => ?_⟩
  · rw [List.length_zipWith] at e
    rw [la.length, lb.length]
    omega
  · rw [List.getElem?_zipWith] at hd
    cases h1 : ds[i]? with
    | none => rw [h1] at hd; simp at hd
    | some x1 =>
      cases h2 : es[i]? with
      | none => rw [h1, h2] at hd; simp at hd
      | some y1 =>
        rw [h1, h2] at hd
        simp only [Option.some.injEq] at hd
        subst hd
        obtain ⟨v, hv, r1⟩ := la.get h1
        obtain ⟨u, hu, r2⟩ := lb.get h2
        refine ⟨⟨vs, us, v, u, qa, qb, hv, hu⟩, fun x H2 y => ?_⟩
        obtain ⟨T, x', y', ex, hn, e2, q1, q2⟩ := y
        have z1 := q1 vs qa
        have z2 := q2 us qb
        rw [hv] at z1
        rw [hu] at z2
        cases z1
        cases z2
        subst ex
        subst e2
        have gr := Grow.new le2 hn (.tup [v, u])
        exact ⟨_, gr, Rep.tup' (SqT.of upd_same) (RepL.cons (r1.mono (le_tr le1 gr.fm)) (RepL.cons (r2.mono (le_tr le1 gr.fm)) RepL.nil))⟩
end

section
variable {S : Sg} {X : Cx} {w : Wd} {sc : Scope} {xp : XP} {e ea eb ec tg : Expr} {pos p : Pos}
/-- a list, a tuple, a text: by its value -/
theorem pi_any {tl : TE} (hl : PE X e tl) : PI X tg e (fun σ H R => tl σ H fun x H1 => (∃ a xs, x = .ref a ∧ SqL X.K H1 a xs ∧ R (Itl X.K a) H1) ∨ (∃ a xs, x = .ref a ∧ SqT X.K H1 a xs ∧ R (Itt X.K a) H1) ∨ ∃ z, x = .str z ∧ R (Its z) H1) := by
  refine ⟨fun pins s σ H R I hyp => thn (hl.run pins s σ H _ I hyp) fun v s1 res => ?_⟩
  obtain ⟨x, H1, J, rv, alt⟩ := res
  rcases alt with ⟨a, xs, ex, hq, go⟩ | ⟨a, xs, ex, hq, go⟩ | ⟨z, ex, go⟩
  · subst ex
    cases rv
    obtain ⟨its, r2, pl, _⟩ := J.list hq
    exact wpAny_pyIter_list pl.isList (pi_one (tk := s1.toks) J _ (turn_list a _) ⟨_, Heap.get?_push_size _ rfl, rfl, rfl⟩ go)
  · subst ex
    cases rv
    obtain ⟨its, r2, pl, _⟩ := J.tuple hq
    exact wpAny_pyIter_tuple (show s1.heap.IsTuple a its.toArray from pl) (pi_one (tk := s1.toks) J _ (turn_tuple a _) ⟨_, Heap.get?_push_size _ rfl, rfl, rfl⟩ go)
  · subst ex
    obtain ⟨tk, rfl⟩ := rv
    cases wide : z.cps.all (· < 128) with
    | false => exact wpAny_pyIter_wide wide (pi_one (tk := s1.toks) J _ (turn_str _ z tk "str_iterator" (.inr rfl)) ⟨_, Heap.get?_push_size _ rfl, rfl, rfl⟩ go)
    | true => exact wpAny_pyIter_ascii wide (pi_one (tk := s1.toks) J _ (turn_str _ z tk "str_ascii_iterator" (.inl rfl)) ⟨_, Heap.get?_push_size _ rfl, rfl, rfl⟩ go)
theorem ji_seq {f : Rho → KR → Prop} (hG : w.G.K = X.K) (h : PE X e (tJ w f)) : PI X tg e (tJI w fun ρ K => f ρ fun x ρ1 => frz ρ1 x.stl fun d ρ2 => itemsD d fun ds => K ds ρ2) := by
  refine (pi_any h).imp fun σ H R h => ?_
  obtain ⟨F, ρ, l, Kd, h, k⟩ := h
  refine tJ_settled l h fun x ρ1 F1 H1 v le1 l1 rx h1 => ?_
  obtain ⟨d, F2, ρ2, le2, l2, rp, h2⟩ := frz_rel l1 rx h1
  cases d with
  | lst xs =>
    simp only [Rep] at rp
    obtain ⟨a, vs, rfl, ha, rl⟩ := rp
    exact .inl ⟨a, vs, rfl, SqL.of (l2.le _ _ ha), k _ ρ2 F2 H1 _ (le_tr le1 le2) l2 (items_lst ha rl) h2⟩
  | tup xs =>
    simp only [Rep] at rp
    obtain ⟨a, vs, rfl, ha, rl⟩ := rp
    rw [hG] at ha
    exact .inr (.inl ⟨a, vs, rfl, sqT_mono l2.le ha, k _ ρ2 F2 H1 _ (le_tr le1 le2) l2 (items_tup ha rl) h2⟩)
  | str z =>
    simp only [Rep] at rp
    subst rp
    exact .inr (.inr ⟨z, rfl, k _ ρ2 F2 H1 _ (le_tr le1 le2) l2 (items_str z) h2⟩)
  | _ => exact (show False from h2).elim
theorem ji_rng1 {f : Rho → KR → Prop} (hp : plainE e = true) (hg : Gl X "range") (hm : X.mg "range" = none) (h : PE X e (tJ w f)) :
    PI X tg (.Call (.Name "range" p) [e] [] pos) (tJI w fun ρ K => f ρ fun x ρ1 => match x with
      | .v (.int n) => (-(2 ^ 62) ≤ n ∧ n < 2 ^ 62) ∧ K ((List.range n.toNat).map fun (k : Nat) => D.int (k : Int)) ρ1
      | _ => False) := by
  refine (pi_range1 hg hm (pa_cons h pa_nil (star_plain hp)) (star_plain hp)).imp fun σ H R h => ?_
  obtain ⟨F, ρ, l, Kd, h, k⟩ := h
  refine ⟨F, ρ, l, _, h, fun x ρ1 F1 H1 v le1 l1 rx q => ?_⟩
  split at q
  · rename_i n
    simp only [RelR, Rep] at rx
    subst rx
    refine ⟨n, rfl, q.1.1, q.1.2, k _ ρ1 F1 H1 _ le1 l1 ?_ q.2⟩
    have e0 : (fun (k : Nat) => D.int (k : Int)) = fun (k : Nat) => D.int (0 + (k : Int)) := by funext k; rw [Int.zero_add]
    rw [e0]
    exact items_rng 0 n.toNat
  · exact q.elim
theorem ji_rng2 {f g : Rho → KR → Prop} (hp : plainE ea = true) (hp2 : plainE eb = true) (hg : Gl X "range") (hm : X.mg "range" = none) (ha : PE X ea (tJ w f)) (hb : PE X eb (tJ w g)) :
    PI X tg (.Call (.Name "range" p) [ea, eb] [] pos) (tJI w fun ρ K => f ρ fun x ρ1 => g ρ1 fun y ρ2 => match x, y with
      | .v (.int i), .v (.int j) => (-(2 ^ 62) ≤ i ∧ i < 2 ^ 62 ∧ -(2 ^ 62) ≤ j ∧ j < 2 ^ 62) ∧ K ((List.range (j - i).toNat).map fun (k : Nat) => D.int (i + (k : Int))) ρ2
      | _, _ => False) := by
  refine (pi_range2 hg hm (pa_cons ha (pa_cons hb pa_nil (star_plain hp2)) (star_plain hp)) (by rw [star_plain hp, star_plain hp2]; rfl) (star_plain hp2)).imp fun σ H R h => ?_
  obtain ⟨F, ρ, l, Kd, h, k⟩ := h
  refine ⟨F, ρ, l, _, h, fun x ρ1 F1 H1 v le1 l1 rx q => ⟨F1, ρ1, l1, _, q, fun y ρ2 F2 H2 u le2 l2 ry q2 => ?_⟩⟩
  split at q2
  · rename_i i j
    simp only [RelR, Rep] at rx ry
    subst rx
    subst ry
    exact ⟨i, j, rfl, q2.1, k _ ρ2 F2 H2 _ (le_tr le1 le2) l2 (items_rng i _) q2.2⟩
  · exact q2.elim
theorem ji_zip {f g : Rho → KR → Prop} {elts : List Expr} {kk : Nat} {tpos : Pos} (hp : plainE ea = true) (hp2 : plainE eb = true) (hg : Gl X "zip") (hm : X.mg "zip" = none) (ha : PE X ea (tJ w f)) (hb : PE X eb (tJ w g)) :
    PI X (.Tuple elts kk tpos) (.Call (.Name "zip" p) [ea, eb] [] pos) (tJI w fun ρ K => f ρ fun x ρ1 => frz ρ1 x.stl fun dx ρ2 => g ρ2 fun y ρ3 => frz ρ3 y.stl fun dy ρ4 => zipD dx dy fun ds => K ds ρ4) := by
  refine (pi_zip hg hm (pa_cons ha (pa_cons hb pa_nil (star_plain hp2)) (star_plain hp)) (star_plain hp) (by rw [star_plain hp2]; rfl)).imp fun σ H R h => ?_
  obtain ⟨F, ρ, l, Kd, h, k⟩ := h
  refine tJ_settled l h fun x ρ1 F1 H1 v le1 l1 rx h1 => ?_
  obtain ⟨dx, F2, ρ2, le2, l2, rp, h2⟩ := frz_rel l1 rx h1
  refine tJ_settled l2 h2 fun y ρ3 F3 H3 u le3 l3 ry h3 => ?_
  obtain ⟨dy, F4, ρ4, le4, l4, rp2, h4⟩ := frz_rel l3 ry h3
  have rp := rp.mono (le_tr le3 le4)
  cases dx with
  | lst xs =>
    cases dy with
    | lst ys =>
      simp only [Rep] at rp rp2
      obtain ⟨a, vs, rfl, hqa, ra⟩ := rp
      obtain ⟨b, us, rfl, hqb, rb⟩ := rp2
      exact ⟨a, b, vs, us, rfl, SqL.of (l4.le _ _ hqa), SqL.of (l4.le _ _ hqb), k _ ρ4 F4 H3 _ (le_tr (le_tr (le_tr le1 le2) le3) le4) l4 (items_zip hqa hqb ra rb) h4⟩
    | _ => exact (show False from h4).elim
  | _ => exact (show False from h4).elim

/-! ### targets -/
/-- the slots that change are told -/
def Only' (vs : List Nat) (σ σ' : St) : Prop := σ'.length = σ.length ∧ ∀ i, i ∉ vs → σ'[i]? = σ[i]?
def gJ (G : Gd) (f : D → Rho → (Rho → Prop) → Prop) (ok : List Nat → Bool) : TG := fun v σ H Q => ∃ w F ρ d, w.G = G ∧ Rl w F H σ ρ ∧ Rep G F v d ∧ ∃ Kd : Rho → Prop, f d ρ Kd ∧ ∀ ρ' σ', Rl w F H σ' ρ' → (∀ vs, ok vs = true → Only' vs σ σ') → Kd ρ' → Q σ' H
def gsJ (G : Gd) (f : List D → Rho → (Rho → Prop) → Prop) (ok : List Nat → Bool) : TGs := fun us σ H Q => ∃ w F ρ ds, w.G = G ∧ Rl w F H σ ρ ∧ RepL G F us ds ∧ ∃ Kd : Rho → Prop, f ds ρ Kd ∧ ∀ ρ' σ', Rl w F H σ' ρ' → (∀ vs, ok vs = true → Only' vs σ σ') → Kd ρ' → Q σ' H
theorem _root_.L2.PG.imp {X : Cx} {e : Expr} {t t' : TG} (h : PG X e t) (k : ∀ v σ H Q, t' v σ H Q → t v σ H Q) : PG X e t' := ⟨fun pins s σ H v u Q I r q => h.run pins s σ H v u Q I r (k v σ H Q q)⟩
theorem _root_.L2.PGs.imp {X : Cx} {e : List Expr} {t t' : TGs} (h : PGs X e t) (k : ∀ v σ H Q, t' v σ H Q → t v σ H Q) : PGs X e t' := ⟨fun pins s σ H v u Q I r q => h.run pins s σ H v u Q I r (k v σ H Q q)⟩
theorem par_open {F H : Hp} {σ : St} {ρ : Rho} (l : Rl w F H σ ρ) {i : Nat} (h : open? ρ i = true) : w.par i = none := by
  cases q : w.par i with
  | none => rfl
  | some a =>
    obtain ⟨xs, e⟩ := l.pr i a q
    unfold open? at h
    rw [e] at h
    cases h
theorem par_notOw {F H : Hp} {σ : St} {ρ : Rho} (l : Rl w F H σ ρ) {i : Nat} (h : notOw ρ i = true) : w.par i = none := by
  cases q : w.par i with
  | none => rfl
  | some a =>
    obtain ⟨xs, e⟩ := l.pr i a q
    unfold notOw at h
    rw [e] at h
    cases h
theorem tgs_len {N : List Str} : ∀ {ts : Tgs} {es : List Expr} {env : Env}, mGs N sc ts es = true → (assignEach es env).length = es.length ∧ (assignEach es env).findIdx? (·.1) = none
  | .nil, [], env, _ => ⟨rfl, rfl⟩
  | .nil, _ :: _, _, h => by simp [mGs] at h
  | .cons t r, [], _, h => by simp [mGs] at h
  | .cons t r, e :: es, env, h => by
    simp only [mGs, Bool.and_eq_true] at h
    obtain ⟨h1, h2⟩ := tgs_len (env := env) h.2
    have e0 : assignEach (e :: es) env = (false, assign e env) :: assignEach es env := by
      cases e <;> first | rfl | exact absurd h.1.1 (by simp [plainE])
    rw [e0]
    refine ⟨by simp [h1], ?_⟩
    rw [List.findIdx?_cons]
    simp [h2]
mutual
theorem tgD_some : ∀ (t : Tg) (d : D) (ρ : Rho) (K : Rho → Prop), tgD t d ρ K → ∃ ρ1, K ρ1
  | .nm i, d, ρ, K, h => by
    simp only [tgD] at h
    exact ⟨_, h.2⟩
  | .tp ts, d, ρ, K, h => by
    cases d with
    | tup xs =>
      simp only [tgD] at h
      exact tgsD_some ts xs ρ K h
    | _ => simp only [tgD] at h
theorem tgsD_some : ∀ (ts : Tgs) (ds : List D) (ρ : Rho) (K : Rho → Prop), tgsD ts ds ρ K → ∃ ρ1, K ρ1
  | .nil, [], ρ, K, h => by
    simp only [tgsD] at h
    exact ⟨_, h⟩
  | .nil, _ :: _, ρ, K, h => by simp only [tgsD] at h
  | .cons t r, [], ρ, K, h => by simp only [tgsD] at h
  | .cons t r, d :: ds, ρ, K, h => by
    simp only [tgsD] at h
    obtain ⟨ρ1, h1⟩ := tgD_some t d ρ _ h
    exact tgsD_some r ds ρ1 K h1
end
theorem tgs_count {N : List Str} : ∀ (ts : Tgs) (es : List Expr) (xs : List D) (ρ : Rho) (K : Rho → Prop), mGs N sc ts es = true → tgsD ts xs ρ K → xs.length = es.length
  | .nil, [], [], _, _, _, _ => rfl
  | .nil, [], _ :: _, _, _, _, q => by simp only [tgsD] at q
  | .nil, _ :: _, _, _, _, h, _ => by simp [mGs] at h
  | .cons t r, [], _, _, _, h, _ => by simp [mGs] at h
  | .cons t r, e :: es, [], _, _, _, q => by simp only [tgsD] at q
  | .cons t r, e :: es, x :: xs, ρ, K, h, q => by
    simp only [tgsD] at q
    simp only [mGs, Bool.and_eq_true] at h
    obtain ⟨ρ1, q1⟩ := tgD_some t x ρ _ q
    rw [List.length_cons, List.length_cons, tgs_count r es xs ρ1 K h.2 q1]
mutual
theorem g_ok {S : Sg} {N : List Str} (g : XG S w.G sc X) (hN : N = X.N) : ∀ (t : Tg) (e : Expr), mG N sc t e = true → PG X e (gJ w.G (fun d ρ K => tgD t d ρ K) fun vs => tgIn vs t)
  | .nm i, e, h => by
    cases e with
    | Name x p =>
      simp only [mG, Bool.and_eq_true, decide_eq_true_eq] at h
      obtain ⟨hx, hf⟩ := g.loc h.2
      subst hN
      refine (pg_name g.nd h.1 hx hf).imp fun v σ H Q q => ?_
      obtain ⟨w', F, ρ, d, eG, l, rp, Kd, q, k⟩ := q
      simp only [tgD] at q
      refine k _ _ (l.set (par_open l q.1) (by rw [eG]; exact rp)) (fun vs hv => ⟨List.length_set, fun j hj => ?_⟩) q.2
      have hv : vs.contains i = true := by simpa only [tgIn] using hv
      rw [List.getElem?_set_ne]
      intro z
      subst z
      exact hj (List.contains_iff_mem.mp hv)
    | _ => simp [mG] at h
  | .tp ts, e, h => by
    cases e with
    | Tuple es k p =>
      simp only [mG] at h
      obtain ⟨h1, h2⟩ := tgs_len (env := X.env) h
      refine (pg_tup g.calm (gs_ok g hN ts es h) h1 h2).imp fun v σ H Q q => ?_
      obtain ⟨w', F, ρ, d, eG, l, rp, Kd, q, k⟩ := q
      cases d with
      | tup xs =>
        simp only [Rep] at rp
        simp only [tgD] at q
        obtain ⟨a, vs, rfl, ha, rl⟩ := rp
        rw [g.K] at ha
        refine ⟨a, vs, rfl, sqT_mono l.le ha, ?_, w', F, ρ, xs, eG, l, rl, Kd, q, fun ρ' σ' l' o => k ρ' σ' l' fun us hu => o us (by simpa only [tgIn] using hu)⟩
        rw [rl.length]
        exact tgs_count ts es xs ρ Kd h q
      | _ => simp only [tgD] at q
    | _ => simp [mG] at h
theorem gs_ok {S : Sg} {N : List Str} (g : XG S w.G sc X) (hN : N = X.N) : ∀ (ts : Tgs) (es : List Expr), mGs N sc ts es = true → PGs X es (gsJ w.G (fun d ρ K => tgsD ts d ρ K) fun vs => tgsIn vs ts)
  | .nil, [], h => by
    refine pgs_nil.imp fun v σ H Q q => ?_
    obtain ⟨w', F, ρ, d, eG, l, rp, Kd, q, k⟩ := q
    cases d with
    | nil =>
      simp only [tgsD] at q
      exact ⟨RepL.nil_inv rp, k _ _ l (fun vs _ => ⟨rfl, fun _ _ => rfl⟩) q⟩
    | cons _ _ => simp only [tgsD] at q
  | .nil, _ :: _, h => by simp [mGs] at h
  | .cons t r, [], h => by simp [mGs] at h
  | .cons t r, e :: es, h => by
    simp only [mGs, Bool.and_eq_true] at h
    have e0 : (assignEach (e :: es) X.env).map (·.2) = assign e X.env :: (assignEach es X.env).map (·.2) := by
      cases e <;> first | rfl | exact absurd h.1.1 (by simp [plainE])
    refine (pgs_cons (g_ok g hN t e h.1.2) (gs_ok g hN r es h.2) e0).imp fun v σ H Q q => ?_
    obtain ⟨w', F, ρ, d, eG, l, rp, Kd, q, k⟩ := q
    cases d with
    | nil => simp only [tgsD] at q
    | cons d ds =>
      obtain ⟨v1, vr, rfl, r1, r2⟩ := RepL.inv rp
      simp only [tgsD] at q
      refine ⟨v1, vr, rfl, w', F, ρ, d, eG, l, r1, _, q, fun ρ1 σ1 l1 o1 q1 => ⟨w', F, ρ1, ds, eG, l1, r2, Kd, q1, fun ρ2 σ2 l2 o2 q2 => k ρ2 σ2 l2 (fun vs hv => ?_) q2⟩⟩
      simp only [tgsIn, Bool.and_eq_true] at hv
      obtain ⟨a1, a2⟩ := o1 vs hv.1
      obtain ⟨b1, b2⟩ := o2 vs hv.2
      exact ⟨b1.trans a1, fun i hi => (b2 i hi).trans (a2 i hi)⟩
end
end
end DL

/-! DU: comprehensions, calls of defs and built-ins. -/
namespace DL
open PySem L2

theorem wipe_get (σ : St) (j : Nat) : ∀ vs : List Nat, (wipe σ vs)[j]? = if j ∈ vs ∧ j < σ.length then some none else σ[j]?
  | [] => by simp [wipe]
  | i :: r => by
    show ((wipe σ r).set i none)[j]? = _
    by_cases hj : i = j
    · subst hj
      by_cases hl : i < σ.length
      · rw [List.getElem?_set_self (by rw [wipe_length]; exact hl), if_pos ⟨List.mem_cons_self, hl⟩]
      · rw [if_neg (fun z => hl z.2), List.getElem?_eq_none (by rw [List.length_set, wipe_length]; omega), List.getElem?_eq_none (by omega)]
    · rw [List.getElem?_set_ne hj, wipe_get σ j r]
      by_cases hm : j ∈ r ∧ j < σ.length
      · rw [if_pos hm, if_pos ⟨List.mem_cons_of_mem _ hm.1, hm.2⟩]
      · rw [if_neg hm, if_neg]
        rintro ⟨h1, h2⟩
        rcases List.mem_cons.mp h1 with z | z
        · exact hj z.symm
        · exact hm ⟨z, h2⟩
theorem wipeR_length (ρ : Rho) : ∀ vs : List Nat, (wipeR ρ vs).length = ρ.length
  | [] => rfl
  | i :: r => by
    show ((wipeR ρ r).set i .no).length = _
    rw [List.length_set, wipeR_length ρ r]
theorem unwipe_length (ρ1 ρ2 : Rho) : ∀ vs : List Nat, (unwipe ρ1 ρ2 vs).length = ρ2.length
  | [] => rfl
  | i :: r => by
    show ((unwipe ρ1 ρ2 r).set i _).length = _
    rw [List.length_set, unwipe_length ρ1 ρ2 r]
theorem unwipe_get (ρ1 ρ2 : Rho) (j : Nat) : ∀ vs : List Nat, (unwipe ρ1 ρ2 vs)[j]? = if j ∈ vs ∧ j < ρ2.length then some (ρ1.getD j .no) else ρ2[j]?
  | [] => by simp [unwipe]
  | i :: r => by
    show ((unwipe ρ1 ρ2 r).set i (ρ1.getD i .no))[j]? = _
    by_cases hj : i = j
    · subst hj
      by_cases hl : i < ρ2.length
      · rw [List.getElem?_set_self (by rw [unwipe_length]; exact hl), if_pos ⟨List.mem_cons_self, hl⟩]
      · rw [if_neg (fun z => hl z.2), List.getElem?_eq_none (by rw [List.length_set, unwipe_length]; omega), List.getElem?_eq_none (by omega)]
    · rw [List.getElem?_set_ne hj, unwipe_get ρ1 ρ2 j r]
      by_cases hm : j ∈ r ∧ j < ρ2.length
      · rw [if_pos hm, if_pos ⟨List.mem_cons_of_mem _ hm.1, hm.2⟩]
      · rw [if_neg hm, if_neg]
        rintro ⟨h1, h2⟩
        rcases List.mem_cons.mp h1 with z | z
        · exact hj z.symm
        · exact hm ⟨z, h2⟩
section
variable {w : Wd} {F F' H H' : Hp} {σ : St} {ρ ρ' : Rho}
theorem Rl.wipeL (l : Rl w F H σ ρ) : ∀ vs : List Nat, vs.all (notOw ρ) = true → Rl w F H (L2.wipe σ vs) (wipeR ρ vs)
  | [], _ => l
  | i :: r, h => by
    rw [List.all_cons, Bool.and_eq_true] at h
    exact (Rl.wipeL l r h.2).wipe (par_notOw l h.1)
theorem Rl.unwipeL {F1 H1 : Hp} {ρ1 : Rho} (l1 : Rl w F1 H1 σ ρ1) {vs : List Nat} (hv : vs.all (notOw ρ1) = true) {fr' : Addr → Option HO} (l : Rl { w with fr := fr' } F' H' (L2.wipe σ vs) ρ') (le : Le F1 F') :
    Rl { w with fr := fr' } F' H' σ (unwipe ρ1 ρ' vs) := by
  have hlen : ρ'.length = σ.length := by rw [← l.len, wipe_length]
  have hlen1 : ρ1.length = σ.length := l1.len.symm
  have gd : ∀ {j}, j ∈ vs → j < ρ'.length → ∃ s, ρ1[j]? = some s ∧ ρ1.getD j .no = s ∧ ∀ b xs, s ≠ .ow b xs := fun {j} hj hl => by
    have hl1 : j < ρ1.length := by omega
    refine ⟨ρ1[j], List.getElem?_eq_getElem hl1, by simp [List.getD, hl1], fun b xs z => ?_⟩
    have q := List.all_eq_true.mp hv j hj
    unfold notOw at q
    rw [List.getElem?_eq_getElem hl1, z] at q
    cases q
  have own : ∀ {j : Nat} {b : Bool} {xs : List D}, (unwipe ρ1 ρ' vs)[j]? = some (Sl.ow b xs) → j ∉ vs ∧ ρ'[j]? = some (Sl.ow b xs) := fun {j b xs} e => by
    rw [unwipe_get] at e
    split at e
    · rename_i h
      obtain ⟨s, _, e2, e3⟩ := gd h.1 h.2
      rw [e2] at e
      cases e
      exact absurd rfl (e3 b xs)
    · rename_i h
      have hl : j < ρ'.length := (List.getElem?_eq_some_iff.mp e).1
      exact ⟨fun z => h ⟨z, hl⟩, e⟩
  have outσ : ∀ {j : Nat}, j ∉ vs → (L2.wipe σ vs)[j]? = σ[j]? := fun {j} h => by rw [wipe_get, if_neg (fun z => h z.1)]
  refine ⟨by rw [unwipe_length]; exact hlen.symm, l.le, l.f0, l.kp, l.al, l.nf, fun j s e => ?_, fun j a e => ?_, fun i j a b c xs ys e1 e2 e3 e4 => ?_, l.fx⟩
  · rw [unwipe_get] at e
    split at e
    · rename_i h
      obtain ⟨s', e1, e2, e3⟩ := gd h.1 h.2
      rw [e2] at e
      cases e
      have z := l1.sl j _ e1
      cases s with
      | no => exact True.intro
      | fz d =>
        obtain ⟨v, e4, r⟩ := z
        exact ⟨v, e4, r.mono le⟩
      | ow b xs => exact absurd rfl (e3 b xs)
    · rename_i h
      have hl : j < ρ'.length := (List.getElem?_eq_some_iff.mp e).1
      have z := l.sl j s e
      rw [outσ (fun y => h ⟨y, hl⟩)] at z
      exact z
  · obtain ⟨xs, q⟩ := l.pr j a e
    refine ⟨xs, ?_⟩
    rw [unwipe_get]
    split
    · rename_i h
      obtain ⟨a', vs', es, _⟩ := l.sl j _ q
      rw [wipe_get, if_pos ⟨h.1, by omega⟩] at es
      cases es
    · exact q
  · obtain ⟨h1, q1⟩ := own e1
    obtain ⟨h2, q2⟩ := own e2
    exact l.dj i j a b c xs ys q1 q2 (by rw [outσ h1]; exact e3) (by rw [outσ h2]; exact e4)
/-- the cell held aside is changed -/
theorem Rl.rehold {p : Addr} {o o' : HO} (l : Rl { w with fr := upd w.fr p o } F H σ ρ) (h0 : w.H0 p = none) : Rl { w with fr := upd w.fr p o' } F (upd H p o') σ ρ where
  len := l.len
  le := fun a u e => by
    have hp : F p = none := (l.fx p o (by show upd w.fr p o p = some o; exact upd_same)).2
    rw [upd_ne (ne_of_none e hp)]; exact l.le a u e
  f0 := l.f0
  kp := fun a u e n => by
    have ne : a ≠ p := fun z => by
      have e : w.H0 a = some u := e
      rw [z, h0] at e; cases e
    rw [upd_ne ne]; exact l.kp a u e n
  al := fun a e => by
    have ne : a ≠ p := fun z => by rw [z, upd_same] at e; cases e
    rw [upd_ne ne] at e; exact l.al a e
  nf := l.nf
  sl := fun i s q => by
    have z := l.sl i s q
    cases s with
    | no => exact z
    | fz d => exact z
    | ow b xs =>
      obtain ⟨a, vs, es, ha, rl, nn, f, c⟩ := z
      have f : upd w.fr p o a = none := f
      have ne : a ≠ p := fun y => by rw [y, upd_same] at f; cases f
      rw [upd_ne ne] at f
      exact ⟨a, vs, es, by rw [upd_ne ne]; exact ha, rl, nn, by show upd w.fr p o' a = none; rw [upd_ne ne]; exact f, c⟩
  pr := l.pr
  dj := l.dj
  fx := fun a u e => by
    have e : upd w.fr p o' a = some u := e
    by_cases ha : a = p
    · subst ha
      rw [upd_same] at e
      cases e
      exact ⟨upd_same, (l.fx a o (by show upd w.fr a o a = some o; exact upd_same)).2⟩
    · rw [upd_ne ha] at e ⊢
      exact l.fx a u (by show upd w.fr p o a = some u; rw [upd_ne ha]; exact e)
end

/-- a reading for any world of the same written part -/
def tJE (G : Gd) (f : Rho → KR → Prop) : TE := fun σ H Q => ∃ w, w.G = G ∧ tJ w f σ H Q
def tJTE (G : Gd) (f : Rho → (Bool → Rho → Prop) → Prop) : TT := fun σ H Q => ∃ w, w.G = G ∧ tJT w f σ H Q
theorem pe_ex {X : Cx} {e : Expr} {G : Gd} {f : Rho → KR → Prop} (h : ∀ w : Wd, w.G = G → PE X e (tJ w f)) : PE X e (tJE G f) := ⟨fun pins s σ H Q I q => by
  obtain ⟨w, hw, q⟩ := q
  exact (h w hw).run pins s σ H Q I q⟩
theorem pts_ex {X : Cx} {e : List Expr} {G : Gd} {f : Rho → (Bool → Rho → Prop) → Prop} (h : ∀ w : Wd, w.G = G → PTs X e (tJT w f)) : PTs X e (tJTE G f) := ⟨fun pins s σ H Q I q => by
  obtain ⟨w, hw, q⟩ := q
  exact (h w hw).run pins s σ H Q I q⟩

theorem frz_stl {ρ : Rho} {r : R} {K : D → Rho → Prop} (h : frz ρ r K) : frz ρ r.stl K := by
  cases r <;> exact h
theorem only_wipe {σ σ' : St} {vs : List Nat} (o : Only' vs σ σ') : wipe σ' vs = wipe σ vs := by
  apply List.ext_getElem?
  intro j
  rw [wipe_get, wipe_get, o.1]
  split
  · rfl
  · rename_i h
    by_cases hj : j ∈ vs
    · have hl : σ.length ≤ j := by
        rcases Nat.lt_or_ge j σ.length with z | z
        · exact absurd ⟨hj, z⟩ h
        · exact z
      rw [List.getElem?_eq_none hl, List.getElem?_eq_none (by rw [o.1]; exact hl)]
    · exact o.2 j hj

/-- a comprehension's reading, from the parts -/
theorem lc_data {w : Wd} {wi : TI} {t : Tg} {ft : Rho → (Bool → Rho → Prop) → Prop} {fe : Rho → KR → Prop} {vs : List Nat} {fi : Rho → (List D → Rho → Prop) → Prop} {σ : St} {H : Hp} {Q : VK}
    (h : tJ w (fun ρ K => fi ρ fun ds ρ1 => (vs.all (notOw ρ1) = true ∧ tgIn vs t = true) ∧ compD vs t ft fe ds [] (wipeR ρ1 vs) fun acc ρ2 => K (.n acc) (unwipe ρ1 ρ2 vs)) σ H Q) :
    tLc (tJI w fi) (gJ w.G (fun d ρ K => tgD t d ρ K) fun vs => tgIn vs t) (tJTE w.G ft) (tJE w.G fe) vs σ H Q := by
  obtain ⟨F, ρ, l, Kd, h, k⟩ := h
  refine ⟨F, ρ, l, _, h, fun ds ρ1 F1 H1 J le1 l1 it q => ?_⟩
  obtain ⟨⟨hv, ht⟩, q⟩ := q
  intro A hA
  have hA0 : w.H0 A = none := l1.al A hA
  have hAf : w.fr A = none := l1.freshFr hA
  refine ⟨fun i m H => ∃ F' ρ' acc va, i + m = ds.length ∧ Le F1 F' ∧ Rl { w with fr := upd w.fr A (.lst va) } F' H (wipe σ vs) ρ' ∧ RepL w.G F' va acc ∧ compD vs t ft fe (ds.drop i) acc ρ' fun acc ρ2 => Kd (.n acc) (unwipe ρ1 ρ2 vs), ?_, ?_⟩
  · have g := Grow.alloc l1.le hA (.lst [])
    refine ⟨ds.length, F1, wipeR ρ1 vs, [], [], by omega, le_rfl', ?_, RepL.nil, q⟩
    refine ((l1.wipeL vs hv).grow g).hold upd_same (le_none l1.le hA) ?_
    exact (l1.wipeL vs hv).free hA
  · rintro i m H2 ⟨F', ρ', acc, va, hm, leF, l2, ra, q2⟩
    have hi : i ≤ ds.length := by omega
    obtain ⟨it1, it2⟩ := it i F' H2 leF l2.le hi
    have fxA := l2.fx A (.lst va) (by show upd w.fr A (.lst va) A = _; exact upd_same)
    by_cases he : i = ds.length
    · left
      refine ⟨it1 he, ?_⟩
      rw [he, List.drop_length] at q2
      have l3 := l1.unwipeL hv l2 leF
      refine k (.n acc) _ F' H2 (.ref A) (le_tr le1 leF) (l3.unhold fun a o e => ?_) ⟨A, va, rfl, fxA.1, ra, fxA.2, hA0, hAf, fun j b xs e z => ?_⟩ q2
      · rw [upd_ne (fun y => by rw [y, hAf] at e; cases e)]; exact e
      · obtain ⟨a, us, es, _, _, _, f, _⟩ := l3.sl j _ e
        rw [z] at es
        have ea : A = a := by injection es with y; injection y with y; injection y
        have f : upd w.fr A (.lst va) a = none := f
        rw [← ea, upd_same] at f
        cases f
    · right
      have hlt : i < ds.length := by omega
      have hd : ds[i]? = some ds[i] := List.getElem?_eq_getElem hlt
      obtain ⟨go, yl⟩ := it2 _ hd
      rw [List.drop_eq_getElem_cons hlt] at q2
      refine ⟨go, fun H' => ∃ m', m' < m ∧ ∃ F' ρ' acc va, i + 1 + m' = ds.length ∧ Le F1 F' ∧ Rl { w with fr := upd w.fr A (.lst va) } F' H' (wipe σ vs) ρ' ∧ RepL w.G F' va acc ∧ compD vs t ft fe (ds.drop (i + 1)) acc ρ' fun acc ρ2 => Kd (.n acc) (unwipe ρ1 ρ2 vs), fun _ z => z, fun x H3 y => ?_⟩
      obtain ⟨F3, gr, rx⟩ := yl x H3 y
      have l3 := l2.grow gr
      refine ⟨{ w with fr := upd w.fr A (.lst va) }, F3, ρ', ds[i], rfl, l3, rx, _, q2, fun ρ4 σ4 l4 on q4 => ?_⟩
      have ew : wipe σ4 vs = wipe (wipe σ vs) vs := only_wipe (on vs ht)
      have ew2 : wipe (wipe σ vs) vs = wipe σ vs := by
        apply List.ext_getElem?
        intro j
        rw [wipe_get, wipe_length, wipe_get]
        split <;> rfl
      have ew3 : wipe σ4 vs = wipe σ vs := ew.trans ew2
      refine ⟨ew3, { w with fr := upd w.fr A (.lst va) }, rfl, F3, ρ4, l4, _, q4, fun b ρ5 F5 H5 le5 l5 q5 => ?_⟩
      cases b with
      | true =>
        rw [if_pos rfl] at q5 ⊢
        refine ⟨{ w with fr := upd w.fr A (.lst va) }, rfl, tJ_settled l5 q5 fun r ρ6 F6 H6 v le6 l6 rr q6 => ?_⟩
        obtain ⟨dx, F7, ρ7, le7, l7, rp, q7⟩ := frz_rel l6 rr (frz_stl q6)
        obtain ⟨hz, hw, q7⟩ := q7
        have fx7 := l7.fx A (.lst va) (by show upd w.fr A (.lst va) A = _; exact upd_same)
        have le17 : Le F1 F7 := le_tr (le_tr (le_tr (le_tr leF gr.fm) le5) le6) le7
        have ra7 := ra.mono (le_tr (le_tr (le_tr gr.fm le5) le6) le7)
        refine ⟨va, fx7.1, by rw [ra.length]; exact hz, m - 1, by omega, F7, wipeR ρ7 vs, acc ++ [dx], va ++ [v], by omega, le17, ?_, ra7.append (RepL.cons rp RepL.nil), q7⟩
        have l8 := (l7.rehold (o' := .lst (va ++ [v])) hA0).wipeL vs hw
        rw [ew3] at l8
        exact l8
      | false =>
        rw [if_neg Bool.false_ne_true] at q5 ⊢
        have l6 := l5.wipeL vs q5.1
        rw [ew3] at l6
        exact ⟨m - 1, by omega, F5, wipeR ρ5 vs, acc, va, by omega, le_tr (le_tr leF gr.fm) le5, l6, ra.mono (le_tr gr.fm le5), q5.2⟩
end DL

/-! DW: built-ins by data; contracts. -/
namespace PySem
section
variable {prog : Program} {w : World} {A : Around} {E : Value → Shared → Prop} {s : Shared}
theorem F.args_max3x (a b c : Value) : argsOk "max" ⟨[a, b, c], []⟩ := by unfold argsOk; kernel_rfl
/-- max of three ints -/
theorem dl_max3 {a b c : Int} {t u v : Tok} {Q : Value → Shared → Prop} (hh : A.handled = none)
    (h : ∀ h' tk z, (∀ x o, s.heap.get? x = some o → h'.get? x = some o) → Q (.int (max (max a b) c) z) { s with heap := h', toks := tk }) : wpAny (model prog w) A (call (.builtin "max") [.int a t, .int b u, .int c v]) Q E s := by
  have hname : (toString "max" ++ toString ".loop" : String) = "max.loop" := by decide
  have hT : (s.heap.push { cls := .type "tuple", data := .seq #[.int a t, .int b u, .int c v] }).IsTuple s.heap.objs.size (intItems #[(a, t), (b, u), (c, v)]) := ⟨_, Heap.get?_push_size _ rfl, rfl, 0, by simp [intItems]⟩
  have hsz : (s.heap.push { cls := .type "tuple", data := .seq #[.int a t, .int b u, .int c v] }).objs.size = s.heap.objs.size + 1 := Heap.size_push ..
  refine call_function_tree F.kind_max F.plain_max F.entry_max (F.args_max3x _ _ _) ?_
  show wpAny _ A.in1 (Builtin.Builtins.bindParams "max" ["key", "default"] 0 ⟨[], []⟩ >>= _) _ _ s
  refine wpAny_bind (wpAny_of_eq (show Builtin.Builtins.bindParams "max" ["key", "default"] 0 ⟨[], []⟩ = pure [none, none] from rfl) ?_)
  show wpAny _ A.in1 (newTuple [.int a t, .int b u, .int c v] >>= _) _ _ s
  refine wpAny_bind (wpAny_newObj_type ?_)
  refine wpAny_bind (wpAny_pyIter_tuple hT ?_)
  have W := Walks.tuple (prog := prog) (w := w) (A := A.in1) hh (s.heap.objs.size + 1) s.heap.objs.size (Nat.ne_of_lt (Nat.lt_succ_self _)) (intItems #[(a, t), (b, u), (c, v)])
  refine wpAny_bind (wpAny_newObj_type ?_)
  rw [hname]
  have st : ((s.heap.push { cls := .type "tuple", data := .seq #[.int a t, .int b u, .int c v] }).push { cls := .type "tuple_iterator", data := .fields #[.ref s.heap.objs.size, .int 0 0] }).IsTupleIter (s.heap.objs.size + 1) s.heap.objs.size 0 :=
    ⟨_, by rw [← hsz]; exact Heap.get?_push_size _ rfl, rfl, rfl⟩
  have hfp : ∀ x ∈ [s.heap.objs.size + 1, s.heap.objs.size], x < ((s.heap.push { cls := .type "tuple", data := .seq #[.int a t, .int b u, .int c v] }).push { cls := .type "tuple_iterator", data := .fields #[.ref s.heap.objs.size, .int 0 0] }).objs.size := fun x hx => by
    rw [Heap.size_push, hsz]
    rcases List.mem_cons.mp hx with rfl | hx
    · exact Nat.lt_succ_self _
    · rcases List.mem_cons.mp hx with rfl | hx
      · exact Nat.lt_succ_of_lt (Nat.lt_succ_self _)
      · cases hx
  have hst := And.intro st (hT.push { cls := .type "tuple_iterator", data := .fields #[.ref s.heap.objs.size, .int 0 0] })
  rw [show (s.heap.push { cls := .type "tuple", data := .seq #[.int a t, .int b u, .int c v] }).objs.size = s.heap.objs.size + 1 from hsz]
  refine wpAny_pure ⟨plainId_quiet F.plain_max_loop _, codeAny_max_loop_first W _ (CmpOf.ints_gt (numAt #[(a, t), (b, u), (c, v)]) (fun _ _ => intItems_at)) _ (fun hm => Nat.lt_irrefl _ (hfp _ hm)) (by simp [intItems])
    (W.frame _ _ _ hst fun x _ o e => Heap.get?_push_of_some _ e) (Heap.get?_push_size _ rfl) fun z h' tk hP hk => ?_⟩
  have hold : ∀ x o, s.heap.get? x = some o → h'.get? x = some o := fun x o e => by
    have lx := Heap.lt_size e
    refine hk x o (fun hm => ?_) ?_ (Heap.get?_push_of_some _ (Heap.get?_push_of_some _ (Heap.get?_push_of_some _ e)))
    · rcases List.mem_cons.mp hm with e1 | hm
      · rw [e1] at lx; exact absurd lx (Nat.not_lt.mpr (Nat.le_succ _))
      · cases hm
    · intro e1
      rw [e1, Heap.size_push, hsz] at lx
      exact absurd lx (Nat.not_lt.mpr (Nat.le_add_right _ 2))
  have hv : ∃ y, z = Value.int (max (max a b) c) y := by
    have hP' : (intItems #[(a, t), (b, u), (c, v)])[argBest (fun i j => decide (numAt #[(a, t), (b, u), (c, v)] i > numAt #[(a, t), (b, u), (c, v)] j)) 2]? = some z := by
      have hsz2 : (intItems #[(a, t), (b, u), (c, v)]).size - 1 = 2 := by simp [intItems]
      rw [← hsz2]; exact hP
    obtain ⟨y, rfl⟩ := intItems_at hP'
    obtain ⟨m1, m2⟩ := argBest_gt (numAt #[(a, t), (b, u), (c, v)]) 2
    refine ⟨y, ?_⟩
    have n0 := m2 0 (by omega)
    have n1 := m2 1 (by omega)
    have n2 := m2 2 (by omega)
    generalize argBest (fun i j => decide (numAt #[(a, t), (b, u), (c, v)] i > numAt #[(a, t), (b, u), (c, v)] j)) 2 = q at *
    have e0 : numAt #[(a, t), (b, u), (c, v)] 0 = a := by simp [numAt]
    have e1 : numAt #[(a, t), (b, u), (c, v)] 1 = b := by simp [numAt]
    have e2 : numAt #[(a, t), (b, u), (c, v)] 2 = c := by simp [numAt]
    rw [e0] at n0
    rw [e1] at n1
    rw [e2] at n2
    have hq : q = 0 ∨ q = 1 ∨ q = 2 := by omega
    congr 1
    rcases hq with rfl | rfl | rfl
    · rw [e0] at n1 n2 ⊢; omega
    · rw [e1] at n0 n2 ⊢; omega
    · rw [e2] at n0 n1 ⊢; omega
  obtain ⟨y, rfl⟩ := hv
  exact h h' tk y hold
/-- max of a tuple of ints -/
theorem dl_maxTup {l : Addr} {xs : Array (Int × Tok)} {Q : Value → Shared → Prop} (hh : A.handled = none) (hl : s.heap.IsTuple l (intItems xs)) (hne : 0 < xs.size)
    (h : ∀ z h' tk, (intItems xs)[argBest (fun i j => decide (numAt xs i > numAt xs j)) (xs.size - 1)]? = some z → (∀ x o, s.heap.get? x = some o → h'.get? x = some o) → Q z { s with heap := h', toks := tk }) :
    wpAny (model prog w) A (call (.builtin "max") [.ref l]) Q E s := by
  have hlt : l < s.heap.objs.size := by obtain ⟨_, e, _⟩ := hl; exact Heap.lt_size e
  refine call_max_walk (wpAny_pyIter_tuple hl ?_)
  refine ⟨_, [s.heap.objs.size, l], [s.heap.objs.size], _, _, _, _, rfl, Walks.tuple (A := A.in1) hh _ l (Nat.ne_of_lt hlt) (intItems xs), ⟨⟨_, Heap.get?_push_size _ rfl, rfl, rfl⟩, hl.push _⟩, fun x hx => ?_, by simpa [intItems] using hne, CmpOf.ints_gt (numAt xs) (fun _ _ => intItems_at), fun z h' tk hP hk => ?_⟩
  · show x < (s.heap.push _).objs.size
    rw [Heap.size_push]
    rcases List.mem_cons.mp hx with rfl | hx
    · exact Nat.lt_succ_self _
    · rcases List.mem_cons.mp hx with rfl | hx
      · exact Nat.lt_succ_of_lt hlt
      · cases hx
  · refine h z h' tk (by simpa [intItems] using hP) fun x o e => ?_
    refine hk x o (fun hm => ?_) (Heap.get?_push_of_some _ e)
    rcases List.mem_cons.mp hm with e1 | hm
    · exact absurd (e1 ▸ Heap.lt_size e) (Nat.lt_irrefl _)
    · cases hm
end
end PySem
namespace DL
open PySem L2
section
variable {X : Cx} {G : Gd}
theorem intItems_of : ∀ {us : List Value} {ns : List Int}, PyProof.Rows.IntsAre us ns → ∃ xs : List (Int × Tok), us = xs.map (fun p => Value.int p.1 p.2) ∧ xs.map (·.1) = ns
  | _, _, .nil => ⟨[], rfl, rfl⟩
  | _, _, .cons n t h => by
    obtain ⟨xs, e1, e2⟩ := intItems_of h
    exact ⟨(n, t) :: xs, by rw [e1]; rfl, by rw [← e2]; rfl⟩
theorem cr_max3 (hc : X.calm = true) : CallR X (.builtin "max") (fun xs H Q => ∃ i j k, xs = [.int i, .int j, .int k] ∧ Q (.int (max (max i j) k)) H) := by
  intro pins s σ H xs us Q I r h
  obtain ⟨i, j, k, rfl, q⟩ := h
  cases r with
  | cons r1 r =>
    cases r with
    | cons r2 r =>
      cases r with
      | cons r3 r =>
        cases r
        obtain ⟨t1, rfl⟩ := r1
        obtain ⟨t2, rfl⟩ := r2
        obtain ⟨t3, rfl⟩ := r3
        exact dl_max3 (I.ok.hd hc) fun h' tk z kp => ⟨.int _, H, I.kept kp, ⟨_, rfl⟩, q⟩
theorem cr_maxT (hc : X.calm = true) : CallR X (.builtin "max") (fun vs H Q => ∃ (a : Addr) (ns : List Int), vs = [V.ref a] ∧ SqT X.K H a (ns.map V.int) ∧ 0 < ns.length ∧ ∀ m, m ∈ ns → (∀ y, y ∈ ns → y ≤ m) → Q (.int m) H) := by
  intro pins s σ H xs us Q I r h
  obtain ⟨a, ns, rfl, hq, hl, q⟩ := h
  obtain ⟨u, rfl, ru⟩ := vals1 r
  cases ru
  obtain ⟨its, r2, pl, _⟩ := I.tuple hq
  obtain ⟨ps, e1, e2⟩ := intItems_of (Vals.ints r2)
  have e3 : its.toArray = intItems ps.toArray := by rw [e1]; simp [intItems]
  have hsz : ps.length = ns.length := by rw [← e2, List.length_map]
  rw [e3] at pl
  refine dl_maxTup (I.ok.hd hc) (show s.heap.IsTuple a _ from pl) (by rw [List.size_toArray]; omega) fun z h' tk hz kp => ?_
  obtain ⟨t, rfl⟩ := intItems_at hz
  obtain ⟨m1, m2⟩ := argBest_gt (numAt ps.toArray) (ps.toArray.size - 1)
  have nm : ∀ (i : Nat) (h : i < ps.length), numAt ps.toArray i = ns[i]'(by omega) := fun i h => by
    subst e2
    simp [numAt, h]
  generalize argBest (fun i j => decide (numAt ps.toArray i > numAt ps.toArray j)) (ps.toArray.size - 1) = b at *
  rw [List.size_toArray] at m1 m2
  refine ⟨.int _, H, I.kept kp, ⟨t, rfl⟩, q _ ?_ fun y hy => ?_⟩
  · rw [nm b (by omega)]
    exact List.getElem_mem _
  · obtain ⟨j, hj, rfl⟩ := List.mem_iff_getElem.mp hy
    rw [← nm j (by omega)]
    exact m2 j (by omega)

/-- the reading of a built-in's call by data -/
def rBi (G : Gd) (sem : List D → (Res → Prop) → Prop) : List V → Hp → VK → Prop := fun xs H Q => ∃ F ds, Le F H ∧ Paired (RdV G F H) xs ds ∧ OutD G F H (sem ds) Q
def Bi.val : Bi → Value
  | .len => .builtin "len" | .max2 => .builtin "max" | .max3 => .builtin "max" | .max1 => .builtin "max" | .min2 => .builtin "min" | .min1 => .builtin "min" | .list => .type "list" | .tuple => .type "tuple" | .sum => .builtin "sum" | .any => .builtin "any" | .all => .builtin "all" | .int => .type "int"
theorem p1 {F H : Hp} {xs : List V} {d : D} (h : Paired (RdV G F H) xs [d]) : ∃ x, xs = [x] ∧ RdV G F H x d := by
  cases h with
  | cons a b => cases b; exact ⟨_, rfl, a⟩
theorem p2 {F H : Hp} {xs : List V} {d e : D} (h : Paired (RdV G F H) xs [d, e]) : ∃ x y, xs = [x, y] ∧ RdV G F H x d ∧ RdV G F H y e := by
  cases h with
  | cons a b =>
    obtain ⟨y, rfl, c⟩ := p1 b
    exact ⟨_, _, rfl, a, c⟩
theorem p3 {F H : Hp} {xs : List V} {d e f : D} (h : Paired (RdV G F H) xs [d, e, f]) : ∃ x y z, xs = [x, y, z] ∧ RdV G F H x d ∧ RdV G F H y e ∧ RdV G F H z f := by
  cases h with
  | cons a b =>
    obtain ⟨y, z, rfl, c⟩ := p2 b
    exact ⟨_, _, _, rfl, a, c⟩
theorem out_val {F H : Hp} {Q : VK} {Kd : Res → Prop} (h : Le F H) (k : ∀ v r F' H', Grow F H F' H' → RRes G H F' H' v r → Kd r → Q v H') {v : V} {d : D} (r : Rep G F v d) (q : Kd (.d d)) : Q v H := out_at h k q r
theorem bi_ok (hG : G.K = X.K) (hc : X.calm = true) : ∀ b : Bi, CallR X b.val (rBi G b.sem) := by
  intro b pins s σ H xs us Q I r h
  obtain ⟨F, ds, hle, hp, Kd, hs, k⟩ := h
  cases b with
  | len =>
    unfold Bi.sem at hs
    split at hs <;> rename_i e <;> try cases e
    · obtain ⟨x, rfl, rx⟩ := p1 hp
      obtain ⟨a, vs, rfl, ha, l⟩ := rx
      exact call_len pins s σ H _ us Q I r ⟨_, vs.length, rfl, .inl ⟨vs, SqL.of ha, rfl⟩, out_val hle k (Rep.int' _) (by rw [l.length]; exact hs)⟩
    · obtain ⟨x, rfl, rx⟩ := p1 hp
      simp only [RdV, Rep] at rx
      obtain ⟨a, vs, rfl, ha, l⟩ := rx
      rw [hG] at ha
      exact call_len pins s σ H _ us Q I r ⟨_, vs.length, rfl, .inr ⟨vs, sqT_mono hle ha, rfl⟩, out_val hle k (Rep.int' _) (by rw [l.length]; exact hs)⟩
    · obtain ⟨x, rfl, rx⟩ := p1 hp
      simp only [RdV, Rep] at rx
      subst rx
      exact call_len pins s σ H _ us Q I r ⟨_, _, rfl, ⟨hs.1, rfl⟩, out_val hle k (Rep.int' _) hs.2⟩
    · exact hs.elim
  | max2 =>
    unfold Bi.sem at hs
    split at hs <;> rename_i e <;> try cases e
    · obtain ⟨x, y, rfl, rx, ry⟩ := p2 hp
      simp only [RdV, Rep] at rx ry
      subst rx
      subst ry
      refine call_max2 hc pins s σ H _ us Q I r ⟨_, _, rfl, ?_⟩
      rename_i i j
      have e : (if j > i then j else i) = max i j := by by_cases h : j > i <;> simp [h] <;> omega
      rw [e]
      exact out_val hle k (Rep.int' _) hs
    · exact hs.elim
  | min2 =>
    unfold Bi.sem at hs
    split at hs <;> rename_i e <;> try cases e
    · obtain ⟨x, y, rfl, rx, ry⟩ := p2 hp
      simp only [RdV, Rep] at rx ry
      subst rx
      subst ry
      refine call_min2 hc pins s σ H _ us Q I r ⟨_, _, rfl, ?_⟩
      rename_i i j
      have e : (if j < i then j else i) = min i j := by by_cases h : j < i <;> simp [h] <;> omega
      rw [e]
      exact out_val hle k (Rep.int' _) hs
    · exact hs.elim
  | max3 =>
    unfold Bi.sem at hs
    split at hs <;> rename_i e <;> try cases e
    · obtain ⟨x, y, z, rfl, rx, ry, rz⟩ := p3 hp
      simp only [RdV, Rep] at rx ry rz
      subst rx
      subst ry
      subst rz
      exact cr_max3 hc pins s σ H _ us Q I r ⟨_, _, _, rfl, out_val hle k (Rep.int' _) hs⟩
    · exact hs.elim
  | max1 =>
    unfold Bi.sem at hs
    split at hs <;> rename_i e <;> try cases e
    · obtain ⟨x, rfl, rx⟩ := p1 hp
      obtain ⟨ns, rfl, hn, q⟩ := hs
      obtain ⟨a, vs, rfl, ha, l⟩ := rx
      rw [RepL.ints l] at ha
      exact cr_max hc pins s σ H _ us Q I r ⟨a, ns, rfl, SqL.of ha, hn, fun m h1 h2 => out_val hle k (Rep.int' _) (q m h1 h2)⟩
    · obtain ⟨x, rfl, rx⟩ := p1 hp
      obtain ⟨ns, rfl, hn, q⟩ := hs
      simp only [RdV, Rep] at rx
      obtain ⟨a, vs, rfl, ha, l⟩ := rx
      rw [RepL.ints l, hG] at ha
      exact cr_maxT hc pins s σ H _ us Q I r ⟨a, ns, rfl, sqT_mono hle ha, hn, fun m h1 h2 => out_val hle k (Rep.int' _) (q m h1 h2)⟩
    · exact hs.elim
  | min1 =>
    unfold Bi.sem at hs
    split at hs <;> rename_i e <;> try cases e
    · obtain ⟨x, rfl, rx⟩ := p1 hp
      obtain ⟨ns, rfl, hn, q⟩ := hs
      obtain ⟨a, vs, rfl, ha, l⟩ := rx
      rw [RepL.ints l] at ha
      exact cr_min hc pins s σ H _ us Q I r ⟨a, ns, rfl, SqL.of ha, hn, fun m h1 h2 => out_val hle k (Rep.int' _) (q m h1 h2)⟩
    · exact hs.elim
  | list =>
    unfold Bi.sem at hs
    split at hs <;> rename_i e <;> try cases e
    · obtain ⟨x, rfl, rx⟩ := p1 hp
      rename_i d
      cases d with
      | lst ys =>
        obtain ⟨a, vs, rfl, ha, l⟩ := rx
        exact call_list_of pins s σ H _ us Q I r ⟨a, vs, rfl, .inl (SqL.of ha), fun p n => out_lst hle k hs l n⟩
      | tup ys =>
        simp only [RdV, Rep] at rx
        obtain ⟨a, vs, rfl, ha, l⟩ := rx
        rw [hG] at ha
        exact call_list_of pins s σ H _ us Q I r ⟨a, vs, rfl, .inr (sqT_mono hle ha), fun p n => out_lst hle k hs l n⟩
      | _ => exact (show False from hs).elim
    · exact hs.elim
  | tuple =>
    unfold Bi.sem at hs
    split at hs <;> rename_i e <;> try cases e
    · obtain ⟨x, rfl, rx⟩ := p1 hp
      rename_i d
      cases d with
      | lst ys =>
        obtain ⟨a, vs, rfl, ha, l⟩ := rx
        exact call_tuple_of pins s σ H _ us Q I r ⟨a, vs, rfl, .inl ⟨SqL.of ha, fun p n => out_tup hle k hs l n⟩⟩
      | tup ys =>
        have rx0 := rx
        simp only [RdV, Rep] at rx
        obtain ⟨a, vs, rfl, ha, l⟩ := rx
        rw [hG] at ha
        exact call_tuple_of pins s σ H _ us Q I r ⟨a, vs, rfl, .inr ⟨sqT_mono hle ha, out_val hle k rx0 hs⟩⟩
      | _ => exact (show False from hs).elim
    · exact hs.elim
  | sum =>
    unfold Bi.sem at hs
    split at hs <;> rename_i e <;> try cases e
    · obtain ⟨x, rfl, rx⟩ := p1 hp
      obtain ⟨ns, rfl, q⟩ := hs
      obtain ⟨a, vs, rfl, ha, l⟩ := rx
      rw [RepL.ints l] at ha
      exact cr_sum hc pins s σ H _ us Q I r ⟨a, ns, rfl, SqL.of ha, out_val hle k (Rep.int' _) q⟩
    · exact hs.elim
  | any =>
    unfold Bi.sem at hs
    split at hs <;> rename_i e <;> try cases e
    · obtain ⟨x, rfl, rx⟩ := p1 hp
      obtain ⟨ns, rfl, q⟩ := hs
      obtain ⟨a, vs, rfl, ha, l⟩ := rx
      rw [RepL.bls l] at ha
      exact cr_any hc pins s σ H _ us Q I r ⟨a, ns, rfl, SqL.of ha, out_val hle k (Rep.bl' _) q⟩
    · exact hs.elim
  | all =>
    unfold Bi.sem at hs
    split at hs <;> rename_i e <;> try cases e
    · obtain ⟨x, rfl, rx⟩ := p1 hp
      obtain ⟨ns, rfl, q⟩ := hs
      obtain ⟨a, vs, rfl, ha, l⟩ := rx
      rw [RepL.bls l] at ha
      exact cr_all hc pins s σ H _ us Q I r ⟨a, ns, rfl, SqL.of ha, out_val hle k (Rep.bl' _) q⟩
    · exact hs.elim
  | int =>
    unfold Bi.sem at hs
    split at hs <;> rename_i e <;> try cases e
    · obtain ⟨x, rfl, rx⟩ := p1 hp
      simp only [RdV, Rep] at rx
      subst rx
      exact call_int1 pins s σ H _ us Q I r (.inl ⟨_, rfl, out_val hle k (Rep.int' _) hs⟩)
    · obtain ⟨x, rfl, rx⟩ := p1 hp
      simp only [RdV, Rep] at rx
      subst rx
      exact call_int1 pins s σ H _ us Q I r (.inr ⟨_, rfl, out_val hle k (Rep.int' _) hs⟩)
    · exact hs.elim

/-! ### contracts of defs -/
/-- the heaps behind a call: bo, the address of what was handed in to be changed, holds bag -/
structure Step (G : Gd) (F H F' H' : Hp) (bo : Option Addr) (bag : List D) : Prop where
  fm : Le F F'
  le : Le F' H'
  kp : ∀ a o, H a = some o → bo ≠ some a → H' a = some o
  al : ∀ a, H' a = none → H a = none
  nf : ∀ a, H a ≠ none → F a = none → F' a = none
  bg : ∀ a, bo = some a → ∃ us, H' a = some (.lst us) ∧ RepL G F' us bag
/-- the arguments' part of a promise -/
def ArgsAt (G : Gd) (c : Ct) (F H : Hp) (vs : List V) (bo : Option Addr) (bag args : List D) : Prop :=
  if c.m = true then ∃ a vr us, vs = .ref a :: vr ∧ bo = some a ∧ H a = some (.lst us) ∧ RepL G F us bag ∧ F a = none ∧ RepL G F vr args else bo = none ∧ bag = [] ∧ RepL G F vs args
def Ct.sp (c : Ct) (G : Gd) : Sp := fun vs H Q E => ∃ F bag args bo, Le F H ∧ args.length = c.n ∧ ArgsAt G c F H vs bo bag args ∧
  ∃ (Kd : Res → List D → Prop) (Xd : Xn → List D → Prop), c.sem Xd bag args Kd ∧
    (∀ v r F' H' bag', Step G F H F' H' bo bag' → RRes G H F' H' v r → Kd r bag' → Q v H') ∧
    (∀ cls d F' H' xn bag', Step G F H F' H' bo bag' → RepX G F' H' cls d xn → Xd xn bag' → E cls d H')
theorem Ct.sp_len {c : Ct} {vs : List V} {H : Hp} {Q : VK} {E : XK} (h : c.sp G vs H Q E) : vs.length = if c.m = true then c.n + 1 else c.n := by
  obtain ⟨F, bag, args, bo, hle, hn, ha, _⟩ := h
  unfold ArgsAt at ha
  by_cases hm : c.m = true
  · rw [if_pos hm] at ha ⊢
    obtain ⟨a, vr, us, rfl, _, _, _, _, l⟩ := ha
    rw [List.length_cons, l.length, hn]
  · rw [if_neg hm] at ha ⊢
    rw [ha.2.2.length, hn]
/-- a def of the text keeps its contract -/
def FnC (G : Gd) (X : Cx) (e : FnE) : Prop := ∃ k f fd ps ds dvs, FnOk X.prog X.w X.K X.mg X.base (L2.CX X.prog X.w) k f fd ps (e.ct.sp G) ∧ Room k X.A ∧ X.mg e.name = some (.ref f) ∧ PySem.W.keepIn X.K (.ref f) = true ∧
  Binds X.K fd ps ds ∧ Vals dvs ds ∧ ∀ F, RepL G F dvs e.dflt
theorem step_rl {w : Wd} {F H F' H' : Hp} {σ : St} {ρ : Rho} (l : Rl w F H σ ρ) {bag : List D} (s : Step w.G F H F' H' none bag) : Grow F H F' H' := ⟨s.fm, fun a o e => s.kp a o e (by simp), s.le, s.nf⟩
theorem step_rlm {w : Wd} {F H F' H' : Hp} {σ : St} {ρ : Rho} (l : Rl w F H σ ρ) {bag : List D} {i : Nat} {b : Bool} {xs : List D} {a : Addr} (e : ρ[i]? = some (Sl.ow b xs)) (es : σ[i]? = some (some (V.ref a)))
    (s : Step w.G F H F' H' (some a) bag) : Rl w F' H' σ (ρ.set i (Sl.ow b bag)) := by
  obtain ⟨a', vs, es', ha, l0, n, f, c⟩ := l.sl i _ e
  have ea : a' = a := by
    rw [es] at es'
    injection es' with q; injection q with q; injection q with q; exact q.symm
  subst ea
  obtain ⟨us, hu, ru⟩ := s.bg a' rfl
  -- the heap with the cell as it was, grown
  have g : Grow F H F' (upd H' a' (.lst vs)) := by
    have nF : F' a' = none := s.nf a' (by rw [ha]; simp) n
    refine ⟨s.fm, fun b o q => ?_, fun b o q => ?_, s.nf⟩
    · by_cases hb : b = a'
      · subst hb; rw [upd_same]; rw [ha] at q; exact q
      · rw [upd_ne hb]; exact s.kp b o q (fun z => hb (by injection z with z; exact z.symm))
    · have hb : b ≠ a' := ne_of_none q nF
      rw [upd_ne hb]; exact s.le b o q
  have l1 := l.grow g
  have l2 := l1.write e es ru
  have eH : upd (upd H' a' (.lst vs)) a' (.lst us) = H' := by
    rw [upd_upd]
    funext b
    by_cases hb : b = a'
    · subst hb; rw [upd_same, hu]
    · rw [upd_ne hb]
  rw [eH] at l2
  exact l2
end
end DL

/-! DX: the rules are sound for every expression of the small language. -/
namespace DL
open PySem L2

section
variable {S : Sg} {G : Gd} {X : Cx} {w : Wd} {sc : Scope} {xp : XP} {e ea eb ec tg : Expr} {pos p : Pos}
theorem pe_callSD0 {CX : CXT} {k : Nat} {f : Addr} {fd : FuncData} {ps : List Str} {sp : Sp} {dvs : List V} {ds : List Value} {E : St → XK} {x : Str} (F : FnOk X.prog X.w X.K X.mg X.base CX k f fd ps sp) (hr : Room k X.A) (hg : Gl X x) (hm : X.mg x = some (.ref f))
    (hk : PySem.W.keepIn X.K (.ref f) = true) (hb : Binds X.K fd ps ds) (hd : Vals dvs ds) (hx : ∀ σ, PassesAt CX X σ (E σ)) (hdb : (x == ("__debug__" : Str)) = false) : PE X (.Call (.Name x p) [] [] pos) (tCallSD sp dvs E tNil) :=
  ⟨fun pins s σ H Q I h => wpAny_Call_Name_kw (ld_glob I hg hm (PySem.W.callWith_K0 I.kIn hk (run_fnSD (us := []) (vs := []) F hr hb hd (hx σ) I .nil h)) hdb)⟩
theorem backTo_plain {N : List Str} : ∀ {cs : Cs} {l : List Expr}, mEs S N sc cs l = true → (backTo pos (starEach l X.env)).any (·.1) = false
  | .nil, [], _ => rfl
  | .nil, _ :: _, h => by simp [mEs] at h
  | .cons c r, [], h => by simp [mEs] at h
  | .cons c r, e :: es, h => by
    simp only [mEs, Bool.and_eq_true] at h
    have ih := backTo_plain (N := N) (cs := r) (l := es) h.2
    rw [star_plain h.1.1]
    show (false || (backTo pos (starEach es X.env)).any (·.1)) = false
    rw [ih]; rfl
/-- the reading of a call by its contract -/
theorem call_data {c : FnE} {fa : Rho → (List D → Rho → Prop) → Prop} {dvs : List V} {σ : St} {H : Hp} {Q : VK} (hd : ∀ F, RepL w.G F dvs c.dflt)
    (h : tJ w (fun ρ K => fa ρ fun ds ρ1 => (c.ct.m = false ∧ (ds ++ c.dflt).length = c.ct.n) ∧ c.ct.sem (fun xn _ => xp xn ρ1) [] (ds ++ c.dflt) fun r _ => K (R.ofRes r) ρ1) σ H Q) :
    tCallSD (c.ct.sp w.G) dvs (WE (XW w xp)) (tJA w fa) σ H Q := by
  obtain ⟨F, ρ, l, Kd, h, k⟩ := h
  refine ⟨F, ρ, l, _, h, fun ds ρ1 F1 H1 vs le1 l1 rl q => ?_⟩
  obtain ⟨⟨hm, hn⟩, q⟩ := q
  refine ⟨F1, [], ds ++ c.dflt, none, l1.le, hn, ?_, _, _, q, fun v r F' H' bag' st rr q2 => ?_, fun cls d F' H' xn bag' st rx q2 => ?_⟩
  · unfold ArgsAt
    rw [if_neg (by rw [hm]; exact Bool.false_ne_true)]
    exact ⟨rfl, rfl, rl.append (hd F1)⟩
  · have g := step_rl l1 st
    exact k _ ρ1 F' H' v (le_tr le1 g.fm) (l1.grow g) (res_rel l1 g rr) q2
  · have g := step_rl l1 st
    exact ⟨F', ρ1, xn, l1.grow g, rx, q2⟩
theorem ow_at {F H : Hp} {σ : St} {ρ : Rho} (l : Rl w F H σ ρ) {i : Nat} (h : isOw ρ i = true) : ∃ a, σ[i]? = some (some (V.ref a)) := by
  unfold isOw at h
  split at h
  · rename_i b xs e
    obtain ⟨a, vs, es, _⟩ := l.sl i _ e
    exact ⟨a, es⟩
  · cases h
theorem callm_data {c : FnE} {i : Nat} {fa : Rho → (List D → Rho → Prop) → Prop} {dvs : List V} {σ : St} {H : Hp} {Q : VK} (hd : ∀ F, RepL w.G F dvs c.dflt)
    (h : tJ w (fun ρ K => isOw ρ i = true ∧ fa ρ fun ds ρ1 => match (some c : Option FnE), ρ1[i]? with
      | some e, some (.ow b xs) => (e.ct.m = true ∧ (ds ++ e.dflt).length = e.ct.n) ∧ e.ct.sem (fun xn bag => xp xn (ρ1.set i (.ow b bag))) xs (ds ++ e.dflt) fun r bag => K (R.ofRes r) (ρ1.set i (.ow b bag))
      | _, _ => False) σ H Q) :
    tCallSD (c.ct.sp w.G) dvs (WE (XW w xp)) (tCons (tVar i) (tJA w fa)) σ H Q := by
  obtain ⟨F, ρ, l, Kd, ⟨h0, h⟩, k⟩ := h
  obtain ⟨a, es⟩ := ow_at l h0
  refine ⟨.ref a, es, F, ρ, l, _, h, fun ds ρ1 F1 H1 vs le1 l1 rl q => ?_⟩
  split at q
  · rename_i c' b xs ec e
    cases ec
    obtain ⟨⟨hm, hn⟩, q⟩ := q
    obtain ⟨a', us, es', ha, rb, n, _⟩ := l1.sl i _ e
    have ea : a' = a := by
      rw [es] at es'
      injection es' with q; injection q with q; injection q with q; exact q.symm
    subst ea
    refine ⟨F1, xs, ds ++ c.dflt, some a', l1.le, hn, ?_, _, _, q, fun v r F' H' bag' st rr q2 => ?_, fun cls d F' H' xn bag' st rx q2 => ?_⟩
    · unfold ArgsAt
      rw [if_pos hm]
      exact ⟨a', vs ++ dvs, us, rfl, rfl, ha, rb, n, rl.append (hd F1)⟩
    · have l2 := step_rlm l1 e es st
      refine k _ _ F' H' v (le_tr le1 st.fm) l2 ?_ q2
      cases r with
      | d x => exact rr
      | n ys =>
        obtain ⟨p', zs, ev, hp, hp', rz, np⟩ := rr
        refine ⟨p', zs, ev, hp', rz, np, l1.al p' hp, l1.freshFr hp, ?_⟩
        have fr := l1.free hp
        intro j b' ws ej
        by_cases hj : i = j
        · subst hj
          rw [List.getElem?_set_self (List.getElem?_eq_some_iff.mp e).1] at ej
          exact fr i b xs e
        · rw [List.getElem?_set_ne hj] at ej
          exact fr j b' ws ej
    · exact ⟨F', _, xn, step_rlm l1 e es st, rx, q2⟩
  · exact q.elim
/-- no exception: any wish -/
theorem xok_never {X : Cx} {w : Wd} : XOk X w (fun _ _ => False) := fun u s' x => by
  obtain ⟨_, _, _, _, _, _, _, _, _, _, _, _, _, _, _, _, F, ρ, xn, _, _, z⟩ := x
  exact z.elim
theorem relabel_lookup {env : Env} : ∀ {names : List (Str × NameKind)} {x : Str} {k : NameKind}, names.lookup x = some k →
    ∀ {f : Str × NameKind → Str × NameKind}, (∀ q, f q = q ∨ (q.2 = NameKind.free ∧ f q = (q.1, NameKind.cell))) → (names.map f).lookup x = some k ∨ (k = NameKind.free ∧ (names.map f).lookup x = some NameKind.cell)
  | [], _, _, h, _, _ => by simp at h
  | (n, k0) :: r, x, k, h, f, hf => by
    cases hx : x == n with
    | true =>
      simp only [List.lookup_cons, hx] at h
      cases h
      rcases hf (n, k0) with q | ⟨q1, q2⟩
      · left
        rw [List.map_cons, q]
        simp only [List.lookup_cons, hx]
      · right
        rw [List.map_cons, q2]
        refine ⟨q1, ?_⟩
        simp only [List.lookup_cons, hx]
    | false =>
      simp only [List.lookup_cons, hx] at h
      have ih := relabel_lookup (env := env) h hf
      have e1 : ∃ k', f (n, k0) = (n, k') := by
        rcases hf (n, k0) with q | ⟨q1, q2⟩
        · exact ⟨_, q⟩
        · exact ⟨_, q2⟩
      obtain ⟨k', e1⟩ := e1
      rw [List.map_cons, e1]
      simp only [List.lookup_cons, hx]
      exact ih
theorem xg_blk (g : XG S G sc X) {s : Shared} {H : Hp} {scope : Scope} {C : Addr} {cl : List (Str × Addr)} {fp : List Addr} : XG S G scope (X.blk s H scope (compEnvC scope cl C X.env) fp) where
  nd := g.nd
  calm := g.calm
  K := g.K
  w := g.w
  scr := fun x k h => relabel_lookup (env := X.env) h fun q => by
    obtain ⟨n, k0⟩ := q
    dsimp only
    split
    · rename_i c
      right
      simp only [Bool.and_eq_true, beq_iff_eq] at c
      exact ⟨c.1.1, rfl⟩
    · exact .inl rfl
  fnc := fun x h => by
    show (scope.names.lookup x == some NameKind.cell) = true
    rw [h]; rfl
  gv := g.gv
  bn := g.bn
  hu := g.hu
theorem blk_ok (g : XG S G sc X) {scope : Scope} {own : List (Str × Nat)} (h : blkC X.N sc scope own = true) : BlkOk X.N X.env.scope scope own := by
  have b := blkOk_by h
  refine ⟨b.kind, b.uniq, b.ix, fun y hy e => ?_, b.own⟩
  rcases b.free y hy e with q | q
  · rcases g.scr y.1 _ q with z | ⟨z, _⟩
    · exact .inl z
    · cases z
  · rcases g.scr y.1 _ q with z | ⟨_, z⟩
    · exact .inr z
    · exact .inl z
theorem args_plain {N : List Str} {cs : Cs} {l : List Expr} (h : mEs S N sc cs (e :: l) = true) : plainE e = true ∧ (backTo pos (starEach l X.env)).any (·.1) = false := by
  cases cs with
  | nil => simp [mEs] at h
  | cons c r =>
    simp only [mEs, Bool.and_eq_true] at h
    exact ⟨h.1.1, backTo_plain h.2⟩
theorem jt_no {f : Rho → (Bool → Rho → Prop) → Prop} (h : ∀ ρ K, ¬ f ρ K) : PT X e (tJT w f) := ⟨fun pins s σ H Q I q => by
  obtain ⟨_, ρ, _, K, z, _⟩ := q
  exact (h ρ K z).elim⟩
def FnCs (S : Sg) (G : Gd) (X : Cx) : Prop := ∀ (i : Nat) (e : FnE), S.fs[i]? = some e → FnC G X e
theorem op_at {o : BOp} {op : Operator} (hG : G.K = X.K) (h : opB o op = true) : OpR X (binaryOp op) (rD2 G o.sem) := by
  have e : op = o.op := by cases o <;> cases op <;> first | rfl | (simp [opB] at h)
  subst e
  exact op_D hG o
theorem cm_at {o : COp} {op : CmpOp} (hG : G.K = X.K) (hu : X.A.units + 65 < cLine) (h : cmB o op = true) : OpR X (compareOp op) (rC2 G o.sem) := by
  have e : op = o.op := by cases o <;> cases op <;> first | rfl | (simp [cmB] at h)
  subst e
  exact cmp_D hG hu o
theorem boot_bi (b : Bi) : bootBuiltins b.name = some b.val := by cases b <;> decide +kernel
theorem bn_bi (g : XG S G sc X) (b : Bi) : X.mg b.name = none := g.bn _ (by cases b <;> decide +kernel)
theorem nn_bi (b : Bi) : b.name ≠ "__name__" := by cases b <;> decide +kernel
theorem nd_bi (b : Bi) : (b.name == ("__debug__" : Str)) = false := by cases b <;> decide +kernel
theorem j_bi (b : Bi) {f : Rho → (List R → Rho → Prop) → Prop} {es : List Expr} (g : XG S w.G sc X) (hgl : Gl X b.name) (ha : PA X (e :: es) (tJR w f)) (he : plainE e = true) (hpl : (backTo pos (starEach es X.env)).any (·.1) = false) :
    PE X (.Call (.Name b.name p) (e :: es) [] pos) (tJ w fun ρ K => f ρ fun rs ρ1 => rdrs ρ1 rs fun ds => b.sem ds fun r => K (R.ofRes r) ρ1) := by
  have hc := bi_ok (G := w.G) g.K g.calm b
  have red : ∀ σ H Q, tJ w (fun ρ K => f ρ fun rs ρ1 => rdrs ρ1 rs fun ds => b.sem ds fun r => K (R.ofRes r) ρ1) σ H Q → tCB (rBi w.G b.sem) (tJR w f) σ H Q := fun σ H Q h => by
    obtain ⟨F, ρ, l, Kd, h, k⟩ := h
    refine ⟨F, ρ, l, _, h, fun rs ρ1 F1 H1 vs le1 l1 rr q => ?_⟩
    obtain ⟨ds, pd, q⟩ := rdrs_rel l1 rr q
    exact ⟨F1, ds, l1.le, pd, _, q, fun v r F' H' gr rq q2 => k _ ρ1 F' H' v (le_tr le1 gr.fm) (l1.grow gr) (res_rel l1 gr rq) q2⟩
  have hb := boot_bi b
  cases b <;> first
    | exact (pe_callB hc hgl (bn_bi g _) hb ha (nn_bi _) (nd_bi _) (star_plain he) hpl).imp red
    | exact (pe_callTy hc hgl (bn_bi g _) hb ha (nn_bi _) (nd_bi _) (star_plain he) hpl).imp red
end

theorem e_var {S : Sg} {G : Gd} {X : Cx} {sc : Scope} {e : Expr} {w : Wd} {xp : XP} {i : Nat} (g : XG S G sc X) (h : mE S X.N sc (.var i) e = true) : PE X e (tJ w fun ρ K => iE S xp (.var i) ρ K) := by
  cases e with
  | Name x p =>
    simp only [mE, Bool.and_eq_true, decide_eq_true_eq] at h
    simp only [iE]
    exact j_var h.1.1 (g.vis h.1.2) (noDb_1 h.2) (noDb_2 h.2)
  | _ => simp [mE] at h
theorem e_bi {S : Sg} {G : Gd} {X : Cx} {sc : Scope} {e : Expr} {w : Wd} {xp : XP} {b : Bi} {es : Cs} (g : XG S G sc X) (h : mE S X.N sc (.bi b es) e = true) (hw : w.G = G) (hA : ∀ l, mEs S X.N sc es l = true → PA X l (tJR w fun ρ K => iRs S xp es ρ K)) : PE X e (tJ w fun ρ K => iE S xp (.bi b es) ρ K) := by
  cases e with
  | Call f l kws p =>
    cases f with
    | Name x p2 =>
      cases kws with
      | nil =>
        cases l with
        | nil => simp [mE] at h
        | cons e1 l =>
          simp only [mE, Bool.and_eq_true, decide_eq_true_eq] at h
          obtain ⟨⟨rfl, h2⟩, h3⟩ := h
          simp only [iE]
          have hA := hA _ h3
          obtain ⟨he, hpl⟩ := args_plain (pos := p) (X := X) h3
          subst hw
          exact j_bi b g (g.gl h2) hA he hpl
      | cons _ _ => cases l <;> simp [mE] at h
    | _ => simp [mE] at h
  | _ => simp [mE] at h
theorem e_call {S : Sg} {G : Gd} {X : Cx} {sc : Scope} {e : Expr} {w : Wd} {xp : XP} {f : Nat} {es : Cs} (g : XG S G sc X) (fc : FnCs S G X) (h : mE S X.N sc (.call f es) e = true) (hw : w.G = G) (hx : XOk X w xp) (hA : ∀ l, mEs S X.N sc es l = true → PA X l (tJA w fun ρ K => iAs S xp es ρ K)) : PE X e (tJ w fun ρ K => iE S xp (.call f es) ρ K) := by
  cases e with
  | Call fe l kws p =>
    cases fe with
    | Name x p2 =>
      cases kws with
      | nil =>
        simp only [mE, Bool.and_eq_true] at h
        obtain ⟨⟨⟨h1, h2⟩, h3⟩, h4⟩ := h
        simp only [iE]
        cases hf : S.fs[f]? with
        | none => rw [hf] at h1; exact absurd h1 Bool.false_ne_true
        | some c =>
          rw [hf] at h1
          have ex : x = c.name := of_decide_eq_true h1
          subst ex
          subst hw
          obtain ⟨k, fa, fd, ps, ds, dvs, F, hr, hm, hk, hb, hd, hdv⟩ := fc f c hf
          have hA := hA _ h4
          cases l with
          | nil =>
            cases es with
            | nil =>
              refine (pe_callSD0 F hr (g.gl h2) hm hk hb hd (fun σ => passAt hx σ) (noDb_1 h3)).imp fun σ H Q q => ?_
              obtain ⟨F0, ρ, l, Kd, q, k⟩ := q
              have := call_data (c := c) (xp := xp) (fa := fun ρ K => K [] ρ) hdv ⟨F0, ρ, l, Kd, q, k⟩
              obtain ⟨F1, ρ1, l1, Kd1, q1, k1⟩ := this
              exact k1 [] ρ1 F1 H [] le_rfl' l1 RepL.nil q1
            | cons _ _ => simp [mEs] at h4
          | cons e1 l =>
            obtain ⟨he, hpl⟩ := args_plain (pos := p) (X := X) h4
            exact (pe_callSD F hr (g.gl h2) hm hk hb hd (fun σ => passAt hx σ) hA (noDb_1 h3) (star_plain he) hpl).imp fun σ H Q q => call_data hdv q
      | cons _ _ => simp [mE] at h
    | _ => simp [mE] at h
  | _ => simp [mE] at h
theorem e_callm {S : Sg} {G : Gd} {X : Cx} {sc : Scope} {e : Expr} {w : Wd} {xp : XP} {f i : Nat} {es : Cs} (g : XG S G sc X) (fc : FnCs S G X) (h : mE S X.N sc (.callm f i es) e = true) (hw : w.G = G) (hx : XOk X w xp) (hA : ∀ l, mEs S X.N sc es l = true → PA X l (tJA w fun ρ K => iAs S xp es ρ K)) : PE X e (tJ w fun ρ K => iE S xp (.callm f i es) ρ K) := by
  cases e with
  | Call fe l kws p =>
    cases fe with
    | Name x p2 =>
      cases kws with
      | nil =>
        cases l with
        | nil => simp [mE] at h
        | cons e1 l =>
          cases e1 with
          | Name y p3 =>
            simp only [mE, Bool.and_eq_true, decide_eq_true_eq] at h
            obtain ⟨⟨⟨⟨⟨⟨h1, h2⟩, h3⟩, h4⟩, h5⟩, h6⟩, h7⟩ := h
            simp only [iE]
            cases hf : S.fs[f]? with
            | none => rw [hf] at h1; exact absurd h1 Bool.false_ne_true
            | some c =>
              rw [hf] at h1
              have ex : x = c.name := of_decide_eq_true h1
              subst ex
              subst hw
              obtain ⟨k, fa, fd, ps, ds, dvs, F, hr, hm, hk, hb, hd, hdv⟩ := fc f c hf
              have hA := hA _ h7
              have hpl := backTo_plain (pos := p) (X := X) h7
              have hv := pe_var (pos := p3) h4 (g.vis h5) (noDb_1 h6) (noDb_2 h6)
              exact (pe_callSD F hr (g.gl h2) hm hk hb hd (fun σ => passAt hx σ) (pa_cons hv hA (star_plain rfl)) (noDb_1 h3) (star_plain rfl) hpl).imp fun σ H Q q => callm_data hdv q
          | _ => simp [mE] at h
      | cons _ _ => cases l with
        | nil => simp [mE] at h
        | cons e1 _ => cases e1 <;> simp [mE] at h
    | _ => simp [mE] at h
  | _ => simp [mE] at h

mutual
theorem sE {S : Sg} {G : Gd} : ∀ (c : C) {X : Cx} {sc : Scope} {e : Expr}, XG S G sc X → FnCs S G X → mE S X.N sc c e = true → ∀ (w : Wd) (xp : XP), w.G = G → XOk X w xp → PE X e (tJ w fun ρ K => iE S xp c ρ K)
  | .var i, X, sc, e, g, fc, h, w, xp, hw, hx => e_var g h
  | .int i, X, sc, e, g, fc, h, w, xp, hw, hx => by
    cases e with
    | Constant k j p =>
      cases k with
      | int j =>
        simp only [mE, decide_eq_true_eq] at h
        subst h
        simp only [iE]
        exact j_const pe_int fun F => Rep.int' _
      | _ => simp [mE] at h
    | _ => simp [mE] at h
  | .str i, X, sc, e, g, fc, h, w, xp, hw, hx => by
    cases e with
    | Constant k j p =>
      cases k with
      | str j =>
        simp only [mE, decide_eq_true_eq] at h
        subst h
        simp only [iE]
        exact j_const pe_str fun F => Rep.str' _
      | _ => simp [mE] at h
    | _ => simp [mE] at h
  | .bl i, X, sc, e, g, fc, h, w, xp, hw, hx => by
    cases e with
    | Constant k j p =>
      cases k with
      | bool j =>
        simp only [mE, beq_iff_eq] at h
        subst h
        simp only [iE]
        exact j_const pe_bl fun F => Rep.bl' _
      | _ => simp [mE] at h
    | _ => simp [mE] at h
  | .non, X, sc, e, g, fc, h, w, xp, hw, hx => by
    cases e with
    | Constant k j p =>
      cases k with
      | none =>
        simp only [iE]
        exact j_const pe_non fun F => Rep.non'
      | _ => simp [mE] at h
    | _ => simp [mE] at h
  | .glob x, X, sc, e, g, fc, h, w, xp, hw, hx => by
    cases e with
    | Name y p =>
      simp only [mE, Bool.and_eq_true, decide_eq_true_eq] at h
      obtain ⟨⟨rfl, h2⟩, h3⟩ := h
      subst hw
      simp only [iE]
      cases hd : S.gv.lookup x with
      | none =>
        refine ⟨fun pins s σ H Q I q => ?_⟩
        obtain ⟨_, _, _, _, z, _⟩ := q
        exact z.elim
      | some d =>
        obtain ⟨u, v, hm, rv, rp⟩ := g.gv x d hd
        exact j_const (pe_glob (g.gl h2) hm rv (noDb_1 h3)) rp
    | _ => simp [mE] at h
  | .bin o a b, X, sc, e, g, fc, h, w, xp, hw, hx => by
    cases e with
    | BinOp ea op eb p =>
      simp only [mE, Bool.and_eq_true] at h
      simp only [iE]
      exact j_bin (op_at (by rw [hw]; exact g.K) h.1.1) (sE a g fc h.1.2 w xp hw hx) (sE b g fc h.2 w xp hw hx)
    | _ => simp [mE] at h
  | .neg a, X, sc, e, g, fc, h, w, xp, hw, hx => by
    cases e with
    | UnaryOp op ea p =>
      cases op with
      | USub =>
        simp only [mE] at h
        simp only [iE]
        exact j_neg (sE a g fc h w xp hw hx)
      | _ => simp [mE] at h
    | _ => simp [mE] at h
  | .cmp o a b, X, sc, e, g, fc, h, w, xp, hw, hx => by
    cases e with
    | Compare ea ops es p =>
      match ops, es, h with
      | [op], [eb], h =>
        simp only [mE, Bool.and_eq_true] at h
        simp only [iE]
        exact j_cmp (cm_at (by rw [hw]; exact g.K) g.hu h.1.1.1) h.1.1.2 (sE a g fc h.1.2 w xp hw hx) (sE b g fc h.2 w xp hw hx)
      | [], _, h => simp [mE] at h
      | [_], [], h => simp [mE] at h
      | [_], _ :: _ :: _, h => simp [mE] at h
      | _ :: _ :: _, _, h => simp [mE] at h
    | _ => simp [mE] at h
  | .cmp2 o o' a b c, X, sc, e, g, fc, h, w, xp, hw, hx => by
    cases e with
    | Compare ea ops es p =>
      match ops, es, h with
      | [op, op'], [eb, ec], h =>
        simp only [mE, Bool.and_eq_true] at h
        simp only [iE]
        obtain ⟨⟨⟨⟨⟨⟨h1, h2⟩, h3⟩, h4⟩, h5⟩, h6⟩, h7⟩ := h
        exact j_cmp2 (cm_at (by rw [hw]; exact g.K) g.hu h1) (cm_at (by rw [hw]; exact g.K) g.hu h2) h3 h4 (sE a g fc h5 w xp hw hx) (sE b g fc h6 w xp hw hx) (sE c g fc h7 w xp hw hx)
      | [], _, h => simp [mE] at h
      | [_], _, h => simp [mE] at h
      | [_, _], [], h => simp [mE] at h
      | [_, _], [_], h => simp [mE] at h
      | [_, _], _ :: _ :: _ :: _, h => simp [mE] at h
      | _ :: _ :: _ :: _, _, h => simp [mE] at h
    | _ => simp [mE] at h
  | .and a b, X, sc, e, g, fc, h, w, xp, hw, hx => by
    cases e with
    | BoolOp op l p =>
      match op, l, h with
      | .And, ea :: eb :: r, h =>
        simp only [mE, Bool.and_eq_true] at h
        simp only [iE]
        exact j_and (sE a g fc h.1 w xp hw hx) (sE b g fc h.2 w xp hw hx)
      | .And, [], h => simp [mE] at h
      | .And, [_], h => simp [mE] at h
      | .Or, _, h => simp [mE] at h
    | _ => simp [mE] at h
  | .or a b, X, sc, e, g, fc, h, w, xp, hw, hx => by
    cases e with
    | BoolOp op l p =>
      match op, l, h with
      | .Or, ea :: eb :: r, h =>
        simp only [mE, Bool.and_eq_true] at h
        simp only [iE]
        exact j_or (sE a g fc h.1 w xp hw hx) (sE b g fc h.2 w xp hw hx)
      | .Or, [], h => simp [mE] at h
      | .Or, [_], h => simp [mE] at h
      | .And, _, h => simp [mE] at h
    | _ => simp [mE] at h
  | .one a, X, sc, e, g, fc, h, w, xp, hw, hx => by
    cases e with
    | BoolOp op l p =>
      match l, h with
      | [ea], h =>
        simp only [mE] at h
        simp only [iE]
        exact pe_one (sE a g fc h w xp hw hx)
      | [], h => simp [mE] at h
      | _ :: _ :: _, h => simp [mE] at h
    | _ => simp [mE] at h
  | .not a, X, sc, e, g, fc, h, w, xp, hw, hx => by
    cases e with
    | UnaryOp op ea p =>
      cases op with
      | Not =>
        simp only [mE] at h
        simp only [iE]
        exact j_not (sE a g fc h w xp hw hx)
      | _ => simp [mE] at h
    | _ => simp [mE] at h
  | .ife t a b, X, sc, e, g, fc, h, w, xp, hw, hx => by
    cases e with
    | IfExp et ea eb p =>
      simp only [mE, Bool.and_eq_true] at h
      simp only [iE]
      exact j_ife (sT t g fc h.1.1 w xp hw hx) (sE a g fc h.1.2 w xp hw hx) (sE b g fc h.2 w xp hw hx)
    | _ => simp [mE] at h
  | .tup es, X, sc, e, g, fc, h, w, xp, hw, hx => by
    cases e with
    | Tuple l k p =>
      simp only [mE] at h
      simp only [iE]
      exact j_tup (sAs es g fc h w xp hw hx)
    | _ => simp [mE] at h
  | .lst es, X, sc, e, g, fc, h, w, xp, hw, hx => by
    cases e with
    | List l p =>
      simp only [mE] at h
      simp only [iE]
      exact j_lst (sAs es g fc h w xp hw hx)
    | _ => simp [mE] at h
  | .ix a b, X, sc, e, g, fc, h, w, xp, hw, hx => by
    cases e with
    | Subscript ea eb p =>
      simp only [mE, Bool.and_eq_true] at h
      simp only [iE]
      exact j_ix (ix_D (by rw [hw]; exact g.K) (by rw [hw]; exact g.w)) h.1.1 (sE a g fc h.1.2 w xp hw hx) (sE b g fc h.2 w xp hw hx)
    | _ => simp [mE] at h
  | .sl a lo hi, X, sc, e, g, fc, h, w, xp, hw, hx => by
    cases e with
    | Subscript ea eb p =>
      cases eb with
      | Slice l u st p2 =>
        cases st with
        | none =>
          simp only [mE, Bool.and_eq_true] at h
          simp only [iE]
          exact j_sl (by rw [hw]; exact g.K) (sE a g fc h.1.1 w xp hw hx) (sO lo g fc h.1.2 w xp hw hx) (sO hi g fc h.2 w xp hw hx)
        | some _ => simp [mE] at h
      | _ => simp [mE] at h
    | _ => simp [mE] at h
  | .bi b es, X, sc, e, g, fc, h, w, xp, hw, hx => e_bi g h hw fun l hl => sRs es g fc hl w xp hw hx
  | .call f es, X, sc, e, g, fc, h, w, xp, hw, hx => e_call g fc h hw hx fun l hl => sAs es g fc hl w xp hw hx
  | .callm f i es, X, sc, e, g, fc, h, w, xp, hw, hx => e_callm g fc h hw hx fun l hl => sAs es g fc hl w xp hw hx
  | .comp own t it ifs c, X, sc, e, g, fc, h, w, xp, hw, hx => by
    cases e with
    | ListComp elt gens scope p =>
      cases gens with
      | nil => simp [mE] at h
      | cons g0 gs =>
        cases gs with
        | cons _ _ => obtain ⟨tg, iter, is, asy⟩ := g0; simp [mE] at h
        | nil =>
          obtain ⟨tg, iter, is, asy⟩ := g0
          have e0 : asy = 0 := by
            by_cases z : asy = 0
            · exact z
            · simp [mE, z] at h
          subst e0
          simp only [mE, Bool.and_eq_true] at h
          obtain ⟨⟨⟨⟨⟨h1, h2⟩, h3⟩, h4⟩, h5⟩, h6⟩ := h
          simp only [iE]
          subst hw
          exact (pe_lc g.calm g.nd (sI it g fc h3 w xp rfl hx) (blk_ok g h1)
            (fun s H C cl fp => g_ok (w := w) (X := X.blk s H scope (compEnvC scope cl C X.env) fp) (xg_blk g) rfl t tg h4)
            (fun s H C cl fp => pts_ex fun w' hw' => sTs ifs (X := X.blk s H scope (compEnvC scope cl C X.env) fp) (xg_blk g) (fun i e he => fc i e he) h5 w' _ hw' xok_never)
            (fun s H C cl fp => pe_ex fun w' hw' => sE c (X := X.blk s H scope (compEnvC scope cl C X.env) fp) (xg_blk g) (fun i e he => fc i e he) h6 w' _ hw' xok_never)
            (set_plain h2)).imp fun σ H Q q => lc_data (wi := tJI w fun ρ K => iI S xp it ρ K) q
    | _ => simp [mE] at h
theorem sW {S : Sg} {G : Gd} : ∀ (c : C) {X : Cx} {sc : Scope} {op : BoolOp} {l : List Expr} {p : Pos}, XG S G sc X → FnCs S G X → mE S X.N sc c (.BoolOp op l p) = true → ∀ (w : Wd) (xp : XP), w.G = G → XOk X w xp → PW X (.BoolOp op l p) (tJT w fun ρ K => iT S xp c ρ K)
  | .and a b, X, sc, op, l, p, g, fc, h, w, xp, hw, hx => by
    match op, l, h with
    | .And, ea :: eb :: r, h =>
      simp only [mE, Bool.and_eq_true] at h
      simp only [iT]
      exact jt_and (sT a g fc h.1 w xp hw hx) (sW b g fc h.2 w xp hw hx)
    | .And, [], h => simp [mE] at h
    | .And, [_], h => simp [mE] at h
    | .Or, _, h => simp [mE] at h
  | .or a b, X, sc, op, l, p, g, fc, h, w, xp, hw, hx => by
    match op, l, h with
    | .Or, ea :: eb :: r, h =>
      simp only [mE, Bool.and_eq_true] at h
      simp only [iT]
      exact jt_or (sT a g fc h.1 w xp hw hx) (sW b g fc h.2 w xp hw hx)
    | .Or, [], h => simp [mE] at h
    | .Or, [_], h => simp [mE] at h
    | .And, _, h => simp [mE] at h
  | .one a, X, sc, op, l, p, g, fc, h, w, xp, hw, hx => by
    match op, l, h with
    | .And, [ea], h =>
      simp only [mE] at h
      simp only [iT]
      exact pw_and1 (sT a g fc h w xp hw hx)
    | .Or, [ea], h =>
      simp only [mE] at h
      simp only [iT]
      exact pw_or1 (sT a g fc h w xp hw hx)
    | _, [], h => simp [mE] at h
    | _, _ :: _ :: _, h => simp [mE] at h
  | .var _, X, sc, op, l, p, g, fc, h, w, xp, hw, hx => by simp [mE] at h
  | .int _, X, sc, op, l, p, g, fc, h, w, xp, hw, hx => by simp [mE] at h
  | .str _, X, sc, op, l, p, g, fc, h, w, xp, hw, hx => by simp [mE] at h
  | .bl _, X, sc, op, l, p, g, fc, h, w, xp, hw, hx => by simp [mE] at h
  | .non, X, sc, op, l, p, g, fc, h, w, xp, hw, hx => by simp [mE] at h
  | .glob _, X, sc, op, l, p, g, fc, h, w, xp, hw, hx => by simp [mE] at h
  | .bin .., X, sc, op, l, p, g, fc, h, w, xp, hw, hx => by simp [mE] at h
  | .neg _, X, sc, op, l, p, g, fc, h, w, xp, hw, hx => by simp [mE] at h
  | .cmp .., X, sc, op, l, p, g, fc, h, w, xp, hw, hx => by simp [mE] at h
  | .cmp2 .., X, sc, op, l, p, g, fc, h, w, xp, hw, hx => by simp [mE] at h
  | .not _, X, sc, op, l, p, g, fc, h, w, xp, hw, hx => by simp [mE] at h
  | .ife .., X, sc, op, l, p, g, fc, h, w, xp, hw, hx => by simp [mE] at h
  | .tup _, X, sc, op, l, p, g, fc, h, w, xp, hw, hx => by simp [mE] at h
  | .lst _, X, sc, op, l, p, g, fc, h, w, xp, hw, hx => by simp [mE] at h
  | .ix .., X, sc, op, l, p, g, fc, h, w, xp, hw, hx => by simp [mE] at h
  | .sl .., X, sc, op, l, p, g, fc, h, w, xp, hw, hx => by simp [mE] at h
  | .bi .., X, sc, op, l, p, g, fc, h, w, xp, hw, hx => by simp [mE] at h
  | .call .., X, sc, op, l, p, g, fc, h, w, xp, hw, hx => by simp [mE] at h
  | .callm .., X, sc, op, l, p, g, fc, h, w, xp, hw, hx => by simp [mE] at h
  | .comp .., X, sc, op, l, p, g, fc, h, w, xp, hw, hx => by simp [mE] at h
theorem sT {S : Sg} {G : Gd} : ∀ (c : C) {X : Cx} {sc : Scope} {e : Expr}, XG S G sc X → FnCs S G X → mE S X.N sc c e = true → ∀ (w : Wd) (xp : XP), w.G = G → XOk X w xp → PT X e (tJT w fun ρ K => iT S xp c ρ K)
  | .and a b, X, sc, e, g, fc, h, w, xp, hw, hx => by
    cases e with
    | BoolOp op l p =>
      match op, l, h with
      | .And, ea :: eb :: r, h =>
        simp only [mE, Bool.and_eq_true] at h
        simp only [iT]
        exact (jt_and (sT a g fc h.1 w xp hw hx) (sW b g fc h.2 w xp hw hx)).pt
      | .And, [], h => simp [mE] at h
      | .And, [_], h => simp [mE] at h
      | .Or, _, h => simp [mE] at h
    | _ => simp [mE] at h
  | .or a b, X, sc, e, g, fc, h, w, xp, hw, hx => by
    cases e with
    | BoolOp op l p =>
      match op, l, h with
      | .Or, ea :: eb :: r, h =>
        simp only [mE, Bool.and_eq_true] at h
        simp only [iT]
        exact (jt_or (sT a g fc h.1 w xp hw hx) (sW b g fc h.2 w xp hw hx)).pt
      | .Or, [], h => simp [mE] at h
      | .Or, [_], h => simp [mE] at h
      | .And, _, h => simp [mE] at h
    | _ => simp [mE] at h
  | .one a, X, sc, e, g, fc, h, w, xp, hw, hx => by
    cases e with
    | BoolOp op l p =>
      match op, l, h with
      | .And, [ea], h =>
        simp only [mE] at h
        simp only [iT]
        exact (pw_and1 (sT a g fc h w xp hw hx)).pt
      | .Or, [ea], h =>
        simp only [mE] at h
        simp only [iT]
        exact (pw_or1 (sT a g fc h w xp hw hx)).pt
      | _, [], h => simp [mE] at h
      | _, _ :: _ :: _, h => simp [mE] at h
    | _ => simp [mE] at h
  | .not a, X, sc, e, g, fc, h, w, xp, hw, hx => by
    cases e with
    | UnaryOp op ea p =>
      cases op with
      | Not =>
        simp only [mE] at h
        simp only [iT]
        exact jt_not (sT a g fc h w xp hw hx)
      | _ => simp [mE] at h
    | _ => simp [mE] at h
  | .cmp o a b, X, sc, e, g, fc, h, w, xp, hw, hx => by
    cases e with
    | Compare ea ops es p =>
      match ops, es, h with
      | [op], [eb], h =>
        simp only [mE, Bool.and_eq_true] at h
        simp only [iT]
        exact jt_cmp (cm_at (by rw [hw]; exact g.K) g.hu h.1.1.1) h.1.1.2 (sE a g fc h.1.2 w xp hw hx) (sE b g fc h.2 w xp hw hx)
      | [], _, h => simp [mE] at h
      | [_], [], h => simp [mE] at h
      | [_], _ :: _ :: _, h => simp [mE] at h
      | _ :: _ :: _, _, h => simp [mE] at h
    | _ => simp [mE] at h
  | .cmp2 o o' a b c, X, sc, e, g, fc, h, w, xp, hw, hx => by
    cases e with
    | Compare ea ops es p =>
      match ops, es, h with
      | [op, op'], [eb, ec], h =>
        simp only [mE, Bool.and_eq_true] at h
        simp only [iT]
        obtain ⟨⟨⟨⟨⟨⟨h1, h2⟩, h3⟩, h4⟩, h5⟩, h6⟩, h7⟩ := h
        exact jt_cmp2 (cm_at (by rw [hw]; exact g.K) g.hu h1) (cm_at (by rw [hw]; exact g.K) g.hu h2) h3 h4 (sE a g fc h5 w xp hw hx) (sE b g fc h6 w xp hw hx) (sE c g fc h7 w xp hw hx)
      | [], _, h => simp [mE] at h
      | [_], _, h => simp [mE] at h
      | [_, _], [], h => simp [mE] at h
      | [_, _], [_], h => simp [mE] at h
      | [_, _], _ :: _ :: _ :: _, h => simp [mE] at h
      | _ :: _ :: _ :: _, _, h => simp [mE] at h
    | _ => simp [mE] at h
  | .var i, X, sc, e, g, fc, h, w, xp, hw, hx => by
    cases e with
    | Name x p =>
      have hE := e_var (w := w) (xp := xp) g h
      refine (jt_val (by rw [hw]; exact g.K) (fun _ => rfl) hE).imp fun σ H Q q => ?_
      obtain ⟨F, ρ, l, Kd, q, k⟩ := q
      refine ⟨F, ρ, l, Kd, ?_, k⟩
      simp only [iT] at q
      simp only [iE]
      unfold rdr at q
      split at q
      · cases ‹R.pl i = R.v _›
      · cases ‹R.pl i = R.n _›
      · rename_i j ej
        cases ej
        split at q
        · rename_i b xs eo
          rw [eo]
          simp only [R.stl, rdr, eo]
          exact q
        · rename_i d eo
          rw [eo]
          simp only [R.stl, rdr]
          exact q
        · exact q.elim
    | _ => simp [mE] at h
  | .bi b es, X, sc, e, g, fc, h, w, xp, hw, hx => by
    cases e with
    | Call f l kws p =>
      have hE := e_bi (w := w) (xp := xp) g h hw fun l hl => sRs es g fc hl w xp hw hx
      have hf : ∃ x p2, f = .Name x p2 := by
        cases f with
        | Name x p2 => exact ⟨_, _, rfl⟩
        | _ => simp [mE] at h
      obtain ⟨x, p2, rfl⟩ := hf
      refine (jt_val (by rw [hw]; exact g.K) (fun _ => rfl) hE).imp fun σ H Q q => ?_
      obtain ⟨F, ρ, l, Kd, q, k⟩ := q
      refine ⟨F, ρ, l, Kd, ?_, k⟩
      simp only [iT] at q
      simp only [iE]
      have e1 : ∀ ρ1, (fun r : Res => rdr ρ1 (R.ofRes r).stl fun d => truD d fun b => Kd b ρ1) = fun r => match r with
          | .d x => truD x fun b => Kd b ρ1
          | .n xs => Kd (!xs.isEmpty) ρ1 := fun ρ1 => by funext r; cases r <;> rfl
      simp only [e1]
      exact q
    | _ => simp [mE] at h
  | .call f es, X, sc, e, g, fc, h, w, xp, hw, hx => by
    cases e with
    | Call fe l kws p =>
      have hE := e_call (w := w) (xp := xp) g fc h hw hx fun l hl => sAs es g fc hl w xp hw hx
      have hf : ∃ x p2, fe = .Name x p2 := by
        cases fe with
        | Name x p2 => exact ⟨_, _, rfl⟩
        | _ => simp [mE] at h
      obtain ⟨x, p2, rfl⟩ := hf
      refine (jt_val (by rw [hw]; exact g.K) (fun _ => rfl) hE).imp fun σ H Q q => ?_
      obtain ⟨F, ρ, l, Kd, q, k⟩ := q
      refine ⟨F, ρ, l, Kd, ?_, k⟩
      simp only [iT] at q
      simp only [iE]
      have e1 : ∀ ρ1, (fun (r : Res) (_ : List D) => rdr ρ1 (R.ofRes r).stl fun d => truD d fun b => Kd b ρ1) = fun r _ => match r with
          | .d x => truD x fun b => Kd b ρ1
          | .n xs => Kd (!xs.isEmpty) ρ1 := fun ρ1 => by funext r _; cases r <;> rfl
      simp only [e1]
      exact q
    | _ => simp [mE] at h
  | .callm f i es, X, sc, e, g, fc, h, w, xp, hw, hx => by
    cases e with
    | Call fe l kws p =>
      have hE := e_callm (w := w) (xp := xp) g fc h hw hx fun l hl => sAs es g fc hl w xp hw hx
      have hf : ∃ x p2, fe = .Name x p2 := by
        cases fe with
        | Name x p2 => exact ⟨_, _, rfl⟩
        | _ => simp [mE] at h
      obtain ⟨x, p2, rfl⟩ := hf
      refine (jt_val (by rw [hw]; exact g.K) (fun _ => rfl) hE).imp fun σ H Q q => ?_
      obtain ⟨F, ρ, l, Kd, q, k⟩ := q
      refine ⟨F, ρ, l, Kd, ?_, k⟩
      simp only [iT] at q
      simp only [iE]
      have e1 : ∀ (ρ1 : Rho) (b : Bool), (fun (r : Res) (bag : List D) => rdr (ρ1.set i (Sl.ow b bag)) (R.ofRes r).stl fun d => truD d fun c => Kd c (ρ1.set i (Sl.ow b bag))) = fun r bag => match r with
          | .d x => truD x fun c => Kd c (ρ1.set i (Sl.ow b bag))
          | .n xs => Kd (!xs.isEmpty) (ρ1.set i (Sl.ow b bag)) := fun ρ1 b => by funext r bag; cases r <;> rfl
      simp only [e1]
      exact q
    | _ => simp [mE] at h
  | .int i, X, sc, e, g, fc, h, w, xp, hw, hx => jt_no (by intro ρ K q; simp only [iT] at q)
  | .str i, X, sc, e, g, fc, h, w, xp, hw, hx => jt_no (by intro ρ K q; simp only [iT] at q)
  | .bl i, X, sc, e, g, fc, h, w, xp, hw, hx => jt_no (by intro ρ K q; simp only [iT] at q)
  | .non, X, sc, e, g, fc, h, w, xp, hw, hx => jt_no (by intro ρ K q; simp only [iT] at q)
  | .glob i, X, sc, e, g, fc, h, w, xp, hw, hx => jt_no (by intro ρ K q; simp only [iT] at q)
  | .bin .., X, sc, e, g, fc, h, w, xp, hw, hx => jt_no (by intro ρ K q; simp only [iT] at q)
  | .neg .., X, sc, e, g, fc, h, w, xp, hw, hx => jt_no (by intro ρ K q; simp only [iT] at q)
  | .ife .., X, sc, e, g, fc, h, w, xp, hw, hx => jt_no (by intro ρ K q; simp only [iT] at q)
  | .tup .., X, sc, e, g, fc, h, w, xp, hw, hx => jt_no (by intro ρ K q; simp only [iT] at q)
  | .lst .., X, sc, e, g, fc, h, w, xp, hw, hx => jt_no (by intro ρ K q; simp only [iT] at q)
  | .ix .., X, sc, e, g, fc, h, w, xp, hw, hx => jt_no (by intro ρ K q; simp only [iT] at q)
  | .sl .., X, sc, e, g, fc, h, w, xp, hw, hx => jt_no (by intro ρ K q; simp only [iT] at q)
  | .comp .., X, sc, e, g, fc, h, w, xp, hw, hx => jt_no (by intro ρ K q; simp only [iT] at q)
theorem sTs {S : Sg} {G : Gd} : ∀ (cs : Cs) {X : Cx} {sc : Scope} {es : List Expr}, XG S G sc X → FnCs S G X → mTs S X.N sc cs es = true → ∀ (w : Wd) (xp : XP), w.G = G → XOk X w xp → PTs X es (tJT w fun ρ K => iTs S xp cs ρ K)
  | .nil, X, sc, es, g, fc, h, w, xp, hw, hx => by
    cases es with
    | nil =>
      refine ⟨fun pins s σ H Q I q => pts_nil.run pins s σ H Q I ?_⟩
      obtain ⟨F, ρ, l, Kd, q, k⟩ := q
      simp only [iTs] at q
      exact k true ρ F H le_rfl' l q
    | cons _ _ => simp [mTs] at h
  | .cons c .nil, X, sc, es, g, fc, h, w, xp, hw, hx => by
    match es, h with
    | [e], h =>
      simp only [mTs] at h
      simp only [iTs]
      exact pts_one (sT c g fc h w xp hw hx)
    | [], h => simp [mTs] at h
    | _ :: _ :: _, h => simp [mTs] at h
  | .cons _ (.cons _ _), X, sc, es, g, fc, h, w, xp, hw, hx => by
    cases es <;> simp [mTs] at h
theorem sI {S : Sg} {G : Gd} : ∀ (it : Src) {X : Cx} {sc : Scope} {e tg : Expr}, XG S G sc X → FnCs S G X → mI S X.N sc it e tg = true → ∀ (w : Wd) (xp : XP), w.G = G → XOk X w xp → PI X tg e (tJI w fun ρ K => iI S xp it ρ K)
  | .seq c, X, sc, e, tg, g, fc, h, w, xp, hw, hx => by
    simp only [mI] at h
    simp only [iI]
    exact ji_seq (by rw [hw]; exact g.K) (sE c g fc h w xp hw hx)
  | .rng1 c, X, sc, e, tg, g, fc, h, w, xp, hw, hx => by
    cases e with
    | Call fe l kws p =>
      cases fe with
      | Name x p2 =>
        match l, kws, h with
        | [e], [], h =>
          simp only [mI, Bool.and_eq_true, decide_eq_true_eq] at h
          obtain ⟨⟨⟨rfl, h2⟩, h3⟩, h4⟩ := h
          simp only [iI]
          exact ji_rng1 h3 (g.gl h2) (g.bn _ (by decide +kernel)) (sE c g fc h4 w xp hw hx)
        | [], _, h => simp [mI] at h
        | [_], _ :: _, h => simp [mI] at h
        | _ :: _ :: _, _, h => simp [mI] at h
      | _ => simp [mI] at h
    | _ => simp [mI] at h
  | .rng2 a b, X, sc, e, tg, g, fc, h, w, xp, hw, hx => by
    cases e with
    | Call fe l kws p =>
      cases fe with
      | Name x p2 =>
        match l, kws, h with
        | [e, f], [], h =>
          simp only [mI, Bool.and_eq_true, decide_eq_true_eq] at h
          obtain ⟨⟨⟨⟨⟨rfl, h2⟩, h3⟩, h4⟩, h5⟩, h6⟩ := h
          simp only [iI]
          exact ji_rng2 h3 h4 (g.gl h2) (g.bn _ (by decide +kernel)) (sE a g fc h5 w xp hw hx) (sE b g fc h6 w xp hw hx)
        | [], _, h => simp [mI] at h
        | [_], _, h => simp [mI] at h
        | [_, _], _ :: _, h => simp [mI] at h
        | _ :: _ :: _ :: _, _, h => simp [mI] at h
      | _ => simp [mI] at h
    | _ => simp [mI] at h
  | .zip a b, X, sc, e, tg, g, fc, h, w, xp, hw, hx => by
    cases e with
    | Call fe l kws p =>
      cases fe with
      | Name x p2 =>
        match l, kws, h with
        | [e, f], [], h =>
          cases tg with
          | Tuple elts kk tpos =>
            simp only [mI, Bool.and_eq_true, decide_eq_true_eq] at h
            obtain ⟨⟨⟨⟨⟨rfl, h2⟩, h3⟩, h4⟩, h5⟩, h6⟩ := h
            simp only [iI]
            exact ji_zip h3 h4 (g.gl h2) (g.bn _ (by decide +kernel)) (sE a g fc h5 w xp hw hx) (sE b g fc h6 w xp hw hx)
          | _ => exact absurd h Bool.false_ne_true
        | [], _, h => exact absurd h Bool.false_ne_true
        | [_], _, h => exact absurd h Bool.false_ne_true
        | [_, _], _ :: _, h => exact absurd h Bool.false_ne_true
        | _ :: _ :: _ :: _, _, h => exact absurd h Bool.false_ne_true
      | _ => exact absurd h Bool.false_ne_true
    | _ => exact absurd h Bool.false_ne_true
theorem sO {S : Sg} {G : Gd} : ∀ (c : Co) {X : Cx} {sc : Scope} {e : Option Expr}, XG S G sc X → FnCs S G X → mO S X.N sc c e = true → ∀ (w : Wd) (xp : XP), w.G = G → XOk X w xp → PO X e (tJO w fun ρ K => iO S xp c ρ K)
  | .no, X, sc, e, g, fc, h, w, xp, hw, hx => by
    cases e with
    | none =>
      simp only [iO]
      exact jo_no
    | some _ => simp [mO] at h
  | .so c, X, sc, e, g, fc, h, w, xp, hw, hx => by
    cases e with
    | none => simp [mO] at h
    | some e =>
      simp only [mO] at h
      simp only [iO]
      exact jo_so (sE c g fc h w xp hw hx)
theorem sAs {S : Sg} {G : Gd} : ∀ (cs : Cs) {X : Cx} {sc : Scope} {es : List Expr}, XG S G sc X → FnCs S G X → mEs S X.N sc cs es = true → ∀ (w : Wd) (xp : XP), w.G = G → XOk X w xp → PA X es (tJA w fun ρ K => iAs S xp cs ρ K)
  | .nil, X, sc, es, g, fc, h, w, xp, hw, hx => by
    cases es with
    | nil =>
      simp only [iAs]
      exact ja_nil
    | cons _ _ => simp [mEs] at h
  | .cons c r, X, sc, es, g, fc, h, w, xp, hw, hx => by
    cases es with
    | nil => simp [mEs] at h
    | cons e es =>
      simp only [mEs, Bool.and_eq_true] at h
      simp only [iAs]
      exact ja_cons h.1.1 (sE c g fc h.1.2 w xp hw hx) (sAs r g fc h.2 w xp hw hx)
theorem sRs {S : Sg} {G : Gd} : ∀ (cs : Cs) {X : Cx} {sc : Scope} {es : List Expr}, XG S G sc X → FnCs S G X → mEs S X.N sc cs es = true → ∀ (w : Wd) (xp : XP), w.G = G → XOk X w xp → PA X es (tJR w fun ρ K => iRs S xp cs ρ K)
  | .nil, X, sc, es, g, fc, h, w, xp, hw, hx => by
    cases es with
    | nil =>
      simp only [iRs]
      exact jr_nil
    | cons _ _ => simp [mEs] at h
  | .cons c r, X, sc, es, g, fc, h, w, xp, hw, hx => by
    cases es with
    | nil => simp [mEs] at h
    | cons e es =>
      simp only [mEs, Bool.and_eq_true] at h
      simp only [iRs]
      exact jr_cons h.1.1 (sE c g fc h.1.2 w xp hw hx) (sRs r g fc h.2 w xp hw hx)
end
end DL

/-! DY: the rules are sound for every statement of the small language. -/
namespace DL
open PySem L2

def Fits (w : Wd) (F : Hp) (E : DE) (D : Ends) : Prop := ∀ ρ' σ' F' H', Le F F' → Rl w F' H' σ' ρ' → (E.nx ρ' → D.nx σ' H') ∧ (E.bk ρ' → D.bk σ' H') ∧ (E.ct ρ' → D.ct σ' H') ∧ ∀ r v, RelR w F' H' σ' ρ' v r → E.rt r ρ' → D.rt v H'
def tJS (w : Wd) (f : Rho → DE → Prop) : TS := fun D σ H => ∃ F ρ, Rl w F H σ ρ ∧ ∃ E : DE, f ρ E ∧ Fits w F E D
theorem _root_.L2.PS.imp {X : Cx} {e : Stmt} {t t' : TS} (h : PS X e t) (k : ∀ D σ H, t' D σ H → t D σ H) : PS X e t' := ⟨fun pins s σ H D I q => h.run pins s σ H D I (k D σ H q)⟩
theorem _root_.L2.PSs.imp {X : Cx} {e : List Stmt} {t t' : TS} (h : PSs X e t) (k : ∀ D σ H, t' D σ H → t D σ H) : PSs X e t' := ⟨fun pins s σ H D I q => h.run pins s σ H D I (k D σ H q)⟩

section
variable {S : Sg} {G : Gd} {X : Cx} {w : Wd} {sc : Scope} {xp : XP} {e ea eb ec tg : Expr} {pos p : Pos} {Dn : Ends} {E : DE} {F F' H H' : Hp} {σ : St} {ρ : Rho} {v : V}
theorem Fits.mono (h : Le F F') (k : Fits w F E Dn) : Fits w F' E Dn := fun ρ' σ' F1 H1 le l => k ρ' σ' F1 H1 (le_tr h le) l
theorem Fits.nx (k : Fits w F E Dn) (le : Le F F') (l : Rl w F' H σ ρ) (q : E.nx ρ) : Dn.nx σ H := (k ρ σ F' H le l).1 q
theorem s_nil : PSs X [] (tJS w fun ρ E => E.nx ρ) := pss_nil.imp fun Dn σ H q => by
  obtain ⟨F, ρ, l, E, q, k⟩ := q
  exact k.nx le_rfl' l q
theorem s_cons {st : Stmt} {sts : List Stmt} {f g : Rho → DE → Prop} (h1 : PS X st (tJS w f)) (h2 : PSs X sts (tJS w g)) : PSs X (st :: sts) (tJS w fun ρ E => f ρ { E with nx := fun ρ1 => g ρ1 E }) := (pss_cons h1 h2).imp fun Dn σ H q => by
  obtain ⟨F, ρ, l, E, q, k⟩ := q
  refine ⟨F, ρ, l, _, q, fun ρ' σ' F' H' le l' => ?_⟩
  obtain ⟨k1, k2, k3, k4⟩ := k ρ' σ' F' H' le l'
  exact ⟨fun q' => ⟨F', ρ', l', E, q', k.mono le⟩, k2, k3, k4⟩
theorem s_next {st : Stmt} (h : PS X st tNext) : PS X st (tJS w fun ρ E => E.nx ρ) := h.imp fun Dn σ H q => by
  obtain ⟨F, ρ, l, E, q, k⟩ := q
  exact k.nx le_rfl' l q
theorem s_brk : PS X (.Break pos) (tJS w fun ρ E => E.bk ρ) := ps_break.imp fun Dn σ H q => by
  obtain ⟨F, ρ, l, E, q, k⟩ := q
  exact (k ρ σ F H le_rfl' l).2.1 q
theorem s_cont : PS X (.Continue pos) (tJS w fun ρ E => E.ct ρ) := ps_continue.imp fun Dn σ H q => by
  obtain ⟨F, ρ, l, E, q, k⟩ := q
  exact (k ρ σ F H le_rfl' l).2.2.1 q
theorem s_nev {st : Stmt} : PS X st (tJS w fun _ _ => False) := ps_never.imp fun Dn σ H q => by
  obtain ⟨F, ρ, l, E, q, k⟩ := q
  exact q.elim
theorem s_ex {f : Rho → KR → Prop} (h : PE X e (tJ w f)) (hs : swapsWith e none pos.line X.env = pure false) : PS X (.Expr e pos) (tJS w fun ρ E => f ρ fun _ ρ1 => E.nx ρ1) := (ps_expr h hs).imp fun Dn σ H q => by
  obtain ⟨F, ρ, l, E, q, k⟩ := q
  exact ⟨F, ρ, l, _, q, fun r ρ' F' H' v le l' rr q' => k.nx le l' q'⟩
theorem s_ret {f : Rho → KR → Prop} (h : PE X e (tJ w f)) : PS X (.Return (some e) pos) (tJS w fun ρ E => f ρ E.rt) := (ps_ret h).imp fun Dn σ H q => by
  obtain ⟨F, ρ, l, E, q, k⟩ := q
  exact ⟨F, ρ, l, _, q, fun r ρ' F' H' v le l' rr q' => (k ρ' σ F' H' le l').2.2.2 r v rr q'⟩
theorem s_retn : PS X (.Return none pos) (tJS w fun ρ E => E.rt (.v .non) ρ) := ps_retN.imp fun Dn σ H q => by
  obtain ⟨F, ρ, l, E, q, k⟩ := q
  exact (k ρ σ F H le_rfl' l).2.2.2 (.v .non) .non (Rep.non' (G := w.G) (F := F)) q
theorem s_ife {ft : Rho → (Bool → Rho → Prop) → Prop} {f g : Rho → DE → Prop} {a b : List Stmt} (ht : PT X e (tJT w ft)) (ha : PSs X a (tJS w f)) (hb : PSs X b (tJS w g)) :
    PS X (.If e a b pos) (tJS w fun ρ E => ft ρ fun c ρ1 => if c = true then f ρ1 E else g ρ1 E) := (ps_if ht ha hb).imp fun Dn σ H q => by
  obtain ⟨F, ρ, l, E, q, k⟩ := q
  refine ⟨F, ρ, l, _, q, fun c ρ' F' H' le l' q' => ?_⟩
  cases c with
  | true => rw [if_pos rfl] at q' ⊢; exact ⟨F', ρ', l', E, q', k.mono le⟩
  | false => rw [if_neg Bool.false_ne_true] at q' ⊢; exact ⟨F', ρ', l', E, q', k.mono le⟩
theorem forD_w {t : Tg} {fb : Rho → DE → Prop} {tb : TS} {body : List Stmt} {J : It} {ds : List D} {G : Gd} (hw : w.G = G) (htb : tb = tJS w fb) (it : Items G J ds F) (l : Rl w F H σ ρ) (k : Fits w F E Dn) (h : forD t fb ds ρ E) (ok : List Nat → Bool) :
    ∃ W : Nat → Nat → St → Hp → Prop, (∃ m, W 0 m σ H) ∧ ∀ i m σ H, W i m σ H →
      (J.stop i H ∧ Dn.nx σ H) ∨ (J.go i H ∧ ∃ N : St → Hp → Prop, (∀ σ' H', N σ' H' → ∃ m', m' < m ∧ W (i + 1) m' σ' H') ∧ ∀ x H', J.yld i H x H' → gJ G (fun d ρ K => tgD t d ρ K) ok x σ H' fun σ2 H2 => tb { Dn with nx := N, ct := N, bk := Dn.nx } σ2 H2) := by
  subst htb
  refine ⟨fun i m σ H => m = ds.length - i ∧ i ≤ ds.length ∧ ∃ F' ρ', Le F F' ∧ Rl w F' H σ ρ' ∧ forD t fb (ds.drop i) ρ' E, ⟨ds.length, by simp, Nat.zero_le _, F, ρ, le_rfl', l, h⟩, ?_⟩
  rintro i m σ1 H1 ⟨rfl, hi, F1, ρ1, le1, l1, q⟩
  obtain ⟨i1, i2⟩ := it i F1 H1 le1 l1.le hi
  by_cases hlt : i < ds.length
  · obtain ⟨go, y⟩ := i2 ds[i] (by simp [hlt])
    refine .inr ⟨go, fun σ' H' => i < ds.length ∧ ∃ F' ρ', Le F F' ∧ Rl w F' H' σ' ρ' ∧ forD t fb (ds.drop (i + 1)) ρ' E, fun σ' H' p' => ⟨ds.length - (i + 1), by omega, rfl, hlt, p'.2⟩, fun x H2 y2 => ?_⟩
    obtain ⟨F2, gr, rp⟩ := y x H2 y2
    rw [List.drop_eq_getElem_cons hlt] at q
    simp only [forD] at q
    refine ⟨w, F2, ρ1, ds[i], hw, l1.grow gr, rp, _, q, fun ρ' σ' l' _ q' => ?_⟩
    refine ⟨F2, ρ', l', _, q', fun ρ'' σ'' F'' H'' le'' l'' => ?_⟩
    have le3 : Le F F'' := le_tr le1 (le_tr gr.fm le'')
    obtain ⟨k1, k2, k3, k4⟩ := k ρ'' σ'' F'' H'' le3 l''
    exact ⟨fun q => ⟨hlt, F'', ρ'', le3, l'', q⟩, k1, fun q => ⟨hlt, F'', ρ'', le3, l'', q⟩, k4⟩
  · have e0 : i = ds.length := by omega
    rw [e0, List.drop_length] at q
    exact .inl ⟨i1 e0, k.nx le1 l1 q⟩
theorem s_for {t : Tg} {fi : Rho → (List D → Rho → Prop) → Prop} {fb : Rho → DE → Prop} {body : List Stmt} {iter : Expr} {ok : List Nat → Bool} (hp : PassesOwn (model X.prog X.w) X.A X.env X.xe) (g : XG S w.G sc X) (hpl : plainE iter = true)
    (hi : PI X tg iter (tJI w fi)) (hg : PG X tg (gJ w.G (fun d ρ K => tgD t d ρ K) ok)) (hb : PSs X body (tJS w fb)) : PS X (.For tg iter body [] pos) (tJS w fun ρ E => fi ρ fun ds ρ1 => forD t fb ds ρ1 E) :=
  (ps_for hp g.calm hi hg hb (set_plain hpl)).imp fun Dn σ H q => by
    obtain ⟨F, ρ, l, E, q, k⟩ := q
    exact ⟨F, ρ, l, _, q, fun ds ρ' F' H' J le l' it q' => forD_w (body := body) rfl rfl it l' (k.mono le) q' ok⟩
theorem s_while {ft : Rho → (Bool → Rho → Prop) → Prop} {fb : Rho → DE → Prop} {body : List Stmt} (hp : PassesOwn (model X.prog X.w) X.A X.env X.xe) (ht : PT X e (tJT w ft)) (hb : PSs X body (tJS w fb)) :
    PS X (.While e body [] pos) (tJS w fun ρ E => ∃ I : Nat → Rho → Prop, (∃ m, I m ρ) ∧ ∀ m ρ, I m ρ → ft ρ fun c ρ1 =>
      if c = true then fb ρ1 { E with nx := fun ρ2 => ∃ m', m' < m ∧ I m' ρ2, ct := fun ρ2 => ∃ m', m' < m ∧ I m' ρ2, bk := E.nx } else E.nx ρ1) :=
  (ps_while hp ht hb).imp fun Dn σ H q => by
    obtain ⟨F, ρ, l, E, ⟨I, ⟨m0, i0⟩, q⟩, k⟩ := q
    refine ⟨fun m σ H => ∃ F' ρ', Le F F' ∧ Rl w F' H σ ρ' ∧ I m ρ', ⟨m0, F, ρ, le_rfl', l, i0⟩, ?_⟩
    rintro m σ1 H1 ⟨F1, ρ1, le1, l1, i1⟩
    refine ⟨F1, ρ1, l1, _, q m ρ1 i1, fun c ρ2 F2 H2 le2 l2 q2 => ?_⟩
    cases c with
    | false => rw [if_neg Bool.false_ne_true] at q2 ⊢; exact k.nx (le_tr le1 le2) l2 q2
    | true =>
      rw [if_pos rfl] at q2 ⊢
      refine ⟨fun σ' H' => ∃ m', m' < m ∧ ∃ F' ρ', Le F F' ∧ Rl w F' H' σ' ρ' ∧ I m' ρ', fun σ' H' ⟨m', hm, q'⟩ => ⟨m', hm, q'⟩, F2, ρ2, l2, _, q2, fun ρ3 σ3 F3 H3 le3 l3 => ?_⟩
      have le4 : Le F F3 := le_tr le1 (le_tr le2 le3)
      obtain ⟨k1, k2, k3, k4⟩ := k ρ3 σ3 F3 H3 le4 l3
      exact ⟨fun ⟨m', hm, q'⟩ => ⟨m', hm, F3, ρ3, le4, l3, q'⟩, k1, fun ⟨m', hm, q'⟩ => ⟨m', hm, F3, ρ3, le4, l3, q'⟩, k4⟩
/-- the store of a value that is an expression's -/
theorem setR_rl {i : Nat} {r : R} {K : Rho → Prop} (l : Rl w F H σ ρ) (rr : RelR w F H σ ρ v r) (h : setR ρ i r K) : ∃ F' ρ', Le F F' ∧ Rl w F' H (σ.set i (some v)) ρ' ∧ K ρ' := by
  cases r with
  | v d => exact ⟨F, _, le_rfl', l.set (par_open l h.1) rr, h.2⟩
  | n xs =>
    obtain ⟨p, vs, rfl, ha, rl, hF, h0, hf, fr⟩ := rr
    exact ⟨F, _, le_rfl', l.setow (par_open l h.1) ha rl hF h0 hf fr, h.2⟩
  | pl j =>
    obtain ⟨d, F', ρ', le, l', rp, h⟩ := frz_rel (r := .pl j) l rr (show frz ρ (.pl j) (fun d ρ' => open? ρ' i = true ∧ K (ρ'.set i (.fz d))) from h)
    exact ⟨F', _, le, l'.set (par_open l' h.1) rp, h.2⟩
theorem s_set {i : Nat} {f : Rho → KR → Prop} {st : Stmt} (h : PS X st (tAsg (tJ w f) (gName i))) : PS X st (tJS w fun ρ E => f ρ fun r ρ1 => setR ρ1 i r E.nx) := h.imp fun Dn σ H q => by
  obtain ⟨F, ρ, l, E, q, k⟩ := q
  refine ⟨F, ρ, l, _, q, fun r ρ' F' H' v le l' rr q' => ?_⟩
  obtain ⟨F2, ρ2, le2, l2, q2⟩ := setR_rl l' rr q'
  exact k.nx (le_tr le le2) l2 q2
theorem s_tgt {t : Tg} {f : Rho → KR → Prop} {ok : List Nat → Bool} {st : Stmt} (h : PS X st (tAsg (tJ w f) (gJ w.G (fun d ρ K => tgD t d ρ K) ok))) : PS X st (tJS w fun ρ E => f ρ fun r ρ1 => frz ρ1 r.stl fun d ρ2 => tgD t d ρ2 E.nx) := h.imp fun Dn σ H q => by
  obtain ⟨F, ρ, l, E, q, k⟩ := q
  refine tJ_settled l q fun x ρ1 F1 H1 v le1 l1 rx h1 => ?_
  obtain ⟨d, F2, ρ2, le2, l2, rp, h2⟩ := frz_rel l1 rx h1
  exact ⟨w, F2, ρ2, d, rfl, l2, rp, _, h2, fun ρ' σ' l' _ q' => k.nx (le_tr le1 le2) l' q'⟩
theorem s_par {i j : Nat} {f : Rho → (List D → Rho → Prop) → Prop} {st : Stmt} (h : PS X st (tPar i j (tJA w f))) : PS X st (tJS w fun ρ E => f ρ fun ds ρ1 => match ds with
    | [d, e] => (open? ρ1 i = true ∧ open? ρ1 j = true) ∧ E.nx ((ρ1.set i (.fz d)).set j (.fz e))
    | _ => False) := h.imp fun Dn σ H q => by
  obtain ⟨F, ρ, l, E, q, k⟩ := q
  refine ⟨F, ρ, l, _, q, fun ds ρ1 F1 H1 vs le1 l1 rl q1 => ?_⟩
  split at q1
  · rename_i d e
    obtain ⟨v, r, rfl, rv, rl⟩ := rl.inv
    obtain ⟨u, r, rfl, ru, rl⟩ := rl.inv
    have := rl.nil_inv
    subst this
    have l2 := (l1.set (par_open l1 q1.1.1) rv).set (i := j) (par_open l1 q1.1.2) ru
    exact ⟨v, u, rfl, k.nx le1 l2 q1.2⟩
  · exact q1.elim
theorem ow_write {i : Nat} {b : Bool} {xs ys : List D} {a : Addr} {us : List V} (l : Rl w F H σ ρ) (e : ρ[i]? = some (Sl.ow b xs)) (es : σ[i]? = some (some (V.ref a))) (rl : RepL w.G F us ys) : Rl w F (upd H a (.lst us)) σ (ρ.set i (Sl.ow b ys)) := l.write e es rl
theorem ow_has {i : Nat} {b : Bool} {xs : List D} {a : Addr} (l : Rl w F H σ ρ) (e : ρ[i]? = some (Sl.ow b xs)) (es : σ[i]? = some (some (V.ref a))) : ∃ vs, H a = some (.lst vs) ∧ RepL w.G F vs xs := by
  obtain ⟨a', vs, es', ha, rl, _⟩ := l.sl i _ e
  rw [es] at es'
  injection es' with q; injection q with q; injection q with q
  subst q
  exact ⟨vs, ha, rl⟩
theorem isOw_ex {i : Nat} (h : isOw ρ i = true) : ∃ b xs, ρ[i]? = some (Sl.ow b xs) := by
  unfold isOw at h
  split at h
  · exact ⟨_, _, ‹_›⟩
  · cases h
/-- xs[k] = c -/
theorem s_seti {i : Nat} {fc fk : Rho → KR → Prop} {st : Stmt} (h : PS X st (tAsg (tJ w fc) (gSub (tVar i) (tJ w fk) rSetL))) : PS X st (tJS w fun ρ E => fc ρ fun x ρ1 => frz ρ1 x.stl fun d ρ2 => isOw ρ2 i = true ∧ fk ρ2 fun y ρ3 => match y, ρ3[i]? with
    | .v (.int n), some (.ow b xs) => ∃ j, ixN xs.length n = some j ∧ E.nx (ρ3.set i (.ow b (xs.set j d)))
    | _, _ => False) := h.imp fun Dn σ H q => by
  obtain ⟨F, ρ, l, E, q, k⟩ := q
  refine tJ_settled l q fun x ρ1 F1 H1 v le1 l1 rx h1 => ?_
  obtain ⟨d, F2, ρ2, le2, l2, rp, h0, h2⟩ := frz_rel l1 rx h1
  obtain ⟨a, es⟩ := ow_at l2 h0
  refine ⟨.ref a, es, F2, ρ2, l2, _, h2, fun y ρ3 F3 H3 u le3 l3 ry h3 => ?_⟩
  split at h3
  · rename_i n b xs e
    obtain ⟨j, hj, q3⟩ := h3
    obtain ⟨vs, ha, rl⟩ := ow_has l3 e es
    simp only [RelR, Rep] at ry
    subst ry
    refine ⟨a, vs, n, j, rfl, rfl, ha, by rw [rl.length]; exact hj, ?_⟩
    exact k.nx (le_tr le1 (le_tr le2 le3)) (l3.write e es (rl.set j (Rep.mono le3 _ _ rp))) q3
  · exact h3.elim
/-- xs[k] by values -/
def rGetL (K : PySem.W.Frag) : V → V → Hp → VK → Prop := fun x y H Q => ∃ p xs i v, x = .ref p ∧ y = .int i ∧ SqL K H p xs ∧ atI xs i = some v ∧ Q v H
theorem get_list : PGet X (rGetL X.K) := by
  intro pins s σ H x y v u Q I rx ry h
  obtain ⟨p, xs, i, z, rfl, rfl, hq, he, q⟩ := h
  cases rx
  obtain ⟨t, rfl⟩ := ry
  obtain ⟨its, r, pl, hz⟩ := I.list hq
  obtain ⟨j, h1, h2, h3, h4, h5⟩ := atI_get he
  obtain ⟨w, ew, rw'⟩ := r.get h2
  have hl := r.length
  have hn := line63
  have fin : EP X pins σ Q w s := ⟨z, H, I, rw', q⟩
  by_cases h0 : 0 ≤ i
  · have hj : i.toNat = j := by
      rw [seqIndex_of h0 h5] at h1
      exact Option.some.inj h1
    exact wpAny_getItem_list (x := w) pl.isList h0 (by omega) (by rw [hj]; simpa using ew) fin
  · have hj : (i + (its.toArray.size : Int)).toNat = j := by
      rw [seqIndex_neg (by omega) h4] at h1
      rw [List.size_toArray, ← hl]
      exact Option.some.inj h1
    exact wpAny_getItem_list_neg pl.isList (by omega) (by rw [List.size_toArray] <;> omega) (by omega) (by rw [hj]; simpa using ew) fin
theorem atI_rep {G : Gd} {F : Hp} {vs : List V} {xs : List D} {n : Int} {m : D} (rl : RepL G F vs xs) (h : atI xs n = some m) : ∃ v, atI vs n = some v ∧ Rep G F v m := by
  unfold atI at h ⊢
  rw [rl.length]
  cases e : ixN xs.length n with
  | none => rw [e] at h; simp at h
  | some j =>
    rw [e] at h
    exact rl.get h
theorem s_augi {i : Nat} {fc fk : Rho → KR → Prop} {st : Stmt} (hK : w.G.K = X.K) (h : PS X st (tAugS (tVar i) (tJ w fk) (tJ w fc) (rGetL X.K) (ipI fun i j => i + j) rSetL)) : PS X st (tJS w fun ρ E => isOw ρ i = true ∧ fk ρ fun y ρ1 => match y, ρ1[i]? with
    | .v (.int n), some (.ow _ xs) => ∃ m, atI xs n = some (.int m) ∧ fc ρ1 fun z ρ2 => match z, ρ2[i]? with
      | .v (.int l), some (.ow b ys) => ∃ j, ixN ys.length n = some j ∧ E.nx (ρ2.set i (.ow b (ys.set j (.int (m + l)))))
      | _, _ => False
    | _, _ => False) := h.imp fun Dn σ H q => by
  obtain ⟨F, ρ, l, E, ⟨h0, q⟩, k⟩ := q
  obtain ⟨a, es⟩ := ow_at l h0
  refine ⟨.ref a, es, F, ρ, l, _, q, fun y ρ1 F1 H1 u le1 l1 ry h1 => ?_⟩
  split at h1
  · rename_i n b xs e
    obtain ⟨m, hm, q1⟩ := h1
    obtain ⟨vs, ha, rl⟩ := ow_has l1 e es
    simp only [RelR, Rep] at ry
    subst ry
    obtain ⟨v, hv, rv⟩ := atI_rep rl hm
    simp only [Rep] at rv
    subst rv
    refine ⟨a, vs, n, _, rfl, rfl, SqL.of ha, hv, F1, ρ1, l1, _, q1, fun z ρ2 F2 H2 u2 le2 l2 rz h2 => ?_⟩
    split at h2
    · rename_i l' b2 ys e2
      obtain ⟨j, hj, q3⟩ := h2
      obtain ⟨vs2, ha2, rl2⟩ := ow_has l2 e2 es
      simp only [RelR, Rep] at rz
      subst rz
      refine ⟨m, l', rfl, rfl, a, vs2, n, j, rfl, rfl, ha2, by rw [rl2.length]; exact hj, ?_⟩
      exact k.nx (le_tr le1 le2) (l2.write e2 es (rl2.set j (Rep.int' _))) q3
    · exact h2.elim
  · exact h1.elim
theorem s_aug {i : Nat} {fc : Rho → KR → Prop} {st : Stmt} (h : PS X st (tAug i (tJ w fc) (ipI fun i j => i + j))) : PS X st (tJS w fun ρ E => match ρ[i]? with
    | some (.fz dx) => fc ρ fun y ρ1 => rdr ρ1 y.stl fun dy => match dx, dy with
      | .int m, .int l => open? ρ1 i = true ∧ E.nx (ρ1.set i (.fz (.int (m + l))))
      | _, _ => False
    | _ => False) := h.imp fun Dn σ H q => by
  obtain ⟨F, ρ, l, E, q, k⟩ := q
  split at q
  · rename_i dx e
    obtain ⟨v, es, rp⟩ := l.sl i _ e
    refine ⟨v, es, tJ_settled l q fun y ρ1 F1 H1 u le1 l1 ry h1 => ?_⟩
    obtain ⟨dy, rd, h1⟩ := rdr_rel l1 ry h1
    cases dx with
    | int m =>
      cases dy with
      | int l' =>
        have rd : Rep w.G F1 u (.int l') := rd
        simp only [Rep] at rp rd
        subst rp
        subst rd
        exact ⟨m, l', rfl, rfl, k.nx le1 (l1.set (par_open l1 h1.1) (Rep.int' _)) h1.2⟩
      | _ => exact (show False from h1).elim
    | _ => exact (show False from h1).elim
  · exact q.elim
theorem s_app {i : Nat} {fc : Rho → KR → Prop} {st : Stmt} (hK : w.G.K = X.K) (h : PS X st (tDrop (tBM X.K "list" rAppend (tVar i) (tJA w fun ρ K => fc ρ fun x ρ1 => frz ρ1 x.stl fun d ρ2 => (fun ρ K => K [] ρ) ρ2 fun ds ρ3 => K (d :: ds) ρ3)))) :
    PS X st (tJS w fun ρ E => isOw ρ i = true ∧ fc ρ fun x ρ1 => frz ρ1 x.stl fun d ρ2 => match ρ2[i]? with
    | some (.ow b xs) => xs.length < sizeLine ∧ E.nx (ρ2.set i (.ow b (xs ++ [d])))
    | _ => False) := h.imp fun Dn σ H q => by
  obtain ⟨F, ρ, l, E, ⟨h0, q⟩, k⟩ := q
  obtain ⟨b, xs, e⟩ := isOw_ex h0
  obtain ⟨a, vs, es, ha, _⟩ := l.sl i _ e
  refine ⟨.ref a, es, .inl ⟨rfl, vs, SqL.of ha⟩, F, ρ, l, fun ds ρ2 => match ds with
    | [d] => (match ρ2[i]? with
      | some (.ow b xs) => xs.length < sizeLine ∧ E.nx (ρ2.set i (.ow b (xs ++ [d])))
      | _ => False)
    | _ => False, q, fun ds ρ1 F1 H1 us le1 l1 rl q1 => ?_⟩
  cases ds with
  | nil => exact (show False from q1).elim
  | cons d r => cases r with
    | cons _ _ => exact (show False from q1).elim
    | nil =>
      have q1 : (match ρ1[i]? with
        | some (.ow b xs) => xs.length < sizeLine ∧ E.nx (ρ1.set i (.ow b (xs ++ [d])))
        | _ => False) := q1
      split at q1
      · rename_i b xs e
        obtain ⟨vs, ha, rl2⟩ := ow_has l1 e es
        obtain ⟨u, r, rfl, ru, rl⟩ := rl.inv
        have := rl.nil_inv
        subst this
        refine ⟨a, vs, u, rfl, rfl, ha, by rw [rl2.length]; exact q1.1, k.nx le1 (l1.write e es (rl2.append (.cons ru .nil))) q1.2⟩
      · exact q1.elim
/-- the frame of a def -/
structure XS (S : Sg) (G : Gd) (sc : Scope) (X : Cx) : Prop extends XG S G sc X where
  hp : PassesOwn (model X.prog X.w) X.A X.env X.xe
  bk : X.env.blockKind = .function
def isComp (e : Expr) : Prop := (∃ elt gens scope q, e = .ListComp elt gens scope q) ∨ (∃ elt gens scope q, e = .SetComp elt gens scope q) ∨ ∃ k v gens scope q, e = .DictComp k v gens scope q
theorem swap_cases (e : Expr) (p : Pos) (x : Str) (ln : Nat) (env : Env) : swapsWith e (some (.Name x p)) ln env = pure false ∨ (swapsWith e (some (.Name x p)) ln env = pure true ∧ env.scope.names.lookup x = some .local ∧ isComp e) := by
  have fin : ∀ (scope : Scope) (q : Pos), isComp e → (let b := env.blockKind == .function && env.kindOf x == some .local && p.line == q.line && !(scope.names.any fun (n, k) => n == x && (k == .local || k == .cell)); (pure b : Sem Bool) = pure false ∨ ((pure b : Sem Bool) = pure true ∧ env.scope.names.lookup x = some .local ∧ isComp e)) := fun scope q ic => by
    intro b
    cases hb : b with
    | false => exact .inl rfl
    | true =>
      refine .inr ⟨rfl, ?_, ic⟩
      simp only [b, Bool.and_eq_true, beq_iff_eq] at hb
      exact hb.1.1.2
  cases e <;> first
    | exact .inl rfl
    | exact fin _ _ (.inl ⟨_, _, _, _, rfl⟩)
    | exact fin _ _ (.inr (.inl ⟨_, _, _, _, rfl⟩))
    | exact fin _ _ (.inr (.inr ⟨_, _, _, _, _, rfl⟩))
theorem mE_lc {N : List Str} {c : C} (h : mE S N sc c e = true) (ic : isComp e) : (∃ own t it ifs c', c = .comp own t it ifs c') ∧ ∃ elt gens scope q, e = .ListComp elt gens scope q := by
  rcases ic with ⟨_, _, _, _, rfl⟩ | ⟨_, _, _, _, rfl⟩ | ⟨_, _, _, _, _, rfl⟩
  · exact ⟨by cases c <;> first | exact ⟨_, _, _, _, _, rfl⟩ | simp [mE] at h, _, _, _, _, rfl⟩
  · cases c <;> simp [mE] at h
  · cases c <;> simp [mE] at h
theorem ne_starred {a : Expr} (h : plainE a = true) : (match a with | .Starred .. => true | _ => false) = false := by
  cases a <;> first | rfl | exact absurd h (by simp [plainE])
theorem swapped_par {x y : Str} {px py pt : Pos} {kt k2 : Nat} {pt2 : Pos} {env : Env} (hb : env.blockKind = .function) (hx : env.scope.names.lookup x = some .local) (hy : env.scope.names.lookup y = some .local) (hl : px.line = py.line) (hne : x ≠ y)
    (hf : (!foldedForSure 8 ea || !foldedForSure 8 eb) = true) (hc : (!constantsAlone 8 ea || !constantsAlone 8 eb) = true) (ha : plainE ea = true) (hb' : plainE eb = true) :
    swappedStores [.Tuple [.Name x px, .Name y py] kt pt] (.Tuple [ea, eb] k2 pt2) env = pure (some [x, y]) := by
  have kx : env.kindOf x = some .local := hx
  have ky : env.kindOf y = some .local := hy
  have hf : (foldedForSure 8 ea && foldedForSure 8 eb) = false := by
    cases h1 : foldedForSure 8 ea <;> cases h2 : foldedForSure 8 eb <;> simp_all
  have hc : (constantsAlone 8 ea && constantsAlone 8 eb) = false := by
    cases h1 : constantsAlone 8 ea <;> cases h2 : constantsAlone 8 eb <;> simp_all
  have hne' : (y == x) = false := by simpa using fun z : y = x => hne z.symm
  have hp : (Expr.Name x px).pos = px := rfl
  simp [swappedStores, hb, kx, ky, hl, hf, hc, List.eraseDups_cons, hne']
  rw [if_neg]
  · simp [hp, kx, ky, hl, List.eraseDups_cons, hne']
  · rintro (h | h)
    · cases ea <;> first | exact absurd h Bool.false_ne_true | exact absurd ha (by simp [plainE])
    · cases eb <;> first | exact absurd h Bool.false_ne_true | exact absurd hb' (by simp [plainE])
end

section
variable {S : Sg} {G : Gd} {X : Cx} {w : Wd} {sc : Scope} {xp : XP}
theorem q_set {i : Nat} {c : C} (g : XS S G sc X) (fc : FnCs S G X) (hw : w.G = G) (hx : XOk X w xp) {st : Stmt} (h : mS S X.N sc (.set i c) st = true) : PS X st (tJS w fun ρ E => iS S xp (.set i c) ρ E) := by
  have hst : ∃ x px e p, st = .Assign [.Name x px] e p := by
    cases st <;> first
      | (rename_i ts e p
         cases ts with
         | nil => simp [mS] at h
         | cons t0 r => cases t0 <;> cases r <;> first | exact ⟨_, _, _, _, rfl⟩ | simp [mS] at h)
      | simp [mS] at h
  obtain ⟨x, px, e, p, rfl⟩ := hst
  simp only [mS, Bool.and_eq_true, decide_eq_true_eq] at h
  obtain ⟨⟨⟨h1, h2⟩, h3⟩, h4⟩ := h
  obtain ⟨l1, l2⟩ := g.toXG.loc h2
  simp only [iS]
  rcases swap_cases e px x p.line X.env with hs | ⟨hs, hl, ic⟩
  · exact s_set (ps_set g.nd h1 l1 (sE c g.toXG fc h4 w xp hw hx) hs l2)
  · obtain ⟨⟨own, t, it, ifs, c', rfl⟩, elt, gens, scope, q, rfl⟩ := mE_lc h4 ic
    cases gens with
    | nil => simp [mE] at h4
    | cons g0 gs =>
      cases gs with
      | cons _ _ => obtain ⟨tg, iter, is, asy⟩ := g0; simp [mE] at h4
      | nil =>
        obtain ⟨tg, iter, is, asy⟩ := g0
        have e0 : asy = 0 := by
          by_cases z : asy = 0
          · exact z
          · simp [mE, z] at h4
        subst e0
        simp only [mE, Bool.and_eq_true] at h4
        obtain ⟨⟨⟨⟨⟨k1, k2⟩, k3⟩, k4⟩, k5⟩, k6⟩ := h4
        subst hw
        refine s_set (f := fun ρ K => iE S xp (.comp own t it ifs c') ρ K) ((ps_setLc g.calm g.nd h1 hl hs (sI it g.toXG fc k3 w xp rfl hx) (blk_ok g.toXG k1)
          (fun s H C cl fp => g_ok (w := w) (X := X.blk s H scope (compEnvC scope cl C X.env) fp) (xg_blk g.toXG) rfl t tg k4)
          (fun s H C cl fp => pts_ex fun w' hw' => sTs ifs (X := X.blk s H scope (compEnvC scope cl C X.env) fp) (xg_blk g.toXG) (fun i e he => fc i e he) k5 w' _ hw' xok_never)
          (fun s H C cl fp => pe_ex fun w' hw' => sE c' (X := X.blk s H scope (compEnvC scope cl C X.env) fp) (xg_blk g.toXG) (fun i e he => fc i e he) k6 w' _ hw' xok_never)
          (set_plain k2)).imp fun Dn σ H q => ?_)
        simp only [iE] at q
        exact lc_data (wi := tJI w fun ρ K => iI S xp it ρ K) q
theorem q_tgt {t : Tg} {c : C} (g : XS S G sc X) (fc : FnCs S G X) (hw : w.G = G) (hx : XOk X w xp) {st : Stmt} (h : mS S X.N sc (.tgt t c) st = true) : PS X st (tJS w fun ρ E => iS S xp (.tgt t c) ρ E) := by
  have hst : ∃ es k p e pos, st = .Assign [.Tuple es k p] e pos := by
    cases st <;> first
      | (rename_i ts e p
         cases ts with
         | nil => simp [mS] at h
         | cons t0 r => cases t0 <;> cases r <;> first | exact ⟨_, _, _, _, _, rfl⟩ | simp [mS] at h)
      | simp [mS] at h
  obtain ⟨es, k, p, e, pos, rfl⟩ := hst
  simp only [mS, Bool.and_eq_true] at h
  obtain ⟨⟨⟨h1, h2⟩, h3⟩, h4⟩ := h
  simp only [iS]
  subst hw
  refine s_tgt (ps_asg (sE c g.toXG fc h4 w xp rfl hx) (g_ok g.toXG rfl t _ h3) ?_ ?_)
  · cases e <;> rfl
  · cases e <;> first | rfl | exact absurd h2 Bool.false_ne_true
theorem q_par {i j : Nat} {a b : C} (g : XS S G sc X) (fc : FnCs S G X) (hw : w.G = G) (hx : XOk X w xp) {st : Stmt} (h : mS S X.N sc (.par i j a b) st = true) : PS X st (tJS w fun ρ E => iS S xp (.par i j a b) ρ E) := by
  have hst : ∃ x px y py k p ea eb k2 p2 pos, st = .Assign [.Tuple [.Name x px, .Name y py] k p] (.Tuple [ea, eb] k2 p2) pos := by
    unfold mS at h
    split at h <;> first | exact absurd h Bool.false_ne_true | skip
    all_goals first | exact ⟨_, _, _, _, _, _, _, _, _, _, _, rfl⟩ | simp_all
  obtain ⟨x, px, y, py, k, p, ea, eb, k2, p2, pos, rfl⟩ := hst
  simp only [mS, Bool.and_eq_true, decide_eq_true_eq] at h
  obtain ⟨⟨⟨⟨⟨⟨⟨⟨⟨⟨⟨h1, h2⟩, h3⟩, h4⟩, h5⟩, h6⟩, h7⟩, h8⟩, h9⟩, h10⟩, h11⟩, h12⟩ := h
  have lx : X.env.scope.names.lookup x = some .local := by
    rcases g.scr x _ h4 with q | ⟨q, _⟩
    · exact q
    · cases q
  have ly : X.env.scope.names.lookup y = some .local := by
    rcases g.scr y _ h5 with q | ⟨q, _⟩
    · exact q
    · cases q
  have hne : x ≠ y := fun z => by
    subst z
    have hi := (List.getElem?_eq_some_iff.mp h1).1
    have hj := (List.getElem?_eq_some_iff.mp h2).1
    exact h3 ((List.getElem?_inj hi g.nd).mp (h1.trans h2.symm))
  simp only [iS]
  subst hw
  have ha := ja_cons h9 (sE a g.toXG fc h11 w xp rfl hx) (ja_cons h10 (sE b g.toXG fc h12 w xp rfl hx) (ja_nil (w := w)))
  exact s_par (ps_par g.calm g.nd h1 h2 h3 lx ly ha (swapped_par g.bk lx ly h6 hne h7 h8 h9 h10))
theorem q_seti {i : Nat} {k c : C} (g : XS S G sc X) (fc : FnCs S G X) (hw : w.G = G) (hx : XOk X w xp) {st : Stmt} (h : mS S X.N sc (.seti i k c) st = true) : PS X st (tJS w fun ρ E => iS S xp (.seti i k c) ρ E) := by
  have hst : ∃ x px ek p e pos, st = .Assign [.Subscript (.Name x px) ek p] e pos := by
    unfold mS at h
    split at h <;> first | exact absurd h Bool.false_ne_true | skip
    all_goals first | exact ⟨_, _, _, _, _, _, rfl⟩ | simp_all
  obtain ⟨x, px, ek, p, e, pos, rfl⟩ := hst
  simp only [mS, Bool.and_eq_true, decide_eq_true_eq] at h
  obtain ⟨⟨⟨⟨⟨⟨⟨h1, h2⟩, h3⟩, h4⟩, h5⟩, h6⟩, h7⟩, h8⟩ := h
  simp only [iS]
  subst hw
  refine s_seti (ps_asg (sE c g.toXG fc h8 w xp rfl hx) (pg_sub (pe_var h1 (g.toXG.vis h2) (noDb_1 h3) (noDb_2 h3)) (sE k g.toXG fc h7 w xp rfl hx) set_list ?_) ?_ ?_)
  · cases ek <;> first | (intro _; rfl) | exact absurd h4 (by simp [plainE])
  · cases e <;> rfl
  · cases e <;> rfl
theorem q_augi {i : Nat} {k c : C} (g : XS S G sc X) (fc : FnCs S G X) (hw : w.G = G) (hx : XOk X w xp) {st : Stmt} (h : mS S X.N sc (.augi i k c) st = true) : PS X st (tJS w fun ρ E => iS S xp (.augi i k c) ρ E) := by
  have hst : ∃ x px ek p e pos, st = .AugAssign (.Subscript (.Name x px) ek p) .Add e pos := by
    unfold mS at h
    split at h <;> first | exact absurd h Bool.false_ne_true | skip
    all_goals first | exact ⟨_, _, _, _, _, _, rfl⟩ | simp_all
  obtain ⟨x, px, ek, p, e, pos, rfl⟩ := hst
  simp only [mS, Bool.and_eq_true, decide_eq_true_eq] at h
  obtain ⟨⟨⟨⟨⟨h1, h2⟩, h3⟩, h4⟩, h5⟩, h6⟩ := h
  simp only [iS]
  subst hw
  refine s_augi g.K (ps_augS (pe_var h1 (g.toXG.vis h2) (noDb_1 h3) (noDb_2 h3)) (sE k g.toXG fc h5 w xp rfl hx) get_list (sE c g.toXG fc h6 w xp rfl hx) ip_add set_list ?_)
  cases ek <;> first | (intros; rfl) | exact absurd h4 (by simp [plainE])
theorem q_aug {i : Nat} {c : C} (g : XS S G sc X) (fc : FnCs S G X) (hw : w.G = G) (hx : XOk X w xp) {st : Stmt} (h : mS S X.N sc (.aug i c) st = true) : PS X st (tJS w fun ρ E => iS S xp (.aug i c) ρ E) := by
  have hst : ∃ x px e pos, st = .AugAssign (.Name x px) .Add e pos := by
    unfold mS at h
    split at h <;> first | exact absurd h Bool.false_ne_true | skip
    all_goals first | exact ⟨_, _, _, _, rfl⟩ | simp_all
  obtain ⟨x, px, e, pos, rfl⟩ := hst
  simp only [mS, Bool.and_eq_true, decide_eq_true_eq] at h
  obtain ⟨⟨h1, h2⟩, h3⟩ := h
  obtain ⟨l1, l2⟩ := g.toXG.loc h2
  simp only [iS]
  exact s_aug (ps_aug g.nd h1 l1 (sE c g.toXG fc h3 w xp hw hx) ip_add l2)
theorem q_app {i : Nat} {c : C} (g : XS S G sc X) (fc : FnCs S G X) (hw : w.G = G) (hx : XOk X w xp) {st : Stmt} (h : mS S X.N sc (.app i c) st = true) : PS X st (tJS w fun ρ E => iS S xp (.app i c) ρ E) := by
  have hst : ∃ x px m ap e cp p, st = .Expr (.Call (.Attribute (.Name x px) m ap) [e] [] cp) p := by
    unfold mS at h
    split at h <;> first | exact absurd h Bool.false_ne_true | skip
    all_goals first | exact ⟨_, _, _, _, _, _, _, rfl⟩ | simp_all
  obtain ⟨x, px, m, ap, e, cp, p, rfl⟩ := hst
  simp only [mS, Bool.and_eq_true, decide_eq_true_eq] at h
  obtain ⟨⟨⟨⟨⟨⟨h1, rfl⟩, h2⟩, h3⟩, h4⟩, h5⟩, h6⟩ := h
  simp only [iS]
  subst hw
  have ha := ja_cons h5 (sE c g.toXG fc h6 w xp rfl hx) (ja_nil (w := w))
  refine s_app g.K (ps_expr (pe_bm PySem.F.plainAttrs_list PySem.F.slot_list_append PySem.F.type_list_append (fun pins s σ H x xs v us Q I r rs q => mt_append pins s σ H x xs v us Q I r rs q) (pe_var h2 (g.toXG.vis h3) (noDb_1 h4) (noDb_2 h4)) ha rfl ?_ h1 (star_plain h5) rfl) rfl)
  rw [star_plain h5]; rfl
end
end DL

/-! DZ: statements are sound; a def keeps its contract. -/
namespace DL
open PySem L2

mutual
theorem qS {S : Sg} {G : Gd} {sc : Scope} {xp : XP} : ∀ (s : Sm) {X : Cx} {st : Stmt}, XS S G sc X → FnCs S G X → mS S X.N sc s st = true → ∀ (w : Wd), w.G = G → XOk X w xp → PS X st (tJS w fun ρ E => iS S xp s ρ E)
  | .set i c, X, st, g, fc, h, w, hw, hx => q_set g fc hw hx h
  | .tgt t c, X, st, g, fc, h, w, hw, hx => q_tgt g fc hw hx h
  | .par i j a b, X, st, g, fc, h, w, hw, hx => q_par g fc hw hx h
  | .seti i k c, X, st, g, fc, h, w, hw, hx => q_seti g fc hw hx h
  | .augi i k c, X, st, g, fc, h, w, hw, hx => q_augi g fc hw hx h
  | .aug i c, X, st, g, fc, h, w, hw, hx => q_aug g fc hw hx h
  | .app i c, X, st, g, fc, h, w, hw, hx => q_app g fc hw hx h
  | .ex c, X, st, g, fc, h, w, hw, hx => by
    cases st with
    | Expr e p =>
      simp only [mS, Bool.and_eq_true] at h
      simp only [iS]
      exact s_ex (sE c g.toXG fc h.2 w xp hw hx) (by cases e <;> first | rfl | exact absurd h.1 Bool.false_ne_true)
    | _ => simp [mS] at h
  | .ret c, X, st, g, fc, h, w, hw, hx => by
    cases st with
    | Return e p =>
      cases e with
      | none => simp [mS] at h
      | some e =>
        simp only [mS] at h
        simp only [iS]
        exact s_ret (sE c g.toXG fc h w xp hw hx)
    | _ => simp [mS] at h
  | .retn, X, st, g, fc, h, w, hw, hx => by
    cases st with
    | Return e p =>
      cases e with
      | some _ => simp [mS] at h
      | none =>
        simp only [iS]
        exact s_retn
    | _ => simp [mS] at h
  | .ife t a b, X, st, g, fc, h, w, hw, hx => by
    cases st with
    | If et ea eb p =>
      simp only [mS, Bool.and_eq_true] at h
      simp only [iS]
      exact s_ife (sT t g.toXG fc h.1.1 w xp hw hx) (qSs a g fc h.1.2 w hw hx) (qSs b g fc h.2 w hw hx)
    | _ => simp [mS] at h
  | .for t it b, X, st, g, fc, h, w, hw, hx => by
    cases st with
    | For tg iter body els p =>
      cases els with
      | cons _ _ => simp [mS] at h
      | nil =>
        simp only [mS, Bool.and_eq_true] at h
        simp only [iS]
        subst hw
        exact s_for g.hp g.toXG h.1.1.1 (sI it g.toXG fc h.1.1.2 w xp rfl hx) (g_ok g.toXG rfl t tg h.1.2) (qSs b g fc h.2 w rfl hx)
    | _ => simp [mS] at h
  | .while t b, X, st, g, fc, h, w, hw, hx => by
    cases st with
    | While et body els p =>
      cases els with
      | cons _ _ => simp [mS] at h
      | nil =>
        simp only [mS, Bool.and_eq_true] at h
        simp only [iS]
        exact s_while g.hp (sT t g.toXG fc h.1 w xp hw hx) (qSs b g fc h.2 w hw hx)
    | _ => simp [mS] at h
  | .pass, X, st, g, fc, h, w, hw, hx => by
    simp only [iS]
    unfold mS at h
    split at h <;> first
      | exact s_next ps_pass
      | exact s_next ps_doc
      | exact absurd h Bool.false_ne_true
      | simp_all
  | .brk, X, st, g, fc, h, w, hw, hx => by
    cases st with
    | Break p =>
      simp only [iS]
      exact s_brk
    | _ => simp [mS] at h
  | .cont, X, st, g, fc, h, w, hw, hx => by
    cases st with
    | Continue p =>
      simp only [iS]
      exact s_cont
    | _ => simp [mS] at h
  | .nev, X, st, g, fc, h, w, hw, hx => by
    simp only [iS]
    exact s_nev
theorem qSs {S : Sg} {G : Gd} {sc : Scope} {xp : XP} : ∀ (ss : Ss) {X : Cx} {sts : List Stmt}, XS S G sc X → FnCs S G X → mSs S X.N sc ss sts = true → ∀ (w : Wd), w.G = G → XOk X w xp → PSs X sts (tJS w fun ρ E => iSs S xp ss ρ E)
  | .nil, X, sts, g, fc, h, w, hw, hx => by
    cases sts with
    | nil =>
      simp only [iSs]
      exact s_nil
    | cons _ _ => simp [mSs] at h
  | .cons s r, X, sts, g, fc, h, w, hw, hx => by
    cases sts with
    | nil => simp [mSs] at h
    | cons st sts =>
      simp only [mSs, Bool.and_eq_true] at h
      simp only [iSs]
      exact s_cons (qS s g fc h.1 w hw hx) (qSs r g fc h.2 w hw hx)
end
end DL

namespace DL
open PySem L2
/-! ### a def keeps its contract -/
def bagOf (m : Bool) (ρ : Rho) : List D := if m = true then (match (ρ[0]? : Option Sl) with | some (Sl.ow true xs) => xs | _ => []) else []
def finR (m : Bool) (Kd : Res → List D → Prop) (r : R) (ρ : Rho) : Prop := match r with
  | .v d => Kd (.d d) (bagOf m ρ)
  | .n xs => Kd (.n xs) (bagOf m ρ)
  | .pl i => match ρ[i]? with
    | some (.ow false xs) => Kd (.n xs) (bagOf m ρ)
    | some (.fz d) => Kd (.d d) (bagOf m ρ)
    | _ => False
/-- the slots at the entry -/
def start0 (m : Bool) (bag args : List D) (z : Nat) : Rho := (if m = true then [Sl.ow true bag] else []) ++ args.map Sl.fz ++ List.replicate z Sl.no
/-- what is known of the written part, for defs of level k -/
structure TW (S : Sg) (G : Gd) (P : Program) (w : World) (K : PySem.W.Frag) (mg : Str → Option Value) (base : Heap) (k : Nat) : Prop where
  eK : G.K = K
  ew : G.w = w
  gv : ∀ x d, S.gv.lookup x = some d → ∃ u v, mg x = some u ∧ RelV v u ∧ ∀ F, Rep G F v d
  bn : ∀ x : Str, x ∈ (["len", "max", "min", "list", "tuple", "sum", "any", "all", "int", "range", "zip"] : List Str) → mg x = none
  fs : ∀ (i : Nat) (e : FnE), S.fs[i]? = some e → ∃ k' f fd ps ds dvs, k' ≤ k ∧ FnOk P w K mg base (L2.CX P w) k' f fd ps (e.ct.sp G) ∧ mg e.name = some (.ref f) ∧ PySem.W.keepIn K (.ref f) = true ∧ Binds K fd ps ds ∧ Vals dvs ds ∧ ∀ F, RepL G F dvs e.dflt

section
variable {G : Gd} {F H F' H' : Hp} {σ' : St} {ρ' : Rho} {m : Bool} {bo : Option Addr} {bag args : List D} {vs : List V}
def parOf (bo : Option Addr) : Nat → Option Addr := fun i => if i = 0 then bo else none
theorem parOf_inv {i : Nat} {a : Addr} (h : parOf bo i = some a) : i = 0 ∧ bo = some a := by
  unfold parOf at h
  split at h
  · exact ⟨‹_›, h⟩
  · cases h
theorem start_fz {z : Nat} : ∀ (l : List D) (i : Nat) (s : Sl), ((l.map Sl.fz ++ List.replicate z Sl.no) : Rho)[i]? = some s → s = .no ∨ ∃ d, s = .fz d ∧ l[i]? = some d := fun l i s h => by
  by_cases hi : i < l.length
  · rw [List.getElem?_append_left (by simpa using hi), List.getElem?_map] at h
    cases e : l[i]? with
    | none => rw [e] at h; cases h
    | some d => rw [e] at h; cases h; exact .inr ⟨d, rfl, rfl⟩
  · rw [List.getElem?_append_right (by simpa using hi), List.getElem?_replicate] at h
    split at h
    · cases h; exact .inl rfl
    · cases h
theorem start_ok {N : List Str} {c : Ct} (hle : Le F H) (hN : vs.length ≤ N.length) (hn : args.length = c.n) (ha : ArgsAt G c F H vs bo bag args) :
    Rl ⟨G, F, H, parOf bo, fun _ => none⟩ F H (L2.start N vs) (start0 c.m bag args (N.length - vs.length)) := by
  have hlen : (L2.start N vs).length = (start0 c.m bag args (N.length - vs.length)).length := by
    unfold L2.start start0
    unfold ArgsAt at ha
    by_cases hm : c.m = true
    · rw [if_pos hm] at ha ⊢
      obtain ⟨a, vr, us, rfl, _, _, _, _, l⟩ := ha
      simp [l.length]
    · rw [if_neg hm] at ha ⊢
      simp [ha.2.2.length]
  have hsl : ∀ (i : Nat) (s : Sl), (start0 c.m bag args (N.length - vs.length))[i]? = some s → SlOk ⟨G, F, H, parOf bo, fun _ => none⟩ F H i (L2.start N vs)[i]? s ∧ ((∃ b xs, s = .ow b xs) → i = 0 ∧ ∃ a, bo = some a ∧ s = .ow true bag) := fun i s h => by
    unfold start0 at h
    unfold ArgsAt at ha
    have gv : ∀ (l : List V) (i : Nat) (v : V) (n : Nat), l[i]? = some v → (l.map some ++ List.replicate n (none : Option V))[i]? = some (some v) := fun l i v n e => by
      have hi := (List.getElem?_eq_some_iff.mp e).1
      rw [List.getElem?_append_left (by simpa using hi), List.getElem?_map, e]; rfl
    by_cases hm : c.m = true
    · rw [if_pos hm] at ha h
      obtain ⟨a, vr, us, rfl, rfl, hH, rb, hF, l⟩ := ha
      cases i with
      | zero =>
        have : s = .ow true bag := by simpa using h.symm
        subst this
        refine ⟨⟨a, us, gv _ 0 _ _ rfl, hH, rb, hF, rfl, by rw [if_pos rfl]; rfl⟩, fun _ => ⟨rfl, a, rfl, rfl⟩⟩
      | succ i =>
        have h : ((args.map Sl.fz ++ List.replicate (N.length - (V.ref a :: vr).length) Sl.no) : Rho)[i]? = some s := by simpa using h
        rcases start_fz args i s h with rfl | ⟨d, rfl, e⟩
        · exact ⟨trivial, fun ⟨_, _, z⟩ => by cases z⟩
        · obtain ⟨v, ev, rp⟩ := l.get e
          refine ⟨⟨v, ?_, rp⟩, fun ⟨_, _, z⟩ => by cases z⟩
          unfold L2.start
          exact gv (.ref a :: vr) (i + 1) v _ (by simpa using ev)
    · rw [if_neg hm] at ha h
      obtain ⟨rfl, rfl, l⟩ := ha
      have h : ((args.map Sl.fz ++ List.replicate (N.length - vs.length) Sl.no) : Rho)[i]? = some s := by simpa using h
      rcases start_fz args i s h with rfl | ⟨d, rfl, e⟩
      · exact ⟨trivial, fun ⟨_, _, z⟩ => by cases z⟩
      · obtain ⟨v, ev, rp⟩ := l.get e
        exact ⟨⟨v, gv vs i v _ ev, rp⟩, fun ⟨_, _, z⟩ => by cases z⟩
  refine ⟨hlen, hle, fun _ _ e => e, fun _ _ e _ => e, fun _ e => e, fun _ _ e => e, fun i s h => (hsl i s h).1, fun i a h => ?_, fun i j a b c' xs ys h1 h2 _ _ => ?_, fun _ _ e => by cases e⟩
  · obtain ⟨rfl, hb⟩ := parOf_inv h
    unfold ArgsAt at ha
    by_cases hm : c.m = true
    · exact ⟨bag, by unfold start0; rw [if_pos hm]; rfl⟩
    · rw [if_neg hm] at ha
      rw [ha.1] at hb; cases hb
  · exact ((hsl i _ h1).2 ⟨_, _, rfl⟩).1.trans ((hsl j _ h2).2 ⟨_, _, rfl⟩).1.symm
theorem end_step (hm : (m = true ∧ bo.isSome) ∨ (m = false ∧ bo = none)) (l : Rl ⟨G, F, H, parOf bo, fun _ => none⟩ F' H' σ' ρ') : Step G F H F' H' bo (bagOf m ρ') where
  fm := l.f0
  le := l.le
  kp := fun a o e hb => l.kp a o e fun i z => hb (parOf_inv z).2
  al := l.al
  nf := l.nf
  bg := fun a hb => by
    obtain ⟨xs, e⟩ := l.pr 0 a (by show parOf bo 0 = _; unfold parOf; rw [if_pos rfl]; exact hb)
    obtain ⟨a', us, es, ha, rl, _, _, c⟩ := l.sl 0 _ e
    have c : parOf bo 0 = some a' := by simpa using c
    have ea : a' = a := by
      have := (parOf_inv c).2
      rw [hb] at this; cases this; rfl
    subst ea
    refine ⟨us, ha, ?_⟩
    have hm' : m = true := by
      rcases hm with ⟨h, _⟩ | ⟨_, h⟩
      · exact h
      · rw [h] at hb; cases hb
    unfold bagOf
    rw [if_pos hm', e]
    exact rl
theorem end_res {Kd : Res → List D → Prop} {r : R} {v : V} (l : Rl ⟨G, F, H, parOf bo, fun _ => none⟩ F' H' σ' ρ') (rr : RelR ⟨G, F, H, parOf bo, fun _ => none⟩ F' H' σ' ρ' v r) (h : finR m Kd r ρ') : ∃ s, RRes G H F' H' v s ∧ Kd s (bagOf m ρ') := by
  cases r with
  | v d => exact ⟨.d d, rr, h⟩
  | n xs =>
    obtain ⟨p, vs, rfl, ha, rl, hF, h0, hf, fr⟩ := rr
    exact ⟨.n xs, ⟨p, vs, rfl, h0, ha, rl, hF⟩, h⟩
  | pl i =>
    have rr : σ'[i]? = some (some v) := rr
    unfold finR at h
    split at h <;> rename_i e <;> try cases e
    split at h <;> rename_i e
    · obtain ⟨a, vs, es, ha, rl, n, f, c⟩ := l.sl _ _ e
      rw [rr] at es
      cases es
      exact ⟨.n _, ⟨a, vs, rfl, by simpa using c, ha, rl, n⟩, h⟩
    · obtain ⟨u, es, rp⟩ := l.sl _ _ e
      rw [rr] at es
      cases es
      exact ⟨.d _, rp, h⟩
    · exact h.elim
end
theorem def_ok {S : Sg} {G : Gd} {P : Program} {w : World} {K : PySem.W.Frag} {mg : Str → Option Value} {base : Heap} {k : Nat} {x qual : Str} {st : Stmt} {f : Addr} {fd : FuncData} {N ps : List Str} (c : Ct) (body : Ss)
    (T : TW S G P w K mg base k) (Fn : Fun K x qual st f fd) (Sc : FnScope N ps (defScope st)) (hps : ps.length = if c.m = true then c.n + 1 else c.n) (hm : mSs S N (defScope st) body (defBody st) = true)
    (hsem : ∀ (Xd : Xn → List D → Prop) (bag args : List D) (Kd : Res → List D → Prop), args.length = c.n → c.sem Xd bag args Kd →
      iSs S (fun xn ρ => Xd xn (bagOf c.m ρ)) body (start0 c.m bag args (N.length - ps.length)) { nx := fun ρ => finR c.m Kd (.v .non) ρ, rt := finR c.m Kd }) :
    FnOk P w K mg base (L2.CX P w) (k + 1) f fd ps (c.sp G) := by
  have hpl : ps.length ≤ N.length := by have := congrArg List.length Sc.pre; rw [List.length_take] at this; omega
  refine Fn.okX Sc (fun vs H Q E h => by rw [Ct.sp_len h, hps]) (fun cdv A outer s H vs Q E hr h => ?_)
  have hvl : vs.length = ps.length := by rw [Ct.sp_len h, hps]
  obtain ⟨F, bag, args, bo, hle, hn, ha, Kd, Xd, hs, kr, kx⟩ := h
  have hmb : (c.m = true ∧ bo.isSome) ∨ (c.m = false ∧ bo = none) := by
    unfold ArgsAt at ha
    by_cases hm : c.m = true
    · rw [if_pos hm] at ha
      obtain ⟨a, vr, us, rfl, rfl, _⟩ := ha
      exact .inl ⟨hm, rfl⟩
    · rw [if_neg hm] at ha
      exact .inr ⟨by simpa using hm, ha.1⟩
  have l0 := start_ok (N := N) hle (by omega) hn ha
  have gX : XS S G (defScope st) (cxOf (L2.CX P w) P w K mg base N qual (defScope st) f cdv A outer s H E) := by
    refine { nd := Sc.nd, calm := rfl, K := T.eK, w := T.ew, scr := fun _ _ e => .inl e, fnc := fun _ _ => rfl, gv := T.gv, bn := T.bn, hu := ?_, hp := passes_of rfl, bk := ?_ }
    · have := hr.un
      show (A.deeper _).units + 65 < cLine
      omega
    · show (if (defScope st).kind.isAnnotationScope then ScopeKind.function else (defScope st).kind) = _
      rw [Sc.kind]
      rfl
  have fcs : FnCs S G (cxOf (L2.CX P w) P w K mg base N qual (defScope st) f cdv A outer s H E) := fun i e he => by
    obtain ⟨k', f', fd', ps', ds', dvs', hk, F1, m1, k1, b1, v1, r1⟩ := T.fs i e he
    exact ⟨k', f', fd', ps', ds', dvs', F1, hr.mono hk, m1, k1, b1, v1, r1⟩
  have tk : XOk (cxOf (L2.CX P w) P w K mg base N qual (defScope st) f cdv A outer s H E) ⟨G, F, H, parOf bo, fun _ => none⟩ (fun xn ρ => Xd xn (bagOf c.m ρ)) := by
    refine (takes_of rfl rfl rfl rfl).imp fun cls d σ H' q => ?_
    obtain ⟨F', ρ', xn, l', rx, q⟩ := q
    exact kx cls d F' H' xn _ (end_step hmb l') rx q
  refine ⟨_, qSs body gX fcs hm ⟨G, F, H, parOf bo, fun _ => none⟩ rfl tk, ?_⟩
  refine ⟨F, _, l0, { nx := fun ρ => finR c.m Kd (.v .non) ρ, rt := finR c.m Kd }, by rw [hvl]; exact hsem Xd bag args Kd hn hs, fun ρ' σ' F' H' le l' => ⟨fun q => ?_, fun q => q.elim, fun q => q.elim, fun r v rr q => ?_⟩⟩
  · obtain ⟨s, rs, q⟩ := end_res l' (v := .non) (r := .v .non) (Rep.non' (G := G) (F := F')) q
    exact kr _ s F' H' _ (end_step hmb l') rs q
  · obtain ⟨s, rs, q⟩ := end_res l' rr q
    exact kr _ s F' H' _ (end_step hmb l') rs q
end DL

/-! EA: how a def's meaning is reckoned by data; the bag of numbers of every law. -/
namespace DL
open PySem L2

/-- the next level -/
theorem TW.push {gv : List (Str × D)} {l : List FnE} {G : Gd} {P : Program} {w : World} {K : PySem.W.Frag} {mg : Str → Option Value} {base : Heap} {k : Nat} {e : FnE} {f : Addr} {fd : FuncData} {ps : List Str} {ds : List Value} {dvs : List V}
    (T : TW ⟨gv, l⟩ G P w K mg base k) (F : FnOk P w K mg base (L2.CX P w) (k + 1) f fd ps (e.ct.sp G)) (hm : mg e.name = some (.ref f)) (hk : PySem.W.keepIn K (.ref f) = true) (hb : Binds K fd ps ds) (hd : Vals dvs ds)
    (hr : ∀ F, RepL G F dvs e.dflt) : TW ⟨gv, l ++ [e]⟩ G P w K mg base (k + 1) where
  eK := T.eK
  ew := T.ew
  gv := T.gv
  bn := T.bn
  fs := fun i e' he => by
    by_cases hi : i < l.length
    · rw [List.getElem?_append_left hi] at he
      obtain ⟨k', f', fd', ps', ds', dvs', h1, h2⟩ := T.fs i e' he
      exact ⟨k', f', fd', ps', ds', dvs', by omega, h2⟩
    · have hz : i = l.length := by
        have := (List.getElem?_eq_some_iff.mp he).1
        rw [List.length_append, List.length_singleton] at this
        omega
      subst hz
      rw [List.getElem?_append_right (Nat.le_refl _), Nat.sub_self] at he
      cases he
      exact ⟨_, f, fd, ps, ds, dvs, Nat.le_refl _, F, hm, hk, hb, hd, hr⟩
/-- a def of the module as its law's head tells it, no defaults -/
theorem TW.def {gv : List (Str × D)} {l : List FnE} {G : Gd} {P : Program} {w : World} {K : PySem.W.Frag} {mg : Str → Option Value} {base : Heap} {k : Nat} {name : Str} {c : Ct} {st : Stmt} {f : Addr} {fd : FuncData} {N ps : List Str} (body : Ss)
    (T : TW ⟨gv, l⟩ G P w K mg base k) (Fn : Fun K name name st f fd) (hg : mg name = some (.ref f))
    (hb : ∀ (kV doc pm : Value) (an : Option Addr) (cdv ct : Value) (us : List Value), us.length = ps.length → bindArgs (PySem.W.fnOf name name (defArgs st) (defBody st) (defScope st) .none kV doc pm an cdv ct) ⟨us, []⟩ = pure (ps.zip us))
    (Sc : FnScope N ps (defScope st)) (hps : ps.length = if c.m = true then c.n + 1 else c.n) (hm : mSs ⟨gv, l⟩ N (defScope st) body (defBody st) = true)
    (hsem : ∀ (Xd : Xn → List D → Prop) (bag args : List D) (Kd : Res → List D → Prop), args.length = c.n → c.sem Xd bag args Kd →
      iSs ⟨gv, l⟩ (fun xn ρ => Xd xn (bagOf c.m ρ)) body (start0 c.m bag args (N.length - ps.length)) { nx := fun ρ => finR c.m Kd (.v .non) ρ, rt := finR c.m Kd }) :
    TW ⟨gv, l ++ [⟨name, c, []⟩]⟩ G P w K mg base (k + 1) :=
  T.push (e := ⟨name, c, []⟩) (def_ok c body T Fn Sc hps hm hsem) hg Fn.kp (Fn.binds hb) (dvs := []) .nil fun _ => RepL.nil

/-! ### how it is reckoned -/
@[simp] theorem ofs_eq (s t : String) : (Str.ofString s = Str.ofString t) = (s = t) := by
  apply propext
  constructor
  · intro h
    rw [Str.ofString_eq_toList, Str.ofString_eq_toList] at h
    injection h with h
    have h := congrArg Array.toList h
    have h2 : s.toList.map Char.toNat = t.toList.map Char.toNat := by simpa using h
    have inj : Function.Injective Char.toNat := fun a b e => by
      apply Char.ext
      apply UInt32.toNat_inj.mp
      exact e
    exact String.toList_inj.mp (List.map_inj_right (fun _ _ e => inj e) |>.mp h2)
  · rintro rfl; rfl
@[simp] theorem ofs_beq (s t : String) : (Str.ofString s == Str.ofString t) = decide (s = t) := by
  by_cases h : s = t
  · subst h; simp
  · rw [decide_eq_false h]
    exact beq_eq_false_iff_ne.mpr fun e => h (by rw [ofs_eq] at e; exact e)
section
variable {α : Type} {a b c d e f g : α} {r : List α}
@[simp] theorem at0 : atI (a :: r) 0 = some a := by simp [atI, ixN]
@[simp] theorem at1 : atI (a :: b :: r) 1 = some b := by
  unfold atI ixN
  rw [if_pos (by decide), if_pos (by simp only [List.length_cons]; omega)]
  rfl
@[simp] theorem at2 : atI (a :: b :: c :: r) 2 = some c := by
  unfold atI ixN
  rw [if_pos (by decide), if_pos (by simp only [List.length_cons]; omega)]
  rfl
@[simp] theorem at3 : atI (a :: b :: c :: d :: r) 3 = some d := by
  unfold atI ixN
  rw [if_pos (by decide), if_pos (by simp only [List.length_cons]; omega)]
  rfl
@[simp] theorem at4 : atI (a :: b :: c :: d :: e :: r) 4 = some e := by
  unfold atI ixN
  rw [if_pos (by decide), if_pos (by simp only [List.length_cons]; omega)]
  rfl
@[simp] theorem at5 : atI (a :: b :: c :: d :: e :: f :: r) 5 = some f := by
  unfold atI ixN
  rw [if_pos (by decide), if_pos (by simp only [List.length_cons]; omega)]
  rfl
@[simp] theorem atM1 : atI [a] (-1) = some a := by simp [atI, ixN]
end
theorem at_map {α β : Type} (f : α → β) (xs : List α) (i : Int) : atI (xs.map f) i = (atI xs i).map f := by
  unfold atI
  rw [List.length_map]
  cases ixN xs.length i <;> simp
theorem at_in {α : Type} (xs : List α) {i : Int} (h0 : 0 ≤ i) (h : i < xs.length) : ∃ x, atI xs i = some x ∧ x ∈ xs := by
  have hi : i.toNat < xs.length := by omega
  refine ⟨xs[i.toNat], ?_, List.getElem_mem _⟩
  unfold atI ixN
  rw [if_pos h0, if_pos h]
  simp [hi]
@[simp] theorem fv_str (s : Str) : fv (.str s) = .str s := rfl
@[simp] theorem fv_int (s : Int) : fv (.int s) = .int s := rfl
@[simp] theorem inV_cons (x y : V) (l : List V) : inV x (y :: l) = (eqV y x || inV x l) := rfl
@[simp] theorem inV_nil (x : V) : inV x [] = false := rfl
@[simp] theorem eqV_str (a b : Str) : eqV (.str a) (.str b) = (a == b) := rfl
@[simp] theorem eqV_int (a b : Int) : eqV (.int a) (.int b) = (a == b) := rfl
/-! the scrutinees by themselves -/
/-- a result read, its place kept or not -/
def rdx (ρ : Rho) (r : R) (K : D → Prop) : Prop := rdr ρ r.stl K
def fzx (ρ : Rho) (r : R) (K : D → Rho → Prop) : Prop := frz ρ r.stl K
def opS : Sl → Bool
  | .ow true _ => false
  | _ => true
def noS : Sl → Bool
  | .ow _ _ => false
  | _ => true
def asI : R → (Int → Prop) → Prop
  | .v (.int n), K => K n
  | _, _ => False
def asB : R → (Bool → Prop) → Prop
  | .v (.bl n), K => K n
  | _, _ => False
/-- the frame's own list in a slot: its content, and the frame with another one -/
def owc (i : Nat) (ρ : Rho) (K : List D → (List D → Rho) → Prop) : Prop := match ρ[i]? with
  | some (.ow b xs) => K xs fun ys => ρ.set i (.ow b ys)
  | _ => False
def fzc (i : Nat) (ρ : Rho) (K : D → Prop) : Prop := match ρ[i]? with
  | some (.fz d) => K d
  | _ => False
def exK {α : Type} (o : Option α) (K : α → Prop) : Prop := ∃ d, o = some d ∧ K d
def exI (o : Option D) (K : Int → Prop) : Prop := ∃ d, o = some (D.int d) ∧ K d
def stK (xs : List D) (n : Int) (d : D) (K : List D → Prop) : Prop := exK (ixN xs.length n) fun j => K (xs.set j d)
def gvK : Option D → (D → Prop) → Prop
  | some e, K => K e
  | none, _ => False
def trR : Res → (Bool → Prop) → Prop
  | .d x, K => truD x K
  | .n xs, K => K (!xs.isEmpty)
def inK : D → (Int → Prop) → Prop
  | .int n, K => K n
  | _, _ => False
def boR (o : BOp) (x y : D) (K : R → Prop) : Prop := o.sem x y fun r => K (R.ofRes r)
def ixR (x y : D) (K : R → Prop) : Prop := ixD x y fun r => K (R.ofRes r)
def slR (x : D) (lo hi : Option Int) (K : R → Prop) : Prop := slD x lo hi fun r => K (R.ofRes r)
def biR (b : Bi) (ds : List D) (K : R → Prop) : Prop := b.sem ds fun r => K (R.ofRes r)
def biT (b : Bi) (ds : List D) (K : Bool → Prop) : Prop := b.sem ds fun r => trR r K
def rdxs (ρ : Rho) : List R → (List D → Prop) → Prop
  | [], K => K []
  | r :: rs, K => rdx ρ r fun d => rdxs ρ rs fun ds => K (d :: ds)
def clK (c : Ct) (ds : List D) (X : Xn → Prop) (K : R → Prop) : Prop := ds.length = c.n ∧ c.sem (fun xn _ => X xn) [] ds fun r _ => K (R.ofRes r)
def clM (c : Ct) (bag ds : List D) (X : Xn → List D → Prop) (K : R → List D → Prop) : Prop := ds.length = c.n ∧ c.sem X bag ds fun r b => K (R.ofRes r) b
def tclK (c : Ct) (ds : List D) (X : Xn → Prop) (K : Bool → Prop) : Prop := ds.length = c.n ∧ c.sem (fun xn _ => X xn) [] ds fun r _ => trR r K
theorem rdrs_x {ρ : Rho} : ∀ {rs : List R} {K : List D → Prop}, rdrs ρ (rs.map R.stl) K = rdxs ρ rs K
  | [], _ => rfl
  | r :: rs, K => by
    show rdr ρ r.stl _ = rdx ρ r _
    unfold rdx
    congr 1
    funext d
    exact rdrs_x
def iXs (S : Sg) (xp : XP) : Cs → Rho → (List R → Rho → Prop) → Prop
  | .nil, ρ, K => K [] ρ
  | .cons c r, ρ, K => iE S xp c ρ fun x ρ1 => iXs S xp r ρ1 fun rs ρ2 => K (x :: rs) ρ2
theorem iRs_x (S : Sg) (xp : XP) : ∀ (es : Cs) (ρ : Rho) (K : List R → Rho → Prop), iRs S xp es ρ K = iXs S xp es ρ fun rs ρ1 => K (rs.map R.stl) ρ1
  | .nil, _, _ => by unfold iRs iXs; rfl
  | .cons c r, ρ, K => by
    unfold iRs iXs
    congr 1
    funext x ρ1
    rw [iRs_x]
    rfl
theorem iRs_b {S : Sg} {xp : XP} {es : Cs} {ρ : Rho} {F : List D → Rho → Prop} : (iRs S xp es ρ fun rs ρ1 => rdrs ρ1 rs fun ds => F ds ρ1) = iXs S xp es ρ fun rs ρ1 => rdxs ρ1 rs fun ds => F ds ρ1 := by
  rw [iRs_x]
  congr 1
  funext rs ρ1
  exact rdrs_x
@[simp ↓] theorem ze_int {S : Sg} {xp : XP} {ρ : Rho} {i : Int} {K : KR} : iE S xp (.int i) ρ K = (K (.v (.int i)) ρ) := rfl
@[simp ↓] theorem ze_str {S : Sg} {xp : XP} {ρ : Rho} {s : Str} {K : KR} : iE S xp (.str s) ρ K = (K (.v (.str s)) ρ) := rfl
@[simp ↓] theorem ze_bl {S : Sg} {xp : XP} {ρ : Rho} {b : Bool} {K : KR} : iE S xp (.bl b) ρ K = (K (.v (.bl b)) ρ) := rfl
@[simp ↓] theorem ze_non {S : Sg} {xp : XP} {ρ : Rho}  {K : KR} : iE S xp (.non) ρ K = (K (.v .non) ρ) := rfl
theorem ze_globh {S : Sg} {xp : XP} {ρ : Rho} {x : Str} {d : D} {K : KR} (h : S.gv.lookup x = some d) : iE S xp (.glob x) ρ K = K (.v d) ρ := by show (match S.gv.lookup x with | some d => K (.v d) ρ | none => False) = _; rw [h]
@[simp ↓] theorem ze_bin {S : Sg} {xp : XP} {ρ : Rho} {o : BOp} {a b : C} {K : KR} : iE S xp (.bin o a b) ρ K = (iE S xp a ρ fun x ρ1 => iE S xp b ρ1 fun y ρ2 => rdx ρ2 x fun dx => rdx ρ2 y fun dy => boR o dx dy fun r => K r ρ2) := rfl
@[simp ↓] theorem ze_neg {S : Sg} {xp : XP} {ρ : Rho} {a : C} {K : KR} : iE S xp (.neg a) ρ K = (iE S xp a ρ fun x ρ1 => asI x fun i => K (.v (.int (-i))) ρ1) := by simp only [iE, iO, iI]; congr 1; funext x ρ1; cases x <;> first | rfl | (rename_i d; cases d <;> rfl)
@[simp ↓] theorem ze_cmp {S : Sg} {xp : XP} {ρ : Rho} {o : COp} {a b : C} {K : KR} : iE S xp (.cmp o a b) ρ K = (iE S xp a ρ fun x ρ1 => iE S xp b ρ1 fun y ρ2 => rdx ρ2 x fun dx => rdx ρ2 y fun dy => o.sem dx dy fun r => K (.v (.bl r)) ρ2) := rfl
@[simp ↓] theorem ze_cmp2 {S : Sg} {xp : XP} {ρ : Rho} {o o' : COp} {a b c : C} {K : KR} : iE S xp ((.cmp2 o o' a b c)) ρ K = (iE S xp a ρ fun x ρ1 => iE S xp b ρ1 fun y ρ2 => rdx ρ2 x fun dx => rdx ρ2 y fun dy => o.sem dx dy fun r => if r = true then iE S xp c ρ2 fun z ρ3 => rdx ρ3 y fun dy' => rdx ρ3 z fun dz => o'.sem dy' dz fun r' => K (.v (.bl r')) ρ3 else K (.v (.bl false)) ρ2) := rfl
@[simp ↓] theorem ze_and {S : Sg} {xp : XP} {ρ : Rho} {a b : C} {K : KR} : iE S xp (.and a b) ρ K = (iE S xp a ρ fun x ρ1 => asB x fun c => if c = true then iE S xp b ρ1 K else K (.v (.bl false)) ρ1) := by simp only [iE, iO, iI]; congr 1; funext x ρ1; cases x <;> first | rfl | (rename_i d; cases d <;> rfl)
@[simp ↓] theorem ze_or {S : Sg} {xp : XP} {ρ : Rho} {a b : C} {K : KR} : iE S xp (.or a b) ρ K = (iE S xp a ρ fun x ρ1 => asB x fun c => if c = true then K (.v (.bl true)) ρ1 else iE S xp b ρ1 K) := by simp only [iE, iO, iI]; congr 1; funext x ρ1; cases x <;> first | rfl | (rename_i d; cases d <;> rfl)
@[simp ↓] theorem ze_one {S : Sg} {xp : XP} {ρ : Rho} {a : C} {K : KR} : iE S xp (.one a) ρ K = (iE S xp a ρ K) := rfl
@[simp ↓] theorem ze_not {S : Sg} {xp : XP} {ρ : Rho} {a : C} {K : KR} : iE S xp (.not a) ρ K = (iE S xp a ρ fun x ρ1 => asB x fun c => K (.v (.bl (!c))) ρ1) := by simp only [iE, iO, iI]; congr 1; funext x ρ1; cases x <;> first | rfl | (rename_i d; cases d <;> rfl)
@[simp ↓] theorem ze_ife {S : Sg} {xp : XP} {ρ : Rho} {t a b : C} {K : KR} : iE S xp (.ife t a b) ρ K = (iT S xp t ρ fun c ρ1 => if c = true then iE S xp a ρ1 K else iE S xp b ρ1 K) := rfl
@[simp ↓] theorem ze_tup {S : Sg} {xp : XP} {ρ : Rho} {es : Cs} {K : KR} : iE S xp (.tup es) ρ K = (iAs S xp es ρ fun ds ρ1 => ds.length ≤ sizeLine ∧ K (.v (.tup ds)) ρ1) := rfl
@[simp ↓] theorem ze_lst {S : Sg} {xp : XP} {ρ : Rho} {es : Cs} {K : KR} : iE S xp (.lst es) ρ K = (iAs S xp es ρ fun ds ρ1 => ds.length ≤ sizeLine ∧ K (.n ds) ρ1) := rfl
@[simp ↓] theorem ze_ix {S : Sg} {xp : XP} {ρ : Rho} {a b : C} {K : KR} : iE S xp (.ix a b) ρ K = (iE S xp a ρ fun x ρ1 => iE S xp b ρ1 fun y ρ2 => rdx ρ2 x fun dx => rdx ρ2 y fun dy => ixR dx dy fun r => K r ρ2) := rfl
@[simp ↓] theorem ze_sl {S : Sg} {xp : XP} {ρ : Rho} {a : C} {lo hi : Co} {K : KR} : iE S xp (.sl a lo hi) ρ K = (iE S xp a ρ fun x ρ1 => iO S xp lo ρ1 fun l ρ2 => iO S xp hi ρ2 fun h ρ3 => rdx ρ3 x fun dx => slR dx l h fun r => K r ρ3) := rfl
@[simp ↓] theorem ze_bi {S : Sg} {xp : XP} {ρ : Rho} {b : Bi} {es : Cs} {K : KR} : iE S xp (.bi b es) ρ K = (iXs S xp es ρ fun rs ρ1 => rdxs ρ1 rs fun ds => biR b ds fun r => K r ρ1) := iRs_b (F := fun ds ρ1 => biR b ds fun r => K r ρ1)
theorem ze_callh {S : Sg} {xp : XP} {ρ : Rho} {f : Nat} {es : Cs} {K : KR} {nm : Str} {ct : Ct} (h : S.fs[f]? = some ⟨nm, ct, []⟩) (hm : ct.m = false) : iE S xp (.call f es) ρ K = iAs S xp es ρ fun ds ρ1 => clK ct ds (fun xn => xp xn ρ1) fun r => K r ρ1 := by
  show (iAs S xp es ρ fun ds ρ1 => match S.fs[f]? with | none => False | some e => (e.ct.m = false ∧ (ds ++ e.dflt).length = e.ct.n) ∧ e.ct.sem (fun xn _ => xp xn ρ1) [] (ds ++ e.dflt) fun r _ => K (R.ofRes r) ρ1) = _
  rw [h]
  congr 1
  funext ds ρ1
  simp only [List.append_nil, hm, true_and]
  rfl
theorem zt_callh {S : Sg} {xp : XP} {ρ : Rho} {f : Nat} {es : Cs} {K : Bool → Rho → Prop} {nm : Str} {ct : Ct} (h : S.fs[f]? = some ⟨nm, ct, []⟩) (hm : ct.m = false) : iT S xp (.call f es) ρ K = iAs S xp es ρ fun ds ρ1 => tclK ct ds (fun xn => xp xn ρ1) fun b => K b ρ1 := by
  have e : ∀ ρ1 : Rho, (fun (r : Res) (_ : List D) => trR r fun b => K b ρ1) = fun r _ => match r with
      | .d x => truD x fun b => K b ρ1
      | .n xs => K (!xs.isEmpty) ρ1 := fun ρ1 => by funext r _; cases r <;> rfl
  show (iAs S xp es ρ fun ds ρ1 => match S.fs[f]? with | none => False | some e => (e.ct.m = false ∧ (ds ++ e.dflt).length = e.ct.n) ∧ e.ct.sem (fun xn _ => xp xn ρ1) [] (ds ++ e.dflt) fun r _ => match r with
      | .d x => truD x fun b => K b ρ1
      | .n xs => K (!xs.isEmpty) ρ1) = _
  rw [h]
  congr 1
  funext ds ρ1
  simp only [List.append_nil, hm, true_and, ← e]
  rfl
theorem ze_callmh {S : Sg} {xp : XP} {ρ : Rho} {f i : Nat} {es : Cs} {K : KR} {nm : Str} {ct : Ct} (h : S.fs[f]? = some ⟨nm, ct, []⟩) (hm : ct.m = true) : iE S xp (.callm f i es) ρ K = (isOw ρ i = true ∧ iAs S xp es ρ fun ds ρ1 => owc i ρ1 fun bag up => clM ct bag ds (fun xn b => xp xn (up b)) fun r b => K r (up b)) := by
  simp only [iE, h]
  congr 1
  congr 1
  funext ds ρ1
  unfold owc
  cases ρ1[i]? with
  | none => rfl
  | some s =>
    cases s with
    | ow b xs =>
      simp only [List.append_nil, hm, true_and]
      rfl
    | _ => rfl
@[simp ↓] theorem ze_comp {S : Sg} {xp : XP} {ρ : Rho} {own : List (Str × Nat)} {t : Tg} {it : Src} {ifs : Cs} {e : C} {K : KR} : iE S xp (.comp own t it ifs e) ρ K = (iI S xp it ρ fun ds ρ1 => ((own.map (·.2)).all (notOw ρ1) = true ∧ tgIn (own.map (·.2)) t = true) ∧ compD (own.map (·.2)) t (iTs S (fun _ _ => False) ifs) (iE S (fun _ _ => False) e) ds [] (wipeR ρ1 (own.map (·.2))) fun acc ρ2 => K (.n acc) (unwipe ρ1 ρ2 (own.map (·.2)))) := rfl
@[simp ↓] theorem zt_and {S : Sg} {xp : XP} {ρ : Rho} {a b : C} {K : Bool → Rho → Prop} : iT S xp (.and a b) ρ K = (iT S xp a ρ fun c ρ1 => if c = true then iT S xp b ρ1 K else K false ρ1) := rfl
@[simp ↓] theorem zt_or {S : Sg} {xp : XP} {ρ : Rho} {a b : C} {K : Bool → Rho → Prop} : iT S xp (.or a b) ρ K = (iT S xp a ρ fun c ρ1 => if c = true then K true ρ1 else iT S xp b ρ1 K) := rfl
@[simp ↓] theorem zt_one {S : Sg} {xp : XP} {ρ : Rho} {a : C} {K : Bool → Rho → Prop} : iT S xp (.one a) ρ K = (iT S xp a ρ K) := rfl
@[simp ↓] theorem zt_not {S : Sg} {xp : XP} {ρ : Rho} {a : C} {K : Bool → Rho → Prop} : iT S xp (.not a) ρ K = (iT S xp a ρ fun c ρ1 => K (!c) ρ1) := rfl
@[simp ↓] theorem zt_cmp {S : Sg} {xp : XP} {ρ : Rho} {o : COp} {a b : C} {K : Bool → Rho → Prop} : iT S xp (.cmp o a b) ρ K = (iE S xp a ρ fun x ρ1 => iE S xp b ρ1 fun y ρ2 => rdx ρ2 x fun dx => rdx ρ2 y fun dy => o.sem dx dy fun r => K r ρ2) := rfl
@[simp ↓] theorem zt_cmp2 {S : Sg} {xp : XP} {ρ : Rho} {o o' : COp} {a b c : C} {K : Bool → Rho → Prop} : iT S xp ((.cmp2 o o' a b c)) ρ K = (iE S xp a ρ fun x ρ1 => iE S xp b ρ1 fun y ρ2 => rdx ρ2 x fun dx => rdx ρ2 y fun dy => o.sem dx dy fun r => if r = true then iE S xp c ρ2 fun z ρ3 => rdx ρ3 y fun dy' => rdx ρ3 z fun dz => o'.sem dy' dz fun r' => K r' ρ3 else K false ρ2) := rfl
@[simp ↓] theorem zt_var {S : Sg} {xp : XP} {ρ : Rho} {i : Nat} {K : Bool → Rho → Prop} : iT S xp (.var i) ρ K = (rdx ρ (.pl i) fun d => truD d fun b => K b ρ) := rfl
@[simp ↓] theorem zt_bi {S : Sg} {xp : XP} {ρ : Rho} {b : Bi} {es : Cs} {K : Bool → Rho → Prop} : iT S xp (.bi b es) ρ K = (iXs S xp es ρ fun rs ρ1 => rdxs ρ1 rs fun ds => biT b ds fun b => K b ρ1) := by
  rw [← iRs_b]
  show (iRs S xp es ρ fun rs ρ1 => rdrs ρ1 rs fun ds => b.sem ds fun r => match r with
    | .d x => truD x fun b => K b ρ1
    | .n xs => K (!xs.isEmpty) ρ1) = _
  congr 1
  funext rs ρ1
  congr 1
  funext ds
  show _ = b.sem ds fun r => trR r fun b => K b ρ1
  congr 1
  funext r
  cases r <;> rfl
@[simp ↓] theorem o_no {S : Sg} {xp : XP} {ρ : Rho} {K : Option Int → Rho → Prop} : iO S xp .no ρ K = (K none ρ) := rfl
@[simp ↓] theorem o_so {S : Sg} {xp : XP} {ρ : Rho} {c : C} {K : Option Int → Rho → Prop} : iO S xp (.so c) ρ K = (iE S xp c ρ fun x ρ1 => asI x fun i => K (some i) ρ1) := by simp only [iE, iO, iI]; congr 1; funext x ρ1; cases x <;> first | rfl | (rename_i d; cases d <;> rfl)
@[simp ↓] theorem as_nil {S : Sg} {xp : XP} {ρ : Rho} {K : List D → Rho → Prop} : iAs S xp .nil ρ K = (K [] ρ) := rfl
@[simp ↓] theorem as_cons {S : Sg} {xp : XP} {ρ : Rho} {c : C} {r : Cs} {K : List D → Rho → Prop} : iAs S xp (.cons c r) ρ K = (iE S xp c ρ fun x ρ1 => fzx ρ1 x fun d ρ2 => iAs S xp r ρ2 fun ds ρ3 => K (d :: ds) ρ3) := rfl
@[simp ↓] theorem xs_nil {S : Sg} {xp : XP} {ρ : Rho} {K : List R → Rho → Prop} : iXs S xp .nil ρ K = (K [] ρ) := rfl
@[simp ↓] theorem xs_cons {S : Sg} {xp : XP} {ρ : Rho} {c : C} {r : Cs} {K : List R → Rho → Prop} : iXs S xp (.cons c r) ρ K = (iE S xp c ρ fun x ρ1 => iXs S xp r ρ1 fun rs ρ2 => K (x :: rs) ρ2) := rfl
@[simp ↓] theorem ts_nil {S : Sg} {xp : XP} {ρ : Rho} {K : Bool → Rho → Prop} : iTs S xp .nil ρ K = (K true ρ) := rfl
@[simp ↓] theorem ts_one {S : Sg} {xp : XP} {ρ : Rho} {c : C} {K : Bool → Rho → Prop} : iTs S xp (.cons c .nil) ρ K = (iT S xp c ρ K) := rfl
@[simp ↓] theorem i_seq {S : Sg} {xp : XP} {ρ : Rho} {c : C} {K : List D → Rho → Prop} : iI S xp (.seq c) ρ K = (iE S xp c ρ fun x ρ1 => fzx ρ1 x fun d ρ2 => itemsD d fun ds => K ds ρ2) := rfl
@[simp ↓] theorem i_rng1 {S : Sg} {xp : XP} {ρ : Rho} {c : C} {K : List D → Rho → Prop} : iI S xp (.rng1 c) ρ K = (iE S xp c ρ fun x ρ1 => asI x fun n => (-(2 ^ 62) ≤ n ∧ n < 2 ^ 62) ∧ K ((List.range n.toNat).map fun (k : Nat) => D.int (k : Int)) ρ1) := by simp only [iE, iO, iI]; congr 1; funext x ρ1; cases x <;> first | rfl | (rename_i d; cases d <;> rfl)
@[simp ↓] theorem i_rng2 {S : Sg} {xp : XP} {ρ : Rho} {a b : C} {K : List D → Rho → Prop} : iI S xp (.rng2 a b) ρ K = (iE S xp a ρ fun x ρ1 => iE S xp b ρ1 fun y ρ2 => asI x fun i => asI y fun j => (-(2 ^ 62) ≤ i ∧ i < 2 ^ 62 ∧ -(2 ^ 62) ≤ j ∧ j < 2 ^ 62) ∧ K ((List.range (j - i).toNat).map fun (k : Nat) => D.int (i + (k : Int))) ρ2) := by
  simp only [iI]
  congr 1
  funext x ρ1
  congr 1
  funext y ρ2
  cases x <;> cases y <;> first | rfl | (rename_i d e; cases d <;> cases e <;> rfl) | (rename_i d e; cases d <;> rfl) | (rename_i d e; cases e <;> rfl)
@[simp ↓] theorem i_zip {S : Sg} {xp : XP} {ρ : Rho} {a b : C} {K : List D → Rho → Prop} : iI S xp (.zip a b) ρ K = (iE S xp a ρ fun x ρ1 => fzx ρ1 x fun dx ρ2 => iE S xp b ρ2 fun y ρ3 => fzx ρ3 y fun dy ρ4 => zipD dx dy fun ds => K ds ρ4) := rfl
@[simp ↓] theorem zip_ll {xs ys : List D} {K : List D → Prop} : zipD (.lst xs) (.lst ys) K = (K (List.zipWith (fun x y => .tup [x, y]) xs ys)) := rfl
@[simp ↓] theorem zs_tgt {S : Sg} {xp : XP} {ρ : Rho} {t : Tg} {c : C} {E : DE} : iS S xp (.tgt t c) ρ E = (iE S xp c ρ fun r ρ1 => fzx ρ1 r fun d ρ2 => tgD t d ρ2 E.nx) := rfl
@[simp ↓] theorem zs_set {S : Sg} {xp : XP} {ρ : Rho} {i : Nat} {c : C} {E : DE} : iS S xp (.set i c) ρ E = (iE S xp c ρ fun r ρ1 => setR ρ1 i r E.nx) := rfl
@[simp ↓] theorem zs_par {S : Sg} {xp : XP} {ρ : Rho} {i j : Nat} {a b : C} {E : DE} : iS S xp (.par i j a b) ρ E = (iE S xp a ρ fun x ρ1 => fzx ρ1 x fun d ρ2 => iE S xp b ρ2 fun y ρ3 => fzx ρ3 y fun e ρ4 => (open? ρ4 i = true ∧ open? ρ4 j = true) ∧ E.nx ((ρ4.set i (.fz d)).set j (.fz e))) := rfl
@[simp ↓] theorem zs_seti {S : Sg} {xp : XP} {ρ : Rho} {i : Nat} {k c : C} {E : DE} : iS S xp (.seti i k c) ρ E = (iE S xp c ρ fun x ρ1 => fzx ρ1 x fun d ρ2 => isOw ρ2 i = true ∧ iE S xp k ρ2 fun y ρ3 => asI y fun n => owc i ρ3 fun xs up => stK xs n d fun zs => E.nx (up zs)) := by
  simp only [iS]
  congr 1
  funext x ρ1
  unfold fzx
  congr 1
  funext d ρ2
  congr 1
  congr 1
  funext y ρ3
  unfold owc
  cases y <;> first
    | (rename_i d; cases d <;> first | rfl | (cases ρ3[i]? <;> first | rfl | (rename_i s; cases s <;> rfl)))
    | rfl
@[simp ↓] theorem zs_augi {S : Sg} {xp : XP} {ρ : Rho} {i : Nat} {k c : C} {E : DE} : iS S xp (.augi i k c) ρ E = (isOw ρ i = true ∧ iE S xp k ρ fun y ρ1 => asI y fun n => owc i ρ1 fun xs _ => exI (atI xs n) fun m => iE S xp c ρ1 fun z ρ2 => asI z fun l => owc i ρ2 fun ys up => stK ys n (.int (m + l)) fun zs => E.nx (up zs)) := by
  simp only [iS]
  congr 1
  congr 1
  funext y ρ1
  unfold owc
  cases y <;> first
    | (rename_i d
       cases d <;> first
         | rfl
         | (cases ρ1[i]? <;> first
             | rfl
             | (rename_i s
                cases s <;> first
                  | rfl
                  | (refine congrArg Exists (funext fun m => congrArg (And _) (congrArg (iE S xp c ρ1) (funext fun z => funext fun ρ2 => ?_)))
                     cases z <;> first
                       | (rename_i d; cases d <;> first | rfl | (cases ρ2[i]? <;> first | rfl | (rename_i s; cases s <;> rfl)))
                       | rfl))))
    | rfl
@[simp ↓] theorem zs_aug {S : Sg} {xp : XP} {ρ : Rho} {i : Nat} {c : C} {E : DE} : iS S xp (.aug i c) ρ E = (fzc i ρ fun dx => iE S xp c ρ fun y ρ1 => rdx ρ1 y fun dy => inK dx fun m => inK dy fun l => setR ρ1 i (.v (.int (m + l))) E.nx) := by
  simp only [iS]
  unfold fzc
  cases ρ[i]? <;> first
    | rfl
    | (rename_i s
       cases s <;> first
         | rfl
         | (refine congrArg (iE S xp c ρ) (funext fun y => funext fun ρ1 => congrArg (rdr ρ1 y.stl) (funext fun dy => ?_))
            rename_i dx
            cases dx <;> cases dy <;> rfl))
@[simp ↓] theorem zs_app {S : Sg} {xp : XP} {ρ : Rho} {i : Nat} {c : C} {E : DE} : iS S xp (.app i c) ρ E = (isOw ρ i = true ∧ iE S xp c ρ fun x ρ1 => fzx ρ1 x fun d ρ2 => owc i ρ2 fun xs up => xs.length < sizeLine ∧ E.nx (up (xs ++ [d]))) := by
  simp only [iS]
  first
    | done
    | (congr 1
       first
         | done
         | (congr 1
            funext x ρ1
            unfold fzx
            congr 1
            funext d ρ2
            unfold owc
            cases ρ2[i]? <;> first | rfl | (rename_i s; cases s <;> rfl)))
@[simp ↓] theorem zs_ex {S : Sg} {xp : XP} {ρ : Rho} {c : C} {E : DE} : iS S xp (.ex c) ρ E = (iE S xp c ρ fun _ ρ1 => E.nx ρ1) := rfl
@[simp ↓] theorem zs_ret {S : Sg} {xp : XP} {ρ : Rho} {c : C} {E : DE} : iS S xp (.ret c) ρ E = (iE S xp c ρ E.rt) := rfl
@[simp ↓] theorem zs_retn {S : Sg} {xp : XP} {ρ : Rho}  {E : DE} : iS S xp (.retn) ρ E = (E.rt (.v .non) ρ) := rfl
@[simp ↓] theorem zs_ife {S : Sg} {xp : XP} {ρ : Rho} {t : C} {a b : Ss} {E : DE} : iS S xp (.ife t a b) ρ E = (iT S xp t ρ fun c ρ1 => if c = true then iSs S xp a ρ1 E else iSs S xp b ρ1 E) := rfl
@[simp ↓] theorem zs_for {S : Sg} {xp : XP} {ρ : Rho} {t : Tg} {it : Src} {b : Ss} {E : DE} : iS S xp (.for t it b) ρ E = (iI S xp it ρ fun ds ρ1 => forD t (iSs S xp b) ds ρ1 E) := rfl
@[simp ↓] theorem zs_pass {S : Sg} {xp : XP} {ρ : Rho}  {E : DE} : iS S xp (.pass) ρ E = (E.nx ρ) := rfl
@[simp ↓] theorem zs_brk {S : Sg} {xp : XP} {ρ : Rho}  {E : DE} : iS S xp (.brk) ρ E = (E.bk ρ) := rfl
@[simp ↓] theorem zs_cont {S : Sg} {xp : XP} {ρ : Rho}  {E : DE} : iS S xp (.cont) ρ E = (E.ct ρ) := rfl
@[simp ↓] theorem zs_nev {S : Sg} {xp : XP} {ρ : Rho}  {E : DE} : iS S xp (.nev) ρ E = (False) := rfl
@[simp ↓] theorem ss_nil {S : Sg} {xp : XP} {ρ : Rho} {E : DE} : iSs S xp .nil ρ E = (E.nx ρ) := rfl
@[simp ↓] theorem ss_cons {S : Sg} {xp : XP} {ρ : Rho} {s : Sm} {r : Ss} {E : DE} : iSs S xp (.cons s r) ρ E = (iS S xp s ρ { E with nx := fun ρ1 => iSs S xp r ρ1 E }) := rfl
@[simp ↓] theorem rdx_v {ρ : Rho} {d : D} {K : D → Prop} : rdx ρ (.v d) K = (K d) := rfl
@[simp ↓] theorem rdx_n {ρ : Rho} {xs : List D} {K : D → Prop} : rdx ρ (.n xs) K = (K (.lst xs)) := rfl
@[simp ↓] theorem fzx_v {ρ : Rho} {d : D} {K : D → Rho → Prop} : fzx ρ (.v d) K = (K d ρ) := rfl
@[simp ↓] theorem fzx_n {ρ : Rho} {xs : List D} {K : D → Rho → Prop} : fzx ρ (.n xs) K = (K (.lst xs) ρ) := rfl
@[simp ↓] theorem asI_v {n : Int} {K : Int → Prop} : asI (.v (.int n)) K = (K n) := rfl
@[simp ↓] theorem asB_v {n : Bool} {K : Bool → Prop} : asB (.v (.bl n)) K = (K n) := rfl
@[simp ↓] theorem inK_i {n : Int} {K : Int → Prop} : inK (.int n) K = (K n) := rfl
@[simp ↓] theorem gvK_s {e : D} {K : D → Prop} : gvK (some e) K = (K e) := rfl
@[simp ↓] theorem exK_s {α : Type} {a : α} {K : α → Prop} : exK (some a) K = (K a) := by unfold exK; simp
@[simp ↓] theorem exI_s {a : Int} {K : Int → Prop} : exI (some (.int a)) K = (K a) := by unfold exI; simp
@[simp ↓] theorem rdxs_nil {ρ : Rho} {K : List D → Prop} : rdxs ρ [] K = (K []) := rfl
@[simp ↓] theorem rdxs_cons {ρ : Rho} {r : R} {rs : List R} {K : List D → Prop} : rdxs ρ (r :: rs) K = (rdx ρ r fun d => rdxs ρ rs fun ds => K (d :: ds)) := rfl
@[simp ↓] theorem opS_t {xs : List D} : opS (.ow true xs) = (false) := rfl
@[simp ↓] theorem opS_f {xs : List D} : opS (.ow false xs) = (true) := rfl
@[simp ↓] theorem opS_z {d : D} : opS (.fz d) = (true) := rfl
@[simp ↓] theorem opS_o  : opS .no = (true) := rfl
@[simp ↓] theorem noS_f {b : Bool} {xs : List D} : noS (.ow b xs) = (false) := rfl
@[simp ↓] theorem noS_z {d : D} : noS (.fz d) = (true) := rfl
@[simp ↓] theorem noS_o  : noS .no = (true) := rfl
@[simp] theorem opS_tp {xs : List D} : opS (.ow true xs) = (false) := rfl
@[simp] theorem opS_fp {xs : List D} : opS (.ow false xs) = (true) := rfl
@[simp] theorem opS_zp {d : D} : opS (.fz d) = (true) := rfl
@[simp] theorem opS_op  : opS .no = (true) := rfl
@[simp] theorem noS_fp {b : Bool} {xs : List D} : noS (.ow b xs) = (false) := rfl
@[simp] theorem noS_zp {d : D} : noS (.fz d) = (true) := rfl
@[simp] theorem noS_op  : noS .no = (true) := rfl
@[simp ↓] theorem bag_t {xs : List D} {r : Rho} : bagOf true (.ow true xs :: r) = (xs) := rfl
@[simp ↓] theorem bag_f {ρ : Rho} : bagOf false ρ = ([]) := rfl
@[simp ↓] theorem fin_v {m : Bool} {Kd : Res → List D → Prop} {d : D} {ρ : Rho} : finR m Kd (.v d) ρ = (Kd (.d d) (bagOf m ρ)) := rfl
@[simp ↓] theorem fin_n {m : Bool} {Kd : Res → List D → Prop} {xs : List D} {ρ : Rho} : finR m Kd (.n xs) ρ = (Kd (.n xs) (bagOf m ρ)) := rfl
@[simp ↓] theorem st_f0 {bag args : List D} {z : Nat} : start0 false bag args z = (args.map Sl.fz ++ List.replicate z Sl.no) := rfl
@[simp ↓] theorem st_t0 {bag args : List D} {z : Nat} : start0 true bag args z = (.ow true bag :: (args.map Sl.fz ++ List.replicate z Sl.no)) := rfl
@[simp ↓] theorem tg_tp {ts : Tgs} {xs : List D} {ρ : Rho} {K : Rho → Prop} : tgD (.tp ts) (.tup xs) ρ K = (tgsD ts xs ρ K) := rfl
@[simp ↓] theorem tgs_nil {ρ : Rho} {K : Rho → Prop} : tgsD .nil [] ρ K = (K ρ) := rfl
@[simp ↓] theorem tgs_cons {t : Tg} {r : Tgs} {d : D} {ds : List D} {ρ : Rho} {K : Rho → Prop} : tgsD (.cons t r) (d :: ds) ρ K = (tgD t d ρ fun ρ1 => tgsD r ds ρ1 K) := rfl
@[simp ↓] theorem v0_z {S : Sg} {xp : XP} {d : D} {r : Rho} {K : KR} : iE S xp (.var 0) (.fz d :: r) K = (K (.v d) (.fz d :: r)) := rfl
@[simp ↓] theorem v0_w {S : Sg} {xp : XP} {b : Bool} {xs : List D} {r : Rho} {K : KR} : iE S xp (.var 0) (.ow b xs :: r) K = (K (.pl 0) (.ow b xs :: r)) := rfl
@[simp ↓] theorem rp0_z {d : D} {r : Rho} {K : D → Prop} : rdx (.fz d :: r) (.pl 0) K = (K d) := rfl
@[simp ↓] theorem rp0_w {b : Bool} {xs : List D} {r : Rho} {K : D → Prop} : rdx (.ow b xs :: r) (.pl 0) K = (K (.lst xs)) := rfl
@[simp ↓] theorem fp0_z {d : D} {r : Rho} {K : D → Rho → Prop} : fzx (.fz d :: r) (.pl 0) K = (K d (.fz d :: r)) := rfl
@[simp ↓] theorem fp0_w {xs : List D} {r : Rho} {K : D → Rho → Prop} : fzx (.ow false xs :: r) (.pl 0) K = (K (.lst xs) (.fz (.lst xs) :: r)) := rfl
@[simp ↓] theorem sv0 {s : Sl} {d : D} {r : Rho} {K : Rho → Prop} : setR (s :: r) 0 (.v d) K = (opS s = true ∧ K (.fz d :: r)) := by cases s <;> first | rfl | (rename_i b xs; cases b <;> rfl)
@[simp ↓] theorem sn0 {s : Sl} {xs : List D} {r : Rho} {K : Rho → Prop} : setR (s :: r) 0 (.n xs) K = (opS s = true ∧ K (.ow false xs :: r)) := by cases s <;> first | rfl | (rename_i b xs; cases b <;> rfl)
@[simp ↓] theorem tg0 {s : Sl} {d : D} {r : Rho} {K : Rho → Prop} : tgD (.nm 0) d (s :: r) K = (opS s = true ∧ K (.fz d :: r)) := by cases s <;> first | rfl | (rename_i b xs; cases b <;> rfl)
@[simp ↓] theorem op0 {s : Sl} {r : Rho} : open? (s :: r) 0 = (opS s) := by cases s <;> first | rfl | (rename_i b xs; cases b <;> rfl)
@[simp ↓] theorem no0 {s : Sl} {r : Rho} : notOw (s :: r) 0 = (noS s) := by cases s <;> rfl
@[simp ↓] theorem io0 {b : Bool} {xs : List D} {r : Rho} : isOw (.ow b xs :: r) 0 = (true) := rfl
@[simp ↓] theorem oc0 {b : Bool} {xs : List D} {r : Rho} {K : List D → (List D → Rho) → Prop} : owc 0 (.ow b xs :: r) K = (K xs fun ys => (.ow b ys :: r)) := rfl
@[simp ↓] theorem zc0 {d : D} {r : Rho} {K : D → Prop} : fzc 0 (.fz d :: r) K = (K d) := rfl
@[simp ↓] theorem fn0_z {m : Bool} {Kd : Res → List D → Prop} {d : D} {r : Rho} : finR m Kd (.pl 0) (.fz d :: r) = (Kd (.d d) (bagOf m (.fz d :: r))) := rfl
@[simp ↓] theorem fn0_w {m : Bool} {Kd : Res → List D → Prop} {xs : List D} {r : Rho} : finR m Kd (.pl 0) (.ow false xs :: r) = (Kd (.n xs) (bagOf m (.ow false xs :: r))) := rfl
@[simp ↓] theorem v1_z {S : Sg} {xp : XP} {s0 : Sl} {d : D} {r : Rho} {K : KR} : iE S xp (.var 1) (s0 :: .fz d :: r) K = (K (.v d) (s0 :: .fz d :: r)) := rfl
@[simp ↓] theorem v1_w {S : Sg} {xp : XP} {s0 : Sl} {b : Bool} {xs : List D} {r : Rho} {K : KR} : iE S xp (.var 1) (s0 :: .ow b xs :: r) K = (K (.pl 1) (s0 :: .ow b xs :: r)) := rfl
@[simp ↓] theorem rp1_z {s0 : Sl} {d : D} {r : Rho} {K : D → Prop} : rdx (s0 :: .fz d :: r) (.pl 1) K = (K d) := rfl
@[simp ↓] theorem rp1_w {s0 : Sl} {b : Bool} {xs : List D} {r : Rho} {K : D → Prop} : rdx (s0 :: .ow b xs :: r) (.pl 1) K = (K (.lst xs)) := rfl
@[simp ↓] theorem fp1_z {s0 : Sl} {d : D} {r : Rho} {K : D → Rho → Prop} : fzx (s0 :: .fz d :: r) (.pl 1) K = (K d (s0 :: .fz d :: r)) := rfl
@[simp ↓] theorem fp1_w {s0 : Sl} {xs : List D} {r : Rho} {K : D → Rho → Prop} : fzx (s0 :: .ow false xs :: r) (.pl 1) K = (K (.lst xs) (s0 :: .fz (.lst xs) :: r)) := rfl
@[simp ↓] theorem sv1 {s0 : Sl} {s : Sl} {d : D} {r : Rho} {K : Rho → Prop} : setR (s0 :: s :: r) 1 (.v d) K = (opS s = true ∧ K (s0 :: .fz d :: r)) := by cases s <;> first | rfl | (rename_i b xs; cases b <;> rfl)
@[simp ↓] theorem sn1 {s0 : Sl} {s : Sl} {xs : List D} {r : Rho} {K : Rho → Prop} : setR (s0 :: s :: r) 1 (.n xs) K = (opS s = true ∧ K (s0 :: .ow false xs :: r)) := by cases s <;> first | rfl | (rename_i b xs; cases b <;> rfl)
@[simp ↓] theorem tg1 {s0 : Sl} {s : Sl} {d : D} {r : Rho} {K : Rho → Prop} : tgD (.nm 1) d (s0 :: s :: r) K = (opS s = true ∧ K (s0 :: .fz d :: r)) := by cases s <;> first | rfl | (rename_i b xs; cases b <;> rfl)
@[simp ↓] theorem op1 {s0 : Sl} {s : Sl} {r : Rho} : open? (s0 :: s :: r) 1 = (opS s) := by cases s <;> first | rfl | (rename_i b xs; cases b <;> rfl)
@[simp ↓] theorem no1 {s0 : Sl} {s : Sl} {r : Rho} : notOw (s0 :: s :: r) 1 = (noS s) := by cases s <;> rfl
@[simp ↓] theorem io1 {s0 : Sl} {b : Bool} {xs : List D} {r : Rho} : isOw (s0 :: .ow b xs :: r) 1 = (true) := rfl
@[simp ↓] theorem oc1 {s0 : Sl} {b : Bool} {xs : List D} {r : Rho} {K : List D → (List D → Rho) → Prop} : owc 1 (s0 :: .ow b xs :: r) K = (K xs fun ys => (s0 :: .ow b ys :: r)) := rfl
@[simp ↓] theorem zc1 {s0 : Sl} {d : D} {r : Rho} {K : D → Prop} : fzc 1 (s0 :: .fz d :: r) K = (K d) := rfl
@[simp ↓] theorem fn1_z {m : Bool} {Kd : Res → List D → Prop} {s0 : Sl} {d : D} {r : Rho} : finR m Kd (.pl 1) (s0 :: .fz d :: r) = (Kd (.d d) (bagOf m (s0 :: .fz d :: r))) := rfl
@[simp ↓] theorem fn1_w {m : Bool} {Kd : Res → List D → Prop} {s0 : Sl} {xs : List D} {r : Rho} : finR m Kd (.pl 1) (s0 :: .ow false xs :: r) = (Kd (.n xs) (bagOf m (s0 :: .ow false xs :: r))) := rfl
@[simp ↓] theorem v2_z {S : Sg} {xp : XP} {s0 s1 : Sl} {d : D} {r : Rho} {K : KR} : iE S xp (.var 2) (s0 :: s1 :: .fz d :: r) K = (K (.v d) (s0 :: s1 :: .fz d :: r)) := rfl
@[simp ↓] theorem v2_w {S : Sg} {xp : XP} {s0 s1 : Sl} {b : Bool} {xs : List D} {r : Rho} {K : KR} : iE S xp (.var 2) (s0 :: s1 :: .ow b xs :: r) K = (K (.pl 2) (s0 :: s1 :: .ow b xs :: r)) := rfl
@[simp ↓] theorem rp2_z {s0 s1 : Sl} {d : D} {r : Rho} {K : D → Prop} : rdx (s0 :: s1 :: .fz d :: r) (.pl 2) K = (K d) := rfl
@[simp ↓] theorem rp2_w {s0 s1 : Sl} {b : Bool} {xs : List D} {r : Rho} {K : D → Prop} : rdx (s0 :: s1 :: .ow b xs :: r) (.pl 2) K = (K (.lst xs)) := rfl
@[simp ↓] theorem fp2_z {s0 s1 : Sl} {d : D} {r : Rho} {K : D → Rho → Prop} : fzx (s0 :: s1 :: .fz d :: r) (.pl 2) K = (K d (s0 :: s1 :: .fz d :: r)) := rfl
@[simp ↓] theorem fp2_w {s0 s1 : Sl} {xs : List D} {r : Rho} {K : D → Rho → Prop} : fzx (s0 :: s1 :: .ow false xs :: r) (.pl 2) K = (K (.lst xs) (s0 :: s1 :: .fz (.lst xs) :: r)) := rfl
@[simp ↓] theorem sv2 {s0 s1 : Sl} {s : Sl} {d : D} {r : Rho} {K : Rho → Prop} : setR (s0 :: s1 :: s :: r) 2 (.v d) K = (opS s = true ∧ K (s0 :: s1 :: .fz d :: r)) := by cases s <;> first | rfl | (rename_i b xs; cases b <;> rfl)
@[simp ↓] theorem sn2 {s0 s1 : Sl} {s : Sl} {xs : List D} {r : Rho} {K : Rho → Prop} : setR (s0 :: s1 :: s :: r) 2 (.n xs) K = (opS s = true ∧ K (s0 :: s1 :: .ow false xs :: r)) := by cases s <;> first | rfl | (rename_i b xs; cases b <;> rfl)
@[simp ↓] theorem tg2 {s0 s1 : Sl} {s : Sl} {d : D} {r : Rho} {K : Rho → Prop} : tgD (.nm 2) d (s0 :: s1 :: s :: r) K = (opS s = true ∧ K (s0 :: s1 :: .fz d :: r)) := by cases s <;> first | rfl | (rename_i b xs; cases b <;> rfl)
@[simp ↓] theorem op2 {s0 s1 : Sl} {s : Sl} {r : Rho} : open? (s0 :: s1 :: s :: r) 2 = (opS s) := by cases s <;> first | rfl | (rename_i b xs; cases b <;> rfl)
@[simp ↓] theorem no2 {s0 s1 : Sl} {s : Sl} {r : Rho} : notOw (s0 :: s1 :: s :: r) 2 = (noS s) := by cases s <;> rfl
@[simp ↓] theorem io2 {s0 s1 : Sl} {b : Bool} {xs : List D} {r : Rho} : isOw (s0 :: s1 :: .ow b xs :: r) 2 = (true) := rfl
@[simp ↓] theorem oc2 {s0 s1 : Sl} {b : Bool} {xs : List D} {r : Rho} {K : List D → (List D → Rho) → Prop} : owc 2 (s0 :: s1 :: .ow b xs :: r) K = (K xs fun ys => (s0 :: s1 :: .ow b ys :: r)) := rfl
@[simp ↓] theorem zc2 {s0 s1 : Sl} {d : D} {r : Rho} {K : D → Prop} : fzc 2 (s0 :: s1 :: .fz d :: r) K = (K d) := rfl
@[simp ↓] theorem fn2_z {m : Bool} {Kd : Res → List D → Prop} {s0 s1 : Sl} {d : D} {r : Rho} : finR m Kd (.pl 2) (s0 :: s1 :: .fz d :: r) = (Kd (.d d) (bagOf m (s0 :: s1 :: .fz d :: r))) := rfl
@[simp ↓] theorem fn2_w {m : Bool} {Kd : Res → List D → Prop} {s0 s1 : Sl} {xs : List D} {r : Rho} : finR m Kd (.pl 2) (s0 :: s1 :: .ow false xs :: r) = (Kd (.n xs) (bagOf m (s0 :: s1 :: .ow false xs :: r))) := rfl
@[simp ↓] theorem v3_z {S : Sg} {xp : XP} {s0 s1 s2 : Sl} {d : D} {r : Rho} {K : KR} : iE S xp (.var 3) (s0 :: s1 :: s2 :: .fz d :: r) K = (K (.v d) (s0 :: s1 :: s2 :: .fz d :: r)) := rfl
@[simp ↓] theorem v3_w {S : Sg} {xp : XP} {s0 s1 s2 : Sl} {b : Bool} {xs : List D} {r : Rho} {K : KR} : iE S xp (.var 3) (s0 :: s1 :: s2 :: .ow b xs :: r) K = (K (.pl 3) (s0 :: s1 :: s2 :: .ow b xs :: r)) := rfl
@[simp ↓] theorem rp3_z {s0 s1 s2 : Sl} {d : D} {r : Rho} {K : D → Prop} : rdx (s0 :: s1 :: s2 :: .fz d :: r) (.pl 3) K = (K d) := rfl
@[simp ↓] theorem rp3_w {s0 s1 s2 : Sl} {b : Bool} {xs : List D} {r : Rho} {K : D → Prop} : rdx (s0 :: s1 :: s2 :: .ow b xs :: r) (.pl 3) K = (K (.lst xs)) := rfl
@[simp ↓] theorem fp3_z {s0 s1 s2 : Sl} {d : D} {r : Rho} {K : D → Rho → Prop} : fzx (s0 :: s1 :: s2 :: .fz d :: r) (.pl 3) K = (K d (s0 :: s1 :: s2 :: .fz d :: r)) := rfl
@[simp ↓] theorem fp3_w {s0 s1 s2 : Sl} {xs : List D} {r : Rho} {K : D → Rho → Prop} : fzx (s0 :: s1 :: s2 :: .ow false xs :: r) (.pl 3) K = (K (.lst xs) (s0 :: s1 :: s2 :: .fz (.lst xs) :: r)) := rfl
@[simp ↓] theorem sv3 {s0 s1 s2 : Sl} {s : Sl} {d : D} {r : Rho} {K : Rho → Prop} : setR (s0 :: s1 :: s2 :: s :: r) 3 (.v d) K = (opS s = true ∧ K (s0 :: s1 :: s2 :: .fz d :: r)) := by cases s <;> first | rfl | (rename_i b xs; cases b <;> rfl)
@[simp ↓] theorem sn3 {s0 s1 s2 : Sl} {s : Sl} {xs : List D} {r : Rho} {K : Rho → Prop} : setR (s0 :: s1 :: s2 :: s :: r) 3 (.n xs) K = (opS s = true ∧ K (s0 :: s1 :: s2 :: .ow false xs :: r)) := by cases s <;> first | rfl | (rename_i b xs; cases b <;> rfl)
@[simp ↓] theorem tg3 {s0 s1 s2 : Sl} {s : Sl} {d : D} {r : Rho} {K : Rho → Prop} : tgD (.nm 3) d (s0 :: s1 :: s2 :: s :: r) K = (opS s = true ∧ K (s0 :: s1 :: s2 :: .fz d :: r)) := by cases s <;> first | rfl | (rename_i b xs; cases b <;> rfl)
@[simp ↓] theorem op3 {s0 s1 s2 : Sl} {s : Sl} {r : Rho} : open? (s0 :: s1 :: s2 :: s :: r) 3 = (opS s) := by cases s <;> first | rfl | (rename_i b xs; cases b <;> rfl)
@[simp ↓] theorem no3 {s0 s1 s2 : Sl} {s : Sl} {r : Rho} : notOw (s0 :: s1 :: s2 :: s :: r) 3 = (noS s) := by cases s <;> rfl
@[simp ↓] theorem io3 {s0 s1 s2 : Sl} {b : Bool} {xs : List D} {r : Rho} : isOw (s0 :: s1 :: s2 :: .ow b xs :: r) 3 = (true) := rfl
@[simp ↓] theorem oc3 {s0 s1 s2 : Sl} {b : Bool} {xs : List D} {r : Rho} {K : List D → (List D → Rho) → Prop} : owc 3 (s0 :: s1 :: s2 :: .ow b xs :: r) K = (K xs fun ys => (s0 :: s1 :: s2 :: .ow b ys :: r)) := rfl
@[simp ↓] theorem zc3 {s0 s1 s2 : Sl} {d : D} {r : Rho} {K : D → Prop} : fzc 3 (s0 :: s1 :: s2 :: .fz d :: r) K = (K d) := rfl
@[simp ↓] theorem fn3_z {m : Bool} {Kd : Res → List D → Prop} {s0 s1 s2 : Sl} {d : D} {r : Rho} : finR m Kd (.pl 3) (s0 :: s1 :: s2 :: .fz d :: r) = (Kd (.d d) (bagOf m (s0 :: s1 :: s2 :: .fz d :: r))) := rfl
@[simp ↓] theorem fn3_w {m : Bool} {Kd : Res → List D → Prop} {s0 s1 s2 : Sl} {xs : List D} {r : Rho} : finR m Kd (.pl 3) (s0 :: s1 :: s2 :: .ow false xs :: r) = (Kd (.n xs) (bagOf m (s0 :: s1 :: s2 :: .ow false xs :: r))) := rfl
@[simp ↓] theorem v4_z {S : Sg} {xp : XP} {s0 s1 s2 s3 : Sl} {d : D} {r : Rho} {K : KR} : iE S xp (.var 4) (s0 :: s1 :: s2 :: s3 :: .fz d :: r) K = (K (.v d) (s0 :: s1 :: s2 :: s3 :: .fz d :: r)) := rfl
@[simp ↓] theorem v4_w {S : Sg} {xp : XP} {s0 s1 s2 s3 : Sl} {b : Bool} {xs : List D} {r : Rho} {K : KR} : iE S xp (.var 4) (s0 :: s1 :: s2 :: s3 :: .ow b xs :: r) K = (K (.pl 4) (s0 :: s1 :: s2 :: s3 :: .ow b xs :: r)) := rfl
@[simp ↓] theorem rp4_z {s0 s1 s2 s3 : Sl} {d : D} {r : Rho} {K : D → Prop} : rdx (s0 :: s1 :: s2 :: s3 :: .fz d :: r) (.pl 4) K = (K d) := rfl
@[simp ↓] theorem rp4_w {s0 s1 s2 s3 : Sl} {b : Bool} {xs : List D} {r : Rho} {K : D → Prop} : rdx (s0 :: s1 :: s2 :: s3 :: .ow b xs :: r) (.pl 4) K = (K (.lst xs)) := rfl
@[simp ↓] theorem fp4_z {s0 s1 s2 s3 : Sl} {d : D} {r : Rho} {K : D → Rho → Prop} : fzx (s0 :: s1 :: s2 :: s3 :: .fz d :: r) (.pl 4) K = (K d (s0 :: s1 :: s2 :: s3 :: .fz d :: r)) := rfl
@[simp ↓] theorem fp4_w {s0 s1 s2 s3 : Sl} {xs : List D} {r : Rho} {K : D → Rho → Prop} : fzx (s0 :: s1 :: s2 :: s3 :: .ow false xs :: r) (.pl 4) K = (K (.lst xs) (s0 :: s1 :: s2 :: s3 :: .fz (.lst xs) :: r)) := rfl
@[simp ↓] theorem sv4 {s0 s1 s2 s3 : Sl} {s : Sl} {d : D} {r : Rho} {K : Rho → Prop} : setR (s0 :: s1 :: s2 :: s3 :: s :: r) 4 (.v d) K = (opS s = true ∧ K (s0 :: s1 :: s2 :: s3 :: .fz d :: r)) := by cases s <;> first | rfl | (rename_i b xs; cases b <;> rfl)
@[simp ↓] theorem sn4 {s0 s1 s2 s3 : Sl} {s : Sl} {xs : List D} {r : Rho} {K : Rho → Prop} : setR (s0 :: s1 :: s2 :: s3 :: s :: r) 4 (.n xs) K = (opS s = true ∧ K (s0 :: s1 :: s2 :: s3 :: .ow false xs :: r)) := by cases s <;> first | rfl | (rename_i b xs; cases b <;> rfl)
@[simp ↓] theorem tg4 {s0 s1 s2 s3 : Sl} {s : Sl} {d : D} {r : Rho} {K : Rho → Prop} : tgD (.nm 4) d (s0 :: s1 :: s2 :: s3 :: s :: r) K = (opS s = true ∧ K (s0 :: s1 :: s2 :: s3 :: .fz d :: r)) := by cases s <;> first | rfl | (rename_i b xs; cases b <;> rfl)
@[simp ↓] theorem op4 {s0 s1 s2 s3 : Sl} {s : Sl} {r : Rho} : open? (s0 :: s1 :: s2 :: s3 :: s :: r) 4 = (opS s) := by cases s <;> first | rfl | (rename_i b xs; cases b <;> rfl)
@[simp ↓] theorem no4 {s0 s1 s2 s3 : Sl} {s : Sl} {r : Rho} : notOw (s0 :: s1 :: s2 :: s3 :: s :: r) 4 = (noS s) := by cases s <;> rfl
@[simp ↓] theorem io4 {s0 s1 s2 s3 : Sl} {b : Bool} {xs : List D} {r : Rho} : isOw (s0 :: s1 :: s2 :: s3 :: .ow b xs :: r) 4 = (true) := rfl
@[simp ↓] theorem oc4 {s0 s1 s2 s3 : Sl} {b : Bool} {xs : List D} {r : Rho} {K : List D → (List D → Rho) → Prop} : owc 4 (s0 :: s1 :: s2 :: s3 :: .ow b xs :: r) K = (K xs fun ys => (s0 :: s1 :: s2 :: s3 :: .ow b ys :: r)) := rfl
@[simp ↓] theorem zc4 {s0 s1 s2 s3 : Sl} {d : D} {r : Rho} {K : D → Prop} : fzc 4 (s0 :: s1 :: s2 :: s3 :: .fz d :: r) K = (K d) := rfl
@[simp ↓] theorem fn4_z {m : Bool} {Kd : Res → List D → Prop} {s0 s1 s2 s3 : Sl} {d : D} {r : Rho} : finR m Kd (.pl 4) (s0 :: s1 :: s2 :: s3 :: .fz d :: r) = (Kd (.d d) (bagOf m (s0 :: s1 :: s2 :: s3 :: .fz d :: r))) := rfl
@[simp ↓] theorem fn4_w {m : Bool} {Kd : Res → List D → Prop} {s0 s1 s2 s3 : Sl} {xs : List D} {r : Rho} : finR m Kd (.pl 4) (s0 :: s1 :: s2 :: s3 :: .ow false xs :: r) = (Kd (.n xs) (bagOf m (s0 :: s1 :: s2 :: s3 :: .ow false xs :: r))) := rfl
@[simp ↓] theorem v5_z {S : Sg} {xp : XP} {s0 s1 s2 s3 s4 : Sl} {d : D} {r : Rho} {K : KR} : iE S xp (.var 5) (s0 :: s1 :: s2 :: s3 :: s4 :: .fz d :: r) K = (K (.v d) (s0 :: s1 :: s2 :: s3 :: s4 :: .fz d :: r)) := rfl
@[simp ↓] theorem v5_w {S : Sg} {xp : XP} {s0 s1 s2 s3 s4 : Sl} {b : Bool} {xs : List D} {r : Rho} {K : KR} : iE S xp (.var 5) (s0 :: s1 :: s2 :: s3 :: s4 :: .ow b xs :: r) K = (K (.pl 5) (s0 :: s1 :: s2 :: s3 :: s4 :: .ow b xs :: r)) := rfl
@[simp ↓] theorem rp5_z {s0 s1 s2 s3 s4 : Sl} {d : D} {r : Rho} {K : D → Prop} : rdx (s0 :: s1 :: s2 :: s3 :: s4 :: .fz d :: r) (.pl 5) K = (K d) := rfl
@[simp ↓] theorem rp5_w {s0 s1 s2 s3 s4 : Sl} {b : Bool} {xs : List D} {r : Rho} {K : D → Prop} : rdx (s0 :: s1 :: s2 :: s3 :: s4 :: .ow b xs :: r) (.pl 5) K = (K (.lst xs)) := rfl
@[simp ↓] theorem fp5_z {s0 s1 s2 s3 s4 : Sl} {d : D} {r : Rho} {K : D → Rho → Prop} : fzx (s0 :: s1 :: s2 :: s3 :: s4 :: .fz d :: r) (.pl 5) K = (K d (s0 :: s1 :: s2 :: s3 :: s4 :: .fz d :: r)) := rfl
@[simp ↓] theorem fp5_w {s0 s1 s2 s3 s4 : Sl} {xs : List D} {r : Rho} {K : D → Rho → Prop} : fzx (s0 :: s1 :: s2 :: s3 :: s4 :: .ow false xs :: r) (.pl 5) K = (K (.lst xs) (s0 :: s1 :: s2 :: s3 :: s4 :: .fz (.lst xs) :: r)) := rfl
@[simp ↓] theorem sv5 {s0 s1 s2 s3 s4 : Sl} {s : Sl} {d : D} {r : Rho} {K : Rho → Prop} : setR (s0 :: s1 :: s2 :: s3 :: s4 :: s :: r) 5 (.v d) K = (opS s = true ∧ K (s0 :: s1 :: s2 :: s3 :: s4 :: .fz d :: r)) := by cases s <;> first | rfl | (rename_i b xs; cases b <;> rfl)
@[simp ↓] theorem sn5 {s0 s1 s2 s3 s4 : Sl} {s : Sl} {xs : List D} {r : Rho} {K : Rho → Prop} : setR (s0 :: s1 :: s2 :: s3 :: s4 :: s :: r) 5 (.n xs) K = (opS s = true ∧ K (s0 :: s1 :: s2 :: s3 :: s4 :: .ow false xs :: r)) := by cases s <;> first | rfl | (rename_i b xs; cases b <;> rfl)
@[simp ↓] theorem tg5 {s0 s1 s2 s3 s4 : Sl} {s : Sl} {d : D} {r : Rho} {K : Rho → Prop} : tgD (.nm 5) d (s0 :: s1 :: s2 :: s3 :: s4 :: s :: r) K = (opS s = true ∧ K (s0 :: s1 :: s2 :: s3 :: s4 :: .fz d :: r)) := by cases s <;> first | rfl | (rename_i b xs; cases b <;> rfl)
@[simp ↓] theorem op5 {s0 s1 s2 s3 s4 : Sl} {s : Sl} {r : Rho} : open? (s0 :: s1 :: s2 :: s3 :: s4 :: s :: r) 5 = (opS s) := by cases s <;> first | rfl | (rename_i b xs; cases b <;> rfl)
@[simp ↓] theorem no5 {s0 s1 s2 s3 s4 : Sl} {s : Sl} {r : Rho} : notOw (s0 :: s1 :: s2 :: s3 :: s4 :: s :: r) 5 = (noS s) := by cases s <;> rfl
@[simp ↓] theorem io5 {s0 s1 s2 s3 s4 : Sl} {b : Bool} {xs : List D} {r : Rho} : isOw (s0 :: s1 :: s2 :: s3 :: s4 :: .ow b xs :: r) 5 = (true) := rfl
@[simp ↓] theorem oc5 {s0 s1 s2 s3 s4 : Sl} {b : Bool} {xs : List D} {r : Rho} {K : List D → (List D → Rho) → Prop} : owc 5 (s0 :: s1 :: s2 :: s3 :: s4 :: .ow b xs :: r) K = (K xs fun ys => (s0 :: s1 :: s2 :: s3 :: s4 :: .ow b ys :: r)) := rfl
@[simp ↓] theorem zc5 {s0 s1 s2 s3 s4 : Sl} {d : D} {r : Rho} {K : D → Prop} : fzc 5 (s0 :: s1 :: s2 :: s3 :: s4 :: .fz d :: r) K = (K d) := rfl
@[simp ↓] theorem fn5_z {m : Bool} {Kd : Res → List D → Prop} {s0 s1 s2 s3 s4 : Sl} {d : D} {r : Rho} : finR m Kd (.pl 5) (s0 :: s1 :: s2 :: s3 :: s4 :: .fz d :: r) = (Kd (.d d) (bagOf m (s0 :: s1 :: s2 :: s3 :: s4 :: .fz d :: r))) := rfl
@[simp ↓] theorem fn5_w {m : Bool} {Kd : Res → List D → Prop} {s0 s1 s2 s3 s4 : Sl} {xs : List D} {r : Rho} : finR m Kd (.pl 5) (s0 :: s1 :: s2 :: s3 :: s4 :: .ow false xs :: r) = (Kd (.n xs) (bagOf m (s0 :: s1 :: s2 :: s3 :: s4 :: .ow false xs :: r))) := rfl
@[simp ↓] theorem v6_z {S : Sg} {xp : XP} {s0 s1 s2 s3 s4 s5 : Sl} {d : D} {r : Rho} {K : KR} : iE S xp (.var 6) (s0 :: s1 :: s2 :: s3 :: s4 :: s5 :: .fz d :: r) K = (K (.v d) (s0 :: s1 :: s2 :: s3 :: s4 :: s5 :: .fz d :: r)) := rfl
@[simp ↓] theorem v6_w {S : Sg} {xp : XP} {s0 s1 s2 s3 s4 s5 : Sl} {b : Bool} {xs : List D} {r : Rho} {K : KR} : iE S xp (.var 6) (s0 :: s1 :: s2 :: s3 :: s4 :: s5 :: .ow b xs :: r) K = (K (.pl 6) (s0 :: s1 :: s2 :: s3 :: s4 :: s5 :: .ow b xs :: r)) := rfl
@[simp ↓] theorem rp6_z {s0 s1 s2 s3 s4 s5 : Sl} {d : D} {r : Rho} {K : D → Prop} : rdx (s0 :: s1 :: s2 :: s3 :: s4 :: s5 :: .fz d :: r) (.pl 6) K = (K d) := rfl
@[simp ↓] theorem rp6_w {s0 s1 s2 s3 s4 s5 : Sl} {b : Bool} {xs : List D} {r : Rho} {K : D → Prop} : rdx (s0 :: s1 :: s2 :: s3 :: s4 :: s5 :: .ow b xs :: r) (.pl 6) K = (K (.lst xs)) := rfl
@[simp ↓] theorem fp6_z {s0 s1 s2 s3 s4 s5 : Sl} {d : D} {r : Rho} {K : D → Rho → Prop} : fzx (s0 :: s1 :: s2 :: s3 :: s4 :: s5 :: .fz d :: r) (.pl 6) K = (K d (s0 :: s1 :: s2 :: s3 :: s4 :: s5 :: .fz d :: r)) := rfl
@[simp ↓] theorem fp6_w {s0 s1 s2 s3 s4 s5 : Sl} {xs : List D} {r : Rho} {K : D → Rho → Prop} : fzx (s0 :: s1 :: s2 :: s3 :: s4 :: s5 :: .ow false xs :: r) (.pl 6) K = (K (.lst xs) (s0 :: s1 :: s2 :: s3 :: s4 :: s5 :: .fz (.lst xs) :: r)) := rfl
@[simp ↓] theorem sv6 {s0 s1 s2 s3 s4 s5 : Sl} {s : Sl} {d : D} {r : Rho} {K : Rho → Prop} : setR (s0 :: s1 :: s2 :: s3 :: s4 :: s5 :: s :: r) 6 (.v d) K = (opS s = true ∧ K (s0 :: s1 :: s2 :: s3 :: s4 :: s5 :: .fz d :: r)) := by cases s <;> first | rfl | (rename_i b xs; cases b <;> rfl)
@[simp ↓] theorem sn6 {s0 s1 s2 s3 s4 s5 : Sl} {s : Sl} {xs : List D} {r : Rho} {K : Rho → Prop} : setR (s0 :: s1 :: s2 :: s3 :: s4 :: s5 :: s :: r) 6 (.n xs) K = (opS s = true ∧ K (s0 :: s1 :: s2 :: s3 :: s4 :: s5 :: .ow false xs :: r)) := by cases s <;> first | rfl | (rename_i b xs; cases b <;> rfl)
@[simp ↓] theorem tg6 {s0 s1 s2 s3 s4 s5 : Sl} {s : Sl} {d : D} {r : Rho} {K : Rho → Prop} : tgD (.nm 6) d (s0 :: s1 :: s2 :: s3 :: s4 :: s5 :: s :: r) K = (opS s = true ∧ K (s0 :: s1 :: s2 :: s3 :: s4 :: s5 :: .fz d :: r)) := by cases s <;> first | rfl | (rename_i b xs; cases b <;> rfl)
@[simp ↓] theorem op6 {s0 s1 s2 s3 s4 s5 : Sl} {s : Sl} {r : Rho} : open? (s0 :: s1 :: s2 :: s3 :: s4 :: s5 :: s :: r) 6 = (opS s) := by cases s <;> first | rfl | (rename_i b xs; cases b <;> rfl)
@[simp ↓] theorem no6 {s0 s1 s2 s3 s4 s5 : Sl} {s : Sl} {r : Rho} : notOw (s0 :: s1 :: s2 :: s3 :: s4 :: s5 :: s :: r) 6 = (noS s) := by cases s <;> rfl
@[simp ↓] theorem io6 {s0 s1 s2 s3 s4 s5 : Sl} {b : Bool} {xs : List D} {r : Rho} : isOw (s0 :: s1 :: s2 :: s3 :: s4 :: s5 :: .ow b xs :: r) 6 = (true) := rfl
@[simp ↓] theorem oc6 {s0 s1 s2 s3 s4 s5 : Sl} {b : Bool} {xs : List D} {r : Rho} {K : List D → (List D → Rho) → Prop} : owc 6 (s0 :: s1 :: s2 :: s3 :: s4 :: s5 :: .ow b xs :: r) K = (K xs fun ys => (s0 :: s1 :: s2 :: s3 :: s4 :: s5 :: .ow b ys :: r)) := rfl
@[simp ↓] theorem zc6 {s0 s1 s2 s3 s4 s5 : Sl} {d : D} {r : Rho} {K : D → Prop} : fzc 6 (s0 :: s1 :: s2 :: s3 :: s4 :: s5 :: .fz d :: r) K = (K d) := rfl
@[simp ↓] theorem fn6_z {m : Bool} {Kd : Res → List D → Prop} {s0 s1 s2 s3 s4 s5 : Sl} {d : D} {r : Rho} : finR m Kd (.pl 6) (s0 :: s1 :: s2 :: s3 :: s4 :: s5 :: .fz d :: r) = (Kd (.d d) (bagOf m (s0 :: s1 :: s2 :: s3 :: s4 :: s5 :: .fz d :: r))) := rfl
@[simp ↓] theorem fn6_w {m : Bool} {Kd : Res → List D → Prop} {s0 s1 s2 s3 s4 s5 : Sl} {xs : List D} {r : Rho} : finR m Kd (.pl 6) (s0 :: s1 :: s2 :: s3 :: s4 :: s5 :: .ow false xs :: r) = (Kd (.n xs) (bagOf m (s0 :: s1 :: s2 :: s3 :: s4 :: s5 :: .ow false xs :: r))) := rfl
@[simp ↓] theorem v7_z {S : Sg} {xp : XP} {s0 s1 s2 s3 s4 s5 s6 : Sl} {d : D} {r : Rho} {K : KR} : iE S xp (.var 7) (s0 :: s1 :: s2 :: s3 :: s4 :: s5 :: s6 :: .fz d :: r) K = (K (.v d) (s0 :: s1 :: s2 :: s3 :: s4 :: s5 :: s6 :: .fz d :: r)) := rfl
@[simp ↓] theorem v7_w {S : Sg} {xp : XP} {s0 s1 s2 s3 s4 s5 s6 : Sl} {b : Bool} {xs : List D} {r : Rho} {K : KR} : iE S xp (.var 7) (s0 :: s1 :: s2 :: s3 :: s4 :: s5 :: s6 :: .ow b xs :: r) K = (K (.pl 7) (s0 :: s1 :: s2 :: s3 :: s4 :: s5 :: s6 :: .ow b xs :: r)) := rfl
@[simp ↓] theorem rp7_z {s0 s1 s2 s3 s4 s5 s6 : Sl} {d : D} {r : Rho} {K : D → Prop} : rdx (s0 :: s1 :: s2 :: s3 :: s4 :: s5 :: s6 :: .fz d :: r) (.pl 7) K = (K d) := rfl
@[simp ↓] theorem rp7_w {s0 s1 s2 s3 s4 s5 s6 : Sl} {b : Bool} {xs : List D} {r : Rho} {K : D → Prop} : rdx (s0 :: s1 :: s2 :: s3 :: s4 :: s5 :: s6 :: .ow b xs :: r) (.pl 7) K = (K (.lst xs)) := rfl
@[simp ↓] theorem fp7_z {s0 s1 s2 s3 s4 s5 s6 : Sl} {d : D} {r : Rho} {K : D → Rho → Prop} : fzx (s0 :: s1 :: s2 :: s3 :: s4 :: s5 :: s6 :: .fz d :: r) (.pl 7) K = (K d (s0 :: s1 :: s2 :: s3 :: s4 :: s5 :: s6 :: .fz d :: r)) := rfl
@[simp ↓] theorem fp7_w {s0 s1 s2 s3 s4 s5 s6 : Sl} {xs : List D} {r : Rho} {K : D → Rho → Prop} : fzx (s0 :: s1 :: s2 :: s3 :: s4 :: s5 :: s6 :: .ow false xs :: r) (.pl 7) K = (K (.lst xs) (s0 :: s1 :: s2 :: s3 :: s4 :: s5 :: s6 :: .fz (.lst xs) :: r)) := rfl
@[simp ↓] theorem sv7 {s0 s1 s2 s3 s4 s5 s6 : Sl} {s : Sl} {d : D} {r : Rho} {K : Rho → Prop} : setR (s0 :: s1 :: s2 :: s3 :: s4 :: s5 :: s6 :: s :: r) 7 (.v d) K = (opS s = true ∧ K (s0 :: s1 :: s2 :: s3 :: s4 :: s5 :: s6 :: .fz d :: r)) := by cases s <;> first | rfl | (rename_i b xs; cases b <;> rfl)
@[simp ↓] theorem sn7 {s0 s1 s2 s3 s4 s5 s6 : Sl} {s : Sl} {xs : List D} {r : Rho} {K : Rho → Prop} : setR (s0 :: s1 :: s2 :: s3 :: s4 :: s5 :: s6 :: s :: r) 7 (.n xs) K = (opS s = true ∧ K (s0 :: s1 :: s2 :: s3 :: s4 :: s5 :: s6 :: .ow false xs :: r)) := by cases s <;> first | rfl | (rename_i b xs; cases b <;> rfl)
@[simp ↓] theorem tg7 {s0 s1 s2 s3 s4 s5 s6 : Sl} {s : Sl} {d : D} {r : Rho} {K : Rho → Prop} : tgD (.nm 7) d (s0 :: s1 :: s2 :: s3 :: s4 :: s5 :: s6 :: s :: r) K = (opS s = true ∧ K (s0 :: s1 :: s2 :: s3 :: s4 :: s5 :: s6 :: .fz d :: r)) := by cases s <;> first | rfl | (rename_i b xs; cases b <;> rfl)
@[simp ↓] theorem op7 {s0 s1 s2 s3 s4 s5 s6 : Sl} {s : Sl} {r : Rho} : open? (s0 :: s1 :: s2 :: s3 :: s4 :: s5 :: s6 :: s :: r) 7 = (opS s) := by cases s <;> first | rfl | (rename_i b xs; cases b <;> rfl)
@[simp ↓] theorem no7 {s0 s1 s2 s3 s4 s5 s6 : Sl} {s : Sl} {r : Rho} : notOw (s0 :: s1 :: s2 :: s3 :: s4 :: s5 :: s6 :: s :: r) 7 = (noS s) := by cases s <;> rfl
@[simp ↓] theorem io7 {s0 s1 s2 s3 s4 s5 s6 : Sl} {b : Bool} {xs : List D} {r : Rho} : isOw (s0 :: s1 :: s2 :: s3 :: s4 :: s5 :: s6 :: .ow b xs :: r) 7 = (true) := rfl
@[simp ↓] theorem oc7 {s0 s1 s2 s3 s4 s5 s6 : Sl} {b : Bool} {xs : List D} {r : Rho} {K : List D → (List D → Rho) → Prop} : owc 7 (s0 :: s1 :: s2 :: s3 :: s4 :: s5 :: s6 :: .ow b xs :: r) K = (K xs fun ys => (s0 :: s1 :: s2 :: s3 :: s4 :: s5 :: s6 :: .ow b ys :: r)) := rfl
@[simp ↓] theorem zc7 {s0 s1 s2 s3 s4 s5 s6 : Sl} {d : D} {r : Rho} {K : D → Prop} : fzc 7 (s0 :: s1 :: s2 :: s3 :: s4 :: s5 :: s6 :: .fz d :: r) K = (K d) := rfl
@[simp ↓] theorem fn7_z {m : Bool} {Kd : Res → List D → Prop} {s0 s1 s2 s3 s4 s5 s6 : Sl} {d : D} {r : Rho} : finR m Kd (.pl 7) (s0 :: s1 :: s2 :: s3 :: s4 :: s5 :: s6 :: .fz d :: r) = (Kd (.d d) (bagOf m (s0 :: s1 :: s2 :: s3 :: s4 :: s5 :: s6 :: .fz d :: r))) := rfl
@[simp ↓] theorem fn7_w {m : Bool} {Kd : Res → List D → Prop} {s0 s1 s2 s3 s4 s5 s6 : Sl} {xs : List D} {r : Rho} : finR m Kd (.pl 7) (s0 :: s1 :: s2 :: s3 :: s4 :: s5 :: s6 :: .ow false xs :: r) = (Kd (.n xs) (bagOf m (s0 :: s1 :: s2 :: s3 :: s4 :: s5 :: s6 :: .ow false xs :: r))) := rfl
@[simp ↓] theorem v8_z {S : Sg} {xp : XP} {s0 s1 s2 s3 s4 s5 s6 s7 : Sl} {d : D} {r : Rho} {K : KR} : iE S xp (.var 8) (s0 :: s1 :: s2 :: s3 :: s4 :: s5 :: s6 :: s7 :: .fz d :: r) K = (K (.v d) (s0 :: s1 :: s2 :: s3 :: s4 :: s5 :: s6 :: s7 :: .fz d :: r)) := rfl
@[simp ↓] theorem v8_w {S : Sg} {xp : XP} {s0 s1 s2 s3 s4 s5 s6 s7 : Sl} {b : Bool} {xs : List D} {r : Rho} {K : KR} : iE S xp (.var 8) (s0 :: s1 :: s2 :: s3 :: s4 :: s5 :: s6 :: s7 :: .ow b xs :: r) K = (K (.pl 8) (s0 :: s1 :: s2 :: s3 :: s4 :: s5 :: s6 :: s7 :: .ow b xs :: r)) := rfl
@[simp ↓] theorem rp8_z {s0 s1 s2 s3 s4 s5 s6 s7 : Sl} {d : D} {r : Rho} {K : D → Prop} : rdx (s0 :: s1 :: s2 :: s3 :: s4 :: s5 :: s6 :: s7 :: .fz d :: r) (.pl 8) K = (K d) := rfl
@[simp ↓] theorem rp8_w {s0 s1 s2 s3 s4 s5 s6 s7 : Sl} {b : Bool} {xs : List D} {r : Rho} {K : D → Prop} : rdx (s0 :: s1 :: s2 :: s3 :: s4 :: s5 :: s6 :: s7 :: .ow b xs :: r) (.pl 8) K = (K (.lst xs)) := rfl
@[simp ↓] theorem fp8_z {s0 s1 s2 s3 s4 s5 s6 s7 : Sl} {d : D} {r : Rho} {K : D → Rho → Prop} : fzx (s0 :: s1 :: s2 :: s3 :: s4 :: s5 :: s6 :: s7 :: .fz d :: r) (.pl 8) K = (K d (s0 :: s1 :: s2 :: s3 :: s4 :: s5 :: s6 :: s7 :: .fz d :: r)) := rfl
@[simp ↓] theorem fp8_w {s0 s1 s2 s3 s4 s5 s6 s7 : Sl} {xs : List D} {r : Rho} {K : D → Rho → Prop} : fzx (s0 :: s1 :: s2 :: s3 :: s4 :: s5 :: s6 :: s7 :: .ow false xs :: r) (.pl 8) K = (K (.lst xs) (s0 :: s1 :: s2 :: s3 :: s4 :: s5 :: s6 :: s7 :: .fz (.lst xs) :: r)) := rfl
@[simp ↓] theorem sv8 {s0 s1 s2 s3 s4 s5 s6 s7 : Sl} {s : Sl} {d : D} {r : Rho} {K : Rho → Prop} : setR (s0 :: s1 :: s2 :: s3 :: s4 :: s5 :: s6 :: s7 :: s :: r) 8 (.v d) K = (opS s = true ∧ K (s0 :: s1 :: s2 :: s3 :: s4 :: s5 :: s6 :: s7 :: .fz d :: r)) := by cases s <;> first | rfl | (rename_i b xs; cases b <;> rfl)
@[simp ↓] theorem sn8 {s0 s1 s2 s3 s4 s5 s6 s7 : Sl} {s : Sl} {xs : List D} {r : Rho} {K : Rho → Prop} : setR (s0 :: s1 :: s2 :: s3 :: s4 :: s5 :: s6 :: s7 :: s :: r) 8 (.n xs) K = (opS s = true ∧ K (s0 :: s1 :: s2 :: s3 :: s4 :: s5 :: s6 :: s7 :: .ow false xs :: r)) := by cases s <;> first | rfl | (rename_i b xs; cases b <;> rfl)
@[simp ↓] theorem tg8 {s0 s1 s2 s3 s4 s5 s6 s7 : Sl} {s : Sl} {d : D} {r : Rho} {K : Rho → Prop} : tgD (.nm 8) d (s0 :: s1 :: s2 :: s3 :: s4 :: s5 :: s6 :: s7 :: s :: r) K = (opS s = true ∧ K (s0 :: s1 :: s2 :: s3 :: s4 :: s5 :: s6 :: s7 :: .fz d :: r)) := by cases s <;> first | rfl | (rename_i b xs; cases b <;> rfl)
@[simp ↓] theorem op8 {s0 s1 s2 s3 s4 s5 s6 s7 : Sl} {s : Sl} {r : Rho} : open? (s0 :: s1 :: s2 :: s3 :: s4 :: s5 :: s6 :: s7 :: s :: r) 8 = (opS s) := by cases s <;> first | rfl | (rename_i b xs; cases b <;> rfl)
@[simp ↓] theorem no8 {s0 s1 s2 s3 s4 s5 s6 s7 : Sl} {s : Sl} {r : Rho} : notOw (s0 :: s1 :: s2 :: s3 :: s4 :: s5 :: s6 :: s7 :: s :: r) 8 = (noS s) := by cases s <;> rfl
@[simp ↓] theorem io8 {s0 s1 s2 s3 s4 s5 s6 s7 : Sl} {b : Bool} {xs : List D} {r : Rho} : isOw (s0 :: s1 :: s2 :: s3 :: s4 :: s5 :: s6 :: s7 :: .ow b xs :: r) 8 = (true) := rfl
@[simp ↓] theorem oc8 {s0 s1 s2 s3 s4 s5 s6 s7 : Sl} {b : Bool} {xs : List D} {r : Rho} {K : List D → (List D → Rho) → Prop} : owc 8 (s0 :: s1 :: s2 :: s3 :: s4 :: s5 :: s6 :: s7 :: .ow b xs :: r) K = (K xs fun ys => (s0 :: s1 :: s2 :: s3 :: s4 :: s5 :: s6 :: s7 :: .ow b ys :: r)) := rfl
@[simp ↓] theorem zc8 {s0 s1 s2 s3 s4 s5 s6 s7 : Sl} {d : D} {r : Rho} {K : D → Prop} : fzc 8 (s0 :: s1 :: s2 :: s3 :: s4 :: s5 :: s6 :: s7 :: .fz d :: r) K = (K d) := rfl
@[simp ↓] theorem fn8_z {m : Bool} {Kd : Res → List D → Prop} {s0 s1 s2 s3 s4 s5 s6 s7 : Sl} {d : D} {r : Rho} : finR m Kd (.pl 8) (s0 :: s1 :: s2 :: s3 :: s4 :: s5 :: s6 :: s7 :: .fz d :: r) = (Kd (.d d) (bagOf m (s0 :: s1 :: s2 :: s3 :: s4 :: s5 :: s6 :: s7 :: .fz d :: r))) := rfl
@[simp ↓] theorem fn8_w {m : Bool} {Kd : Res → List D → Prop} {s0 s1 s2 s3 s4 s5 s6 s7 : Sl} {xs : List D} {r : Rho} : finR m Kd (.pl 8) (s0 :: s1 :: s2 :: s3 :: s4 :: s5 :: s6 :: s7 :: .ow false xs :: r) = (Kd (.n xs) (bagOf m (s0 :: s1 :: s2 :: s3 :: s4 :: s5 :: s6 :: s7 :: .ow false xs :: r))) := rfl
@[simp ↓] theorem v9_z {S : Sg} {xp : XP} {s0 s1 s2 s3 s4 s5 s6 s7 s8 : Sl} {d : D} {r : Rho} {K : KR} : iE S xp (.var 9) (s0 :: s1 :: s2 :: s3 :: s4 :: s5 :: s6 :: s7 :: s8 :: .fz d :: r) K = (K (.v d) (s0 :: s1 :: s2 :: s3 :: s4 :: s5 :: s6 :: s7 :: s8 :: .fz d :: r)) := rfl
@[simp ↓] theorem v9_w {S : Sg} {xp : XP} {s0 s1 s2 s3 s4 s5 s6 s7 s8 : Sl} {b : Bool} {xs : List D} {r : Rho} {K : KR} : iE S xp (.var 9) (s0 :: s1 :: s2 :: s3 :: s4 :: s5 :: s6 :: s7 :: s8 :: .ow b xs :: r) K = (K (.pl 9) (s0 :: s1 :: s2 :: s3 :: s4 :: s5 :: s6 :: s7 :: s8 :: .ow b xs :: r)) := rfl
@[simp ↓] theorem rp9_z {s0 s1 s2 s3 s4 s5 s6 s7 s8 : Sl} {d : D} {r : Rho} {K : D → Prop} : rdx (s0 :: s1 :: s2 :: s3 :: s4 :: s5 :: s6 :: s7 :: s8 :: .fz d :: r) (.pl 9) K = (K d) := rfl
@[simp ↓] theorem rp9_w {s0 s1 s2 s3 s4 s5 s6 s7 s8 : Sl} {b : Bool} {xs : List D} {r : Rho} {K : D → Prop} : rdx (s0 :: s1 :: s2 :: s3 :: s4 :: s5 :: s6 :: s7 :: s8 :: .ow b xs :: r) (.pl 9) K = (K (.lst xs)) := rfl
@[simp ↓] theorem fp9_z {s0 s1 s2 s3 s4 s5 s6 s7 s8 : Sl} {d : D} {r : Rho} {K : D → Rho → Prop} : fzx (s0 :: s1 :: s2 :: s3 :: s4 :: s5 :: s6 :: s7 :: s8 :: .fz d :: r) (.pl 9) K = (K d (s0 :: s1 :: s2 :: s3 :: s4 :: s5 :: s6 :: s7 :: s8 :: .fz d :: r)) := rfl
@[simp ↓] theorem fp9_w {s0 s1 s2 s3 s4 s5 s6 s7 s8 : Sl} {xs : List D} {r : Rho} {K : D → Rho → Prop} : fzx (s0 :: s1 :: s2 :: s3 :: s4 :: s5 :: s6 :: s7 :: s8 :: .ow false xs :: r) (.pl 9) K = (K (.lst xs) (s0 :: s1 :: s2 :: s3 :: s4 :: s5 :: s6 :: s7 :: s8 :: .fz (.lst xs) :: r)) := rfl
@[simp ↓] theorem sv9 {s0 s1 s2 s3 s4 s5 s6 s7 s8 : Sl} {s : Sl} {d : D} {r : Rho} {K : Rho → Prop} : setR (s0 :: s1 :: s2 :: s3 :: s4 :: s5 :: s6 :: s7 :: s8 :: s :: r) 9 (.v d) K = (opS s = true ∧ K (s0 :: s1 :: s2 :: s3 :: s4 :: s5 :: s6 :: s7 :: s8 :: .fz d :: r)) := by cases s <;> first | rfl | (rename_i b xs; cases b <;> rfl)
@[simp ↓] theorem sn9 {s0 s1 s2 s3 s4 s5 s6 s7 s8 : Sl} {s : Sl} {xs : List D} {r : Rho} {K : Rho → Prop} : setR (s0 :: s1 :: s2 :: s3 :: s4 :: s5 :: s6 :: s7 :: s8 :: s :: r) 9 (.n xs) K = (opS s = true ∧ K (s0 :: s1 :: s2 :: s3 :: s4 :: s5 :: s6 :: s7 :: s8 :: .ow false xs :: r)) := by cases s <;> first | rfl | (rename_i b xs; cases b <;> rfl)
@[simp ↓] theorem tg9 {s0 s1 s2 s3 s4 s5 s6 s7 s8 : Sl} {s : Sl} {d : D} {r : Rho} {K : Rho → Prop} : tgD (.nm 9) d (s0 :: s1 :: s2 :: s3 :: s4 :: s5 :: s6 :: s7 :: s8 :: s :: r) K = (opS s = true ∧ K (s0 :: s1 :: s2 :: s3 :: s4 :: s5 :: s6 :: s7 :: s8 :: .fz d :: r)) := by cases s <;> first | rfl | (rename_i b xs; cases b <;> rfl)
@[simp ↓] theorem op9 {s0 s1 s2 s3 s4 s5 s6 s7 s8 : Sl} {s : Sl} {r : Rho} : open? (s0 :: s1 :: s2 :: s3 :: s4 :: s5 :: s6 :: s7 :: s8 :: s :: r) 9 = (opS s) := by cases s <;> first | rfl | (rename_i b xs; cases b <;> rfl)
@[simp ↓] theorem no9 {s0 s1 s2 s3 s4 s5 s6 s7 s8 : Sl} {s : Sl} {r : Rho} : notOw (s0 :: s1 :: s2 :: s3 :: s4 :: s5 :: s6 :: s7 :: s8 :: s :: r) 9 = (noS s) := by cases s <;> rfl
@[simp ↓] theorem io9 {s0 s1 s2 s3 s4 s5 s6 s7 s8 : Sl} {b : Bool} {xs : List D} {r : Rho} : isOw (s0 :: s1 :: s2 :: s3 :: s4 :: s5 :: s6 :: s7 :: s8 :: .ow b xs :: r) 9 = (true) := rfl
@[simp ↓] theorem oc9 {s0 s1 s2 s3 s4 s5 s6 s7 s8 : Sl} {b : Bool} {xs : List D} {r : Rho} {K : List D → (List D → Rho) → Prop} : owc 9 (s0 :: s1 :: s2 :: s3 :: s4 :: s5 :: s6 :: s7 :: s8 :: .ow b xs :: r) K = (K xs fun ys => (s0 :: s1 :: s2 :: s3 :: s4 :: s5 :: s6 :: s7 :: s8 :: .ow b ys :: r)) := rfl
@[simp ↓] theorem zc9 {s0 s1 s2 s3 s4 s5 s6 s7 s8 : Sl} {d : D} {r : Rho} {K : D → Prop} : fzc 9 (s0 :: s1 :: s2 :: s3 :: s4 :: s5 :: s6 :: s7 :: s8 :: .fz d :: r) K = (K d) := rfl
@[simp ↓] theorem fn9_z {m : Bool} {Kd : Res → List D → Prop} {s0 s1 s2 s3 s4 s5 s6 s7 s8 : Sl} {d : D} {r : Rho} : finR m Kd (.pl 9) (s0 :: s1 :: s2 :: s3 :: s4 :: s5 :: s6 :: s7 :: s8 :: .fz d :: r) = (Kd (.d d) (bagOf m (s0 :: s1 :: s2 :: s3 :: s4 :: s5 :: s6 :: s7 :: s8 :: .fz d :: r))) := rfl
@[simp ↓] theorem fn9_w {m : Bool} {Kd : Res → List D → Prop} {s0 s1 s2 s3 s4 s5 s6 s7 s8 : Sl} {xs : List D} {r : Rho} : finR m Kd (.pl 9) (s0 :: s1 :: s2 :: s3 :: s4 :: s5 :: s6 :: s7 :: s8 :: .ow false xs :: r) = (Kd (.n xs) (bagOf m (s0 :: s1 :: s2 :: s3 :: s4 :: s5 :: s6 :: s7 :: s8 :: .ow false xs :: r))) := rfl
@[simp ↓] theorem v10_z {S : Sg} {xp : XP} {s0 s1 s2 s3 s4 s5 s6 s7 s8 s9 : Sl} {d : D} {r : Rho} {K : KR} : iE S xp (.var 10) (s0 :: s1 :: s2 :: s3 :: s4 :: s5 :: s6 :: s7 :: s8 :: s9 :: .fz d :: r) K = (K (.v d) (s0 :: s1 :: s2 :: s3 :: s4 :: s5 :: s6 :: s7 :: s8 :: s9 :: .fz d :: r)) := rfl
@[simp ↓] theorem v10_w {S : Sg} {xp : XP} {s0 s1 s2 s3 s4 s5 s6 s7 s8 s9 : Sl} {b : Bool} {xs : List D} {r : Rho} {K : KR} : iE S xp (.var 10) (s0 :: s1 :: s2 :: s3 :: s4 :: s5 :: s6 :: s7 :: s8 :: s9 :: .ow b xs :: r) K = (K (.pl 10) (s0 :: s1 :: s2 :: s3 :: s4 :: s5 :: s6 :: s7 :: s8 :: s9 :: .ow b xs :: r)) := rfl
@[simp ↓] theorem rp10_z {s0 s1 s2 s3 s4 s5 s6 s7 s8 s9 : Sl} {d : D} {r : Rho} {K : D → Prop} : rdx (s0 :: s1 :: s2 :: s3 :: s4 :: s5 :: s6 :: s7 :: s8 :: s9 :: .fz d :: r) (.pl 10) K = (K d) := rfl
@[simp ↓] theorem rp10_w {s0 s1 s2 s3 s4 s5 s6 s7 s8 s9 : Sl} {b : Bool} {xs : List D} {r : Rho} {K : D → Prop} : rdx (s0 :: s1 :: s2 :: s3 :: s4 :: s5 :: s6 :: s7 :: s8 :: s9 :: .ow b xs :: r) (.pl 10) K = (K (.lst xs)) := rfl
@[simp ↓] theorem fp10_z {s0 s1 s2 s3 s4 s5 s6 s7 s8 s9 : Sl} {d : D} {r : Rho} {K : D → Rho → Prop} : fzx (s0 :: s1 :: s2 :: s3 :: s4 :: s5 :: s6 :: s7 :: s8 :: s9 :: .fz d :: r) (.pl 10) K = (K d (s0 :: s1 :: s2 :: s3 :: s4 :: s5 :: s6 :: s7 :: s8 :: s9 :: .fz d :: r)) := rfl
@[simp ↓] theorem fp10_w {s0 s1 s2 s3 s4 s5 s6 s7 s8 s9 : Sl} {xs : List D} {r : Rho} {K : D → Rho → Prop} : fzx (s0 :: s1 :: s2 :: s3 :: s4 :: s5 :: s6 :: s7 :: s8 :: s9 :: .ow false xs :: r) (.pl 10) K = (K (.lst xs) (s0 :: s1 :: s2 :: s3 :: s4 :: s5 :: s6 :: s7 :: s8 :: s9 :: .fz (.lst xs) :: r)) := rfl
@[simp ↓] theorem sv10 {s0 s1 s2 s3 s4 s5 s6 s7 s8 s9 : Sl} {s : Sl} {d : D} {r : Rho} {K : Rho → Prop} : setR (s0 :: s1 :: s2 :: s3 :: s4 :: s5 :: s6 :: s7 :: s8 :: s9 :: s :: r) 10 (.v d) K = (opS s = true ∧ K (s0 :: s1 :: s2 :: s3 :: s4 :: s5 :: s6 :: s7 :: s8 :: s9 :: .fz d :: r)) := by cases s <;> first | rfl | (rename_i b xs; cases b <;> rfl)
@[simp ↓] theorem sn10 {s0 s1 s2 s3 s4 s5 s6 s7 s8 s9 : Sl} {s : Sl} {xs : List D} {r : Rho} {K : Rho → Prop} : setR (s0 :: s1 :: s2 :: s3 :: s4 :: s5 :: s6 :: s7 :: s8 :: s9 :: s :: r) 10 (.n xs) K = (opS s = true ∧ K (s0 :: s1 :: s2 :: s3 :: s4 :: s5 :: s6 :: s7 :: s8 :: s9 :: .ow false xs :: r)) := by cases s <;> first | rfl | (rename_i b xs; cases b <;> rfl)
@[simp ↓] theorem tg10 {s0 s1 s2 s3 s4 s5 s6 s7 s8 s9 : Sl} {s : Sl} {d : D} {r : Rho} {K : Rho → Prop} : tgD (.nm 10) d (s0 :: s1 :: s2 :: s3 :: s4 :: s5 :: s6 :: s7 :: s8 :: s9 :: s :: r) K = (opS s = true ∧ K (s0 :: s1 :: s2 :: s3 :: s4 :: s5 :: s6 :: s7 :: s8 :: s9 :: .fz d :: r)) := by cases s <;> first | rfl | (rename_i b xs; cases b <;> rfl)
@[simp ↓] theorem op10 {s0 s1 s2 s3 s4 s5 s6 s7 s8 s9 : Sl} {s : Sl} {r : Rho} : open? (s0 :: s1 :: s2 :: s3 :: s4 :: s5 :: s6 :: s7 :: s8 :: s9 :: s :: r) 10 = (opS s) := by cases s <;> first | rfl | (rename_i b xs; cases b <;> rfl)
@[simp ↓] theorem no10 {s0 s1 s2 s3 s4 s5 s6 s7 s8 s9 : Sl} {s : Sl} {r : Rho} : notOw (s0 :: s1 :: s2 :: s3 :: s4 :: s5 :: s6 :: s7 :: s8 :: s9 :: s :: r) 10 = (noS s) := by cases s <;> rfl
@[simp ↓] theorem io10 {s0 s1 s2 s3 s4 s5 s6 s7 s8 s9 : Sl} {b : Bool} {xs : List D} {r : Rho} : isOw (s0 :: s1 :: s2 :: s3 :: s4 :: s5 :: s6 :: s7 :: s8 :: s9 :: .ow b xs :: r) 10 = (true) := rfl
@[simp ↓] theorem oc10 {s0 s1 s2 s3 s4 s5 s6 s7 s8 s9 : Sl} {b : Bool} {xs : List D} {r : Rho} {K : List D → (List D → Rho) → Prop} : owc 10 (s0 :: s1 :: s2 :: s3 :: s4 :: s5 :: s6 :: s7 :: s8 :: s9 :: .ow b xs :: r) K = (K xs fun ys => (s0 :: s1 :: s2 :: s3 :: s4 :: s5 :: s6 :: s7 :: s8 :: s9 :: .ow b ys :: r)) := rfl
@[simp ↓] theorem zc10 {s0 s1 s2 s3 s4 s5 s6 s7 s8 s9 : Sl} {d : D} {r : Rho} {K : D → Prop} : fzc 10 (s0 :: s1 :: s2 :: s3 :: s4 :: s5 :: s6 :: s7 :: s8 :: s9 :: .fz d :: r) K = (K d) := rfl
@[simp ↓] theorem fn10_z {m : Bool} {Kd : Res → List D → Prop} {s0 s1 s2 s3 s4 s5 s6 s7 s8 s9 : Sl} {d : D} {r : Rho} : finR m Kd (.pl 10) (s0 :: s1 :: s2 :: s3 :: s4 :: s5 :: s6 :: s7 :: s8 :: s9 :: .fz d :: r) = (Kd (.d d) (bagOf m (s0 :: s1 :: s2 :: s3 :: s4 :: s5 :: s6 :: s7 :: s8 :: s9 :: .fz d :: r))) := rfl
@[simp ↓] theorem fn10_w {m : Bool} {Kd : Res → List D → Prop} {s0 s1 s2 s3 s4 s5 s6 s7 s8 s9 : Sl} {xs : List D} {r : Rho} : finR m Kd (.pl 10) (s0 :: s1 :: s2 :: s3 :: s4 :: s5 :: s6 :: s7 :: s8 :: s9 :: .ow false xs :: r) = (Kd (.n xs) (bagOf m (s0 :: s1 :: s2 :: s3 :: s4 :: s5 :: s6 :: s7 :: s8 :: s9 :: .ow false xs :: r))) := rfl
@[simp ↓] theorem v11_z {S : Sg} {xp : XP} {s0 s1 s2 s3 s4 s5 s6 s7 s8 s9 s10 : Sl} {d : D} {r : Rho} {K : KR} : iE S xp (.var 11) (s0 :: s1 :: s2 :: s3 :: s4 :: s5 :: s6 :: s7 :: s8 :: s9 :: s10 :: .fz d :: r) K = (K (.v d) (s0 :: s1 :: s2 :: s3 :: s4 :: s5 :: s6 :: s7 :: s8 :: s9 :: s10 :: .fz d :: r)) := rfl
@[simp ↓] theorem v11_w {S : Sg} {xp : XP} {s0 s1 s2 s3 s4 s5 s6 s7 s8 s9 s10 : Sl} {b : Bool} {xs : List D} {r : Rho} {K : KR} : iE S xp (.var 11) (s0 :: s1 :: s2 :: s3 :: s4 :: s5 :: s6 :: s7 :: s8 :: s9 :: s10 :: .ow b xs :: r) K = (K (.pl 11) (s0 :: s1 :: s2 :: s3 :: s4 :: s5 :: s6 :: s7 :: s8 :: s9 :: s10 :: .ow b xs :: r)) := rfl
@[simp ↓] theorem rp11_z {s0 s1 s2 s3 s4 s5 s6 s7 s8 s9 s10 : Sl} {d : D} {r : Rho} {K : D → Prop} : rdx (s0 :: s1 :: s2 :: s3 :: s4 :: s5 :: s6 :: s7 :: s8 :: s9 :: s10 :: .fz d :: r) (.pl 11) K = (K d) := rfl
@[simp ↓] theorem rp11_w {s0 s1 s2 s3 s4 s5 s6 s7 s8 s9 s10 : Sl} {b : Bool} {xs : List D} {r : Rho} {K : D → Prop} : rdx (s0 :: s1 :: s2 :: s3 :: s4 :: s5 :: s6 :: s7 :: s8 :: s9 :: s10 :: .ow b xs :: r) (.pl 11) K = (K (.lst xs)) := rfl
@[simp ↓] theorem fp11_z {s0 s1 s2 s3 s4 s5 s6 s7 s8 s9 s10 : Sl} {d : D} {r : Rho} {K : D → Rho → Prop} : fzx (s0 :: s1 :: s2 :: s3 :: s4 :: s5 :: s6 :: s7 :: s8 :: s9 :: s10 :: .fz d :: r) (.pl 11) K = (K d (s0 :: s1 :: s2 :: s3 :: s4 :: s5 :: s6 :: s7 :: s8 :: s9 :: s10 :: .fz d :: r)) := rfl
@[simp ↓] theorem fp11_w {s0 s1 s2 s3 s4 s5 s6 s7 s8 s9 s10 : Sl} {xs : List D} {r : Rho} {K : D → Rho → Prop} : fzx (s0 :: s1 :: s2 :: s3 :: s4 :: s5 :: s6 :: s7 :: s8 :: s9 :: s10 :: .ow false xs :: r) (.pl 11) K = (K (.lst xs) (s0 :: s1 :: s2 :: s3 :: s4 :: s5 :: s6 :: s7 :: s8 :: s9 :: s10 :: .fz (.lst xs) :: r)) := rfl
@[simp ↓] theorem sv11 {s0 s1 s2 s3 s4 s5 s6 s7 s8 s9 s10 : Sl} {s : Sl} {d : D} {r : Rho} {K : Rho → Prop} : setR (s0 :: s1 :: s2 :: s3 :: s4 :: s5 :: s6 :: s7 :: s8 :: s9 :: s10 :: s :: r) 11 (.v d) K = (opS s = true ∧ K (s0 :: s1 :: s2 :: s3 :: s4 :: s5 :: s6 :: s7 :: s8 :: s9 :: s10 :: .fz d :: r)) := by cases s <;> first | rfl | (rename_i b xs; cases b <;> rfl)
@[simp ↓] theorem sn11 {s0 s1 s2 s3 s4 s5 s6 s7 s8 s9 s10 : Sl} {s : Sl} {xs : List D} {r : Rho} {K : Rho → Prop} : setR (s0 :: s1 :: s2 :: s3 :: s4 :: s5 :: s6 :: s7 :: s8 :: s9 :: s10 :: s :: r) 11 (.n xs) K = (opS s = true ∧ K (s0 :: s1 :: s2 :: s3 :: s4 :: s5 :: s6 :: s7 :: s8 :: s9 :: s10 :: .ow false xs :: r)) := by cases s <;> first | rfl | (rename_i b xs; cases b <;> rfl)
@[simp ↓] theorem tg11 {s0 s1 s2 s3 s4 s5 s6 s7 s8 s9 s10 : Sl} {s : Sl} {d : D} {r : Rho} {K : Rho → Prop} : tgD (.nm 11) d (s0 :: s1 :: s2 :: s3 :: s4 :: s5 :: s6 :: s7 :: s8 :: s9 :: s10 :: s :: r) K = (opS s = true ∧ K (s0 :: s1 :: s2 :: s3 :: s4 :: s5 :: s6 :: s7 :: s8 :: s9 :: s10 :: .fz d :: r)) := by cases s <;> first | rfl | (rename_i b xs; cases b <;> rfl)
@[simp ↓] theorem op11 {s0 s1 s2 s3 s4 s5 s6 s7 s8 s9 s10 : Sl} {s : Sl} {r : Rho} : open? (s0 :: s1 :: s2 :: s3 :: s4 :: s5 :: s6 :: s7 :: s8 :: s9 :: s10 :: s :: r) 11 = (opS s) := by cases s <;> first | rfl | (rename_i b xs; cases b <;> rfl)
@[simp ↓] theorem no11 {s0 s1 s2 s3 s4 s5 s6 s7 s8 s9 s10 : Sl} {s : Sl} {r : Rho} : notOw (s0 :: s1 :: s2 :: s3 :: s4 :: s5 :: s6 :: s7 :: s8 :: s9 :: s10 :: s :: r) 11 = (noS s) := by cases s <;> rfl
@[simp ↓] theorem io11 {s0 s1 s2 s3 s4 s5 s6 s7 s8 s9 s10 : Sl} {b : Bool} {xs : List D} {r : Rho} : isOw (s0 :: s1 :: s2 :: s3 :: s4 :: s5 :: s6 :: s7 :: s8 :: s9 :: s10 :: .ow b xs :: r) 11 = (true) := rfl
@[simp ↓] theorem oc11 {s0 s1 s2 s3 s4 s5 s6 s7 s8 s9 s10 : Sl} {b : Bool} {xs : List D} {r : Rho} {K : List D → (List D → Rho) → Prop} : owc 11 (s0 :: s1 :: s2 :: s3 :: s4 :: s5 :: s6 :: s7 :: s8 :: s9 :: s10 :: .ow b xs :: r) K = (K xs fun ys => (s0 :: s1 :: s2 :: s3 :: s4 :: s5 :: s6 :: s7 :: s8 :: s9 :: s10 :: .ow b ys :: r)) := rfl
@[simp ↓] theorem zc11 {s0 s1 s2 s3 s4 s5 s6 s7 s8 s9 s10 : Sl} {d : D} {r : Rho} {K : D → Prop} : fzc 11 (s0 :: s1 :: s2 :: s3 :: s4 :: s5 :: s6 :: s7 :: s8 :: s9 :: s10 :: .fz d :: r) K = (K d) := rfl
@[simp ↓] theorem fn11_z {m : Bool} {Kd : Res → List D → Prop} {s0 s1 s2 s3 s4 s5 s6 s7 s8 s9 s10 : Sl} {d : D} {r : Rho} : finR m Kd (.pl 11) (s0 :: s1 :: s2 :: s3 :: s4 :: s5 :: s6 :: s7 :: s8 :: s9 :: s10 :: .fz d :: r) = (Kd (.d d) (bagOf m (s0 :: s1 :: s2 :: s3 :: s4 :: s5 :: s6 :: s7 :: s8 :: s9 :: s10 :: .fz d :: r))) := rfl
@[simp ↓] theorem fn11_w {m : Bool} {Kd : Res → List D → Prop} {s0 s1 s2 s3 s4 s5 s6 s7 s8 s9 s10 : Sl} {xs : List D} {r : Rho} : finR m Kd (.pl 11) (s0 :: s1 :: s2 :: s3 :: s4 :: s5 :: s6 :: s7 :: s8 :: s9 :: s10 :: .ow false xs :: r) = (Kd (.n xs) (bagOf m (s0 :: s1 :: s2 :: s3 :: s4 :: s5 :: s6 :: s7 :: s8 :: s9 :: s10 :: .ow false xs :: r))) := rfl
@[simp ↓] theorem v12_z {S : Sg} {xp : XP} {s0 s1 s2 s3 s4 s5 s6 s7 s8 s9 s10 s11 : Sl} {d : D} {r : Rho} {K : KR} : iE S xp (.var 12) (s0 :: s1 :: s2 :: s3 :: s4 :: s5 :: s6 :: s7 :: s8 :: s9 :: s10 :: s11 :: .fz d :: r) K = (K (.v d) (s0 :: s1 :: s2 :: s3 :: s4 :: s5 :: s6 :: s7 :: s8 :: s9 :: s10 :: s11 :: .fz d :: r)) := rfl
@[simp ↓] theorem v12_w {S : Sg} {xp : XP} {s0 s1 s2 s3 s4 s5 s6 s7 s8 s9 s10 s11 : Sl} {b : Bool} {xs : List D} {r : Rho} {K : KR} : iE S xp (.var 12) (s0 :: s1 :: s2 :: s3 :: s4 :: s5 :: s6 :: s7 :: s8 :: s9 :: s10 :: s11 :: .ow b xs :: r) K = (K (.pl 12) (s0 :: s1 :: s2 :: s3 :: s4 :: s5 :: s6 :: s7 :: s8 :: s9 :: s10 :: s11 :: .ow b xs :: r)) := rfl
@[simp ↓] theorem rp12_z {s0 s1 s2 s3 s4 s5 s6 s7 s8 s9 s10 s11 : Sl} {d : D} {r : Rho} {K : D → Prop} : rdx (s0 :: s1 :: s2 :: s3 :: s4 :: s5 :: s6 :: s7 :: s8 :: s9 :: s10 :: s11 :: .fz d :: r) (.pl 12) K = (K d) := rfl
@[simp ↓] theorem rp12_w {s0 s1 s2 s3 s4 s5 s6 s7 s8 s9 s10 s11 : Sl} {b : Bool} {xs : List D} {r : Rho} {K : D → Prop} : rdx (s0 :: s1 :: s2 :: s3 :: s4 :: s5 :: s6 :: s7 :: s8 :: s9 :: s10 :: s11 :: .ow b xs :: r) (.pl 12) K = (K (.lst xs)) := rfl
@[simp ↓] theorem fp12_z {s0 s1 s2 s3 s4 s5 s6 s7 s8 s9 s10 s11 : Sl} {d : D} {r : Rho} {K : D → Rho → Prop} : fzx (s0 :: s1 :: s2 :: s3 :: s4 :: s5 :: s6 :: s7 :: s8 :: s9 :: s10 :: s11 :: .fz d :: r) (.pl 12) K = (K d (s0 :: s1 :: s2 :: s3 :: s4 :: s5 :: s6 :: s7 :: s8 :: s9 :: s10 :: s11 :: .fz d :: r)) := rfl
@[simp ↓] theorem fp12_w {s0 s1 s2 s3 s4 s5 s6 s7 s8 s9 s10 s11 : Sl} {xs : List D} {r : Rho} {K : D → Rho → Prop} : fzx (s0 :: s1 :: s2 :: s3 :: s4 :: s5 :: s6 :: s7 :: s8 :: s9 :: s10 :: s11 :: .ow false xs :: r) (.pl 12) K = (K (.lst xs) (s0 :: s1 :: s2 :: s3 :: s4 :: s5 :: s6 :: s7 :: s8 :: s9 :: s10 :: s11 :: .fz (.lst xs) :: r)) := rfl
@[simp ↓] theorem sv12 {s0 s1 s2 s3 s4 s5 s6 s7 s8 s9 s10 s11 : Sl} {s : Sl} {d : D} {r : Rho} {K : Rho → Prop} : setR (s0 :: s1 :: s2 :: s3 :: s4 :: s5 :: s6 :: s7 :: s8 :: s9 :: s10 :: s11 :: s :: r) 12 (.v d) K = (opS s = true ∧ K (s0 :: s1 :: s2 :: s3 :: s4 :: s5 :: s6 :: s7 :: s8 :: s9 :: s10 :: s11 :: .fz d :: r)) := by cases s <;> first | rfl | (rename_i b xs; cases b <;> rfl)
@[simp ↓] theorem sn12 {s0 s1 s2 s3 s4 s5 s6 s7 s8 s9 s10 s11 : Sl} {s : Sl} {xs : List D} {r : Rho} {K : Rho → Prop} : setR (s0 :: s1 :: s2 :: s3 :: s4 :: s5 :: s6 :: s7 :: s8 :: s9 :: s10 :: s11 :: s :: r) 12 (.n xs) K = (opS s = true ∧ K (s0 :: s1 :: s2 :: s3 :: s4 :: s5 :: s6 :: s7 :: s8 :: s9 :: s10 :: s11 :: .ow false xs :: r)) := by cases s <;> first | rfl | (rename_i b xs; cases b <;> rfl)
@[simp ↓] theorem tg12 {s0 s1 s2 s3 s4 s5 s6 s7 s8 s9 s10 s11 : Sl} {s : Sl} {d : D} {r : Rho} {K : Rho → Prop} : tgD (.nm 12) d (s0 :: s1 :: s2 :: s3 :: s4 :: s5 :: s6 :: s7 :: s8 :: s9 :: s10 :: s11 :: s :: r) K = (opS s = true ∧ K (s0 :: s1 :: s2 :: s3 :: s4 :: s5 :: s6 :: s7 :: s8 :: s9 :: s10 :: s11 :: .fz d :: r)) := by cases s <;> first | rfl | (rename_i b xs; cases b <;> rfl)
@[simp ↓] theorem op12 {s0 s1 s2 s3 s4 s5 s6 s7 s8 s9 s10 s11 : Sl} {s : Sl} {r : Rho} : open? (s0 :: s1 :: s2 :: s3 :: s4 :: s5 :: s6 :: s7 :: s8 :: s9 :: s10 :: s11 :: s :: r) 12 = (opS s) := by cases s <;> first | rfl | (rename_i b xs; cases b <;> rfl)
@[simp ↓] theorem no12 {s0 s1 s2 s3 s4 s5 s6 s7 s8 s9 s10 s11 : Sl} {s : Sl} {r : Rho} : notOw (s0 :: s1 :: s2 :: s3 :: s4 :: s5 :: s6 :: s7 :: s8 :: s9 :: s10 :: s11 :: s :: r) 12 = (noS s) := by cases s <;> rfl
@[simp ↓] theorem io12 {s0 s1 s2 s3 s4 s5 s6 s7 s8 s9 s10 s11 : Sl} {b : Bool} {xs : List D} {r : Rho} : isOw (s0 :: s1 :: s2 :: s3 :: s4 :: s5 :: s6 :: s7 :: s8 :: s9 :: s10 :: s11 :: .ow b xs :: r) 12 = (true) := rfl
@[simp ↓] theorem oc12 {s0 s1 s2 s3 s4 s5 s6 s7 s8 s9 s10 s11 : Sl} {b : Bool} {xs : List D} {r : Rho} {K : List D → (List D → Rho) → Prop} : owc 12 (s0 :: s1 :: s2 :: s3 :: s4 :: s5 :: s6 :: s7 :: s8 :: s9 :: s10 :: s11 :: .ow b xs :: r) K = (K xs fun ys => (s0 :: s1 :: s2 :: s3 :: s4 :: s5 :: s6 :: s7 :: s8 :: s9 :: s10 :: s11 :: .ow b ys :: r)) := rfl
@[simp ↓] theorem zc12 {s0 s1 s2 s3 s4 s5 s6 s7 s8 s9 s10 s11 : Sl} {d : D} {r : Rho} {K : D → Prop} : fzc 12 (s0 :: s1 :: s2 :: s3 :: s4 :: s5 :: s6 :: s7 :: s8 :: s9 :: s10 :: s11 :: .fz d :: r) K = (K d) := rfl
@[simp ↓] theorem fn12_z {m : Bool} {Kd : Res → List D → Prop} {s0 s1 s2 s3 s4 s5 s6 s7 s8 s9 s10 s11 : Sl} {d : D} {r : Rho} : finR m Kd (.pl 12) (s0 :: s1 :: s2 :: s3 :: s4 :: s5 :: s6 :: s7 :: s8 :: s9 :: s10 :: s11 :: .fz d :: r) = (Kd (.d d) (bagOf m (s0 :: s1 :: s2 :: s3 :: s4 :: s5 :: s6 :: s7 :: s8 :: s9 :: s10 :: s11 :: .fz d :: r))) := rfl
@[simp ↓] theorem fn12_w {m : Bool} {Kd : Res → List D → Prop} {s0 s1 s2 s3 s4 s5 s6 s7 s8 s9 s10 s11 : Sl} {xs : List D} {r : Rho} : finR m Kd (.pl 12) (s0 :: s1 :: s2 :: s3 :: s4 :: s5 :: s6 :: s7 :: s8 :: s9 :: s10 :: s11 :: .ow false xs :: r) = (Kd (.n xs) (bagOf m (s0 :: s1 :: s2 :: s3 :: s4 :: s5 :: s6 :: s7 :: s8 :: s9 :: s10 :: s11 :: .ow false xs :: r))) := rfl
@[simp ↓] theorem v13_z {S : Sg} {xp : XP} {s0 s1 s2 s3 s4 s5 s6 s7 s8 s9 s10 s11 s12 : Sl} {d : D} {r : Rho} {K : KR} : iE S xp (.var 13) (s0 :: s1 :: s2 :: s3 :: s4 :: s5 :: s6 :: s7 :: s8 :: s9 :: s10 :: s11 :: s12 :: .fz d :: r) K = (K (.v d) (s0 :: s1 :: s2 :: s3 :: s4 :: s5 :: s6 :: s7 :: s8 :: s9 :: s10 :: s11 :: s12 :: .fz d :: r)) := rfl
@[simp ↓] theorem v13_w {S : Sg} {xp : XP} {s0 s1 s2 s3 s4 s5 s6 s7 s8 s9 s10 s11 s12 : Sl} {b : Bool} {xs : List D} {r : Rho} {K : KR} : iE S xp (.var 13) (s0 :: s1 :: s2 :: s3 :: s4 :: s5 :: s6 :: s7 :: s8 :: s9 :: s10 :: s11 :: s12 :: .ow b xs :: r) K = (K (.pl 13) (s0 :: s1 :: s2 :: s3 :: s4 :: s5 :: s6 :: s7 :: s8 :: s9 :: s10 :: s11 :: s12 :: .ow b xs :: r)) := rfl
@[simp ↓] theorem rp13_z {s0 s1 s2 s3 s4 s5 s6 s7 s8 s9 s10 s11 s12 : Sl} {d : D} {r : Rho} {K : D → Prop} : rdx (s0 :: s1 :: s2 :: s3 :: s4 :: s5 :: s6 :: s7 :: s8 :: s9 :: s10 :: s11 :: s12 :: .fz d :: r) (.pl 13) K = (K d) := rfl
@[simp ↓] theorem rp13_w {s0 s1 s2 s3 s4 s5 s6 s7 s8 s9 s10 s11 s12 : Sl} {b : Bool} {xs : List D} {r : Rho} {K : D → Prop} : rdx (s0 :: s1 :: s2 :: s3 :: s4 :: s5 :: s6 :: s7 :: s8 :: s9 :: s10 :: s11 :: s12 :: .ow b xs :: r) (.pl 13) K = (K (.lst xs)) := rfl
@[simp ↓] theorem fp13_z {s0 s1 s2 s3 s4 s5 s6 s7 s8 s9 s10 s11 s12 : Sl} {d : D} {r : Rho} {K : D → Rho → Prop} : fzx (s0 :: s1 :: s2 :: s3 :: s4 :: s5 :: s6 :: s7 :: s8 :: s9 :: s10 :: s11 :: s12 :: .fz d :: r) (.pl 13) K = (K d (s0 :: s1 :: s2 :: s3 :: s4 :: s5 :: s6 :: s7 :: s8 :: s9 :: s10 :: s11 :: s12 :: .fz d :: r)) := rfl
@[simp ↓] theorem fp13_w {s0 s1 s2 s3 s4 s5 s6 s7 s8 s9 s10 s11 s12 : Sl} {xs : List D} {r : Rho} {K : D → Rho → Prop} : fzx (s0 :: s1 :: s2 :: s3 :: s4 :: s5 :: s6 :: s7 :: s8 :: s9 :: s10 :: s11 :: s12 :: .ow false xs :: r) (.pl 13) K = (K (.lst xs) (s0 :: s1 :: s2 :: s3 :: s4 :: s5 :: s6 :: s7 :: s8 :: s9 :: s10 :: s11 :: s12 :: .fz (.lst xs) :: r)) := rfl
@[simp ↓] theorem sv13 {s0 s1 s2 s3 s4 s5 s6 s7 s8 s9 s10 s11 s12 : Sl} {s : Sl} {d : D} {r : Rho} {K : Rho → Prop} : setR (s0 :: s1 :: s2 :: s3 :: s4 :: s5 :: s6 :: s7 :: s8 :: s9 :: s10 :: s11 :: s12 :: s :: r) 13 (.v d) K = (opS s = true ∧ K (s0 :: s1 :: s2 :: s3 :: s4 :: s5 :: s6 :: s7 :: s8 :: s9 :: s10 :: s11 :: s12 :: .fz d :: r)) := by cases s <;> first | rfl | (rename_i b xs; cases b <;> rfl)
@[simp ↓] theorem sn13 {s0 s1 s2 s3 s4 s5 s6 s7 s8 s9 s10 s11 s12 : Sl} {s : Sl} {xs : List D} {r : Rho} {K : Rho → Prop} : setR (s0 :: s1 :: s2 :: s3 :: s4 :: s5 :: s6 :: s7 :: s8 :: s9 :: s10 :: s11 :: s12 :: s :: r) 13 (.n xs) K = (opS s = true ∧ K (s0 :: s1 :: s2 :: s3 :: s4 :: s5 :: s6 :: s7 :: s8 :: s9 :: s10 :: s11 :: s12 :: .ow false xs :: r)) := by cases s <;> first | rfl | (rename_i b xs; cases b <;> rfl)
@[simp ↓] theorem tg13 {s0 s1 s2 s3 s4 s5 s6 s7 s8 s9 s10 s11 s12 : Sl} {s : Sl} {d : D} {r : Rho} {K : Rho → Prop} : tgD (.nm 13) d (s0 :: s1 :: s2 :: s3 :: s4 :: s5 :: s6 :: s7 :: s8 :: s9 :: s10 :: s11 :: s12 :: s :: r) K = (opS s = true ∧ K (s0 :: s1 :: s2 :: s3 :: s4 :: s5 :: s6 :: s7 :: s8 :: s9 :: s10 :: s11 :: s12 :: .fz d :: r)) := by cases s <;> first | rfl | (rename_i b xs; cases b <;> rfl)
@[simp ↓] theorem op13 {s0 s1 s2 s3 s4 s5 s6 s7 s8 s9 s10 s11 s12 : Sl} {s : Sl} {r : Rho} : open? (s0 :: s1 :: s2 :: s3 :: s4 :: s5 :: s6 :: s7 :: s8 :: s9 :: s10 :: s11 :: s12 :: s :: r) 13 = (opS s) := by cases s <;> first | rfl | (rename_i b xs; cases b <;> rfl)
@[simp ↓] theorem no13 {s0 s1 s2 s3 s4 s5 s6 s7 s8 s9 s10 s11 s12 : Sl} {s : Sl} {r : Rho} : notOw (s0 :: s1 :: s2 :: s3 :: s4 :: s5 :: s6 :: s7 :: s8 :: s9 :: s10 :: s11 :: s12 :: s :: r) 13 = (noS s) := by cases s <;> rfl
@[simp ↓] theorem io13 {s0 s1 s2 s3 s4 s5 s6 s7 s8 s9 s10 s11 s12 : Sl} {b : Bool} {xs : List D} {r : Rho} : isOw (s0 :: s1 :: s2 :: s3 :: s4 :: s5 :: s6 :: s7 :: s8 :: s9 :: s10 :: s11 :: s12 :: .ow b xs :: r) 13 = (true) := rfl
@[simp ↓] theorem oc13 {s0 s1 s2 s3 s4 s5 s6 s7 s8 s9 s10 s11 s12 : Sl} {b : Bool} {xs : List D} {r : Rho} {K : List D → (List D → Rho) → Prop} : owc 13 (s0 :: s1 :: s2 :: s3 :: s4 :: s5 :: s6 :: s7 :: s8 :: s9 :: s10 :: s11 :: s12 :: .ow b xs :: r) K = (K xs fun ys => (s0 :: s1 :: s2 :: s3 :: s4 :: s5 :: s6 :: s7 :: s8 :: s9 :: s10 :: s11 :: s12 :: .ow b ys :: r)) := rfl
@[simp ↓] theorem zc13 {s0 s1 s2 s3 s4 s5 s6 s7 s8 s9 s10 s11 s12 : Sl} {d : D} {r : Rho} {K : D → Prop} : fzc 13 (s0 :: s1 :: s2 :: s3 :: s4 :: s5 :: s6 :: s7 :: s8 :: s9 :: s10 :: s11 :: s12 :: .fz d :: r) K = (K d) := rfl
@[simp ↓] theorem fn13_z {m : Bool} {Kd : Res → List D → Prop} {s0 s1 s2 s3 s4 s5 s6 s7 s8 s9 s10 s11 s12 : Sl} {d : D} {r : Rho} : finR m Kd (.pl 13) (s0 :: s1 :: s2 :: s3 :: s4 :: s5 :: s6 :: s7 :: s8 :: s9 :: s10 :: s11 :: s12 :: .fz d :: r) = (Kd (.d d) (bagOf m (s0 :: s1 :: s2 :: s3 :: s4 :: s5 :: s6 :: s7 :: s8 :: s9 :: s10 :: s11 :: s12 :: .fz d :: r))) := rfl
@[simp ↓] theorem fn13_w {m : Bool} {Kd : Res → List D → Prop} {s0 s1 s2 s3 s4 s5 s6 s7 s8 s9 s10 s11 s12 : Sl} {xs : List D} {r : Rho} : finR m Kd (.pl 13) (s0 :: s1 :: s2 :: s3 :: s4 :: s5 :: s6 :: s7 :: s8 :: s9 :: s10 :: s11 :: s12 :: .ow false xs :: r) = (Kd (.n xs) (bagOf m (s0 :: s1 :: s2 :: s3 :: s4 :: s5 :: s6 :: s7 :: s8 :: s9 :: s10 :: s11 :: s12 :: .ow false xs :: r))) := rfl
@[simp ↓] theorem v14_z {S : Sg} {xp : XP} {s0 s1 s2 s3 s4 s5 s6 s7 s8 s9 s10 s11 s12 s13 : Sl} {d : D} {r : Rho} {K : KR} : iE S xp (.var 14) (s0 :: s1 :: s2 :: s3 :: s4 :: s5 :: s6 :: s7 :: s8 :: s9 :: s10 :: s11 :: s12 :: s13 :: .fz d :: r) K = (K (.v d) (s0 :: s1 :: s2 :: s3 :: s4 :: s5 :: s6 :: s7 :: s8 :: s9 :: s10 :: s11 :: s12 :: s13 :: .fz d :: r)) := rfl
@[simp ↓] theorem v14_w {S : Sg} {xp : XP} {s0 s1 s2 s3 s4 s5 s6 s7 s8 s9 s10 s11 s12 s13 : Sl} {b : Bool} {xs : List D} {r : Rho} {K : KR} : iE S xp (.var 14) (s0 :: s1 :: s2 :: s3 :: s4 :: s5 :: s6 :: s7 :: s8 :: s9 :: s10 :: s11 :: s12 :: s13 :: .ow b xs :: r) K = (K (.pl 14) (s0 :: s1 :: s2 :: s3 :: s4 :: s5 :: s6 :: s7 :: s8 :: s9 :: s10 :: s11 :: s12 :: s13 :: .ow b xs :: r)) := rfl
@[simp ↓] theorem rp14_z {s0 s1 s2 s3 s4 s5 s6 s7 s8 s9 s10 s11 s12 s13 : Sl} {d : D} {r : Rho} {K : D → Prop} : rdx (s0 :: s1 :: s2 :: s3 :: s4 :: s5 :: s6 :: s7 :: s8 :: s9 :: s10 :: s11 :: s12 :: s13 :: .fz d :: r) (.pl 14) K = (K d) := rfl
@[simp ↓] theorem rp14_w {s0 s1 s2 s3 s4 s5 s6 s7 s8 s9 s10 s11 s12 s13 : Sl} {b : Bool} {xs : List D} {r : Rho} {K : D → Prop} : rdx (s0 :: s1 :: s2 :: s3 :: s4 :: s5 :: s6 :: s7 :: s8 :: s9 :: s10 :: s11 :: s12 :: s13 :: .ow b xs :: r) (.pl 14) K = (K (.lst xs)) := rfl
@[simp ↓] theorem fp14_z {s0 s1 s2 s3 s4 s5 s6 s7 s8 s9 s10 s11 s12 s13 : Sl} {d : D} {r : Rho} {K : D → Rho → Prop} : fzx (s0 :: s1 :: s2 :: s3 :: s4 :: s5 :: s6 :: s7 :: s8 :: s9 :: s10 :: s11 :: s12 :: s13 :: .fz d :: r) (.pl 14) K = (K d (s0 :: s1 :: s2 :: s3 :: s4 :: s5 :: s6 :: s7 :: s8 :: s9 :: s10 :: s11 :: s12 :: s13 :: .fz d :: r)) := rfl
@[simp ↓] theorem fp14_w {s0 s1 s2 s3 s4 s5 s6 s7 s8 s9 s10 s11 s12 s13 : Sl} {xs : List D} {r : Rho} {K : D → Rho → Prop} : fzx (s0 :: s1 :: s2 :: s3 :: s4 :: s5 :: s6 :: s7 :: s8 :: s9 :: s10 :: s11 :: s12 :: s13 :: .ow false xs :: r) (.pl 14) K = (K (.lst xs) (s0 :: s1 :: s2 :: s3 :: s4 :: s5 :: s6 :: s7 :: s8 :: s9 :: s10 :: s11 :: s12 :: s13 :: .fz (.lst xs) :: r)) := rfl
@[simp ↓] theorem sv14 {s0 s1 s2 s3 s4 s5 s6 s7 s8 s9 s10 s11 s12 s13 : Sl} {s : Sl} {d : D} {r : Rho} {K : Rho → Prop} : setR (s0 :: s1 :: s2 :: s3 :: s4 :: s5 :: s6 :: s7 :: s8 :: s9 :: s10 :: s11 :: s12 :: s13 :: s :: r) 14 (.v d) K = (opS s = true ∧ K (s0 :: s1 :: s2 :: s3 :: s4 :: s5 :: s6 :: s7 :: s8 :: s9 :: s10 :: s11 :: s12 :: s13 :: .fz d :: r)) := by cases s <;> first | rfl | (rename_i b xs; cases b <;> rfl)
@[simp ↓] theorem sn14 {s0 s1 s2 s3 s4 s5 s6 s7 s8 s9 s10 s11 s12 s13 : Sl} {s : Sl} {xs : List D} {r : Rho} {K : Rho → Prop} : setR (s0 :: s1 :: s2 :: s3 :: s4 :: s5 :: s6 :: s7 :: s8 :: s9 :: s10 :: s11 :: s12 :: s13 :: s :: r) 14 (.n xs) K = (opS s = true ∧ K (s0 :: s1 :: s2 :: s3 :: s4 :: s5 :: s6 :: s7 :: s8 :: s9 :: s10 :: s11 :: s12 :: s13 :: .ow false xs :: r)) := by cases s <;> first | rfl | (rename_i b xs; cases b <;> rfl)
@[simp ↓] theorem tg14 {s0 s1 s2 s3 s4 s5 s6 s7 s8 s9 s10 s11 s12 s13 : Sl} {s : Sl} {d : D} {r : Rho} {K : Rho → Prop} : tgD (.nm 14) d (s0 :: s1 :: s2 :: s3 :: s4 :: s5 :: s6 :: s7 :: s8 :: s9 :: s10 :: s11 :: s12 :: s13 :: s :: r) K = (opS s = true ∧ K (s0 :: s1 :: s2 :: s3 :: s4 :: s5 :: s6 :: s7 :: s8 :: s9 :: s10 :: s11 :: s12 :: s13 :: .fz d :: r)) := by cases s <;> first | rfl | (rename_i b xs; cases b <;> rfl)
@[simp ↓] theorem op14 {s0 s1 s2 s3 s4 s5 s6 s7 s8 s9 s10 s11 s12 s13 : Sl} {s : Sl} {r : Rho} : open? (s0 :: s1 :: s2 :: s3 :: s4 :: s5 :: s6 :: s7 :: s8 :: s9 :: s10 :: s11 :: s12 :: s13 :: s :: r) 14 = (opS s) := by cases s <;> first | rfl | (rename_i b xs; cases b <;> rfl)
@[simp ↓] theorem no14 {s0 s1 s2 s3 s4 s5 s6 s7 s8 s9 s10 s11 s12 s13 : Sl} {s : Sl} {r : Rho} : notOw (s0 :: s1 :: s2 :: s3 :: s4 :: s5 :: s6 :: s7 :: s8 :: s9 :: s10 :: s11 :: s12 :: s13 :: s :: r) 14 = (noS s) := by cases s <;> rfl
@[simp ↓] theorem io14 {s0 s1 s2 s3 s4 s5 s6 s7 s8 s9 s10 s11 s12 s13 : Sl} {b : Bool} {xs : List D} {r : Rho} : isOw (s0 :: s1 :: s2 :: s3 :: s4 :: s5 :: s6 :: s7 :: s8 :: s9 :: s10 :: s11 :: s12 :: s13 :: .ow b xs :: r) 14 = (true) := rfl
@[simp ↓] theorem oc14 {s0 s1 s2 s3 s4 s5 s6 s7 s8 s9 s10 s11 s12 s13 : Sl} {b : Bool} {xs : List D} {r : Rho} {K : List D → (List D → Rho) → Prop} : owc 14 (s0 :: s1 :: s2 :: s3 :: s4 :: s5 :: s6 :: s7 :: s8 :: s9 :: s10 :: s11 :: s12 :: s13 :: .ow b xs :: r) K = (K xs fun ys => (s0 :: s1 :: s2 :: s3 :: s4 :: s5 :: s6 :: s7 :: s8 :: s9 :: s10 :: s11 :: s12 :: s13 :: .ow b ys :: r)) := rfl
@[simp ↓] theorem zc14 {s0 s1 s2 s3 s4 s5 s6 s7 s8 s9 s10 s11 s12 s13 : Sl} {d : D} {r : Rho} {K : D → Prop} : fzc 14 (s0 :: s1 :: s2 :: s3 :: s4 :: s5 :: s6 :: s7 :: s8 :: s9 :: s10 :: s11 :: s12 :: s13 :: .fz d :: r) K = (K d) := rfl
@[simp ↓] theorem fn14_z {m : Bool} {Kd : Res → List D → Prop} {s0 s1 s2 s3 s4 s5 s6 s7 s8 s9 s10 s11 s12 s13 : Sl} {d : D} {r : Rho} : finR m Kd (.pl 14) (s0 :: s1 :: s2 :: s3 :: s4 :: s5 :: s6 :: s7 :: s8 :: s9 :: s10 :: s11 :: s12 :: s13 :: .fz d :: r) = (Kd (.d d) (bagOf m (s0 :: s1 :: s2 :: s3 :: s4 :: s5 :: s6 :: s7 :: s8 :: s9 :: s10 :: s11 :: s12 :: s13 :: .fz d :: r))) := rfl
@[simp ↓] theorem fn14_w {m : Bool} {Kd : Res → List D → Prop} {s0 s1 s2 s3 s4 s5 s6 s7 s8 s9 s10 s11 s12 s13 : Sl} {xs : List D} {r : Rho} : finR m Kd (.pl 14) (s0 :: s1 :: s2 :: s3 :: s4 :: s5 :: s6 :: s7 :: s8 :: s9 :: s10 :: s11 :: s12 :: s13 :: .ow false xs :: r) = (Kd (.n xs) (bagOf m (s0 :: s1 :: s2 :: s3 :: s4 :: s5 :: s6 :: s7 :: s8 :: s9 :: s10 :: s11 :: s12 :: s13 :: .ow false xs :: r))) := rfl
@[simp ↓] theorem v15_z {S : Sg} {xp : XP} {s0 s1 s2 s3 s4 s5 s6 s7 s8 s9 s10 s11 s12 s13 s14 : Sl} {d : D} {r : Rho} {K : KR} : iE S xp (.var 15) (s0 :: s1 :: s2 :: s3 :: s4 :: s5 :: s6 :: s7 :: s8 :: s9 :: s10 :: s11 :: s12 :: s13 :: s14 :: .fz d :: r) K = (K (.v d) (s0 :: s1 :: s2 :: s3 :: s4 :: s5 :: s6 :: s7 :: s8 :: s9 :: s10 :: s11 :: s12 :: s13 :: s14 :: .fz d :: r)) := rfl
@[simp ↓] theorem v15_w {S : Sg} {xp : XP} {s0 s1 s2 s3 s4 s5 s6 s7 s8 s9 s10 s11 s12 s13 s14 : Sl} {b : Bool} {xs : List D} {r : Rho} {K : KR} : iE S xp (.var 15) (s0 :: s1 :: s2 :: s3 :: s4 :: s5 :: s6 :: s7 :: s8 :: s9 :: s10 :: s11 :: s12 :: s13 :: s14 :: .ow b xs :: r) K = (K (.pl 15) (s0 :: s1 :: s2 :: s3 :: s4 :: s5 :: s6 :: s7 :: s8 :: s9 :: s10 :: s11 :: s12 :: s13 :: s14 :: .ow b xs :: r)) := rfl
@[simp ↓] theorem rp15_z {s0 s1 s2 s3 s4 s5 s6 s7 s8 s9 s10 s11 s12 s13 s14 : Sl} {d : D} {r : Rho} {K : D → Prop} : rdx (s0 :: s1 :: s2 :: s3 :: s4 :: s5 :: s6 :: s7 :: s8 :: s9 :: s10 :: s11 :: s12 :: s13 :: s14 :: .fz d :: r) (.pl 15) K = (K d) := rfl
@[simp ↓] theorem rp15_w {s0 s1 s2 s3 s4 s5 s6 s7 s8 s9 s10 s11 s12 s13 s14 : Sl} {b : Bool} {xs : List D} {r : Rho} {K : D → Prop} : rdx (s0 :: s1 :: s2 :: s3 :: s4 :: s5 :: s6 :: s7 :: s8 :: s9 :: s10 :: s11 :: s12 :: s13 :: s14 :: .ow b xs :: r) (.pl 15) K = (K (.lst xs)) := rfl
@[simp ↓] theorem fp15_z {s0 s1 s2 s3 s4 s5 s6 s7 s8 s9 s10 s11 s12 s13 s14 : Sl} {d : D} {r : Rho} {K : D → Rho → Prop} : fzx (s0 :: s1 :: s2 :: s3 :: s4 :: s5 :: s6 :: s7 :: s8 :: s9 :: s10 :: s11 :: s12 :: s13 :: s14 :: .fz d :: r) (.pl 15) K = (K d (s0 :: s1 :: s2 :: s3 :: s4 :: s5 :: s6 :: s7 :: s8 :: s9 :: s10 :: s11 :: s12 :: s13 :: s14 :: .fz d :: r)) := rfl
@[simp ↓] theorem fp15_w {s0 s1 s2 s3 s4 s5 s6 s7 s8 s9 s10 s11 s12 s13 s14 : Sl} {xs : List D} {r : Rho} {K : D → Rho → Prop} : fzx (s0 :: s1 :: s2 :: s3 :: s4 :: s5 :: s6 :: s7 :: s8 :: s9 :: s10 :: s11 :: s12 :: s13 :: s14 :: .ow false xs :: r) (.pl 15) K = (K (.lst xs) (s0 :: s1 :: s2 :: s3 :: s4 :: s5 :: s6 :: s7 :: s8 :: s9 :: s10 :: s11 :: s12 :: s13 :: s14 :: .fz (.lst xs) :: r)) := rfl
@[simp ↓] theorem sv15 {s0 s1 s2 s3 s4 s5 s6 s7 s8 s9 s10 s11 s12 s13 s14 : Sl} {s : Sl} {d : D} {r : Rho} {K : Rho → Prop} : setR (s0 :: s1 :: s2 :: s3 :: s4 :: s5 :: s6 :: s7 :: s8 :: s9 :: s10 :: s11 :: s12 :: s13 :: s14 :: s :: r) 15 (.v d) K = (opS s = true ∧ K (s0 :: s1 :: s2 :: s3 :: s4 :: s5 :: s6 :: s7 :: s8 :: s9 :: s10 :: s11 :: s12 :: s13 :: s14 :: .fz d :: r)) := by cases s <;> first | rfl | (rename_i b xs; cases b <;> rfl)
@[simp ↓] theorem sn15 {s0 s1 s2 s3 s4 s5 s6 s7 s8 s9 s10 s11 s12 s13 s14 : Sl} {s : Sl} {xs : List D} {r : Rho} {K : Rho → Prop} : setR (s0 :: s1 :: s2 :: s3 :: s4 :: s5 :: s6 :: s7 :: s8 :: s9 :: s10 :: s11 :: s12 :: s13 :: s14 :: s :: r) 15 (.n xs) K = (opS s = true ∧ K (s0 :: s1 :: s2 :: s3 :: s4 :: s5 :: s6 :: s7 :: s8 :: s9 :: s10 :: s11 :: s12 :: s13 :: s14 :: .ow false xs :: r)) := by cases s <;> first | rfl | (rename_i b xs; cases b <;> rfl)
@[simp ↓] theorem tg15 {s0 s1 s2 s3 s4 s5 s6 s7 s8 s9 s10 s11 s12 s13 s14 : Sl} {s : Sl} {d : D} {r : Rho} {K : Rho → Prop} : tgD (.nm 15) d (s0 :: s1 :: s2 :: s3 :: s4 :: s5 :: s6 :: s7 :: s8 :: s9 :: s10 :: s11 :: s12 :: s13 :: s14 :: s :: r) K = (opS s = true ∧ K (s0 :: s1 :: s2 :: s3 :: s4 :: s5 :: s6 :: s7 :: s8 :: s9 :: s10 :: s11 :: s12 :: s13 :: s14 :: .fz d :: r)) := by cases s <;> first | rfl | (rename_i b xs; cases b <;> rfl)
@[simp ↓] theorem op15 {s0 s1 s2 s3 s4 s5 s6 s7 s8 s9 s10 s11 s12 s13 s14 : Sl} {s : Sl} {r : Rho} : open? (s0 :: s1 :: s2 :: s3 :: s4 :: s5 :: s6 :: s7 :: s8 :: s9 :: s10 :: s11 :: s12 :: s13 :: s14 :: s :: r) 15 = (opS s) := by cases s <;> first | rfl | (rename_i b xs; cases b <;> rfl)
@[simp ↓] theorem no15 {s0 s1 s2 s3 s4 s5 s6 s7 s8 s9 s10 s11 s12 s13 s14 : Sl} {s : Sl} {r : Rho} : notOw (s0 :: s1 :: s2 :: s3 :: s4 :: s5 :: s6 :: s7 :: s8 :: s9 :: s10 :: s11 :: s12 :: s13 :: s14 :: s :: r) 15 = (noS s) := by cases s <;> rfl
@[simp ↓] theorem io15 {s0 s1 s2 s3 s4 s5 s6 s7 s8 s9 s10 s11 s12 s13 s14 : Sl} {b : Bool} {xs : List D} {r : Rho} : isOw (s0 :: s1 :: s2 :: s3 :: s4 :: s5 :: s6 :: s7 :: s8 :: s9 :: s10 :: s11 :: s12 :: s13 :: s14 :: .ow b xs :: r) 15 = (true) := rfl
@[simp ↓] theorem oc15 {s0 s1 s2 s3 s4 s5 s6 s7 s8 s9 s10 s11 s12 s13 s14 : Sl} {b : Bool} {xs : List D} {r : Rho} {K : List D → (List D → Rho) → Prop} : owc 15 (s0 :: s1 :: s2 :: s3 :: s4 :: s5 :: s6 :: s7 :: s8 :: s9 :: s10 :: s11 :: s12 :: s13 :: s14 :: .ow b xs :: r) K = (K xs fun ys => (s0 :: s1 :: s2 :: s3 :: s4 :: s5 :: s6 :: s7 :: s8 :: s9 :: s10 :: s11 :: s12 :: s13 :: s14 :: .ow b ys :: r)) := rfl
@[simp ↓] theorem zc15 {s0 s1 s2 s3 s4 s5 s6 s7 s8 s9 s10 s11 s12 s13 s14 : Sl} {d : D} {r : Rho} {K : D → Prop} : fzc 15 (s0 :: s1 :: s2 :: s3 :: s4 :: s5 :: s6 :: s7 :: s8 :: s9 :: s10 :: s11 :: s12 :: s13 :: s14 :: .fz d :: r) K = (K d) := rfl
@[simp ↓] theorem fn15_z {m : Bool} {Kd : Res → List D → Prop} {s0 s1 s2 s3 s4 s5 s6 s7 s8 s9 s10 s11 s12 s13 s14 : Sl} {d : D} {r : Rho} : finR m Kd (.pl 15) (s0 :: s1 :: s2 :: s3 :: s4 :: s5 :: s6 :: s7 :: s8 :: s9 :: s10 :: s11 :: s12 :: s13 :: s14 :: .fz d :: r) = (Kd (.d d) (bagOf m (s0 :: s1 :: s2 :: s3 :: s4 :: s5 :: s6 :: s7 :: s8 :: s9 :: s10 :: s11 :: s12 :: s13 :: s14 :: .fz d :: r))) := rfl
@[simp ↓] theorem fn15_w {m : Bool} {Kd : Res → List D → Prop} {s0 s1 s2 s3 s4 s5 s6 s7 s8 s9 s10 s11 s12 s13 s14 : Sl} {xs : List D} {r : Rho} : finR m Kd (.pl 15) (s0 :: s1 :: s2 :: s3 :: s4 :: s5 :: s6 :: s7 :: s8 :: s9 :: s10 :: s11 :: s12 :: s13 :: s14 :: .ow false xs :: r) = (Kd (.n xs) (bagOf m (s0 :: s1 :: s2 :: s3 :: s4 :: s5 :: s6 :: s7 :: s8 :: s9 :: s10 :: s11 :: s12 :: s13 :: s14 :: .ow false xs :: r))) := rfl
@[simp ↓] theorem v16_z {S : Sg} {xp : XP} {s0 s1 s2 s3 s4 s5 s6 s7 s8 s9 s10 s11 s12 s13 s14 s15 : Sl} {d : D} {r : Rho} {K : KR} : iE S xp (.var 16) (s0 :: s1 :: s2 :: s3 :: s4 :: s5 :: s6 :: s7 :: s8 :: s9 :: s10 :: s11 :: s12 :: s13 :: s14 :: s15 :: .fz d :: r) K = (K (.v d) (s0 :: s1 :: s2 :: s3 :: s4 :: s5 :: s6 :: s7 :: s8 :: s9 :: s10 :: s11 :: s12 :: s13 :: s14 :: s15 :: .fz d :: r)) := rfl
@[simp ↓] theorem v16_w {S : Sg} {xp : XP} {s0 s1 s2 s3 s4 s5 s6 s7 s8 s9 s10 s11 s12 s13 s14 s15 : Sl} {b : Bool} {xs : List D} {r : Rho} {K : KR} : iE S xp (.var 16) (s0 :: s1 :: s2 :: s3 :: s4 :: s5 :: s6 :: s7 :: s8 :: s9 :: s10 :: s11 :: s12 :: s13 :: s14 :: s15 :: .ow b xs :: r) K = (K (.pl 16) (s0 :: s1 :: s2 :: s3 :: s4 :: s5 :: s6 :: s7 :: s8 :: s9 :: s10 :: s11 :: s12 :: s13 :: s14 :: s15 :: .ow b xs :: r)) := rfl
@[simp ↓] theorem rp16_z {s0 s1 s2 s3 s4 s5 s6 s7 s8 s9 s10 s11 s12 s13 s14 s15 : Sl} {d : D} {r : Rho} {K : D → Prop} : rdx (s0 :: s1 :: s2 :: s3 :: s4 :: s5 :: s6 :: s7 :: s8 :: s9 :: s10 :: s11 :: s12 :: s13 :: s14 :: s15 :: .fz d :: r) (.pl 16) K = (K d) := rfl
@[simp ↓] theorem rp16_w {s0 s1 s2 s3 s4 s5 s6 s7 s8 s9 s10 s11 s12 s13 s14 s15 : Sl} {b : Bool} {xs : List D} {r : Rho} {K : D → Prop} : rdx (s0 :: s1 :: s2 :: s3 :: s4 :: s5 :: s6 :: s7 :: s8 :: s9 :: s10 :: s11 :: s12 :: s13 :: s14 :: s15 :: .ow b xs :: r) (.pl 16) K = (K (.lst xs)) := rfl
@[simp ↓] theorem fp16_z {s0 s1 s2 s3 s4 s5 s6 s7 s8 s9 s10 s11 s12 s13 s14 s15 : Sl} {d : D} {r : Rho} {K : D → Rho → Prop} : fzx (s0 :: s1 :: s2 :: s3 :: s4 :: s5 :: s6 :: s7 :: s8 :: s9 :: s10 :: s11 :: s12 :: s13 :: s14 :: s15 :: .fz d :: r) (.pl 16) K = (K d (s0 :: s1 :: s2 :: s3 :: s4 :: s5 :: s6 :: s7 :: s8 :: s9 :: s10 :: s11 :: s12 :: s13 :: s14 :: s15 :: .fz d :: r)) := rfl
@[simp ↓] theorem fp16_w {s0 s1 s2 s3 s4 s5 s6 s7 s8 s9 s10 s11 s12 s13 s14 s15 : Sl} {xs : List D} {r : Rho} {K : D → Rho → Prop} : fzx (s0 :: s1 :: s2 :: s3 :: s4 :: s5 :: s6 :: s7 :: s8 :: s9 :: s10 :: s11 :: s12 :: s13 :: s14 :: s15 :: .ow false xs :: r) (.pl 16) K = (K (.lst xs) (s0 :: s1 :: s2 :: s3 :: s4 :: s5 :: s6 :: s7 :: s8 :: s9 :: s10 :: s11 :: s12 :: s13 :: s14 :: s15 :: .fz (.lst xs) :: r)) := rfl
@[simp ↓] theorem sv16 {s0 s1 s2 s3 s4 s5 s6 s7 s8 s9 s10 s11 s12 s13 s14 s15 : Sl} {s : Sl} {d : D} {r : Rho} {K : Rho → Prop} : setR (s0 :: s1 :: s2 :: s3 :: s4 :: s5 :: s6 :: s7 :: s8 :: s9 :: s10 :: s11 :: s12 :: s13 :: s14 :: s15 :: s :: r) 16 (.v d) K = (opS s = true ∧ K (s0 :: s1 :: s2 :: s3 :: s4 :: s5 :: s6 :: s7 :: s8 :: s9 :: s10 :: s11 :: s12 :: s13 :: s14 :: s15 :: .fz d :: r)) := by cases s <;> first | rfl | (rename_i b xs; cases b <;> rfl)
@[simp ↓] theorem sn16 {s0 s1 s2 s3 s4 s5 s6 s7 s8 s9 s10 s11 s12 s13 s14 s15 : Sl} {s : Sl} {xs : List D} {r : Rho} {K : Rho → Prop} : setR (s0 :: s1 :: s2 :: s3 :: s4 :: s5 :: s6 :: s7 :: s8 :: s9 :: s10 :: s11 :: s12 :: s13 :: s14 :: s15 :: s :: r) 16 (.n xs) K = (opS s = true ∧ K (s0 :: s1 :: s2 :: s3 :: s4 :: s5 :: s6 :: s7 :: s8 :: s9 :: s10 :: s11 :: s12 :: s13 :: s14 :: s15 :: .ow false xs :: r)) := by cases s <;> first | rfl | (rename_i b xs; cases b <;> rfl)
@[simp ↓] theorem tg16 {s0 s1 s2 s3 s4 s5 s6 s7 s8 s9 s10 s11 s12 s13 s14 s15 : Sl} {s : Sl} {d : D} {r : Rho} {K : Rho → Prop} : tgD (.nm 16) d (s0 :: s1 :: s2 :: s3 :: s4 :: s5 :: s6 :: s7 :: s8 :: s9 :: s10 :: s11 :: s12 :: s13 :: s14 :: s15 :: s :: r) K = (opS s = true ∧ K (s0 :: s1 :: s2 :: s3 :: s4 :: s5 :: s6 :: s7 :: s8 :: s9 :: s10 :: s11 :: s12 :: s13 :: s14 :: s15 :: .fz d :: r)) := by cases s <;> first | rfl | (rename_i b xs; cases b <;> rfl)
@[simp ↓] theorem op16 {s0 s1 s2 s3 s4 s5 s6 s7 s8 s9 s10 s11 s12 s13 s14 s15 : Sl} {s : Sl} {r : Rho} : open? (s0 :: s1 :: s2 :: s3 :: s4 :: s5 :: s6 :: s7 :: s8 :: s9 :: s10 :: s11 :: s12 :: s13 :: s14 :: s15 :: s :: r) 16 = (opS s) := by cases s <;> first | rfl | (rename_i b xs; cases b <;> rfl)
@[simp ↓] theorem no16 {s0 s1 s2 s3 s4 s5 s6 s7 s8 s9 s10 s11 s12 s13 s14 s15 : Sl} {s : Sl} {r : Rho} : notOw (s0 :: s1 :: s2 :: s3 :: s4 :: s5 :: s6 :: s7 :: s8 :: s9 :: s10 :: s11 :: s12 :: s13 :: s14 :: s15 :: s :: r) 16 = (noS s) := by cases s <;> rfl
@[simp ↓] theorem io16 {s0 s1 s2 s3 s4 s5 s6 s7 s8 s9 s10 s11 s12 s13 s14 s15 : Sl} {b : Bool} {xs : List D} {r : Rho} : isOw (s0 :: s1 :: s2 :: s3 :: s4 :: s5 :: s6 :: s7 :: s8 :: s9 :: s10 :: s11 :: s12 :: s13 :: s14 :: s15 :: .ow b xs :: r) 16 = (true) := rfl
@[simp ↓] theorem oc16 {s0 s1 s2 s3 s4 s5 s6 s7 s8 s9 s10 s11 s12 s13 s14 s15 : Sl} {b : Bool} {xs : List D} {r : Rho} {K : List D → (List D → Rho) → Prop} : owc 16 (s0 :: s1 :: s2 :: s3 :: s4 :: s5 :: s6 :: s7 :: s8 :: s9 :: s10 :: s11 :: s12 :: s13 :: s14 :: s15 :: .ow b xs :: r) K = (K xs fun ys => (s0 :: s1 :: s2 :: s3 :: s4 :: s5 :: s6 :: s7 :: s8 :: s9 :: s10 :: s11 :: s12 :: s13 :: s14 :: s15 :: .ow b ys :: r)) := rfl
@[simp ↓] theorem zc16 {s0 s1 s2 s3 s4 s5 s6 s7 s8 s9 s10 s11 s12 s13 s14 s15 : Sl} {d : D} {r : Rho} {K : D → Prop} : fzc 16 (s0 :: s1 :: s2 :: s3 :: s4 :: s5 :: s6 :: s7 :: s8 :: s9 :: s10 :: s11 :: s12 :: s13 :: s14 :: s15 :: .fz d :: r) K = (K d) := rfl
@[simp ↓] theorem fn16_z {m : Bool} {Kd : Res → List D → Prop} {s0 s1 s2 s3 s4 s5 s6 s7 s8 s9 s10 s11 s12 s13 s14 s15 : Sl} {d : D} {r : Rho} : finR m Kd (.pl 16) (s0 :: s1 :: s2 :: s3 :: s4 :: s5 :: s6 :: s7 :: s8 :: s9 :: s10 :: s11 :: s12 :: s13 :: s14 :: s15 :: .fz d :: r) = (Kd (.d d) (bagOf m (s0 :: s1 :: s2 :: s3 :: s4 :: s5 :: s6 :: s7 :: s8 :: s9 :: s10 :: s11 :: s12 :: s13 :: s14 :: s15 :: .fz d :: r))) := rfl
@[simp ↓] theorem fn16_w {m : Bool} {Kd : Res → List D → Prop} {s0 s1 s2 s3 s4 s5 s6 s7 s8 s9 s10 s11 s12 s13 s14 s15 : Sl} {xs : List D} {r : Rho} : finR m Kd (.pl 16) (s0 :: s1 :: s2 :: s3 :: s4 :: s5 :: s6 :: s7 :: s8 :: s9 :: s10 :: s11 :: s12 :: s13 :: s14 :: s15 :: .ow false xs :: r) = (Kd (.n xs) (bagOf m (s0 :: s1 :: s2 :: s3 :: s4 :: s5 :: s6 :: s7 :: s8 :: s9 :: s10 :: s11 :: s12 :: s13 :: s14 :: s15 :: .ow false xs :: r))) := rfl
@[simp ↓] theorem v17_z {S : Sg} {xp : XP} {s0 s1 s2 s3 s4 s5 s6 s7 s8 s9 s10 s11 s12 s13 s14 s15 s16 : Sl} {d : D} {r : Rho} {K : KR} : iE S xp (.var 17) (s0 :: s1 :: s2 :: s3 :: s4 :: s5 :: s6 :: s7 :: s8 :: s9 :: s10 :: s11 :: s12 :: s13 :: s14 :: s15 :: s16 :: .fz d :: r) K = (K (.v d) (s0 :: s1 :: s2 :: s3 :: s4 :: s5 :: s6 :: s7 :: s8 :: s9 :: s10 :: s11 :: s12 :: s13 :: s14 :: s15 :: s16 :: .fz d :: r)) := rfl
@[simp ↓] theorem v17_w {S : Sg} {xp : XP} {s0 s1 s2 s3 s4 s5 s6 s7 s8 s9 s10 s11 s12 s13 s14 s15 s16 : Sl} {b : Bool} {xs : List D} {r : Rho} {K : KR} : iE S xp (.var 17) (s0 :: s1 :: s2 :: s3 :: s4 :: s5 :: s6 :: s7 :: s8 :: s9 :: s10 :: s11 :: s12 :: s13 :: s14 :: s15 :: s16 :: .ow b xs :: r) K = (K (.pl 17) (s0 :: s1 :: s2 :: s3 :: s4 :: s5 :: s6 :: s7 :: s8 :: s9 :: s10 :: s11 :: s12 :: s13 :: s14 :: s15 :: s16 :: .ow b xs :: r)) := rfl
@[simp ↓] theorem rp17_z {s0 s1 s2 s3 s4 s5 s6 s7 s8 s9 s10 s11 s12 s13 s14 s15 s16 : Sl} {d : D} {r : Rho} {K : D → Prop} : rdx (s0 :: s1 :: s2 :: s3 :: s4 :: s5 :: s6 :: s7 :: s8 :: s9 :: s10 :: s11 :: s12 :: s13 :: s14 :: s15 :: s16 :: .fz d :: r) (.pl 17) K = (K d) := rfl
@[simp ↓] theorem rp17_w {s0 s1 s2 s3 s4 s5 s6 s7 s8 s9 s10 s11 s12 s13 s14 s15 s16 : Sl} {b : Bool} {xs : List D} {r : Rho} {K : D → Prop} : rdx (s0 :: s1 :: s2 :: s3 :: s4 :: s5 :: s6 :: s7 :: s8 :: s9 :: s10 :: s11 :: s12 :: s13 :: s14 :: s15 :: s16 :: .ow b xs :: r) (.pl 17) K = (K (.lst xs)) := rfl
@[simp ↓] theorem fp17_z {s0 s1 s2 s3 s4 s5 s6 s7 s8 s9 s10 s11 s12 s13 s14 s15 s16 : Sl} {d : D} {r : Rho} {K : D → Rho → Prop} : fzx (s0 :: s1 :: s2 :: s3 :: s4 :: s5 :: s6 :: s7 :: s8 :: s9 :: s10 :: s11 :: s12 :: s13 :: s14 :: s15 :: s16 :: .fz d :: r) (.pl 17) K = (K d (s0 :: s1 :: s2 :: s3 :: s4 :: s5 :: s6 :: s7 :: s8 :: s9 :: s10 :: s11 :: s12 :: s13 :: s14 :: s15 :: s16 :: .fz d :: r)) := rfl
@[simp ↓] theorem fp17_w {s0 s1 s2 s3 s4 s5 s6 s7 s8 s9 s10 s11 s12 s13 s14 s15 s16 : Sl} {xs : List D} {r : Rho} {K : D → Rho → Prop} : fzx (s0 :: s1 :: s2 :: s3 :: s4 :: s5 :: s6 :: s7 :: s8 :: s9 :: s10 :: s11 :: s12 :: s13 :: s14 :: s15 :: s16 :: .ow false xs :: r) (.pl 17) K = (K (.lst xs) (s0 :: s1 :: s2 :: s3 :: s4 :: s5 :: s6 :: s7 :: s8 :: s9 :: s10 :: s11 :: s12 :: s13 :: s14 :: s15 :: s16 :: .fz (.lst xs) :: r)) := rfl
@[simp ↓] theorem sv17 {s0 s1 s2 s3 s4 s5 s6 s7 s8 s9 s10 s11 s12 s13 s14 s15 s16 : Sl} {s : Sl} {d : D} {r : Rho} {K : Rho → Prop} : setR (s0 :: s1 :: s2 :: s3 :: s4 :: s5 :: s6 :: s7 :: s8 :: s9 :: s10 :: s11 :: s12 :: s13 :: s14 :: s15 :: s16 :: s :: r) 17 (.v d) K = (opS s = true ∧ K (s0 :: s1 :: s2 :: s3 :: s4 :: s5 :: s6 :: s7 :: s8 :: s9 :: s10 :: s11 :: s12 :: s13 :: s14 :: s15 :: s16 :: .fz d :: r)) := by cases s <;> first | rfl | (rename_i b xs; cases b <;> rfl)
@[simp ↓] theorem sn17 {s0 s1 s2 s3 s4 s5 s6 s7 s8 s9 s10 s11 s12 s13 s14 s15 s16 : Sl} {s : Sl} {xs : List D} {r : Rho} {K : Rho → Prop} : setR (s0 :: s1 :: s2 :: s3 :: s4 :: s5 :: s6 :: s7 :: s8 :: s9 :: s10 :: s11 :: s12 :: s13 :: s14 :: s15 :: s16 :: s :: r) 17 (.n xs) K = (opS s = true ∧ K (s0 :: s1 :: s2 :: s3 :: s4 :: s5 :: s6 :: s7 :: s8 :: s9 :: s10 :: s11 :: s12 :: s13 :: s14 :: s15 :: s16 :: .ow false xs :: r)) := by cases s <;> first | rfl | (rename_i b xs; cases b <;> rfl)
@[simp ↓] theorem tg17 {s0 s1 s2 s3 s4 s5 s6 s7 s8 s9 s10 s11 s12 s13 s14 s15 s16 : Sl} {s : Sl} {d : D} {r : Rho} {K : Rho → Prop} : tgD (.nm 17) d (s0 :: s1 :: s2 :: s3 :: s4 :: s5 :: s6 :: s7 :: s8 :: s9 :: s10 :: s11 :: s12 :: s13 :: s14 :: s15 :: s16 :: s :: r) K = (opS s = true ∧ K (s0 :: s1 :: s2 :: s3 :: s4 :: s5 :: s6 :: s7 :: s8 :: s9 :: s10 :: s11 :: s12 :: s13 :: s14 :: s15 :: s16 :: .fz d :: r)) := by cases s <;> first | rfl | (rename_i b xs; cases b <;> rfl)
@[simp ↓] theorem op17 {s0 s1 s2 s3 s4 s5 s6 s7 s8 s9 s10 s11 s12 s13 s14 s15 s16 : Sl} {s : Sl} {r : Rho} : open? (s0 :: s1 :: s2 :: s3 :: s4 :: s5 :: s6 :: s7 :: s8 :: s9 :: s10 :: s11 :: s12 :: s13 :: s14 :: s15 :: s16 :: s :: r) 17 = (opS s) := by cases s <;> first | rfl | (rename_i b xs; cases b <;> rfl)
@[simp ↓] theorem no17 {s0 s1 s2 s3 s4 s5 s6 s7 s8 s9 s10 s11 s12 s13 s14 s15 s16 : Sl} {s : Sl} {r : Rho} : notOw (s0 :: s1 :: s2 :: s3 :: s4 :: s5 :: s6 :: s7 :: s8 :: s9 :: s10 :: s11 :: s12 :: s13 :: s14 :: s15 :: s16 :: s :: r) 17 = (noS s) := by cases s <;> rfl
@[simp ↓] theorem io17 {s0 s1 s2 s3 s4 s5 s6 s7 s8 s9 s10 s11 s12 s13 s14 s15 s16 : Sl} {b : Bool} {xs : List D} {r : Rho} : isOw (s0 :: s1 :: s2 :: s3 :: s4 :: s5 :: s6 :: s7 :: s8 :: s9 :: s10 :: s11 :: s12 :: s13 :: s14 :: s15 :: s16 :: .ow b xs :: r) 17 = (true) := rfl
@[simp ↓] theorem oc17 {s0 s1 s2 s3 s4 s5 s6 s7 s8 s9 s10 s11 s12 s13 s14 s15 s16 : Sl} {b : Bool} {xs : List D} {r : Rho} {K : List D → (List D → Rho) → Prop} : owc 17 (s0 :: s1 :: s2 :: s3 :: s4 :: s5 :: s6 :: s7 :: s8 :: s9 :: s10 :: s11 :: s12 :: s13 :: s14 :: s15 :: s16 :: .ow b xs :: r) K = (K xs fun ys => (s0 :: s1 :: s2 :: s3 :: s4 :: s5 :: s6 :: s7 :: s8 :: s9 :: s10 :: s11 :: s12 :: s13 :: s14 :: s15 :: s16 :: .ow b ys :: r)) := rfl
@[simp ↓] theorem zc17 {s0 s1 s2 s3 s4 s5 s6 s7 s8 s9 s10 s11 s12 s13 s14 s15 s16 : Sl} {d : D} {r : Rho} {K : D → Prop} : fzc 17 (s0 :: s1 :: s2 :: s3 :: s4 :: s5 :: s6 :: s7 :: s8 :: s9 :: s10 :: s11 :: s12 :: s13 :: s14 :: s15 :: s16 :: .fz d :: r) K = (K d) := rfl
@[simp ↓] theorem fn17_z {m : Bool} {Kd : Res → List D → Prop} {s0 s1 s2 s3 s4 s5 s6 s7 s8 s9 s10 s11 s12 s13 s14 s15 s16 : Sl} {d : D} {r : Rho} : finR m Kd (.pl 17) (s0 :: s1 :: s2 :: s3 :: s4 :: s5 :: s6 :: s7 :: s8 :: s9 :: s10 :: s11 :: s12 :: s13 :: s14 :: s15 :: s16 :: .fz d :: r) = (Kd (.d d) (bagOf m (s0 :: s1 :: s2 :: s3 :: s4 :: s5 :: s6 :: s7 :: s8 :: s9 :: s10 :: s11 :: s12 :: s13 :: s14 :: s15 :: s16 :: .fz d :: r))) := rfl
@[simp ↓] theorem fn17_w {m : Bool} {Kd : Res → List D → Prop} {s0 s1 s2 s3 s4 s5 s6 s7 s8 s9 s10 s11 s12 s13 s14 s15 s16 : Sl} {xs : List D} {r : Rho} : finR m Kd (.pl 17) (s0 :: s1 :: s2 :: s3 :: s4 :: s5 :: s6 :: s7 :: s8 :: s9 :: s10 :: s11 :: s12 :: s13 :: s14 :: s15 :: s16 :: .ow false xs :: r) = (Kd (.n xs) (bagOf m (s0 :: s1 :: s2 :: s3 :: s4 :: s5 :: s6 :: s7 :: s8 :: s9 :: s10 :: s11 :: s12 :: s13 :: s14 :: s15 :: s16 :: .ow false xs :: r))) := rfl
@[simp ↓] theorem v18_z {S : Sg} {xp : XP} {s0 s1 s2 s3 s4 s5 s6 s7 s8 s9 s10 s11 s12 s13 s14 s15 s16 s17 : Sl} {d : D} {r : Rho} {K : KR} : iE S xp (.var 18) (s0 :: s1 :: s2 :: s3 :: s4 :: s5 :: s6 :: s7 :: s8 :: s9 :: s10 :: s11 :: s12 :: s13 :: s14 :: s15 :: s16 :: s17 :: .fz d :: r) K = (K (.v d) (s0 :: s1 :: s2 :: s3 :: s4 :: s5 :: s6 :: s7 :: s8 :: s9 :: s10 :: s11 :: s12 :: s13 :: s14 :: s15 :: s16 :: s17 :: .fz d :: r)) := rfl
@[simp ↓] theorem v18_w {S : Sg} {xp : XP} {s0 s1 s2 s3 s4 s5 s6 s7 s8 s9 s10 s11 s12 s13 s14 s15 s16 s17 : Sl} {b : Bool} {xs : List D} {r : Rho} {K : KR} : iE S xp (.var 18) (s0 :: s1 :: s2 :: s3 :: s4 :: s5 :: s6 :: s7 :: s8 :: s9 :: s10 :: s11 :: s12 :: s13 :: s14 :: s15 :: s16 :: s17 :: .ow b xs :: r) K = (K (.pl 18) (s0 :: s1 :: s2 :: s3 :: s4 :: s5 :: s6 :: s7 :: s8 :: s9 :: s10 :: s11 :: s12 :: s13 :: s14 :: s15 :: s16 :: s17 :: .ow b xs :: r)) := rfl
@[simp ↓] theorem rp18_z {s0 s1 s2 s3 s4 s5 s6 s7 s8 s9 s10 s11 s12 s13 s14 s15 s16 s17 : Sl} {d : D} {r : Rho} {K : D → Prop} : rdx (s0 :: s1 :: s2 :: s3 :: s4 :: s5 :: s6 :: s7 :: s8 :: s9 :: s10 :: s11 :: s12 :: s13 :: s14 :: s15 :: s16 :: s17 :: .fz d :: r) (.pl 18) K = (K d) := rfl
@[simp ↓] theorem rp18_w {s0 s1 s2 s3 s4 s5 s6 s7 s8 s9 s10 s11 s12 s13 s14 s15 s16 s17 : Sl} {b : Bool} {xs : List D} {r : Rho} {K : D → Prop} : rdx (s0 :: s1 :: s2 :: s3 :: s4 :: s5 :: s6 :: s7 :: s8 :: s9 :: s10 :: s11 :: s12 :: s13 :: s14 :: s15 :: s16 :: s17 :: .ow b xs :: r) (.pl 18) K = (K (.lst xs)) := rfl
@[simp ↓] theorem fp18_z {s0 s1 s2 s3 s4 s5 s6 s7 s8 s9 s10 s11 s12 s13 s14 s15 s16 s17 : Sl} {d : D} {r : Rho} {K : D → Rho → Prop} : fzx (s0 :: s1 :: s2 :: s3 :: s4 :: s5 :: s6 :: s7 :: s8 :: s9 :: s10 :: s11 :: s12 :: s13 :: s14 :: s15 :: s16 :: s17 :: .fz d :: r) (.pl 18) K = (K d (s0 :: s1 :: s2 :: s3 :: s4 :: s5 :: s6 :: s7 :: s8 :: s9 :: s10 :: s11 :: s12 :: s13 :: s14 :: s15 :: s16 :: s17 :: .fz d :: r)) := rfl
@[simp ↓] theorem fp18_w {s0 s1 s2 s3 s4 s5 s6 s7 s8 s9 s10 s11 s12 s13 s14 s15 s16 s17 : Sl} {xs : List D} {r : Rho} {K : D → Rho → Prop} : fzx (s0 :: s1 :: s2 :: s3 :: s4 :: s5 :: s6 :: s7 :: s8 :: s9 :: s10 :: s11 :: s12 :: s13 :: s14 :: s15 :: s16 :: s17 :: .ow false xs :: r) (.pl 18) K = (K (.lst xs) (s0 :: s1 :: s2 :: s3 :: s4 :: s5 :: s6 :: s7 :: s8 :: s9 :: s10 :: s11 :: s12 :: s13 :: s14 :: s15 :: s16 :: s17 :: .fz (.lst xs) :: r)) := rfl
@[simp ↓] theorem sv18 {s0 s1 s2 s3 s4 s5 s6 s7 s8 s9 s10 s11 s12 s13 s14 s15 s16 s17 : Sl} {s : Sl} {d : D} {r : Rho} {K : Rho → Prop} : setR (s0 :: s1 :: s2 :: s3 :: s4 :: s5 :: s6 :: s7 :: s8 :: s9 :: s10 :: s11 :: s12 :: s13 :: s14 :: s15 :: s16 :: s17 :: s :: r) 18 (.v d) K = (opS s = true ∧ K (s0 :: s1 :: s2 :: s3 :: s4 :: s5 :: s6 :: s7 :: s8 :: s9 :: s10 :: s11 :: s12 :: s13 :: s14 :: s15 :: s16 :: s17 :: .fz d :: r)) := by cases s <;> first | rfl | (rename_i b xs; cases b <;> rfl)
@[simp ↓] theorem sn18 {s0 s1 s2 s3 s4 s5 s6 s7 s8 s9 s10 s11 s12 s13 s14 s15 s16 s17 : Sl} {s : Sl} {xs : List D} {r : Rho} {K : Rho → Prop} : setR (s0 :: s1 :: s2 :: s3 :: s4 :: s5 :: s6 :: s7 :: s8 :: s9 :: s10 :: s11 :: s12 :: s13 :: s14 :: s15 :: s16 :: s17 :: s :: r) 18 (.n xs) K = (opS s = true ∧ K (s0 :: s1 :: s2 :: s3 :: s4 :: s5 :: s6 :: s7 :: s8 :: s9 :: s10 :: s11 :: s12 :: s13 :: s14 :: s15 :: s16 :: s17 :: .ow false xs :: r)) := by cases s <;> first | rfl | (rename_i b xs; cases b <;> rfl)
@[simp ↓] theorem tg18 {s0 s1 s2 s3 s4 s5 s6 s7 s8 s9 s10 s11 s12 s13 s14 s15 s16 s17 : Sl} {s : Sl} {d : D} {r : Rho} {K : Rho → Prop} : tgD (.nm 18) d (s0 :: s1 :: s2 :: s3 :: s4 :: s5 :: s6 :: s7 :: s8 :: s9 :: s10 :: s11 :: s12 :: s13 :: s14 :: s15 :: s16 :: s17 :: s :: r) K = (opS s = true ∧ K (s0 :: s1 :: s2 :: s3 :: s4 :: s5 :: s6 :: s7 :: s8 :: s9 :: s10 :: s11 :: s12 :: s13 :: s14 :: s15 :: s16 :: s17 :: .fz d :: r)) := by cases s <;> first | rfl | (rename_i b xs; cases b <;> rfl)
@[simp ↓] theorem op18 {s0 s1 s2 s3 s4 s5 s6 s7 s8 s9 s10 s11 s12 s13 s14 s15 s16 s17 : Sl} {s : Sl} {r : Rho} : open? (s0 :: s1 :: s2 :: s3 :: s4 :: s5 :: s6 :: s7 :: s8 :: s9 :: s10 :: s11 :: s12 :: s13 :: s14 :: s15 :: s16 :: s17 :: s :: r) 18 = (opS s) := by cases s <;> first | rfl | (rename_i b xs; cases b <;> rfl)
@[simp ↓] theorem no18 {s0 s1 s2 s3 s4 s5 s6 s7 s8 s9 s10 s11 s12 s13 s14 s15 s16 s17 : Sl} {s : Sl} {r : Rho} : notOw (s0 :: s1 :: s2 :: s3 :: s4 :: s5 :: s6 :: s7 :: s8 :: s9 :: s10 :: s11 :: s12 :: s13 :: s14 :: s15 :: s16 :: s17 :: s :: r) 18 = (noS s) := by cases s <;> rfl
@[simp ↓] theorem io18 {s0 s1 s2 s3 s4 s5 s6 s7 s8 s9 s10 s11 s12 s13 s14 s15 s16 s17 : Sl} {b : Bool} {xs : List D} {r : Rho} : isOw (s0 :: s1 :: s2 :: s3 :: s4 :: s5 :: s6 :: s7 :: s8 :: s9 :: s10 :: s11 :: s12 :: s13 :: s14 :: s15 :: s16 :: s17 :: .ow b xs :: r) 18 = (true) := rfl
@[simp ↓] theorem oc18 {s0 s1 s2 s3 s4 s5 s6 s7 s8 s9 s10 s11 s12 s13 s14 s15 s16 s17 : Sl} {b : Bool} {xs : List D} {r : Rho} {K : List D → (List D → Rho) → Prop} : owc 18 (s0 :: s1 :: s2 :: s3 :: s4 :: s5 :: s6 :: s7 :: s8 :: s9 :: s10 :: s11 :: s12 :: s13 :: s14 :: s15 :: s16 :: s17 :: .ow b xs :: r) K = (K xs fun ys => (s0 :: s1 :: s2 :: s3 :: s4 :: s5 :: s6 :: s7 :: s8 :: s9 :: s10 :: s11 :: s12 :: s13 :: s14 :: s15 :: s16 :: s17 :: .ow b ys :: r)) := rfl
@[simp ↓] theorem zc18 {s0 s1 s2 s3 s4 s5 s6 s7 s8 s9 s10 s11 s12 s13 s14 s15 s16 s17 : Sl} {d : D} {r : Rho} {K : D → Prop} : fzc 18 (s0 :: s1 :: s2 :: s3 :: s4 :: s5 :: s6 :: s7 :: s8 :: s9 :: s10 :: s11 :: s12 :: s13 :: s14 :: s15 :: s16 :: s17 :: .fz d :: r) K = (K d) := rfl
@[simp ↓] theorem fn18_z {m : Bool} {Kd : Res → List D → Prop} {s0 s1 s2 s3 s4 s5 s6 s7 s8 s9 s10 s11 s12 s13 s14 s15 s16 s17 : Sl} {d : D} {r : Rho} : finR m Kd (.pl 18) (s0 :: s1 :: s2 :: s3 :: s4 :: s5 :: s6 :: s7 :: s8 :: s9 :: s10 :: s11 :: s12 :: s13 :: s14 :: s15 :: s16 :: s17 :: .fz d :: r) = (Kd (.d d) (bagOf m (s0 :: s1 :: s2 :: s3 :: s4 :: s5 :: s6 :: s7 :: s8 :: s9 :: s10 :: s11 :: s12 :: s13 :: s14 :: s15 :: s16 :: s17 :: .fz d :: r))) := rfl
@[simp ↓] theorem fn18_w {m : Bool} {Kd : Res → List D → Prop} {s0 s1 s2 s3 s4 s5 s6 s7 s8 s9 s10 s11 s12 s13 s14 s15 s16 s17 : Sl} {xs : List D} {r : Rho} : finR m Kd (.pl 18) (s0 :: s1 :: s2 :: s3 :: s4 :: s5 :: s6 :: s7 :: s8 :: s9 :: s10 :: s11 :: s12 :: s13 :: s14 :: s15 :: s16 :: s17 :: .ow false xs :: r) = (Kd (.n xs) (bagOf m (s0 :: s1 :: s2 :: s3 :: s4 :: s5 :: s6 :: s7 :: s8 :: s9 :: s10 :: s11 :: s12 :: s13 :: s14 :: s15 :: s16 :: s17 :: .ow false xs :: r))) := rfl
@[simp ↓] theorem v19_z {S : Sg} {xp : XP} {s0 s1 s2 s3 s4 s5 s6 s7 s8 s9 s10 s11 s12 s13 s14 s15 s16 s17 s18 : Sl} {d : D} {r : Rho} {K : KR} : iE S xp (.var 19) (s0 :: s1 :: s2 :: s3 :: s4 :: s5 :: s6 :: s7 :: s8 :: s9 :: s10 :: s11 :: s12 :: s13 :: s14 :: s15 :: s16 :: s17 :: s18 :: .fz d :: r) K = (K (.v d) (s0 :: s1 :: s2 :: s3 :: s4 :: s5 :: s6 :: s7 :: s8 :: s9 :: s10 :: s11 :: s12 :: s13 :: s14 :: s15 :: s16 :: s17 :: s18 :: .fz d :: r)) := rfl
@[simp ↓] theorem v19_w {S : Sg} {xp : XP} {s0 s1 s2 s3 s4 s5 s6 s7 s8 s9 s10 s11 s12 s13 s14 s15 s16 s17 s18 : Sl} {b : Bool} {xs : List D} {r : Rho} {K : KR} : iE S xp (.var 19) (s0 :: s1 :: s2 :: s3 :: s4 :: s5 :: s6 :: s7 :: s8 :: s9 :: s10 :: s11 :: s12 :: s13 :: s14 :: s15 :: s16 :: s17 :: s18 :: .ow b xs :: r) K = (K (.pl 19) (s0 :: s1 :: s2 :: s3 :: s4 :: s5 :: s6 :: s7 :: s8 :: s9 :: s10 :: s11 :: s12 :: s13 :: s14 :: s15 :: s16 :: s17 :: s18 :: .ow b xs :: r)) := rfl
@[simp ↓] theorem rp19_z {s0 s1 s2 s3 s4 s5 s6 s7 s8 s9 s10 s11 s12 s13 s14 s15 s16 s17 s18 : Sl} {d : D} {r : Rho} {K : D → Prop} : rdx (s0 :: s1 :: s2 :: s3 :: s4 :: s5 :: s6 :: s7 :: s8 :: s9 :: s10 :: s11 :: s12 :: s13 :: s14 :: s15 :: s16 :: s17 :: s18 :: .fz d :: r) (.pl 19) K = (K d) := rfl
@[simp ↓] theorem rp19_w {s0 s1 s2 s3 s4 s5 s6 s7 s8 s9 s10 s11 s12 s13 s14 s15 s16 s17 s18 : Sl} {b : Bool} {xs : List D} {r : Rho} {K : D → Prop} : rdx (s0 :: s1 :: s2 :: s3 :: s4 :: s5 :: s6 :: s7 :: s8 :: s9 :: s10 :: s11 :: s12 :: s13 :: s14 :: s15 :: s16 :: s17 :: s18 :: .ow b xs :: r) (.pl 19) K = (K (.lst xs)) := rfl
@[simp ↓] theorem fp19_z {s0 s1 s2 s3 s4 s5 s6 s7 s8 s9 s10 s11 s12 s13 s14 s15 s16 s17 s18 : Sl} {d : D} {r : Rho} {K : D → Rho → Prop} : fzx (s0 :: s1 :: s2 :: s3 :: s4 :: s5 :: s6 :: s7 :: s8 :: s9 :: s10 :: s11 :: s12 :: s13 :: s14 :: s15 :: s16 :: s17 :: s18 :: .fz d :: r) (.pl 19) K = (K d (s0 :: s1 :: s2 :: s3 :: s4 :: s5 :: s6 :: s7 :: s8 :: s9 :: s10 :: s11 :: s12 :: s13 :: s14 :: s15 :: s16 :: s17 :: s18 :: .fz d :: r)) := rfl
@[simp ↓] theorem fp19_w {s0 s1 s2 s3 s4 s5 s6 s7 s8 s9 s10 s11 s12 s13 s14 s15 s16 s17 s18 : Sl} {xs : List D} {r : Rho} {K : D → Rho → Prop} : fzx (s0 :: s1 :: s2 :: s3 :: s4 :: s5 :: s6 :: s7 :: s8 :: s9 :: s10 :: s11 :: s12 :: s13 :: s14 :: s15 :: s16 :: s17 :: s18 :: .ow false xs :: r) (.pl 19) K = (K (.lst xs) (s0 :: s1 :: s2 :: s3 :: s4 :: s5 :: s6 :: s7 :: s8 :: s9 :: s10 :: s11 :: s12 :: s13 :: s14 :: s15 :: s16 :: s17 :: s18 :: .fz (.lst xs) :: r)) := rfl
@[simp ↓] theorem sv19 {s0 s1 s2 s3 s4 s5 s6 s7 s8 s9 s10 s11 s12 s13 s14 s15 s16 s17 s18 : Sl} {s : Sl} {d : D} {r : Rho} {K : Rho → Prop} : setR (s0 :: s1 :: s2 :: s3 :: s4 :: s5 :: s6 :: s7 :: s8 :: s9 :: s10 :: s11 :: s12 :: s13 :: s14 :: s15 :: s16 :: s17 :: s18 :: s :: r) 19 (.v d) K = (opS s = true ∧ K (s0 :: s1 :: s2 :: s3 :: s4 :: s5 :: s6 :: s7 :: s8 :: s9 :: s10 :: s11 :: s12 :: s13 :: s14 :: s15 :: s16 :: s17 :: s18 :: .fz d :: r)) := by cases s <;> first | rfl | (rename_i b xs; cases b <;> rfl)
@[simp ↓] theorem sn19 {s0 s1 s2 s3 s4 s5 s6 s7 s8 s9 s10 s11 s12 s13 s14 s15 s16 s17 s18 : Sl} {s : Sl} {xs : List D} {r : Rho} {K : Rho → Prop} : setR (s0 :: s1 :: s2 :: s3 :: s4 :: s5 :: s6 :: s7 :: s8 :: s9 :: s10 :: s11 :: s12 :: s13 :: s14 :: s15 :: s16 :: s17 :: s18 :: s :: r) 19 (.n xs) K = (opS s = true ∧ K (s0 :: s1 :: s2 :: s3 :: s4 :: s5 :: s6 :: s7 :: s8 :: s9 :: s10 :: s11 :: s12 :: s13 :: s14 :: s15 :: s16 :: s17 :: s18 :: .ow false xs :: r)) := by cases s <;> first | rfl | (rename_i b xs; cases b <;> rfl)
@[simp ↓] theorem tg19 {s0 s1 s2 s3 s4 s5 s6 s7 s8 s9 s10 s11 s12 s13 s14 s15 s16 s17 s18 : Sl} {s : Sl} {d : D} {r : Rho} {K : Rho → Prop} : tgD (.nm 19) d (s0 :: s1 :: s2 :: s3 :: s4 :: s5 :: s6 :: s7 :: s8 :: s9 :: s10 :: s11 :: s12 :: s13 :: s14 :: s15 :: s16 :: s17 :: s18 :: s :: r) K = (opS s = true ∧ K (s0 :: s1 :: s2 :: s3 :: s4 :: s5 :: s6 :: s7 :: s8 :: s9 :: s10 :: s11 :: s12 :: s13 :: s14 :: s15 :: s16 :: s17 :: s18 :: .fz d :: r)) := by cases s <;> first | rfl | (rename_i b xs; cases b <;> rfl)
@[simp ↓] theorem op19 {s0 s1 s2 s3 s4 s5 s6 s7 s8 s9 s10 s11 s12 s13 s14 s15 s16 s17 s18 : Sl} {s : Sl} {r : Rho} : open? (s0 :: s1 :: s2 :: s3 :: s4 :: s5 :: s6 :: s7 :: s8 :: s9 :: s10 :: s11 :: s12 :: s13 :: s14 :: s15 :: s16 :: s17 :: s18 :: s :: r) 19 = (opS s) := by cases s <;> first | rfl | (rename_i b xs; cases b <;> rfl)
@[simp ↓] theorem no19 {s0 s1 s2 s3 s4 s5 s6 s7 s8 s9 s10 s11 s12 s13 s14 s15 s16 s17 s18 : Sl} {s : Sl} {r : Rho} : notOw (s0 :: s1 :: s2 :: s3 :: s4 :: s5 :: s6 :: s7 :: s8 :: s9 :: s10 :: s11 :: s12 :: s13 :: s14 :: s15 :: s16 :: s17 :: s18 :: s :: r) 19 = (noS s) := by cases s <;> rfl
@[simp ↓] theorem io19 {s0 s1 s2 s3 s4 s5 s6 s7 s8 s9 s10 s11 s12 s13 s14 s15 s16 s17 s18 : Sl} {b : Bool} {xs : List D} {r : Rho} : isOw (s0 :: s1 :: s2 :: s3 :: s4 :: s5 :: s6 :: s7 :: s8 :: s9 :: s10 :: s11 :: s12 :: s13 :: s14 :: s15 :: s16 :: s17 :: s18 :: .ow b xs :: r) 19 = (true) := rfl
@[simp ↓] theorem oc19 {s0 s1 s2 s3 s4 s5 s6 s7 s8 s9 s10 s11 s12 s13 s14 s15 s16 s17 s18 : Sl} {b : Bool} {xs : List D} {r : Rho} {K : List D → (List D → Rho) → Prop} : owc 19 (s0 :: s1 :: s2 :: s3 :: s4 :: s5 :: s6 :: s7 :: s8 :: s9 :: s10 :: s11 :: s12 :: s13 :: s14 :: s15 :: s16 :: s17 :: s18 :: .ow b xs :: r) K = (K xs fun ys => (s0 :: s1 :: s2 :: s3 :: s4 :: s5 :: s6 :: s7 :: s8 :: s9 :: s10 :: s11 :: s12 :: s13 :: s14 :: s15 :: s16 :: s17 :: s18 :: .ow b ys :: r)) := rfl
@[simp ↓] theorem zc19 {s0 s1 s2 s3 s4 s5 s6 s7 s8 s9 s10 s11 s12 s13 s14 s15 s16 s17 s18 : Sl} {d : D} {r : Rho} {K : D → Prop} : fzc 19 (s0 :: s1 :: s2 :: s3 :: s4 :: s5 :: s6 :: s7 :: s8 :: s9 :: s10 :: s11 :: s12 :: s13 :: s14 :: s15 :: s16 :: s17 :: s18 :: .fz d :: r) K = (K d) := rfl
@[simp ↓] theorem fn19_z {m : Bool} {Kd : Res → List D → Prop} {s0 s1 s2 s3 s4 s5 s6 s7 s8 s9 s10 s11 s12 s13 s14 s15 s16 s17 s18 : Sl} {d : D} {r : Rho} : finR m Kd (.pl 19) (s0 :: s1 :: s2 :: s3 :: s4 :: s5 :: s6 :: s7 :: s8 :: s9 :: s10 :: s11 :: s12 :: s13 :: s14 :: s15 :: s16 :: s17 :: s18 :: .fz d :: r) = (Kd (.d d) (bagOf m (s0 :: s1 :: s2 :: s3 :: s4 :: s5 :: s6 :: s7 :: s8 :: s9 :: s10 :: s11 :: s12 :: s13 :: s14 :: s15 :: s16 :: s17 :: s18 :: .fz d :: r))) := rfl
@[simp ↓] theorem fn19_w {m : Bool} {Kd : Res → List D → Prop} {s0 s1 s2 s3 s4 s5 s6 s7 s8 s9 s10 s11 s12 s13 s14 s15 s16 s17 s18 : Sl} {xs : List D} {r : Rho} : finR m Kd (.pl 19) (s0 :: s1 :: s2 :: s3 :: s4 :: s5 :: s6 :: s7 :: s8 :: s9 :: s10 :: s11 :: s12 :: s13 :: s14 :: s15 :: s16 :: s17 :: s18 :: .ow false xs :: r) = (Kd (.n xs) (bagOf m (s0 :: s1 :: s2 :: s3 :: s4 :: s5 :: s6 :: s7 :: s8 :: s9 :: s10 :: s11 :: s12 :: s13 :: s14 :: s15 :: s16 :: s17 :: s18 :: .ow false xs :: r))) := rfl
theorem lat0 {α : Type} {x : α} {r : List α} : atI (x :: r) 0 = some x := by unfold atI ixN; rw [if_pos (by decide), if_pos (by simp only [List.length_cons]; omega)]; rfl
theorem lix0 {α : Type} {x : α} {r : List α} : ixN (x :: r).length 0 = some 0 := by unfold ixN; rw [if_pos (by decide), if_pos (by simp only [List.length_cons]; omega)]; rfl
@[simp ↓] theorem xat0 {α : Type} {x : α} {r : List α} {K : α → Prop} : exK (atI (x :: r) 0) K = (K x) := by rw [lat0]; exact exK_s
@[simp ↓] theorem xai0 {x : Int} {r : List D} {K : Int → Prop} : exI (atI (D.int x :: r) 0) K = (K x) := by rw [lat0]; exact exI_s
@[simp ↓] theorem stk0 {x d : D} {r : List D} {K : List D → Prop} : stK (x :: r) 0 d K = (K (d :: r)) := by unfold stK; rw [lix0]; exact exK_s
theorem lat1 {α : Type} {a0 : α} {x : α} {r : List α} : atI (a0 :: x :: r) 1 = some x := by unfold atI ixN; rw [if_pos (by decide), if_pos (by simp only [List.length_cons]; omega)]; rfl
theorem lix1 {α : Type} {a0 : α} {x : α} {r : List α} : ixN (a0 :: x :: r).length 1 = some 1 := by unfold ixN; rw [if_pos (by decide), if_pos (by simp only [List.length_cons]; omega)]; rfl
@[simp ↓] theorem xat1 {α : Type} {a0 : α} {x : α} {r : List α} {K : α → Prop} : exK (atI (a0 :: x :: r) 1) K = (K x) := by rw [lat1]; exact exK_s
@[simp ↓] theorem xai1 {a0 : D} {x : Int} {r : List D} {K : Int → Prop} : exI (atI (a0 :: D.int x :: r) 1) K = (K x) := by rw [lat1]; exact exI_s
@[simp ↓] theorem stk1 {a0 : D} {x d : D} {r : List D} {K : List D → Prop} : stK (a0 :: x :: r) 1 d K = (K (a0 :: d :: r)) := by unfold stK; rw [lix1]; exact exK_s
theorem lat2 {α : Type} {a0 a1 : α} {x : α} {r : List α} : atI (a0 :: a1 :: x :: r) 2 = some x := by unfold atI ixN; rw [if_pos (by decide), if_pos (by simp only [List.length_cons]; omega)]; rfl
theorem lix2 {α : Type} {a0 a1 : α} {x : α} {r : List α} : ixN (a0 :: a1 :: x :: r).length 2 = some 2 := by unfold ixN; rw [if_pos (by decide), if_pos (by simp only [List.length_cons]; omega)]; rfl
@[simp ↓] theorem xat2 {α : Type} {a0 a1 : α} {x : α} {r : List α} {K : α → Prop} : exK (atI (a0 :: a1 :: x :: r) 2) K = (K x) := by rw [lat2]; exact exK_s
@[simp ↓] theorem xai2 {a0 a1 : D} {x : Int} {r : List D} {K : Int → Prop} : exI (atI (a0 :: a1 :: D.int x :: r) 2) K = (K x) := by rw [lat2]; exact exI_s
@[simp ↓] theorem stk2 {a0 a1 : D} {x d : D} {r : List D} {K : List D → Prop} : stK (a0 :: a1 :: x :: r) 2 d K = (K (a0 :: a1 :: d :: r)) := by unfold stK; rw [lix2]; exact exK_s
theorem lat3 {α : Type} {a0 a1 a2 : α} {x : α} {r : List α} : atI (a0 :: a1 :: a2 :: x :: r) 3 = some x := by unfold atI ixN; rw [if_pos (by decide), if_pos (by simp only [List.length_cons]; omega)]; rfl
theorem lix3 {α : Type} {a0 a1 a2 : α} {x : α} {r : List α} : ixN (a0 :: a1 :: a2 :: x :: r).length 3 = some 3 := by unfold ixN; rw [if_pos (by decide), if_pos (by simp only [List.length_cons]; omega)]; rfl
@[simp ↓] theorem xat3 {α : Type} {a0 a1 a2 : α} {x : α} {r : List α} {K : α → Prop} : exK (atI (a0 :: a1 :: a2 :: x :: r) 3) K = (K x) := by rw [lat3]; exact exK_s
@[simp ↓] theorem xai3 {a0 a1 a2 : D} {x : Int} {r : List D} {K : Int → Prop} : exI (atI (a0 :: a1 :: a2 :: D.int x :: r) 3) K = (K x) := by rw [lat3]; exact exI_s
@[simp ↓] theorem stk3 {a0 a1 a2 : D} {x d : D} {r : List D} {K : List D → Prop} : stK (a0 :: a1 :: a2 :: x :: r) 3 d K = (K (a0 :: a1 :: a2 :: d :: r)) := by unfold stK; rw [lix3]; exact exK_s
theorem lat4 {α : Type} {a0 a1 a2 a3 : α} {x : α} {r : List α} : atI (a0 :: a1 :: a2 :: a3 :: x :: r) 4 = some x := by unfold atI ixN; rw [if_pos (by decide), if_pos (by simp only [List.length_cons]; omega)]; rfl
theorem lix4 {α : Type} {a0 a1 a2 a3 : α} {x : α} {r : List α} : ixN (a0 :: a1 :: a2 :: a3 :: x :: r).length 4 = some 4 := by unfold ixN; rw [if_pos (by decide), if_pos (by simp only [List.length_cons]; omega)]; rfl
@[simp ↓] theorem xat4 {α : Type} {a0 a1 a2 a3 : α} {x : α} {r : List α} {K : α → Prop} : exK (atI (a0 :: a1 :: a2 :: a3 :: x :: r) 4) K = (K x) := by rw [lat4]; exact exK_s
@[simp ↓] theorem xai4 {a0 a1 a2 a3 : D} {x : Int} {r : List D} {K : Int → Prop} : exI (atI (a0 :: a1 :: a2 :: a3 :: D.int x :: r) 4) K = (K x) := by rw [lat4]; exact exI_s
@[simp ↓] theorem stk4 {a0 a1 a2 a3 : D} {x d : D} {r : List D} {K : List D → Prop} : stK (a0 :: a1 :: a2 :: a3 :: x :: r) 4 d K = (K (a0 :: a1 :: a2 :: a3 :: d :: r)) := by unfold stK; rw [lix4]; exact exK_s
theorem lat5 {α : Type} {a0 a1 a2 a3 a4 : α} {x : α} {r : List α} : atI (a0 :: a1 :: a2 :: a3 :: a4 :: x :: r) 5 = some x := by unfold atI ixN; rw [if_pos (by decide), if_pos (by simp only [List.length_cons]; omega)]; rfl
theorem lix5 {α : Type} {a0 a1 a2 a3 a4 : α} {x : α} {r : List α} : ixN (a0 :: a1 :: a2 :: a3 :: a4 :: x :: r).length 5 = some 5 := by unfold ixN; rw [if_pos (by decide), if_pos (by simp only [List.length_cons]; omega)]; rfl
@[simp ↓] theorem xat5 {α : Type} {a0 a1 a2 a3 a4 : α} {x : α} {r : List α} {K : α → Prop} : exK (atI (a0 :: a1 :: a2 :: a3 :: a4 :: x :: r) 5) K = (K x) := by rw [lat5]; exact exK_s
@[simp ↓] theorem xai5 {a0 a1 a2 a3 a4 : D} {x : Int} {r : List D} {K : Int → Prop} : exI (atI (a0 :: a1 :: a2 :: a3 :: a4 :: D.int x :: r) 5) K = (K x) := by rw [lat5]; exact exI_s
@[simp ↓] theorem stk5 {a0 a1 a2 a3 a4 : D} {x d : D} {r : List D} {K : List D → Prop} : stK (a0 :: a1 :: a2 :: a3 :: a4 :: x :: r) 5 d K = (K (a0 :: a1 :: a2 :: a3 :: a4 :: d :: r)) := by unfold stK; rw [lix5]; exact exK_s
theorem lat6 {α : Type} {a0 a1 a2 a3 a4 a5 : α} {x : α} {r : List α} : atI (a0 :: a1 :: a2 :: a3 :: a4 :: a5 :: x :: r) 6 = some x := by unfold atI ixN; rw [if_pos (by decide), if_pos (by simp only [List.length_cons]; omega)]; rfl
theorem lix6 {α : Type} {a0 a1 a2 a3 a4 a5 : α} {x : α} {r : List α} : ixN (a0 :: a1 :: a2 :: a3 :: a4 :: a5 :: x :: r).length 6 = some 6 := by unfold ixN; rw [if_pos (by decide), if_pos (by simp only [List.length_cons]; omega)]; rfl
@[simp ↓] theorem xat6 {α : Type} {a0 a1 a2 a3 a4 a5 : α} {x : α} {r : List α} {K : α → Prop} : exK (atI (a0 :: a1 :: a2 :: a3 :: a4 :: a5 :: x :: r) 6) K = (K x) := by rw [lat6]; exact exK_s
@[simp ↓] theorem xai6 {a0 a1 a2 a3 a4 a5 : D} {x : Int} {r : List D} {K : Int → Prop} : exI (atI (a0 :: a1 :: a2 :: a3 :: a4 :: a5 :: D.int x :: r) 6) K = (K x) := by rw [lat6]; exact exI_s
@[simp ↓] theorem stk6 {a0 a1 a2 a3 a4 a5 : D} {x d : D} {r : List D} {K : List D → Prop} : stK (a0 :: a1 :: a2 :: a3 :: a4 :: a5 :: x :: r) 6 d K = (K (a0 :: a1 :: a2 :: a3 :: a4 :: a5 :: d :: r)) := by unfold stK; rw [lix6]; exact exK_s
theorem lat7 {α : Type} {a0 a1 a2 a3 a4 a5 a6 : α} {x : α} {r : List α} : atI (a0 :: a1 :: a2 :: a3 :: a4 :: a5 :: a6 :: x :: r) 7 = some x := by unfold atI ixN; rw [if_pos (by decide), if_pos (by simp only [List.length_cons]; omega)]; rfl
theorem lix7 {α : Type} {a0 a1 a2 a3 a4 a5 a6 : α} {x : α} {r : List α} : ixN (a0 :: a1 :: a2 :: a3 :: a4 :: a5 :: a6 :: x :: r).length 7 = some 7 := by unfold ixN; rw [if_pos (by decide), if_pos (by simp only [List.length_cons]; omega)]; rfl
@[simp ↓] theorem xat7 {α : Type} {a0 a1 a2 a3 a4 a5 a6 : α} {x : α} {r : List α} {K : α → Prop} : exK (atI (a0 :: a1 :: a2 :: a3 :: a4 :: a5 :: a6 :: x :: r) 7) K = (K x) := by rw [lat7]; exact exK_s
@[simp ↓] theorem xai7 {a0 a1 a2 a3 a4 a5 a6 : D} {x : Int} {r : List D} {K : Int → Prop} : exI (atI (a0 :: a1 :: a2 :: a3 :: a4 :: a5 :: a6 :: D.int x :: r) 7) K = (K x) := by rw [lat7]; exact exI_s
@[simp ↓] theorem stk7 {a0 a1 a2 a3 a4 a5 a6 : D} {x d : D} {r : List D} {K : List D → Prop} : stK (a0 :: a1 :: a2 :: a3 :: a4 :: a5 :: a6 :: x :: r) 7 d K = (K (a0 :: a1 :: a2 :: a3 :: a4 :: a5 :: a6 :: d :: r)) := by unfold stK; rw [lix7]; exact exK_s
theorem lat8 {α : Type} {a0 a1 a2 a3 a4 a5 a6 a7 : α} {x : α} {r : List α} : atI (a0 :: a1 :: a2 :: a3 :: a4 :: a5 :: a6 :: a7 :: x :: r) 8 = some x := by unfold atI ixN; rw [if_pos (by decide), if_pos (by simp only [List.length_cons]; omega)]; rfl
theorem lix8 {α : Type} {a0 a1 a2 a3 a4 a5 a6 a7 : α} {x : α} {r : List α} : ixN (a0 :: a1 :: a2 :: a3 :: a4 :: a5 :: a6 :: a7 :: x :: r).length 8 = some 8 := by unfold ixN; rw [if_pos (by decide), if_pos (by simp only [List.length_cons]; omega)]; rfl
@[simp ↓] theorem xat8 {α : Type} {a0 a1 a2 a3 a4 a5 a6 a7 : α} {x : α} {r : List α} {K : α → Prop} : exK (atI (a0 :: a1 :: a2 :: a3 :: a4 :: a5 :: a6 :: a7 :: x :: r) 8) K = (K x) := by rw [lat8]; exact exK_s
@[simp ↓] theorem xai8 {a0 a1 a2 a3 a4 a5 a6 a7 : D} {x : Int} {r : List D} {K : Int → Prop} : exI (atI (a0 :: a1 :: a2 :: a3 :: a4 :: a5 :: a6 :: a7 :: D.int x :: r) 8) K = (K x) := by rw [lat8]; exact exI_s
@[simp ↓] theorem stk8 {a0 a1 a2 a3 a4 a5 a6 a7 : D} {x d : D} {r : List D} {K : List D → Prop} : stK (a0 :: a1 :: a2 :: a3 :: a4 :: a5 :: a6 :: a7 :: x :: r) 8 d K = (K (a0 :: a1 :: a2 :: a3 :: a4 :: a5 :: a6 :: a7 :: d :: r)) := by unfold stK; rw [lix8]; exact exK_s
theorem lat9 {α : Type} {a0 a1 a2 a3 a4 a5 a6 a7 a8 : α} {x : α} {r : List α} : atI (a0 :: a1 :: a2 :: a3 :: a4 :: a5 :: a6 :: a7 :: a8 :: x :: r) 9 = some x := by unfold atI ixN; rw [if_pos (by decide), if_pos (by simp only [List.length_cons]; omega)]; rfl
theorem lix9 {α : Type} {a0 a1 a2 a3 a4 a5 a6 a7 a8 : α} {x : α} {r : List α} : ixN (a0 :: a1 :: a2 :: a3 :: a4 :: a5 :: a6 :: a7 :: a8 :: x :: r).length 9 = some 9 := by unfold ixN; rw [if_pos (by decide), if_pos (by simp only [List.length_cons]; omega)]; rfl
@[simp ↓] theorem xat9 {α : Type} {a0 a1 a2 a3 a4 a5 a6 a7 a8 : α} {x : α} {r : List α} {K : α → Prop} : exK (atI (a0 :: a1 :: a2 :: a3 :: a4 :: a5 :: a6 :: a7 :: a8 :: x :: r) 9) K = (K x) := by rw [lat9]; exact exK_s
@[simp ↓] theorem xai9 {a0 a1 a2 a3 a4 a5 a6 a7 a8 : D} {x : Int} {r : List D} {K : Int → Prop} : exI (atI (a0 :: a1 :: a2 :: a3 :: a4 :: a5 :: a6 :: a7 :: a8 :: D.int x :: r) 9) K = (K x) := by rw [lat9]; exact exI_s
@[simp ↓] theorem stk9 {a0 a1 a2 a3 a4 a5 a6 a7 a8 : D} {x d : D} {r : List D} {K : List D → Prop} : stK (a0 :: a1 :: a2 :: a3 :: a4 :: a5 :: a6 :: a7 :: a8 :: x :: r) 9 d K = (K (a0 :: a1 :: a2 :: a3 :: a4 :: a5 :: a6 :: a7 :: a8 :: d :: r)) := by unfold stK; rw [lix9]; exact exK_s
theorem lat10 {α : Type} {a0 a1 a2 a3 a4 a5 a6 a7 a8 a9 : α} {x : α} {r : List α} : atI (a0 :: a1 :: a2 :: a3 :: a4 :: a5 :: a6 :: a7 :: a8 :: a9 :: x :: r) 10 = some x := by unfold atI ixN; rw [if_pos (by decide), if_pos (by simp only [List.length_cons]; omega)]; rfl
theorem lix10 {α : Type} {a0 a1 a2 a3 a4 a5 a6 a7 a8 a9 : α} {x : α} {r : List α} : ixN (a0 :: a1 :: a2 :: a3 :: a4 :: a5 :: a6 :: a7 :: a8 :: a9 :: x :: r).length 10 = some 10 := by unfold ixN; rw [if_pos (by decide), if_pos (by simp only [List.length_cons]; omega)]; rfl
@[simp ↓] theorem xat10 {α : Type} {a0 a1 a2 a3 a4 a5 a6 a7 a8 a9 : α} {x : α} {r : List α} {K : α → Prop} : exK (atI (a0 :: a1 :: a2 :: a3 :: a4 :: a5 :: a6 :: a7 :: a8 :: a9 :: x :: r) 10) K = (K x) := by rw [lat10]; exact exK_s
@[simp ↓] theorem xai10 {a0 a1 a2 a3 a4 a5 a6 a7 a8 a9 : D} {x : Int} {r : List D} {K : Int → Prop} : exI (atI (a0 :: a1 :: a2 :: a3 :: a4 :: a5 :: a6 :: a7 :: a8 :: a9 :: D.int x :: r) 10) K = (K x) := by rw [lat10]; exact exI_s
@[simp ↓] theorem stk10 {a0 a1 a2 a3 a4 a5 a6 a7 a8 a9 : D} {x d : D} {r : List D} {K : List D → Prop} : stK (a0 :: a1 :: a2 :: a3 :: a4 :: a5 :: a6 :: a7 :: a8 :: a9 :: x :: r) 10 d K = (K (a0 :: a1 :: a2 :: a3 :: a4 :: a5 :: a6 :: a7 :: a8 :: a9 :: d :: r)) := by unfold stK; rw [lix10]; exact exK_s
theorem lat11 {α : Type} {a0 a1 a2 a3 a4 a5 a6 a7 a8 a9 a10 : α} {x : α} {r : List α} : atI (a0 :: a1 :: a2 :: a3 :: a4 :: a5 :: a6 :: a7 :: a8 :: a9 :: a10 :: x :: r) 11 = some x := by unfold atI ixN; rw [if_pos (by decide), if_pos (by simp only [List.length_cons]; omega)]; rfl
theorem lix11 {α : Type} {a0 a1 a2 a3 a4 a5 a6 a7 a8 a9 a10 : α} {x : α} {r : List α} : ixN (a0 :: a1 :: a2 :: a3 :: a4 :: a5 :: a6 :: a7 :: a8 :: a9 :: a10 :: x :: r).length 11 = some 11 := by unfold ixN; rw [if_pos (by decide), if_pos (by simp only [List.length_cons]; omega)]; rfl
@[simp ↓] theorem xat11 {α : Type} {a0 a1 a2 a3 a4 a5 a6 a7 a8 a9 a10 : α} {x : α} {r : List α} {K : α → Prop} : exK (atI (a0 :: a1 :: a2 :: a3 :: a4 :: a5 :: a6 :: a7 :: a8 :: a9 :: a10 :: x :: r) 11) K = (K x) := by rw [lat11]; exact exK_s
@[simp ↓] theorem xai11 {a0 a1 a2 a3 a4 a5 a6 a7 a8 a9 a10 : D} {x : Int} {r : List D} {K : Int → Prop} : exI (atI (a0 :: a1 :: a2 :: a3 :: a4 :: a5 :: a6 :: a7 :: a8 :: a9 :: a10 :: D.int x :: r) 11) K = (K x) := by rw [lat11]; exact exI_s
@[simp ↓] theorem stk11 {a0 a1 a2 a3 a4 a5 a6 a7 a8 a9 a10 : D} {x d : D} {r : List D} {K : List D → Prop} : stK (a0 :: a1 :: a2 :: a3 :: a4 :: a5 :: a6 :: a7 :: a8 :: a9 :: a10 :: x :: r) 11 d K = (K (a0 :: a1 :: a2 :: a3 :: a4 :: a5 :: a6 :: a7 :: a8 :: a9 :: a10 :: d :: r)) := by unfold stK; rw [lix11]; exact exK_s
@[simp ↓] theorem cop_eq {x y : D} {K : Bool → Prop} : COp.sem .eq x y K = (eqD x y K) := rfl
@[simp ↓] theorem cop_lt {x y : D} {K : Bool → Prop} : COp.sem .lt x y K = (ltD x y K) := rfl
@[simp ↓] theorem cop_le {x y : D} {K : Bool → Prop} : COp.sem .le x y K = (leD x y K) := rfl
@[simp ↓] theorem cop_gt {x y : D} {K : Bool → Prop} : COp.sem .gt x y K = (gtD x y K) := rfl
@[simp ↓] theorem cop_ge {x y : D} {K : Bool → Prop} : COp.sem .ge x y K = (geD x y K) := rfl
@[simp ↓] theorem cop_isin {x y : D} {K : Bool → Prop} : COp.sem .isin x y K = (inD x y K) := rfl
@[simp ↓] theorem cop_is {x y : D} {K : Bool → Prop} : COp.sem .is x y K = (isD x y K) := rfl
@[simp ↓] theorem cop_ne {x y : D} {K : Bool → Prop} : COp.sem .ne x y K = (eqD x y fun b => K (!b)) := rfl
@[simp ↓] theorem cop_notin {x y : D} {K : Bool → Prop} : COp.sem .notin x y K = (inD x y fun b => K (!b)) := rfl
@[simp ↓] theorem cop_isnot {x y : D} {K : Bool → Prop} : COp.sem .isnot x y K = (isD x y fun b => K (!b)) := rfl
@[simp ↓] theorem add_i {i j : Int} {K : R → Prop} : boR .add (.int i) (.int j) K = (K (.v (.int (i + j)))) := rfl
@[simp ↓] theorem add_s {a b : Str} {K : R → Prop} : boR .add (.str a) (.str b) K = (a.length + b.length ≤ sizeLine ∧ K (.v (.str (a ++ b)))) := rfl
@[simp ↓] theorem add_l {xs ys : List D} {K : R → Prop} : boR .add (.lst xs) (.lst ys) K = (xs.length + ys.length ≤ sizeLine ∧ K (.n (xs ++ ys))) := rfl
@[simp ↓] theorem add_t {xs ys : List D} {K : R → Prop} : boR .add (.tup xs) (.tup ys) K = (xs.length + ys.length ≤ sizeLine ∧ K (.v (.tup (xs ++ ys)))) := rfl
@[simp ↓] theorem sub_i {i j : Int} {K : R → Prop} : boR .sub (.int i) (.int j) K = (K (.v (.int (i - j)))) := rfl
@[simp ↓] theorem mul_i {i j : Int} {K : R → Prop} : boR .mul (.int i) (.int j) K = (BigM i j ∧ K (.v (.int (i * j)))) := rfl
@[simp ↓] theorem mul_l {xs : List D} {k : Int} {K : R → Prop} : boR .mul (.lst xs) (.int k) K = ((-(2 ^ 63) ≤ k ∧ k < 2 ^ 63 ∧ xs.length * k.toNat ≤ sizeLine) ∧ K (.n (List.replicate k.toNat xs).flatten)) := rfl
@[simp ↓] theorem fdiv_i {i j : Int} {K : R → Prop} : boR .fdiv (.int i) (.int j) K = ((0 < j ∧ j < 340282366920938463463374607431768211456) ∧ K (.v (.int (i / j)))) := rfl
@[simp ↓] theorem mod_i {i j : Int} {K : R → Prop} : boR .mod (.int i) (.int j) K = (0 < j ∧ K (.v (.int (i % j)))) := rfl
@[simp ↓] theorem pow_i {i j : Int} {K : R → Prop} : boR .pow (.int i) (.int j) K = (CPow i j ∧ K (.v (.int (i ^ j.toNat)))) := rfl
@[simp ↓] theorem eq_i {i j : Int} {K : Bool → Prop} : eqD (.int i) (.int j) K = (K (decide (i = j))) := rfl
@[simp ↓] theorem eq_s {a b : Str} {K : Bool → Prop} : eqD (.str a) (.str b) K = (K (decide (a = b))) := rfl
@[simp ↓] theorem lt_i {i j : Int} {K : Bool → Prop} : ltD (.int i) (.int j) K = (K (decide (i < j))) := rfl
@[simp ↓] theorem le_i {i j : Int} {K : Bool → Prop} : leD (.int i) (.int j) K = (K (decide (i ≤ j))) := rfl
@[simp ↓] theorem gt_i {i j : Int} {K : Bool → Prop} : gtD (.int i) (.int j) K = (K (decide (j < i))) := rfl
@[simp ↓] theorem ge_i {i j : Int} {K : Bool → Prop} : geD (.int i) (.int j) K = (K (decide (j ≤ i))) := rfl
@[simp ↓] theorem in_t {x : D} {ys : List D} {K : Bool → Prop} : inD x (.tup ys) K = ((flat x = true ∧ ys.all flat = true) ∧ K (inV (fv x) (ys.map fv))) := rfl
@[simp ↓] theorem is_n {x : D} {K : Bool → Prop} : isD x .non K = (K (isNone x)) := rfl
@[simp] theorem fl_int {i : Int} : flat (.int i) = (true) := rfl
@[simp] theorem fl_str {s : Str} : flat (.str s) = (true) := rfl
@[simp] theorem fl_bl {s : Bool} : flat (.bl s) = (true) := rfl
@[simp] theorem fl_non  : flat (.non) = (true) := rfl
@[simp ↓] theorem ix_l {xs : List D} {i : Int} {K : R → Prop} : ixR (.lst xs) (.int i) K = (exK (atI xs i) fun d => K (.v d)) := rfl
@[simp ↓] theorem ix_t {xs : List D} {i : Int} {K : R → Prop} : ixR (.tup xs) (.int i) K = (exK (atI xs i) fun d => K (.v d)) := rfl
@[simp ↓] theorem ix_k {kvs : List (Str × D)} {z : Str} {K : R → Prop} : ixR (.kd kvs) (.str z) K = (exK (kvs.lookup z) fun d => flat d = true ∧ K (.v d)) := rfl
@[simp ↓] theorem ix_s {z : Str} {i : Int} {K : R → Prop} : ixR (.str z) (.int i) K = (z.length ≤ sizeLine ∧ exK (atI z.cps.toList i) fun c => K (.v (.str ⟨#[c]⟩))) := rfl
@[simp ↓] theorem sl_l {xs : List D} {lo hi : Option Int} {K : R → Prop} : slR (.lst xs) lo hi K = (K (.n (cutD xs lo hi))) := rfl
@[simp ↓] theorem sl_c {xs : List Int} {lo hi : Option Int} {K : R → Prop} : slR (.scr xs) lo hi K = (K (.n (cutD (xs.map D.int) lo hi))) := rfl
@[simp ↓] theorem sl_t {xs : List D} {lo hi : Option Int} {K : R → Prop} : slR (.tup xs) lo hi K = (K (.v (.tup (cutD xs lo hi)))) := rfl
@[simp ↓] theorem sl_s {z : Str} {lo hi : Option Int} {K : R → Prop} : slR (.str z) lo hi K = (z.length ≤ sizeLine ∧ K (.v (.str (cutS z lo hi)))) := rfl
@[simp ↓] theorem itm_l {xs : List D} {K : List D → Prop} : itemsD (.lst xs) K = (K xs) := rfl
@[simp ↓] theorem itm_t {xs : List D} {K : List D → Prop} : itemsD (.tup xs) K = (K xs) := rfl
@[simp ↓] theorem itm_s {z : Str} {K : List D → Prop} : itemsD (.str z) K = (K (z.cps.toList.map fun c => .str ⟨#[c]⟩)) := rfl
@[simp ↓] theorem b_len_l {xs : List D} {K : R → Prop} : biR .len [.lst xs] K = (K (.v (.int xs.length))) := rfl
@[simp ↓] theorem b_len_t {xs : List D} {K : R → Prop} : biR .len [.tup xs] K = (K (.v (.int xs.length))) := rfl
@[simp ↓] theorem b_len_s {s : Str} {K : R → Prop} : biR .len [.str s] K = (s.length ≤ sizeLine ∧ K (.v (.int s.length))) := rfl
@[simp ↓] theorem b_max2 {i j : Int}  {K : R → Prop} : biR .max2 [.int i, .int j] K = (K (.v (.int (max i j)))) := rfl
@[simp ↓] theorem b_min2 {i j : Int}  {K : R → Prop} : biR .min2 [.int i, .int j] K = (K (.v (.int (min i j)))) := rfl
@[simp ↓] theorem b_max3 {i j k : Int} {K : R → Prop} : biR .max3 [.int i, .int j, .int k] K = (K (.v (.int (max (max i j) k)))) := rfl
@[simp ↓] theorem b_max1_l {xs : List D} {K : R → Prop} : biR .max1 [.lst xs] K = (∃ ns : List Int, xs = ns.map D.int ∧ 0 < ns.length ∧ ∀ m, m ∈ ns → (∀ y, y ∈ ns → y ≤ m) → K (.v (.int m))) := rfl
@[simp ↓] theorem b_min1_l {xs : List D} {K : R → Prop} : biR .min1 [.lst xs] K = (∃ ns : List Int, xs = ns.map D.int ∧ 0 < ns.length ∧ ∀ m, m ∈ ns → (∀ y, y ∈ ns → m ≤ y) → K (.v (.int m))) := rfl
@[simp ↓] theorem b_max1_t {xs : List D} {K : R → Prop} : biR .max1 [.tup xs] K = (∃ ns : List Int, xs = ns.map D.int ∧ 0 < ns.length ∧ ∀ m, m ∈ ns → (∀ y, y ∈ ns → y ≤ m) → K (.v (.int m))) := rfl
@[simp ↓] theorem b_list_l {x : List D} {K : R → Prop} : biR .list [.lst x] K = (K (.n x)) := rfl
@[simp ↓] theorem b_list_t {x : List D} {K : R → Prop} : biR .list [.tup x] K = (K (.n x)) := rfl
@[simp ↓] theorem b_tuple_l {x : List D} {K : R → Prop} : biR .tuple [.lst x] K = (K (.v (.tup x))) := rfl
@[simp ↓] theorem b_tuple_t {x : List D} {K : R → Prop} : biR .tuple [.tup x] K = (K (.v (.tup x))) := rfl
@[simp ↓] theorem b_sum {xs : List D} {K : R → Prop} : biR .sum [.lst xs] K = (∃ ns : List Int, xs = ns.map D.int ∧ K (.v (.int ns.sum))) := rfl
@[simp ↓] theorem b_any {xs : List D} {K : R → Prop} : biR .any [.lst xs] K = (∃ bs : List Bool, xs = bs.map D.bl ∧ K (.v (.bl (bs.any id)))) := rfl
@[simp ↓] theorem b_all {xs : List D} {K : R → Prop} : biR .all [.lst xs] K = (∃ bs : List Bool, xs = bs.map D.bl ∧ K (.v (.bl (bs.all id)))) := rfl
@[simp ↓] theorem b_int_i {i : Int} {K : R → Prop} : biR .int [.int i] K = (K (.v (.int i))) := rfl
@[simp ↓] theorem b_int_b {b : Bool} {K : R → Prop} : biR .int [.bl b] K = (K (.v (.int (if b then 1 else 0)))) := rfl
@[simp ↓] theorem bt_any {xs : List D} {K : Bool → Prop} : biT .any [.lst xs] K = (∃ bs : List Bool, xs = bs.map D.bl ∧ K (bs.any id)) := rfl
@[simp ↓] theorem bt_all {xs : List D} {K : Bool → Prop} : biT .all [.lst xs] K = (∃ bs : List Bool, xs = bs.map D.bl ∧ K (bs.all id)) := rfl
@[simp ↓] theorem tru_non {K : Bool → Prop} : truD (.non) K = (K false) := rfl
@[simp ↓] theorem tru_bl {b : Bool} {K : Bool → Prop} : truD (.bl b) K = (K b) := rfl
@[simp ↓] theorem tru_int {i : Int} {K : Bool → Prop} : truD (.int i) K = (K (i != 0)) := rfl
@[simp ↓] theorem tru_str {s : Str} {K : Bool → Prop} : truD (.str s) K = (s.length ≤ sizeLine ∧ K ((s.length : Int) != 0)) := rfl
@[simp ↓] theorem tru_tup {xs : List D} {K : Bool → Prop} : truD (.tup xs) K = (K (!xs.isEmpty)) := rfl
@[simp ↓] theorem tru_lst {xs : List D} {K : Bool → Prop} : truD (.lst xs) K = (K (!xs.isEmpty)) := rfl
theorem forD_nil {t : Tg} {fb : Rho → DE → Prop} {ρ : Rho} {E : DE} : forD t fb [] ρ E = E.nx ρ := rfl
theorem forD_cons {t : Tg} {fb : Rho → DE → Prop} {d : D} {ds : List D} {ρ : Rho} {E : DE} : forD t fb (d :: ds) ρ E = tgD t d ρ fun ρ1 => fb ρ1 { E with nx := fun ρ2 => forD t fb ds ρ2 E, ct := fun ρ2 => forD t fb ds ρ2 E, bk := E.nx } := rfl
/-- a for by a word of what is left to be walked -/
theorem forD_list {t : Tg} {fb : Rho → DE → Prop} {E : DE} (I : List D → Rho → Prop) (hs : ∀ d r ρ (E' : DE), I (d :: r) ρ → (∀ ρ', I r ρ' → E'.nx ρ') → (∀ ρ', I r ρ' → E'.ct ρ') → E'.rt = E.rt → E'.bk = E.nx → tgD t d ρ fun ρ1 => fb ρ1 E')
    (hd : ∀ ρ, I [] ρ → E.nx ρ) : ∀ (ds : List D) (ρ : Rho), I ds ρ → forD t fb ds ρ E
  | [], ρ, h => hd ρ h
  | d :: r, ρ, h => hs d r ρ _ h (fun ρ' h' => forD_list I hs hd r ρ' h') (fun ρ' h' => forD_list I hs hd r ρ' h') rfl rfl
theorem compD_list {vs : List Nat} {t : Tg} {ft : Rho → (Bool → Rho → Prop) → Prop} {fe : Rho → KR → Prop} {K : List D → Rho → Prop} (I : List D → List D → Rho → Prop)
    (hs : ∀ d r acc ρ (Q : List D → Rho → Prop), I (d :: r) acc ρ → (∀ acc' ρ', I r acc' ρ' → Q acc' ρ') → tgD t d ρ fun ρ1 => ft ρ1 fun b ρ2 =>
      if b = true then fe ρ2 fun r ρ3 => frz ρ3 r fun x ρ4 => acc.length < sizeLine ∧ vs.all (notOw ρ4) = true ∧ Q (acc ++ [x]) (wipeR ρ4 vs) else vs.all (notOw ρ2) = true ∧ Q acc (wipeR ρ2 vs))
    (hd : ∀ acc ρ, I [] acc ρ → K acc ρ) : ∀ (ds acc : List D) (ρ : Rho), I ds acc ρ → compD vs t ft fe ds acc ρ K
  | [], acc, ρ, h => hd acc ρ h
  | d :: r, acc, ρ, h => hs d r acc ρ _ h fun acc' ρ' h' => compD_list I hs hd r acc' ρ' h'
@[simp] theorem tgIn_nm {vs : List Nat} {i : Nat} : tgIn vs (.nm i) = vs.contains i := rfl
@[simp] theorem wipeR_nil {ρ : Rho} : wipeR ρ [] = ρ := rfl
@[simp] theorem wipeR_cons {ρ : Rho} {i : Nat} {r : List Nat} : wipeR ρ (i :: r) = (wipeR ρ r).set i .no := rfl
@[simp] theorem unwipe_nil {ρ ρ2 : Rho} : unwipe ρ ρ2 [] = ρ2 := rfl
@[simp] theorem unwipe_cons {ρ ρ2 : Rho} {i : Nat} {r : List Nat} : unwipe ρ ρ2 (i :: r) = (unwipe ρ ρ2 r).set i (ρ.getD i .no) := rfl
/-- an expression's result held in a frame: frz over what a comprehension's element gives -/
@[simp ↓] theorem zfrz_v {ρ : Rho} {d : D} {K : D → Rho → Prop} : frz ρ (.v d) K = K d ρ := rfl
@[simp ↓] theorem zfrz_n {ρ : Rho} {xs : List D} {K : D → Rho → Prop} : frz ρ (.n xs) K = K (.lst xs) ρ := rfl
theorem map_cons_inv {α : Type} {f : α → D} {d : D} {r : List D} {l : List α} (h : d :: r = l.map f) : ∃ a l', l = a :: l' ∧ d = f a ∧ r = l'.map f := by
  cases l with
  | nil => cases h
  | cons a l' => injection h with h1 h2; exact ⟨a, l', rfl, h1, h2⟩
theorem map_nil_inv {α : Type} {f : α → D} {l : List α} (h : [] = l.map f) : l = [] := by
  cases l with
  | nil => rfl
  | cons a l' => cases h
theorem bigM_r {i j : Int} (h1 : -(2 ^ 64) < j) (h2 : j < 2 ^ 64) : BigM i j := .inl (.inr ⟨h1, h2⟩)
theorem bigM_l {i j : Int} (h1 : -(2 ^ 64) < i) (h2 : i < 2 ^ 64) : BigM i j := .inl (.inl ⟨h1, h2⟩)
theorem sz (n : Nat) (h : n ≤ 1000) : n ≤ sizeLine := Nat.le_trans h (by decide)
theorem cut_map {α : Type} (f : α → D) (xs : List α) (lo hi : Option Int) : ∃ ys : List α, cutD (xs.map f) lo hi = ys.map f := by
  unfold cutD
  rw [List.length_map, ← List.map_drop, ← List.map_take]
  exact ⟨_, rfl⟩
end DL

/-! EB: the bag of numbers that every law draws from: what _law_bag, _law_pull, _law_of keep. -/
namespace DL
open PySem L2
/-- _law_bag(_law_script) -/
def N_law_bag : List Str := ["_law_script", "_law_seed", "_law_cell"]
def P_law_bag : List Str := ["_law_script"]
def b_law_bag : Ss := .cons (.set 1 (.int 37)) (
  .cons (.for (.nm 2) (.seq (.sl (.var 0) .no (.so (.int 63)))) (.cons (.set 1 (.bin .mod (.bin .add (.bin .add (.bin .mul (.var 1) (.int 65539)) (.var 2)) (.int 11)) (.int 2147483629))) .nil)) (
  .cons (.ret (.lst (.cons (.bi .list (.cons (.sl (.var 0) .no (.so (.int 63))) .nil)) (.cons (.int 0) (.cons (.int 0) (.cons (.var 1) (.cons (.int 0) .nil))))))) .nil))
/-- _law_pull(_law_bag_here, _law_many) -/
def N_law_pull : List Str := ["_law_bag_here", "_law_many", "_law_rest", "_law_cell", "_law_one", "_law_two"]
def P_law_pull : List Str := ["_law_bag_here", "_law_many"]
def b_law_pull : Ss := .cons (.augi 0 (.int 4) (.int 1)) (
  .cons (.ife (.cmp .gt (.ix (.var 0) (.int 2)) (.int 0)) (.cons (.set 2 (.ix (.var 0) (.int 2))) (
    .cons (.seti 0 (.int 2) (.bin .fdiv (.var 2) (.var 1))) (
    .cons (.ret (.bin .mod (.var 2) (.var 1))) .nil))) (.nil)) (
  .cons (.set 3 (.ix (.var 0) (.int 3))) (
  .cons (.ife (.cmp .lt (.ix (.var 0) (.int 1)) (.bi .len (.cons (.ix (.var 0) (.int 0)) .nil))) (.cons (.set 3 (.ix (.ix (.var 0) (.int 0)) (.ix (.var 0) (.int 1)))) (
    .cons (.augi 0 (.int 1) (.int 1)) .nil)) (.nil)) (
  .cons (.ife (.cmp .ge (.var 3) (.bin .pow (.int 10) (.int 18))) (.cons (.seti 0 (.int 2) (.bin .fdiv (.var 3) (.var 1))) (
    .cons (.ret (.bin .mod (.var 3) (.var 1))) .nil)) (.nil)) (
  .cons (.set 4 (.bin .mod (.bin .add (.bin .add (.bin .add (.bin .mul (.var 3) (.int 48271)) (.bin .mul (.ix (.var 0) (.int 3)) (.int 40503))) (.bin .mul (.ix (.var 0) (.int 4)) (.int 69621))) (.int 9176)) (.int 2147483629))) (
  .cons (.set 5 (.bin .mod (.bin .add (.bin .add (.bin .mul (.var 4) (.bin .add (.bin .mod (.var 4) (.int 65521)) (.int 13))) (.bin .mul (.ix (.var 0) (.int 4)) (.int 40692))) (.bin .mod (.ix (.var 0) (.int 3)) (.int 104729))) (.int 998244353))) (
  .cons (.seti 0 (.int 3) (.bin .mod (.bin .add (.bin .mul (.ix (.var 0) (.int 3)) (.int 16807)) (.var 5)) (.int 2147483563))) (
  .cons (.ret (.bin .mod (.bin .fdiv (.var 5) (.int 7)) (.var 1))) .nil))))))))
/-- _law_of(_law_bag_here, _law_some) -/
def N_law_of : List Str := ["_law_bag_here", "_law_some"]
def P_law_of : List Str := ["_law_bag_here", "_law_some"]
def b_law_of : Ss := .cons (.ret (.ix (.var 1) (.callm 1 0 (.cons (.bi .len (.cons (.var 1) .nil)) .nil)))) .nil
def BagOk (bag : List D) : Prop := ∃ (ns : List Int) (i rest seed cnt : Int), bag = [.lst (ns.map D.int), .int i, .int rest, .int seed, .int cnt] ∧ 0 ≤ i
def ct_law_bag : Ct := ⟨false, 1, fun _ _ a K => ∃ ns : List Int, a = [.scr ns] ∧ ∀ bag, BagOk bag → K (.n bag) []⟩
def ct_law_pull : Ct := ⟨true, 1, fun _ bag a K => ∃ many : Int, a = [.int many] ∧ (0 < many ∧ many < 2 ^ 64) ∧ BagOk bag ∧ ∀ r bag', 0 ≤ r → r < many → BagOk bag' → K (.d (.int r)) bag'⟩
def ct_law_of : Ct := ⟨true, 1, fun _ bag a K => ∃ xs : List D, (a = [.lst xs] ∨ a = [.tup xs]) ∧ (0 < xs.length ∧ xs.length < 2 ^ 24) ∧ BagOk bag ∧ ∀ x bag', x ∈ xs → BagOk bag' → K (.d x) bag'⟩
def f_bag : List FnE := [⟨"_law_bag", ct_law_bag, []⟩]
def f_pull : List FnE := f_bag ++ [⟨"_law_pull", ct_law_pull, []⟩]
def f_of : List FnE := f_pull ++ [⟨"_law_of", ct_law_of, []⟩]
section
variable {S : Sg}
theorem h_law_bag (Xd : Xn → List D → Prop) (bag args : List D) (Kd : Res → List D → Prop) (hn : args.length = ct_law_bag.n) (h : ct_law_bag.sem Xd bag args Kd) :
      iSs S (fun xn ρ => Xd xn (bagOf ct_law_bag.m ρ)) b_law_bag (start0 ct_law_bag.m bag args (N_law_bag.length - P_law_bag.length)) { nx := fun ρ => finR ct_law_bag.m Kd (.v .non) ρ, rt := finR ct_law_bag.m Kd } := by
  obtain ⟨ns, rfl, h⟩ := h
  obtain ⟨ys, hy⟩ := cut_map D.int ns none (some 63)
  simp [b_law_bag, N_law_bag, P_law_bag, ct_law_bag, hy]
  refine forD_list (fun r ρ => ∃ (l : List Int) (seed : Int) (s : Sl), r = l.map D.int ∧ opS s = true ∧ ρ = [Sl.fz (D.scr ns), .fz (.int seed), s]) ?_ ?_ _ _ ⟨ys, 37, .no, rfl, rfl, rfl⟩
  · rintro d r ρ E' ⟨l, seed, s, e, hs, rfl⟩ hn hc hr hb
    obtain ⟨y, l', rfl, rfl, rfl⟩ := map_cons_inv e
    simp [hs, bigM_r]
    exact hn _ ⟨l', _, _, rfl, rfl, rfl⟩
  · rintro ρ ⟨l, seed, s, e, hs, rfl⟩
    simp [hy]
    exact ⟨sz 5 (by decide), h _ ⟨ys, 0, 0, _, 0, rfl, Int.le_refl _⟩⟩
theorem clM_pull {bag : List D} {X : Xn → List D → Prop} {K : R → List D → Prop} {many : Int} (h0 : 0 < many) (h1 : many < 2 ^ 64) (hb : BagOk bag) : clM ct_law_pull bag [.int many] X K = ∀ r bag', 0 ≤ r → r < many → BagOk bag' → K (.v (.int r)) bag' := by
  apply propext
  unfold clM ct_law_pull
  constructor
  · rintro ⟨_, m, e, hm, _, h⟩ r bag' h2 h3 h4
    cases e
    exact h r bag' h2 h3 h4
  · intro h
    exact ⟨rfl, many, rfl, ⟨h0, h1⟩, hb, h⟩
theorem h_law_pull (Xd : Xn → List D → Prop) (bag args : List D) (Kd : Res → List D → Prop) (hn : args.length = ct_law_pull.n) (h : ct_law_pull.sem Xd bag args Kd) :
      iSs S (fun xn ρ => Xd xn (bagOf ct_law_pull.m ρ)) b_law_pull (start0 ct_law_pull.m bag args (N_law_pull.length - P_law_pull.length)) { nx := fun ρ => finR ct_law_pull.m Kd (.v .non) ρ, rt := finR ct_law_pull.m Kd } := by
  obtain ⟨many, rfl, ⟨h0, h1⟩, ⟨ns, i, rest, seed, cnt, rfl, hi⟩, h⟩ := h
  simp [b_law_pull, N_law_pull, P_law_pull, ct_law_pull]
  have cp : CPow 10 18 := ⟨by decide, by decide, by decide⟩
  have bg : ∀ x y : Int, BigM (x % 2147483629) (x % 2147483629 % 65521 + 13) := fun x _ => bigM_r (by have := Int.emod_nonneg (x % 2147483629) (show (65521 : Int) ≠ 0 by decide); omega) (by have := Int.emod_lt_of_pos (x % 2147483629) (show (0 : Int) < 65521 by decide); omega)
  have nn : ∀ x : Int, 0 ≤ x % many := fun x => Int.emod_nonneg _ (by omega)
  have lt : ∀ x : Int, x % many < many := fun x => Int.emod_lt_of_pos _ h0
  split
  · exact ⟨⟨h0, by omega⟩, h0, h _ _ (nn _) (lt _) ⟨ns, i, _, seed, _, rfl, hi⟩⟩
  · split
    · rename_i hl
      obtain ⟨y, hy, _⟩ := at_in ns hi hl
      have hy' : atI (ns.map D.int) i = some (D.int y) := by rw [at_map, hy]; rfl
      simp [hy', cp, bg, bigM_r]
      split
      · exact ⟨⟨h0, by omega⟩, h0, h _ _ (nn _) (lt _) ⟨ns, i + 1, _, seed, _, rfl, by omega⟩⟩
      · exact ⟨bg _ 0, h0, h _ _ (nn _) (lt _) ⟨ns, i + 1, _, _, _, rfl, by omega⟩⟩
    · simp [cp, bg, bigM_r]
      split
      · exact ⟨⟨h0, by omega⟩, h0, h _ _ (nn _) (lt _) ⟨ns, i, _, seed, _, rfl, by omega⟩⟩
      · exact ⟨bg _ 0, h0, h _ _ (nn _) (lt _) ⟨ns, i, _, _, _, rfl, by omega⟩⟩
theorem clM_of {bag ds : List D} {X : Xn → List D → Prop} {K : R → List D → Prop} {xs : List D} (h0 : 0 < xs.length) (h1 : xs.length < 2 ^ 24) (hb : BagOk bag) (hd : ds = [.lst xs] ∨ ds = [.tup xs]) (h : ∀ x bag', x ∈ xs → BagOk bag' → K (.v x) bag') : clM ct_law_of bag ds X K :=
  ⟨by rcases hd with rfl | rfl <;> rfl, xs, hd, ⟨h0, h1⟩, hb, h⟩
theorem h_law_of (hp : S.fs[1]? = some ⟨"_law_pull", ct_law_pull, []⟩) (Xd : Xn → List D → Prop) (bag args : List D) (Kd : Res → List D → Prop) (hn : args.length = ct_law_of.n) (h : ct_law_of.sem Xd bag args Kd) :
      iSs S (fun xn ρ => Xd xn (bagOf ct_law_of.m ρ)) b_law_of (start0 ct_law_of.m bag args (N_law_of.length - P_law_of.length)) { nx := fun ρ => finR ct_law_of.m Kd (.v .non) ρ, rt := finR ct_law_of.m Kd } := by
  obtain ⟨xs, hx, ⟨h0, h1⟩, hb, h⟩ := h
  rcases hx with rfl | rfl <;>
  · simp [↓ ze_callmh hp rfl, ↓ clM_pull (show (0 : Int) < (xs.length : Int) by omega) (show (xs.length : Int) < 2 ^ 64 by omega) hb, b_law_of, N_law_of, P_law_of, ct_law_of]
    intro r bag' h2 h3 h4
    obtain ⟨x, e, hx⟩ := at_in xs h2 h3
    simp [e]
    exact h x bag' hx h4
end
end DL

/-! EM: deeds and marks: what the defs of the marks' module keep (none raises here). -/
namespace DL
open PySem L2
/-- need_deed(deed) -/
def N_need_deed : List Str := ["deed"]
def P_need_deed : List Str := ["deed"]
def b_need_deed : Ss := .cons (.ife (.cmp .notin (.var 0) (.glob "DEEDS")) (.cons .nev .nil) (.nil)) .nil
/-- need_mark(mark) -/
def N_need_mark : List Str := ["mark"]
def P_need_mark : List Str := ["mark"]
def b_need_mark : Ss := .cons (.ife (.cmp .notin (.var 0) (.glob "MARKS")) (.cons .nev .nil) (.nil)) .nil
/-- spent(purses, deed) -/
def N_spent : List Str := ["purses", "deed", "lesser", "greater"]
def P_spent : List Str := ["purses", "deed"]
def b_spent : Ss := .cons (.tgt (.tp (.cons (.nm 2) (.cons (.nm 3) .nil))) (.var 0)) (
  .cons (.ife (.cmp .eq (.var 1) (.str "cent")) (.cons (.ret (.tup (.cons (.bin .add (.var 2) (.int 1)) (.cons (.var 3) .nil)))) .nil) (.nil)) (
  .cons (.ife (.cmp .eq (.var 1) (.str "fill")) (.cons (.ret (.tup (.cons (.int 0) (.cons (.var 3) .nil)))) .nil) (.nil)) (
  .cons (.ife (.cmp .eq (.var 1) (.str "coin")) (.cons (.ret (.tup (.cons (.int 0) (.cons (.bin .add (.var 3) (.int 1)) .nil)))) .nil) (.nil)) (
  .cons (.ret (.ife (.cmp .eq (.var 1) (.str "brim")) (.tup (.cons (.int 0) (.cons (.int 0) .nil))) (.tup (.cons (.var 2) (.cons (.var 3) .nil))))) .nil))))
/-- later_mark(one, other) -/
def N_later_mark : List Str := ["one", "other"]
def P_later_mark : List Str := ["one", "other"]
def b_later_mark : Ss := .cons (.ret (.ife (.cmp .ge (.ix (.glob "LATER") (.var 0)) (.ix (.glob "LATER") (.var 1))) (.var 0) (.var 1))) .nil
/-- often_mark(mark) -/
def N_often_mark : List Str := ["mark"]
def P_often_mark : List Str := ["mark"]
def b_often_mark : Ss := .cons (.ret (.ife (.cmp .isin (.var 0) (.tup (.cons (.str "cent") (.cons (.str "coin") .nil)))) (.str "dear") (.var 0))) .nil
/-- spend(purses, deed) -/
def N_spend : List Str := ["purses", "deed"]
def P_spend : List Str := ["purses", "deed"]
def b_spend : Ss := .cons (.ex (.call 3 (.cons (.var 1) .nil))) (
  .cons (.ret (.call 5 (.cons (.var 0) (.cons (.var 1) .nil)))) .nil)
/-- peak(deeds) -/
def N_peak : List Str := ["deeds", "deed", "purses", "found"]
def P_peak : List Str := ["deeds"]
def b_peak : Ss := .cons (.for (.nm 1) (.seq (.var 0)) (.cons (.ex (.call 3 (.cons (.var 1) .nil))) .nil)) (
  .cons (.set 2 (.tup (.cons (.int 0) (.cons (.int 0) .nil)))) (
  .cons (.set 3 (.int 0)) (
  .cons (.for (.nm 1) (.seq (.var 0)) (.cons (.set 2 (.call 5 (.cons (.var 2) (.cons (.var 1) .nil)))) (
    .cons (.set 3 (.bi .max3 (.cons (.var 3) (.cons (.ix (.var 2) (.int 0)) (.cons (.ix (.var 2) (.int 1)) .nil))))) .nil))) (
  .cons (.ret (.var 3)) .nil))))
/-- mark_of(deeds) -/
def N_mark_of : List Str := ["deeds", "deed", "found"]
def P_mark_of : List Str := ["deeds"]
def b_mark_of : Ss := .cons (.for (.nm 1) (.seq (.var 0)) (.cons (.ex (.call 3 (.cons (.var 1) .nil))) .nil)) (
  .cons (.set 2 (.str "keep")) (
  .cons (.for (.nm 1) (.seq (.var 0)) (.cons (.set 2 (.call 6 (.cons (.var 2) (.cons (.var 1) .nil)))) .nil)) (
  .cons (.ret (.var 2)) .nil)))
/-- behind(one, other) -/
def N_behind : List Str := ["one", "other"]
def P_behind : List Str := ["one", "other"]
def b_behind : Ss := .cons (.ex (.call 4 (.cons (.var 0) .nil))) (
  .cons (.ex (.call 4 (.cons (.var 1) .nil))) (
  .cons (.ret (.call 6 (.cons (.var 0) (.cons (.var 1) .nil)))) .nil))
/-- again(mark) -/
def N_again : List Str := ["mark"]
def P_again : List Str := ["mark"]
def b_again : Ss := .cons (.ex (.call 4 (.cons (.var 0) .nil))) (
  .cons (.ret (.call 7 (.cons (.var 0) .nil))) .nil)
def gvM : List (Str × D) := [("DEEDS", .tup [.str "keep", .str "cent", .str "fill", .str "coin", .str "brim"]), ("MARKS", .tup [.str "brim", .str "fill", .str "keep", .str "cent", .str "coin", .str "dear", .str "shut"]),
  ("LATER", .kd [("keep", .int 0), ("cent", .int 1), ("fill", .int 2), ("coin", .int 3), ("brim", .int 4), ("dear", .int 5), ("shut", .int 6)])]
inductive Mark where | brim | fill | keep | cent | coin | dear | shut
deriving DecidableEq
inductive Deed where | keep | cent | fill | coin | brim
deriving DecidableEq
def Mark.t : Mark → String | .keep => "keep" | .cent => "cent" | .fill => "fill" | .coin => "coin" | .brim => "brim" | .dear => "dear" | .shut => "shut"
def Mark.s (m : Mark) : Str := m.t
def Mark.rank : Mark → Int | .keep => 0 | .cent => 1 | .fill => 2 | .coin => 3 | .brim => 4 | .dear => 5 | .shut => 6
def Deed.mark : Deed → Mark | .keep => .keep | .cent => .cent | .fill => .fill | .coin => .coin | .brim => .brim
def Deed.s (d : Deed) : Str := d.mark.s
theorem Mark.s_inj {a b : Mark} (h : a.s = b.s) : a = b := by
  have h : (Str.ofString a.t) = Str.ofString b.t := h
  rw [ofs_eq] at h
  cases a <;> cases b <;> first | rfl | exact absurd h (by decide)
theorem Deed.s_inj {a b : Deed} (h : a.s = b.s) : a = b := by
  have h := Mark.s_inj h
  cases a <;> cases b <;> first | rfl | cases h
def spentL (p : Int × Int) : Deed → Int × Int | .keep => p | .cent => (p.1 + 1, p.2) | .fill => (0, p.2) | .coin => (0, p.2 + 1) | .brim => (0, 0)
def prD (p : Int × Int) : D := .tup [.int p.1, .int p.2]
def laterM (a b : Mark) : Mark := if b.rank ≤ a.rank then a else b
def oftenM : Mark → Mark | .cent => .dear | .coin => .dear | m => m
def peakS (s : (Int × Int) × Int) (d : Deed) : (Int × Int) × Int := (spentL s.1 d, max (max s.2 (spentL s.1 d).1) (spentL s.1 d).2)
def peakL (ds : List Deed) : Int := (ds.foldl peakS ((0, 0), 0)).2
def markL (ds : List Deed) : Mark := ds.foldl (fun m d => laterM m d.mark) .keep
def dsD (ds : List Deed) : D := .lst (ds.map fun d => .str d.s)
theorem dsD_inj {a b : List Deed} (h : dsD a = dsD b) : a = b := by
  injection h with h
  exact (List.map_inj_right (fun x y e => Deed.s_inj (by injection e))).mp h
theorem prD_inj {a b : Int × Int} (h : prD a = prD b) : a = b := by
  injection h with h
  injection h with h1 h2
  injection h2 with h2 h3
  injection h1 with h1
  injection h2 with h2
  exact Prod.ext h1 h2
def ct_need_deed : Ct := ⟨false, 1, fun _ _ a K => ∃ d : Deed, a = [.str d.s] ∧ K (.d .non) []⟩
def ct_need_mark : Ct := ⟨false, 1, fun _ _ a K => ∃ d : Mark, a = [.str d.s] ∧ K (.d .non) []⟩
def ct_spent : Ct := ⟨false, 2, fun _ _ a K => ∃ p, ∃ d : Deed, a = [prD p, .str d.s] ∧ K (.d (prD (spentL p d))) []⟩
def ct_later_mark : Ct := ⟨false, 2, fun _ _ a K => ∃ x y : Mark, a = [.str x.s, .str y.s] ∧ K (.d (.str (laterM x y).s)) []⟩
def ct_often_mark : Ct := ⟨false, 1, fun _ _ a K => ∃ x : Mark, a = [.str x.s] ∧ K (.d (.str (oftenM x).s)) []⟩
def ct_peak : Ct := ⟨false, 1, fun _ _ a K => ∃ ds : List Deed, a = [dsD ds] ∧ K (.d (.int (peakL ds))) []⟩
def ct_mark_of : Ct := ⟨false, 1, fun _ _ a K => ∃ ds : List Deed, a = [dsD ds] ∧ K (.d (.str (markL ds).s)) []⟩
section
variable {S : Sg} {X : Xn → Prop} {K : R → Prop}
theorem cl_need_deed {d : Deed} : clK ct_need_deed [.str d.s] X K = K (.v .non) :=
  propext ⟨fun ⟨_, _, _, h⟩ => h, fun h => ⟨rfl, d, rfl, h⟩⟩
theorem cl_need_mark {d : Mark} : clK ct_need_mark [.str d.s] X K = K (.v .non) :=
  propext ⟨fun ⟨_, _, _, h⟩ => h, fun h => ⟨rfl, d, rfl, h⟩⟩
theorem cl_spent {p : Int × Int} {d : Deed} : clK ct_spent [prD p, .str d.s] X K = K (.v (prD (spentL p d))) :=
  propext ⟨fun ⟨_, p', d', e, h⟩ => by
    injection e with e1 e2
    injection e2 with e2 _
    injection e2 with e2
    have := prD_inj e1; subst this
    have := Deed.s_inj e2; subst this
    exact h, fun h => ⟨rfl, p, d, rfl, h⟩⟩
theorem cl_later {x y : Mark} : clK ct_later_mark [.str x.s, .str y.s] X K = K (.v (.str (laterM x y).s)) :=
  propext ⟨fun ⟨_, p', d', e, h⟩ => by
    injection e with e1 e2
    injection e2 with e2 _
    injection e2 with e2
    injection e1 with e1
    have := Mark.s_inj e1; subst this
    have := Mark.s_inj e2; subst this
    exact h, fun h => ⟨rfl, x, y, rfl, h⟩⟩
theorem cl_often {x : Mark} : clK ct_often_mark [.str x.s] X K = K (.v (.str (oftenM x).s)) :=
  propext ⟨fun ⟨_, p', e, h⟩ => by
    injection e with e1 e2
    injection e1 with e1
    have := Mark.s_inj e1; subst this
    exact h, fun h => ⟨rfl, x, rfl, h⟩⟩
theorem cl_peak {ds : List Deed} : clK ct_peak [dsD ds] X K = K (.v (.int (peakL ds))) :=
  propext ⟨fun ⟨_, p', e, h⟩ => by
    injection e with e1 e2
    have := dsD_inj e1; subst this
    exact h, fun h => ⟨rfl, ds, rfl, h⟩⟩
theorem cl_mark_of {ds : List Deed} : clK ct_mark_of [dsD ds] X K = K (.v (.str (markL ds).s)) :=
  propext ⟨fun ⟨_, p', e, h⟩ => by
    injection e with e1 e2
    have := dsD_inj e1; subst this
    exact h, fun h => ⟨rfl, ds, rfl, h⟩⟩
/-- what a def's body is to keep -/
def Body (S : Sg) (c : Ct) (b : Ss) (N P : List Str) : Prop := ∀ (Xd : Xn → List D → Prop) (bag args : List D) (Kd : Res → List D → Prop), args.length = c.n → c.sem Xd bag args Kd →
      iSs S (fun xn ρ => Xd xn (bagOf c.m ρ)) b (start0 c.m bag args (N.length - P.length)) { nx := fun ρ => finR c.m Kd (.v .non) ρ, rt := finR c.m Kd }
theorem h_need_deed (g : S.gv.lookup ("DEEDS" : Str) = some (.tup [.str "keep", .str "cent", .str "fill", .str "coin", .str "brim"])) : Body S ct_need_deed b_need_deed N_need_deed P_need_deed := by
  rintro Xd bag args Kd hn ⟨d, rfl, h⟩
  cases d <;> simp [b_need_deed, N_need_deed, P_need_deed, ct_need_deed, ↓ ze_globh g, Deed.s, Deed.mark, Mark.s, Mark.t, h]
theorem h_need_mark (g : S.gv.lookup ("MARKS" : Str) = some (.tup [.str "brim", .str "fill", .str "keep", .str "cent", .str "coin", .str "dear", .str "shut"])) : Body S ct_need_mark b_need_mark N_need_mark P_need_mark := by
  rintro Xd bag args Kd hn ⟨d, rfl, h⟩
  cases d <;> simp [b_need_mark, N_need_mark, P_need_mark, ct_need_mark, ↓ ze_globh g, Mark.s, Mark.t, h]
theorem h_spent : Body S ct_spent b_spent N_spent P_spent := by
  rintro Xd bag args Kd hn ⟨p, d, rfl, h⟩
  have s2 : 2 ≤ sizeLine := sz 2 (by decide)
  cases d <;> simp [b_spent, N_spent, P_spent, ct_spent, prD, Deed.s, Deed.mark, Mark.s, Mark.t, s2] <;> exact h
theorem h_later_mark (g : S.gv.lookup ("LATER" : Str) = some (.kd [("keep", .int 0), ("cent", .int 1), ("fill", .int 2), ("coin", .int 3), ("brim", .int 4), ("dear", .int 5), ("shut", .int 6)])) : Body S ct_later_mark b_later_mark N_later_mark P_later_mark := by
  rintro Xd bag args Kd hn ⟨x, y, rfl, h⟩
  have e : ∀ z : Mark, List.lookup z.s [(("keep" : Str), D.int 0), ("cent", .int 1), ("fill", .int 2), ("coin", .int 3), ("brim", .int 4), ("dear", .int 5), ("shut", .int 6)] = some (.int z.rank) := fun z => by
    cases z <;> simp [List.lookup_cons, Mark.s, Mark.t, Mark.rank]
  simp [b_later_mark, N_later_mark, P_later_mark, ct_later_mark, ↓ ze_globh g, e]
  unfold laterM at h
  split <;> rename_i hh
  · rw [if_pos hh] at h; exact h
  · rw [if_neg hh] at h; exact h
theorem h_often_mark : Body S ct_often_mark b_often_mark N_often_mark P_often_mark := by
  rintro Xd bag args Kd hn ⟨x, rfl, h⟩
  have s2 : 2 ≤ sizeLine := sz 2 (by decide)
  cases x <;> simp [b_often_mark, N_often_mark, P_often_mark, ct_often_mark, Mark.s, Mark.t, s2] <;> exact h
def ct_behind : Ct := ct_later_mark
def ct_again : Ct := ct_often_mark
theorem h_spend (h3 : S.fs[3]? = some ⟨"need_deed", ct_need_deed, []⟩) (h5 : S.fs[5]? = some ⟨"spent", ct_spent, []⟩) : Body S ct_spent b_spend N_spend P_spend := by
  rintro Xd bag args Kd hn ⟨p, d, rfl, h⟩
  simp [b_spend, N_spend, P_spend, ct_spent]
  simp [↓ ze_callh h3 rfl, ↓ ze_callh h5 rfl, ↓ cl_need_deed, ↓ cl_spent]
  exact h
theorem h_behind (h4 : S.fs[4]? = some ⟨"need_mark", ct_need_mark, []⟩) (h6 : S.fs[6]? = some ⟨"later_mark", ct_later_mark, []⟩) : Body S ct_later_mark b_behind N_behind P_behind := by
  rintro Xd bag args Kd hn ⟨x, y, rfl, h⟩
  simp [b_behind, N_behind, P_behind, ct_later_mark]
  simp [↓ ze_callh h4 rfl, ↓ ze_callh h6 rfl, ↓ cl_need_mark, ↓ cl_later]
  exact h
theorem h_again (h4 : S.fs[4]? = some ⟨"need_mark", ct_need_mark, []⟩) (h7 : S.fs[7]? = some ⟨"often_mark", ct_often_mark, []⟩) : Body S ct_often_mark b_again N_again P_again := by
  rintro Xd bag args Kd hn ⟨x, rfl, h⟩
  simp [b_again, N_again, P_again, ct_often_mark]
  simp [↓ ze_callh h4 rfl, ↓ ze_callh h7 rfl, ↓ cl_need_mark, ↓ cl_often]
  exact h
theorem h_mark_of (h3 : S.fs[3]? = some ⟨"need_deed", ct_need_deed, []⟩) (h6 : S.fs[6]? = some ⟨"later_mark", ct_later_mark, []⟩) : Body S ct_mark_of b_mark_of N_mark_of P_mark_of := by
  rintro Xd bag args Kd hn ⟨ds, rfl, h⟩
  simp [b_mark_of, N_mark_of, P_mark_of, ct_mark_of, dsD]
  refine forD_list (fun r ρ => ∃ (l : List Deed) (s : Sl), r = l.map (fun d => D.str d.s) ∧ opS s = true ∧ ρ = [Sl.fz (dsD ds), s, .no]) ?_ ?_ _ _ ⟨ds, .no, rfl, rfl, rfl⟩
  · rintro d r ρ E' ⟨l, s, e, hs, rfl⟩ hn hc hr hb
    obtain ⟨y, l', rfl, rfl, rfl⟩ := map_cons_inv e
    simp [hs, ↓ ze_callh h3 rfl, ↓ cl_need_deed]
    exact hn _ ⟨l', _, rfl, rfl, rfl⟩
  rintro ρ ⟨l, s, e, hs, rfl⟩
  simp [hs, dsD]
  refine forD_list (fun r ρ => ∃ (l : List Deed) (s : Sl) (m : Mark), r = l.map (fun d => D.str d.s) ∧ opS s = true ∧ l.foldl (fun m d => laterM m d.mark) m = markL ds ∧ ρ = [Sl.fz (dsD ds), s, .fz (.str m.s)]) ?_ ?_ _ _ ⟨ds, s, .keep, rfl, hs, rfl, rfl⟩
  · rintro d r ρ E' ⟨l, s, m, e, hs, hf, rfl⟩ hn hc hr hb
    obtain ⟨y, l', rfl, rfl, rfl⟩ := map_cons_inv e
    simp [hs, ↓ ze_callh h6 rfl, ↓ cl_later, Deed.s]
    exact hn _ ⟨l', _, _, rfl, rfl, hf, rfl⟩
  rintro ρ ⟨l, s, m, e, hs, hf, rfl⟩
  have := map_nil_inv e
  subst this
  have hf : m = markL ds := hf
  subst hf
  simp
  exact h
theorem h_peak (h3 : S.fs[3]? = some ⟨"need_deed", ct_need_deed, []⟩) (h5 : S.fs[5]? = some ⟨"spent", ct_spent, []⟩) : Body S ct_peak b_peak N_peak P_peak := by
  rintro Xd bag args Kd hn ⟨ds, rfl, h⟩
  have s2 : 2 ≤ sizeLine := sz 2 (by decide)
  simp [b_peak, N_peak, P_peak, ct_peak, dsD, s2]
  refine forD_list (fun r ρ => ∃ (l : List Deed) (s : Sl), r = l.map (fun d => D.str d.s) ∧ opS s = true ∧ ρ = [Sl.fz (dsD ds), s, .no, .no]) ?_ ?_ _ _ ⟨ds, .no, rfl, rfl, rfl⟩
  · rintro d r ρ E' ⟨l, s, e, hs, rfl⟩ hn hc hr hb
    obtain ⟨y, l', rfl, rfl, rfl⟩ := map_cons_inv e
    simp [hs, ↓ ze_callh h3 rfl, ↓ cl_need_deed]
    exact hn _ ⟨l', _, rfl, rfl, rfl⟩
  rintro ρ ⟨l, s, e, hs, rfl⟩
  simp [hs, dsD, s2]
  refine forD_list (fun r ρ => ∃ (l : List Deed) (s : Sl) (m : (Int × Int) × Int), r = l.map (fun d => D.str d.s) ∧ opS s = true ∧ (l.foldl peakS m).2 = peakL ds ∧ ρ = [Sl.fz (dsD ds), s, .fz (prD m.1), .fz (.int m.2)]) ?_ ?_ _ _ ⟨ds, s, ((0, 0), 0), rfl, hs, rfl, rfl⟩
  · rintro d r ρ E' ⟨l, s, m, e, hs, hf, rfl⟩ hn hc hr hb
    obtain ⟨y, l', rfl, rfl, rfl⟩ := map_cons_inv e
    simp [hs, ↓ ze_callh h5 rfl, ↓ cl_spent]
    simp [prD]
    exact hn _ ⟨l', .fz (.str y.s), peakS m y, rfl, rfl, hf, by simp [peakS, prD, Int.max_assoc]⟩
  rintro ρ ⟨l, s, m, e, hs, hf, rfl⟩
  have := map_nil_inv e
  subst this
  have hf : m.2 = peakL ds := hf
  simp [hf]
  exact h
end
end DL

/-! PL4: the plain law of rows gone again and again. -/
namespace DL
def run (s : Int × Int) (ds : List Deed) : Int × Int := ds.foldl spentL s
def tp : Int × Int → List Deed → Int
  | _, [] => 0
  | p, d :: ds => max (max (spentL p d).1 (spentL p d).2) (tp (spentL p d) ds)
theorem tp_nn : ∀ (ds : List Deed) (p : Int × Int), 0 ≤ tp p ds
  | [], _ => Int.le_refl _
  | d :: ds, p => Int.le_trans (tp_nn ds (spentL p d)) (Int.le_max_right _ _)
theorem peak_tp : ∀ (ds : List Deed) (p : Int × Int) (m : Int), 0 ≤ m → (ds.foldl peakS (p, m)).2 = max m (tp p ds)
  | [], p, m, h => by simp [tp]; omega
  | d :: ds, p, m, h => by
    have hm : 0 ≤ max (max m (spentL p d).1) (spentL p d).2 := by omega
    have := peak_tp ds (spentL p d) (max (max m (spentL p d).1) (spentL p d).2) hm
    rw [List.foldl_cons]
    show (ds.foldl peakS (spentL p d, max (max m (spentL p d).1) (spentL p d).2)).2 = _
    rw [this]
    show _ = max m (max (max (spentL p d).1 (spentL p d).2) (tp (spentL p d) ds))
    omega
theorem peakL_tp (ds : List Deed) : peakL ds = tp (0, 0) ds := by
  unfold peakL
  rw [peak_tp ds (0, 0) 0 (Int.le_refl _)]
  have := tp_nn ds (0, 0)
  omega
theorem run_app (s : Int × Int) (xs ys : List Deed) : run s (xs ++ ys) = run (run s xs) ys := List.foldl_append ..
theorem tp_app : ∀ (xs ys : List Deed) (p : Int × Int), tp p (xs ++ ys) = max (tp p xs) (tp (run p xs) ys)
  | [], ys, p => by
    have := tp_nn ys p
    show tp p ys = max 0 (tp p ys)
    omega
  | d :: xs, ys, p => by
    show max _ (tp (spentL p d) (xs ++ ys)) = max (max _ (tp (spentL p d) xs)) (tp (run (spentL p d) xs) ys)
    rw [tp_app xs ys]
    omega
theorem spent_mono {p q c : Int × Int} (d : Deed) (h1 : p.1 ≤ q.1 ∧ q.1 ≤ p.1 + c.1) (h2 : p.2 ≤ q.2 ∧ q.2 ≤ p.2 + c.2) (c1 : 0 ≤ c.1) (c2 : 0 ≤ c.2) :
    ((spentL p d).1 ≤ (spentL q d).1 ∧ (spentL q d).1 ≤ (spentL p d).1 + c.1) ∧ ((spentL p d).2 ≤ (spentL q d).2 ∧ (spentL q d).2 ≤ (spentL p d).2 + c.2) := by
  cases d <;> simp only [spentL] <;> omega
theorem tp_mono : ∀ (ds : List Deed) (p q c : Int × Int) (m : Int), (p.1 ≤ q.1 ∧ q.1 ≤ p.1 + c.1) → (p.2 ≤ q.2 ∧ q.2 ≤ p.2 + c.2) → 0 ≤ c.1 → 0 ≤ c.2 → c.1 ≤ m → c.2 ≤ m → tp p ds ≤ tp q ds ∧ tp q ds ≤ tp p ds + m
  | [], _, _, _, _, _, _, _, _, _, _ => by simp only [tp]; omega
  | d :: ds, p, q, c, m, h1, h2, c1, c2, m1, m2 => by
    obtain ⟨k1, k2⟩ := spent_mono d h1 h2 c1 c2
    have := tp_mono ds _ _ c m k1 k2 c1 c2 m1 m2
    simp only [tp]
    omega
theorem run_le : ∀ (ds : List Deed) (p : Int × Int), (run p ds).1 ≤ max p.1 (tp p ds) ∧ (run p ds).2 ≤ max p.2 (tp p ds)
  | [], p => by simp only [run, List.foldl_nil]; omega
  | d :: ds, p => by
    have := run_le ds (spentL p d)
    have e : run p (d :: ds) = run (spentL p d) ds := rfl
    rw [e]
    simp only [tp]
    omega
theorem run_nn : ∀ (ds : List Deed) (p : Int × Int), 0 ≤ p.1 → 0 ≤ p.2 → 0 ≤ (run p ds).1 ∧ 0 ≤ (run p ds).2
  | [], _, h1, h2 => ⟨h1, h2⟩
  | d :: ds, p, h1, h2 => run_nn ds (spentL p d) (by cases d <;> simp only [spentL] <;> omega) (by cases d <;> simp only [spentL] <;> omega)
theorem peak_join (xs ys : List Deed) : peakL xs ≤ peakL (xs ++ ys) ∧ peakL (xs ++ ys) ≤ peakL xs + peakL ys := by
  rw [peakL_tp, peakL_tp, peakL_tp, tp_app]
  obtain ⟨r1, r2⟩ := run_le xs (0, 0)
  obtain ⟨n1, n2⟩ := run_nn xs (0, 0) (Int.le_refl _) (Int.le_refl _)
  have t0 := tp_nn xs (0, 0)
  have t1 := tp_nn ys (0, 0)
  simp only at r1 r2
  have := tp_mono ys (0, 0) (run (0, 0) xs) (run (0, 0) xs) (tp (0, 0) xs) (by simp only; omega) (by simp only; omega) n1 n2 (by omega) (by omega)
  omega
/-! ### marks -/
theorem rank_inj {a b : Mark} (h : a.rank = b.rank) : a = b := by
  cases a <;> cases b <;> first | rfl | exact absurd h (by decide)
theorem rank_later (a b : Mark) : (laterM a b).rank = max a.rank b.rank := by
  unfold laterM
  split <;> omega
theorem rank_nn (d : Mark) : 0 ≤ d.rank := by cases d <;> decide
def mx (m : Int) (ds : List Deed) : Int := ds.foldl (fun m d => max m d.mark.rank) m
theorem mark_mx : ∀ (ds : List Deed) (m : Mark), (ds.foldl (fun m d => laterM m d.mark) m).rank = mx m.rank ds
  | [], _ => rfl
  | d :: ds, m => by
    have := mark_mx ds (laterM m d.mark)
    rw [List.foldl_cons, this, rank_later]
    rfl
theorem mx_max : ∀ (ds : List Deed) (m : Int), 0 ≤ m → mx m ds = max m (mx 0 ds)
  | [], m, h => by simp only [mx, List.foldl_nil]; omega
  | d :: ds, m, h => by
    have h0 := rank_nn d.mark
    show mx (max m d.mark.rank) ds = max m (mx (max 0 d.mark.rank) ds)
    rw [mx_max ds (max m d.mark.rank) (by omega), mx_max ds (max 0 d.mark.rank) (by omega)]
    omega
theorem mx_nn (ds : List Deed) : 0 ≤ mx 0 ds := by rw [mx_max ds 0 (Int.le_refl _)]; omega
theorem mx_app (xs ys : List Deed) : mx 0 (xs ++ ys) = max (mx 0 xs) (mx 0 ys) := by
  show (xs ++ ys).foldl _ 0 = _
  rw [List.foldl_append]
  exact mx_max ys _ (mx_nn xs)
theorem markL_rank (ds : List Deed) : (markL ds).rank = mx 0 ds := mark_mx ds .keep
theorem mark_join (xs ys : List Deed) : laterM (markL xs) (markL ys) = markL (xs ++ ys) := rank_inj (by rw [rank_later, markL_rank, markL_rank, markL_rank, mx_app])
def rep (k : Nat) (xs : List Deed) : List Deed := (List.replicate k xs).flatten
theorem rep_succ (k : Nat) (xs : List Deed) : rep (k + 1) xs = xs ++ rep k xs := by
  unfold rep
  rw [List.replicate_succ, List.flatten_cons]
theorem mx_rep (xs : List Deed) : ∀ k : Nat, mx 0 (rep (k + 1) xs) = mx 0 xs
  | 0 => by rw [rep_succ, mx_app]; show max (mx 0 xs) (mx 0 []) = _; have := mx_nn xs; show max _ 0 = _; omega
  | k + 1 => by rw [rep_succ, mx_app, mx_rep xs k]; omega
theorem mark_rep (xs : List Deed) {k : Nat} (h : 1 ≤ k) : markL (rep k xs) = markL xs := by
  obtain ⟨j, rfl⟩ : ∃ j, k = j + 1 := ⟨k - 1, by omega⟩
  exact rank_inj (by rw [markL_rank, markL_rank, mx_rep])
theorem mx_le : ∀ (ds : List Deed) (d : Deed), d ∈ ds → d.mark.rank ≤ mx 0 ds
  | x :: ds, d, h => by
    show _ ≤ mx (max 0 x.mark.rank) ds
    have hx := rank_nn x.mark
    rw [mx_max ds _ (by omega)]
    rcases List.mem_cons.mp h with rfl | h
    · omega
    · have := mx_le ds d h
      omega
theorem mx_has : ∀ (ds : List Deed), 0 < mx 0 ds → ∃ d ∈ ds, d.mark.rank = mx 0 ds
  | [], h => absurd h (by decide)
  | x :: ds, h => by
    have hx := rank_nn x.mark
    have e : mx 0 (x :: ds) = max (max 0 x.mark.rank) (mx 0 ds) := mx_max ds (max 0 x.mark.rank) (by omega)
    by_cases h1 : mx 0 ds ≤ x.mark.rank
    · exact ⟨x, List.mem_cons_self, by rw [e]; omega⟩
    · obtain ⟨d, hd, q⟩ := mx_has ds (by omega)
      exact ⟨d, List.mem_cons_of_mem _ hd, by rw [e, q]; omega⟩
/-! ### the row gone again -/
theorem run1_eq : ∀ (ds : List Deed) (s t : Int × Int), s.1 = t.1 → (run s ds).1 = (run t ds).1
  | [], _, _, h => h
  | d :: ds, s, t, h => run1_eq ds (spentL s d) (spentL t d) (by cases d <;> simp only [spentL] <;> omega)
theorem run2_eq : ∀ (ds : List Deed) (s t : Int × Int), s.2 = t.2 → (run s ds).2 = (run t ds).2
  | [], _, _, h => h
  | d :: ds, s, t, h => run2_eq ds (spentL s d) (spentL t d) (by cases d <;> simp only [spentL] <;> omega)
theorem run1_reset : ∀ (ds : List Deed) (s t : Int × Int), (∃ d ∈ ds, 2 ≤ d.mark.rank) → (run s ds).1 = (run t ds).1
  | [], _, _, h => by obtain ⟨_, h, _⟩ := h; cases h
  | x :: ds, s, t, h => by
    by_cases hx : 2 ≤ x.mark.rank
    · exact run1_eq ds _ _ (by cases x <;> simp only [spentL] <;> first | omega | exact absurd hx (by decide))
    · obtain ⟨d, hd, q⟩ := h
      rcases List.mem_cons.mp hd with rfl | hd
      · exact absurd q hx
      · exact run1_reset ds (spentL s x) (spentL t x) ⟨d, hd, q⟩
theorem run2_reset : ∀ (ds : List Deed) (s t : Int × Int), Deed.brim ∈ ds → (run s ds).2 = (run t ds).2
  | x :: ds, s, t, h => by
    by_cases hx : x = .brim
    · subst hx
      exact run2_eq ds _ _ rfl
    · rcases List.mem_cons.mp h with h | h
      · exact absurd h.symm hx
      · exact run2_reset ds (spentL s x) (spentL t x) h
theorem run1_grow : ∀ (ds : List Deed) (s : Int × Int), (∀ d ∈ ds, d.mark.rank ≤ 1) → s.1 ≤ (run s ds).1 ∧ (Deed.cent ∈ ds → s.1 + 1 ≤ (run s ds).1)
  | [], s, _ => ⟨Int.le_refl _, fun h => by cases h⟩
  | x :: ds, s, h => by
    obtain ⟨i1, i2⟩ := run1_grow ds (spentL s x) fun d hd => h d (List.mem_cons_of_mem _ hd)
    have hx := h x List.mem_cons_self
    have e : run s (x :: ds) = run (spentL s x) ds := rfl
    rw [e]
    cases x with
    | keep => exact ⟨i1, fun q => i2 (by simpa using q)⟩
    | cent =>
      simp only [spentL] at i1 i2 ⊢
      exact ⟨by omega, fun _ => i1⟩
    | _ => exact absurd hx (by decide)
theorem run2_grow : ∀ (ds : List Deed) (s : Int × Int), Deed.brim ∉ ds → s.2 ≤ (run s ds).2 ∧ (Deed.coin ∈ ds → s.2 + 1 ≤ (run s ds).2) ∧ (Deed.coin ∉ ds → (run s ds).2 = s.2)
  | [], s, _ => ⟨Int.le_refl _, fun h => (by cases h), fun _ => rfl⟩
  | x :: ds, s, h => by
    obtain ⟨i1, i2, i3⟩ := run2_grow ds (spentL s x) fun q => h (List.mem_cons_of_mem _ q)
    have e : run s (x :: ds) = run (spentL s x) ds := rfl
    rw [e]
    cases x with
    | brim => exact absurd List.mem_cons_self h
    | coin =>
      simp only [spentL] at i1 i2 i3 ⊢
      exact ⟨by omega, fun _ => i1, fun q => absurd List.mem_cons_self q⟩
    | _ =>
      simp only [spentL] at i1 i2 i3 ⊢
      exact ⟨i1, fun q => i2 (by simpa using q), fun q => i3 (by simpa using q)⟩
theorem run_keep : ∀ (ds : List Deed) (s : Int × Int), (∀ d ∈ ds, d = .keep) → run s ds = s
  | [], _, _ => rfl
  | x :: ds, s, h => by
    have hx := h x List.mem_cons_self
    subst hx
    exact run_keep ds s fun d hd => h d (List.mem_cons_of_mem _ hd)
theorem dear_rank {m : Mark} (h : oftenM m = .dear) : m.rank = 1 ∨ m.rank = 3 ∨ m.rank = 5 := by cases m <;> first | exact absurd h (by decide) | decide
theorem deed_rank (d : Deed) : d.mark.rank ≤ 4 := by cases d <;> decide
theorem mx_le4 (ds : List Deed) : mx 0 ds ≤ 4 := by
  by_cases h : 0 < mx 0 ds
  · obtain ⟨d, _, q⟩ := mx_has ds h
    rw [← q]; exact deed_rank d
  · omega
theorem run1_rep (xs : List Deed) (h : ∀ d ∈ xs, d.mark.rank ≤ 1) (hc : Deed.cent ∈ xs) : ∀ (k : Nat) (s : Int × Int), s.1 + k ≤ (run s (rep k xs)).1
  | 0, s => by show s.1 + 0 ≤ s.1; omega
  | k + 1, s => by
    rw [rep_succ, run_app]
    have := run1_rep xs h hc k (run s xs)
    have := (run1_grow xs s h).2 hc
    omega
theorem run2_rep (xs : List Deed) (h : Deed.brim ∉ xs) (hc : Deed.coin ∈ xs) : ∀ (k : Nat) (s : Int × Int), s.2 + k ≤ (run s (rep k xs)).2
  | 0, s => by show s.2 + 0 ≤ s.2; omega
  | k + 1, s => by
    rw [rep_succ, run_app]
    have := run2_rep xs h hc k (run s xs)
    have := (run2_grow xs s h).2.1 hc
    omega
theorem rep_dear {xs : List Deed} (h : oftenM (markL xs) = .dear) (k : Nat) : (k : Int) ≤ peakL (rep k xs) := by
  rw [peakL_tp]
  have hr := dear_rank h
  rw [markL_rank] at hr
  have h4 := mx_le4 xs
  obtain ⟨r1, r2⟩ := run_le (rep k xs) (0, 0)
  have t0 := tp_nn (rep k xs) (0, 0)
  simp only at r1 r2
  rcases hr with e | e | e
  · obtain ⟨d, hd, q⟩ := mx_has xs (by omega)
    have : d = .cent := by rw [e] at q; cases d <;> first | rfl | exact absurd q (by decide)
    subst this
    have := run1_rep xs (fun d hd => by have := mx_le xs d hd; omega) hd k (0, 0)
    simp only at this
    omega
  · obtain ⟨d, hd, q⟩ := mx_has xs (by omega)
    have : d = .coin := by rw [e] at q; cases d <;> first | rfl | exact absurd q (by decide)
    subst this
    have := run2_rep xs (fun hb => by have := mx_le xs _ hb; rw [e] at this; exact absurd this (by decide)) hd k (0, 0)
    simp only at this
    omega
  · omega
theorem run_back {xs : List Deed} (h : oftenM (markL xs) ≠ .dear) (s : Int × Int) (h1 : 0 ≤ s.1 ∧ s.1 ≤ tp (0, 0) xs) (h2 : 0 ≤ s.2 ∧ s.2 ≤ tp (0, 0) xs) :
    (0 ≤ (run s xs).1 ∧ (run s xs).1 ≤ tp (0, 0) xs) ∧ (0 ≤ (run s xs).2 ∧ (run s xs).2 ≤ tp (0, 0) xs) := by
  obtain ⟨n1, n2⟩ := run_nn xs s h1.1 h2.1
  obtain ⟨r1, r2⟩ := run_le xs (0, 0)
  have t0 := tp_nn xs (0, 0)
  simp only at r1 r2
  have hr : mx 0 xs = 0 ∨ mx 0 xs = 2 ∨ mx 0 xs = 4 := by
    have e := markL_rank xs
    have h4 := mx_le4 xs
    cases q : markL xs <;> rw [q] at h e <;> first | exact absurd rfl h | (simp only [Mark.rank] at e; omega)
  rcases hr with e | e | e
  · have : run s xs = s := run_keep xs s fun d hd => by
      have := mx_le xs d hd
      rw [e] at this
      cases d <;> first | rfl | exact absurd this (by decide)
    rw [this]
    exact ⟨h1, h2⟩
  · obtain ⟨d, hd, q⟩ := mx_has xs (by omega)
    have a := run1_reset xs s (0, 0) ⟨d, hd, by omega⟩
    have b := (run2_grow xs s (fun hb => by have := mx_le xs _ hb; rw [e] at this; exact absurd this (by decide))).2.2 (fun hb => by have := mx_le xs _ hb; rw [e] at this; exact absurd this (by decide))
    omega
  · obtain ⟨d, hd, q⟩ := mx_has xs (by omega)
    have a := run1_reset xs s (0, 0) ⟨d, hd, by omega⟩
    have : d = .brim := by rw [e] at q; cases d <;> first | rfl | exact absurd q (by decide)
    subst this
    have b := run2_reset xs s (0, 0) hd
    omega
theorem rep_tame {xs : List Deed} (h : oftenM (markL xs) ≠ .dear) : ∀ (k : Nat) (s : Int × Int), (0 ≤ s.1 ∧ s.1 ≤ tp (0, 0) xs) → (0 ≤ s.2 ∧ s.2 ≤ tp (0, 0) xs) → tp s (rep k xs) ≤ 2 * tp (0, 0) xs
  | 0, s, _, _ => by
    have := tp_nn xs (0, 0)
    show (0 : Int) ≤ _
    omega
  | k + 1, s, h1, h2 => by
    rw [rep_succ, tp_app]
    obtain ⟨b1, b2⟩ := run_back h s h1 h2
    have := rep_tame h k (run s xs) b1 b2
    have := tp_mono xs (0, 0) s s (tp (0, 0) xs) (by simp only; omega) (by simp only; omega) h1.1 h2.1 h1.2 h2.2
    omega
theorem rep_not {xs : List Deed} (h : oftenM (markL xs) ≠ .dear) (k : Nat) : peakL (rep k xs) ≤ 2 * peakL xs := by
  rw [peakL_tp, peakL_tp]
  have := tp_nn xs (0, 0)
  exact rep_tame h k (0, 0) (by simp only; omega) (by simp only; omega)
theorem pre_le (xs ys : List Deed) : max (run (0, 0) xs).1 (run (0, 0) xs).2 ≤ peakL (xs ++ ys) := by
  have := (peak_join xs ys).1
  rw [peakL_tp] at this
  obtain ⟨r1, r2⟩ := run_le xs (0, 0)
  have t0 := tp_nn xs (0, 0)
  simp only at r1 r2
  omega
end DL

/-! E4: law k04: its text, its own defs. -/
namespace DL
open PySem L2
def top (i : Nat) : Stmt := PySem.Challenge.pw_onepurse_k04_whole_rows_gone_again_and_a.main.body.getD i (.Pass ⟨0, 0, 0, 0⟩)
abbrev st_law_bag : Stmt := top 18
abbrev st_law_pull : Stmt := top 19
abbrev st_law_of : Stmt := top 20
abbrev st_need_deed : Stmt := top 7
abbrev st_need_mark : Stmt := top 8
abbrev st_spent : Stmt := top 9
abbrev st_later_mark : Stmt := top 10
abbrev st_often_mark : Stmt := top 11
abbrev st_spend : Stmt := top 12
abbrev st_peak : Stmt := top 13
abbrev st_mark_of : Stmt := top 14
abbrev st_behind : Stmt := top 15
abbrev st_again : Stmt := top 16
abbrev st_law_deed : Stmt := top 21
abbrev st_law : Stmt := top 22
/-- _law_deed(_law_bag_here) -/
def N_law_deed : List Str := ["_law_bag_here"]
def P_law_deed : List Str := ["_law_bag_here"]
def b_law_deed : Ss := .cons (.ret (.callm 2 0 (.cons (.lst (.cons (.str "keep") (.cons (.str "cent") (.cons (.str "fill") (.cons (.str "coin") (.cons (.str "brim") (.cons (.str "keep") (.cons (.str "cent") (.cons (.str "cent") (.cons (.str "coin") (.cons (.str "fill") .nil))))))))))) .nil))) .nil
/-- law(_law_script) -/
def N_law : List Str := ["_law_script", "_law_bag_here", "_law_turn", "_law_one", "_law_other", "_law_many", "_law_tops", "_law_purses", "_law_deed_here", "_law_k"]
def P_law : List Str := ["_law_script"]
def b_law : Ss := .cons (.set 1 (.call 0 (.cons (.var 0) .nil))) (
  .cons (.for (.nm 2) (.rng1 (.int 5)) (.cons (.set 3 (.comp [("_law_k", 9)] (.nm 9) (.rng1 (.bin .add (.int 1) (.callm 1 1 (.cons (.int 9) .nil)))) .nil (.callm 13 1 .nil))) (
    .cons (.set 4 (.comp [("_law_k", 9)] (.nm 9) (.rng1 (.callm 1 1 (.cons (.int 9) .nil))) .nil (.callm 13 1 .nil))) (
    .cons (.set 5 (.bin .add (.int 1) (.callm 1 1 (.cons (.int 12) .nil)))) (
    .cons (.set 6 (.lst (.cons (.call 9 (.cons (.var 3) .nil)) (.cons (.call 9 (.cons (.bin .mul (.var 3) (.var 5)) .nil)) (.cons (.call 9 (.cons (.var 4) .nil)) (.cons (.call 9 (.cons (.bin .add (.var 3) (.var 4)) .nil)) .nil)))))) (
    .cons (.ife (.cmp .eq (.call 12 (.cons (.call 10 (.cons (.var 3) .nil)) .nil)) (.str "dear")) (.cons (.ife (.cmp .lt (.ix (.var 6) (.int 1)) (.var 5)) (.cons (.ret (.bl false)) .nil) (.nil)) .nil) (.cons (.ife (.cmp .gt (.ix (.var 6) (.int 1)) (.bin .mul (.int 2) (.ix (.var 6) (.int 0)))) (.cons (.ret (.bl false)) .nil) (.nil)) .nil)) (
    .cons (.ife (.or (.cmp .ne (.call 11 (.cons (.call 10 (.cons (.var 3) .nil)) (.cons (.call 10 (.cons (.var 4) .nil)) .nil))) (.call 10 (.cons (.bin .add (.var 3) (.var 4)) .nil))) (.one (.cmp .ne (.call 10 (.cons (.bin .mul (.var 3) (.var 5)) .nil)) (.call 10 (.cons (.var 3) .nil))))) (.cons (.ret (.bl false)) .nil) (.nil)) (
    .cons (.ife (.or (.cmp .lt (.ix (.var 6) (.int 3)) (.ix (.var 6) (.int 0))) (.one (.cmp .gt (.ix (.var 6) (.int 3)) (.bin .add (.ix (.var 6) (.int 0)) (.ix (.var 6) (.int 2)))))) (.cons (.ret (.bl false)) .nil) (.nil)) (
    .cons (.set 7 (.tup (.cons (.int 0) (.cons (.int 0) .nil)))) (
    .cons (.for (.nm 8) (.seq (.var 3)) (.cons (.set 7 (.call 8 (.cons (.var 7) (.cons (.var 8) .nil)))) (
      .cons (.ife (.cmp .gt (.bi .max1 (.cons (.var 7) .nil)) (.ix (.var 6) (.int 0))) (.cons (.ret (.bl false)) .nil) (.nil)) .nil))) .nil)))))))))) (
  .cons (.ret (.bl true)) .nil))
def ct_law_deed : Ct := ⟨true, 0, fun _ bag _ K => BagOk bag ∧ ∀ (d : Deed) bag', BagOk bag' → K (.d (.str d.s)) bag'⟩
def ct_law : Ct := ⟨false, 1, fun _ _ a K => ∃ ns : List Int, a = [.scr ns] ∧ K (.d (.bl true)) []⟩
section
variable {S : Sg}
theorem cl_law_bag {ns : List Int} {X : Xn → Prop} {K : R → Prop} (h : ∀ bag, BagOk bag → K (.n bag)) : clK ct_law_bag [.scr ns] X K := ⟨rfl, ns, rfl, h⟩
theorem clM_deed {bag : List D} {X : Xn → List D → Prop} {K : R → List D → Prop} (hb : BagOk bag) : clM ct_law_deed bag [] X K = ∀ (d : Deed) bag', BagOk bag' → K (.v (.str d.s)) bag' :=
  propext ⟨fun ⟨_, _, h⟩ => h, fun h => ⟨rfl, hb, h⟩⟩
theorem h_law_deed (h2 : S.fs[2]? = some ⟨"_law_of", ct_law_of, []⟩) : Body S ct_law_deed b_law_deed N_law_deed P_law_deed := by
  rintro Xd bag args Kd hn ⟨hb, h⟩
  have hn : args = [] := List.eq_nil_of_length_eq_zero hn
  subst hn
  simp [b_law_deed, N_law_deed, P_law_deed, ct_law_deed, ↓ ze_callmh h2 rfl]
  refine ⟨sz 10 (by decide), clM_of (by decide) (by decide) hb (.inl rfl) fun x bag' hx hb' => ?_⟩
  have : ∃ d : Deed, x = .str d.s := by
    simp only [List.mem_cons, List.not_mem_nil, or_false] at hx
    rcases hx with rfl | rfl | rfl | rfl | rfl | rfl | rfl | rfl | rfl | rfl
    · exact ⟨.keep, rfl⟩
    · exact ⟨.cent, rfl⟩
    · exact ⟨.fill, rfl⟩
    · exact ⟨.coin, rfl⟩
    · exact ⟨.brim, rfl⟩
    · exact ⟨.keep, rfl⟩
    · exact ⟨.cent, rfl⟩
    · exact ⟨.cent, rfl⟩
    · exact ⟨.coin, rfl⟩
    · exact ⟨.fill, rfl⟩
  obtain ⟨d, rfl⟩ := this
  simp
  exact h d bag' hb'
structure Law4 (S : Sg) : Prop where
  h0 : S.fs[0]? = some ⟨"_law_bag", ct_law_bag, []⟩
  h1 : S.fs[1]? = some ⟨"_law_pull", ct_law_pull, []⟩
  h8 : S.fs[8]? = some ⟨"spend", ct_spent, []⟩
  h9 : S.fs[9]? = some ⟨"peak", ct_peak, []⟩
  h10 : S.fs[10]? = some ⟨"mark_of", ct_mark_of, []⟩
  h11 : S.fs[11]? = some ⟨"behind", ct_later_mark, []⟩
  h12 : S.fs[12]? = some ⟨"again", ct_often_mark, []⟩
  h13 : S.fs[13]? = some ⟨"_law_deed", ct_law_deed, []⟩
/-- the frame at the head of a turn -/
def Fr4 (ns : List Int) (ρ : Rho) : Prop := ∃ bag s2 s3 s4 s5 s6 s7 s8 s9, ρ = [Sl.fz (.scr ns), .ow false bag, s2, s3, s4, s5, s6, s7, s8, s9] ∧ BagOk bag ∧ opS s2 = true ∧ opS s3 = true ∧ opS s4 = true ∧ opS s5 = true ∧ opS s6 = true ∧ opS s7 = true ∧ opS s8 = true ∧ noS s9 = true
theorem comp_deeds (L : Law4 S) {xp : XP} {m : Nat} (hm : m ≤ 1000) {bag : List D} (hb : BagOk bag) {s0 s2 s3 s4 s5 s6 s7 s8 : Sl} {K : List D → Rho → Prop} (ds0 : List D) (hl : ds0.length = m)
    (k : ∀ (ds : List Deed) bag', ds.length = m → BagOk bag' → K (ds.map fun d => .str d.s) [s0, .ow false bag', s2, s3, s4, s5, s6, s7, s8, .no]) :
    compD [9] (Tg.nm 9) (iTs S xp Cs.nil) (iE S xp (C.callm 13 1 Cs.nil)) ds0 [] [s0, .ow false bag, s2, s3, s4, s5, s6, s7, s8, .no] K := by
  refine compD_list (fun r acc ρ => ∃ (ds : List Deed) (bag' : List D), acc = ds.map (fun d => D.str d.s) ∧ ds.length + r.length = m ∧ BagOk bag' ∧ ρ = [s0, .ow false bag', s2, s3, s4, s5, s6, s7, s8, .no]) ?_ ?_ _ _ _ ⟨[], bag, rfl, by simpa using hl, hb, rfl⟩
  · rintro d r acc ρ Q ⟨ds, bag', rfl, hm', hb', rfl⟩ hQ
    simp [↓ ze_callmh L.h13 rfl, ↓ clM_deed hb']
    intro d' bag'' hb''
    simp at hm' ⊢
    refine ⟨Nat.lt_of_lt_of_le (show ds.length < 1000 by omega) (sz 1000 (Nat.le_refl _)), hQ _ _ ⟨ds ++ [d'], bag'', by simp, by simp; omega, hb'', rfl⟩⟩
  · rintro acc ρ ⟨ds, bag', rfl, hm', hb', rfl⟩
    exact k ds bag' (by simpa using hm') hb'
theorem dsD_rep (ds : List Deed) (k : Nat) : (List.replicate k (ds.map fun d => D.str d.s)).flatten = (rep k ds).map fun d => D.str d.s := by
  unfold rep
  rw [List.map_flatten, List.map_replicate]
section
variable {X : Xn → Prop} {K : R → Prop} {ds es : List Deed} {k : Nat}
theorem cl_peak1 : clK ct_peak [.lst (ds.map fun d => .str d.s)] X K = K (.v (.int (peakL ds))) := cl_peak
theorem cl_peak2 : clK ct_peak [.lst (List.replicate k (ds.map fun d => D.str d.s)).flatten] X K = K (.v (.int (peakL (rep k ds)))) := by rw [dsD_rep]; exact cl_peak
theorem cl_peak3 : clK ct_peak [.lst (ds.map (fun d => D.str d.s) ++ es.map fun d => D.str d.s)] X K = K (.v (.int (peakL (ds ++ es)))) := by rw [← List.map_append]; exact cl_peak
theorem cl_mark1 : clK ct_mark_of [.lst (ds.map fun d => .str d.s)] X K = K (.v (.str (markL ds).s)) := cl_mark_of
theorem cl_mark2 : clK ct_mark_of [.lst (List.replicate k (ds.map fun d => D.str d.s)).flatten] X K = K (.v (.str (markL (rep k ds)).s)) := by rw [dsD_rep]; exact cl_mark_of
theorem cl_mark3 : clK ct_mark_of [.lst (ds.map (fun d => D.str d.s) ++ es.map fun d => D.str d.s)] X K = K (.v (.str (markL (ds ++ es)).s)) := by rw [← List.map_append]; exact cl_mark_of
theorem mark_eq {a b : Mark} : (a.s = b.s) = (a = b) := propext ⟨Mark.s_inj, fun e => by rw [e]⟩
theorem mark_dear {a : Mark} : (a.s = ("dear" : Str)) = (a = .dear) := mark_eq (b := .dear)
end
theorem b_max1_pr {q : Int × Int} {K : R → Prop} : biR .max1 [prD q] K = K (.v (.int (max q.1 q.2))) := by
  apply propext
  show (∃ ns : List Int, [D.int q.1, D.int q.2] = ns.map D.int ∧ 0 < ns.length ∧ ∀ m, m ∈ ns → (∀ y, y ∈ ns → y ≤ m) → K (.v (.int m))) ↔ _
  constructor
  · rintro ⟨ns, e, _, h⟩
    have : ns = [q.1, q.2] := ((List.map_inj_right (f := D.int) fun x y e => by injection e).mp (show [q.1, q.2].map D.int = ns.map D.int from e)).symm
    subst this
    refine h _ ?_ ?_
    · by_cases hh : q.1 ≤ q.2
      · rw [show max q.1 q.2 = q.2 by omega]; simp
      · rw [show max q.1 q.2 = q.1 by omega]; simp
    · intro y hy
      simp at hy
      omega
  · intro h
    refine ⟨[q.1, q.2], rfl, by simp, fun m hm hy => ?_⟩
    have h1 := hy q.1 (by simp)
    have h2 := hy q.2 (by simp)
    simp at hm
    have : m = max q.1 q.2 := by omega
    rw [this]
    exact h
theorem h_law (L : Law4 S) : Body S ct_law b_law N_law P_law := by
  rintro Xd bag args Kd hn ⟨ns, rfl, h⟩
  simp [b_law, N_law, P_law, ct_law, ↓ ze_callh L.h0 rfl]
  refine cl_law_bag fun bag hb => ?_
  simp
  refine forD_list (fun r ρ => Fr4 ns ρ) ?_ ?_ _ _ ⟨bag, .no, .no, .no, .no, .no, .no, .no, .no, rfl, hb, rfl, rfl, rfl, rfl, rfl, rfl, rfl, rfl⟩
  · rintro d r ρ E' ⟨bag, s2, s3, s4, s5, s6, s7, s8, s9, rfl, hb, o2, o3, o4, o5, o6, o7, o8, o9⟩ hn hc hr hbk
    simp [o2, ↓ ze_callmh L.h1 rfl, ↓ clM_pull (show (0 : Int) < 9 by decide) (show (9 : Int) < 2 ^ 64 by decide) hb]
    intro r1 bag1 r1a r1b hb1
    refine ⟨⟨by omega, by omega⟩, o9, comp_deeds L (m := (1 + r1).toNat) (by omega) hb1 _ (by simp) fun one bag2 hl hb2 => ?_⟩
    simp [o3, ↓ clM_pull (show (0 : Int) < 9 by decide) (show (9 : Int) < 2 ^ 64 by decide) hb2]
    intro r2 bag3 r2a r2b hb3
    refine ⟨⟨by omega, by omega⟩, o9, comp_deeds L (m := r2.toNat) (by omega) hb3 _ (by simp) fun other bag4 hl2 hb4 => ?_⟩
    simp [o4, o5, ↓ clM_pull (show (0 : Int) < 12 by decide) (show (12 : Int) < 2 ^ 64 by decide) hb4]
    intro r3 bag5 r3a r3b hb5
    have hk : (1 + r3).toNat = ((1 + r3).toNat : Nat) := rfl
    have kz : ((1 + r3).toNat : Int) = 1 + r3 := by omega
    have m1 : one.length * (1 + r3).toNat ≤ sizeLine := Nat.le_trans (Nat.mul_le_mul (show one.length ≤ 9 by omega) (show (1 + r3).toNat ≤ 12 by omega)) (by decide)
    have m2 : one.length + other.length ≤ sizeLine := Nat.le_trans (show one.length + other.length ≤ 20 by omega) (by decide)
    have q1 : -9223372036854775808 ≤ 1 + r3 := by omega
    have q2 : 1 + r3 < 9223372036854775808 := by omega
    have s2' : 2 ≤ sizeLine := sz 2 (by decide)
    have s4' : 4 ≤ sizeLine := sz 4 (by decide)
    have f3 := mark_join one other
    have f4 := mark_rep one (k := (1 + r3).toNat) (by omega)
    have f5 := peak_join one other
    have f5a : ¬ peakL (one ++ other) < peakL one := by omega
    have f5b : ¬ peakL one + peakL other < peakL (one ++ other) := by omega
    have fin : forD (Tg.nm 8) (iSs S (fun xn ρ => Xd xn []) (.cons (.set 7 (.call 8 (.cons (.var 7) (.cons (.var 8) .nil)))) (.cons (.ife (.cmp .gt (.bi .max1 (.cons (.var 7) .nil)) (.ix (.var 6) (.int 0))) (.cons (.ret (.bl false)) .nil) (.nil)) .nil))) (one.map fun d => D.str d.s)
        [Sl.fz (D.scr ns), Sl.ow false bag5, Sl.fz d, Sl.fz (D.lst (List.map (fun d => D.str d.s) one)), Sl.fz (D.lst (List.map (fun d => D.str d.s) other)), Sl.fz (D.int (1 + r3)),
          Sl.ow false [.int (peakL one), .int (peakL (rep (1 + r3).toNat one)), .int (peakL other), .int (peakL (one ++ other))], Sl.fz (.tup [.int 0, .int 0]), s8, s9] E' := by
      refine forD_list (fun r ρ => ∃ (dn l : List Deed) (s8 : Sl), one = dn ++ l ∧ r = l.map (fun d => D.str d.s) ∧ opS s8 = true ∧ ρ = [Sl.fz (D.scr ns), Sl.ow false bag5, Sl.fz d, Sl.fz (D.lst (List.map (fun d => D.str d.s) one)), Sl.fz (D.lst (List.map (fun d => D.str d.s) other)), Sl.fz (D.int (1 + r3)),
          Sl.ow false [.int (peakL one), .int (peakL (rep (1 + r3).toNat one)), .int (peakL other), .int (peakL (one ++ other))], Sl.fz (prD (run (0, 0) dn)), s8, s9]) ?_ ?_ _ _ ⟨[], one, s8, rfl, rfl, o8, rfl⟩
      · rintro d' r ρ E2 ⟨dn, l, s8, e1, e2, o8, rfl⟩ hn2 hc2 hr2 hb2
        obtain ⟨y, l', rfl, rfl, rfl⟩ := map_cons_inv e2
        have hp := pre_le (dn ++ [y]) l'
        have e3 : dn ++ [y] ++ l' = one := by rw [e1]; simp
        have e4 : spentL (run (0, 0) dn) y = run (0, 0) (dn ++ [y]) := by rw [run_app]; rfl
        rw [e3] at hp
        simp [o8, ↓ ze_callh L.h8 rfl, ↓ cl_spent, ↓ b_max1_pr, e4]
        rw [if_neg (by omega)]
        exact hn2 _ ⟨dn ++ [y], l', _, e3.symm, rfl, rfl, rfl⟩
      · rintro ρ ⟨dn, l, s8, e1, e2, o8', rfl⟩
        exact hn _ ⟨bag5, _, _, _, _, _, _, _, _, rfl, hb5, rfl, rfl, rfl, rfl, rfl, rfl, o8', o9⟩
    by_cases hd : oftenM (markL one) = .dear
    · have f1 : ¬ peakL (rep (1 + r3).toNat one) < 1 + r3 := by have := rep_dear hd (1 + r3).toNat; omega
      simp [↓ ze_callh L.h9 rfl, ↓ ze_callh L.h10 rfl, ↓ ze_callh L.h11 rfl, ↓ ze_callh L.h12 rfl, ↓ cl_peak1, ↓ cl_peak2, ↓ cl_peak3, ↓ cl_mark1, ↓ cl_mark2, ↓ cl_mark3, ↓ cl_often, ↓ cl_later, m1, m2, q1, q2, s2', s4', o6, o7, mark_eq, mark_dear, hd, f1, f3, f4, f5a, f5b, bigM_l]
      exact fin
    · have f2 : ¬ 2 * peakL one < peakL (rep (1 + r3).toNat one) := by have := rep_not hd (1 + r3).toNat; omega
      simp [↓ ze_callh L.h9 rfl, ↓ ze_callh L.h10 rfl, ↓ ze_callh L.h11 rfl, ↓ ze_callh L.h12 rfl, ↓ cl_peak1, ↓ cl_peak2, ↓ cl_peak3, ↓ cl_mark1, ↓ cl_mark2, ↓ cl_mark3, ↓ cl_often, ↓ cl_later, m1, m2, q1, q2, s2', s4', o6, o7, mark_eq, mark_dear, hd, f2, f3, f4, f5a, f5b, bigM_l]
      exact fin
  · rintro ρ ⟨bag, s2, s3, s4, s5, s6, s7, s8, s9, rfl, hb, _⟩
    simp
    exact h
end
theorem law_sp {K : PySem.W.Frag} {w : World} {H : Hp} {a : Addr} {ns : List Int} (h : SqL K H a (ns.map V.int)) : ct_law.sp ⟨K, w, fun _ => 0⟩ [.ref a] H (fun v _ => v = .bl true) fun _ _ _ => False := by
  refine ⟨fun b => if b = a then H a else none, [], [.scr ns], none, fun b o e => ?_, rfl, ?_, fun r _ => r = .d (.bl true), fun _ _ => False, ⟨ns, rfl, rfl⟩, fun v r F' H' bag' _ rr e => ?_, fun _ _ _ _ _ _ _ _ z => z⟩
  · have e : (if b = a then H a else none) = some o := e
    by_cases hb : b = a
    · subst hb; rw [if_pos rfl] at e; exact e
    · rw [if_neg hb] at e; cases e
  · unfold ArgsAt
    rw [if_neg (show ¬ ct_law.m = true from Bool.false_ne_true)]
    refine ⟨rfl, rfl, RepL.cons ?_ RepL.nil⟩
    simp only [Rep]
    refine ⟨a, rfl, ?_⟩
    rcases h with (q | ⟨o, q⟩) | q
    · exact .inl (.inl ((if_pos rfl).trans q))
    · exact .inl (.inr ⟨o, (if_pos rfl).trans q⟩)
    · exact .inr q
  · subst e
    have rr : Rep (⟨K, w, fun _ => 0⟩ : Gd) F' v (.bl true) := rr
    simpa only [Rep] using rr
end DL

namespace DL
open PySem L2
abbrev F0 : List FnE := []
abbrev F1 : List FnE := F0 ++ [⟨"_law_bag", ct_law_bag, []⟩]
abbrev F2 : List FnE := F1 ++ [⟨"_law_pull", ct_law_pull, []⟩]
abbrev F3 : List FnE := F2 ++ [⟨"_law_of", ct_law_of, []⟩]
abbrev F4 : List FnE := F3 ++ [⟨"need_deed", ct_need_deed, []⟩]
abbrev F5 : List FnE := F4 ++ [⟨"need_mark", ct_need_mark, []⟩]
abbrev F6 : List FnE := F5 ++ [⟨"spent", ct_spent, []⟩]
abbrev F7 : List FnE := F6 ++ [⟨"later_mark", ct_later_mark, []⟩]
abbrev F8 : List FnE := F7 ++ [⟨"often_mark", ct_often_mark, []⟩]
abbrev F9 : List FnE := F8 ++ [⟨"spend", ct_spent, []⟩]
abbrev F10 : List FnE := F9 ++ [⟨"peak", ct_peak, []⟩]
abbrev F11 : List FnE := F10 ++ [⟨"mark_of", ct_mark_of, []⟩]
abbrev F12 : List FnE := F11 ++ [⟨"behind", ct_later_mark, []⟩]
abbrev F13 : List FnE := F12 ++ [⟨"again", ct_often_mark, []⟩]
abbrev F14 : List FnE := F13 ++ [⟨"_law_deed", ct_law_deed, []⟩]
abbrev F15 : List FnE := F14 ++ [⟨"law", ct_law, []⟩]
theorem sc_law_bag : FnScope N_law_bag P_law_bag (defScope st_law_bag) := ⟨rfl, rfl, rfl, by decide +kernel, rfl, by decide +kernel, by decide +kernel⟩
theorem m_law_bag : mSs ⟨gvM, F0⟩ N_law_bag (defScope st_law_bag) b_law_bag (defBody st_law_bag) = true := by decide +kernel
theorem sc_law_pull : FnScope N_law_pull P_law_pull (defScope st_law_pull) := ⟨rfl, rfl, rfl, by decide +kernel, rfl, by decide +kernel, by decide +kernel⟩
theorem m_law_pull : mSs ⟨gvM, F1⟩ N_law_pull (defScope st_law_pull) b_law_pull (defBody st_law_pull) = true := by decide +kernel
theorem sc_law_of : FnScope N_law_of P_law_of (defScope st_law_of) := ⟨rfl, rfl, rfl, by decide +kernel, rfl, by decide +kernel, by decide +kernel⟩
theorem m_law_of : mSs ⟨gvM, F2⟩ N_law_of (defScope st_law_of) b_law_of (defBody st_law_of) = true := by decide +kernel
theorem sc_need_deed : FnScope N_need_deed P_need_deed (defScope st_need_deed) := ⟨rfl, rfl, rfl, by decide +kernel, rfl, by decide +kernel, by decide +kernel⟩
theorem m_need_deed : mSs ⟨gvM, F3⟩ N_need_deed (defScope st_need_deed) b_need_deed (defBody st_need_deed) = true := by decide +kernel
theorem sc_need_mark : FnScope N_need_mark P_need_mark (defScope st_need_mark) := ⟨rfl, rfl, rfl, by decide +kernel, rfl, by decide +kernel, by decide +kernel⟩
theorem m_need_mark : mSs ⟨gvM, F4⟩ N_need_mark (defScope st_need_mark) b_need_mark (defBody st_need_mark) = true := by decide +kernel
theorem sc_spent : FnScope N_spent P_spent (defScope st_spent) := ⟨rfl, rfl, rfl, by decide +kernel, rfl, by decide +kernel, by decide +kernel⟩
theorem m_spent : mSs ⟨gvM, F5⟩ N_spent (defScope st_spent) b_spent (defBody st_spent) = true := by decide +kernel
theorem sc_later_mark : FnScope N_later_mark P_later_mark (defScope st_later_mark) := ⟨rfl, rfl, rfl, by decide +kernel, rfl, by decide +kernel, by decide +kernel⟩
theorem m_later_mark : mSs ⟨gvM, F6⟩ N_later_mark (defScope st_later_mark) b_later_mark (defBody st_later_mark) = true := by decide +kernel
theorem sc_often_mark : FnScope N_often_mark P_often_mark (defScope st_often_mark) := ⟨rfl, rfl, rfl, by decide +kernel, rfl, by decide +kernel, by decide +kernel⟩
theorem m_often_mark : mSs ⟨gvM, F7⟩ N_often_mark (defScope st_often_mark) b_often_mark (defBody st_often_mark) = true := by decide +kernel
theorem sc_spend : FnScope N_spend P_spend (defScope st_spend) := ⟨rfl, rfl, rfl, by decide +kernel, rfl, by decide +kernel, by decide +kernel⟩
theorem m_spend : mSs ⟨gvM, F8⟩ N_spend (defScope st_spend) b_spend (defBody st_spend) = true := by decide +kernel
theorem sc_peak : FnScope N_peak P_peak (defScope st_peak) := ⟨rfl, rfl, rfl, by decide +kernel, rfl, by decide +kernel, by decide +kernel⟩
theorem m_peak : mSs ⟨gvM, F9⟩ N_peak (defScope st_peak) b_peak (defBody st_peak) = true := by decide +kernel
theorem sc_mark_of : FnScope N_mark_of P_mark_of (defScope st_mark_of) := ⟨rfl, rfl, rfl, by decide +kernel, rfl, by decide +kernel, by decide +kernel⟩
theorem m_mark_of : mSs ⟨gvM, F10⟩ N_mark_of (defScope st_mark_of) b_mark_of (defBody st_mark_of) = true := by decide +kernel
theorem sc_behind : FnScope N_behind P_behind (defScope st_behind) := ⟨rfl, rfl, rfl, by decide +kernel, rfl, by decide +kernel, by decide +kernel⟩
theorem m_behind : mSs ⟨gvM, F11⟩ N_behind (defScope st_behind) b_behind (defBody st_behind) = true := by decide +kernel
theorem sc_again : FnScope N_again P_again (defScope st_again) := ⟨rfl, rfl, rfl, by decide +kernel, rfl, by decide +kernel, by decide +kernel⟩
theorem m_again : mSs ⟨gvM, F12⟩ N_again (defScope st_again) b_again (defBody st_again) = true := by decide +kernel
theorem sc_law_deed : FnScope N_law_deed P_law_deed (defScope st_law_deed) := ⟨rfl, rfl, rfl, by decide +kernel, rfl, by decide +kernel, by decide +kernel⟩
theorem m_law_deed : mSs ⟨gvM, F13⟩ N_law_deed (defScope st_law_deed) b_law_deed (defBody st_law_deed) = true := by decide +kernel
theorem sc_law : FnScope N_law P_law (defScope st_law) := ⟨rfl, rfl, rfl, by decide +kernel, rfl, by decide +kernel, by decide +kernel⟩
theorem m_law : mSs ⟨gvM, F14⟩ N_law (defScope st_law) b_law (defBody st_law) = true := by decide +kernel
def spLaw (K : PySem.W.Frag) (w : World) : Sp := ct_law.sp ⟨K, w, fun _ => 0⟩
theorem all_mk {l : PySem.W.OpenLaw} {w : World} {K : PySem.W.Frag} {h : Heap} {mg : Str → Option Value} {fa : Addr} (X : K.In h) (G : h.Ns mainGlobals mg) (hfa : mg "law" = some (.ref fa))
    {f0 f1 f2 f3 f4 f5 f6 f7 f8 f9 f10 f11 f12 f13 f14 t0 t1 d0 : Addr}
    {od0 an0 od1 an1 od2 an2 od3 an3 od4 an4 od5 an5 od6 an6 od7 an7 od8 an8 od9 an9 od10 an10 od11 an11 od12 an12 od13 an13 od14 an14 : Option Addr}
    {sl0 sl1 sl2 sl3 sl4 sl5 sl6 sl7 sl8 sl9 sl10 sl11 sl12 sl13 sl14 : Array (Option Value)}
    {oc0 kV0 dc0 pm0 cd0 ct0 oc1 kV1 dc1 pm1 cd1 ct1 oc2 kV2 dc2 pm2 cd2 ct2 oc3 kV3 dc3 pm3 cd3 ct3 oc4 kV4 dc4 pm4 cd4 ct4 oc5 kV5 dc5 pm5 cd5 ct5 oc6 kV6 dc6 pm6 cd6 ct6 oc7 kV7 dc7 pm7 cd7 ct7 oc8 kV8 dc8 pm8 cd8 ct8 oc9 kV9 dc9 pm9 cd9 ct9 oc10 kV10 dc10 pm10 cd10 ct10 oc11 kV11 dc11 pm11 cd11 ct11 oc12 kV12 dc12 pm12 cd12 ct12 oc13 kV13 dc13 pm13 cd13 ct13 oc14 kV14 dc14 pm14 cd14 ct14 : Value}
    {tk0 : Option Addr} {tI0 : Array Value} {tN0 : Nat} {tS0 : Array (Option Value)}
    {tk1 : Option Addr} {tI1 : Array Value} {tN1 : Nat} {tS1 : Array (Option Value)}
    {dE0 : Array DictEntry} {dN0 : Nat}
    {dt0_0 dt0_1 dt0_2 dt0_3 dt0_4 dt0_5 dt0_6 : Tok}
    (a0 : PySem.W.nsIn K mainGlobals "_law_bag" = some (some (.ref f0)))
    (l0 : K.lookup f0 = some ⟨oc0, od0, .func (PySem.W.fnOf "_law_bag" "_law_bag" (defArgs st_law_bag) (defBody st_law_bag) (defScope st_law_bag) .none kV0 dc0 pm0 an0 cd0 ct0), sl0⟩)
    (c0 : PySem.W.codeIn K cd0 "_law_bag" = true)
    (k0 : PySem.W.keepIn K (.ref f0) = true)
    (a1 : PySem.W.nsIn K mainGlobals "_law_pull" = some (some (.ref f1)))
    (l1 : K.lookup f1 = some ⟨oc1, od1, .func (PySem.W.fnOf "_law_pull" "_law_pull" (defArgs st_law_pull) (defBody st_law_pull) (defScope st_law_pull) .none kV1 dc1 pm1 an1 cd1 ct1), sl1⟩)
    (c1 : PySem.W.codeIn K cd1 "_law_pull" = true)
    (k1 : PySem.W.keepIn K (.ref f1) = true)
    (a2 : PySem.W.nsIn K mainGlobals "_law_of" = some (some (.ref f2)))
    (l2 : K.lookup f2 = some ⟨oc2, od2, .func (PySem.W.fnOf "_law_of" "_law_of" (defArgs st_law_of) (defBody st_law_of) (defScope st_law_of) .none kV2 dc2 pm2 an2 cd2 ct2), sl2⟩)
    (c2 : PySem.W.codeIn K cd2 "_law_of" = true)
    (k2 : PySem.W.keepIn K (.ref f2) = true)
    (a3 : PySem.W.nsIn K mainGlobals "need_deed" = some (some (.ref f3)))
    (l3 : K.lookup f3 = some ⟨oc3, od3, .func (PySem.W.fnOf "need_deed" "need_deed" (defArgs st_need_deed) (defBody st_need_deed) (defScope st_need_deed) .none kV3 dc3 pm3 an3 cd3 ct3), sl3⟩)
    (c3 : PySem.W.codeIn K cd3 "need_deed" = true)
    (k3 : PySem.W.keepIn K (.ref f3) = true)
    (a4 : PySem.W.nsIn K mainGlobals "need_mark" = some (some (.ref f4)))
    (l4 : K.lookup f4 = some ⟨oc4, od4, .func (PySem.W.fnOf "need_mark" "need_mark" (defArgs st_need_mark) (defBody st_need_mark) (defScope st_need_mark) .none kV4 dc4 pm4 an4 cd4 ct4), sl4⟩)
    (c4 : PySem.W.codeIn K cd4 "need_mark" = true)
    (k4 : PySem.W.keepIn K (.ref f4) = true)
    (a5 : PySem.W.nsIn K mainGlobals "spent" = some (some (.ref f5)))
    (l5 : K.lookup f5 = some ⟨oc5, od5, .func (PySem.W.fnOf "spent" "spent" (defArgs st_spent) (defBody st_spent) (defScope st_spent) .none kV5 dc5 pm5 an5 cd5 ct5), sl5⟩)
    (c5 : PySem.W.codeIn K cd5 "spent" = true)
    (k5 : PySem.W.keepIn K (.ref f5) = true)
    (a6 : PySem.W.nsIn K mainGlobals "later_mark" = some (some (.ref f6)))
    (l6 : K.lookup f6 = some ⟨oc6, od6, .func (PySem.W.fnOf "later_mark" "later_mark" (defArgs st_later_mark) (defBody st_later_mark) (defScope st_later_mark) .none kV6 dc6 pm6 an6 cd6 ct6), sl6⟩)
    (c6 : PySem.W.codeIn K cd6 "later_mark" = true)
    (k6 : PySem.W.keepIn K (.ref f6) = true)
    (a7 : PySem.W.nsIn K mainGlobals "often_mark" = some (some (.ref f7)))
    (l7 : K.lookup f7 = some ⟨oc7, od7, .func (PySem.W.fnOf "often_mark" "often_mark" (defArgs st_often_mark) (defBody st_often_mark) (defScope st_often_mark) .none kV7 dc7 pm7 an7 cd7 ct7), sl7⟩)
    (c7 : PySem.W.codeIn K cd7 "often_mark" = true)
    (k7 : PySem.W.keepIn K (.ref f7) = true)
    (a8 : PySem.W.nsIn K mainGlobals "spend" = some (some (.ref f8)))
    (l8 : K.lookup f8 = some ⟨oc8, od8, .func (PySem.W.fnOf "spend" "spend" (defArgs st_spend) (defBody st_spend) (defScope st_spend) .none kV8 dc8 pm8 an8 cd8 ct8), sl8⟩)
    (c8 : PySem.W.codeIn K cd8 "spend" = true)
    (k8 : PySem.W.keepIn K (.ref f8) = true)
    (a9 : PySem.W.nsIn K mainGlobals "peak" = some (some (.ref f9)))
    (l9 : K.lookup f9 = some ⟨oc9, od9, .func (PySem.W.fnOf "peak" "peak" (defArgs st_peak) (defBody st_peak) (defScope st_peak) .none kV9 dc9 pm9 an9 cd9 ct9), sl9⟩)
    (c9 : PySem.W.codeIn K cd9 "peak" = true)
    (k9 : PySem.W.keepIn K (.ref f9) = true)
    (a10 : PySem.W.nsIn K mainGlobals "mark_of" = some (some (.ref f10)))
    (l10 : K.lookup f10 = some ⟨oc10, od10, .func (PySem.W.fnOf "mark_of" "mark_of" (defArgs st_mark_of) (defBody st_mark_of) (defScope st_mark_of) .none kV10 dc10 pm10 an10 cd10 ct10), sl10⟩)
    (c10 : PySem.W.codeIn K cd10 "mark_of" = true)
    (k10 : PySem.W.keepIn K (.ref f10) = true)
    (a11 : PySem.W.nsIn K mainGlobals "behind" = some (some (.ref f11)))
    (l11 : K.lookup f11 = some ⟨oc11, od11, .func (PySem.W.fnOf "behind" "behind" (defArgs st_behind) (defBody st_behind) (defScope st_behind) .none kV11 dc11 pm11 an11 cd11 ct11), sl11⟩)
    (c11 : PySem.W.codeIn K cd11 "behind" = true)
    (k11 : PySem.W.keepIn K (.ref f11) = true)
    (a12 : PySem.W.nsIn K mainGlobals "again" = some (some (.ref f12)))
    (l12 : K.lookup f12 = some ⟨oc12, od12, .func (PySem.W.fnOf "again" "again" (defArgs st_again) (defBody st_again) (defScope st_again) .none kV12 dc12 pm12 an12 cd12 ct12), sl12⟩)
    (c12 : PySem.W.codeIn K cd12 "again" = true)
    (k12 : PySem.W.keepIn K (.ref f12) = true)
    (a13 : PySem.W.nsIn K mainGlobals "_law_deed" = some (some (.ref f13)))
    (l13 : K.lookup f13 = some ⟨oc13, od13, .func (PySem.W.fnOf "_law_deed" "_law_deed" (defArgs st_law_deed) (defBody st_law_deed) (defScope st_law_deed) .none kV13 dc13 pm13 an13 cd13 ct13), sl13⟩)
    (c13 : PySem.W.codeIn K cd13 "_law_deed" = true)
    (k13 : PySem.W.keepIn K (.ref f13) = true)
    (a14 : PySem.W.nsIn K mainGlobals "law" = some (some (.ref f14)))
    (l14 : K.lookup f14 = some ⟨oc14, od14, .func (PySem.W.fnOf "law" "law" (defArgs st_law) (defBody st_law) (defScope st_law) .none kV14 dc14 pm14 an14 cd14 ct14), sl14⟩)
    (c14 : PySem.W.codeIn K cd14 "law" = true)
    (k14 : PySem.W.keepIn K (.ref f14) = true)
    (ta0 : PySem.W.nsIn K mainGlobals "DEEDS" = some (some (.ref t0)))
    (tl0 : K.lookup t0 = some ⟨.type "tuple", tk0, .seq tI0 tN0, tS0⟩)
    (tv0 : Vals [.str "keep", .str "cent", .str "fill", .str "coin", .str "brim"] tI0.toList)
    (tz0 : tI0.size ≤ sizeLine)
    (ta1 : PySem.W.nsIn K mainGlobals "MARKS" = some (some (.ref t1)))
    (tl1 : K.lookup t1 = some ⟨.type "tuple", tk1, .seq tI1 tN1, tS1⟩)
    (tv1 : Vals [.str "brim", .str "fill", .str "keep", .str "cent", .str "coin", .str "dear", .str "shut"] tI1.toList)
    (tz1 : tI1.size ≤ sizeLine)
    (da0 : PySem.W.nsIn K mainGlobals "LATER" = some (some (.ref d0)))
    (dl0 : K.lookup d0 = some ⟨.type "dict", none, .dict dE0 dN0, #[]⟩)
    (dk0 : PySem.W.KeysLit w.params dE0.toList)
    (dv0_0 : PySem.W.nsIn K d0 "keep" = some (some (.int 0 dt0_0)))
    (dv0_1 : PySem.W.nsIn K d0 "cent" = some (some (.int 1 dt0_1)))
    (dv0_2 : PySem.W.nsIn K d0 "fill" = some (some (.int 2 dt0_2)))
    (dv0_3 : PySem.W.nsIn K d0 "coin" = some (some (.int 3 dt0_3)))
    (dv0_4 : PySem.W.nsIn K d0 "brim" = some (some (.int 4 dt0_4)))
    (dv0_5 : PySem.W.nsIn K d0 "dear" = some (some (.int 5 dt0_5)))
    (dv0_6 : PySem.W.nsIn K d0 "shut" = some (some (.int 6 dt0_6)))
    (z0 : PySem.W.nsIn K mainGlobals "len" = some none)
    (z1 : PySem.W.nsIn K mainGlobals "max" = some none)
    (z2 : PySem.W.nsIn K mainGlobals "min" = some none)
    (z3 : PySem.W.nsIn K mainGlobals "list" = some none)
    (z4 : PySem.W.nsIn K mainGlobals "tuple" = some none)
    (z5 : PySem.W.nsIn K mainGlobals "sum" = some none)
    (z6 : PySem.W.nsIn K mainGlobals "any" = some none)
    (z7 : PySem.W.nsIn K mainGlobals "all" = some none)
    (z8 : PySem.W.nsIn K mainGlobals "int" = some none)
    (z9 : PySem.W.nsIn K mainGlobals "range" = some none)
    (z10 : PySem.W.nsIn K mainGlobals "zip" = some none) :
    ∃ fd : FuncData, (∀ (s : Shared) (v : Value), BindsTo s fd ⟨[v], []⟩ [("_law_script", v)]) ∧ ∀ base : Heap, K.In base → base.Ns mainGlobals mg → FnOk l.prog w K mg base (L2.CX l.prog w) 15 fa fd ["_law_script"] (spLaw K w) := by
  have e := hfa.symm.trans (PySem.W.mg_of X G a14)
  cases e
  refine ⟨PySem.W.fnOf "law" "law" (defArgs st_law) (defBody st_law) (defScope st_law) .none kV14 dc14 pm14 an14 cd14 ct14, fun s v => .of_eq rfl, fun base _ _ => ?_⟩
  have gvs : ∀ x d, gvM.lookup x = some d → ∃ u v, mg x = some u ∧ RelV v u ∧ ∀ F, Rep (⟨K, w, fun _ => 0⟩ : Gd) F v d := by
    intro x d hx
    unfold gvM at hx
    simp only [List.lookup_cons] at hx
    split at hx
    · rename_i e
      cases hx
      have e := eq_of_beq e
      subst e
      refine ⟨_, .ref t0, PySem.W.mg_of X G ta0, rfl, fun F => Rep.tup' (vs := [.str "keep", .str "cent", .str "fill", .str "coin", .str "brim"]) (.inr ⟨_, tI0, tN0, tl0, rfl, rfl, tz0, tv0⟩) ?_⟩
      repeat first | exact RepL.nil | refine RepL.cons (Rep.str' _) ?_
    split at hx
    · rename_i e
      cases hx
      have e := eq_of_beq e
      subst e
      refine ⟨_, .ref t1, PySem.W.mg_of X G ta1, rfl, fun F => Rep.tup' (vs := [.str "brim", .str "fill", .str "keep", .str "cent", .str "coin", .str "dear", .str "shut"]) (.inr ⟨_, tI1, tN1, tl1, rfl, rfl, tz1, tv1⟩) ?_⟩
      repeat first | exact RepL.nil | refine RepL.cons (Rep.str' _) ?_
    split at hx
    · rename_i e
      cases hx
      have e := eq_of_beq e
      subst e
      refine ⟨_, .ref d0, PySem.W.mg_of X G da0, rfl, fun F => ?_⟩
      simp only [Rep]
      refine ⟨d0, rfl, fun x d hx => ?_⟩
      simp only [List.lookup_cons] at hx
      split at hx
      · rename_i e; cases hx; have e := eq_of_beq e; subst e; exact ⟨dE0, dN0, _, dl0, dk0, dv0_0, ⟨_, rfl⟩⟩
      split at hx
      · rename_i e; cases hx; have e := eq_of_beq e; subst e; exact ⟨dE0, dN0, _, dl0, dk0, dv0_1, ⟨_, rfl⟩⟩
      split at hx
      · rename_i e; cases hx; have e := eq_of_beq e; subst e; exact ⟨dE0, dN0, _, dl0, dk0, dv0_2, ⟨_, rfl⟩⟩
      split at hx
      · rename_i e; cases hx; have e := eq_of_beq e; subst e; exact ⟨dE0, dN0, _, dl0, dk0, dv0_3, ⟨_, rfl⟩⟩
      split at hx
      · rename_i e; cases hx; have e := eq_of_beq e; subst e; exact ⟨dE0, dN0, _, dl0, dk0, dv0_4, ⟨_, rfl⟩⟩
      split at hx
      · rename_i e; cases hx; have e := eq_of_beq e; subst e; exact ⟨dE0, dN0, _, dl0, dk0, dv0_5, ⟨_, rfl⟩⟩
      split at hx
      · rename_i e; cases hx; have e := eq_of_beq e; subst e; exact ⟨dE0, dN0, _, dl0, dk0, dv0_6, ⟨_, rfl⟩⟩
      simp at hx
    simp at hx
  have T0 : TW ⟨gvM, F0⟩ ⟨K, w, fun _ => 0⟩ l.prog w K mg base 0 := { eK := rfl, ew := rfl, gv := gvs, bn := ?bn, fs := fun i e he => by cases i <;> cases he }
  case bn =>
    intro x hx
    simp only [List.mem_cons, List.not_mem_nil, or_false] at hx
    rcases hx with rfl | rfl | rfl | rfl | rfl | rfl | rfl | rfl | rfl | rfl | rfl
    · exact PySem.W.mg_none_of X G z0
    · exact PySem.W.mg_none_of X G z1
    · exact PySem.W.mg_none_of X G z2
    · exact PySem.W.mg_none_of X G z3
    · exact PySem.W.mg_none_of X G z4
    · exact PySem.W.mg_none_of X G z5
    · exact PySem.W.mg_none_of X G z6
    · exact PySem.W.mg_none_of X G z7
    · exact PySem.W.mg_none_of X G z8
    · exact PySem.W.mg_none_of X G z9
    · exact PySem.W.mg_none_of X G z10
  have T1 := T0.def b_law_bag (fun_mk (st := st_law_bag) l0 c0 k0) (PySem.W.mg_of X G a0) (ps := P_law_bag) (fun _ _ _ _ _ _ us hl => match us, hl with | [_], _ => rfl) sc_law_bag (c := ct_law_bag) rfl m_law_bag (h_law_bag)
  have T2 := T1.def b_law_pull (fun_mk (st := st_law_pull) l1 c1 k1) (PySem.W.mg_of X G a1) (ps := P_law_pull) (fun _ _ _ _ _ _ us hl => match us, hl with | [_, _], _ => rfl) sc_law_pull (c := ct_law_pull) rfl m_law_pull (h_law_pull)
  have T3 := T2.def b_law_of (fun_mk (st := st_law_of) l2 c2 k2) (PySem.W.mg_of X G a2) (ps := P_law_of) (fun _ _ _ _ _ _ us hl => match us, hl with | [_, _], _ => rfl) sc_law_of (c := ct_law_of) rfl m_law_of (h_law_of rfl)
  have T4 := T3.def b_need_deed (fun_mk (st := st_need_deed) l3 c3 k3) (PySem.W.mg_of X G a3) (ps := P_need_deed) (fun _ _ _ _ _ _ us hl => match us, hl with | [_], _ => rfl) sc_need_deed (c := ct_need_deed) rfl m_need_deed (h_need_deed rfl)
  have T5 := T4.def b_need_mark (fun_mk (st := st_need_mark) l4 c4 k4) (PySem.W.mg_of X G a4) (ps := P_need_mark) (fun _ _ _ _ _ _ us hl => match us, hl with | [_], _ => rfl) sc_need_mark (c := ct_need_mark) rfl m_need_mark (h_need_mark rfl)
  have T6 := T5.def b_spent (fun_mk (st := st_spent) l5 c5 k5) (PySem.W.mg_of X G a5) (ps := P_spent) (fun _ _ _ _ _ _ us hl => match us, hl with | [_, _], _ => rfl) sc_spent (c := ct_spent) rfl m_spent (h_spent)
  have T7 := T6.def b_later_mark (fun_mk (st := st_later_mark) l6 c6 k6) (PySem.W.mg_of X G a6) (ps := P_later_mark) (fun _ _ _ _ _ _ us hl => match us, hl with | [_, _], _ => rfl) sc_later_mark (c := ct_later_mark) rfl m_later_mark (h_later_mark rfl)
  have T8 := T7.def b_often_mark (fun_mk (st := st_often_mark) l7 c7 k7) (PySem.W.mg_of X G a7) (ps := P_often_mark) (fun _ _ _ _ _ _ us hl => match us, hl with | [_], _ => rfl) sc_often_mark (c := ct_often_mark) rfl m_often_mark (h_often_mark)
  have T9 := T8.def b_spend (fun_mk (st := st_spend) l8 c8 k8) (PySem.W.mg_of X G a8) (ps := P_spend) (fun _ _ _ _ _ _ us hl => match us, hl with | [_, _], _ => rfl) sc_spend (c := ct_spent) rfl m_spend (h_spend rfl rfl)
  have T10 := T9.def b_peak (fun_mk (st := st_peak) l9 c9 k9) (PySem.W.mg_of X G a9) (ps := P_peak) (fun _ _ _ _ _ _ us hl => match us, hl with | [_], _ => rfl) sc_peak (c := ct_peak) rfl m_peak (h_peak rfl rfl)
  have T11 := T10.def b_mark_of (fun_mk (st := st_mark_of) l10 c10 k10) (PySem.W.mg_of X G a10) (ps := P_mark_of) (fun _ _ _ _ _ _ us hl => match us, hl with | [_], _ => rfl) sc_mark_of (c := ct_mark_of) rfl m_mark_of (h_mark_of rfl rfl)
  have T12 := T11.def b_behind (fun_mk (st := st_behind) l11 c11 k11) (PySem.W.mg_of X G a11) (ps := P_behind) (fun _ _ _ _ _ _ us hl => match us, hl with | [_, _], _ => rfl) sc_behind (c := ct_later_mark) rfl m_behind (h_behind rfl rfl)
  have T13 := T12.def b_again (fun_mk (st := st_again) l12 c12 k12) (PySem.W.mg_of X G a12) (ps := P_again) (fun _ _ _ _ _ _ us hl => match us, hl with | [_], _ => rfl) sc_again (c := ct_often_mark) rfl m_again (h_again rfl rfl)
  have T14 := T13.def b_law_deed (fun_mk (st := st_law_deed) l13 c13 k13) (PySem.W.mg_of X G a13) (ps := P_law_deed) (fun _ _ _ _ _ _ us hl => match us, hl with | [_], _ => rfl) sc_law_deed (c := ct_law_deed) rfl m_law_deed (h_law_deed rfl)
  exact def_ok ct_law b_law T14 (fun_mk (st := st_law) l14 c14 k14) sc_law rfl m_law (h_law ⟨rfl, rfl, rfl, rfl, rfl, rfl, rfl, rfl⟩)
theorem walk {l : PySem.W.OpenLaw} {q : Program} {loose : List Str} {XP : (Str → Option Value) → Heap → Prop} {YP : World → Heap → Prop} {d : DefRec} {K : Params → PySem.W.Frag} (hn : l.most = some 63) (hdf : d.params.defaults = [])
    (hY : ∀ (w : World) (h : Heap), YP w h → (K w.params).In h)
    (F : ∀ (w : World) (mg : Str → Option Value) (fa : Addr) (h : Heap), (K w.params).In h → h.Ns mainGlobals mg → mg d.name = some (.ref fa) →
      ∃ fd : FuncData, (∀ (s : Shared) (u : Value), BindsTo s fd ⟨[u], []⟩ [("_law_script", u)]) ∧ ∀ base : Heap, (K w.params).In base → base.Ns mainGlobals mg → FnOk l.prog w (K w.params) mg base (L2.CX l.prog w) 15 fa fd ["_law_script"] (spLaw (K w.params) w)) :
    PySem.W.WalkO q loose XP YP l.row.toRowW d [] (fun f vs => PySem.call f vs) :=
  L2.walk_of (n := 63) (k := 15) (x := "_law_script") (CX := fun w => L2.CX l.prog w) (sp := fun w => spLaw (K w.params) w) hn (by decide) hdf ⟨rfl, by decide, by decide⟩ hY F (fun w H a ns hl _ hS => law_sp hS) fun _ _ _ _ _ z => by
    obtain ⟨_, _, _, _, _, _, _, _, _, _, _, _, z⟩ := z
    exact z
end DL
open PySem PySem.W PyProof.Rows
set_option maxRecDepth 100000 in
set_option maxHeartbeats 0 in
theorem PySem.Challenge.cw_onepurse_k04_whole_rows_gone_again_and_a_holds : PySem.Challenge.rw_onepurse_k04_whole_rows_gone_again_and_a.Holds := by
  w_on; o_law; k_head; (case hw => w_witness2)
  k_fill
  refine DL.walk (l := PySem.Challenge.rw_onepurse_k04_whole_rows_gone_again_and_a) rfl rfl (fun w h Y => PySem.W.kIn_of Y) ?F
  case F =>
    intro w mg fa h KX G hmg
    refine' DL.all_mk KX G hmg ?a0 ?l0 ?c0 ?k0 ?a1 ?l1 ?c1 ?k1 ?a2 ?l2 ?c2 ?k2 ?a3 ?l3 ?c3 ?k3 ?a4 ?l4 ?c4 ?k4 ?a5 ?l5 ?c5 ?k5 ?a6 ?l6 ?c6 ?k6 ?a7 ?l7 ?c7 ?k7 ?a8 ?l8 ?c8 ?k8 ?a9 ?l9 ?c9 ?k9 ?a10 ?l10 ?c10 ?k10 ?a11 ?l11 ?c11 ?k11 ?a12 ?l12 ?c12 ?k12 ?a13 ?l13 ?c13 ?k13 ?a14 ?l14 ?c14 ?k14 ?ta0 ?tl0 ?tv0 ?tz0 ?ta1 ?tl1 ?tv1 ?tz1 ?da0 ?dl0 ?dk0 ?dv0_0 ?dv0_1 ?dv0_2 ?dv0_3 ?dv0_4 ?dv0_5 ?dv0_6 ?z0 ?z1 ?z2 ?z3 ?z4 ?z5 ?z6 ?z7 ?z8 ?z9 ?z10
    (case a0 => k_is)
    (case l0 => k_is)
    (case c0 => k_is)
    (case k0 => k_is)
    (case a1 => k_is)
    (case l1 => k_is)
    (case c1 => k_is)
    (case k1 => k_is)
    (case a2 => k_is)
    (case l2 => k_is)
    (case c2 => k_is)
    (case k2 => k_is)
    (case a3 => k_is)
    (case l3 => k_is)
    (case c3 => k_is)
    (case k3 => k_is)
    (case a4 => k_is)
    (case l4 => k_is)
    (case c4 => k_is)
    (case k4 => k_is)
    (case a5 => k_is)
    (case l5 => k_is)
    (case c5 => k_is)
    (case k5 => k_is)
    (case a6 => k_is)
    (case l6 => k_is)
    (case c6 => k_is)
    (case k6 => k_is)
    (case a7 => k_is)
    (case l7 => k_is)
    (case c7 => k_is)
    (case k7 => k_is)
    (case a8 => k_is)
    (case l8 => k_is)
    (case c8 => k_is)
    (case k8 => k_is)
    (case a9 => k_is)
    (case l9 => k_is)
    (case c9 => k_is)
    (case k9 => k_is)
    (case a10 => k_is)
    (case l10 => k_is)
    (case c10 => k_is)
    (case k10 => k_is)
    (case a11 => k_is)
    (case l11 => k_is)
    (case c11 => k_is)
    (case k11 => k_is)
    (case a12 => k_is)
    (case l12 => k_is)
    (case c12 => k_is)
    (case k12 => k_is)
    (case a13 => k_is)
    (case l13 => k_is)
    (case c13 => k_is)
    (case k13 => k_is)
    (case a14 => k_is)
    (case l14 => k_is)
    (case c14 => k_is)
    (case k14 => k_is)
    (case ta0 => k_is)
    (case tl0 => k_is)
    (case tv0 => repeat first | exact .nil | refine .cons ⟨_, rfl⟩ ?_)
    (case tz0 => decide)
    (case ta1 => k_is)
    (case tl1 => k_is)
    (case tv1 => repeat first | exact .nil | refine .cons ⟨_, rfl⟩ ?_)
    (case tz1 => decide)
    (case da0 => k_is)
    (case dl0 => k_is)
    (case dk0 => repeat first | exact trivial | refine ⟨⟨_, _, rfl, rfl⟩, ?_⟩)
    (case dv0_0 => k_is)
    (case dv0_1 => k_is)
    (case dv0_2 => k_is)
    (case dv0_3 => k_is)
    (case dv0_4 => k_is)
    (case dv0_5 => k_is)
    (case dv0_6 => k_is)
    (case z0 => k_is)
    (case z1 => k_is)
    (case z2 => k_is)
    (case z3 => k_is)
    (case z4 => k_is)
    (case z5 => k_is)
    (case z6 => k_is)
    (case z7 => k_is)
    (case z8 => k_is)
    (case z9 => k_is)
    (case z10 => k_is)

