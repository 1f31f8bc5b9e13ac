import PyProof.Rows.All
import Wide.All
import OpenK.AllK
import Wide.FinOn
import HandS.ForMost
import HandS.ForExc
import HandS.More
import HandS.Lambda
import HandS.Style
import HandS.Wide
import HandS.Deep
import HandS.TupAny
import HandS.StrMore
import HandS.ExcOwn
import HandS.CallSlots
import HandS.Zip
import HandS.ExcInitHot
import HandS.Text
import HandS.Conv
import HandS.IsInst
import HandS.Dict
import HandS.ExcInit
import HandS.Flow
import HandS.HotCalls
import HandS.Comp
import HandS.ExcIs
import HandS.ExcField
import KE.KDflt
import KE.KMinKey
import PySem.Challenge.RW_onepurse_k21_steady_tables_raised
import HandS.EndTab
set_option Elab.async false
set_option linter.all false
set_option maxRecDepth 100000
set_option maxHeartbeats 4000000
/-! DA: data without a heap (D), how the abstract heap bears it (Rep), the state of a frame by data (Rl). -/
namespace DL
open PySem L2

/-- data: what a value stands for, read down to the ground -/
inductive D where
  | non | bl (b : Bool) | int (i : Int) | str (s : Str)
  | tup (xs : List D) | lst (xs : List D)
  | obj (k : Nat) (fs : List (Str × D))
  | kd (kvs : List (Str × D))
  | scr (ns : List Int)
/-- a flat thing's value -/
def fv : D → V
  | .non => .non
  | .bl b => .bl b
  | .int i => .int i
  | .str s => .str s
  | _ => .ty ""

/-- the written part of the world that data may speak of: the classes by number -/
structure Gd where
  K : PySem.W.Frag
  w : World
  cl : Nat → Addr
  /-- the tables of code objects that lambdas are written to, with the names of their code objects -/
  ts : List (Addr × Str)

abbrev Le (F H : Hp) : Prop := ∀ a o, F a = some o → H a = some o

mutual
def Rep (G : Gd) (F : Hp) : V → D → Prop
  | v, .non => v = .non
  | v, .bl b => v = .bl b
  | v, .int i => v = .int i
  | v, .str s => v = .str s
  | v, .tup xs => ∃ a vs, v = .ref a ∧ SqT G.K F a vs ∧ RepL G F vs xs
  | v, .lst xs => ∃ a vs, v = .ref a ∧ F a = some (.lst vs) ∧ RepL G F vs xs
  | v, .obj k fs => ∃ a dx vs, v = .ref a ∧ F a = some (.ins (G.cl k) dx vs) ∧ RepF G F vs fs
  | v, .kd kvs => ∃ a, v = .ref a ∧ ∀ x d, kvs.lookup x = some d → KDct G.K G.w a x (fv d)
  | v, .scr ns => ∃ a, v = .ref a ∧ SqL G.K F a (ns.map V.int)
def RepL (G : Gd) (F : Hp) : List V → List D → Prop
  | vs, [] => vs = []
  | vs, d :: ds => ∃ v r, vs = v :: r ∧ Rep G F v d ∧ RepL G F r ds
def RepF (G : Gd) (F : Hp) : List (Str × V) → List (Str × D) → Prop
  | vs, [] => vs = []
  | vs, (x, d) :: ds => ∃ v r, vs = (x, v) :: r ∧ Rep G F v d ∧ RepF G F r ds
end

section
variable {G : Gd} {F F' H : Hp}
theorem sqT_mono {K : PySem.W.Frag} (h : Le F F') {a : Addr} {vs : List V} (q : SqT K F a vs) : SqT K F' a vs := by
  rcases q with (q | ⟨o, q⟩) | q
  · exact .inl (.inl (h _ _ q))
  · exact .inl (.inr ⟨o, h _ _ q⟩)
  · exact .inr q
theorem sqL_mono {K : PySem.W.Frag} (h : Le F F') {a : Addr} {vs : List V} (q : SqL K F a vs) : SqL K F' a vs := by
  rcases q with (q | ⟨o, q⟩) | q
  · exact .inl (.inl (h _ _ q))
  · exact .inl (.inr ⟨o, h _ _ q⟩)
  · exact .inr q
mutual
theorem Rep.mono (h : Le F F') : ∀ (d : D) (v : V), Rep G F v d → Rep G F' v d
  | .non, v, r => by simpa only [Rep] using r
  | .bl b, v, r => by simpa only [Rep] using r
  | .int i, v, r => by simpa only [Rep] using r
  | .str s, v, r => by simpa only [Rep] using r
  | .tup xs, v, r => by
    simp only [Rep] at r ⊢
    obtain ⟨a, vs, e, q, l⟩ := r
    exact ⟨a, vs, e, sqT_mono h q, RepL.mono h xs vs l⟩
  | .lst xs, v, r => by
    simp only [Rep] at r ⊢
    obtain ⟨a, vs, e, q, l⟩ := r
    exact ⟨a, vs, e, h _ _ q, RepL.mono h xs vs l⟩
  | .obj k fs, v, r => by
    simp only [Rep] at r ⊢
    obtain ⟨a, dx, vs, e, q, l⟩ := r
    exact ⟨a, dx, vs, e, h _ _ q, RepF.mono h fs vs l⟩
  | .kd kvs, v, r => by simpa only [Rep] using r
  | .scr ns, v, r => by
    simp only [Rep] at r ⊢
    obtain ⟨a, e, q⟩ := r
    exact ⟨a, e, sqL_mono h q⟩
theorem RepL.mono (h : Le F F') : ∀ (ds : List D) (vs : List V), RepL G F vs ds → RepL G F' vs ds
  | [], vs, r => by simpa only [RepL] using r
  | d :: ds, vs, r => by
    simp only [RepL] at r ⊢
    obtain ⟨v, s, e, r1, r2⟩ := r
    exact ⟨v, s, e, Rep.mono h d v r1, RepL.mono h ds s r2⟩
theorem RepF.mono (h : Le F F') : ∀ (fs : List (Str × D)) (vs : List (Str × V)), RepF G F vs fs → RepF G F' vs fs
  | [], vs, r => by simpa only [RepF] using r
  | (x, d) :: ds, vs, r => by
    simp only [RepF] at r ⊢
    obtain ⟨v, s, e, r1, r2⟩ := r
    exact ⟨v, s, e, Rep.mono h d v r1, RepF.mono h ds s r2⟩
end
theorem RepL.nil : RepL G F [] [] := by simp only [RepL]
theorem RepL.cons {v : V} {d : D} {vs : List V} {ds : List D} (a : Rep G F v d) (b : RepL G F vs ds) : RepL G F (v :: vs) (d :: ds) := by
  simp only [RepL]
  exact ⟨v, vs, rfl, a, b⟩
theorem RepL.inv {vs : List V} {d : D} {ds : List D} (h : RepL G F vs (d :: ds)) : ∃ v r, vs = v :: r ∧ Rep G F v d ∧ RepL G F r ds := by
  simpa only [RepL] using h
theorem RepL.nil_inv {vs : List V} (h : RepL G F vs []) : vs = [] := by simpa only [RepL] using h
theorem RepL.length : ∀ {ds : List D} {vs : List V}, RepL G F vs ds → vs.length = ds.length
  | [], vs, h => by rw [RepL.nil_inv h]; rfl
  | d :: ds, vs, h => by
    obtain ⟨v, r, e, _, l⟩ := RepL.inv h
    rw [e, List.length_cons, List.length_cons, RepL.length l]
theorem RepL.append : ∀ {ds es : List D} {vs us : List V}, RepL G F vs ds → RepL G F us es → RepL G F (vs ++ us) (ds ++ es)
  | [], es, vs, us, h, k => by rw [RepL.nil_inv h]; exact k
  | d :: ds, es, vs, us, h, k => by
    obtain ⟨v, r, e, a, l⟩ := RepL.inv h
    rw [e]
    exact RepL.cons a (RepL.append l k)
theorem RepL.get : ∀ {ds : List D} {vs : List V} {i : Nat} {d : D}, RepL G F vs ds → ds[i]? = some d → ∃ v, vs[i]? = some v ∧ Rep G F v d
  | [], vs, i, d, h, e => by simp at e
  | d :: ds, vs, 0, d', h, e => by
    obtain ⟨v, r, e', a, l⟩ := RepL.inv h
    simp at e
    subst e
    exact ⟨v, by rw [e']; rfl, a⟩
  | d :: ds, vs, i + 1, d', h, e => by
    obtain ⟨v, r, e', a, l⟩ := RepL.inv h
    obtain ⟨v', q, s⟩ := RepL.get (i := i) l (by simpa using e)
    exact ⟨v', by rw [e']; simpa using q, s⟩
theorem RepL.set : ∀ {ds : List D} {vs : List V} (i : Nat) {d : D} {v : V}, RepL G F vs ds → Rep G F v d → RepL G F (vs.set i v) (ds.set i d)
  | [], vs, i, d, v, h, q => by rw [RepL.nil_inv h]; exact RepL.nil
  | d :: ds, vs, 0, d', v', h, q => by
    obtain ⟨v, r, e', a, l⟩ := RepL.inv h
    rw [e']
    exact RepL.cons q l
  | d :: ds, vs, i + 1, d', v', h, q => by
    obtain ⟨v, r, e', a, l⟩ := RepL.inv h
    rw [e']
    exact RepL.cons a (RepL.set i l q)
theorem RepL.drop : ∀ {ds : List D} {vs : List V} (n : Nat), RepL G F vs ds → RepL G F (vs.drop n) (ds.drop n)
  | [], vs, n, h => by rw [RepL.nil_inv h, List.drop_nil, List.drop_nil]; exact RepL.nil
  | d :: ds, vs, 0, h => h
  | d :: ds, vs, n + 1, h => by
    obtain ⟨v, r, e', a, l⟩ := RepL.inv h
    rw [e']
    exact RepL.drop n l
theorem RepL.take : ∀ {ds : List D} {vs : List V} (n : Nat), RepL G F vs ds → RepL G F (vs.take n) (ds.take n)
  | [], vs, n, h => by rw [RepL.nil_inv h, List.take_nil, List.take_nil]; exact RepL.nil
  | d :: ds, vs, 0, h => RepL.nil
  | d :: ds, vs, n + 1, h => by
    obtain ⟨v, r, e', a, l⟩ := RepL.inv h
    rw [e']
    exact RepL.cons a (RepL.take n l)
theorem RepL.of_map {α : Type} {f : α → V} {g : α → D} (h : ∀ a, Rep G F (f a) (g a)) : ∀ l : List α, RepL G F (l.map f) (l.map g)
  | [] => RepL.nil
  | a :: l => RepL.cons (h a) (RepL.of_map h l)
theorem Rep.int' (i : Int) : Rep G F (.int i) (.int i) := by simp only [Rep]
theorem Rep.str' (s : Str) : Rep G F (.str s) (.str s) := by simp only [Rep]
theorem Rep.bl' (b : Bool) : Rep G F (.bl b) (.bl b) := by simp only [Rep]
theorem Rep.non' : Rep G F .non .non := by simp only [Rep]
theorem Rep.lst' {a : Addr} {vs : List V} {xs : List D} (h : F a = some (.lst vs)) (l : RepL G F vs xs) : Rep G F (.ref a) (.lst xs) := by
  simp only [Rep]
  exact ⟨a, vs, rfl, h, l⟩
theorem Rep.tup' {a : Addr} {vs : List V} {xs : List D} (h : SqT G.K F a vs) (l : RepL G F vs xs) : Rep G F (.ref a) (.tup xs) := by
  simp only [Rep]
  exact ⟨a, vs, rfl, h, l⟩
theorem RepL.ints : ∀ {ns : List Int} {vs : List V}, RepL G F vs (ns.map D.int) → vs = ns.map V.int
  | [], vs, h => RepL.nil_inv h
  | n :: ns, vs, h => by
    obtain ⟨v, r, e, a, l⟩ := RepL.inv h
    rw [e, RepL.ints l]
    simp only [Rep] at a
    rw [a]; rfl
theorem RepL.strs : ∀ {ns : List Str} {vs : List V}, RepL G F vs (ns.map D.str) → vs = ns.map V.str
  | [], vs, h => RepL.nil_inv h
  | n :: ns, vs, h => by
    obtain ⟨v, r, e, a, l⟩ := RepL.inv h
    rw [e, RepL.strs l]
    simp only [Rep] at a
    rw [a]; rfl
theorem RepL.bls : ∀ {ns : List Bool} {vs : List V}, RepL G F vs (ns.map D.bl) → vs = ns.map V.bl
  | [], vs, h => RepL.nil_inv h
  | n :: ns, vs, h => by
    obtain ⟨v, r, e, a, l⟩ := RepL.inv h
    rw [e, RepL.bls l]
    simp only [Rep] at a
    rw [a]; rfl
end

/-! ### the slots of a frame by data -/
/-- a slot: nothing known; frozen data; a list of the frame's own (b: handed in, to be changed for the caller) -/
inductive Sl where
  | no | fz (d : D) | ow (b : Bool) (xs : List D)
abbrev Rho := List Sl

/-- the world of one run of a def: the written part, the heaps at its entry (frozen, whole), the addresses of what was handed in to be changed, cells that are held aside -/
structure Wd where
  G : Gd
  F0 : Hp
  H0 : Hp
  par : Nat → Option Addr
  fr : Addr → Option HO

def SlOk (w : Wd) (F H : Hp) (i : Nat) (o : Option (Option V)) : Sl → Prop
  | .no => True
  | .fz d => ∃ v, o = some (some v) ∧ Rep w.G F v d
  | .ow b xs => ∃ a vs, o = some (some (V.ref a)) ∧ H a = some (.lst vs) ∧ RepL w.G F vs xs ∧ F a = none ∧ w.fr a = none ∧ (if b = true then w.par i = some a else w.H0 a = none)

/-- no slot owns the address -/
def Free (σ : St) (ρ : Rho) (p : Addr) : Prop := ∀ (i : Nat) (b : Bool) (xs : List D), ρ[i]? = some (Sl.ow b xs) → σ[i]? ≠ some (some (V.ref p))

structure Rl (w : Wd) (F H : Hp) (σ : St) (ρ : Rho) : Prop where
  len : σ.length = ρ.length
  le : Le F H
  f0 : Le w.F0 F
  kp : ∀ a o, w.H0 a = some o → (∀ i, w.par i ≠ some a) → H a = some o
  al : ∀ a, H a = none → w.H0 a = none
  nf : ∀ a, w.H0 a ≠ none → w.F0 a = none → F a = none
  sl : ∀ (i : Nat) (s : Sl), ρ[i]? = some s → SlOk w F H i σ[i]? s
  pr : ∀ (i : Nat) (a : Addr), w.par i = some a → ∃ xs, ρ[i]? = some (Sl.ow true xs)
  dj : ∀ (i j : Nat) (a : Addr) (b c : Bool) (xs ys : List D), ρ[i]? = some (Sl.ow b xs) → ρ[j]? = some (Sl.ow c ys) → σ[i]? = some (some (V.ref a)) → σ[j]? = some (some (V.ref a)) → i = j
  fx : ∀ a o, w.fr a = some o → H a = some o ∧ F a = none
  tb : ∀ q, q ∈ w.G.ts → LamX.TabS H q.1 q.2 ∧ F q.1 = none ∧ w.fr q.1 = none ∧ w.H0 q.1 = none

/-- the heaps grow: what stood stands, newly frozen is what is new -/
structure Grow (F H F' H' : Hp) : Prop where
  fm : Le F F'
  hm : Le H H'
  le : Le F' H'
  nf : ∀ a, H a ≠ none → F a = none → F' a = none
theorem Grow.refl {F H : Hp} (h : Le F H) : Grow F H F H := ⟨fun _ _ e => e, fun _ _ e => e, h, fun _ _ e => e⟩
theorem ne_none_mono {H H' : Hp} (h : Le H H') {a : Addr} (n : H a ≠ none) : H' a ≠ none := by
  cases e : H a with
  | none => exact absurd e n
  | some o => rw [h a o e]; simp
theorem Grow.trans {F H F1 H1 F2 H2 : Hp} (a : Grow F H F1 H1) (b : Grow F1 H1 F2 H2) : Grow F H F2 H2 :=
  ⟨fun c o e => b.fm c o (a.fm c o e), fun c o e => b.hm c o (a.hm c o e), b.le, fun c h n => b.nf c (ne_none_mono a.hm h) (a.nf c h n)⟩
/-- the heap without the tables -/
def delT (ts : List (Addr × Str)) (H : Hp) : Hp := fun b => if ts.any (fun q => q.1 == b) = true then none else H b
theorem delT_ne {ts : List (Addr × Str)} {H : Hp} {b : Addr} (h : ∀ q ∈ ts, q.1 ≠ b) : delT ts H b = H b := by
  unfold delT
  rw [if_neg]
  intro z
  obtain ⟨q, hq, e⟩ := List.any_eq_true.mp z
  exact h q hq (eq_of_beq e)
theorem delT_in {ts : List (Addr × Str)} {H : Hp} {q : Addr × Str} (h : q ∈ ts) : delT ts H q.1 = none := by
  unfold delT
  rw [if_pos]
  exact List.any_eq_true.mpr ⟨q, h, beq_self_eq_true _⟩
theorem delT_some {ts : List (Addr × Str)} {H : Hp} {b : Addr} {o : HO} (h : delT ts H b = some o) : H b = some o ∧ ∀ q ∈ ts, q.1 ≠ b := by
  unfold delT at h
  split at h
  · cases h
  · rename_i n
    exact ⟨h, fun q hq e => n (List.any_eq_true.mpr ⟨q, hq, by rw [e]; exact beq_self_eq_true _⟩)⟩
/-- the tables stand, unfrozen -/
def TabsOk (ts : List (Addr × Str)) (F H : Hp) : Prop := ∀ q ∈ ts, LamX.TabS H q.1 q.2 ∧ F q.1 = none
/-- a new object, known only to the whole heap -/
theorem Grow.alloc {F H : Hp} (h : Le F H) {p : Addr} (n : H p = none) (o : HO) : Grow F H F (upd H p o) :=
  ⟨fun _ _ e => e, fun b u e => by rw [upd_ne (ne_of_none e n)]; exact e, fun b u e => by rw [upd_ne (ne_of_none (h b u e) n)]; exact h b u e, fun _ _ e => e⟩
theorem le_none {F H : Hp} (h : Le F H) {p : Addr} (n : H p = none) : F p = none := by
  cases e : F p with
  | none => rfl
  | some o => rw [h p o e] at n; cases n
/-- a new frozen object -/
theorem Grow.new {F H : Hp} (h : Le F H) {p : Addr} (n : H p = none) (o : HO) : Grow F H (upd F p o) (upd H p o) := by
  have nf := le_none h n
  refine ⟨fun b u e => ?_, fun b u e => ?_, fun b u e => ?_, fun b hb e => ?_⟩
  · rw [upd_ne (ne_of_none e nf)]; exact e
  · rw [upd_ne (ne_of_none e n)]; exact e
  · by_cases hb : b = p
    · subst hb; rw [upd_same] at e ⊢; exact e
    · rw [upd_ne hb] at e ⊢; exact h b u e
  · rw [upd_ne (fun z => hb (by rw [z]; exact n))]; exact e
/-- a cell that is not frozen yet is frozen -/
theorem le_freeze {F H : Hp} (h : Le F H) {p : Addr} {o : HO} (e : H p = some o) : Le (upd F p o) H := fun b u q => by
  by_cases hb : b = p
  · subst hb; rw [upd_same] at q; rw [e]; exact q
  · rw [upd_ne hb] at q; exact h b u q
theorem le_upd {F : Hp} {p : Addr} {o : HO} (n : F p = none) : Le F (upd F p o) := fun b u q => by rw [upd_ne (ne_of_none q n)]; exact q

section
variable {w : Wd} {F H F' H' : Hp} {σ : St} {ρ : Rho}
theorem Rl.hnone (r : Rl w F H σ ρ) {a : Addr} (h : w.H0 a ≠ none) : H a ≠ none := fun e => h (r.al a e)
theorem SlOk.grow {i : Nat} {o : Option (Option V)} {s : Sl} (g : Grow F H F' H') (h : SlOk w F H i o s) : SlOk w F' H' i o s := by
  cases s with
  | no => exact h
  | fz d =>
    obtain ⟨v, e, q⟩ := h
    exact ⟨v, e, q.mono g.fm⟩
  | ow b xs =>
    obtain ⟨a, vs, e, ha, l, n, f, c⟩ := h
    exact ⟨a, vs, e, g.hm _ _ ha, l.mono g.fm, g.nf a (by rw [ha]; simp) n, f, c⟩
theorem Rl.grow (r : Rl w F H σ ρ) (g : Grow F H F' H') : Rl w F' H' σ ρ where
  len := r.len
  le := g.le
  f0 := fun a o e => g.fm _ _ (r.f0 a o e)
  kp := fun a o e n => g.hm _ _ (r.kp a o e n)
  al := fun a e => r.al a (by
    cases q : H a with
    | none => rfl
    | some o => rw [g.hm a o q] at e; cases e)
  nf := fun a h n => g.nf a (r.hnone h) (r.nf a h n)
  sl := fun i s e => (r.sl i s e).grow g
  pr := r.pr
  dj := r.dj
  fx := fun a o e => ⟨g.hm _ _ (r.fx a o e).1, g.nf a (by rw [(r.fx a o e).1]; simp) (r.fx a o e).2⟩
  tb := fun q e => ⟨(r.tb q e).1.ext g.hm, g.nf _ (by obtain ⟨_, z, _⟩ := (r.tb q e).1; rw [z]; simp) (r.tb q e).2.1, (r.tb q e).2.2⟩
theorem Rl.noTab (r : Rl w F H σ ρ) {a : Addr} {o : HO} (e : H a = some o) (n : ∀ ps, o ≠ .tbl ps) : ∀ q ∈ w.G.ts, q.1 ≠ a := fun q hq z => by
  obtain ⟨⟨ps, e', _⟩, _⟩ := r.tb q hq
  rw [z, e] at e'
  exact n ps (Option.some.inj e')
/-- what stood stands, but for the tables -/
structure GrowT (ts : List (Addr × Str)) (F H F' H' : Hp) : Prop where
  fm : Le F F'
  hm : ∀ a o, H a = some o → (∀ q ∈ ts, q.1 ≠ a) → H' a = some o
  al : ∀ a, H' a = none → H a = none
  le : Le F' H'
  nf : ∀ a, H a ≠ none → F a = none → F' a = none
  tb : ∀ q ∈ ts, LamX.TabS H' q.1 q.2
theorem Rl.growT (r : Rl w F H σ ρ) (g : GrowT w.G.ts F H F' H') : Rl w F' H' σ ρ where
  len := r.len
  le := g.le
  f0 := fun a o e => g.fm _ _ (r.f0 a o e)
  kp := fun a o e n => g.hm _ _ (r.kp a o e n) fun q hq z => by
    rw [← z, (r.tb q hq).2.2.2] at e; cases e
  al := fun a e => r.al a (g.al a e)
  nf := fun a h n => g.nf a (r.hnone h) (r.nf a h n)
  sl := fun i s e => by
    have k := r.sl i s e
    cases s with
    | no => exact k
    | fz d =>
      obtain ⟨v, e, q⟩ := k
      exact ⟨v, e, q.mono g.fm⟩
    | ow b xs =>
      obtain ⟨a, vs, e, ha, l, n, f, c⟩ := k
      exact ⟨a, vs, e, g.hm _ _ ha (r.noTab ha (fun ps z => by cases z)), l.mono g.fm, g.nf a (by rw [ha]; simp) n, f, c⟩
  pr := r.pr
  dj := r.dj
  fx := fun a o e => ⟨g.hm _ _ (r.fx a o e).1 (fun q hq z => by rw [← z, (r.tb q hq).2.2.1] at e; cases e), g.nf a (by rw [(r.fx a o e).1]; simp) (r.fx a o e).2⟩
  tb := fun q e => ⟨g.tb q e, g.nf _ (by obtain ⟨_, z, _⟩ := (r.tb q e).1; rw [z]; simp) (r.tb q e).2.1, (r.tb q e).2.2⟩
/-- a new frozen value in slot i -/
theorem Rl.set (r : Rl w F H σ ρ) {i : Nat} {v : V} {d : D} (hp : w.par i = none) (q : Rep w.G F v d) : Rl w F H (σ.set i (some v)) (ρ.set i (Sl.fz d)) where
  len := by rw [List.length_set, List.length_set]; exact r.len
  le := r.le
  f0 := r.f0
  kp := r.kp
  al := r.al
  nf := r.nf
  sl := fun j s e => by
    by_cases hj : i = j
    · subst hj
      have hl : i < ρ.length := by
        have := (List.getElem?_eq_some_iff.mp e).1
        rwa [List.length_set] at this
      rw [List.getElem?_set_self hl] at e
      cases e
      exact ⟨v, List.getElem?_set_self (by rw [r.len]; exact hl), q⟩
    · rw [List.getElem?_set_ne hj] at e ⊢
      exact r.sl j s e
  pr := fun j a e => by
    have hj : i ≠ j := fun z => by subst z; rw [hp] at e; cases e
    rw [List.getElem?_set_ne hj]
    exact r.pr j a e
  dj := fun j k a b c xs ys e1 e2 e3 e4 => by
    have h1 : i ≠ j := fun z => by
      subst z
      have hl : i < ρ.length := by
        have := (List.getElem?_eq_some_iff.mp e1).1
        rwa [List.length_set] at this
      rw [List.getElem?_set_self hl] at e1; cases e1
    have h2 : i ≠ k := fun z => by
      subst z
      have hl : i < ρ.length := by
        have := (List.getElem?_eq_some_iff.mp e2).1
        rwa [List.length_set] at this
      rw [List.getElem?_set_self hl] at e2; cases e2
    rw [List.getElem?_set_ne h1] at e1 e3
    rw [List.getElem?_set_ne h2] at e2 e4
    exact r.dj j k a b c xs ys e1 e2 e3 e4
  fx := r.fx
  tb := r.tb
/-- a list of the frame's own in slot i -/
theorem Rl.setow (r : Rl w F H σ ρ) {i : Nat} {p : Addr} {vs : List V} {xs : List D} (hp : w.par i = none) (ha : H p = some (.lst vs)) (l : RepL w.G F vs xs) (hF : F p = none) (h0 : w.H0 p = none) (hf : w.fr p = none)
    (fr : Free σ ρ p) : Rl w F H (σ.set i (some (V.ref p))) (ρ.set i (Sl.ow false xs)) where
  len := by rw [List.length_set, List.length_set]; exact r.len
  le := r.le
  f0 := r.f0
  kp := r.kp
  al := r.al
  nf := r.nf
  sl := fun j s e => by
    by_cases hj : i = j
    · subst hj
      have hl : i < ρ.length := by
        have := (List.getElem?_eq_some_iff.mp e).1
        rwa [List.length_set] at this
      rw [List.getElem?_set_self hl] at e
      cases e
      exact ⟨p, vs, List.getElem?_set_self (by rw [r.len]; exact hl), ha, l, hF, hf, h0⟩
    · rw [List.getElem?_set_ne hj] at e ⊢
      exact r.sl j s e
  pr := fun j a e => by
    have hj : i ≠ j := fun z => by subst z; rw [hp] at e; cases e
    rw [List.getElem?_set_ne hj]
    exact r.pr j a e
  dj := fun j k a b c xs' ys e1 e2 e3 e4 => by
    have lt : ∀ {s}, (ρ.set i s)[j]? = some (Sl.ow b xs') → j < ρ.length := fun {s} e => by
      have := (List.getElem?_eq_some_iff.mp e).1
      rwa [List.length_set] at this
    have lt2 : ∀ {s}, (ρ.set i s)[k]? = some (Sl.ow c ys) → k < ρ.length := fun {s} e => by
      have := (List.getElem?_eq_some_iff.mp e).1
      rwa [List.length_set] at this
    by_cases h1 : i = j
    · by_cases h2 : i = k
      · exact h1.symm.trans h2
      · subst h1
        rw [List.getElem?_set_self (by rw [r.len]; exact lt e1)] at e3
        have ea : p = a := by injection e3 with e3; injection e3 with e3; injection e3
        subst ea
        rw [List.getElem?_set_ne h2] at e2 e4
        exact absurd e4 (fr k c ys e2)
    · by_cases h2 : i = k
      · subst h2
        rw [List.getElem?_set_self (by rw [r.len]; exact lt2 e2)] at e4
        have ea : p = a := by injection e4 with e4; injection e4 with e4; injection e4
        subst ea
        rw [List.getElem?_set_ne h1] at e1 e3
        exact absurd e3 (fr j b xs' e1)
      · rw [List.getElem?_set_ne h1] at e1 e3
        rw [List.getElem?_set_ne h2] at e2 e4
        exact r.dj j k a b c xs' ys e1 e2 e3 e4
  fx := r.fx
  tb := r.tb
/-- a slot is forgotten (nothing handed in) -/
theorem Rl.wipe (r : Rl w F H σ ρ) {i : Nat} {o : Option V} (hp : w.par i = none) : Rl w F H (σ.set i o) (ρ.set i .no) where
  len := by rw [List.length_set, List.length_set]; exact r.len
  le := r.le
  f0 := r.f0
  kp := r.kp
  al := r.al
  nf := r.nf
  sl := fun j s e => by
    by_cases hj : i = j
    · subst hj
      have hl : i < ρ.length := by
        have := (List.getElem?_eq_some_iff.mp e).1
        rwa [List.length_set] at this
      rw [List.getElem?_set_self hl] at e
      cases e
      exact True.intro
    · rw [List.getElem?_set_ne hj] at e ⊢
      exact r.sl j s e
  pr := fun j a e => by
    have hj : i ≠ j := fun z => by subst z; rw [hp] at e; cases e
    rw [List.getElem?_set_ne hj]
    exact r.pr j a e
  dj := fun j k a b c xs ys e1 e2 e3 e4 => by
    have h1 : i ≠ j := fun z => by
      subst z
      have hl : i < ρ.length := by
        have := (List.getElem?_eq_some_iff.mp e1).1
        rwa [List.length_set] at this
      rw [List.getElem?_set_self hl] at e1; cases e1
    have h2 : i ≠ k := fun z => by
      subst z
      have hl : i < ρ.length := by
        have := (List.getElem?_eq_some_iff.mp e2).1
        rwa [List.length_set] at this
      rw [List.getElem?_set_self hl] at e2; cases e2
    rw [List.getElem?_set_ne h1] at e1 e3
    rw [List.getElem?_set_ne h2] at e2 e4
    exact r.dj j k a b c xs ys e1 e2 e3 e4
  fx := r.fx
  tb := r.tb
theorem tab_ne {P a : Addr} {q : Str} {vs : List V} (t : LamX.TabS H P q) (ha : H a = some (.lst vs)) : P ≠ a := fun z => by
  obtain ⟨ps, e, _⟩ := t
  rw [z, ha] at e
  cases e
theorem tab_write {P a : Addr} {q : Str} {vs us : List V} (t : LamX.TabS H P q) (ha : H a = some (.lst vs)) : LamX.TabS (upd H a (.lst us)) P q := by
  have ne := tab_ne t ha
  obtain ⟨ps, e, tr, k⟩ := t
  refine ⟨ps, by rw [upd_ne ne]; exact e, tr, fun p cv hc => ?_⟩
  obtain ⟨c, e1, e2⟩ := k p cv hc
  have nc : c ≠ a := fun z => by
    rw [z, ha] at e2
    unfold LamX.CodeO at e2
    cases e2
  exact ⟨c, e1, by rw [upd_ne nc]; exact e2⟩
/-- the frame's own list in slot i is frozen -/
theorem Rl.freeze (r : Rl w F H σ ρ) {i : Nat} {xs : List D} (e : ρ[i]? = some (Sl.ow false xs)) :
    ∃ (a : Addr) (vs : List V), σ[i]? = some (some (V.ref a)) ∧ H a = some (.lst vs) ∧ F a = none ∧ Rep w.G (upd F a (.lst vs)) (.ref a) (.lst xs) ∧ Rl w (upd F a (.lst vs)) H σ (ρ.set i (Sl.fz (.lst xs))) := by
  obtain ⟨a, vs, es, ha, l, n, f, c⟩ := r.sl i _ e
  have c : w.H0 a = none := by simpa using c
  have hl : i < ρ.length := (List.getElem?_eq_some_iff.mp e).1
  have fm : Le F (upd F a (.lst vs)) := le_upd n
  have hpar : w.par i = none := by
    cases q : w.par i with
    | none => rfl
    | some b =>
      obtain ⟨ys, z⟩ := r.pr i b q
      rw [e] at z; cases z
  have rp : Rep w.G (upd F a (.lst vs)) (.ref a) (.lst xs) := Rep.lst' upd_same (l.mono fm)
  refine ⟨a, vs, es, ha, n, rp, ?_⟩
  refine ⟨by rw [List.length_set]; exact r.len, le_freeze r.le ha, fun b o q => fm _ _ (r.f0 b o q), r.kp, r.al, fun b h q => ?_, fun j s q => ?_, fun j b q => ?_, fun j k b c1 c2 ys zs e1 e2 e3 e4 => ?_, fun b o q => ?_, fun q e => ⟨(r.tb q e).1, by rw [upd_ne (tab_ne (r.tb q e).1 ha)]; exact (r.tb q e).2.1, (r.tb q e).2.2⟩⟩
  · rw [upd_ne (fun z => h (by rw [z]; exact c))]
    exact r.nf b h q
  · by_cases hj : i = j
    · subst hj
      rw [List.getElem?_set_self hl] at q
      cases q
      exact ⟨.ref a, es, rp⟩
    · rw [List.getElem?_set_ne hj] at q
      have z := r.sl j s q
      cases s with
      | no => exact z
      | fz d =>
        obtain ⟨v, e', q'⟩ := z
        exact ⟨v, e', q'.mono fm⟩
      | ow b ys =>
        obtain ⟨a', vs', e', ha', l', n', f', c'⟩ := z
        have ne : a' ≠ a := fun y => hj (r.dj i j a false b xs ys e q es (by rw [← y]; exact e'))
        exact ⟨a', vs', e', ha', l'.mono fm, by rw [upd_ne ne]; exact n', f', c'⟩
  · have hj : i ≠ j := fun z => by subst z; rw [hpar] at q; cases q
    rw [List.getElem?_set_ne hj]
    exact r.pr j b q
  · have h1 : i ≠ j := fun z => by
      subst z
      rw [List.getElem?_set_self hl] at e1; cases e1
    have h2 : i ≠ k := fun z => by
      subst z
      rw [List.getElem?_set_self hl] at e2; cases e2
    rw [List.getElem?_set_ne h1] at e1
    rw [List.getElem?_set_ne h2] at e2
    exact r.dj j k b c1 c2 ys zs e1 e2 e3 e4
  · have z := r.fx b o q
    have ne : b ≠ a := fun y => by rw [y, f] at q; cases q
    exact ⟨z.1, by rw [upd_ne ne]; exact z.2⟩
/-- the frame's own list in slot i is changed -/
theorem Rl.write (r : Rl w F H σ ρ) {i : Nat} {b : Bool} {xs ys : List D} (e : ρ[i]? = some (Sl.ow b xs)) {a : Addr} {us : List V} (es : σ[i]? = some (some (V.ref a))) (l : RepL w.G F us ys) :
    Rl w F (upd H a (.lst us)) σ (ρ.set i (Sl.ow b ys)) := by
  obtain ⟨a', vs, es', ha, l0, n, f, c⟩ := r.sl i _ e
  have ea : a' = a := by
    rw [es] at es'
    injection es' with q; injection q with q; injection q with q; exact q.symm
  subst ea
  have hl : i < ρ.length := (List.getElem?_eq_some_iff.mp e).1
  refine ⟨by rw [List.length_set]; exact r.len, fun c o q => ?_, r.f0, fun c o q np => ?_, fun c q => ?_, r.nf, fun j s q => ?_, fun j c q => ?_, fun j k c c1 c2 ws zs e1 e2 e3 e4 => ?_, fun c o q => ?_, fun q e => ⟨tab_write (r.tb q e).1 ha, (r.tb q e).2⟩⟩
  · rw [upd_ne (ne_of_none q n)]; exact r.le c o q
  · have ne : c ≠ a' := fun z => by
      cases b with
      | true => exact np i (by rw [z]; simpa using ‹(if true = true then w.par i = some a' else w.H0 a' = none)›)
      | false => rw [z] at q; rw [show w.H0 a' = none by simpa using ‹(if false = true then w.par i = some a' else w.H0 a' = none)›] at q; cases q
    rw [upd_ne ne]; exact r.kp c o q np
  · have ne : c ≠ a' := fun z => by rw [z, upd_same] at q; cases q
    rw [upd_ne ne] at q; exact r.al c q
  · by_cases hj : i = j
    · subst hj
      rw [List.getElem?_set_self hl] at q
      cases q
      exact ⟨a', us, es, upd_same, l, n, f, c⟩
    · rw [List.getElem?_set_ne hj] at q
      have z := r.sl j s q
      cases s with
      | no => exact z
      | fz d => exact z
      | ow b' ws =>
        obtain ⟨a2, vs', e', ha', l', n', f', c'⟩ := z
        have ne : a2 ≠ a' := fun y => hj (r.dj i j a' b b' xs ws e q es (by rw [← y]; exact e'))
        exact ⟨a2, vs', e', by rw [upd_ne ne]; exact ha', l', n', f', c'⟩
  · obtain ⟨ws, z⟩ := r.pr j c q
    by_cases hj : i = j
    · subst hj
      rw [e] at z; cases z
      exact ⟨ys, List.getElem?_set_self hl⟩
    · exact ⟨ws, by rw [List.getElem?_set_ne hj]; exact z⟩
  · have back : ∀ {m : Nat} {c : Bool} {ws : List D}, (ρ.set i (Sl.ow b ys))[m]? = some (Sl.ow c ws) → ∃ c' ws', ρ[m]? = some (Sl.ow c' ws') := fun {m c ws} q => by
      by_cases hm : i = m
      · subst hm; exact ⟨_, _, e⟩
      · rw [List.getElem?_set_ne hm] at q; exact ⟨_, _, q⟩
    obtain ⟨_, _, q1⟩ := back e1
    obtain ⟨_, _, q2⟩ := back e2
    exact r.dj j k c _ _ _ _ q1 q2 e3 e4
  · have z := r.fx c o q
    have ne : c ≠ a' := fun y => by rw [y, f] at q; cases q
    exact ⟨by rw [upd_ne ne]; exact z.1, z.2⟩
/-- what stands newly in the heap is nobody's -/
theorem Rl.free (r : Rl w F H σ ρ) {p : Addr} (n : H p = none) : Free σ ρ p := fun i b xs e z => by
  obtain ⟨a, vs, es, ha, _⟩ := r.sl i _ e
  rw [z] at es
  have ea : p = a := by injection es with q; injection q with q; injection q
  rw [← ea, n] at ha
  cases ha
theorem Rl.freshFr (r : Rl w F H σ ρ) {p : Addr} (n : H p = none) : w.fr p = none := by
  cases q : w.fr p with
  | none => rfl
  | some o => rw [(r.fx p o q).1] at n; cases n
/-- a further cell is held aside -/
theorem Rl.hold (r : Rl w F H σ ρ) {p : Addr} {o : HO} (e : H p = some o) (n : F p = none) (fr : Free σ ρ p) (nt : ∀ ps, o ≠ .tbl ps) : Rl { w with fr := upd w.fr p o } F H σ ρ where
  len := r.len
  le := r.le
  f0 := r.f0
  kp := r.kp
  al := r.al
  nf := r.nf
  sl := fun i s q => by
    have z := r.sl i s q
    cases s with
    | no => exact z
    | fz d => exact z
    | ow b xs =>
      obtain ⟨a, vs, es, ha, l, nn, f, c⟩ := z
      have ne : a ≠ p := fun y => fr i b xs q (by rw [← y]; exact es)
      exact ⟨a, vs, es, ha, l, nn, by show upd w.fr p o a = none; rw [upd_ne ne]; exact f, c⟩
  pr := r.pr
  dj := r.dj
  fx := fun a u q => by
    have q : upd w.fr p o a = some u := q
    by_cases ha : a = p
    · subst ha; rw [upd_same] at q; cases q; exact ⟨e, n⟩
    · rw [upd_ne ha] at q; exact r.fx a u q
  tb := fun q z => by
    obtain ⟨t1, t2, t3, t4⟩ := r.tb q z
    refine ⟨t1, t2, ?_, t4⟩
    have ne : q.1 ≠ p := fun y => by
      obtain ⟨ps, e', _⟩ := t1
      rw [y, e] at e'
      exact nt ps (Option.some.inj e')
    show upd w.fr p o q.1 = none
    rw [upd_ne ne]; exact t3
theorem Rl.unhold {fr' : Addr → Option HO} (r : Rl { w with fr := fr' } F H σ ρ) (h : ∀ a o, w.fr a = some o → fr' a = some o) : Rl w F H σ ρ where
  len := r.len
  le := r.le
  f0 := r.f0
  kp := r.kp
  al := r.al
  nf := r.nf
  sl := fun i s q => by
    have z := r.sl i s q
    cases s with
    | no => exact z
    | fz d => exact z
    | ow b xs =>
      obtain ⟨a, vs, es, ha, l, nn, f, c⟩ := z
      refine ⟨a, vs, es, ha, l, nn, ?_, c⟩
      cases y : w.fr a with
      | none => rfl
      | some o => exact absurd ((h a o y).symm.trans f) (by simp)
  pr := r.pr
  dj := r.dj
  fx := fun a u q => r.fx a u (h a u q)
  tb := fun q z => by
    obtain ⟨t1, t2, t3, t4⟩ := r.tb q z
    refine ⟨t1, t2, ?_, t4⟩
    cases y : w.fr q.1 with
    | none => rfl
    | some o => exact absurd ((h _ o y).symm.trans t3) (by simp)
end
end DL

/-! DB: operators, comparisons, tests, places and slices by data. -/
namespace DL
open PySem L2

/-- a result: data, or a new list -/
inductive Res where
  | d (x : D) | n (xs : List D)

/-- read at this moment: a list may be any that stands -/
def RdV (G : Gd) (F H : Hp) (v : V) : D → Prop
  | .lst xs => ∃ a vs, v = .ref a ∧ H a = some (.lst vs) ∧ RepL G F vs xs
  | d => Rep G F v d
theorem Rep.rd {G : Gd} {F H : Hp} (h : Le F H) {v : V} {d : D} (r : Rep G F v d) : RdV G F H v d := by
  cases d with
  | lst xs =>
    simp only [Rep] at r
    obtain ⟨a, vs, e, q, l⟩ := r
    exact ⟨a, vs, e, h _ _ q, l⟩
  | _ => exact r
/-- what a result is, in the heaps behind -/
def RRes (G : Gd) (H F' H' : Hp) (v : V) : Res → Prop
  | .d x => Rep G F' v x
  | .n xs => ∃ p vs, v = .ref p ∧ H p = none ∧ H' p = some (.lst vs) ∧ RepL G F' vs xs ∧ F' p = none
/-- Q holds of what sem tells -/
def OutD (G : Gd) (F H : Hp) (sem : (Res → Prop) → Prop) (Q : VK) : Prop :=
  ∃ Kd : Res → Prop, sem Kd ∧ ∀ v r F' H', Grow F H F' H' → RRes G H F' H' v r → Kd r → Q v H'

section
variable {G : Gd} {F H : Hp} {Q : VK}
/-- the ways an operation ends -/
theorem out_at {Kd : Res → Prop} (h : Le F H) (k : ∀ v r F' H', Grow F H F' H' → RRes G H F' H' v r → Kd r → Q v H') {v : V} {d : D} (q : Kd (.d d)) (r : Rep G F v d) : Q v H := k v (.d d) F H (.refl h) r q
theorem out_lst {Kd : Res → Prop} (h : Le F H) (k : ∀ v r F' H', Grow F H F' H' → RRes G H F' H' v r → Kd r → Q v H') {vs : List V} {xs : List D} (q : Kd (.n xs)) (l : RepL G F vs xs) {p : Addr} (n : H p = none) : Q (.ref p) (upd H p (.lst vs)) :=
  k (.ref p) (.n xs) F _ (.alloc h n _) ⟨p, vs, rfl, n, upd_same, l, le_none h n⟩ q
theorem out_tup {Kd : Res → Prop} (h : Le F H) (k : ∀ v r F' H', Grow F H F' H' → RRes G H F' H' v r → Kd r → Q v H') {vs : List V} {xs : List D} (q : Kd (.d (.tup xs))) (l : RepL G F vs xs) {p : Addr} (n : H p = none) : Q (.ref p) (upd H p (.tup vs)) :=
  k (.ref p) (.d (.tup xs)) (upd F p (.tup vs)) _ (.new h n _) (Rep.tup' (SqT.of upd_same) (l.mono (le_upd (le_none h n)))) q
end

/-! ### the operators' meaning -/
def addD : D → D → (Res → Prop) → Prop
  | .int i, .int j, K => K (.d (.int (i + j)))
  | .str a, .str b, K => a.length + b.length ≤ sizeLine ∧ K (.d (.str (a ++ b)))
  | .lst xs, .lst ys, K => xs.length + ys.length ≤ sizeLine ∧ K (.n (xs ++ ys))
  | .tup xs, .tup ys, K => xs.length + ys.length ≤ sizeLine ∧ K (.d (.tup (xs ++ ys)))
  | _, _, _ => False
def subD : D → D → (Res → Prop) → Prop
  | .int i, .int j, K => K (.d (.int (i - j)))
  | _, _, _ => False
def BigM (i j : Int) : Prop := CMul i j ∨ CMulW i j
def mulD : D → D → (Res → Prop) → Prop
  | .int i, .int j, K => BigM i j ∧ K (.d (.int (i * j)))
  | .lst xs, .int k, K => (-(2 ^ 63) ≤ k ∧ k < 2 ^ 63 ∧ xs.length * k.toNat ≤ sizeLine) ∧ K (.n (List.replicate k.toNat xs).flatten)
  | _, _, _ => False
def fdivD : D → D → (Res → Prop) → Prop
  | .int i, .int j, K => (0 < j ∧ j < 340282366920938463463374607431768211456) ∧ K (.d (.int (i / j)))
  | _, _, _ => False
def modD : D → D → (Res → Prop) → Prop
  | .int i, .int j, K => 0 < j ∧ K (.d (.int (i % j)))
  | _, _, _ => False
def powD : D → D → (Res → Prop) → Prop
  | .int i, .int j, K => CPow i j ∧ K (.d (.int (i ^ j.toNat)))
  | _, _, _ => False
inductive BOp where | add | sub | mul | fdiv | mod | pow
def BOp.op : BOp → Operator
  | .add => .Add | .sub => .Sub | .mul => .Mult | .fdiv => .FloorDiv | .mod => .Mod | .pow => .Pow
def BOp.sem : BOp → D → D → (Res → Prop) → Prop
  | .add => addD | .sub => subD | .mul => mulD | .fdiv => fdivD | .mod => modD | .pow => powD

/-- the reading of a two-place operation by data -/
def rD2 (G : Gd) (sem : D → D → (Res → Prop) → Prop) : R2 := fun x y H Q => ∃ F dx dy, Le F H ∧ RdV G F H x dx ∧ RdV G F H y dy ∧ OutD G F H (sem dx dy) Q
section
variable {X : Cx} {G : Gd}
theorem log2_of {j : Int} (h0 : 0 < j) (h : j < 340282366920938463463374607431768211456) : j.natAbs.log2 < 9000 := by
  have h1 : j.natAbs < 2 ^ 128 := by
    have : (2 : Nat) ^ 128 = 340282366920938463463374607431768211456 := by decide
    omega
  have := PySem.Flt.log2_lt_of (k := 128) (by decide) h1
  omega
theorem op_D (hG : G.K = X.K) : ∀ o : BOp, OpR X (binaryOp o.op) (rD2 G o.sem) := by
  intro o pins s σ H x y v u Q I rx ry h
  obtain ⟨F, dx, dy, hle, hx, hy, Kd, hs, k⟩ := h
  cases o with
  | add =>
    cases dx with
    | int i =>
      cases dy with
      | int j =>
        simp only [RdV, Rep] at hx hy; subst hx; subst hy
        exact op_add pins s σ H _ _ v u Q I rx ry ⟨i, j, rfl, rfl, out_at hle k hs (Rep.int' _)⟩
      | _ => exact (show False from hs).elim
    | str a =>
      cases dy with
      | str b =>
        simp only [RdV, Rep] at hx hy; subst hx; subst hy
        exact op_add_str pins s σ H _ _ v u Q I rx ry ⟨a, b, rfl, rfl, hs.1, out_at hle k hs.2 (Rep.str' _)⟩
      | _ => exact (show False from hs).elim
    | lst xs =>
      cases dy with
      | lst ys =>
        obtain ⟨a, vs, rfl, ha, la⟩ := hx
        obtain ⟨b, us, rfl, hb, lb⟩ := hy
        exact op_cat pins s σ H _ _ v u Q I rx ry ⟨a, b, vs, us, rfl, rfl, ha, hb, by rw [la.length, lb.length]; exact hs.1, fun p n => out_lst hle k hs.2 (la.append lb) n⟩
      | _ => exact (show False from hs).elim
    | tup xs =>
      cases dy with
      | tup ys =>
        simp only [RdV, Rep] at hx hy
        obtain ⟨a, vs, rfl, ha, la⟩ := hx
        obtain ⟨b, us, rfl, hb, lb⟩ := hy
        rw [hG] at ha hb
        refine op_catA pins s σ H _ _ v u Q I rx ry ⟨a, b, vs, us, rfl, rfl, sqT_mono hle ha, sqT_mono hle hb, by rw [la.length, lb.length]; exact hs.1, fun e => ?_, fun _ e => ?_, fun _ _ p n => out_tup hle k hs.2 (la.append lb) n⟩
        · have e0 : xs = [] := by
            have := la.length
            rw [e] at this
            exact List.eq_nil_of_length_eq_zero this.symm
          subst e0
          exact out_at hle k hs.2 (Rep.tup' (by rw [hG]; exact hb) lb)
        · have e0 : ys = [] := by
            have := lb.length
            rw [e] at this
            exact List.eq_nil_of_length_eq_zero this.symm
          subst e0
          exact out_at hle k hs.2 (by rw [List.append_nil]; exact Rep.tup' (by rw [hG]; exact ha) la)
      | _ => exact (show False from hs).elim
    | _ => cases dy <;> exact (show False from hs).elim
  | sub =>
    cases dx with
    | int i =>
      cases dy with
      | int j =>
        simp only [RdV, Rep] at hx hy; subst hx; subst hy
        exact op_sub pins s σ H _ _ v u Q I rx ry ⟨i, j, rfl, rfl, out_at hle k hs (Rep.int' _)⟩
      | _ => exact (show False from hs).elim
    | _ => cases dy <;> exact (show False from hs).elim
  | mul =>
    cases dx with
    | int i =>
      cases dy with
      | int j =>
        simp only [RdV, Rep] at hx hy; subst hx; subst hy
        rcases hs.1 with c | c
        · exact op_mul pins s σ H _ _ v u Q I rx ry ⟨i, j, rfl, rfl, c, out_at hle k hs.2 (Rep.int' _)⟩
        · exact op_mulW pins s σ H _ _ v u Q I rx ry ⟨i, j, rfl, rfl, c, out_at hle k hs.2 (Rep.int' _)⟩
      | _ => exact (show False from hs).elim
    | lst xs =>
      cases dy with
      | int j =>
        obtain ⟨a, vs, rfl, ha, la⟩ := hx
        simp only [RdV, Rep] at hy; subst hy
        have hl : RepL G F (List.replicate j.toNat vs).flatten (List.replicate j.toNat xs).flatten := by
          induction j.toNat with
          | zero => exact RepL.nil
          | succ m ih => rw [List.replicate_succ, List.replicate_succ, List.flatten_cons, List.flatten_cons]; exact la.append ih
        exact op_rep pins s σ H _ _ v u Q I rx ry ⟨a, j, vs, rfl, rfl, ha, hs.1.1, hs.1.2.1, by rw [la.length]; exact hs.1.2.2, fun p n => out_lst hle k hs.2 hl n⟩
      | _ => exact (show False from hs).elim
    | _ => cases dy <;> exact (show False from hs).elim
  | fdiv =>
    cases dx with
    | int i =>
      cases dy with
      | int j =>
        simp only [RdV, Rep] at hx hy; subst hx; subst hy
        exact op_fdivW pins s σ H _ _ v u Q I rx ry ⟨i, j, rfl, rfl, ⟨hs.1.1, log2_of hs.1.1 hs.1.2⟩, out_at hle k hs.2 (Rep.int' _)⟩
      | _ => exact (show False from hs).elim
    | _ => cases dy <;> exact (show False from hs).elim
  | mod =>
    cases dx with
    | int i =>
      cases dy with
      | int j =>
        simp only [RdV, Rep] at hx hy; subst hx; subst hy
        exact op_mod pins s σ H _ _ v u Q I rx ry ⟨i, j, rfl, rfl, hs.1, out_at hle k hs.2 (Rep.int' _)⟩
      | _ => exact (show False from hs).elim
    | _ => cases dy <;> exact (show False from hs).elim
  | pow =>
    cases dx with
    | int i =>
      cases dy with
      | int j =>
        simp only [RdV, Rep] at hx hy; subst hx; subst hy
        exact op_pow pins s σ H _ _ v u Q I rx ry ⟨i, j, rfl, rfl, hs.1, out_at hle k hs.2 (Rep.int' _)⟩
      | _ => exact (show False from hs).elim
    | _ => cases dy <;> exact (show False from hs).elim
end

/-! ### data as the library's own data: for == and in at any depth -/
mutual
def py : D → PyData
  | .non => .none
  | .bl b => .bool b
  | .int i => .int i
  | .str s => .str s
  | .tup xs => .tuple (pys xs)
  | .lst xs => .list (pys xs)
  | .obj _ _ => .none
  | .kd _ => .none
  | .scr _ => .none
def pys : List D → List PyData
  | [] => []
  | d :: ds => py d :: pys ds
end
mutual
/-- no instance in it -/
def bare : D → Bool
  | .tup xs => bares xs
  | .lst xs => bares xs
  | .obj _ _ => false
  | .kd _ => false
  | .scr _ => false
  | _ => true
def bares : List D → Bool
  | [] => true
  | d :: ds => bare d && bares ds
end
mutual
theorem Rep.dp {G : Gd} {F H : Hp} {K : PySem.W.Frag} (hG : G.K = K) (h : Le F H) : ∀ (d : D) (v : V), bare d = true → Rep G F v d → Dp K H v (py d)
  | .non, v, b, r => by simp only [Rep] at r; subst r; exact .non
  | .bl b, v, _, r => by simp only [Rep] at r; subst r; exact .bl b
  | .int i, v, _, r => by simp only [Rep] at r; subst r; exact .int i
  | .str s, v, _, r => by simp only [Rep] at r; subst r; exact .str s
  | .tup xs, v, b, r => by
    simp only [Rep] at r
    obtain ⟨a, vs, rfl, q, l⟩ := r
    simp only [py]
    exact .tup (by rw [← hG]; exact sqT_mono h q) (RepL.dp hG h xs vs (by simpa only [bare] using b) l)
  | .lst xs, v, b, r => by
    simp only [Rep] at r
    obtain ⟨a, vs, rfl, q, l⟩ := r
    simp only [py]
    exact .lst (SqL.of (h _ _ q)) (RepL.dp hG h xs vs (by simpa only [bare] using b) l)
  | .obj k fs, v, b, r => by simp only [bare] at b; exact absurd b (by decide)
  | .kd kvs, v, b, r => by simp only [bare] at b; exact absurd b (by decide)
  | .scr kvs, v, b, r => by simp only [bare] at b; exact absurd b (by decide)
theorem RepL.dp {G : Gd} {F H : Hp} {K : PySem.W.Frag} (hG : G.K = K) (h : Le F H) : ∀ (ds : List D) (vs : List V), bares ds = true → RepL G F vs ds → DpAll K H vs (pys ds)
  | [], vs, _, r => by rw [RepL.nil_inv r]; simp only [pys]; exact .nil
  | d :: ds, vs, b, r => by
    obtain ⟨v, s, rfl, r1, r2⟩ := RepL.inv r
    simp only [bares, Bool.and_eq_true] at b
    simp only [pys]
    exact .cons (Rep.dp hG h d v b.1 r1) (RepL.dp hG h ds s b.2 r2)
end
theorem RdV.dp {G : Gd} {F H : Hp} {K : PySem.W.Frag} (hG : G.K = K) (h : Le F H) {d : D} {v : V} (b : bare d = true) (r : RdV G F H v d) : Dp K H v (py d) := by
  cases d with
  | lst xs =>
    obtain ⟨a, vs, rfl, q, l⟩ := r
    simp only [py]
    exact .lst (SqL.of q) (RepL.dp hG h xs vs (by simpa only [bare] using b) l)
  | _ => exact Rep.dp hG h _ v b r

/-- == by data -/
def eqD : D → D → (Bool → Prop) → Prop
  | .int i, .int j, K => K (decide (i = j))
  | .str a, .str b, K => K (decide (a = b))
  | x, y, K => (bare x = true ∧ bare y = true ∧ SeqAt.shaped (py x) = true ∧ SeqAt.shaped (py y) = true) ∧ K (PyData.eqv (py x) (py y))
def flat (d : D) : Bool := flatV (fv d)
theorem fv_of {G : Gd} {F : Hp} {d : D} {v : V} (f : flat d = true) (r : Rep G F v d) : v = fv d := by
  cases d <;> first
    | (simp only [Rep] at r; exact r)
    | exact absurd f (by simp [flat, fv, flatV])
theorem fvs_of {G : Gd} {F : Hp} : ∀ {ds : List D} {vs : List V}, ds.all flat = true → RepL G F vs ds → vs = ds.map fv
  | [], vs, _, r => RepL.nil_inv r
  | d :: ds, vs, f, r => by
    obtain ⟨v, s, rfl, r1, r2⟩ := RepL.inv r
    rw [List.all_cons, Bool.and_eq_true] at f
    rw [List.map_cons, ← fv_of f.1 r1, ← fvs_of f.2 r2]
theorem flats_of : ∀ {ds : List D}, ds.all flat = true → (ds.map fv).all flatV = true
  | [], _ => rfl
  | d :: ds, f => by
    rw [List.all_cons, Bool.and_eq_true] at f
    rw [List.map_cons, List.all_cons, Bool.and_eq_true]
    exact ⟨f.1, flats_of f.2⟩
/-- x in y -/
def inD : D → D → (Bool → Prop) → Prop
  | x, .lst ys, K => ((flat x = true ∧ ys.all flat = true) ∧ K (inV (fv x) (ys.map fv))) ∨
      ((bare x = true ∧ bares ys = true ∧ SeqAt.shaped (py x) = true ∧ SeqAt.shaped (.list (pys ys)) = true) ∧ K ((pys ys).any fun z => PyData.eqv z (py x)))
  | x, .tup ys, K => (flat x = true ∧ ys.all flat = true) ∧ K (inV (fv x) (ys.map fv))
  | .str a, .str z, K => (∃ c, a = ⟨#[c]⟩ ∧ K (decide (c ∈ z.cps.toList))) ∨ K (!(Builtin.Str.occurrences z a 0 z.length 1).isEmpty)
  | _, _, _ => False
def ltD : D → D → (Bool → Prop) → Prop
  | .int i, .int j, K => K (decide (i < j))
  | .str a, .str b, K => K (decide (a.cps.toList < b.cps.toList))
  | _, _, _ => False
def leD : D → D → (Bool → Prop) → Prop
  | .int i, .int j, K => K (decide (i ≤ j))
  | .str a, .str b, K => K (!decide (b.cps.toList < a.cps.toList))
  | _, _, _ => False
def gtD : D → D → (Bool → Prop) → Prop
  | .int i, .int j, K => K (decide (j < i))
  | .str a, .str b, K => K (decide (b.cps.toList < a.cps.toList))
  | _, _, _ => False
def geD : D → D → (Bool → Prop) → Prop
  | .int i, .int j, K => K (decide (j ≤ i))
  | .str a, .str b, K => K (!decide (a.cps.toList < b.cps.toList))
  | _, _, _ => False
def isNone : D → Bool
  | .non => true
  | _ => false
def isD : D → D → (Bool → Prop) → Prop
  | x, .non, K => K (isNone x)
  | .bl a, .bl b, K => K (decide (a = b))
  | _, _, _ => False
inductive COp where | eq | ne | lt | le | gt | ge | isin | notin | is | isnot
def COp.op : COp → CmpOp
  | .eq => .Eq | .ne => .NotEq | .lt => .Lt | .le => .LtE | .gt => .Gt | .ge => .GtE | .isin => .In | .notin => .NotIn | .is => .Is | .isnot => .IsNot
def COp.sem : COp → D → D → (Bool → Prop) → Prop
  | .eq => eqD | .ne => fun x y K => eqD x y fun b => K (!b) | .lt => ltD | .le => leD | .gt => gtD | .ge => geD | .isin => inD | .notin => fun x y K => inD x y fun b => K (!b)
  | .is => isD | .isnot => fun x y K => isD x y fun b => K (!b)
/-- the reading of a comparison by data -/
def rC2 (G : Gd) (sem : D → D → (Bool → Prop) → Prop) : R2 := fun x y H Q => ∃ F dx dy, Le F H ∧ RdV G F H x dx ∧ RdV G F H y dy ∧ ∃ Kd : Bool → Prop, sem dx dy Kd ∧ ∀ b, Kd b → Q (.bl b) H
section
variable {X : Cx} {G : Gd}
theorem decide_cps {a b : Str} : decide (V.str a = V.str b) = decide (a = b) := by
  by_cases h : a = b
  · subst h; simp
  · rw [decide_eq_false h, decide_eq_false (fun z => h (V.str.inj z))]
theorem decide_ints {a b : Int} : decide (V.int a = V.int b) = decide (a = b) := by
  by_cases h : a = b
  · subst h; simp
  · rw [decide_eq_false h, decide_eq_false (fun z => h (V.int.inj z))]
/-- the three makes of == -/
theorem eqD_cases {x y : D} {K : Bool → Prop} (h : eqD x y K) : (∃ i j, x = .int i ∧ y = .int j ∧ K (decide (i = j))) ∨ (∃ a b, x = .str a ∧ y = .str b ∧ K (decide (a = b))) ∨
    ((bare x = true ∧ bare y = true ∧ SeqAt.shaped (py x) = true ∧ SeqAt.shaped (py y) = true) ∧ K (PyData.eqv (py x) (py y))) := by
  unfold eqD at h
  split at h
  · exact .inl ⟨_, _, rfl, rfl, h⟩
  · exact .inr (.inl ⟨_, _, rfl, rfl, h⟩)
  · exact .inr (.inr h)
theorem isNone_v {F H : Hp} {x : V} {d : D} (r : RdV G F H x d) : decide (x = .non) = isNone d := by
  cases d with
  | lst xs => obtain ⟨a, vs, rfl, _⟩ := r; rfl
  | non => simp only [RdV, Rep] at r; subst r; rfl
  | bl b => simp only [RdV, Rep] at r; subst r; rfl
  | int b => simp only [RdV, Rep] at r; subst r; rfl
  | str b => simp only [RdV, Rep] at r; subst r; rfl
  | tup xs => simp only [RdV, Rep] at r; obtain ⟨a, vs, rfl, _⟩ := r; rfl
  | obj k fs => simp only [RdV, Rep] at r; obtain ⟨a, dx, vs, rfl, _⟩ := r; rfl
  | kd kvs => simp only [RdV, Rep] at r; obtain ⟨a, rfl, _⟩ := r; rfl
  | scr kvs => simp only [RdV, Rep] at r; obtain ⟨a, rfl, _⟩ := r; rfl
theorem in_run {neg : Bool} {pins : List (Addr × Obj)} {s : Shared} {σ : St} {H F : Hp} {x y : V} {v u : Value} {Q : VK} {dx dy : D} {Kd : Bool → Prop} (hG : G.K = X.K) (hu : X.A.units + 65 < cLine) (I : Inv X pins σ H s) (rx : RelV x v) (ry : RelV y u) (hle : Le F H)
    (hx : RdV G F H x dx) (hy : RdV G F H y dy) (hs : inD dx dy Kd) (k : ∀ b, Kd b → Q (.bl (if neg = true then !b else b)) H) : wpAny (model X.prog X.w) X.A (compareOp (if neg = true then .NotIn else .In) v u) (EP X pins σ Q) X.xe s := by
  have fl : ∀ {p : Addr} {us : List V} {ys : List D}, (SqL X.K H p us ∨ SqT X.K H p us) → y = .ref p → RepL G F us ys → (flat dx = true ∧ ys.all flat = true) → Kd (inV (fv dx) (ys.map fv)) →
      wpAny (model X.prog X.w) X.A (compareOp (if neg = true then .NotIn else .In) v u) (EP X pins σ Q) X.xe s := by
    intro p us ys hq ey l f q
    have ex : x = fv dx := by
      have : Rep G F x dx := by
        cases dx <;> first | exact hx | exact absurd f.1 (by simp [flat, fv, flatV])
      exact fv_of f.1 this
    have eu := fvs_of f.2 l
    have h := k _ q
    cases neg with
    | true => exact op_notIn_seq pins s σ H x y v u Q I rx ry ⟨p, us, ey, hq, by rw [ex]; exact f.1, by rw [eu]; exact flats_of f.2, by rw [ex, eu]; exact h⟩
    | false => exact op_in_seq pins s σ H x y v u Q I rx ry ⟨p, us, ey, hq, by rw [ex]; exact f.1, by rw [eu]; exact flats_of f.2, by rw [ex, eu]; exact h⟩
  cases dy with
  | lst ys =>
    obtain ⟨p, us, ey, hq, l⟩ := hy
    have hs : ((flat dx = true ∧ ys.all flat = true) ∧ Kd (inV (fv dx) (ys.map fv))) ∨
      ((bare dx = true ∧ bares ys = true ∧ SeqAt.shaped (py dx) = true ∧ SeqAt.shaped (.list (pys ys)) = true) ∧ Kd ((pys ys).any fun z => PyData.eqv z (py dx))) := by
      cases dx <;> exact hs
    rcases hs with ⟨f, q⟩ | ⟨⟨b1, b2, s1, s2⟩, q⟩
    · exact fl (.inl (SqL.of hq)) ey l f q
    · have h := k _ q
      subst ey
      have d1 := RdV.dp hG hle b1 hx
      have d2 : Dp X.K H (.ref p) (.list (pys ys)) := .lst (SqL.of hq) (RepL.dp hG hle ys us b2 l)
      cases neg with
      | true => exact op_notInD hu pins s σ H x _ v u Q I rx ry ⟨_, _, d1, d2, s1, s2, h⟩
      | false => exact op_inD hu pins s σ H x _ v u Q I rx ry ⟨_, _, d1, d2, s1, s2, h⟩
  | tup ys =>
    simp only [RdV, Rep] at hy
    obtain ⟨p, us, ey, hq, l⟩ := hy
    rw [hG] at hq
    have hs : (flat dx = true ∧ ys.all flat = true) ∧ Kd (inV (fv dx) (ys.map fv)) := by
      cases dx <;> exact hs
    exact fl (.inr (sqT_mono hle hq)) ey l hs.1 hs.2
  | str z =>
    cases dx with
    | str a =>
      simp only [RdV, Rep] at hx hy
      subst hx; subst hy
      rcases hs with ⟨c, rfl, q⟩ | q
      · have h := k _ q
        cases neg with
        | true => exact op_notIn_sign pins s σ H _ _ v u Q I rx ry ⟨c, z, rfl, rfl, h⟩
        | false => exact op_in_sign pins s σ H _ _ v u Q I rx ry ⟨c, z, rfl, rfl, h⟩
      · have h := k _ q
        cases neg with
        | true => exact op_notIn_str pins s σ H _ _ v u Q I rx ry ⟨a, z, rfl, rfl, h⟩
        | false => exact op_in_str pins s σ H _ _ v u Q I rx ry ⟨a, z, rfl, rfl, h⟩
    | _ => exact (show False from hs).elim
  | _ => cases dx <;> exact (show False from hs).elim
theorem cmp_D (hG : G.K = X.K) (hu : X.A.units + 65 < cLine) : ∀ o : COp, OpR X (compareOp o.op) (rC2 G o.sem) := by
  intro o pins s σ H x y v u Q I rx ry h
  obtain ⟨F, dx, dy, hle, hx, hy, Kd, hs, k⟩ := h
  cases o with
  | eq =>
    rcases eqD_cases hs with ⟨i, j, rfl, rfl, q⟩ | ⟨i, j, rfl, rfl, q⟩ | ⟨⟨b1, b2, s1, s2⟩, q⟩
    · simp only [RdV, Rep] at hx hy; subst hx; subst hy
      exact op_eq pins s σ H _ _ v u Q I rx ry ⟨rfl, by rw [decide_ints]; exact k _ q⟩
    · simp only [RdV, Rep] at hx hy; subst hx; subst hy
      exact op_eq pins s σ H _ _ v u Q I rx ry ⟨rfl, by rw [decide_cps]; exact k _ q⟩
    · exact op_eqD (by omega) pins s σ H _ _ v u Q I rx ry ⟨_, _, RdV.dp hG hle b1 hx, RdV.dp hG hle b2 hy, s1, s2, k _ q⟩
  | ne =>
    rcases eqD_cases hs with ⟨i, j, rfl, rfl, q⟩ | ⟨i, j, rfl, rfl, q⟩ | ⟨⟨b1, b2, s1, s2⟩, q⟩
    · simp only [RdV, Rep] at hx hy; subst hx; subst hy
      exact op_ne pins s σ H _ _ v u Q I rx ry ⟨rfl, by rw [decide_ints]; exact k _ q⟩
    · simp only [RdV, Rep] at hx hy; subst hx; subst hy
      exact op_ne pins s σ H _ _ v u Q I rx ry ⟨rfl, by rw [decide_cps]; exact k _ q⟩
    · exact op_neD (by omega) pins s σ H _ _ v u Q I rx ry ⟨_, _, RdV.dp hG hle b1 hx, RdV.dp hG hle b2 hy, s1, s2, k _ q⟩
  | lt =>
    cases dx <;> cases dy <;> first | exact (show False from hs).elim | skip
    · simp only [RdV, Rep] at hx hy; subst hx; subst hy
      exact op_lt pins s σ H _ _ v u Q I rx ry ⟨_, _, rfl, rfl, k _ hs⟩
    · simp only [RdV, Rep] at hx hy; subst hx; subst hy
      exact op_lt_str pins s σ H _ _ v u Q I rx ry ⟨_, _, rfl, rfl, k _ hs⟩
  | le =>
    cases dx <;> cases dy <;> first | exact (show False from hs).elim | skip
    · simp only [RdV, Rep] at hx hy; subst hx; subst hy
      exact op_le pins s σ H _ _ v u Q I rx ry ⟨_, _, rfl, rfl, k _ hs⟩
    · simp only [RdV, Rep] at hx hy; subst hx; subst hy
      exact op_le_str pins s σ H _ _ v u Q I rx ry ⟨_, _, rfl, rfl, k _ hs⟩
  | gt =>
    cases dx <;> cases dy <;> first | exact (show False from hs).elim | skip
    · simp only [RdV, Rep] at hx hy; subst hx; subst hy
      exact op_gt pins s σ H _ _ v u Q I rx ry ⟨_, _, rfl, rfl, k _ hs⟩
    · simp only [RdV, Rep] at hx hy; subst hx; subst hy
      exact op_gt_str pins s σ H _ _ v u Q I rx ry ⟨_, _, rfl, rfl, k _ hs⟩
  | ge =>
    cases dx <;> cases dy <;> first | exact (show False from hs).elim | skip
    · simp only [RdV, Rep] at hx hy; subst hx; subst hy
      exact op_ge pins s σ H _ _ v u Q I rx ry ⟨_, _, rfl, rfl, k _ hs⟩
    · simp only [RdV, Rep] at hx hy; subst hx; subst hy
      exact op_ge_str pins s σ H _ _ v u Q I rx ry ⟨_, _, rfl, rfl, k _ hs⟩
  | isin => exact in_run (neg := false) hG hu I rx ry hle hx hy hs k
  | notin => exact in_run (neg := true) hG hu I rx ry hle hx hy (Kd := fun b => Kd (!b)) hs fun b q => k _ q
  | is =>
    cases dy with
    | non =>
      simp only [RdV, Rep] at hy
      have hs : Kd (isNone dx) := by cases dx <;> exact hs
      exact op_isN pins s σ H _ _ v u Q I rx ry ⟨hy, by rw [isNone_v hx]; exact k _ hs⟩
    | bl b =>
      cases dx <;> first | exact (show False from hs).elim | skip
      simp only [RdV, Rep] at hx hy; subst hx; subst hy
      exact op_isBl pins s σ H _ _ v u Q I rx ry ⟨_, _, rfl, rfl, k _ hs⟩
    | _ => cases dx <;> exact (show False from hs).elim
  | isnot =>
    cases dy with
    | non =>
      simp only [RdV, Rep] at hy
      have hs : Kd (!isNone dx) := by cases dx <;> exact hs
      exact op_notN pins s σ H _ _ v u Q I rx ry ⟨hy, by rw [isNone_v hx]; exact k _ hs⟩
    | bl b =>
      cases dx <;> first | exact (show False from hs).elim | skip
      simp only [RdV, Rep] at hx hy; subst hx; subst hy
      exact op_notBl pins s σ H _ _ v u Q I rx ry ⟨_, _, rfl, rfl, k _ hs⟩
    | _ => cases dx <;> exact (show False from hs).elim
end

/-! ### truth -/
def truD : D → (Bool → Prop) → Prop
  | .non, K => K false
  | .bl b, K => K b
  | .int i, K => K (i != 0)
  | .str s, K => s.length ≤ sizeLine ∧ K ((s.length : Int) != 0)
  | .tup xs, K => K (!xs.isEmpty)
  | .lst xs, K => K (!xs.isEmpty)
  | .obj _ _, _ => False
  | .kd _, _ => False
  | .scr _, _ => False
theorem isEmpty_rep {G : Gd} {F : Hp} {vs : List V} {ds : List D} (l : RepL G F vs ds) : vs.isEmpty = ds.isEmpty := by
  have := l.length
  cases vs <;> cases ds <;> first | rfl | (simp at this)
theorem tru_v {X : Cx} {G : Gd} (hG : G.K = X.K) {F H : Hp} (hle : Le F H) {v : V} {d : D} {K : Bool → Prop} (r : RdV G F H v d) (h : truD d K) : ∃ b, TruV X.K v H b ∧ K b := by
  cases d with
  | non => simp only [RdV, Rep] at r; subst r; exact ⟨false, rfl, h⟩
  | bl b => simp only [RdV, Rep] at r; subst r; exact ⟨b, rfl, h⟩
  | int i => simp only [RdV, Rep] at r; subst r; exact ⟨_, rfl, h⟩
  | str s => simp only [RdV, Rep] at r; subst r; exact ⟨_, ⟨h.1, rfl⟩, h.2⟩
  | tup xs =>
    simp only [RdV, Rep] at r
    obtain ⟨a, vs, rfl, q, l⟩ := r
    rw [hG] at q
    exact ⟨_, .inr (.inl ⟨vs, sqT_mono hle q, rfl⟩), by rw [isEmpty_rep l]; exact h⟩
  | lst xs =>
    obtain ⟨a, vs, rfl, q, l⟩ := r
    exact ⟨_, .inl ⟨vs, SqL.of q, rfl⟩, by rw [isEmpty_rep l]; exact h⟩
  | obj k fs => exact (show False from h).elim
  | kd kvs => exact (show False from h).elim
  | scr kvs => exact (show False from h).elim

/-! ### places, slices -/
def ixD : D → D → (Res → Prop) → Prop
  | .kd kvs, .str z, K => ∃ d, kvs.lookup z = some d ∧ flat d = true ∧ K (.d d)
  | .lst xs, .int i, K => ∃ d, atI xs i = some d ∧ K (.d d)
  | .tup xs, .int i, K => ∃ d, atI xs i = some d ∧ K (.d d)
  | .str z, .int i, K => z.length ≤ sizeLine ∧ ∃ c, atI z.cps.toList i = some c ∧ K (.d (.str ⟨#[c]⟩))
  | _, _, _ => False
theorem RepL.at {G : Gd} {F : Hp} {ds : List D} {vs : List V} {i : Int} {d : D} (l : RepL G F vs ds) (h : atI ds i = some d) : ∃ v, atI vs i = some v ∧ Rep G F v d := by
  unfold atI at h ⊢
  rw [l.length]
  cases e : ixN ds.length i with
  | none => rw [e] at h; cases h
  | some j =>
    rw [e] at h
    exact l.get (show ds[j]? = some d from h)
theorem rep_fv {G : Gd} {F : Hp} {d : D} (f : flat d = true) : Rep G F (fv d) d := by
  cases d <;> first
    | (simp only [Rep, fv]; done)
    | exact absurd f (by simp [flat, fv, flatV])
theorem ix_D {X : Cx} {G : Gd} (hG : G.K = X.K) (hw : G.w = X.w) : IxR X (rD2 G ixD) := by
  intro value slice pins s σ H x y v u Q I rx ry h hsub
  obtain ⟨F, dx, dy, hle, hx, hy, Kd, hs, k⟩ := h
  cases dx with
  | lst xs =>
    cases dy with
    | int i =>
      obtain ⟨a, vs, rfl, ha, la⟩ := hx
      simp only [RdV, Rep] at hy; subst hy
      obtain ⟨d, e, q⟩ := hs
      obtain ⟨w', e2, r⟩ := la.at e
      exact ix_seq value slice pins s σ H _ _ v u Q I rx ry (.inl ⟨a, vs, i, w', rfl, rfl, SqL.of ha, e2, out_at hle k q r⟩) hsub
    | _ => exact (show False from hs).elim
  | tup xs =>
    cases dy with
    | int i =>
      simp only [RdV, Rep] at hx hy
      obtain ⟨a, vs, rfl, ha, la⟩ := hx
      subst hy
      rw [hG] at ha
      obtain ⟨d, e, q⟩ := hs
      obtain ⟨w', e2, r⟩ := la.at e
      exact ix_seq value slice pins s σ H _ _ v u Q I rx ry (.inr (.inl ⟨a, vs, i, w', rfl, rfl, sqT_mono hle ha, e2, out_at hle k q r⟩)) hsub
    | _ => exact (show False from hs).elim
  | str z =>
    cases dy with
    | int i =>
      simp only [RdV, Rep] at hx hy
      subst hx; subst hy
      obtain ⟨hz, c, e, q⟩ := hs
      exact ix_seq value slice pins s σ H _ _ v u Q I rx ry (.inr (.inr ⟨z, i, c, rfl, rfl, hz, e, out_at hle k q (Rep.str' _)⟩)) hsub
    | _ => exact (show False from hs).elim
  | kd kvs =>
    cases dy with
    | str z =>
      simp only [RdV, Rep] at hx hy
      obtain ⟨a, rfl, hk⟩ := hx
      subst hy
      obtain ⟨d, e, f, q⟩ := hs
      have hd := hk z d e
      rw [hG, hw] at hd
      exact ix_kdict value slice pins s σ H _ _ v u Q I rx ry ⟨a, z, _, rfl, rfl, hd, out_at hle k q (rep_fv f)⟩ hsub
    | _ => exact (show False from hs).elim
  | _ => cases dy <;> exact (show False from hs).elim
def cutD (xs : List D) (lo hi : Option Int) : List D := (xs.drop (HT.sIx xs.length 0 lo)).take (HT.sIx xs.length xs.length hi - HT.sIx xs.length 0 lo)
def slD : D → Option Int → Option Int → (Res → Prop) → Prop
  | .lst xs, lo, hi, K => K (.n (cutD xs lo hi))
  | .scr ns, lo, hi, K => K (.n (cutD (ns.map D.int) lo hi))
  | .tup xs, lo, hi, K => K (.d (.tup (cutD xs lo hi)))
  | .str z, lo, hi, K => z.length ≤ sizeLine ∧ K (.d (.str (cutS z lo hi)))
  | _, _, _, _ => False
theorem RepL.cut {G : Gd} {F : Hp} {ds : List D} {vs : List V} (l : RepL G F vs ds) (lo hi : Option Int) : RepL G F (cutV vs lo hi) (cutD ds lo hi) := by
  unfold cutV cutD
  rw [l.length]
  exact (l.drop _).take _
theorem sl_D {X : Cx} {G : Gd} (hG : G.K = X.K) : SlR X (fun x lo hi H Q => ∃ F dx, Le F H ∧ RdV G F H x dx ∧ OutD G F H (slD dx lo hi) Q) := by
  intro pins s σ H x v vl vu lo hi sl Q I rx hs pl pu h
  obtain ⟨F, dx, hle, hx, Kd, hd, k⟩ := h
  cases dx with
  | lst xs =>
    obtain ⟨a, vs, rfl, ha, la⟩ := hx
    exact sl_list pins s σ H _ v vl vu lo hi sl Q I rx hs pl pu ⟨a, vs, rfl, SqL.of ha, fun p n => out_lst hle k hd (la.cut lo hi) n⟩
  | scr ns =>
    simp only [RdV, Rep] at hx
    obtain ⟨a, rfl, ha⟩ := hx
    rw [hG] at ha
    exact sl_list pins s σ H _ v vl vu lo hi sl Q I rx hs pl pu ⟨a, ns.map V.int, rfl, sqL_mono hle ha, fun p n => out_lst hle k hd ((RepL.of_map (G := G) (F := F) (f := V.int) (g := D.int) (fun i => Rep.int' i) ns).cut lo hi) n⟩
  | tup xs =>
    simp only [RdV, Rep] at hx
    obtain ⟨a, vs, rfl, ha, la⟩ := hx
    rw [hG] at ha
    refine sl_tupA pins s σ H _ v vl vu lo hi sl Q I rx hs pl pu ⟨a, vs, rfl, sqT_mono hle ha, fun e => ?_, fun _ p n => out_tup hle k hd (la.cut lo hi) n⟩
    have e2 : cutD xs lo hi = xs := by
      rw [la.length] at e
      unfold cutD
      rw [e.1, e.2, Nat.sub_zero, List.drop_zero, List.take_length]
    have hd' : Kd (.d (.tup (cutD xs lo hi))) := hd
    rw [e2] at hd'
    exact out_at hle k hd' (Rep.tup' (by rw [hG]; exact ha) la)
  | str z =>
    simp only [RdV, Rep] at hx
    subst hx
    exact sl_str (X := X) pins s σ H _ v vl vu lo hi sl Q I rx hs pl pu ⟨z, rfl, hd.1, out_at hle k hd.2 (Rep.str' _)⟩
  | _ => exact (show False from hd).elim
end DL

/-! DC: the small language (expressions C, statements Sm), what it means over data, when it is the given text. -/
namespace DH
open PySem PySem.Spec PyProof.Rows L2
/-- the parameters of such a lambda -/
def lamPs : Arguments → Option (List Str)
  | ⟨[], [], none, [], [], none, []⟩ => some []
  | ⟨[], [a], none, [], [], none, [.Constant (.int _) _ _]⟩ => if a.arg = ("_law_k" : Str) then some ["_law_k"] else none
  | _ => none
/-- the lambda's names: its own parameters, captured ones, globals -/
structure LamD (sc scope : Scope) (xs : List Str) : Prop where
  kind : scope.kind = .function
  co : scope.isCoroutine = false
  gen : scope.isGenerator = false
  own : ∀ y ∈ scope.names, y.2 ≠ .cell ∧ (y.2 = .local → y.1 ∈ xs)
  par : ∀ x ∈ xs, scope.names.lookup x = some .local
  free : ∀ y ∈ scope.names, y.2 = .free → sc.names.lookup y.1 = some .cell ∨ sc.names.lookup y.1 = some .free
def lamDB (sc scope : Scope) (xs : List Str) : Bool :=
  decide (scope.kind = .function) && (!scope.isCoroutine && (!scope.isGenerator && (scope.names.all (fun y => !decide (y.2 = .cell) && (!decide (y.2 = .local) || decide (y.1 ∈ xs)) && (!decide (y.2 = .free) || (decide (sc.names.lookup y.1 = some .cell) || decide (sc.names.lookup y.1 = some .free)))) &&
    xs.all fun x => decide (scope.names.lookup x = some .local))))
theorem lamD_by {sc scope : Scope} {xs : List Str} (h : lamDB sc scope xs = true) : LamD sc scope xs := by
  unfold lamDB at h
  simp only [Bool.and_eq_true, Bool.or_eq_true, Bool.not_eq_true', decide_eq_true_eq, decide_eq_false_iff_not, List.all_eq_true] at h
  obtain ⟨h1, h2, h3, h4, h5⟩ := h
  refine ⟨h1, h2, h3, fun y hy => ⟨(h4 y hy).1.1, fun e => ?_⟩, h5, fun y hy e => ?_⟩
  · rcases (h4 y hy).1.2 with z | z
    · exact absurd e z
    · exact z
  · rcases (h4 y hy).2 with z | z
    · exact absurd e z
    · exact z
theorem LamD.has {X : Cx} {scope : Scope} {xs : List Str} (L : LamD X.env.scope scope xs) (ok : X.Ok) : ∀ y ∈ scope.names, y.2 = .free → ∃ c, X.env.cells.lookup y.1 = some c := fun y hy e => ok.has _ ((L.free y hy e).imp id id)
end DH
namespace DL
open PySem L2

/-- what an expression gives: data, the list of a slot, a new list -/
inductive R where
  | v (d : D) | pl (i : Nat) | n (xs : List D)
def R.ofRes : Res → R
  | .d x => .v x
  | .n xs => .n xs
def R.stl : R → R
  | .n xs => .v (.lst xs)
  | .v d => .v d
  | .pl i => .pl i
abbrev KR := R → Rho → Prop
def rdr (ρ : Rho) : R → (D → Prop) → Prop
  | .v d, K => K d
  | .n xs, K => K (.lst xs)
  | .pl i, K => match ρ[i]? with
    | some (.ow _ xs) => K (.lst xs)
    | some (.fz d) => K d
    | _ => False
def frz (ρ : Rho) : R → (D → Rho → Prop) → Prop
  | .v d, K => K d ρ
  | .n xs, K => K (.lst xs) ρ
  | .pl i, K => match ρ[i]? with
    | some (.ow false xs) => K (.lst xs) (ρ.set i (.fz (.lst xs)))
    | some (.fz d) => K d ρ
    | _ => False
def rdrs (ρ : Rho) : List R → (List D → Prop) → Prop
  | [], K => K []
  | r :: rs, K => rdr ρ r fun d => rdrs ρ rs fun ds => K (d :: ds)

/-- an exception: its class by number, its fields -/
structure Xn where
  cls : Nat
  fs : List (Str × D)
abbrev XP := Xn → Rho → Prop
/-- a contract: m: the first argument is a list to be changed (its content is bag); n arguments beside it -/
structure Ct where
  m : Bool
  n : Nat
  sem : (Xn → List D → Prop) → List D → List D → (Res → List D → Prop) → Prop
structure FnE where
  name : Str
  ct : Ct
  dflt : List D
structure Sg where
  gv : List (Str × D)
  fs : List FnE
  /-- own exceptions that are raised without arguments: the class, its word -/
  cs : List (Str × Str)

/-! ### built-ins by name -/
def ints? : List D → Option (List Int)
  | [] => some []
  | .int i :: r => (ints? r).map (i :: ·)
  | _ :: _ => none
def bls? : List D → Option (List Bool)
  | [] => some []
  | .bl i :: r => (bls? r).map (i :: ·)
  | _ :: _ => none
inductive Bi where
  | len | max2 | max3 | max1 | min2 | min1 | list | tuple | sum | any | all | int
def Bi.name : Bi → Str
  | .len => "len" | .max2 => "max" | .max3 => "max" | .max1 => "max" | .min2 => "min" | .min1 => "min" | .list => "list" | .tuple => "tuple" | .sum => "sum" | .any => "any" | .all => "all" | .int => "int"
def seqOf : D → (List D → Prop) → Prop
  | .lst xs, K => K xs
  | .tup xs, K => K xs
  | _, _ => False
def Bi.sem : Bi → List D → (Res → Prop) → Prop
  | .len, [.lst xs], K => K (.d (.int xs.length))
  | .len, [.tup xs], K => K (.d (.int xs.length))
  | .len, [.str s], K => s.length ≤ sizeLine ∧ K (.d (.int s.length))
  | .max2, [.int i, .int j], K => K (.d (.int (max i j)))
  | .min2, [.int i, .int j], K => K (.d (.int (min i j)))
  | .max3, [.int i, .int j, .int k], K => K (.d (.int (max (max i j) k)))
  | .max1, [.lst xs], K => ∃ ns : List Int, xs = ns.map D.int ∧ 0 < ns.length ∧ ∀ m, m ∈ ns → (∀ y, y ∈ ns → y ≤ m) → K (.d (.int m))
  | .max1, [.tup xs], K => ∃ ns : List Int, xs = ns.map D.int ∧ 0 < ns.length ∧ ∀ m, m ∈ ns → (∀ y, y ∈ ns → y ≤ m) → K (.d (.int m))
  | .min1, [.lst xs], K => ∃ ns : List Int, xs = ns.map D.int ∧ 0 < ns.length ∧ ∀ m, m ∈ ns → (∀ y, y ∈ ns → m ≤ y) → K (.d (.int m))
  | .list, [x], K => seqOf x fun xs => K (.n xs)
  | .tuple, [x], K => seqOf x fun xs => K (.d (.tup xs))
  | .sum, [.lst xs], K => ∃ ns : List Int, xs = ns.map D.int ∧ K (.d (.int ns.sum))
  | .any, [.lst xs], K => ∃ bs : List Bool, xs = bs.map D.bl ∧ K (.d (.bl (bs.any id)))
  | .all, [.lst xs], K => ∃ bs : List Bool, xs = bs.map D.bl ∧ K (.d (.bl (bs.all id)))
  | .int, [.int i], K => K (.d (.int i))
  | .int, [.bl b], K => K (.d (.int (if b then 1 else 0)))
  | _, _, _ => False

/-! ### built-in types by name -/
inductive Ty where | list | tuple | bool | int | str | none
deriving DecidableEq
def Ty.n : Ty → String | .list => "list" | .tuple => "tuple" | .bool => "bool" | .int => "int" | .str => "str" | .none => "NoneType"
def Ty.s (t : Ty) : Str := t.n
def tyD : D → Option Ty
  | .non => some .none | .bl _ => some .bool | .int _ => some .int | .str _ => some .str | .tup _ => some .tuple | .lst _ => some .list
  | _ => Option.none
def Ty.sub (a b : Ty) : Bool := decide (a = b) || (decide (a = .bool) && decide (b = .int))
def isiD (d : D) (ts : List Ty) (K : Bool → Prop) : Prop := match tyD d with
  | some t => K (ts.any t.sub)
  | Option.none => False

/-! ### methods of built-in types, with one argument -/
inductive Bm where
  | lindex | sjoin | sfind | srfind | scount | sstarts
def Bm.name : Bm → Str
  | .lindex => "index" | .sjoin => "join" | .sfind => "find" | .srfind => "rfind" | .scount => "count" | .sstarts => "startswith"
def Bm.ty : Bm → Ty
  | .lindex => .list
  | _ => .str
def Bm.sem : Bm → D → D → (Res → Prop) → Prop
  | .lindex, .lst xs, .str z, K => ∃ (ys : List Str) (j : Nat), xs = ys.map D.str ∧ ys[j]? = some z ∧ (∀ m, m < j → ys[m]? ≠ some z) ∧ K (.d (.int j))
  | .sjoin, .str a, .lst xs, K => ∃ ys : List Str, xs = ys.map D.str ∧ (ys.map (·.length)).sum + ys.length * a.length ≤ 16777216 ∧ K (.d (.str (Txt.join a ys)))
  | .sjoin, .str a, .tup xs, K => ∃ ys : List Str, xs = ys.map D.str ∧ (ys.map (·.length)).sum + ys.length * a.length ≤ 16777216 ∧ K (.d (.str (Txt.join a ys)))
  | .sfind, .str a, .str b, K => K (.d (.int (Txt.find a b)))
  | .srfind, .str a, .str b, K => K (.d (.int (Txt.rfind a b)))
  | .scount, .str a, .str b, K => K (.d (.int (Txt.count a b)))
  | .sstarts, .str a, .str b, K => K (.d (.bl (Txt.startswith a b)))
  | _, _, _, _ => False
/-- list(range(n)) -/
def rgD : D → (List D → Prop) → Prop
  | .int n, K => (-1000 ≤ n ∧ n ≤ 16777216) ∧ K ((List.range n.toNat).map fun i => D.int (i : Nat))
  | _, _ => False
/-! ### the language -/
mutual
inductive Tg where
  | nm (i : Nat) | tp (ts : Tgs)
inductive Tgs where
  | nil | cons (t : Tg) (r : Tgs)
end
mutual
inductive C where
  | var (i : Nat) | int (i : Int) | str (s : Str) | bl (b : Bool) | non
  | glob (x : Str)
  | bin (o : BOp) (a b : C)
  | neg (a : C)
  | cmp (o : COp) (a b : C)
  | cmp2 (o o' : COp) (a b c : C)
  | and (a b : C) | or (a b : C) | one (a : C) | not (a : C)
  | ife (t a b : C)
  | tup (es : Cs) | lst (es : Cs)
  | ix (a b : C)
  | sl (a : C) (lo hi : Co)
  | bi (b : Bi) (es : Cs)
  | call (f : Nat) (es : Cs)
  | callm (f : Nat) (i : Nat) (es : Cs)
  | comp (own : List (Str × Nat)) (t : Tg) (it : Src) (ifs : Cs) (e : C)
  | isi (one : Bool) (a : C) (ts : List Ty)
  | told (fz wp : List Nat) (c : C)
  | bm (m : Bm) (a b : C)
  | dget (kvs : List (Str × Str)) (i j : Nat)
  | lrg (a : C)
inductive Co where
  | no | so (c : C)
inductive Cs where
  | nil | cons (c : C) (r : Cs)
inductive Src where
  | seq (c : C) | rng1 (c : C) | rng2 (a b : C) | zip (a b : C)
end
mutual
inductive Sm where
  | set (i : Nat) (c : C)
  | tgt (t : Tg) (c : C)
  | par (i j : Nat) (a b : C)
  | seti (i : Nat) (k c : C)
  | augi (i : Nat) (k c : C)
  | aug (i : Nat) (c : C)
  | app (i : Nat) (c : C)
  | ex (c : C)
  | ret (c : C) | retn
  | ife (t : C) (a b : Ss)
  | for (t : Tg) (it : Src) (b : Ss)
  | while (t : C) (b : Ss)
  | pass | brk | cont | nev
  | raise (k : Nat)
inductive Ss where
  | nil | cons (s : Sm) (r : Ss)
end

/-! ### its meaning -/
/-- may be stored to -/
def open? (ρ : Rho) (i : Nat) : Bool := match ρ[i]? with
  | some (.ow true _) => false
  | none => false
  | _ => true
def isOw (ρ : Rho) (i : Nat) : Bool := match ρ[i]? with
  | some (.ow _ _) => true
  | _ => false
def notOw (ρ : Rho) (i : Nat) : Bool := match ρ[i]? with
  | some (.ow _ _) => false
  | none => false
  | _ => true
mutual
def tgD : Tg → D → Rho → (Rho → Prop) → Prop
  | .nm i, d, ρ, K => open? ρ i = true ∧ K (ρ.set i (.fz d))
  | .tp ts, .tup xs, ρ, K => tgsD ts xs ρ K
  | .tp _, _, _, _ => False
def tgsD : Tgs → List D → Rho → (Rho → Prop) → Prop
  | .nil, [], ρ, K => K ρ
  | .cons t r, d :: ds, ρ, K => tgD t d ρ fun ρ1 => tgsD r ds ρ1 K
  | _, _, _, _ => False
end
mutual
def tgIn (vs : List Nat) : Tg → Bool
  | .nm i => vs.contains i
  | .tp ts => tgsIn vs ts
def tgsIn (vs : List Nat) : Tgs → Bool
  | .nil => true
  | .cons t r => tgIn vs t && tgsIn vs r
end
def wipeR (ρ : Rho) : List Nat → Rho
  | [] => ρ
  | i :: r => (wipeR ρ r).set i .no
def unwipe (ρ1 ρ2 : Rho) : List Nat → Rho
  | [] => ρ2
  | i :: r => (unwipe ρ1 ρ2 r).set i (ρ1.getD i .no)
def itemsD : D → (List D → Prop) → Prop
  | .lst xs, K => K xs
  | .tup xs, K => K xs
  | .str z, K => K (z.cps.toList.map fun c => .str ⟨#[c]⟩)
  | _, _ => False
def zipD : D → D → (List D → Prop) → Prop
  | .lst xs, .lst ys, K => K (List.zipWith (fun x y => .tup [x, y]) xs ys)
  | .tup xs, .tup ys, K => K (List.zipWith (fun x y => .tup [x, y]) xs ys)
  | _, _, _ => False
/-- a comprehension: ft its tests, fe its element -/
def compD (vs : List Nat) (t : Tg) (ft : Rho → (Bool → Rho → Prop) → Prop) (fe : Rho → KR → Prop) : List D → List D → Rho → (List D → Rho → Prop) → Prop
  | [], acc, ρ, K => K acc ρ
  | d :: ds, acc, ρ, K => tgD t d ρ fun ρ1 => ft ρ1 fun b ρ2 =>
      if b = true then fe ρ2 fun r ρ3 => frz ρ3 r fun x ρ4 => acc.length < sizeLine ∧ vs.all (notOw ρ4) = true ∧ compD vs t ft fe ds (acc ++ [x]) (wipeR ρ4 vs) K
      else vs.all (notOw ρ2) = true ∧ compD vs t ft fe ds acc (wipeR ρ2 vs) K
/-- lists of the frame's own are frozen -/
def frzL : Rho → List Nat → Rho
  | ρ, [] => ρ
  | ρ, i :: r => frzL (match ρ[i]? with
    | some (.ow false xs) => ρ.set i (.fz (.lst xs))
    | _ => ρ) r
def noOw : Sl → Sl
  | .ow _ _ => .no
  | s => s
/-- the slots that a lambda's body sees -/
def lamR (wp : List Nat) (ρ : Rho) : Rho := wipeR (ρ.map noOw) wp
/-- the field of a class's exceptions that _law_told tells -/
def fldOf (n : Str) : Option Str := if n = "BadText" then some "at" else if n = "BadPage" then some "row" else if n = "TooWide" then some "most" else none
/-- what _law_told tells of an exception -/
def toldX (cs : List (Str × Str)) (xn : Xn) (K : D → Prop) : Prop := match cs[xn.cls]? with
  | some c => xn.fs.lookup ("word" : Str) = some (.str c.2) ∧ match fldOf c.1 with
    | some m => ∃ d, xn.fs.lookup m = some d ∧ K (.tup [.str c.2, d])
    | none => K (.tup [.str c.2, .non])
  | none => False
def sl2 (x : D) (lo hi : Option Int) (K : Res → Prop) : Prop := slD x lo hi K
mutual
def iE (S : Sg) (xp : XP) : C → Rho → KR → Prop
  | .var i, ρ, K => match ρ[i]? with
    | some (.fz d) => K (.v d) ρ
    | some (.ow _ _) => K (.pl i) ρ
    | _ => False
  | .int i, ρ, K => K (.v (.int i)) ρ
  | .str s, ρ, K => K (.v (.str s)) ρ
  | .bl b, ρ, K => K (.v (.bl b)) ρ
  | .non, ρ, K => K (.v .non) ρ
  | .glob x, ρ, K => match S.gv.lookup x with
    | some d => K (.v d) ρ
    | none => False
  | .bin o a b, ρ, K => iE S xp a ρ fun x ρ1 => iE S xp b ρ1 fun y ρ2 => rdr ρ2 x.stl fun dx => rdr ρ2 y.stl fun dy => o.sem dx dy fun r => K (R.ofRes r) ρ2
  | .neg a, ρ, K => iE S xp a ρ fun x ρ1 => match x with
    | .v (.int i) => K (.v (.int (-i))) ρ1
    | _ => False
  | .cmp o a b, ρ, K => iE S xp a ρ fun x ρ1 => iE S xp b ρ1 fun y ρ2 => rdr ρ2 x.stl fun dx => rdr ρ2 y.stl fun dy => o.sem dx dy fun r => K (.v (.bl r)) ρ2
  | .cmp2 o o' a b c, ρ, K => iE S xp a ρ fun x ρ1 => iE S xp b ρ1 fun y ρ2 => rdr ρ2 x.stl fun dx => rdr ρ2 y.stl fun dy => o.sem dx dy fun r =>
      if r = true then iE S xp c ρ2 fun z ρ3 => rdr ρ3 y.stl fun dy' => rdr ρ3 z.stl fun dz => o'.sem dy' dz fun r' => K (.v (.bl r')) ρ3 else K (.v (.bl false)) ρ2
  | .and a b, ρ, K => iE S xp a ρ fun x ρ1 => match x with
    | .v (.bl c) => if c = true then iE S xp b ρ1 K else K (.v (.bl false)) ρ1
    | _ => False
  | .or a b, ρ, K => iE S xp a ρ fun x ρ1 => match x with
    | .v (.bl c) => if c = true then K (.v (.bl true)) ρ1 else iE S xp b ρ1 K
    | _ => False
  | .one a, ρ, K => iE S xp a ρ K
  | .not a, ρ, K => iE S xp a ρ fun x ρ1 => match x with
    | .v (.bl c) => K (.v (.bl (!c))) ρ1
    | _ => False
  | .ife t a b, ρ, K => iT S xp t ρ fun c ρ1 => if c = true then iE S xp a ρ1 K else iE S xp b ρ1 K
  | .tup es, ρ, K => iAs S xp es ρ fun ds ρ1 => ds.length ≤ sizeLine ∧ K (.v (.tup ds)) ρ1
  | .lst es, ρ, K => iAs S xp es ρ fun ds ρ1 => ds.length ≤ sizeLine ∧ K (.n ds) ρ1
  | .ix a b, ρ, K => iE S xp a ρ fun x ρ1 => iE S xp b ρ1 fun y ρ2 => rdr ρ2 x.stl fun dx => rdr ρ2 y.stl fun dy => ixD dx dy fun r => K (R.ofRes r) ρ2
  | .sl a lo hi, ρ, K => iE S xp a ρ fun x ρ1 => iO S xp lo ρ1 fun l ρ2 => iO S xp hi ρ2 fun h ρ3 => rdr ρ3 x.stl fun dx => slD dx l h fun r => K (R.ofRes r) ρ3
  | .bi b es, ρ, K => iRs S xp es ρ fun rs ρ1 => rdrs ρ1 rs fun ds => b.sem ds fun r => K (R.ofRes r) ρ1
  | .call f es, ρ, K => iAs S xp es ρ fun ds ρ1 => match S.fs[f]? with
    | none => False
    | some e => (e.ct.m = false ∧ (ds ++ e.dflt).length = e.ct.n) ∧ e.ct.sem (fun xn _ => xp xn ρ1) [] (ds ++ e.dflt) fun r _ => K (R.ofRes r) ρ1
  | .callm f i es, ρ, K => isOw ρ i = true ∧ iAs S xp es ρ fun ds ρ1 => match S.fs[f]?, ρ1[i]? with
    | some e, some (.ow b xs) => (e.ct.m = true ∧ (ds ++ e.dflt).length = e.ct.n) ∧ e.ct.sem (fun xn bag => xp xn (ρ1.set i (.ow b bag))) xs (ds ++ e.dflt) fun r bag => K (R.ofRes r) (ρ1.set i (.ow b bag))
    | _, _ => False
  | .comp own t it ifs e, ρ, K => iI S xp it ρ fun ds ρ1 => ((own.map (·.2)).all (notOw ρ1) = true ∧ tgIn (own.map (·.2)) t = true) ∧
      compD (own.map (·.2)) t (fun ρ K => iTs S (fun _ _ => False) ifs ρ K) (fun ρ K => iE S (fun _ _ => False) e ρ K) ds [] (wipeR ρ1 (own.map (·.2))) fun acc ρ2 => K (.n acc) (unwipe ρ1 ρ2 (own.map (·.2)))
  | .isi _ a ts, ρ, K => iE S xp a ρ fun x ρ1 => rdr ρ1 x.stl fun d => isiD d ts fun b => K (.v (.bl b)) ρ1
  | .bm m a b, ρ, K => iE S xp a ρ fun x ρ1 => (rdr ρ1 x.stl fun d => tyD d = some m.ty) ∧ iE S xp b ρ1 fun y ρ2 => rdr ρ2 x.stl fun dx => rdr ρ2 y.stl fun dy => m.sem dx dy fun r => K (R.ofRes r) ρ2
  | .lrg a, ρ, K => iE S xp a ρ fun x ρ1 => rdr ρ1 x.stl fun d => rgD d fun xs => K (.n xs) ρ1
  | .dget kvs i j, ρ, K => match ρ[i]?, ρ[j]? with
    | some (.fz (.str z)), some (.fz d) => K (.v (((kvs.reverse.lookup z).map D.str).getD d)) ρ
    | _, _ => False
  | .told fz wp c, ρ, K => wp.all (notOw ((frzL ρ fz).map noOw)) = true ∧ iE S (fun xn _ => toldX S.cs xn fun d => K (.v d) (frzL ρ fz)) c (lamR wp (frzL ρ fz)) fun r ρ' => frz ρ' r.stl fun d _ => K (.v (.tup [.str "told", d])) (frzL ρ fz)
def iT (S : Sg) (xp : XP) : C → Rho → (Bool → Rho → Prop) → Prop
  | .and a b, ρ, K => iT S xp a ρ fun c ρ1 => if c = true then iT S xp b ρ1 K else K false ρ1
  | .or a b, ρ, K => iT S xp a ρ fun c ρ1 => if c = true then K true ρ1 else iT S xp b ρ1 K
  | .one a, ρ, K => iT S xp a ρ K
  | .not a, ρ, K => iT S xp a ρ fun c ρ1 => K (!c) ρ1
  | .cmp o a b, ρ, K => iE S xp a ρ fun x ρ1 => iE S xp b ρ1 fun y ρ2 => rdr ρ2 x.stl fun dx => rdr ρ2 y.stl fun dy => o.sem dx dy fun r => K r ρ2
  | .cmp2 o o' a b c, ρ, K => iE S xp a ρ fun x ρ1 => iE S xp b ρ1 fun y ρ2 => rdr ρ2 x.stl fun dx => rdr ρ2 y.stl fun dy => o.sem dx dy fun r =>
      if r = true then iE S xp c ρ2 fun z ρ3 => rdr ρ3 y.stl fun dy' => rdr ρ3 z.stl fun dz => o'.sem dy' dz fun r' => K r' ρ3 else K false ρ2
  | .var i, ρ, K => rdr ρ (.pl i) fun d => truD d fun b => K b ρ
  | .bi b es, ρ, K => iRs S xp es ρ fun rs ρ1 => rdrs ρ1 rs fun ds => b.sem ds fun r => match r with
    | .d x => truD x fun b => K b ρ1
    | .n xs => K (!xs.isEmpty) ρ1
  | .call f es, ρ, K => iAs S xp es ρ fun ds ρ1 => match S.fs[f]? with
    | none => False
    | some e => (e.ct.m = false ∧ (ds ++ e.dflt).length = e.ct.n) ∧ e.ct.sem (fun xn _ => xp xn ρ1) [] (ds ++ e.dflt) fun r _ => match r with
      | .d x => truD x fun b => K b ρ1
      | .n xs => K (!xs.isEmpty) ρ1
  | .callm f i es, ρ, K => isOw ρ i = true ∧ iAs S xp es ρ fun ds ρ1 => match S.fs[f]?, ρ1[i]? with
    | some e, some (.ow b xs) => (e.ct.m = true ∧ (ds ++ e.dflt).length = e.ct.n) ∧ e.ct.sem (fun xn bag => xp xn (ρ1.set i (.ow b bag))) xs (ds ++ e.dflt) fun r bag => match r with
      | .d x => truD x fun c => K c (ρ1.set i (.ow b bag))
      | .n ys => K (!ys.isEmpty) (ρ1.set i (.ow b bag))
    | _, _ => False
  | .isi _ a ts, ρ, K => iE S xp a ρ fun x ρ1 => rdr ρ1 x.stl fun d => isiD d ts fun b => K b ρ1
  | _, _, _ => False
def iO (S : Sg) (xp : XP) : Co → Rho → (Option Int → Rho → Prop) → Prop
  | .no, ρ, K => K none ρ
  | .so c, ρ, K => iE S xp c ρ fun x ρ1 => match x with
    | .v (.int i) => K (some i) ρ1
    | _ => False
def iAs (S : Sg) (xp : XP) : Cs → Rho → (List D → Rho → Prop) → Prop
  | .nil, ρ, K => K [] ρ
  | .cons c r, ρ, K => iE S xp c ρ fun x ρ1 => frz ρ1 x.stl fun d ρ2 => iAs S xp r ρ2 fun ds ρ3 => K (d :: ds) ρ3
def iRs (S : Sg) (xp : XP) : Cs → Rho → (List R → Rho → Prop) → Prop
  | .nil, ρ, K => K [] ρ
  | .cons c r, ρ, K => iE S xp c ρ fun x ρ1 => iRs S xp r ρ1 fun rs ρ2 => K (x.stl :: rs) ρ2
def iTs (S : Sg) (xp : XP) : Cs → Rho → (Bool → Rho → Prop) → Prop
  | .nil, ρ, K => K true ρ
  | .cons c .nil, ρ, K => iT S xp c ρ K
  | .cons _ (.cons _ _), _, _ => False
def iI (S : Sg) (xp : XP) : Src → Rho → (List D → Rho → Prop) → Prop
  | .seq c, ρ, K => iE S xp c ρ fun x ρ1 => frz ρ1 x.stl fun d ρ2 => itemsD d fun ds => K ds ρ2
  | .rng1 c, ρ, K => iE S xp c ρ fun x ρ1 => match x with
    | .v (.int n) => (-(2 ^ 62) ≤ n ∧ n < 2 ^ 62) ∧ K ((List.range n.toNat).map fun (k : Nat) => D.int (k : Int)) ρ1
    | _ => False
  | .rng2 a b, ρ, K => iE S xp a ρ fun x ρ1 => iE S xp b ρ1 fun y ρ2 => match x, y with
    | .v (.int i), .v (.int j) => (-(2 ^ 62) ≤ i ∧ i < 2 ^ 62 ∧ -(2 ^ 62) ≤ j ∧ j < 2 ^ 62) ∧ K ((List.range (j - i).toNat).map fun (k : Nat) => D.int (i + (k : Int))) ρ2
    | _, _ => False
  | .zip a b, ρ, K => iE S xp a ρ fun x ρ1 => frz ρ1 x.stl fun dx ρ2 => iE S xp b ρ2 fun y ρ3 => frz ρ3 y.stl fun dy ρ4 => zipD dx dy fun ds => K ds ρ4
end
/-- what is wanted behind a statement -/
structure DE where
  nx : Rho → Prop
  rt : R → Rho → Prop
  bk : Rho → Prop := fun _ => False
  ct : Rho → Prop := fun _ => False
def setR (ρ : Rho) (i : Nat) (r : R) (K : Rho → Prop) : Prop := match r with
  | .v d => open? ρ i = true ∧ K (ρ.set i (.fz d))
  | .n xs => open? ρ i = true ∧ K (ρ.set i (.ow false xs))
  | .pl j => frz ρ (.pl j) fun d ρ' => open? ρ' i = true ∧ K (ρ'.set i (.fz d))
def forD (t : Tg) (fb : Rho → DE → Prop) : List D → Rho → DE → Prop
  | [], ρ, E => E.nx ρ
  | d :: ds, ρ, E => tgD t d ρ fun ρ1 => fb ρ1 { E with nx := fun ρ2 => forD t fb ds ρ2 E, ct := fun ρ2 => forD t fb ds ρ2 E, bk := E.nx }
mutual
def iS (S : Sg) (xp : XP) : Sm → Rho → DE → Prop
  | .set i c, ρ, E => iE S xp c ρ fun r ρ1 => setR ρ1 i r E.nx
  | .tgt t c, ρ, E => iE S xp c ρ fun r ρ1 => frz ρ1 r.stl fun d ρ2 => tgD t d ρ2 E.nx
  | .par i j a b, ρ, E => iE S xp a ρ fun x ρ1 => frz ρ1 x.stl fun d ρ2 => iE S xp b ρ2 fun y ρ3 => frz ρ3 y.stl fun e ρ4 => (open? ρ4 i = true ∧ open? ρ4 j = true) ∧ E.nx ((ρ4.set i (.fz d)).set j (.fz e))
  | .seti i k c, ρ, E => iE S xp c ρ fun x ρ1 => frz ρ1 x.stl fun d ρ2 => isOw ρ2 i = true ∧ iE S xp k ρ2 fun y ρ3 => match y, ρ3[i]? with
    | .v (.int n), some (.ow b xs) => ∃ j, ixN xs.length n = some j ∧ E.nx (ρ3.set i (.ow b (xs.set j d)))
    | _, _ => False
  | .augi i k c, ρ, E => isOw ρ i = true ∧ iE S xp k ρ fun y ρ1 => match y, ρ1[i]? with
    | .v (.int n), some (.ow _ xs) => ∃ m, atI xs n = some (.int m) ∧ iE S xp c ρ1 fun z ρ2 => match z, ρ2[i]? with
      | .v (.int l), some (.ow b ys) => ∃ j, ixN ys.length n = some j ∧ E.nx (ρ2.set i (.ow b (ys.set j (.int (m + l)))))
      | _, _ => False
    | _, _ => False
  | .aug i c, ρ, E => match ρ[i]? with
    | some (.fz dx) => iE S xp c ρ fun y ρ1 => rdr ρ1 y.stl fun dy => match dx, dy with
      | .int m, .int l => open? ρ1 i = true ∧ E.nx (ρ1.set i (.fz (.int (m + l))))
      | _, _ => False
    | _ => False
  | .app i c, ρ, E => isOw ρ i = true ∧ iE S xp c ρ fun x ρ1 => frz ρ1 x.stl fun d ρ2 => match ρ2[i]? with
    | some (.ow b xs) => xs.length < sizeLine ∧ E.nx (ρ2.set i (.ow b (xs ++ [d])))
    | _ => False
  | .ex c, ρ, E => iE S xp c ρ fun _ ρ1 => E.nx ρ1
  | .ret c, ρ, E => iE S xp c ρ E.rt
  | .retn, ρ, E => E.rt (.v .non) ρ
  | .ife t a b, ρ, E => iT S xp t ρ fun c ρ1 => if c = true then iSs S xp a ρ1 E else iSs S xp b ρ1 E
  | .for t it b, ρ, E => iI S xp it ρ fun ds ρ1 => forD t (fun ρ E => iSs S xp b ρ E) ds ρ1 E
  | .while t b, ρ, E => ∃ I : Nat → Rho → Prop, (∃ m, I m ρ) ∧ ∀ m ρ, I m ρ → iT S xp t ρ fun c ρ1 =>
      if c = true then iSs S xp b ρ1 { E with nx := fun ρ2 => ∃ m', m' < m ∧ I m' ρ2, ct := fun ρ2 => ∃ m', m' < m ∧ I m' ρ2, bk := E.nx } else E.nx ρ1
  | .pass, ρ, E => E.nx ρ
  | .brk, ρ, E => E.bk ρ
  | .cont, ρ, E => E.ct ρ
  | .nev, _, _ => False
  | .raise k, ρ, _ => match S.cs[k]? with
    | some c => xp ⟨k, [("word", .str c.2)]⟩ ρ
    | none => False
def iSs (S : Sg) (xp : XP) : Ss → Rho → DE → Prop
  | .nil, ρ, E => E.nx ρ
  | .cons s r, ρ, E => iS S xp s ρ { E with nx := fun ρ1 => iSs S xp r ρ1 E }
end

/-! ### when it is the text -/
def visB (sc : Scope) (x : Str) : Bool := match sc.names.lookup x with
  | some .local => true
  | some .cell => true
  | some .free => true
  | _ => false
def locB (sc : Scope) (x : Str) : Bool := match sc.names.lookup x with
  | some .local => true
  | some .cell => true
  | _ => false
def glB (sc : Scope) (x : Str) : Bool := match sc.names.lookup x with
  | some .globalImplicit => true
  | _ => false
def noDb (x : Str) : Bool := !(x == ("__debug__" : Str)) && !(x == ("__classdict__" : Str))
def opB : BOp → Operator → Bool
  | .add, .Add => true | .sub, .Sub => true | .mul, .Mult => true | .fdiv, .FloorDiv => true | .mod, .Mod => true | .pow, .Pow => true
  | _, _ => false
def cmB : COp → CmpOp → Bool
  | .eq, .Eq => true | .ne, .NotEq => true | .lt, .Lt => true | .le, .LtE => true | .gt, .Gt => true | .ge, .GtE => true | .isin, .In => true | .notin, .NotIn => true | .is, .Is => true | .isnot, .IsNot => true
  | _, _ => false
/-- what may stand as an argument, an item, an index, a value that is stored or dropped -/
def plainE : Expr → Bool
  | .Starred .. => false
  | .Slice .. => false
  | .Set .. => false
  | .Lambda .. => false
  | _ => true
/-- what may stand ahead of a dot -/
def objE : Expr → Bool
  | .Call (.Name _ _) [] [] _ => false
  | _ => true
/-- a dict of written texts -/
def mKv : List (Str × Str) → List (Option Expr) → List Expr → Bool
  | [], [], [] => true
  | p :: r, some (.Constant (.str k) _ _) :: ks, .Constant (.str v) _ _ :: vs => decide (k = p.1) && (decide (v = p.2) && mKv r ks vs)
  | _, _, _ => false
def mTy (sc : Scope) : List Ty → List Expr → Bool
  | [], [] => true
  | t :: ts, .Name y _ :: es => decide (y = t.s) && decide (t ≠ .none) && glB sc y && mTy sc ts es
  | _, _ => false
mutual
def mG (N : List Str) (sc : Scope) : Tg → Expr → Bool
  | .nm i, .Name x _ => decide (N[i]? = some x) && locB sc x
  | .tp ts, .Tuple es _ _ => mGs N sc ts es
  | _, _ => false
def mGs (N : List Str) (sc : Scope) : Tgs → List Expr → Bool
  | .nil, [] => true
  | .cons t r, e :: es => plainE e && mG N sc t e && mGs N sc r es
  | _, _ => false
end
mutual
def mE (S : Sg) (N : List Str) (sc : Scope) : C → Expr → Bool
  | .var i, .Name x _ => decide (N[i]? = some x) && visB sc x && noDb x
  | .int i, .Constant (.int j) _ _ => decide (i = j)
  | .str s, .Constant (.str t) _ _ => decide (s = t)
  | .bl b, .Constant (.bool c) _ _ => b == c
  | .non, .Constant .none _ _ => true
  | .glob x, .Name y _ => decide (x = y) && glB sc x && noDb x
  | .bin o a b, .BinOp ea op eb _ => opB o op && mE S N sc a ea && mE S N sc b eb
  | .neg a, .UnaryOp .USub ea _ => mE S N sc a ea
  | .cmp o a b, .Compare ea [op] [eb] _ => cmB o op && plainE eb && mE S N sc a ea && mE S N sc b eb
  | .cmp2 o o' a b c, .Compare ea [op, op'] [eb, ec] _ => cmB o op && cmB o' op' && plainE eb && plainE ec && mE S N sc a ea && mE S N sc b eb && mE S N sc c ec
  | .and a b, .BoolOp .And (ea :: eb :: r) p => mE S N sc a ea && mE S N sc b (.BoolOp .And (eb :: r) p)
  | .or a b, .BoolOp .Or (ea :: eb :: r) p => mE S N sc a ea && mE S N sc b (.BoolOp .Or (eb :: r) p)
  | .one a, .BoolOp _ [ea] _ => mE S N sc a ea
  | .not a, .UnaryOp .Not ea _ => mE S N sc a ea
  | .ife t a b, .IfExp et ea eb _ => mE S N sc t et && mE S N sc a ea && mE S N sc b eb
  | .tup es, .Tuple l _ _ => mEs S N sc es l
  | .lst es, .List l _ => mEs S N sc es l
  | .ix a b, .Subscript ea eb _ => plainE eb && mE S N sc a ea && mE S N sc b eb
  | .sl a lo hi, .Subscript ea (.Slice l h none _) _ => mE S N sc a ea && mO S N sc lo l && mO S N sc hi h
  | .bi b es, .Call (.Name x _) (e :: l) [] _ => decide (x = b.name) && glB sc x && mEs S N sc es (e :: l)
  | .call f es, .Call (.Name x _) l [] _ => (match S.fs[f]? with
    | some e => decide (x = e.name)
    | none => false) && glB sc x && noDb x && mEs S N sc es l
  | .callm f i es, .Call (.Name x _) (.Name y _ :: l) [] _ => (match S.fs[f]? with
    | some e => decide (x = e.name)
    | none => false) && glB sc x && noDb x && decide (N[i]? = some y) && visB sc y && noDb y && mEs S N sc es l
  | .comp own t it ifs e, .ListComp elt [⟨tg, iter, is, 0⟩] scope _ => blkC N sc scope own && plainE iter && mI S N sc it iter tg && mG N scope t tg && mTs S N scope ifs is && mE S N scope e elt && decide (scope.names.lookup ("_law_told" : Str) = none)
  | .isi true a [t], .Call (.Name x _) [e, .Name y _] [] _ => decide (x = ("isinstance" : Str)) && glB sc x && plainE e && mTy sc [t] [.Name y ⟨0, 0, 0, 0⟩] && mE S N sc a e
  | .isi false a ts, .Call (.Name x _) [e, .Tuple l _ _] [] _ => decide (x = ("isinstance" : Str)) && glB sc x && decide (ts.length ≤ 100) && plainE e && mTy sc ts l && mE S N sc a e
  | .bm m a b, .Call (.Attribute ea x ap) [eb] [] cp => decide (x = m.name) && ((ap.endLine == cp.line) && (plainE eb && (objE ea && (mE S N sc a ea && mE S N sc b eb))))
  | .dget kvs i j, .Call (.Attribute (.Dict ks vs _) x ap) [.Name y _, .Name z _] [] cp => decide (x = ("get" : Str)) && ((ap.endLine == cp.line) && (decide (kvs ≠ []) && (decide (kvs.length ≤ 15) && (mKv kvs ks vs && (decide (N[i]? = some y) && (visB sc y && (noDb y && (decide (N[j]? = some z) && (visB sc z && noDb z)))))))))
  | .lrg a, .Call (.Name x _) [.Call (.Name y _) [e] [] _] [] _ => decide (x = ("list" : Str)) && (glB sc x && (decide (y = ("range" : Str)) && (glB sc y && (plainE e && mE S N sc a e))))
  | .told _ wp c, .Call (.Name x _) [.Lambda params body scope _] [] _ => decide (x = ("_law_told" : Str)) && (glB sc x && ((match DH.lamPs params with
    | some xs => DH.lamDB sc scope xs && (List.range N.length).all fun i => wp.contains i || !(match N[i]? with | some y => decide (y ∈ xs) | none => false)
    | none => false) && (decide (scope.names.lookup ("_law_told" : Str) = none) && mE S N scope c body)))
  | _, _ => false
def mO (S : Sg) (N : List Str) (sc : Scope) : Co → Option Expr → Bool
  | .no, none => true
  | .so c, some e => mE S N sc c e
  | _, _ => false
def mEs (S : Sg) (N : List Str) (sc : Scope) : Cs → List Expr → Bool
  | .nil, [] => true
  | .cons c r, e :: es => plainE e && mE S N sc c e && mEs S N sc r es
  | _, _ => false
def mTs (S : Sg) (N : List Str) (sc : Scope) : Cs → List Expr → Bool
  | .nil, [] => true
  | .cons c .nil, [e] => mE S N sc c e
  | _, _ => false
def mI (S : Sg) (N : List Str) (sc : Scope) : Src → Expr → Expr → Bool
  | .seq c, e, _ => mE S N sc c e
  | .rng1 c, .Call (.Name x _) [e] [] _, _ => decide (x = ("range" : Str)) && glB sc x && plainE e && mE S N sc c e
  | .rng2 a b, .Call (.Name x _) [e, f] [] _, _ => decide (x = ("range" : Str)) && glB sc x && plainE e && plainE f && mE S N sc a e && mE S N sc b f
  | .zip a b, .Call (.Name x _) [e, f] [] _, .Tuple _ _ _ => decide (x = ("zip" : Str)) && glB sc x && plainE e && plainE f && mE S N sc a e && mE S N sc b f
  | _, _, _ => false
end
mutual
def mS (S : Sg) (N : List Str) (sc : Scope) : Sm → Stmt → Bool
  | .set i c, .Assign [.Name x _] e _ => decide (N[i]? = some x) && locB sc x && plainE e && mE S N sc c e
  | .tgt t c, .Assign [.Tuple es k p] e _ => plainE e && (match e with | .Tuple vs _ _ => vs.all (foldedForSure 8) | .ListComp .. => false | _ => true) && mG N sc t (.Tuple es k p) && mE S N sc c e
  | .par i j a b, .Assign [.Tuple [.Name x px, .Name y py] _ _] (.Tuple [ea, eb] _ _) _ => decide (N[i]? = some x) && decide (N[j]? = some y) && decide (i ≠ j) && decide (sc.names.lookup x = some .local) && decide (sc.names.lookup y = some .local) &&
      decide (px.line = py.line) && (!foldedForSure 8 ea || !foldedForSure 8 eb) && (!constantsAlone 8 ea || !constantsAlone 8 eb) && plainE ea && plainE eb && mE S N sc a ea && mE S N sc b eb
  | .seti i k c, .Assign [.Subscript (.Name x _) ek _] e _ => decide (N[i]? = some x) && visB sc x && noDb x && plainE ek && plainE e && (match e with | .ListComp .. => false | _ => true) && mE S N sc k ek && mE S N sc c e
  | .augi i k c, .AugAssign (.Subscript (.Name x _) ek _) .Add e _ => decide (N[i]? = some x) && visB sc x && noDb x && plainE ek && mE S N sc k ek && mE S N sc c e
  | .aug i c, .AugAssign (.Name x _) .Add e _ => decide (N[i]? = some x) && locB sc x && mE S N sc c e
  | .app i c, .Expr (.Call (.Attribute (.Name x _) m ap) [e] [] cp) _ => (ap.endLine == cp.line) && decide (m = ("append" : Str)) && decide (N[i]? = some x) && visB sc x && noDb x && plainE e && mE S N sc c e
  | .ex c, .Expr e _ => (match e with | .Call .. => true | _ => false) && mE S N sc c e
  | .ret c, .Return (some e) _ => mE S N sc c e
  | .retn, .Return none _ => true
  | .ife t a b, .If et ea eb _ => mE S N sc t et && mSs S N sc a ea && mSs S N sc b eb
  | .for t it b, .For tg iter body [] _ => plainE iter && mI S N sc it iter tg && mG N sc t tg && mSs S N sc b body
  | .while t b, .While et body [] _ => mE S N sc t et && mSs S N sc b body
  | .pass, .Pass _ => true
  | .pass, .Expr (.Constant (.str _) _ _) _ => true
  | .brk, .Break _ => true
  | .cont, .Continue _ => true
  | .nev, _ => true
  | .raise k, .Raise (some (.Call (.Name x _) [] [] _)) none _ => (match S.cs[k]? with
    | some c => decide (x = c.1)
    | none => false) && glB sc x && noDb x
  | _, _ => false
def mSs (S : Sg) (N : List Str) (sc : Scope) : Ss → List Stmt → Bool
  | .nil, [] => true
  | .cons s r, t :: ts => mS S N sc s t && mSs S N sc r ts
  | _, _ => false
end
end DL

/-! DS: the judgements of the small language and the rules of expressions. -/
namespace DL
open PySem L2

/-- a value held by an expression's result -/
def RelR (w : Wd) (F H : Hp) (σ : St) (ρ : Rho) (v : V) : R → Prop
  | .v d => Rep w.G F v d
  | .pl i => σ[i]? = some (some v)
  | .n xs => ∃ p vs, v = .ref p ∧ H p = some (.lst vs) ∧ RepL w.G F vs xs ∧ F p = none ∧ w.H0 p = none ∧ w.fr p = none ∧ Free σ ρ p
/-- .. settled: it may be held while others are reckoned -/
def RelS (w : Wd) (F : Hp) (σ : St) (v : V) : R → Prop
  | .v d => Rep w.G F v d
  | .pl i => σ[i]? = some (some v)
  | .n _ => False
def RepX (G : Gd) (F H : Hp) (cls : Value) (d : Option Addr) (xn : Xn) : Prop := cls = .ref (G.cl xn.cls) ∧ ∃ dd fs, d = some dd ∧ H dd = some (.xd fs) ∧ RepF G F fs xn.fs
def XW (w : Wd) (xp : XP) : WX := fun cls d σ H => ∃ F ρ xn, Rl w F H σ ρ ∧ RepX w.G F H cls d xn ∧ xp xn ρ

section
variable {w : Wd} {F F' H H' : Hp} {σ : St} {ρ : Rho} {v : V} {r : R}
theorem RelS.mono (h : Le F F') (q : RelS w F σ v r) : RelS w F' σ v r := by
  cases r with
  | v d => exact Rep.mono h d v q
  | pl i => exact q
  | n xs => exact q
/-- a new list of the run's own is frozen -/
theorem Rl.frzNew (l : Rl w F H σ ρ) {p : Addr} {vs : List V} (ha : H p = some (.lst vs)) (h0 : w.H0 p = none) (hf : w.fr p = none) (fr : Free σ ρ p) (n : F p = none) : Rl w (upd F p (.lst vs)) H σ ρ where
  len := l.len
  le := le_freeze l.le ha
  f0 := fun a o e => le_upd n a o (l.f0 a o e)
  kp := l.kp
  al := l.al
  nf := fun a h e => by
    rw [upd_ne (fun z => h (by rw [z]; exact h0))]
    exact l.nf a h e
  sl := fun i s e => by
    have z := l.sl i s e
    cases s with
    | no => exact z
    | fz d =>
      obtain ⟨v, e', q'⟩ := z
      exact ⟨v, e', q'.mono (le_upd n)⟩
    | ow b ys =>
      obtain ⟨a', vs', e', ha', l', n', f', c'⟩ := z
      have ne : a' ≠ p := fun y => fr i b ys e (by rw [← y]; exact e')
      exact ⟨a', vs', e', ha', l'.mono (le_upd n), by rw [upd_ne ne]; exact n', f', c'⟩
  pr := l.pr
  dj := l.dj
  fx := fun a o e => by
    have ne : a ≠ p := fun z => by rw [z, hf] at e; cases e
    exact ⟨(l.fx a o e).1, by rw [upd_ne ne]; exact (l.fx a o e).2⟩
  tb := fun q e => ⟨(l.tb q e).1, by rw [upd_ne (tab_ne (l.tb q e).1 ha)]; exact (l.tb q e).2.1, (l.tb q e).2.2⟩
theorem settle_rel (l : Rl w F H σ ρ) (q : RelR w F H σ ρ v r) : ∃ F', Le F F' ∧ Rl w F' H σ ρ ∧ RelS w F' σ v r.stl := by
  cases r with
  | v d => exact ⟨F, fun _ _ e => e, l, q⟩
  | pl i => exact ⟨F, fun _ _ e => e, l, q⟩
  | n xs =>
    obtain ⟨p, vs, rfl, ha, rl, n, h0, hf, fr⟩ := q
    exact ⟨_, le_upd n, l.frzNew ha h0 hf fr n, Rep.lst' upd_same (rl.mono (le_upd n))⟩
theorem rdr_rel (l : Rl w F H σ ρ) (q : RelS w F σ v r) {K : D → Prop} (h : rdr ρ r K) : ∃ d, RdV w.G F H v d ∧ K d := by
  cases r with
  | v d => exact ⟨d, Rep.rd l.le q, h⟩
  | n xs => exact (show False from q).elim
  | pl i =>
    have q : σ[i]? = some (some v) := q
    simp only [rdr] at h
    split at h
    · rename_i b xs e
      obtain ⟨a, vs, es, ha, rl, _⟩ := l.sl i _ e
      rw [q] at es
      have ev : v = .ref a := by injection es with es; injection es
      exact ⟨.lst xs, ⟨a, vs, ev, ha, rl⟩, h⟩
    · rename_i d e
      obtain ⟨u, es, rp⟩ := l.sl i _ e
      rw [q] at es
      have ev : v = u := by injection es with es; injection es
      exact ⟨d, Rep.rd l.le (by rw [ev]; exact rp), h⟩
    · exact h.elim
theorem frz_rel (l : Rl w F H σ ρ) (q : RelS w F σ v r) {K : D → Rho → Prop} (h : frz ρ r K) : ∃ d F' ρ', Le F F' ∧ Rl w F' H σ ρ' ∧ Rep w.G F' v d ∧ K d ρ' := by
  cases r with
  | v d => exact ⟨d, F, ρ, fun _ _ e => e, l, q, h⟩
  | n xs => exact (show False from q).elim
  | pl i =>
    have q : σ[i]? = some (some v) := q
    simp only [frz] at h
    split at h
    · rename_i xs e
      obtain ⟨a, vs, es, ha, n, rp, l'⟩ := l.freeze e
      rw [q] at es
      have ev : v = .ref a := by injection es with es; injection es
      exact ⟨_, _, _, le_upd n, l', by rw [ev]; exact rp, h⟩
    · rename_i d e
      obtain ⟨u, es, rp⟩ := l.sl i _ e
      rw [q] at es
      have ev : v = u := by injection es with es; injection es
      exact ⟨d, F, ρ, fun _ _ e => e, l, by rw [ev]; exact rp, h⟩
    · exact h.elim
theorem res_rel (l : Rl w F H σ ρ) (g : Grow F H F' H') {s : Res} (q : RRes w.G H F' H' v s) : RelR w F' H' σ ρ v (R.ofRes s) := by
  cases s with
  | d x => exact q
  | n xs =>
    obtain ⟨p, vs, ev, hn, ha, rl, n⟩ := q
    exact ⟨p, vs, ev, ha, rl, n, l.al p hn, l.freshFr hn, l.free hn⟩
theorem res_relT (l : Rl w F H σ ρ) (g : GrowT w.G.ts F H F' H') {s : Res} (q : RRes w.G H F' H' v s) : RelR w F' H' σ ρ v (R.ofRes s) := by
  cases s with
  | d x => exact q
  | n xs =>
    obtain ⟨p, vs, ev, hn, ha, rl, n⟩ := q
    exact ⟨p, vs, ev, ha, rl, n, l.al p hn, l.freshFr hn, l.free hn⟩
end

/-- the facts of the world that the rules ask -/
structure XG (S : Sg) (G : Gd) (sc : Scope) (X : Cx) : Prop where
  nd : X.N.Nodup
  calm : X.calm = true
  K : G.K = X.K
  w : G.w = X.w
  scr : ∀ (x : Str) (k : NameKind), sc.names.lookup x = some k → X.env.scope.names.lookup x = some k ∨ (k = NameKind.free ∧ X.env.scope.names.lookup x = some NameKind.cell)
  fnc : ∀ x : Str, sc.names.lookup x = some NameKind.cell → X.fn x = true
  gv : ∀ x d, S.gv.lookup x = some d → ∃ u v, X.mg x = some u ∧ RelV v u ∧ ∀ F, Rep G F v d
  bn : ∀ x : Str, x ∈ (["len", "max", "min", "list", "tuple", "sum", "any", "all", "int", "range", "zip", "isinstance", "bool", "str"] : List Str) → X.mg x = none
  hu : X.A.units + 65 < cLine

section
variable {S : Sg} {G : Gd} {sc : Scope} {X : Cx} {x : Str}
theorem XG.vis (g : XG S G sc X) (h : visB sc x = true) : Vis X.env.scope x := by
  unfold visB at h
  split at h
  · rename_i e; rcases g.scr x _ e with q | ⟨q, _⟩
    · exact .inl q
    · cases q
  · rename_i e; rcases g.scr x _ e with q | ⟨q, _⟩
    · exact .inr (.inl q)
    · cases q
  · rename_i e; rcases g.scr x _ e with q | ⟨_, q⟩
    · exact .inr (.inr q)
    · exact .inr (.inl q)
  · cases h
theorem XG.loc (g : XG S G sc X) (h : locB sc x = true) : Loc X.env.scope x ∧ (X.fn x = true ∨ X.env.scope.names.lookup x = some .local) := by
  unfold locB at h
  split at h
  · rename_i e; rcases g.scr x _ e with q | ⟨q, _⟩
    · exact ⟨.inl q, .inr q⟩
    · cases q
  · rename_i e; rcases g.scr x _ e with q | ⟨q, _⟩
    · exact ⟨.inr q, .inl (g.fnc x e)⟩
    · cases q
  · cases h
theorem XG.gl (g : XG S G sc X) (h : glB sc x = true) : Gl X x := by
  unfold glB at h
  split at h
  · rename_i e; rcases g.scr x _ e with q | ⟨q, _⟩
    · exact q
    · cases q
  · cases h
theorem noDb_1 (h : noDb x = true) : (x == ("__debug__" : Str)) = false := by
  unfold noDb at h
  rw [Bool.and_eq_true, Bool.not_eq_true', Bool.not_eq_true'] at h
  exact h.1
theorem noDb_2 (h : noDb x = true) : (x == ("__classdict__" : Str)) = false := by
  unfold noDb at h
  rw [Bool.and_eq_true, Bool.not_eq_true', Bool.not_eq_true'] at h
  exact h.2
theorem star_plain {e : Expr} {es : List Expr} {env : Env} (h : plainE e = true) : starEach (e :: es) env = (false, eval e env) :: starEach es env := by
  cases e <;> first | rfl | exact absurd h (by simp [plainE])
theorem ix_plain {e : Expr} (h : plainE e = true) : PlainIx e := fun o i => by
  cases e <;> first | rfl | exact absurd h (by simp [plainE])
theorem mark_plain {e : Expr} {op : CmpOp} (h : plainE e = true) : behindInMarks op e = false := by
  cases e <;> first | rfl | exact absurd h (by simp [plainE])
theorem set_plain {e : Expr} {env : Env} (h : plainE e = true) : ∀ x, foldedSetIterable e env x = pure x := fun x => by
  cases e <;> first | rfl | exact absurd h (by simp [plainE])
end

/-! ### the judgements -/
def tJ (w : Wd) (f : Rho → KR → Prop) : TE := fun σ H Q => ∃ F ρ, Rl w F H σ ρ ∧ ∃ Kd : KR, f ρ Kd ∧ ∀ r ρ' F' H' v, Le F F' → Rl w F' H' σ ρ' → RelR w F' H' σ ρ' v r → Kd r ρ' → Q v H'
def tJT (w : Wd) (f : Rho → (Bool → Rho → Prop) → Prop) : TT := fun σ H Q => ∃ F ρ, Rl w F H σ ρ ∧ ∃ Kd : Bool → Rho → Prop, f ρ Kd ∧ ∀ b ρ' F' H', Le F F' → Rl w F' H' σ ρ' → Kd b ρ' → Q b H'
def tJA (w : Wd) (f : Rho → (List D → Rho → Prop) → Prop) : TA := fun σ H Q => ∃ F ρ, Rl w F H σ ρ ∧ ∃ Kd : List D → Rho → Prop, f ρ Kd ∧ ∀ ds ρ' F' H' vs, Le F F' → Rl w F' H' σ ρ' → RepL w.G F' vs ds → Kd ds ρ' → Q vs H'
inductive RelSs (w : Wd) (F : Hp) (σ : St) : List V → List R → Prop where
  | nil : RelSs w F σ [] []
  | cons {v : V} {vs : List V} {r : R} {rs : List R} : RelS w F σ v r → RelSs w F σ vs rs → RelSs w F σ (v :: vs) (r :: rs)
theorem RelSs.mono {w : Wd} {F F' : Hp} {σ : St} (h : Le F F') : ∀ {vs : List V} {rs : List R}, RelSs w F σ vs rs → RelSs w F' σ vs rs
  | _, _, .nil => .nil
  | _, _, .cons a b => .cons (a.mono h) (b.mono h)
def tJR (w : Wd) (f : Rho → (List R → Rho → Prop) → Prop) : TA := fun σ H Q => ∃ F ρ, Rl w F H σ ρ ∧ ∃ Kd : List R → Rho → Prop, f ρ Kd ∧ ∀ rs ρ' F' H' vs, Le F F' → Rl w F' H' σ ρ' → RelSs w F' σ vs rs → Kd rs ρ' → Q vs H'
def tJO (w : Wd) (f : Rho → (Option Int → Rho → Prop) → Prop) : TO := fun σ H Q => ∃ F ρ, Rl w F H σ ρ ∧ ∃ Kd : Option Int → Rho → Prop, f ρ Kd ∧ ∀ o ρ' F' H', Le F F' → Rl w F' H' σ ρ' → Kd o ρ' → Q o H'
/-- the items that an iterator will give, data frozen in F -/
def Items (G : Gd) (J : It) (ds : List D) (F : Hp) : Prop := ∀ (i : Nat) (F1 H1 : Hp), Le F F1 → Le F1 H1 → i ≤ ds.length →
  (i = ds.length → J.stop i H1) ∧ ∀ d, ds[i]? = some d → J.go i H1 ∧ ∀ x H2, J.yld i H1 x H2 → ∃ F2, Grow F1 H1 F2 H2 ∧ Rep G F2 x d
def tJI (w : Wd) (f : Rho → (List D → Rho → Prop) → Prop) : TI := fun σ H R => ∃ F ρ, Rl w F H σ ρ ∧ ∃ Kd : List D → Rho → Prop, f ρ Kd ∧ ∀ ds ρ' F' H' J, Le F F' → Rl w F' H' σ ρ' → Items w.G J ds F' → Kd ds ρ' → R J H'

theorem _root_.L2.PE.imp {X : Cx} {e : Expr} {t t' : TE} (h : PE X e t) (k : ∀ σ H Q, t' σ H Q → t σ H Q) : PE X e t' := ⟨fun pins s σ H Q I q => h.run pins s σ H Q I (k σ H Q q)⟩
theorem _root_.L2.PT.imp {X : Cx} {e : Expr} {t t' : TT} (h : PT X e t) (k : ∀ σ H Q, t' σ H Q → t σ H Q) : PT X e t' := ⟨fun pins s σ H Q I q => h.run pins s σ H Q I (k σ H Q q)⟩
theorem _root_.L2.PW.imp {X : Cx} {e : Expr} {t t' : TT} (h : PW X e t) (k : ∀ σ H Q, t' σ H Q → t σ H Q) : PW X e t' := ⟨fun wh pins s σ H Q I q => h.run wh pins s σ H Q I (k σ H Q q)⟩
theorem _root_.L2.PA.imp {X : Cx} {e : List Expr} {t t' : TA} (h : PA X e t) (k : ∀ σ H Q, t' σ H Q → t σ H Q) : PA X e t' := ⟨fun pos pins s σ H Q I q => h.run pos pins s σ H Q I (k σ H Q q)⟩
theorem _root_.L2.PI.imp {X : Cx} {tg e : Expr} {t t' : TI} (h : PI X tg e t) (k : ∀ σ H Q, t' σ H Q → t σ H Q) : PI X tg e t' := ⟨fun pins s σ H Q I q => h.run pins s σ H Q I (k σ H Q q)⟩
theorem _root_.L2.PO.imp {X : Cx} {e : Option Expr} {t t' : TO} (h : PO X e t) (k : ∀ σ H Q, t' σ H Q → t σ H Q) : PO X e t' := ⟨fun pins s σ H Q I q => h.run pins s σ H Q I (k σ H Q q)⟩

theorem le_rfl' {F : Hp} : Le F F := fun _ _ e => e
theorem le_tr {F F1 F2 : Hp} (a : Le F F1) (b : Le F1 F2) : Le F F2 := fun c o e => b c o (a c o e)

section
variable {S : Sg} {X : Cx} {w : Wd} {sc : Scope} {xp : XP} {e ea eb ec : Expr} {pos : Pos}
/-- one value, settled -/
theorem tJ_settled {f : Rho → KR → Prop} {σ : St} {H : Hp} {Q : VK} {F : Hp} {ρ : Rho} (l : Rl w F H σ ρ) {Kd : KR} (h : f ρ Kd) (k : ∀ r ρ' F' H' v, Le F F' → Rl w F' H' σ ρ' → RelS w F' σ v r.stl → Kd r ρ' → Q v H') : tJ w f σ H Q :=
  ⟨F, ρ, l, Kd, h, fun r ρ' F' H' v le1 l1 rr q => by
    obtain ⟨F2, le2, l2, rs⟩ := settle_rel l1 rr
    exact k r ρ' F2 H' v (le_tr le1 le2) l2 rs q⟩
theorem j_bin {f g : Rho → KR → Prop} {op : Operator} {sem : D → D → (Res → Prop) → Prop} (ho : OpR X (binaryOp op) (rD2 w.G sem)) (ha : PE X ea (tJ w f)) (hb : PE X eb (tJ w g)) :
    PE X (.BinOp ea op eb pos) (tJ w fun ρ K => f ρ fun x ρ1 => g ρ1 fun y ρ2 => rdr ρ2 x.stl fun dx => rdr ρ2 y.stl fun dy => sem dx dy fun r => K (R.ofRes r) ρ2) := by
  refine (pe_op ho ha hb).imp fun σ H Q h => ?_
  obtain ⟨F, ρ, l, Kd, h, k⟩ := h
  refine tJ_settled l h fun x ρ1 F1 H1 v le1 l1 rx h1 => tJ_settled l1 h1 fun y ρ2 F2 H2 u le2 l2 ry h2 => ?_
  obtain ⟨dx, vx, h3⟩ := rdr_rel l2 (rx.mono le2) h2
  obtain ⟨dy, vy, h4⟩ := rdr_rel l2 ry h3
  exact ⟨F2, dx, dy, l2.le, vx, vy, _, h4, fun v' r F' H' gr rr q => k _ ρ2 F' H' v' (le_tr (le_tr le1 le2) gr.fm) (l2.grow gr) (res_rel l2 gr rr) q⟩
theorem j_ix {f g : Rho → KR → Prop} {sem : D → D → (Res → Prop) → Prop} (ho : IxR X (rD2 w.G sem)) (hp : plainE eb = true) (ha : PE X ea (tJ w f)) (hb : PE X eb (tJ w g)) :
    PE X (.Subscript ea eb pos) (tJ w fun ρ K => f ρ fun x ρ1 => g ρ1 fun y ρ2 => rdr ρ2 x.stl fun dx => rdr ρ2 y.stl fun dy => sem dx dy fun r => K (R.ofRes r) ρ2) := by
  refine (pe_ix ho ha hb (ix_plain hp)).imp fun σ H Q h => ?_
  obtain ⟨F, ρ, l, Kd, h, k⟩ := h
  refine tJ_settled l h fun x ρ1 F1 H1 v le1 l1 rx h1 => tJ_settled l1 h1 fun y ρ2 F2 H2 u le2 l2 ry h2 => ?_
  obtain ⟨dx, vx, h3⟩ := rdr_rel l2 (rx.mono le2) h2
  obtain ⟨dy, vy, h4⟩ := rdr_rel l2 ry h3
  exact ⟨F2, dx, dy, l2.le, vx, vy, _, h4, fun v' r F' H' gr rr q => k _ ρ2 F' H' v' (le_tr (le_tr le1 le2) gr.fm) (l2.grow gr) (res_rel l2 gr rr) q⟩
theorem j_cmp {f g : Rho → KR → Prop} {op : CmpOp} {sem : D → D → (Bool → Prop) → Prop} (ho : OpR X (compareOp op) (rC2 w.G sem)) (hp : plainE eb = true) (ha : PE X ea (tJ w f)) (hb : PE X eb (tJ w g)) :
    PE X (.Compare ea [op] [eb] pos) (tJ w fun ρ K => f ρ fun x ρ1 => g ρ1 fun y ρ2 => rdr ρ2 x.stl fun dx => rdr ρ2 y.stl fun dy => sem dx dy fun r => K (.v (.bl r)) ρ2) := by
  refine (pe_cmpR ho ha hb (mark_plain hp)).imp fun σ H Q h => ?_
  obtain ⟨F, ρ, l, Kd, h, k⟩ := h
  refine tJ_settled l h fun x ρ1 F1 H1 v le1 l1 rx h1 => tJ_settled l1 h1 fun y ρ2 F2 H2 u le2 l2 ry h2 => ?_
  obtain ⟨dx, vx, h3⟩ := rdr_rel l2 (rx.mono le2) h2
  obtain ⟨dy, vy, h4⟩ := rdr_rel l2 ry h3
  exact ⟨F2, dx, dy, l2.le, vx, vy, _, h4, fun b q => k (.v (.bl b)) ρ2 F2 H2 _ (le_tr le1 le2) l2 (Rep.bl' (G := w.G) (F := F2) b) q⟩
theorem jt_cmp {f g : Rho → KR → Prop} {op : CmpOp} {sem : D → D → (Bool → Prop) → Prop} (ho : OpR X (compareOp op) (rC2 w.G sem)) (hp : plainE eb = true) (ha : PE X ea (tJ w f)) (hb : PE X eb (tJ w g)) :
    PT X (.Compare ea [op] [eb] pos) (tJT w fun ρ K => f ρ fun x ρ1 => g ρ1 fun y ρ2 => rdr ρ2 x.stl fun dx => rdr ρ2 y.stl fun dy => sem dx dy fun r => K r ρ2) := by
  refine (pt_cmpR ho ha hb (mark_plain hp)).imp fun σ H Q h => ?_
  obtain ⟨F, ρ, l, Kd, h, k⟩ := h
  refine tJ_settled l h fun x ρ1 F1 H1 v le1 l1 rx h1 => tJ_settled l1 h1 fun y ρ2 F2 H2 u le2 l2 ry h2 => ?_
  obtain ⟨dx, vx, h3⟩ := rdr_rel l2 (rx.mono le2) h2
  obtain ⟨dy, vy, h4⟩ := rdr_rel l2 ry h3
  exact ⟨F2, dx, dy, l2.le, vx, vy, _, h4, fun b q => ⟨b, rfl, k b ρ2 F2 H2 (le_tr le1 le2) l2 q⟩⟩
theorem j_cmp2 {f g h' : Rho → KR → Prop} {op op' : CmpOp} {sem sem' : D → D → (Bool → Prop) → Prop} (ho : OpR X (compareOp op) (rC2 w.G sem)) (ho' : OpR X (compareOp op') (rC2 w.G sem')) (hp : plainE eb = true) (hp' : plainE ec = true)
    (ha : PE X ea (tJ w f)) (hb : PE X eb (tJ w g)) (hc : PE X ec (tJ w h')) :
    PE X (.Compare ea [op, op'] [eb, ec] pos) (tJ w fun ρ K => f ρ fun x ρ1 => g ρ1 fun y ρ2 => rdr ρ2 x.stl fun dx => rdr ρ2 y.stl fun dy => sem dx dy fun r =>
      if r = true then h' ρ2 fun z ρ3 => rdr ρ3 y.stl fun dy' => rdr ρ3 z.stl fun dz => sem' dy' dz fun r' => K (.v (.bl r')) ρ3 else K (.v (.bl false)) ρ2) := by
  have hm : lastMarks [op, op'] [eb, ec] = false := mark_plain hp'
  refine (pe_chain ho ho' ha hb hc hm).imp fun σ H Q h => ?_
  obtain ⟨F, ρ, l, Kd, h, k⟩ := h
  refine tJ_settled l h fun x ρ1 F1 H1 v le1 l1 rx h1 => tJ_settled l1 h1 fun y ρ2 F2 H2 u le2 l2 ry h2 => ?_
  obtain ⟨dx, vx, h3⟩ := rdr_rel l2 (rx.mono le2) h2
  obtain ⟨dy, vy, h4⟩ := rdr_rel l2 ry h3
  refine ⟨F2, dx, dy, l2.le, vx, vy, _, h4, fun b q => ⟨b, rfl, ?_⟩⟩
  cases b with
  | true =>
    rw [if_pos rfl] at q ⊢
    refine tJ_settled l2 q fun z ρ3 F3 H3 t le3 l3 rz h5 => ?_
    obtain ⟨dy', vy', h6⟩ := rdr_rel l3 (ry.mono le3) h5
    obtain ⟨dz, vz, h7⟩ := rdr_rel l3 rz h6
    exact ⟨F3, dy', dz, l3.le, vy', vz, _, h7, fun b q => k (.v (.bl b)) ρ3 F3 H3 _ (le_tr (le_tr le1 le2) le3) l3 (Rep.bl' (G := w.G) (F := F3) b) q⟩
  | false =>
    rw [if_neg Bool.false_ne_true] at q ⊢
    exact k (.v (.bl false)) ρ2 F2 H2 _ (le_tr le1 le2) l2 (Rep.bl' (G := w.G) (F := F2) false) q
theorem jt_cmp2 {f g h' : Rho → KR → Prop} {op op' : CmpOp} {sem sem' : D → D → (Bool → Prop) → Prop} (ho : OpR X (compareOp op) (rC2 w.G sem)) (ho' : OpR X (compareOp op') (rC2 w.G sem')) (hp : plainE eb = true) (hp' : plainE ec = true)
    (ha : PE X ea (tJ w f)) (hb : PE X eb (tJ w g)) (hc : PE X ec (tJ w h')) :
    PT X (.Compare ea [op, op'] [eb, ec] pos) (tJT w fun ρ K => f ρ fun x ρ1 => g ρ1 fun y ρ2 => rdr ρ2 x.stl fun dx => rdr ρ2 y.stl fun dy => sem dx dy fun r =>
      if r = true then h' ρ2 fun z ρ3 => rdr ρ3 y.stl fun dy' => rdr ρ3 z.stl fun dz => sem' dy' dz fun r' => K r' ρ3 else K false ρ2) := by
  have hm : lastMarks [op, op'] [eb, ec] = false := mark_plain hp'
  refine (pt_chain ho ho' ha hb hc hm).imp fun σ H Q h => ?_
  obtain ⟨F, ρ, l, Kd, h, k⟩ := h
  refine tJ_settled l h fun x ρ1 F1 H1 v le1 l1 rx h1 => tJ_settled l1 h1 fun y ρ2 F2 H2 u le2 l2 ry h2 => ?_
  obtain ⟨dx, vx, h3⟩ := rdr_rel l2 (rx.mono le2) h2
  obtain ⟨dy, vy, h4⟩ := rdr_rel l2 ry h3
  refine ⟨F2, dx, dy, l2.le, vx, vy, _, h4, fun b q => ⟨b, rfl, ?_⟩⟩
  cases b with
  | true =>
    rw [if_pos rfl] at q ⊢
    refine tJ_settled l2 q fun z ρ3 F3 H3 t le3 l3 rz h5 => ?_
    obtain ⟨dy', vy', h6⟩ := rdr_rel l3 (ry.mono le3) h5
    obtain ⟨dz, vz, h7⟩ := rdr_rel l3 rz h6
    exact ⟨F3, dy', dz, l3.le, vy', vz, _, h7, fun b q => ⟨b, rfl, k b ρ3 F3 H3 (le_tr (le_tr le1 le2) le3) l3 q⟩⟩
  | false =>
    rw [if_neg Bool.false_ne_true] at q ⊢
    exact ⟨false, rfl, k false ρ2 F2 H2 (le_tr le1 le2) l2 q⟩
theorem j_const {v : V} {d : D} (h : PE X e (tC v)) (r : ∀ F, Rep w.G F v d) : PE X e (tJ w fun ρ K => K (.v d) ρ) := by
  refine h.imp fun σ H Q h => ?_
  obtain ⟨F, ρ, l, Kd, h, k⟩ := h
  exact k (.v d) ρ F H v le_rfl' l (r F) h
theorem j_var {i : Nat} {x : Str} (hN : X.N[i]? = some x) (hv : Vis X.env.scope x) (hd : (x == ("__debug__" : Str)) = false) (hcd : (x == ("__classdict__" : Str)) = false) :
    PE X (.Name x pos) (tJ w fun ρ K => match ρ[i]? with
      | some (.fz d) => K (.v d) ρ
      | some (.ow _ _) => K (.pl i) ρ
      | _ => False) := by
  refine (pe_var hN hv hd hcd).imp fun σ H Q h => ?_
  obtain ⟨F, ρ, l, Kd, h, k⟩ := h
  split at h
  · rename_i d e
    obtain ⟨v, es, rp⟩ := l.sl i _ e
    exact ⟨v, es, k (.v d) ρ F H v le_rfl' l rp h⟩
  · rename_i b xs e
    obtain ⟨a, vs, es, _⟩ := l.sl i _ e
    exact ⟨.ref a, es, k (.pl i) ρ F H _ le_rfl' l es h⟩
  · exact h.elim
theorem j_neg {f : Rho → KR → Prop} (ha : PE X ea (tJ w f)) : PE X (.UnaryOp .USub ea pos) (tJ w fun ρ K => f ρ fun x ρ1 => match x with
    | .v (.int i) => K (.v (.int (-i))) ρ1
    | _ => False) := by
  refine (pe_un un_neg ha).imp fun σ H Q h => ?_
  obtain ⟨F, ρ, l, Kd, h, k⟩ := h
  refine ⟨F, ρ, l, _, h, fun x ρ1 F1 H1 v le1 l1 rx q => ?_⟩
  split at q
  · rename_i i
    simp only [RelR, Rep] at rx
    subst rx
    exact ⟨i, rfl, k (.v (.int (-i))) ρ1 F1 H1 _ le1 l1 (Rep.int' (G := w.G) (F := F1) _) q⟩
  · exact q.elim
theorem j_and {f g : Rho → KR → Prop} {r : List Expr} (ha : PE X ea (tJ w f)) (hb : PE X (.BoolOp .And (eb :: r) pos) (tJ w g)) : PE X (.BoolOp .And (ea :: eb :: r) pos) (tJ w fun ρ K => f ρ fun x ρ1 => match x with
    | .v (.bl c) => if c = true then g ρ1 K else K (.v (.bl false)) ρ1
    | _ => False) := by
  refine (pe_and ha hb).imp fun σ H Q h => ?_
  obtain ⟨F, ρ, l, Kd, h, k⟩ := h
  refine ⟨F, ρ, l, _, h, fun x ρ1 F1 H1 v le1 l1 rx q => ?_⟩
  split at q
  · rename_i c
    simp only [RelR, Rep] at rx
    subst rx
    refine ⟨c, rfl, ?_⟩
    cases c with
    | true =>
      rw [if_pos rfl] at q ⊢
      exact ⟨F1, ρ1, l1, Kd, q, fun r ρ2 F2 H2 u le2 l2 rr q2 => k r ρ2 F2 H2 u (le_tr le1 le2) l2 rr q2⟩
    | false =>
      rw [if_neg Bool.false_ne_true] at q ⊢
      exact k (.v (.bl false)) ρ1 F1 H1 _ le1 l1 (Rep.bl' (G := w.G) (F := F1) false) q
  · exact q.elim
theorem j_or {f g : Rho → KR → Prop} {r : List Expr} (ha : PE X ea (tJ w f)) (hb : PE X (.BoolOp .Or (eb :: r) pos) (tJ w g)) : PE X (.BoolOp .Or (ea :: eb :: r) pos) (tJ w fun ρ K => f ρ fun x ρ1 => match x with
    | .v (.bl c) => if c = true then K (.v (.bl true)) ρ1 else g ρ1 K
    | _ => False) := by
  refine (pe_or ha hb).imp fun σ H Q h => ?_
  obtain ⟨F, ρ, l, Kd, h, k⟩ := h
  refine ⟨F, ρ, l, _, h, fun x ρ1 F1 H1 v le1 l1 rx q => ?_⟩
  split at q
  · rename_i c
    simp only [RelR, Rep] at rx
    subst rx
    refine ⟨c, rfl, ?_⟩
    cases c with
    | false =>
      rw [if_neg Bool.false_ne_true] at q ⊢
      exact ⟨F1, ρ1, l1, Kd, q, fun r ρ2 F2 H2 u le2 l2 rr q2 => k r ρ2 F2 H2 u (le_tr le1 le2) l2 rr q2⟩
    | true =>
      rw [if_pos rfl] at q ⊢
      exact k (.v (.bl true)) ρ1 F1 H1 _ le1 l1 (Rep.bl' (G := w.G) (F := F1) true) q
  · exact q.elim
theorem j_not {f : Rho → KR → Prop} (ha : PE X ea (tJ w f)) : PE X (.UnaryOp .Not ea pos) (tJ w fun ρ K => f ρ fun x ρ1 => match x with
    | .v (.bl c) => K (.v (.bl (!c))) ρ1
    | _ => False) := by
  refine (pe_not ha).imp fun σ H Q h => ?_
  obtain ⟨F, ρ, l, Kd, h, k⟩ := h
  refine ⟨F, ρ, l, _, h, fun x ρ1 F1 H1 v le1 l1 rx q => ?_⟩
  split at q
  · rename_i c
    simp only [RelR, Rep] at rx
    subst rx
    exact ⟨c, rfl, k (.v (.bl (!c))) ρ1 F1 H1 _ le1 l1 (Rep.bl' (G := w.G) (F := F1) _) q⟩
  · exact q.elim
theorem j_ife {f g : Rho → KR → Prop} {ft : Rho → (Bool → Rho → Prop) → Prop} (ht : PT X e (tJT w ft)) (ha : PE X ea (tJ w f)) (hb : PE X eb (tJ w g)) :
    PE X (.IfExp e ea eb pos) (tJ w fun ρ K => ft ρ fun c ρ1 => if c = true then f ρ1 K else g ρ1 K) := by
  refine (pe_ifExp ht ha hb).imp fun σ H Q h => ?_
  obtain ⟨F, ρ, l, Kd, h, k⟩ := h
  refine ⟨F, ρ, l, _, h, fun c ρ1 F1 H1 le1 l1 q => ?_⟩
  cases c with
  | true =>
    rw [if_pos rfl] at q ⊢
    exact ⟨F1, ρ1, l1, Kd, q, fun r ρ2 F2 H2 u le2 l2 rr q2 => k r ρ2 F2 H2 u (le_tr le1 le2) l2 rr q2⟩
  | false =>
    rw [if_neg Bool.false_ne_true] at q ⊢
    exact ⟨F1, ρ1, l1, Kd, q, fun r ρ2 F2 H2 u le2 l2 rr q2 => k r ρ2 F2 H2 u (le_tr le1 le2) l2 rr q2⟩
/-- tests -/
theorem jt_and {f g : Rho → (Bool → Rho → Prop) → Prop} {r : List Expr} (ha : PT X ea (tJT w f)) (hb : PW X (.BoolOp .And (eb :: r) pos) (tJT w g)) : PW X (.BoolOp .And (ea :: eb :: r) pos) (tJT w fun ρ K => f ρ fun c ρ1 => if c = true then g ρ1 K else K false ρ1) := by
  refine (pw_and ha hb).imp fun σ H Q h => ?_
  obtain ⟨F, ρ, l, Kd, h, k⟩ := h
  refine ⟨F, ρ, l, _, h, fun c ρ1 F1 H1 le1 l1 q => ?_⟩
  cases c with
  | true =>
    rw [if_pos rfl] at q ⊢
    exact ⟨F1, ρ1, l1, Kd, q, fun b ρ2 F2 H2 le2 l2 q2 => k b ρ2 F2 H2 (le_tr le1 le2) l2 q2⟩
  | false =>
    rw [if_neg Bool.false_ne_true] at q ⊢
    exact k false ρ1 F1 H1 le1 l1 q
theorem jt_or {f g : Rho → (Bool → Rho → Prop) → Prop} {r : List Expr} (ha : PT X ea (tJT w f)) (hb : PW X (.BoolOp .Or (eb :: r) pos) (tJT w g)) : PW X (.BoolOp .Or (ea :: eb :: r) pos) (tJT w fun ρ K => f ρ fun c ρ1 => if c = true then K true ρ1 else g ρ1 K) := by
  refine (pw_or ha hb).imp fun σ H Q h => ?_
  obtain ⟨F, ρ, l, Kd, h, k⟩ := h
  refine ⟨F, ρ, l, _, h, fun c ρ1 F1 H1 le1 l1 q => ?_⟩
  cases c with
  | false =>
    rw [if_neg Bool.false_ne_true] at q ⊢
    exact ⟨F1, ρ1, l1, Kd, q, fun b ρ2 F2 H2 le2 l2 q2 => k b ρ2 F2 H2 (le_tr le1 le2) l2 q2⟩
  | true =>
    rw [if_pos rfl] at q ⊢
    exact k true ρ1 F1 H1 le1 l1 q
theorem jt_not {f : Rho → (Bool → Rho → Prop) → Prop} (ha : PT X ea (tJT w f)) : PT X (.UnaryOp .Not ea pos) (tJT w fun ρ K => f ρ fun c ρ1 => K (!c) ρ1) := by
  refine (pt_not ha).imp fun σ H Q h => ?_
  obtain ⟨F, ρ, l, Kd, h, k⟩ := h
  exact ⟨F, ρ, l, _, h, fun c ρ1 F1 H1 le1 l1 q => k (!c) ρ1 F1 H1 le1 l1 q⟩
/-- the truth of a value -/
theorem jt_val {f : Rho → KR → Prop} (hG : w.G.K = X.K) (he : ∀ whole, isTrue e X.env whole = (do let v ← whole; standAt e.pos; holding [v] (truthy v))) (ha : PE X e (tJ w f)) :
    PT X e (tJT w fun ρ K => f ρ fun r ρ1 => rdr ρ1 r.stl fun d => truD d fun b => K b ρ1) := by
  refine (pt_truth ha he).imp fun σ H Q h => ?_
  obtain ⟨F, ρ, l, Kd, h, k⟩ := h
  refine tJ_settled l h fun x ρ1 F1 H1 v le1 l1 rx h1 => ?_
  obtain ⟨d, vd, h2⟩ := rdr_rel l1 rx h1
  obtain ⟨b, tv, q⟩ := tru_v hG l1.le vd h2
  exact ⟨b, tv, k b ρ1 F1 H1 le1 l1 q⟩
/-- arguments: each frozen -/
theorem ja_nil : PA X [] (tJA w fun ρ K => K [] ρ) := by
  refine pa_nil.imp fun σ H Q h => ?_
  obtain ⟨F, ρ, l, Kd, h, k⟩ := h
  exact k [] ρ F H [] le_rfl' l RepL.nil h
theorem ja_cons {f : Rho → KR → Prop} {g : Rho → (List D → Rho → Prop) → Prop} {es : List Expr} (hp : plainE e = true) (he : PE X e (tJ w f)) (hr : PA X es (tJA w g)) :
    PA X (e :: es) (tJA w fun ρ K => f ρ fun x ρ1 => frz ρ1 x.stl fun d ρ2 => g ρ2 fun ds ρ3 => K (d :: ds) ρ3) := by
  refine (pa_cons he hr (star_plain hp)).imp fun σ H Q h => ?_
  obtain ⟨F, ρ, l, Kd, h, k⟩ := h
  refine tJ_settled l h fun x ρ1 F1 H1 v le1 l1 rx h1 => ?_
  obtain ⟨d, F2, ρ2, le2, l2, rp, h2⟩ := frz_rel l1 rx h1
  exact ⟨F2, ρ2, l2, _, h2, fun ds ρ3 F3 H3 vs le3 l3 rl q => k (d :: ds) ρ3 F3 H3 (v :: vs) (le_tr (le_tr le1 le2) le3) l3 (RepL.cons (rp.mono le3) rl) q⟩
/-- .. held as they come -/
theorem jr_nil : PA X [] (tJR w fun ρ K => K [] ρ) := by
  refine pa_nil.imp fun σ H Q h => ?_
  obtain ⟨F, ρ, l, Kd, h, k⟩ := h
  exact k [] ρ F H [] le_rfl' l .nil h
theorem jr_cons {f : Rho → KR → Prop} {g : Rho → (List R → Rho → Prop) → Prop} {es : List Expr} (hp : plainE e = true) (he : PE X e (tJ w f)) (hr : PA X es (tJR w g)) :
    PA X (e :: es) (tJR w fun ρ K => f ρ fun x ρ1 => g ρ1 fun rs ρ2 => K (x.stl :: rs) ρ2) := by
  refine (pa_cons he hr (star_plain hp)).imp fun σ H Q h => ?_
  obtain ⟨F, ρ, l, Kd, h, k⟩ := h
  refine tJ_settled l h fun x ρ1 F1 H1 v le1 l1 rx h1 => ?_
  exact ⟨F1, ρ1, l1, _, h1, fun rs ρ2 F2 H2 vs le2 l2 rl q => k (x.stl :: rs) ρ2 F2 H2 (v :: vs) (le_tr le1 le2) l2 (.cons (rx.mono le2) rl) q⟩
theorem rdrs_rel {F H : Hp} {σ : St} {ρ : Rho} (l : Rl w F H σ ρ) : ∀ {vs : List V} {rs : List R} {K : List D → Prop}, RelSs w F σ vs rs → rdrs ρ rs K → ∃ ds, Paired (RdV w.G F H) vs ds ∧ K ds
  | _, _, K, .nil, h => ⟨[], .nil, h⟩
  | _, _, K, .cons a b, h => by
    obtain ⟨d, vd, h1⟩ := rdr_rel l a h
    obtain ⟨ds, vds, h2⟩ := rdrs_rel l b h1
    exact ⟨d :: ds, .cons vd vds, h2⟩
theorem j_tup {es : List Expr} {k2 : Nat} {f : Rho → (List D → Rho → Prop) → Prop} (h : PA X es (tJA w f)) : PE X (.Tuple es k2 pos) (tJ w fun ρ K => f ρ fun ds ρ1 => ds.length ≤ sizeLine ∧ K (.v (.tup ds)) ρ1) := by
  refine (pe_tup h).imp fun σ H Q h => ?_
  obtain ⟨F, ρ, l, Kd, h, k⟩ := h
  refine ⟨F, ρ, l, _, h, fun ds ρ1 F1 H1 vs le1 l1 rl q => ⟨by rw [rl.length]; exact q.1, fun p n => ?_⟩⟩
  have g := Grow.new l1.le n (.tup vs)
  exact k (.v (.tup ds)) ρ1 _ _ _ (le_tr le1 g.fm) (l1.grow g) (Rep.tup' (SqT.of upd_same) (rl.mono g.fm)) q.2
theorem j_lst {es : List Expr} {f : Rho → (List D → Rho → Prop) → Prop} (h : PA X es (tJA w f)) : PE X (.List es pos) (tJ w fun ρ K => f ρ fun ds ρ1 => ds.length ≤ sizeLine ∧ K (.n ds) ρ1) := by
  refine (pe_lst h).imp fun σ H Q h => ?_
  obtain ⟨F, ρ, l, Kd, h, k⟩ := h
  refine ⟨F, ρ, l, _, h, fun ds ρ1 F1 H1 vs le1 l1 rl q => ⟨by rw [rl.length]; exact q.1, fun p n => ?_⟩⟩
  have g := Grow.alloc l1.le n (.lst vs)
  exact k (.n ds) ρ1 _ _ _ le1 (l1.grow g) ⟨p, vs, rfl, upd_same, rl, le_none l1.le n, l1.al p n, l1.freshFr n, l1.free n⟩ q.2
/-- slices -/
theorem jo_no : PO X none (tJO w fun ρ K => K none ρ) := by
  refine po_none.imp fun σ H Q h => ?_
  obtain ⟨F, ρ, l, Kd, h, k⟩ := h
  exact k none ρ F H le_rfl' l h
theorem jo_so {f : Rho → KR → Prop} (h : PE X e (tJ w f)) : PO X (some e) (tJO w fun ρ K => f ρ fun x ρ1 => match x with
    | .v (.int i) => K (some i) ρ1
    | _ => False) := by
  refine (po_some h).imp fun σ H Q h => ?_
  obtain ⟨F, ρ, l, Kd, h, k⟩ := h
  refine ⟨F, ρ, l, _, h, fun x ρ1 F1 H1 v le1 l1 rx q => ?_⟩
  split at q
  · rename_i i
    simp only [RelR, Rep] at rx
    subst rx
    exact ⟨i, rfl, k (some i) ρ1 F1 H1 le1 l1 q⟩
  · exact q.elim
theorem j_sl {f : Rho → KR → Prop} {g h' : Rho → (Option Int → Rho → Prop) → Prop} {lo hi : Option Expr} {p2 : Pos} (hG : w.G.K = X.K) (ha : PE X ea (tJ w f)) (hl : PO X lo (tJO w g)) (hh : PO X hi (tJO w h')) :
    PE X (.Subscript ea (.Slice lo hi none p2) pos) (tJ w fun ρ K => f ρ fun x ρ1 => g ρ1 fun l ρ2 => h' ρ2 fun h ρ3 => rdr ρ3 x.stl fun dx => slD dx l h fun r => K (R.ofRes r) ρ3) := by
  refine (pe_slice (sl_D hG) ha hl hh).imp fun σ H Q h => ?_
  obtain ⟨F, ρ, l, Kd, h, k⟩ := h
  refine tJ_settled l h fun x ρ1 F1 H1 v le1 l1 rx h1 => ⟨F1, ρ1, l1, _, h1, fun lo ρ2 F2 H2 le2 l2 h2 => ⟨F2, ρ2, l2, _, h2, fun hi ρ3 F3 H3 le3 l3 h3 => ?_⟩⟩
  obtain ⟨dx, vx, h4⟩ := rdr_rel l3 (rx.mono (le_tr le2 le3)) h3
  exact ⟨F3, dx, l3.le, vx, _, h4, fun v' r F' H' gr rr q => k _ ρ3 F' H' v' (le_tr (le_tr (le_tr le1 le2) le3) gr.fm) (l3.grow gr) (res_rel l3 gr rr) q⟩
end
end DL

/-! DT: what is walked, targets, comprehensions, calls. -/
namespace DL
open PySem L2

section
variable {G : Gd} {F : Hp}
theorem items_lst {K : PySem.W.Frag} {a : Addr} {vs : List V} {ds : List D} (ha : F a = some (.lst vs)) (l : RepL G F vs ds) : Items G (Itl K a) ds F := fun i F1 H1 le1 le2 hi => by
  have q : SqL K H1 a vs := SqL.of (le2 _ _ (le1 _ _ ha))
  refine ⟨fun e => ⟨vs, q, by rw [l.length, e]; exact Nat.le_refl _⟩, fun d hd => ?_⟩
  obtain ⟨v, hv, r⟩ := l.get hd
  refine ⟨⟨vs, v, q, hv⟩, fun x H2 y => ?_⟩
  obtain ⟨e, y⟩ := y
  subst e
  have z := y vs q
  rw [hv] at z
  cases z
  exact ⟨F1, .refl le2, r.mono le1⟩
theorem items_tup {K : PySem.W.Frag} {a : Addr} {vs : List V} {ds : List D} (ha : SqT K F a vs) (l : RepL G F vs ds) : Items G (Itt K a) ds F := fun i F1 H1 le1 le2 hi => by
  have q : SqT K H1 a vs := sqT_mono le2 (sqT_mono le1 ha)
  refine ⟨fun e => ⟨vs, q, by rw [l.length, e]; exact Nat.le_refl _⟩, fun d hd => ?_⟩
  obtain ⟨v, hv, r⟩ := l.get hd
  refine ⟨⟨vs, v, q, hv⟩, fun x H2 y => ?_⟩
  obtain ⟨e, y⟩ := y
  subst e
  have z := y vs q
  rw [hv] at z
  cases z
  exact ⟨F1, .refl le2, r.mono le1⟩
theorem items_str (z : Str) : Items G (Its z) (z.cps.toList.map fun c => D.str ⟨#[c]⟩) F := fun i F1 H1 le1 le2 hi => by
  refine ⟨fun e => ?_, fun d hd => ?_⟩
  · rw [List.length_map, Array.length_toList] at e
    show z.cps.size ≤ i
    omega
  · rw [List.getElem?_map] at hd
    cases hc : z.cps.toList[i]? with
    | none => rw [hc] at hd; cases hd
    | some c =>
      rw [hc] at hd
      cases hd
      rw [Array.getElem?_toList] at hc
      refine ⟨(Array.getElem?_eq_some_iff.mp hc).1, fun x H2 y => ?_⟩
      obtain ⟨e, c', hc', ex⟩ := y
      subst e
      rw [hc] at hc'
      cases hc'
      subst ex
      exact ⟨F1, .refl le2, Rep.str' _⟩
theorem items_rng (lo : Int) (n : Nat) : Items G (Itr lo n) ((List.range n).map fun (k : Nat) => D.int (lo + (k : Int))) F := fun i F1 H1 le1 le2 hi => by
  refine ⟨fun e => ?_, fun d hd => ?_⟩
  · rw [List.length_map, List.length_range] at e
    show n ≤ i
    omega
  · rw [List.getElem?_map] at hd
    cases hc : (List.range n)[i]? with
    | none => rw [hc] at hd; cases hd
    | some c =>
      rw [hc] at hd
      cases hd
      obtain ⟨h1, h2⟩ := List.getElem?_eq_some_iff.mp hc
      rw [List.getElem_range] at h2
      subst h2
      rw [List.length_range] at h1
      refine ⟨h1, fun x H2 y => ?_⟩
      obtain ⟨e, ex⟩ := y
      subst e
      subst ex
      exact ⟨F1, .refl le2, Rep.int' _⟩
theorem items_zip {K : PySem.W.Frag} {a b : Addr} {vs us : List V} {ds es : List D} (ha : F a = some (.lst vs)) (hb : F b = some (.lst us)) (la : RepL G F vs ds) (lb : RepL G F us es) : Items G (Itz K a b) (List.zipWith (fun x y => D.tup [x, y]) ds es) F := fun i F1 H1 le1 le2 hi => by
  have qa : SqL K H1 a vs := SqL.of (le2 _ _ (le1 _ _ ha))
  have qb : SqL K H1 b us := SqL.of (le2 _ _ (le1 _ _ hb))
  refine ⟨fun e => ⟨vs, us, qa, qb, ?_⟩, fun d hd => ?_⟩
  · rw [List.length_zipWith] at e
    rw [la.length, lb.length]
    omega
  · rw [List.getElem?_zipWith] at hd
    cases h1 : ds[i]? with
    | none => rw [h1] at hd; simp at hd
    | some x1 =>
      cases h2 : es[i]? with
      | none => rw [h1, h2] at hd; simp at hd
      | some y1 =>
        rw [h1, h2] at hd
        simp only [Option.some.injEq] at hd
        subst hd
        obtain ⟨v, hv, r1⟩ := la.get h1
        obtain ⟨u, hu, r2⟩ := lb.get h2
        refine ⟨⟨vs, us, v, u, qa, qb, hv, hu⟩, fun x H2 y => ?_⟩
        obtain ⟨T, x', y', ex, hn, e2, q1, q2⟩ := y
        have z1 := q1 vs qa
        have z2 := q2 us qb
        rw [hv] at z1
        rw [hu] at z2
        cases z1
        cases z2
        subst ex
        subst e2
        have gr := Grow.new le2 hn (.tup [v, u])
        exact ⟨_, gr, Rep.tup' (SqT.of upd_same) (RepL.cons (r1.mono (le_tr le1 gr.fm)) (RepL.cons (r2.mono (le_tr le1 gr.fm)) RepL.nil))⟩
theorem items_zipT {K : PySem.W.Frag} {a b : Addr} {vs us : List V} {ds es : List D} (ha : SqT K F a vs) (hb : SqT K F b us) (la : RepL G F vs ds) (lb : RepL G F us es) : Items G (RZ.ItzT K a b) (List.zipWith (fun x y => D.tup [x, y]) ds es) F := fun i F1 H1 le1 le2 hi => by
  have qa : SqT K H1 a vs := sqT_mono (le_tr le1 le2) ha
  have qb : SqT K H1 b us := sqT_mono (le_tr le1 le2) hb
  refine ⟨fun e => ⟨vs, us, qa, qb, ?_⟩, fun d hd => ?_⟩
  · rw [List.length_zipWith] at e
    rw [la.length, lb.length]
    omega
  · rw [List.getElem?_zipWith] at hd
    cases h1 : ds[i]? with
    | none => rw [h1] at hd; simp at hd
    | some x1 =>
      cases h2 : es[i]? with
      | none => rw [h1, h2] at hd; simp at hd
      | some y1 =>
        rw [h1, h2] at hd
        simp only [Option.some.injEq] at hd
        subst hd
        obtain ⟨v, hv, r1⟩ := la.get h1
        obtain ⟨u, hu, r2⟩ := lb.get h2
        refine ⟨⟨vs, us, v, u, qa, qb, hv, hu⟩, fun x H2 y => ?_⟩
        obtain ⟨T, x', y', ex, hn, e2, q1, q2⟩ := y
        have z1 := q1 vs qa
        have z2 := q2 us qb
        rw [hv] at z1
        rw [hu] at z2
        cases z1
        cases z2
        subst ex
        subst e2
        have gr := Grow.new le2 hn (.tup [v, u])
        exact ⟨_, gr, Rep.tup' (SqT.of upd_same) (RepL.cons (r1.mono (le_tr le1 gr.fm)) (RepL.cons (r2.mono (le_tr le1 gr.fm)) RepL.nil))⟩
end

section
variable {S : Sg} {X : Cx} {w : Wd} {sc : Scope} {xp : XP} {e ea eb ec tg : Expr} {pos p : Pos}
/-- a list, a tuple, a text: by its value -/
theorem pi_any {tl : TE} (hl : PE X e tl) : PI X tg e (fun σ H R => tl σ H fun x H1 => (∃ a xs, x = .ref a ∧ SqL X.K H1 a xs ∧ R (Itl X.K a) H1) ∨ (∃ a xs, x = .ref a ∧ SqT X.K H1 a xs ∧ R (Itt X.K a) H1) ∨ ∃ z, x = .str z ∧ R (Its z) H1) := by
  refine ⟨fun pins s σ H R I hyp => thn (hl.run pins s σ H _ I hyp) fun v s1 res => ?_⟩
  obtain ⟨x, H1, J, rv, alt⟩ := res
  rcases alt with ⟨a, xs, ex, hq, go⟩ | ⟨a, xs, ex, hq, go⟩ | ⟨z, ex, go⟩
  · subst ex
    cases rv
    obtain ⟨its, r2, pl, _⟩ := J.list hq
    exact wpAny_pyIter_list pl.isList (pi_one (tk := s1.toks) J _ (turn_list a _) ⟨_, Heap.get?_push_size _ rfl, rfl, rfl⟩ go)
  · subst ex
    cases rv
    obtain ⟨its, r2, pl, _⟩ := J.tuple hq
    exact wpAny_pyIter_tuple (show s1.heap.IsTuple a its.toArray from pl) (pi_one (tk := s1.toks) J _ (turn_tuple a _) ⟨_, Heap.get?_push_size _ rfl, rfl, rfl⟩ go)
  · subst ex
    obtain ⟨tk, rfl⟩ := rv
    cases wide : z.cps.all (· < 128) with
    | false => exact wpAny_pyIter_wide wide (pi_one (tk := s1.toks) J _ (turn_str _ z tk "str_iterator" (.inr rfl)) ⟨_, Heap.get?_push_size _ rfl, rfl, rfl⟩ go)
    | true => exact wpAny_pyIter_ascii wide (pi_one (tk := s1.toks) J _ (turn_str _ z tk "str_ascii_iterator" (.inl rfl)) ⟨_, Heap.get?_push_size _ rfl, rfl, rfl⟩ go)
theorem ji_seq {f : Rho → KR → Prop} (hG : w.G.K = X.K) (h : PE X e (tJ w f)) : PI X tg e (tJI w fun ρ K => f ρ fun x ρ1 => frz ρ1 x.stl fun d ρ2 => itemsD d fun ds => K ds ρ2) := by
  refine (pi_any h).imp fun σ H R h => ?_
  obtain ⟨F, ρ, l, Kd, h, k⟩ := h
  refine tJ_settled l h fun x ρ1 F1 H1 v le1 l1 rx h1 => ?_
  obtain ⟨d, F2, ρ2, le2, l2, rp, h2⟩ := frz_rel l1 rx h1
  cases d with
  | lst xs =>
    simp only [Rep] at rp
    obtain ⟨a, vs, rfl, ha, rl⟩ := rp
    exact .inl ⟨a, vs, rfl, SqL.of (l2.le _ _ ha), k _ ρ2 F2 H1 _ (le_tr le1 le2) l2 (items_lst ha rl) h2⟩
  | tup xs =>
    simp only [Rep] at rp
    obtain ⟨a, vs, rfl, ha, rl⟩ := rp
    rw [hG] at ha
    exact .inr (.inl ⟨a, vs, rfl, sqT_mono l2.le ha, k _ ρ2 F2 H1 _ (le_tr le1 le2) l2 (items_tup ha rl) h2⟩)
  | str z =>
    simp only [Rep] at rp
    subst rp
    exact .inr (.inr ⟨z, rfl, k _ ρ2 F2 H1 _ (le_tr le1 le2) l2 (items_str z) h2⟩)
  | _ => exact (show False from h2).elim
theorem ji_rng1 {f : Rho → KR → Prop} (hp : plainE e = true) (hg : Gl X "range") (hm : X.mg "range" = none) (h : PE X e (tJ w f)) :
    PI X tg (.Call (.Name "range" p) [e] [] pos) (tJI w fun ρ K => f ρ fun x ρ1 => match x with
      | .v (.int n) => (-(2 ^ 62) ≤ n ∧ n < 2 ^ 62) ∧ K ((List.range n.toNat).map fun (k : Nat) => D.int (k : Int)) ρ1
      | _ => False) := by
  refine (pi_range1 hg hm (pa_cons h pa_nil (star_plain hp)) (star_plain hp)).imp fun σ H R h => ?_
  obtain ⟨F, ρ, l, Kd, h, k⟩ := h
  refine ⟨F, ρ, l, _, h, fun x ρ1 F1 H1 v le1 l1 rx q => ?_⟩
  split at q
  · rename_i n
    simp only [RelR, Rep] at rx
    subst rx
    refine ⟨n, rfl, q.1.1, q.1.2, k _ ρ1 F1 H1 _ le1 l1 ?_ q.2⟩
    have e0 : (fun (k : Nat) => D.int (k : Int)) = fun (k : Nat) => D.int (0 + (k : Int)) := by funext k; rw [Int.zero_add]
    rw [e0]
    exact items_rng 0 n.toNat
  · exact q.elim
theorem ji_rng2 {f g : Rho → KR → Prop} (hp : plainE ea = true) (hp2 : plainE eb = true) (hg : Gl X "range") (hm : X.mg "range" = none) (ha : PE X ea (tJ w f)) (hb : PE X eb (tJ w g)) :
    PI X tg (.Call (.Name "range" p) [ea, eb] [] pos) (tJI w fun ρ K => f ρ fun x ρ1 => g ρ1 fun y ρ2 => match x, y with
      | .v (.int i), .v (.int j) => (-(2 ^ 62) ≤ i ∧ i < 2 ^ 62 ∧ -(2 ^ 62) ≤ j ∧ j < 2 ^ 62) ∧ K ((List.range (j - i).toNat).map fun (k : Nat) => D.int (i + (k : Int))) ρ2
      | _, _ => False) := by
  refine (pi_range2 hg hm (pa_cons ha (pa_cons hb pa_nil (star_plain hp2)) (star_plain hp)) (by rw [star_plain hp, star_plain hp2]; rfl) (star_plain hp2)).imp fun σ H R h => ?_
  obtain ⟨F, ρ, l, Kd, h, k⟩ := h
  refine ⟨F, ρ, l, _, h, fun x ρ1 F1 H1 v le1 l1 rx q => ⟨F1, ρ1, l1, _, q, fun y ρ2 F2 H2 u le2 l2 ry q2 => ?_⟩⟩
  split at q2
  · rename_i i j
    simp only [RelR, Rep] at rx ry
    subst rx
    subst ry
    exact ⟨i, j, rfl, q2.1, k _ ρ2 F2 H2 _ (le_tr le1 le2) l2 (items_rng i _) q2.2⟩
  · exact q2.elim
theorem ji_zip {f g : Rho → KR → Prop} {elts : List Expr} {kk : Nat} {tpos : Pos} (hG : w.G.K = X.K) (hp : plainE ea = true) (hp2 : plainE eb = true) (hg : Gl X "zip") (hm : X.mg "zip" = none) (ha : PE X ea (tJ w f)) (hb : PE X eb (tJ w g)) :
    PI X (.Tuple elts kk tpos) (.Call (.Name "zip" p) [ea, eb] [] pos) (tJI w fun ρ K => f ρ fun x ρ1 => frz ρ1 x.stl fun dx ρ2 => g ρ2 fun y ρ3 => frz ρ3 y.stl fun dy ρ4 => zipD dx dy fun ds => K ds ρ4) := by
  refine (RZ.pi_zipA hg hm (pa_cons ha (pa_cons hb pa_nil (star_plain hp2)) (star_plain hp)) (star_plain hp) (by rw [star_plain hp2]; rfl)).imp fun σ H R h => ?_
  obtain ⟨F, ρ, l, Kd, h, k⟩ := h
  refine tJ_settled l h fun x ρ1 F1 H1 v le1 l1 rx h1 => ?_
  obtain ⟨dx, F2, ρ2, le2, l2, rp, h2⟩ := frz_rel l1 rx h1
  refine tJ_settled l2 h2 fun y ρ3 F3 H3 u le3 l3 ry h3 => ?_
  obtain ⟨dy, F4, ρ4, le4, l4, rp2, h4⟩ := frz_rel l3 ry h3
  have rp := rp.mono (le_tr le3 le4)
  cases dx with
  | lst xs =>
    cases dy with
    | lst ys =>
      simp only [Rep] at rp rp2
      obtain ⟨a, vs, rfl, hqa, ra⟩ := rp
      obtain ⟨b, us, rfl, hqb, rb⟩ := rp2
      exact ⟨a, b, vs, us, rfl, .inl ⟨SqL.of (l4.le _ _ hqa), SqL.of (l4.le _ _ hqb), k _ ρ4 F4 H3 _ (le_tr (le_tr (le_tr le1 le2) le3) le4) l4 (items_zip hqa hqb ra rb) h4⟩⟩
    | _ => exact (show False from h4).elim
  | tup xs =>
    cases dy with
    | tup ys =>
      simp only [Rep] at rp rp2
      obtain ⟨a, vs, rfl, hqa, ra⟩ := rp
      obtain ⟨b, us, rfl, hqb, rb⟩ := rp2
      rw [hG] at hqa hqb
      exact ⟨a, b, vs, us, rfl, .inr ⟨sqT_mono l4.le hqa, sqT_mono l4.le hqb, k _ ρ4 F4 H3 _ (le_tr (le_tr (le_tr le1 le2) le3) le4) l4 (items_zipT hqa hqb ra rb) h4⟩⟩
    | _ => exact (show False from h4).elim
  | _ => exact (show False from h4).elim

/-! ### targets -/
/-- the slots that change are told -/
def Only' (vs : List Nat) (σ σ' : St) : Prop := σ'.length = σ.length ∧ ∀ i, i ∉ vs → σ'[i]? = σ[i]?
def gJ (G : Gd) (f : D → Rho → (Rho → Prop) → Prop) (ok : List Nat → Bool) : TG := fun v σ H Q => ∃ w F ρ d, w.G = G ∧ Rl w F H σ ρ ∧ Rep G F v d ∧ ∃ Kd : Rho → Prop, f d ρ Kd ∧ ∀ ρ' σ', Rl w F H σ' ρ' → (∀ vs, ok vs = true → Only' vs σ σ') → Kd ρ' → Q σ' H
def gsJ (G : Gd) (f : List D → Rho → (Rho → Prop) → Prop) (ok : List Nat → Bool) : TGs := fun us σ H Q => ∃ w F ρ ds, w.G = G ∧ Rl w F H σ ρ ∧ RepL G F us ds ∧ ∃ Kd : Rho → Prop, f ds ρ Kd ∧ ∀ ρ' σ', Rl w F H σ' ρ' → (∀ vs, ok vs = true → Only' vs σ σ') → Kd ρ' → Q σ' H
theorem _root_.L2.PG.imp {X : Cx} {e : Expr} {t t' : TG} (h : PG X e t) (k : ∀ v σ H Q, t' v σ H Q → t v σ H Q) : PG X e t' := ⟨fun pins s σ H v u Q I r q => h.run pins s σ H v u Q I r (k v σ H Q q)⟩
theorem _root_.L2.PGs.imp {X : Cx} {e : List Expr} {t t' : TGs} (h : PGs X e t) (k : ∀ v σ H Q, t' v σ H Q → t v σ H Q) : PGs X e t' := ⟨fun pins s σ H v u Q I r q => h.run pins s σ H v u Q I r (k v σ H Q q)⟩
theorem par_open {F H : Hp} {σ : St} {ρ : Rho} (l : Rl w F H σ ρ) {i : Nat} (h : open? ρ i = true) : w.par i = none := by
  cases q : w.par i with
  | none => rfl
  | some a =>
    obtain ⟨xs, e⟩ := l.pr i a q
    unfold open? at h
    rw [e] at h
    cases h
theorem par_notOw {F H : Hp} {σ : St} {ρ : Rho} (l : Rl w F H σ ρ) {i : Nat} (h : notOw ρ i = true) : w.par i = none := by
  cases q : w.par i with
  | none => rfl
  | some a =>
    obtain ⟨xs, e⟩ := l.pr i a q
    unfold notOw at h
    rw [e] at h
    cases h
theorem tgs_len {N : List Str} : ∀ {ts : Tgs} {es : List Expr} {env : Env}, mGs N sc ts es = true → (assignEach es env).length = es.length ∧ (assignEach es env).findIdx? (·.1) = none
  | .nil, [], env, _ => ⟨rfl, rfl⟩
  | .nil, _ :: _, _, h => by simp [mGs] at h
  | .cons t r, [], _, h => by simp [mGs] at h
  | .cons t r, e :: es, env, h => by
    simp only [mGs, Bool.and_eq_true] at h
    obtain ⟨h1, h2⟩ := tgs_len (env := env) h.2
    have e0 : assignEach (e :: es) env = (false, assign e env) :: assignEach es env := by
      cases e <;> first | rfl | exact absurd h.1.1 (by simp [plainE])
    rw [e0]
    refine ⟨by simp [h1], ?_⟩
    rw [List.findIdx?_cons]
    simp [h2]
mutual
theorem tgD_some : ∀ (t : Tg) (d : D) (ρ : Rho) (K : Rho → Prop), tgD t d ρ K → ∃ ρ1, K ρ1
  | .nm i, d, ρ, K, h => by
    simp only [tgD] at h
    exact ⟨_, h.2⟩
  | .tp ts, d, ρ, K, h => by
    cases d with
    | tup xs =>
      simp only [tgD] at h
      exact tgsD_some ts xs ρ K h
    | _ => simp only [tgD] at h
theorem tgsD_some : ∀ (ts : Tgs) (ds : List D) (ρ : Rho) (K : Rho → Prop), tgsD ts ds ρ K → ∃ ρ1, K ρ1
  | .nil, [], ρ, K, h => by
    simp only [tgsD] at h
    exact ⟨_, h⟩
  | .nil, _ :: _, ρ, K, h => by simp only [tgsD] at h
  | .cons t r, [], ρ, K, h => by simp only [tgsD] at h
  | .cons t r, d :: ds, ρ, K, h => by
    simp only [tgsD] at h
    obtain ⟨ρ1, h1⟩ := tgD_some t d ρ _ h
    exact tgsD_some r ds ρ1 K h1
end
theorem tgs_count {N : List Str} : ∀ (ts : Tgs) (es : List Expr) (xs : List D) (ρ : Rho) (K : Rho → Prop), mGs N sc ts es = true → tgsD ts xs ρ K → xs.length = es.length
  | .nil, [], [], _, _, _, _ => rfl
  | .nil, [], _ :: _, _, _, _, q => by simp only [tgsD] at q
  | .nil, _ :: _, _, _, _, h, _ => by simp [mGs] at h
  | .cons t r, [], _, _, _, h, _ => by simp [mGs] at h
  | .cons t r, e :: es, [], _, _, _, q => by simp only [tgsD] at q
  | .cons t r, e :: es, x :: xs, ρ, K, h, q => by
    simp only [tgsD] at q
    simp only [mGs, Bool.and_eq_true] at h
    obtain ⟨ρ1, q1⟩ := tgD_some t x ρ _ q
    rw [List.length_cons, List.length_cons, tgs_count r es xs ρ1 K h.2 q1]
mutual
theorem g_ok {S : Sg} {N : List Str} (g : XG S w.G sc X) (hN : N = X.N) : ∀ (t : Tg) (e : Expr), mG N sc t e = true → PG X e (gJ w.G (fun d ρ K => tgD t d ρ K) fun vs => tgIn vs t)
  | .nm i, e, h => by
    cases e with
    | Name x p =>
      simp only [mG, Bool.and_eq_true, decide_eq_true_eq] at h
      obtain ⟨hx, hf⟩ := g.loc h.2
      subst hN
      refine (pg_name g.nd h.1 hx hf).imp fun v σ H Q q => ?_
      obtain ⟨w', F, ρ, d, eG, l, rp, Kd, q, k⟩ := q
      simp only [tgD] at q
      refine k _ _ (l.set (par_open l q.1) (by rw [eG]; exact rp)) (fun vs hv => ⟨List.length_set, fun j hj => ?_⟩) q.2
      have hv : vs.contains i = true := by simpa only [tgIn] using hv
      rw [List.getElem?_set_ne]
      intro z
      subst z
      exact hj (List.contains_iff_mem.mp hv)
    | _ => simp [mG] at h
  | .tp ts, e, h => by
    cases e with
    | Tuple es k p =>
      simp only [mG] at h
      obtain ⟨h1, h2⟩ := tgs_len (env := X.env) h
      refine (pg_tup g.calm (gs_ok g hN ts es h) h1 h2).imp fun v σ H Q q => ?_
      obtain ⟨w', F, ρ, d, eG, l, rp, Kd, q, k⟩ := q
      cases d with
      | tup xs =>
        simp only [Rep] at rp
        simp only [tgD] at q
        obtain ⟨a, vs, rfl, ha, rl⟩ := rp
        rw [g.K] at ha
        refine ⟨a, vs, rfl, sqT_mono l.le ha, ?_, w', F, ρ, xs, eG, l, rl, Kd, q, fun ρ' σ' l' o => k ρ' σ' l' fun us hu => o us (by simpa only [tgIn] using hu)⟩
        rw [rl.length]
        exact tgs_count ts es xs ρ Kd h q
      | _ => simp only [tgD] at q
    | _ => simp [mG] at h
theorem gs_ok {S : Sg} {N : List Str} (g : XG S w.G sc X) (hN : N = X.N) : ∀ (ts : Tgs) (es : List Expr), mGs N sc ts es = true → PGs X es (gsJ w.G (fun d ρ K => tgsD ts d ρ K) fun vs => tgsIn vs ts)
  | .nil, [], h => by
    refine pgs_nil.imp fun v σ H Q q => ?_
    obtain ⟨w', F, ρ, d, eG, l, rp, Kd, q, k⟩ := q
    cases d with
    | nil =>
      simp only [tgsD] at q
      exact ⟨RepL.nil_inv rp, k _ _ l (fun vs _ => ⟨rfl, fun _ _ => rfl⟩) q⟩
    | cons _ _ => simp only [tgsD] at q
  | .nil, _ :: _, h => by simp [mGs] at h
  | .cons t r, [], h => by simp [mGs] at h
  | .cons t r, e :: es, h => by
    simp only [mGs, Bool.and_eq_true] at h
    have e0 : (assignEach (e :: es) X.env).map (·.2) = assign e X.env :: (assignEach es X.env).map (·.2) := by
      cases e <;> first | rfl | exact absurd h.1.1 (by simp [plainE])
    refine (pgs_cons (g_ok g hN t e h.1.2) (gs_ok g hN r es h.2) e0).imp fun v σ H Q q => ?_
    obtain ⟨w', F, ρ, d, eG, l, rp, Kd, q, k⟩ := q
    cases d with
    | nil => simp only [tgsD] at q
    | cons d ds =>
      obtain ⟨v1, vr, rfl, r1, r2⟩ := RepL.inv rp
      simp only [tgsD] at q
      refine ⟨v1, vr, rfl, w', F, ρ, d, eG, l, r1, _, q, fun ρ1 σ1 l1 o1 q1 => ⟨w', F, ρ1, ds, eG, l1, r2, Kd, q1, fun ρ2 σ2 l2 o2 q2 => k ρ2 σ2 l2 (fun vs hv => ?_) q2⟩⟩
      simp only [tgsIn, Bool.and_eq_true] at hv
      obtain ⟨a1, a2⟩ := o1 vs hv.1
      obtain ⟨b1, b2⟩ := o2 vs hv.2
      exact ⟨b1.trans a1, fun i hi => (b2 i hi).trans (a2 i hi)⟩
end
end
end DL

/-! DU: comprehensions, calls of defs and built-ins. -/
namespace DL
open PySem L2

theorem wipe_get (σ : St) (j : Nat) : ∀ vs : List Nat, (wipe σ vs)[j]? = if j ∈ vs ∧ j < σ.length then some none else σ[j]?
  | [] => by simp [wipe]
  | i :: r => by
    show ((wipe σ r).set i none)[j]? = _
    by_cases hj : i = j
    · subst hj
      by_cases hl : i < σ.length
      · rw [List.getElem?_set_self (by rw [wipe_length]; exact hl), if_pos ⟨List.mem_cons_self, hl⟩]
      · rw [if_neg (fun z => hl z.2), List.getElem?_eq_none (by rw [List.length_set, wipe_length]; omega), List.getElem?_eq_none (by omega)]
    · rw [List.getElem?_set_ne hj, wipe_get σ j r]
      by_cases hm : j ∈ r ∧ j < σ.length
      · rw [if_pos hm, if_pos ⟨List.mem_cons_of_mem _ hm.1, hm.2⟩]
      · rw [if_neg hm, if_neg]
        rintro ⟨h1, h2⟩
        rcases List.mem_cons.mp h1 with z | z
        · exact hj z.symm
        · exact hm ⟨z, h2⟩
theorem wipeR_length (ρ : Rho) : ∀ vs : List Nat, (wipeR ρ vs).length = ρ.length
  | [] => rfl
  | i :: r => by
    show ((wipeR ρ r).set i .no).length = _
    rw [List.length_set, wipeR_length ρ r]
theorem unwipe_length (ρ1 ρ2 : Rho) : ∀ vs : List Nat, (unwipe ρ1 ρ2 vs).length = ρ2.length
  | [] => rfl
  | i :: r => by
    show ((unwipe ρ1 ρ2 r).set i _).length = _
    rw [List.length_set, unwipe_length ρ1 ρ2 r]
theorem unwipe_get (ρ1 ρ2 : Rho) (j : Nat) : ∀ vs : List Nat, (unwipe ρ1 ρ2 vs)[j]? = if j ∈ vs ∧ j < ρ2.length then some (ρ1.getD j .no) else ρ2[j]?
  | [] => by simp [unwipe]
  | i :: r => by
    show ((unwipe ρ1 ρ2 r).set i (ρ1.getD i .no))[j]? = _
    by_cases hj : i = j
    · subst hj
      by_cases hl : i < ρ2.length
      · rw [List.getElem?_set_self (by rw [unwipe_length]; exact hl), if_pos ⟨List.mem_cons_self, hl⟩]
      · rw [if_neg (fun z => hl z.2), List.getElem?_eq_none (by rw [List.length_set, unwipe_length]; omega), List.getElem?_eq_none (by omega)]
    · rw [List.getElem?_set_ne hj, unwipe_get ρ1 ρ2 j r]
      by_cases hm : j ∈ r ∧ j < ρ2.length
      · rw [if_pos hm, if_pos ⟨List.mem_cons_of_mem _ hm.1, hm.2⟩]
      · rw [if_neg hm, if_neg]
        rintro ⟨h1, h2⟩
        rcases List.mem_cons.mp h1 with z | z
        · exact hj z.symm
        · exact hm ⟨z, h2⟩
section
variable {w : Wd} {F F' H H' : Hp} {σ : St} {ρ ρ' : Rho}
theorem Rl.wipeL (l : Rl w F H σ ρ) : ∀ vs : List Nat, vs.all (notOw ρ) = true → Rl w F H (L2.wipe σ vs) (wipeR ρ vs)
  | [], _ => l
  | i :: r, h => by
    rw [List.all_cons, Bool.and_eq_true] at h
    exact (Rl.wipeL l r h.2).wipe (par_notOw l h.1)
theorem Rl.unwipeL {F1 H1 : Hp} {ρ1 : Rho} (l1 : Rl w F1 H1 σ ρ1) {vs : List Nat} (hv : vs.all (notOw ρ1) = true) {fr' : Addr → Option HO} (l : Rl { w with fr := fr' } F' H' (L2.wipe σ vs) ρ') (le : Le F1 F') :
    Rl { w with fr := fr' } F' H' σ (unwipe ρ1 ρ' vs) := by
  have hlen : ρ'.length = σ.length := by rw [← l.len, wipe_length]
  have hlen1 : ρ1.length = σ.length := l1.len.symm
  have gd : ∀ {j}, j ∈ vs → j < ρ'.length → ∃ s, ρ1[j]? = some s ∧ ρ1.getD j .no = s ∧ ∀ b xs, s ≠ .ow b xs := fun {j} hj hl => by
    have hl1 : j < ρ1.length := by omega
    refine ⟨ρ1[j], List.getElem?_eq_getElem hl1, by simp [List.getD, hl1], fun b xs z => ?_⟩
    have q := List.all_eq_true.mp hv j hj
    unfold notOw at q
    rw [List.getElem?_eq_getElem hl1, z] at q
    cases q
  have own : ∀ {j : Nat} {b : Bool} {xs : List D}, (unwipe ρ1 ρ' vs)[j]? = some (Sl.ow b xs) → j ∉ vs ∧ ρ'[j]? = some (Sl.ow b xs) := fun {j b xs} e => by
    rw [unwipe_get] at e
    split at e
    · rename_i h
      obtain ⟨s, _, e2, e3⟩ := gd h.1 h.2
      rw [e2] at e
      cases e
      exact absurd rfl (e3 b xs)
    · rename_i h
      have hl : j < ρ'.length := (List.getElem?_eq_some_iff.mp e).1
      exact ⟨fun z => h ⟨z, hl⟩, e⟩
  have outσ : ∀ {j : Nat}, j ∉ vs → (L2.wipe σ vs)[j]? = σ[j]? := fun {j} h => by rw [wipe_get, if_neg (fun z => h z.1)]
  refine ⟨by rw [unwipe_length]; exact hlen.symm, l.le, l.f0, l.kp, l.al, l.nf, fun j s e => ?_, fun j a e => ?_, fun i j a b c xs ys e1 e2 e3 e4 => ?_, l.fx, l.tb⟩
  · rw [unwipe_get] at e
    split at e
    · rename_i h
      obtain ⟨s', e1, e2, e3⟩ := gd h.1 h.2
      rw [e2] at e
      cases e
      have z := l1.sl j _ e1
      cases s with
      | no => exact True.intro
      | fz d =>
        obtain ⟨v, e4, r⟩ := z
        exact ⟨v, e4, r.mono le⟩
      | ow b xs => exact absurd rfl (e3 b xs)
    · rename_i h
      have hl : j < ρ'.length := (List.getElem?_eq_some_iff.mp e).1
      have z := l.sl j s e
      rw [outσ (fun y => h ⟨y, hl⟩)] at z
      exact z
  · obtain ⟨xs, q⟩ := l.pr j a e
    refine ⟨xs, ?_⟩
    rw [unwipe_get]
    split
    · rename_i h
      obtain ⟨a', vs', es, _⟩ := l.sl j _ q
      rw [wipe_get, if_pos ⟨h.1, by omega⟩] at es
      cases es
    · exact q
  · obtain ⟨h1, q1⟩ := own e1
    obtain ⟨h2, q2⟩ := own e2
    exact l.dj i j a b c xs ys q1 q2 (by rw [outσ h1]; exact e3) (by rw [outσ h2]; exact e4)
/-- the cell held aside is changed -/
theorem Rl.rehold {p : Addr} {va vb : List V} (l : Rl { w with fr := upd w.fr p (.lst va) } F H σ ρ) (h0 : w.H0 p = none) : Rl { w with fr := upd w.fr p (.lst vb) } F (upd H p (.lst vb)) σ ρ where
  len := l.len
  le := fun a u e => by
    have hp : F p = none := (l.fx p (.lst va) (by show upd w.fr p (.lst va) p = some (.lst va); exact upd_same)).2
    rw [upd_ne (ne_of_none e hp)]; exact l.le a u e
  f0 := l.f0
  kp := fun a u e n => by
    have ne : a ≠ p := fun z => by
      have e : w.H0 a = some u := e
      rw [z, h0] at e; cases e
    rw [upd_ne ne]; exact l.kp a u e n
  al := fun a e => by
    have ne : a ≠ p := fun z => by rw [z, upd_same] at e; cases e
    rw [upd_ne ne] at e; exact l.al a e
  nf := l.nf
  sl := fun i s q => by
    have z := l.sl i s q
    cases s with
    | no => exact z
    | fz d => exact z
    | ow b xs =>
      obtain ⟨a, vs, es, ha, rl, nn, f, c⟩ := z
      have f : upd w.fr p (.lst va) a = none := f
      have ne : a ≠ p := fun y => by rw [y, upd_same] at f; cases f
      rw [upd_ne ne] at f
      exact ⟨a, vs, es, by rw [upd_ne ne]; exact ha, rl, nn, by show upd w.fr p (.lst vb) a = none; rw [upd_ne ne]; exact f, c⟩
  pr := l.pr
  tb := fun q e => ⟨tab_write (l.tb q e).1 (l.fx p (.lst va) (by show upd w.fr p (.lst va) p = some (.lst va); exact upd_same)).1, (l.tb q e).2.1, by
    have t3 : upd w.fr p (.lst va) q.1 = none := (l.tb q e).2.2.1
    have ne : q.1 ≠ p := fun y => by rw [y, upd_same] at t3; cases t3
    rw [upd_ne ne] at t3
    show upd w.fr p (.lst vb) q.1 = none
    rw [upd_ne ne]; exact t3, (l.tb q e).2.2.2⟩
  dj := l.dj
  fx := fun a u e => by
    have e : upd w.fr p (.lst vb) a = some u := e
    by_cases ha : a = p
    · subst ha
      rw [upd_same] at e
      cases e
      exact ⟨upd_same, (l.fx a (.lst va) (by show upd w.fr a (.lst va) a = some (.lst va); exact upd_same)).2⟩
    · rw [upd_ne ha] at e ⊢
      exact l.fx a u (by show upd w.fr p (.lst va) a = some u; rw [upd_ne ha]; exact e)
end

/-- a reading for any world of the same written part -/
def tJE (G : Gd) (f : Rho → KR → Prop) : TE := fun σ H Q => ∃ w, w.G = G ∧ tJ w f σ H Q
def tJTE (G : Gd) (f : Rho → (Bool → Rho → Prop) → Prop) : TT := fun σ H Q => ∃ w, w.G = G ∧ tJT w f σ H Q
theorem pe_ex {X : Cx} {e : Expr} {G : Gd} {f : Rho → KR → Prop} (h : ∀ w : Wd, w.G = G → PE X e (tJ w f)) : PE X e (tJE G f) := ⟨fun pins s σ H Q I q => by
  obtain ⟨w, hw, q⟩ := q
  exact (h w hw).run pins s σ H Q I q⟩
theorem pts_ex {X : Cx} {e : List Expr} {G : Gd} {f : Rho → (Bool → Rho → Prop) → Prop} (h : ∀ w : Wd, w.G = G → PTs X e (tJT w f)) : PTs X e (tJTE G f) := ⟨fun pins s σ H Q I q => by
  obtain ⟨w, hw, q⟩ := q
  exact (h w hw).run pins s σ H Q I q⟩

theorem frz_stl {ρ : Rho} {r : R} {K : D → Rho → Prop} (h : frz ρ r K) : frz ρ r.stl K := by
  cases r <;> exact h
theorem only_wipe {σ σ' : St} {vs : List Nat} (o : Only' vs σ σ') : wipe σ' vs = wipe σ vs := by
  apply List.ext_getElem?
  intro j
  rw [wipe_get, wipe_get, o.1]
  split
  · rfl
  · rename_i h
    by_cases hj : j ∈ vs
    · have hl : σ.length ≤ j := by
        rcases Nat.lt_or_ge j σ.length with z | z
        · exact absurd ⟨hj, z⟩ h
        · exact z
      rw [List.getElem?_eq_none hl, List.getElem?_eq_none (by rw [o.1]; exact hl)]
    · exact o.2 j hj

/-- a comprehension's reading, from the parts -/
theorem lc_data {w : Wd} {wi : TI} {t : Tg} {ft : Rho → (Bool → Rho → Prop) → Prop} {fe : Rho → KR → Prop} {vs : List Nat} {fi : Rho → (List D → Rho → Prop) → Prop} {σ : St} {H : Hp} {Q : VK}
    (h : tJ w (fun ρ K => fi ρ fun ds ρ1 => (vs.all (notOw ρ1) = true ∧ tgIn vs t = true) ∧ compD vs t ft fe ds [] (wipeR ρ1 vs) fun acc ρ2 => K (.n acc) (unwipe ρ1 ρ2 vs)) σ H Q) :
    tLc (tJI w fi) (gJ w.G (fun d ρ K => tgD t d ρ K) fun vs => tgIn vs t) (tJTE w.G ft) (tJE w.G fe) vs σ H Q := by
  obtain ⟨F, ρ, l, Kd, h, k⟩ := h
  refine ⟨F, ρ, l, _, h, fun ds ρ1 F1 H1 J le1 l1 it q => ?_⟩
  obtain ⟨⟨hv, ht⟩, q⟩ := q
  intro A hA
  have hA0 : w.H0 A = none := l1.al A hA
  have hAf : w.fr A = none := l1.freshFr hA
  refine ⟨fun i m H => ∃ F' ρ' acc va, i + m = ds.length ∧ Le F1 F' ∧ Rl { w with fr := upd w.fr A (.lst va) } F' H (wipe σ vs) ρ' ∧ RepL w.G F' va acc ∧ compD vs t ft fe (ds.drop i) acc ρ' fun acc ρ2 => Kd (.n acc) (unwipe ρ1 ρ2 vs), ?_, ?_⟩
  · have g := Grow.alloc l1.le hA (.lst [])
    refine ⟨ds.length, F1, wipeR ρ1 vs, [], [], by omega, le_rfl', ?_, RepL.nil, q⟩
    refine ((l1.wipeL vs hv).grow g).hold upd_same (le_none l1.le hA) ?_ (fun ps z => by cases z)
    exact (l1.wipeL vs hv).free hA
  · rintro i m H2 ⟨F', ρ', acc, va, hm, leF, l2, ra, q2⟩
    have hi : i ≤ ds.length := by omega
    obtain ⟨it1, it2⟩ := it i F' H2 leF l2.le hi
    have fxA := l2.fx A (.lst va) (by show upd w.fr A (.lst va) A = _; exact upd_same)
    by_cases he : i = ds.length
    · left
      refine ⟨it1 he, ?_⟩
      rw [he, List.drop_length] at q2
      have l3 := l1.unwipeL hv l2 leF
      refine k (.n acc) _ F' H2 (.ref A) (le_tr le1 leF) (l3.unhold fun a o e => ?_) ⟨A, va, rfl, fxA.1, ra, fxA.2, hA0, hAf, fun j b xs e z => ?_⟩ q2
      · rw [upd_ne (fun y => by rw [y, hAf] at e; cases e)]; exact e
      · obtain ⟨a, us, es, _, _, _, f, _⟩ := l3.sl j _ e
        rw [z] at es
        have ea : A = a := by injection es with y; injection y with y; injection y
        have f : upd w.fr A (.lst va) a = none := f
        rw [← ea, upd_same] at f
        cases f
    · right
      have hlt : i < ds.length := by omega
      have hd : ds[i]? = some ds[i] := List.getElem?_eq_getElem hlt
      obtain ⟨go, yl⟩ := it2 _ hd
      rw [List.drop_eq_getElem_cons hlt] at q2
      refine ⟨go, fun H' => ∃ m', m' < m ∧ ∃ F' ρ' acc va, i + 1 + m' = ds.length ∧ Le F1 F' ∧ Rl { w with fr := upd w.fr A (.lst va) } F' H' (wipe σ vs) ρ' ∧ RepL w.G F' va acc ∧ compD vs t ft fe (ds.drop (i + 1)) acc ρ' fun acc ρ2 => Kd (.n acc) (unwipe ρ1 ρ2 vs), fun _ z => z, fun x H3 y => ?_⟩
      obtain ⟨F3, gr, rx⟩ := yl x H3 y
      have l3 := l2.grow gr
      refine ⟨{ w with fr := upd w.fr A (.lst va) }, F3, ρ', ds[i], rfl, l3, rx, _, q2, fun ρ4 σ4 l4 on q4 => ?_⟩
      have ew : wipe σ4 vs = wipe (wipe σ vs) vs := only_wipe (on vs ht)
      have ew2 : wipe (wipe σ vs) vs = wipe σ vs := by
        apply List.ext_getElem?
        intro j
        rw [wipe_get, wipe_length, wipe_get]
        split <;> rfl
      have ew3 : wipe σ4 vs = wipe σ vs := ew.trans ew2
      refine ⟨ew3, { w with fr := upd w.fr A (.lst va) }, rfl, F3, ρ4, l4, _, q4, fun b ρ5 F5 H5 le5 l5 q5 => ?_⟩
      cases b with
      | true =>
        rw [if_pos rfl] at q5 ⊢
        refine ⟨{ w with fr := upd w.fr A (.lst va) }, rfl, tJ_settled l5 q5 fun r ρ6 F6 H6 v le6 l6 rr q6 => ?_⟩
        obtain ⟨dx, F7, ρ7, le7, l7, rp, q7⟩ := frz_rel l6 rr (frz_stl q6)
        obtain ⟨hz, hw, q7⟩ := q7
        have fx7 := l7.fx A (.lst va) (by show upd w.fr A (.lst va) A = _; exact upd_same)
        have le17 : Le F1 F7 := le_tr (le_tr (le_tr (le_tr leF gr.fm) le5) le6) le7
        have ra7 := ra.mono (le_tr (le_tr (le_tr gr.fm le5) le6) le7)
        refine ⟨va, fx7.1, by rw [ra.length]; exact hz, m - 1, by omega, F7, wipeR ρ7 vs, acc ++ [dx], va ++ [v], by omega, le17, ?_, ra7.append (RepL.cons rp RepL.nil), q7⟩
        have l8 := (l7.rehold (vb := va ++ [v]) hA0).wipeL vs hw
        rw [ew3] at l8
        exact l8
      | false =>
        rw [if_neg Bool.false_ne_true] at q5 ⊢
        have l6 := l5.wipeL vs q5.1
        rw [ew3] at l6
        exact ⟨m - 1, by omega, F5, wipeR ρ5 vs, acc, va, by omega, le_tr (le_tr leF gr.fm) le5, l6, ra.mono (le_tr gr.fm le5), q5.2⟩
end DL

/-! DW: built-ins by data; contracts. -/
namespace PySem
section
variable {prog : Program} {w : World} {A : Around} {E : Value → Shared → Prop} {s : Shared}
theorem F.args_max3x (a b c : Value) : argsOk "max" ⟨[a, b, c], []⟩ := by unfold argsOk; kernel_rfl
/-- max of three ints -/
theorem dl_max3 {a b c : Int} {t u v : Tok} {Q : Value → Shared → Prop} (hh : A.handled = none)
    (h : ∀ h' tk z, (∀ x o, s.heap.get? x = some o → h'.get? x = some o) → Q (.int (max (max a b) c) z) { s with heap := h', toks := tk }) : wpAny (model prog w) A (call (.builtin "max") [.int a t, .int b u, .int c v]) Q E s := by
  have hname : (toString "max" ++ toString ".loop" : String) = "max.loop" := by decide
  have hT : (s.heap.push { cls := .type "tuple", data := .seq #[.int a t, .int b u, .int c v] }).IsTuple s.heap.objs.size (intItems #[(a, t), (b, u), (c, v)]) := ⟨_, Heap.get?_push_size _ rfl, rfl, 0, by simp [intItems]⟩
  have hsz : (s.heap.push { cls := .type "tuple", data := .seq #[.int a t, .int b u, .int c v] }).objs.size = s.heap.objs.size + 1 := Heap.size_push ..
  refine call_function_tree F.kind_max F.plain_max F.entry_max (F.args_max3x _ _ _) ?_
  show wpAny _ A.in1 (Builtin.Builtins.bindParams "max" ["key", "default"] 0 ⟨[], []⟩ >>= _) _ _ s
  refine wpAny_bind (wpAny_of_eq (show Builtin.Builtins.bindParams "max" ["key", "default"] 0 ⟨[], []⟩ = pure [none, none] from rfl) ?_)
  show wpAny _ A.in1 (newTuple [.int a t, .int b u, .int c v] >>= _) _ _ s
  refine wpAny_bind (wpAny_newObj_type ?_)
  refine wpAny_bind (wpAny_pyIter_tuple hT ?_)
  have W := Walks.tuple (prog := prog) (w := w) (A := A.in1) hh (s.heap.objs.size + 1) s.heap.objs.size (Nat.ne_of_lt (Nat.lt_succ_self _)) (intItems #[(a, t), (b, u), (c, v)])
  refine wpAny_bind (wpAny_newObj_type ?_)
  rw [hname]
  have st : ((s.heap.push { cls := .type "tuple", data := .seq #[.int a t, .int b u, .int c v] }).push { cls := .type "tuple_iterator", data := .fields #[.ref s.heap.objs.size, .int 0 0] }).IsTupleIter (s.heap.objs.size + 1) s.heap.objs.size 0 :=
    ⟨_, by rw [← hsz]; exact Heap.get?_push_size _ rfl, rfl, rfl⟩
  have hfp : ∀ x ∈ [s.heap.objs.size + 1, s.heap.objs.size], x < ((s.heap.push { cls := .type "tuple", data := .seq #[.int a t, .int b u, .int c v] }).push { cls := .type "tuple_iterator", data := .fields #[.ref s.heap.objs.size, .int 0 0] }).objs.size := fun x hx => by
    rw [Heap.size_push, hsz]
    rcases List.mem_cons.mp hx with rfl | hx
    · exact Nat.lt_succ_self _
    · rcases List.mem_cons.mp hx with rfl | hx
      · exact Nat.lt_succ_of_lt (Nat.lt_succ_self _)
      · cases hx
  have hst := And.intro st (hT.push { cls := .type "tuple_iterator", data := .fields #[.ref s.heap.objs.size, .int 0 0] })
  rw [show (s.heap.push { cls := .type "tuple", data := .seq #[.int a t, .int b u, .int c v] }).objs.size = s.heap.objs.size + 1 from hsz]
  refine wpAny_pure ⟨plainId_quiet F.plain_max_loop _, codeAny_max_loop_first W _ (CmpOf.ints_gt (numAt #[(a, t), (b, u), (c, v)]) (fun _ _ => intItems_at)) _ (fun hm => Nat.lt_irrefl _ (hfp _ hm)) (by simp [intItems])
    (W.frame _ _ _ hst fun x _ o e => Heap.get?_push_of_some _ e) (Heap.get?_push_size _ rfl) fun z h' tk hP hk => ?_⟩
  have hold : ∀ x o, s.heap.get? x = some o → h'.get? x = some o := fun x o e => by
    have lx := Heap.lt_size e
    refine hk x o (fun hm => ?_) ?_ (Heap.get?_push_of_some _ (Heap.get?_push_of_some _ (Heap.get?_push_of_some _ e)))
    · rcases List.mem_cons.mp hm with e1 | hm
      · rw [e1] at lx; exact absurd lx (Nat.not_lt.mpr (Nat.le_succ _))
      · cases hm
    · intro e1
      rw [e1, Heap.size_push, hsz] at lx
      exact absurd lx (Nat.not_lt.mpr (Nat.le_add_right _ 2))
  have hv : ∃ y, z = Value.int (max (max a b) c) y := by
    have hP' : (intItems #[(a, t), (b, u), (c, v)])[argBest (fun i j => decide (numAt #[(a, t), (b, u), (c, v)] i > numAt #[(a, t), (b, u), (c, v)] j)) 2]? = some z := by
      have hsz2 : (intItems #[(a, t), (b, u), (c, v)]).size - 1 = 2 := by simp [intItems]
      rw [← hsz2]; exact hP
    obtain ⟨y, rfl⟩ := intItems_at hP'
    obtain ⟨m1, m2⟩ := argBest_gt (numAt #[(a, t), (b, u), (c, v)]) 2
    refine ⟨y, ?_⟩
    have n0 := m2 0 (by omega)
    have n1 := m2 1 (by omega)
    have n2 := m2 2 (by omega)
    generalize argBest (fun i j => decide (numAt #[(a, t), (b, u), (c, v)] i > numAt #[(a, t), (b, u), (c, v)] j)) 2 = q at *
    have e0 : numAt #[(a, t), (b, u), (c, v)] 0 = a := by simp [numAt]
    have e1 : numAt #[(a, t), (b, u), (c, v)] 1 = b := by simp [numAt]
    have e2 : numAt #[(a, t), (b, u), (c, v)] 2 = c := by simp [numAt]
    rw [e0] at n0
    rw [e1] at n1
    rw [e2] at n2
    have hq : q = 0 ∨ q = 1 ∨ q = 2 := by omega
    congr 1
    rcases hq with rfl | rfl | rfl
    · rw [e0] at n1 n2 ⊢; omega
    · rw [e1] at n0 n2 ⊢; omega
    · rw [e2] at n0 n1 ⊢; omega
  obtain ⟨y, rfl⟩ := hv
  exact h h' tk y hold
/-- max of a tuple of ints -/
theorem dl_maxTup {l : Addr} {xs : Array (Int × Tok)} {Q : Value → Shared → Prop} (hh : A.handled = none) (hl : s.heap.IsTuple l (intItems xs)) (hne : 0 < xs.size)
    (h : ∀ z h' tk, (intItems xs)[argBest (fun i j => decide (numAt xs i > numAt xs j)) (xs.size - 1)]? = some z → (∀ x o, s.heap.get? x = some o → h'.get? x = some o) → Q z { s with heap := h', toks := tk }) :
    wpAny (model prog w) A (call (.builtin "max") [.ref l]) Q E s := by
  have hlt : l < s.heap.objs.size := by obtain ⟨_, e, _⟩ := hl; exact Heap.lt_size e
  refine call_max_walk (wpAny_pyIter_tuple hl ?_)
  refine ⟨_, [s.heap.objs.size, l], [s.heap.objs.size], _, _, _, _, rfl, Walks.tuple (A := A.in1) hh _ l (Nat.ne_of_lt hlt) (intItems xs), ⟨⟨_, Heap.get?_push_size _ rfl, rfl, rfl⟩, hl.push _⟩, fun x hx => ?_, by simpa [intItems] using hne, CmpOf.ints_gt (numAt xs) (fun _ _ => intItems_at), fun z h' tk hP hk => ?_⟩
  · show x < (s.heap.push _).objs.size
    rw [Heap.size_push]
    rcases List.mem_cons.mp hx with rfl | hx
    · exact Nat.lt_succ_self _
    · rcases List.mem_cons.mp hx with rfl | hx
      · exact Nat.lt_succ_of_lt hlt
      · cases hx
  · refine h z h' tk (by simpa [intItems] using hP) fun x o e => ?_
    refine hk x o (fun hm => ?_) (Heap.get?_push_of_some _ e)
    rcases List.mem_cons.mp hm with e1 | hm
    · exact absurd (e1 ▸ Heap.lt_size e) (Nat.lt_irrefl _)
    · cases hm
end
end PySem
namespace DL
open PySem L2
section
variable {X : Cx} {G : Gd}
theorem intItems_of : ∀ {us : List Value} {ns : List Int}, PyProof.Rows.IntsAre us ns → ∃ xs : List (Int × Tok), us = xs.map (fun p => Value.int p.1 p.2) ∧ xs.map (·.1) = ns
  | _, _, .nil => ⟨[], rfl, rfl⟩
  | _, _, .cons n t h => by
    obtain ⟨xs, e1, e2⟩ := intItems_of h
    exact ⟨(n, t) :: xs, by rw [e1]; rfl, by rw [← e2]; rfl⟩
theorem cr_max3 (hc : X.calm = true) : CallR X (.builtin "max") (fun xs H Q => ∃ i j k, xs = [.int i, .int j, .int k] ∧ Q (.int (max (max i j) k)) H) := by
  intro pins s σ H xs us Q I r h
  obtain ⟨i, j, k, rfl, q⟩ := h
  cases r with
  | cons r1 r =>
    cases r with
    | cons r2 r =>
      cases r with
      | cons r3 r =>
        cases r
        obtain ⟨t1, rfl⟩ := r1
        obtain ⟨t2, rfl⟩ := r2
        obtain ⟨t3, rfl⟩ := r3
        exact dl_max3 (I.ok.hd hc) fun h' tk z kp => ⟨.int _, H, I.kept kp, ⟨_, rfl⟩, q⟩
theorem cr_maxT (hc : X.calm = true) : CallR X (.builtin "max") (fun vs H Q => ∃ (a : Addr) (ns : List Int), vs = [V.ref a] ∧ SqT X.K H a (ns.map V.int) ∧ 0 < ns.length ∧ ∀ m, m ∈ ns → (∀ y, y ∈ ns → y ≤ m) → Q (.int m) H) := by
  intro pins s σ H xs us Q I r h
  obtain ⟨a, ns, rfl, hq, hl, q⟩ := h
  obtain ⟨u, rfl, ru⟩ := vals1 r
  cases ru
  obtain ⟨its, r2, pl, _⟩ := I.tuple hq
  obtain ⟨ps, e1, e2⟩ := intItems_of (Vals.ints r2)
  have e3 : its.toArray = intItems ps.toArray := by rw [e1]; simp [intItems]
  have hsz : ps.length = ns.length := by rw [← e2, List.length_map]
  rw [e3] at pl
  refine dl_maxTup (I.ok.hd hc) (show s.heap.IsTuple a _ from pl) (by rw [List.size_toArray]; omega) fun z h' tk hz kp => ?_
  obtain ⟨t, rfl⟩ := intItems_at hz
  obtain ⟨m1, m2⟩ := argBest_gt (numAt ps.toArray) (ps.toArray.size - 1)
  have nm : ∀ (i : Nat) (h : i < ps.length), numAt ps.toArray i = ns[i]'(by omega) := fun i h => by
    subst e2
    simp [numAt, h]
  generalize argBest (fun i j => decide (numAt ps.toArray i > numAt ps.toArray j)) (ps.toArray.size - 1) = b at *
  rw [List.size_toArray] at m1 m2
  refine ⟨.int _, H, I.kept kp, ⟨t, rfl⟩, q _ ?_ fun y hy => ?_⟩
  · rw [nm b (by omega)]
    exact List.getElem_mem _
  · obtain ⟨j, hj, rfl⟩ := List.mem_iff_getElem.mp hy
    rw [← nm j (by omega)]
    exact m2 j (by omega)

/-- the reading of a built-in's call by data -/
def rBi (G : Gd) (sem : List D → (Res → Prop) → Prop) : List V → Hp → VK → Prop := fun xs H Q => ∃ F ds, Le F H ∧ Paired (RdV G F H) xs ds ∧ OutD G F H (sem ds) Q
def Bi.val : Bi → Value
  | .len => .builtin "len" | .max2 => .builtin "max" | .max3 => .builtin "max" | .max1 => .builtin "max" | .min2 => .builtin "min" | .min1 => .builtin "min" | .list => .type "list" | .tuple => .type "tuple" | .sum => .builtin "sum" | .any => .builtin "any" | .all => .builtin "all" | .int => .type "int"
theorem p1 {F H : Hp} {xs : List V} {d : D} (h : Paired (RdV G F H) xs [d]) : ∃ x, xs = [x] ∧ RdV G F H x d := by
  cases h with
  | cons a b => cases b; exact ⟨_, rfl, a⟩
theorem p2 {F H : Hp} {xs : List V} {d e : D} (h : Paired (RdV G F H) xs [d, e]) : ∃ x y, xs = [x, y] ∧ RdV G F H x d ∧ RdV G F H y e := by
  cases h with
  | cons a b =>
    obtain ⟨y, rfl, c⟩ := p1 b
    exact ⟨_, _, rfl, a, c⟩
theorem p3 {F H : Hp} {xs : List V} {d e f : D} (h : Paired (RdV G F H) xs [d, e, f]) : ∃ x y z, xs = [x, y, z] ∧ RdV G F H x d ∧ RdV G F H y e ∧ RdV G F H z f := by
  cases h with
  | cons a b =>
    obtain ⟨y, z, rfl, c⟩ := p2 b
    exact ⟨_, _, _, rfl, a, c⟩
theorem out_val {F H : Hp} {Q : VK} {Kd : Res → Prop} (h : Le F H) (k : ∀ v r F' H', Grow F H F' H' → RRes G H F' H' v r → Kd r → Q v H') {v : V} {d : D} (r : Rep G F v d) (q : Kd (.d d)) : Q v H := out_at h k q r
theorem bi_ok (hG : G.K = X.K) (hc : X.calm = true) : ∀ b : Bi, CallR X b.val (rBi G b.sem) := by
  intro b pins s σ H xs us Q I r h
  obtain ⟨F, ds, hle, hp, Kd, hs, k⟩ := h
  cases b with
  | len =>
    unfold Bi.sem at hs
    split at hs <;> rename_i e <;> try cases e
    · obtain ⟨x, rfl, rx⟩ := p1 hp
      obtain ⟨a, vs, rfl, ha, l⟩ := rx
      exact call_len pins s σ H _ us Q I r ⟨_, vs.length, rfl, .inl ⟨vs, SqL.of ha, rfl⟩, out_val hle k (Rep.int' _) (by rw [l.length]; exact hs)⟩
    · obtain ⟨x, rfl, rx⟩ := p1 hp
      simp only [RdV, Rep] at rx
      obtain ⟨a, vs, rfl, ha, l⟩ := rx
      rw [hG] at ha
      exact call_len pins s σ H _ us Q I r ⟨_, vs.length, rfl, .inr ⟨vs, sqT_mono hle ha, rfl⟩, out_val hle k (Rep.int' _) (by rw [l.length]; exact hs)⟩
    · obtain ⟨x, rfl, rx⟩ := p1 hp
      simp only [RdV, Rep] at rx
      subst rx
      exact call_len pins s σ H _ us Q I r ⟨_, _, rfl, ⟨hs.1, rfl⟩, out_val hle k (Rep.int' _) hs.2⟩
    · exact hs.elim
  | max2 =>
    unfold Bi.sem at hs
    split at hs <;> rename_i e <;> try cases e
    · obtain ⟨x, y, rfl, rx, ry⟩ := p2 hp
      simp only [RdV, Rep] at rx ry
      subst rx
      subst ry
      refine call_max2 hc pins s σ H _ us Q I r ⟨_, _, rfl, ?_⟩
      rename_i i j
      have e : (if j > i then j else i) = max i j := by by_cases h : j > i <;> simp [h] <;> omega
      rw [e]
      exact out_val hle k (Rep.int' _) hs
    · exact hs.elim
  | min2 =>
    unfold Bi.sem at hs
    split at hs <;> rename_i e <;> try cases e
    · obtain ⟨x, y, rfl, rx, ry⟩ := p2 hp
      simp only [RdV, Rep] at rx ry
      subst rx
      subst ry
      refine call_min2 hc pins s σ H _ us Q I r ⟨_, _, rfl, ?_⟩
      rename_i i j
      have e : (if j < i then j else i) = min i j := by by_cases h : j < i <;> simp [h] <;> omega
      rw [e]
      exact out_val hle k (Rep.int' _) hs
    · exact hs.elim
  | max3 =>
    unfold Bi.sem at hs
    split at hs <;> rename_i e <;> try cases e
    · obtain ⟨x, y, z, rfl, rx, ry, rz⟩ := p3 hp
      simp only [RdV, Rep] at rx ry rz
      subst rx
      subst ry
      subst rz
      exact cr_max3 hc pins s σ H _ us Q I r ⟨_, _, _, rfl, out_val hle k (Rep.int' _) hs⟩
    · exact hs.elim
  | max1 =>
    unfold Bi.sem at hs
    split at hs <;> rename_i e <;> try cases e
    · obtain ⟨x, rfl, rx⟩ := p1 hp
      obtain ⟨ns, rfl, hn, q⟩ := hs
      obtain ⟨a, vs, rfl, ha, l⟩ := rx
      rw [RepL.ints l] at ha
      exact cr_max hc pins s σ H _ us Q I r ⟨a, ns, rfl, SqL.of ha, hn, fun m h1 h2 => out_val hle k (Rep.int' _) (q m h1 h2)⟩
    · obtain ⟨x, rfl, rx⟩ := p1 hp
      obtain ⟨ns, rfl, hn, q⟩ := hs
      simp only [RdV, Rep] at rx
      obtain ⟨a, vs, rfl, ha, l⟩ := rx
      rw [RepL.ints l, hG] at ha
      exact cr_maxT hc pins s σ H _ us Q I r ⟨a, ns, rfl, sqT_mono hle ha, hn, fun m h1 h2 => out_val hle k (Rep.int' _) (q m h1 h2)⟩
    · exact hs.elim
  | min1 =>
    unfold Bi.sem at hs
    split at hs <;> rename_i e <;> try cases e
    · obtain ⟨x, rfl, rx⟩ := p1 hp
      obtain ⟨ns, rfl, hn, q⟩ := hs
      obtain ⟨a, vs, rfl, ha, l⟩ := rx
      rw [RepL.ints l] at ha
      exact cr_min hc pins s σ H _ us Q I r ⟨a, ns, rfl, SqL.of ha, hn, fun m h1 h2 => out_val hle k (Rep.int' _) (q m h1 h2)⟩
    · exact hs.elim
  | list =>
    unfold Bi.sem at hs
    split at hs <;> rename_i e <;> try cases e
    · obtain ⟨x, rfl, rx⟩ := p1 hp
      rename_i d
      cases d with
      | lst ys =>
        obtain ⟨a, vs, rfl, ha, l⟩ := rx
        exact call_list_of pins s σ H _ us Q I r ⟨a, vs, rfl, .inl (SqL.of ha), fun p n => out_lst hle k hs l n⟩
      | tup ys =>
        simp only [RdV, Rep] at rx
        obtain ⟨a, vs, rfl, ha, l⟩ := rx
        rw [hG] at ha
        exact call_list_of pins s σ H _ us Q I r ⟨a, vs, rfl, .inr (sqT_mono hle ha), fun p n => out_lst hle k hs l n⟩
      | _ => exact (show False from hs).elim
    · exact hs.elim
  | tuple =>
    unfold Bi.sem at hs
    split at hs <;> rename_i e <;> try cases e
    · obtain ⟨x, rfl, rx⟩ := p1 hp
      rename_i d
      cases d with
      | lst ys =>
        obtain ⟨a, vs, rfl, ha, l⟩ := rx
        exact call_tuple_of pins s σ H _ us Q I r ⟨a, vs, rfl, .inl ⟨SqL.of ha, fun p n => out_tup hle k hs l n⟩⟩
      | tup ys =>
        have rx0 := rx
        simp only [RdV, Rep] at rx
        obtain ⟨a, vs, rfl, ha, l⟩ := rx
        rw [hG] at ha
        exact call_tuple_of pins s σ H _ us Q I r ⟨a, vs, rfl, .inr ⟨sqT_mono hle ha, out_val hle k rx0 hs⟩⟩
      | _ => exact (show False from hs).elim
    · exact hs.elim
  | sum =>
    unfold Bi.sem at hs
    split at hs <;> rename_i e <;> try cases e
    · obtain ⟨x, rfl, rx⟩ := p1 hp
      obtain ⟨ns, rfl, q⟩ := hs
      obtain ⟨a, vs, rfl, ha, l⟩ := rx
      rw [RepL.ints l] at ha
      exact cr_sum hc pins s σ H _ us Q I r ⟨a, ns, rfl, SqL.of ha, out_val hle k (Rep.int' _) q⟩
    · exact hs.elim
  | any =>
    unfold Bi.sem at hs
    split at hs <;> rename_i e <;> try cases e
    · obtain ⟨x, rfl, rx⟩ := p1 hp
      obtain ⟨ns, rfl, q⟩ := hs
      obtain ⟨a, vs, rfl, ha, l⟩ := rx
      rw [RepL.bls l] at ha
      exact cr_any hc pins s σ H _ us Q I r ⟨a, ns, rfl, SqL.of ha, out_val hle k (Rep.bl' _) q⟩
    · exact hs.elim
  | all =>
    unfold Bi.sem at hs
    split at hs <;> rename_i e <;> try cases e
    · obtain ⟨x, rfl, rx⟩ := p1 hp
      obtain ⟨ns, rfl, q⟩ := hs
      obtain ⟨a, vs, rfl, ha, l⟩ := rx
      rw [RepL.bls l] at ha
      exact cr_all hc pins s σ H _ us Q I r ⟨a, ns, rfl, SqL.of ha, out_val hle k (Rep.bl' _) q⟩
    · exact hs.elim
  | int =>
    unfold Bi.sem at hs
    split at hs <;> rename_i e <;> try cases e
    · obtain ⟨x, rfl, rx⟩ := p1 hp
      simp only [RdV, Rep] at rx
      subst rx
      exact call_int1 pins s σ H _ us Q I r (.inl ⟨_, rfl, out_val hle k (Rep.int' _) hs⟩)
    · obtain ⟨x, rfl, rx⟩ := p1 hp
      simp only [RdV, Rep] at rx
      subst rx
      exact call_int1 pins s σ H _ us Q I r (.inr ⟨_, rfl, out_val hle k (Rep.int' _) hs⟩)
    · exact hs.elim

/-! ### contracts of defs -/
/-- the heaps behind a call: bo, the address of what was handed in to be changed, holds bag -/
structure Step (G : Gd) (F H F' H' : Hp) (bo : Option Addr) (bag : List D) : Prop where
  fm : Le F F'
  le : Le F' H'
  kp : ∀ a o, H a = some o → (∀ q ∈ G.ts, q.1 ≠ a) → bo ≠ some a → H' a = some o
  tb : ∀ q ∈ G.ts, LamX.TabS H' q.1 q.2
  al : ∀ a, H' a = none → H a = none
  nf : ∀ a, H a ≠ none → F a = none → F' a = none
  bg : ∀ a, bo = some a → ∃ us, H' a = some (.lst us) ∧ RepL G F' us bag
/-- the arguments' part of a promise -/
def ArgsAt (G : Gd) (c : Ct) (F H : Hp) (vs : List V) (bo : Option Addr) (bag args : List D) : Prop :=
  if c.m = true then ∃ a vr us, vs = .ref a :: vr ∧ bo = some a ∧ H a = some (.lst us) ∧ RepL G F us bag ∧ F a = none ∧ RepL G F vr args else bo = none ∧ bag = [] ∧ RepL G F vs args
def Ct.sp (c : Ct) (G : Gd) : Sp := fun vs H Q E => ∃ F bag args bo, (Le F H ∧ TabsOk G.ts F H) ∧ args.length = c.n ∧ ArgsAt G c F H vs bo bag args ∧
  ∃ (Kd : Res → List D → Prop) (Xd : Xn → List D → Prop), c.sem Xd bag args Kd ∧
    (∀ v r F' H' bag', Step G F H F' H' bo bag' → RRes G H F' H' v r → Kd r bag' → Q v H') ∧
    (∀ cls d F' H' xn bag', Step G F H F' H' bo bag' → RepX G F' H' cls d xn → Xd xn bag' → E cls d H')
theorem Ct.sp_len {c : Ct} {vs : List V} {H : Hp} {Q : VK} {E : XK} (h : c.sp G vs H Q E) : vs.length = if c.m = true then c.n + 1 else c.n := by
  obtain ⟨F, bag, args, bo, hle, hn, ha, _⟩ := h
  unfold ArgsAt at ha
  by_cases hm : c.m = true
  · rw [if_pos hm] at ha ⊢
    obtain ⟨a, vr, us, rfl, _, _, _, _, l⟩ := ha
    rw [List.length_cons, l.length, hn]
  · rw [if_neg hm] at ha ⊢
    rw [ha.2.2.length, hn]
/-- a def of the text keeps its contract -/
def FnC (G : Gd) (X : Cx) (e : FnE) : Prop := ∃ k f fd ps ds dvs, FnOk X.prog X.w X.K X.mg X.base (L2N.CX X.prog X.w) k f fd ps (e.ct.sp G) ∧ Room k X.A ∧ X.mg e.name = some (.ref f) ∧ PySem.W.keepIn X.K (.ref f) = true ∧
  Binds X.K fd ps ds ∧ Vals dvs ds ∧ ∀ F, RepL G F dvs e.dflt
theorem step_rl {w : Wd} {F H F' H' : Hp} {σ : St} {ρ : Rho} (l : Rl w F H σ ρ) {bag : List D} (s : Step w.G F H F' H' none bag) : GrowT w.G.ts F H F' H' := ⟨s.fm, fun a o e n => s.kp a o e n (by simp), s.al, s.le, s.nf, s.tb⟩
theorem Rl.tabs {w : Wd} {F H : Hp} {σ : St} {ρ : Rho} (l : Rl w F H σ ρ) : TabsOk w.G.ts F H := fun q h => ⟨(l.tb q h).1, (l.tb q h).2.1⟩
theorem step_rlm {w : Wd} {F H F' H' : Hp} {σ : St} {ρ : Rho} (l : Rl w F H σ ρ) {bag : List D} {i : Nat} {b : Bool} {xs : List D} {a : Addr} (e : ρ[i]? = some (Sl.ow b xs)) (es : σ[i]? = some (some (V.ref a)))
    (s : Step w.G F H F' H' (some a) bag) : Rl w F' H' σ (ρ.set i (Sl.ow b bag)) := by
  obtain ⟨a', vs, es', ha, l0, n, f, c⟩ := l.sl i _ e
  have ea : a' = a := by
    rw [es] at es'
    injection es' with q; injection q with q; injection q with q; exact q.symm
  subst ea
  obtain ⟨us, hu, ru⟩ := s.bg a' rfl
  -- the heap with the cell as it was, grown
  have g : GrowT w.G.ts F H F' (upd H' a' (.lst vs)) := by
    have nF : F' a' = none := s.nf a' (by rw [ha]; simp) n
    refine ⟨s.fm, fun b o q nt => ?_, fun b q => ?_, fun b o q => ?_, s.nf, fun q hq => tab_write (s.tb q hq) hu⟩
    · by_cases hb : b = a'
      · subst hb; rw [upd_same]; rw [ha] at q; exact q
      · rw [upd_ne hb]; exact s.kp b o q nt (fun z => hb (by injection z with z; exact z.symm))
    · have hb : b ≠ a' := fun z => by rw [z, upd_same] at q; cases q
      rw [upd_ne hb] at q; exact s.al b q
    · have hb : b ≠ a' := ne_of_none q nF
      rw [upd_ne hb]; exact s.le b o q
  have l1 := l.growT g
  have l2 := l1.write e es ru
  have eH : upd (upd H' a' (.lst vs)) a' (.lst us) = H' := by
    rw [upd_upd]
    funext b
    by_cases hb : b = a'
    · subst hb; rw [upd_same, hu]
    · rw [upd_ne hb]
  rw [eH] at l2
  exact l2
end
end DL

/-! DWm: methods of built-in types over data. -/
namespace DL
open PySem PySem.Spec PyProof.Rows L2

/-- the reading of such a call by data: the one argument -/
def rBm (G : Gd) (m : Bm) : V → List V → Hp → VK → Prop := fun x xs H Q => ∃ F dx dy y, xs = [y] ∧ Le F H ∧ RdV G F H x dx ∧ RdV G F H y dy ∧ OutD G F H (m.sem dx dy) Q
def tBmD (G : Gd) (K : PySem.W.Frag) (m : Bm) (ta tb : TE) : TE := tBM K m.ty.n (rBm G m) ta (tCons tb tNil)
theorem tyV_of {G : Gd} {K : PySem.W.Frag} {F H : Hp} {v : V} {d : D} {m : Bm} (hG : G.K = K) (hle : Le F H) (r : RdV G F H v d) (h : tyD d = some m.ty) : tyV K m.ty.n v H := by
  cases d with
  | lst xs =>
    obtain ⟨a, vs, rfl, ha, _⟩ := r
    cases m <;> first | exact .inl ⟨rfl, vs, SqL.of ha⟩ | cases h
  | str s =>
    simp only [RdV, Rep] at r
    subst r
    have e : m.ty = .str := (Option.some.inj h).symm
    rw [e]
    exact rfl
  | _ => cases m <;> cases h
section
variable {X : Cx} {G : Gd}
theorem idx_ok (hG : G.K = X.K) : MtR X "list.index" (rBm G .lindex) := fun pins s σ H x xs v us Q I rx rs h => by
  obtain ⟨F, dx, dy, y, rfl, hle, vx, vy, Kd, hs, k⟩ := h
  unfold Bm.sem at hs
  split at hs <;> rename_i e <;> try cases e
  · obtain ⟨ys, j, rfl, hj, hn, q⟩ := hs
    obtain ⟨a, vs, rfl, ha, l⟩ := vx
    simp only [RdV, Rep] at vy
    subst vy
    rw [RepL.strs l] at ha
    refine mt_index pins s σ H _ _ v us Q I rx rs ⟨a, ys.map V.str, _, j, _, rfl, rfl, SqL.of ha, rfl, ?_, by rw [List.getElem?_map, hj]; rfl, ?_, ?_, out_val hle k (Rep.int' _) q⟩
    · rw [List.all_map]
      exact List.all_eq_true.mpr fun _ _ => rfl
    · show (_ == _) = true
      exact beq_self_eq_true _
    · intro i z' hi hz
      rw [List.getElem?_map] at hz
      cases e : ys[i]? with
      | none => rw [e] at hz; cases hz
      | some w =>
        rw [e] at hz
        cases hz
        show (_ == _) = false
        rw [beq_eq_false_iff_ne]
        intro c
        exact hn i hi (by rw [e, c])
  all_goals exact hs.elim
theorem join_ok (hG : G.K = X.K) : MtR X "str.join" (rBm G .sjoin) := fun pins s σ H x xs v us Q I rx rs h => by
  obtain ⟨F, dx, dy, y, rfl, hle, vx, vy, Kd, hs, k⟩ := h
  unfold Bm.sem at hs
  split at hs <;> rename_i e <;> try cases e
  · obtain ⟨ys, rfl, hj, q⟩ := hs
    simp only [RdV, Rep] at vx
    subst vx
    obtain ⟨a, vs, rfl, ha, l⟩ := vy
    rw [RepL.strs l] at ha
    exact mt_join pins s σ H _ _ v us Q I rx rs ⟨_, a, ys, rfl, rfl, .inl (SqL.of ha), hj, out_val hle k (Rep.str' _) q⟩
  · obtain ⟨ys, rfl, hj, q⟩ := hs
    simp only [RdV, Rep] at vx vy
    subst vx
    obtain ⟨a, vs, rfl, ha, l⟩ := vy
    rw [RepL.strs l, hG] at ha
    exact mt_join pins s σ H _ _ v us Q I rx rs ⟨_, a, ys, rfl, rfl, .inr (sqT_mono hle ha), hj, out_val hle k (Rep.str' _) q⟩
  all_goals exact hs.elim
theorem str1_ok {m : Bm} {id : String} {g : Str → Str → V} {gd : Str → Str → D} (hm : MtR X id (fun x xs H Q => ∃ a b, x = .str a ∧ xs = [.str b] ∧ Q (g a b) H)) (hr : ∀ F a b, Rep G F (g a b) (gd a b))
    (hs : ∀ dx dy Kd, m.sem dx dy Kd → ∃ a b, dx = .str a ∧ dy = .str b ∧ Kd (.d (gd a b))) : MtR X id (rBm G m) := fun pins s σ H x xs v us Q I rx rs h => by
  obtain ⟨F, dx, dy, y, rfl, hle, vx, vy, Kd, q, k⟩ := h
  obtain ⟨a, b, rfl, rfl, q2⟩ := hs _ _ _ q
  simp only [RdV, Rep] at vx vy
  subst vx
  subst vy
  exact hm pins s σ H _ _ v us Q I rx rs ⟨a, b, rfl, rfl, out_val hle k (hr F a b) q2⟩
theorem bm_pe {ea eb : Expr} {ta tb : TE} {ap cp : Pos} (hG : G.K = X.K) (m : Bm) (ho : PE X ea ta) (hb : PE X eb tb) (hbase : attributeBase ea m.name X.env (eval ea X.env) = eval ea X.env)
    (hfew : ((backTo cp (starEach [eb] X.env)).all (fun x => !x.1) && (backToKw cp (keywordEach [] X.env)).all (fun x => x.1.isSome) && decide (([eb] : List Expr).length + ([] : List Keyword).length + (if ([] : List Keyword).isEmpty then 0 else 1) < 30)) = true)
    (hl : (ap.endLine == cp.line) = true) (hs : starEach [eb] X.env = [(false, eval eb X.env)]) : PE X (.Call (.Attribute ea m.name ap) [eb] [] cp) (tBmD G X.K m ta tb) := by
  have hpl : (backTo cp (starEach [] X.env)).any (·.1) = false := rfl
  have hA : PA X [eb] (tCons tb tNil) := pa_cons hb pa_nil hs
  have fin : ∀ {T id : String}, m.ty.n = T → PlainAttrs T → Slot T m.name id → typeOf (.builtin id) = pure (.type "method_descriptor") → MtR X id (rBm G m) → PE X (.Call (.Attribute ea m.name ap) [eb] [] cp) (tBmD G X.K m ta tb) := fun {T id} eT pa sl ty hm => by
    subst eT
    refine (pe_bm (t := tCons tb tNil) pa sl ty hm ho hA hbase hfew hl hs hpl).imp fun σ H Q q => ?_
    exact q
  cases m with
  | lindex => exact fin (T := "list") rfl PySem.F.plainAttrs_list PySem.F.slot_list_index PySem.F.type_list_index (idx_ok hG)
  | sjoin => exact fin (T := "str") rfl PySem.F.plainAttrs_str PySem.F.slot_str_join PySem.F.type_str_join (join_ok hG)
  | sfind => exact fin (T := "str") rfl PySem.F.plainAttrs_str PySem.F.slot_str_find PySem.F.type_str_find (str1_ok (gd := fun a b => .int (Txt.find a b)) mt_find (fun F a b => Rep.int' _) fun dx dy Kd q => by
    unfold Bm.sem at q
    split at q <;> rename_i e <;> first | exact q.elim | (cases e; done) | exact ⟨_, _, rfl, rfl, q⟩)
  | srfind => exact fin (T := "str") rfl PySem.F.plainAttrs_str PySem.F.slot_str_rfind PySem.F.type_str_rfind (str1_ok (gd := fun a b => .int (Txt.rfind a b)) mt_rfind (fun F a b => Rep.int' _) fun dx dy Kd q => by
    unfold Bm.sem at q
    split at q <;> rename_i e <;> first | exact q.elim | (cases e; done) | exact ⟨_, _, rfl, rfl, q⟩)
  | scount => exact fin (T := "str") rfl PySem.F.plainAttrs_str PySem.F.slot_str_count PySem.F.type_str_count (str1_ok (gd := fun a b => .int (Txt.count a b)) mt_count (fun F a b => Rep.int' _) fun dx dy Kd q => by
    unfold Bm.sem at q
    split at q <;> rename_i e <;> first | exact q.elim | (cases e; done) | exact ⟨_, _, rfl, rfl, q⟩)
  | sstarts => exact fin (T := "str") rfl PySem.F.plainAttrs_str PySem.F.slot_str_startswith PySem.F.type_str_startswith (str1_ok (gd := fun a b => .bl (Txt.startswith a b)) mt_startswith (fun F a b => Rep.bl' _) fun dx dy Kd q => by
    unfold Bm.sem at q
    split at q <;> rename_i e <;> first | exact q.elim | (cases e; done) | exact ⟨_, _, rfl, rfl, q⟩)
end
end DL

/-! DX: the rules are sound for every expression of the small language. -/
namespace DL
open PySem L2

section
variable {S : Sg} {G : Gd} {X : Cx} {w : Wd} {sc : Scope} {xp : XP} {e ea eb ec tg : Expr} {pos p : Pos}
theorem pe_callSD0 {CX : CXT} {k : Nat} {f : Addr} {fd : FuncData} {ps : List Str} {sp : Sp} {dvs : List V} {ds : List Value} {E : St → XK} {x : Str} (F : FnOk X.prog X.w X.K X.mg X.base CX k f fd ps sp) (hr : Room k X.A) (hg : Gl X x) (hm : X.mg x = some (.ref f))
    (hk : PySem.W.keepIn X.K (.ref f) = true) (hb : Binds X.K fd ps ds) (hd : Vals dvs ds) (hx : ∀ σ, PassesAt CX X σ (E σ)) (hdb : (x == ("__debug__" : Str)) = false) : PE X (.Call (.Name x p) [] [] pos) (tCallSD sp dvs E tNil) :=
  ⟨fun pins s σ H Q I h => wpAny_Call_Name_kw (ld_glob I hg hm (PySem.W.callWith_K0 I.kIn hk (run_fnSD (us := []) (vs := []) F hr hb hd (hx σ) I .nil h)) hdb)⟩
theorem backTo_plain {N : List Str} : ∀ {cs : Cs} {l : List Expr}, mEs S N sc cs l = true → (backTo pos (starEach l X.env)).any (·.1) = false
  | .nil, [], _ => rfl
  | .nil, _ :: _, h => by simp [mEs] at h
  | .cons c r, [], h => by simp [mEs] at h
  | .cons c r, e :: es, h => by
    simp only [mEs, Bool.and_eq_true] at h
    have ih := backTo_plain (N := N) (cs := r) (l := es) h.2
    rw [star_plain h.1.1]
    show (false || (backTo pos (starEach es X.env)).any (·.1)) = false
    rw [ih]; rfl
/-- the reading of a call by its contract -/
theorem call_data {c : FnE} {fa : Rho → (List D → Rho → Prop) → Prop} {dvs : List V} {σ : St} {H : Hp} {Q : VK} (hd : ∀ F, RepL w.G F dvs c.dflt)
    (h : tJ w (fun ρ K => fa ρ fun ds ρ1 => (c.ct.m = false ∧ (ds ++ c.dflt).length = c.ct.n) ∧ c.ct.sem (fun xn _ => xp xn ρ1) [] (ds ++ c.dflt) fun r _ => K (R.ofRes r) ρ1) σ H Q) :
    tCallSD (c.ct.sp w.G) dvs (WE (XW w xp)) (tJA w fa) σ H Q := by
  obtain ⟨F, ρ, l, Kd, h, k⟩ := h
  refine ⟨F, ρ, l, _, h, fun ds ρ1 F1 H1 vs le1 l1 rl q => ?_⟩
  obtain ⟨⟨hm, hn⟩, q⟩ := q
  refine ⟨F1, [], ds ++ c.dflt, none, ⟨l1.le, l1.tabs⟩, hn, ?_, _, _, q, fun v r F' H' bag' st rr q2 => ?_, fun cls d F' H' xn bag' st rx q2 => ?_⟩
  · unfold ArgsAt
    rw [if_neg (by rw [hm]; exact Bool.false_ne_true)]
    exact ⟨rfl, rfl, rl.append (hd F1)⟩
  · have g := step_rl l1 st
    exact k _ ρ1 F' H' v (le_tr le1 g.fm) (l1.growT g) (res_relT l1 g rr) q2
  · have g := step_rl l1 st
    exact ⟨F', ρ1, xn, l1.growT g, rx, q2⟩
theorem ow_at {F H : Hp} {σ : St} {ρ : Rho} (l : Rl w F H σ ρ) {i : Nat} (h : isOw ρ i = true) : ∃ a, σ[i]? = some (some (V.ref a)) := by
  unfold isOw at h
  split at h
  · rename_i b xs e
    obtain ⟨a, vs, es, _⟩ := l.sl i _ e
    exact ⟨a, es⟩
  · cases h
theorem callm_data {c : FnE} {i : Nat} {fa : Rho → (List D → Rho → Prop) → Prop} {dvs : List V} {σ : St} {H : Hp} {Q : VK} (hd : ∀ F, RepL w.G F dvs c.dflt)
    (h : tJ w (fun ρ K => isOw ρ i = true ∧ fa ρ fun ds ρ1 => match (some c : Option FnE), ρ1[i]? with
      | some e, some (.ow b xs) => (e.ct.m = true ∧ (ds ++ e.dflt).length = e.ct.n) ∧ e.ct.sem (fun xn bag => xp xn (ρ1.set i (.ow b bag))) xs (ds ++ e.dflt) fun r bag => K (R.ofRes r) (ρ1.set i (.ow b bag))
      | _, _ => False) σ H Q) :
    tCallSD (c.ct.sp w.G) dvs (WE (XW w xp)) (tCons (tVar i) (tJA w fa)) σ H Q := by
  obtain ⟨F, ρ, l, Kd, ⟨h0, h⟩, k⟩ := h
  obtain ⟨a, es⟩ := ow_at l h0
  refine ⟨.ref a, es, F, ρ, l, _, h, fun ds ρ1 F1 H1 vs le1 l1 rl q => ?_⟩
  split at q
  · rename_i c' b xs ec e
    cases ec
    obtain ⟨⟨hm, hn⟩, q⟩ := q
    obtain ⟨a', us, es', ha, rb, n, _⟩ := l1.sl i _ e
    have ea : a' = a := by
      rw [es] at es'
      injection es' with q; injection q with q; injection q with q; exact q.symm
    subst ea
    refine ⟨F1, xs, ds ++ c.dflt, some a', ⟨l1.le, l1.tabs⟩, hn, ?_, _, _, q, fun v r F' H' bag' st rr q2 => ?_, fun cls d F' H' xn bag' st rx q2 => ?_⟩
    · unfold ArgsAt
      rw [if_pos hm]
      exact ⟨a', vs ++ dvs, us, rfl, rfl, ha, rb, n, rl.append (hd F1)⟩
    · have l2 := step_rlm l1 e es st
      refine k _ _ F' H' v (le_tr le1 st.fm) l2 ?_ q2
      cases r with
      | d x => exact rr
      | n ys =>
        obtain ⟨p', zs, ev, hp, hp', rz, np⟩ := rr
        refine ⟨p', zs, ev, hp', rz, np, l1.al p' hp, l1.freshFr hp, ?_⟩
        have fr := l1.free hp
        intro j b' ws ej
        by_cases hj : i = j
        · subst hj
          rw [List.getElem?_set_self (List.getElem?_eq_some_iff.mp e).1] at ej
          exact fr i b xs e
        · rw [List.getElem?_set_ne hj] at ej
          exact fr j b' ws ej
    · exact ⟨F', _, xn, step_rlm l1 e es st, rx, q2⟩
  · exact q.elim
end
def FnCs (S : Sg) (G : Gd) (X : Cx) : Prop := ∀ (i : Nat) (e : FnE), S.fs[i]? = some e → FnC G X e
/-- _law_told(lambda: e) keeps its meaning here, if e does in the lambda's frame -/
def TRule (S : Sg) (X : Cx) (w : Wd) (xp : XP) : Prop := ∀ (fz wp : List Nat) (c : C) (sc : Scope) (e : Expr), XG S w.G sc X → mE S X.N sc (.told fz wp c) e = true →
  (∀ {X' : Cx} {sc' : Scope} {e' : Expr}, XG S w.G sc' X' → FnCs S w.G X' → mE S X'.N sc' c e' = true → ∀ (w' : Wd) (xp' : XP), w'.G = w.G → L2N.Takes X' (XW w' xp') → ¬ Gl X' "_law_told" → PE X' e' (tJ w' fun ρ K => iE S xp' c ρ K)) →
  PE X e (tJ w fun ρ K => iE S xp (.told fz wp c) ρ K)
/-- what the context takes of exceptions; _law_told, where it is named -/
structure XOk (S : Sg) (X : Cx) (w : Wd) (xp : XP) : Prop where
  tk : L2N.Takes X (XW w xp)
  tl : Gl X "_law_told" → TRule S X w xp
section
variable {S : Sg} {G : Gd} {X : Cx} {w : Wd} {sc : Scope} {xp : XP} {e ea eb ec tg : Expr} {pos p : Pos}
/-- no exception: any wish -/
theorem xok_never {X : Cx} {w : Wd} (h : ¬ Gl X "_law_told") : XOk S X w (fun _ _ => False) := ⟨fun u s' x => by
  obtain ⟨_, _, _, _, _, _, _, _, _, _, _, _, _, _, _, _, F, ρ, xn, _, _, z⟩ := x
  exact z.elim, fun z => absurd z h⟩
theorem map_none {f : Str × NameKind → Str × NameKind} (hf : ∀ q, (f q).1 = q.1) {x : Str} : ∀ {names : List (Str × NameKind)}, names.lookup x = none → (names.map f).lookup x = none
  | [], _ => rfl
  | (n, k) :: r, h => by
    have e : f (n, k) = (n, (f (n, k)).2) := Prod.ext (hf _) rfl
    rw [List.map_cons, e]
    rw [List.lookup_cons] at h ⊢
    split at h
    · cases h
    · exact map_none hf h
theorem blk_quiet {s : Shared} {H : Hp} {scope : Scope} {C : Addr} {cl : List (Str × Addr)} {fp : List Addr} (h : scope.names.lookup ("_law_told" : Str) = none) : ¬ Gl (X.blk s H scope (compEnvC scope cl C X.env) fp) "_law_told" := fun z => by
  have q : (relabel scope X.env).names.lookup ("_law_told" : Str) = none := map_none (fun q => by obtain ⟨n, k⟩ := q; dsimp only; split <;> rfl) h
  exact absurd (q.symm.trans z) (by simp)
theorem relabel_lookup {env : Env} : ∀ {names : List (Str × NameKind)} {x : Str} {k : NameKind}, names.lookup x = some k →
    ∀ {f : Str × NameKind → Str × NameKind}, (∀ q, f q = q ∨ (q.2 = NameKind.free ∧ f q = (q.1, NameKind.cell))) → (names.map f).lookup x = some k ∨ (k = NameKind.free ∧ (names.map f).lookup x = some NameKind.cell)
  | [], _, _, h, _, _ => by simp at h
  | (n, k0) :: r, x, k, h, f, hf => by
    cases hx : x == n with
    | true =>
      simp only [List.lookup_cons, hx] at h
      cases h
      rcases hf (n, k0) with q | ⟨q1, q2⟩
      · left
        rw [List.map_cons, q]
        simp only [List.lookup_cons, hx]
      · right
        rw [List.map_cons, q2]
        refine ⟨q1, ?_⟩
        simp only [List.lookup_cons, hx]
    | false =>
      simp only [List.lookup_cons, hx] at h
      have ih := relabel_lookup (env := env) h hf
      have e1 : ∃ k', f (n, k0) = (n, k') := by
        rcases hf (n, k0) with q | ⟨q1, q2⟩
        · exact ⟨_, q⟩
        · exact ⟨_, q2⟩
      obtain ⟨k', e1⟩ := e1
      rw [List.map_cons, e1]
      simp only [List.lookup_cons, hx]
      exact ih
theorem xg_blk (g : XG S G sc X) {s : Shared} {H : Hp} {scope : Scope} {C : Addr} {cl : List (Str × Addr)} {fp : List Addr} : XG S G scope (X.blk s H scope (compEnvC scope cl C X.env) fp) where
  nd := g.nd
  calm := g.calm
  K := g.K
  w := g.w
  scr := fun x k h => relabel_lookup (env := X.env) h fun q => by
    obtain ⟨n, k0⟩ := q
    dsimp only
    split
    · rename_i c
      right
      simp only [Bool.and_eq_true, beq_iff_eq] at c
      exact ⟨c.1.1, rfl⟩
    · exact .inl rfl
  fnc := fun x h => by
    show (scope.names.lookup x == some NameKind.cell) = true
    rw [h]; rfl
  gv := g.gv
  bn := g.bn
  hu := g.hu
theorem blk_ok (g : XG S G sc X) {scope : Scope} {own : List (Str × Nat)} (h : blkC X.N sc scope own = true) : BlkOk X.N X.env.scope scope own := by
  have b := blkOk_by h
  refine ⟨b.kind, b.uniq, b.ix, fun y hy e => ?_, b.own⟩
  rcases b.free y hy e with q | q
  · rcases g.scr y.1 _ q with z | ⟨z, _⟩
    · exact .inl z
    · cases z
  · rcases g.scr y.1 _ q with z | ⟨_, z⟩
    · exact .inr z
    · exact .inl z
theorem args_plain {N : List Str} {cs : Cs} {l : List Expr} (h : mEs S N sc cs (e :: l) = true) : plainE e = true ∧ (backTo pos (starEach l X.env)).any (·.1) = false := by
  cases cs with
  | nil => simp [mEs] at h
  | cons c r =>
    simp only [mEs, Bool.and_eq_true] at h
    exact ⟨h.1.1, backTo_plain h.2⟩
theorem jt_no {f : Rho → (Bool → Rho → Prop) → Prop} (h : ∀ ρ K, ¬ f ρ K) : PT X e (tJT w f) := ⟨fun pins s σ H Q I q => by
  obtain ⟨_, ρ, _, K, z, _⟩ := q
  exact (h ρ K z).elim⟩
theorem op_at {o : BOp} {op : Operator} (hG : G.K = X.K) (h : opB o op = true) : OpR X (binaryOp op) (rD2 G o.sem) := by
  have e : op = o.op := by cases o <;> cases op <;> first | rfl | (simp [opB] at h)
  subst e
  exact op_D hG o
theorem cm_at {o : COp} {op : CmpOp} (hG : G.K = X.K) (hu : X.A.units + 65 < cLine) (h : cmB o op = true) : OpR X (compareOp op) (rC2 G o.sem) := by
  have e : op = o.op := by cases o <;> cases op <;> first | rfl | (simp [cmB] at h)
  subst e
  exact cmp_D hG hu o
theorem boot_bi (b : Bi) : bootBuiltins b.name = some b.val := by cases b <;> decide +kernel
theorem bn_bi (g : XG S G sc X) (b : Bi) : X.mg b.name = none := g.bn _ (by cases b <;> decide +kernel)
theorem nn_bi (b : Bi) : b.name ≠ "__name__" := by cases b <;> decide +kernel
theorem nd_bi (b : Bi) : (b.name == ("__debug__" : Str)) = false := by cases b <;> decide +kernel
theorem j_bi (b : Bi) {f : Rho → (List R → Rho → Prop) → Prop} {es : List Expr} (g : XG S w.G sc X) (hgl : Gl X b.name) (ha : PA X (e :: es) (tJR w f)) (he : plainE e = true) (hpl : (backTo pos (starEach es X.env)).any (·.1) = false) :
    PE X (.Call (.Name b.name p) (e :: es) [] pos) (tJ w fun ρ K => f ρ fun rs ρ1 => rdrs ρ1 rs fun ds => b.sem ds fun r => K (R.ofRes r) ρ1) := by
  have hc := bi_ok (G := w.G) g.K g.calm b
  have red : ∀ σ H Q, tJ w (fun ρ K => f ρ fun rs ρ1 => rdrs ρ1 rs fun ds => b.sem ds fun r => K (R.ofRes r) ρ1) σ H Q → tCB (rBi w.G b.sem) (tJR w f) σ H Q := fun σ H Q h => by
    obtain ⟨F, ρ, l, Kd, h, k⟩ := h
    refine ⟨F, ρ, l, _, h, fun rs ρ1 F1 H1 vs le1 l1 rr q => ?_⟩
    obtain ⟨ds, pd, q⟩ := rdrs_rel l1 rr q
    exact ⟨F1, ds, l1.le, pd, _, q, fun v r F' H' gr rq q2 => k _ ρ1 F' H' v (le_tr le1 gr.fm) (l1.grow gr) (res_rel l1 gr rq) q2⟩
  have hb := boot_bi b
  cases b <;> first
    | exact (pe_callB hc hgl (bn_bi g _) hb ha (nn_bi _) (nd_bi _) (star_plain he) hpl).imp red
    | exact (pe_callTy hc hgl (bn_bi g _) hb ha (nn_bi _) (nd_bi _) (star_plain he) hpl).imp red
end

theorem base_obj {o : Expr} {n : Str} {env : Env} (h : objE o = true) : attributeBase o n env (eval o env) = eval o env := by
  unfold attributeBase
  split
  · exact absurd h (by simp [objE])
  · rfl
/-- a method of a built-in type -/
theorem j_bm {S : Sg} {X : Cx} {w : Wd} {sc : Scope} {m : Bm} {f g : Rho → KR → Prop} {ea eb : Expr} {ap cp : Pos} (gx : XG S w.G sc X) (hl : (ap.endLine == cp.line) = true) (hp : plainE eb = true) (ho : objE ea = true) (ha : PE X ea (tJ w f)) (hb : PE X eb (tJ w g)) :
    PE X (.Call (.Attribute ea m.name ap) [eb] [] cp) (tJ w fun ρ K => f ρ fun x ρ1 => (rdr ρ1 x.stl fun d => tyD d = some m.ty) ∧ g ρ1 fun y ρ2 => rdr ρ2 x.stl fun dx => rdr ρ2 y.stl fun dy => m.sem dx dy fun r => K (R.ofRes r) ρ2) := by
  have hst : starEach [eb] X.env = [(false, eval eb X.env)] := star_plain hp
  refine (bm_pe gx.K m ha hb (base_obj ho) (by rw [hst]; rfl) hl hst).imp fun σ H Q q => ?_
  obtain ⟨F, ρ, l, Kd, q, k⟩ := q
  refine tJ_settled l q fun x ρ1 F1 H1 v le1 l1 rx q1 => ?_
  obtain ⟨q0, q1⟩ := q1
  obtain ⟨d0, vx0, ty⟩ := rdr_rel l1 rx q0
  refine ⟨tyV_of gx.K l1.le vx0 ty, ?_⟩
  refine tJ_settled l1 q1 fun y ρ2 F2 H2 u le2 l2 ry q2 => ?_
  obtain ⟨dx, vx, q3⟩ := rdr_rel l2 (rx.mono le2) q2
  obtain ⟨dy, vy, q4⟩ := rdr_rel l2 ry q3
  exact ⟨F2, dx, dy, _, rfl, l2.le, vx, vy, _, q4, fun v' r F' H' gr rr q5 => k _ ρ2 F' H' v' (le_tr (le_tr le1 le2) gr.fm) (l2.grow gr) (res_rel l2 gr rr) q5⟩
/-! list(range(e)) -/
theorem repL_rg {G : Gd} {F : Hp} : ∀ l : List Nat, RepL G F (l.map fun i => V.int (0 + (i : Nat))) (l.map fun i => D.int (i : Nat))
  | [] => RepL.nil
  | i :: l => RepL.cons (by show Rep G F (V.int (0 + (i : Nat))) (D.int (i : Nat)); rw [Int.zero_add]; exact Rep.int' _) (repL_rg l)
theorem j_lrg {S : Sg} {X : Cx} {w : Wd} {sc : Scope} {f : Rho → KR → Prop} {e : Expr} {p q r s : Pos} (gx : XG S w.G sc X) (h1 : Gl X "list") (h2 : Gl X "range") (hp : plainE e = true) (h : PE X e (tJ w f)) :
    PE X (.Call (.Name "list" p) [.Call (.Name "range" q) [e] [] r] [] s) (tJ w fun ρ K => f ρ fun x ρ1 => rdr ρ1 x.stl fun d => rgD d fun xs => K (.n xs) ρ1) := by
  refine (pe_listRg gx.calm h1 (gx.bn _ (by decide +kernel)) (prg_1 h2 (gx.bn _ (by decide +kernel)) h (by rw [star_plain hp]))).imp fun σ H Q q => ?_
  obtain ⟨F, ρ, l, Kd, q, k⟩ := q
  refine tJ_settled l q fun x ρ1 F1 H1 v le1 l1 rx q1 => ?_
  obtain ⟨dx, vx, q3⟩ := rdr_rel l1 rx q1
  cases dx with
  | int n =>
    obtain ⟨⟨ha, hb⟩, q3⟩ := q3
    simp only [RdV, Rep] at vx
    subst vx
    refine ⟨n, rfl, ⟨by omega, by omega, by omega, by omega, by omega⟩, fun p np => ?_⟩
    refine out_lst (G := w.G) (Kd := fun r => Kd (R.ofRes r) ρ1) l1.le (fun v' r F' H' gr rr q5 => k _ ρ1 F' H' v' (le_tr le1 gr.fm) (l1.grow gr) (res_rel l1 gr rr) q5) q3 ?_ np
    unfold rgV
    rw [Int.sub_zero]
    exact repL_rg _
  | _ => exact (show False from q3).elim
/-! a dict of written texts, asked by get -/
def kvP (p : Str × Str) : Key × V := (.inr p.1, .str p.2)
theorem val_merge : ∀ (kvs : List (Str × Str)) (acc : List (Key × V)) (z : Str), valV (mergeK acc (kvs.map kvP)) (.inr z) = (((kvs.reverse.lookup z).map V.str).or (valV acc (.inr z)))
  | [], acc, z => by simp [mergeK]
  | p :: r, acc, z => by
    have ih := val_merge r (putK acc (.inr p.1) (.str p.2)) z
    have e : mergeK acc ((p :: r).map kvP) = mergeK (putK acc (.inr p.1) (.str p.2)) (r.map kvP) := rfl
    rw [e, ih, valV_put, List.reverse_cons]
    have la : ∀ (l : List (Str × Str)), (l ++ [p]).lookup z = (l.lookup z).or (if z = p.1 then some p.2 else none) := fun l => by
      induction l with
      | nil =>
        obtain ⟨a, b⟩ := p
        simp only [List.nil_append, List.lookup_cons]
        by_cases c : z = a
        · simp [c]
        · have : (z == a) = false := by simpa using c
          simp [this, c]
      | cons q l ih =>
        obtain ⟨a, b⟩ := q
        rw [List.cons_append, List.lookup_cons, List.lookup_cons]
        split
        · rfl
        · exact ih
    rw [la]
    cases r.reverse.lookup z with
    | some v => simp
    | none =>
      by_cases c : z = p.1
      · simp [c]
      · have c' : ¬ (Sum.inr z : Key) = Sum.inr p.1 := fun e => c (by injection e)
        simp [c, c']
def constT (kvs : List (Str × Str)) : List (TE × TE) := kvs.map fun p => (tC (.str p.1), tC (.str p.2))
theorem pairs_const {σ : St} {H : Hp} {Q : List (V × V) → Hp → Prop} : ∀ (kvs : List (Str × Str)), Q (kvs.map fun p => (V.str p.1, V.str p.2)) H → tPairs (constT kvs) σ H Q
  | [], h => h
  | p :: r, h => pairs_const (Q := fun ps H3 => Q ((.str p.1, .str p.2) :: ps) H3) r h
theorem pps_const {X : Cx} {pos : Pos} : ∀ (kvs : List (Str × Str)) (ks : List (Option Expr)) (vs : List Expr), mKv kvs ks vs = true → PPs X pos ks vs (constT kvs) ∧ ks.all (·.isSome) = true ∧ ks.length = vs.length ∧ ks.length = kvs.length
  | [], [], [], _ => ⟨pps_nil, rfl, rfl, rfl⟩
  | p :: r, ks, vs, h => by
    unfold mKv at h
    split at h <;> first | exact absurd h Bool.false_ne_true | skip
    · rename_i e; cases e
    · rename_i p' r' k j kp ks' v j2 vp vs' e
      cases e
      simp only [Bool.and_eq_true, decide_eq_true_eq] at h
      obtain ⟨rfl, rfl, h⟩ := h
      obtain ⟨i1, i2, i3, i4⟩ := pps_const r ks' vs' h
      exact ⟨pps_cons pe_str pe_str i1, by simp [i2], by simp [i3], by simp [i4]⟩
  | [], _ :: _, _, h => by simp [mKv] at h
  | [], [], _ :: _, h => by simp [mKv] at h
theorem e_dget {S : Sg} {G : Gd} {X : Cx} {sc : Scope} {e : Expr} {w : Wd} {xp : XP} {kvs : List (Str × Str)} {i j : Nat} (g : XG S G sc X) (hw : w.G = G) (h : mE S X.N sc (.dget kvs i j) e = true) : PE X e (tJ w fun ρ K => iE S xp (.dget kvs i j) ρ K) := by
  obtain ⟨ks, vs, dp, ap, y, yp, z, zp, cp, rfl⟩ : ∃ ks vs dp ap y yp z zp cp, e = .Call (.Attribute (.Dict ks vs dp) "get" ap) [.Name y yp, .Name z zp] [] cp := by
    unfold mE at h
    split at h <;> first | exact absurd h Bool.false_ne_true | skip
    all_goals first
      | (simp only [Bool.and_eq_true, decide_eq_true_eq] at h
         obtain ⟨rfl, _⟩ := h
         exact ⟨_, _, _, _, _, _, _, _, _, rfl⟩)
      | simp_all
  simp only [mE, Bool.and_eq_true, decide_eq_true_eq] at h
  obtain ⟨_, hl, h0, h15, hk, n1, v1, d1, n2, v2, d2⟩ := h
  obtain ⟨pk, p2, p3, p4⟩ := pps_const (X := X) (pos := dp) kvs ks vs hk
  have ne : ks ≠ [] := fun z => h0 (List.eq_nil_of_length_eq_zero (by rw [← p4, z]; rfl))
  have hd := pe_disp pk p2 p3 ne (by omega)
  have hu : X.A.units + 1 < cLine := by have := g.hu; omega
  have e1 := pe_var (X := X) (pos := yp) n1 (g.vis v1) (noDb_1 d1) (noDb_2 d1)
  have e2 := pe_var (X := X) (pos := zp) n2 (g.vis v2) (noDb_1 d2) (noDb_2 d2)
  refine (pe_dget2 hu hd e1 e2 ⟨rfl, rfl, hl, rfl⟩).imp fun σ H Q q => ?_
  obtain ⟨F, ρ, l, Kd, q, k⟩ := q
  simp only [iE] at q
  split at q <;> first | exact q.elim | skip
  rename_i zk d ei ej
  obtain ⟨vi, si, ri⟩ := l.sl i _ ei
  obtain ⟨vj, sj, rj⟩ := l.sl j _ ej
  simp only [Rep] at ri
  subst ri
  intro p hp
  refine pairs_const kvs ⟨upd_same, kvs.map kvP, by simp [kvP, kV], by rw [List.length_map]; exact h15, p, rfl, ?_, _, si, _, sj, _, .k (kvs := mergeK [] (kvs.map kvP)) (k := .inr zk) upd_same, ?_⟩
  · exact .inl ⟨_, .inl upd_same⟩
  · rw [upd_upd]
    have l1 := l.grow (Grow.alloc l.le hp (.dK (mergeK [] (kvs.map kvP))))
    refine k _ ρ F _ _ le_rfl' l1 ?_ q
    show Rep w.G F _ _
    rw [val_merge]
    cases kvs.reverse.lookup zk with
    | some s => exact Rep.str' _
    | none => exact rj
theorem rdv_mono {G : Gd} {F H H' : Hp} {v : V} {d : D} (h : Le H H') (r : RdV G F H v d) : RdV G F H' v d := by
  cases d with
  | lst xs =>
    obtain ⟨a, vs, e, q, l⟩ := r
    exact ⟨a, vs, e, h _ _ q, l⟩
  | _ => exact r
theorem tyx_of {G : Gd} {F H : Hp} {K : PySem.W.Frag} {v : V} {d : D} {t : Ty} (hG : G.K = K) (hle : Le F H) (r : RdV G F H v d) (h : tyD d = some t) : TyX K H v (.type t.n) := by
  cases d with
  | non => simp only [RdV, Rep] at r; subst r; cases h; exact .base .non
  | bl b => simp only [RdV, Rep] at r; subst r; cases h; exact .base (.bl b)
  | int b => simp only [RdV, Rep] at r; subst r; cases h; exact .base (.int b)
  | str b => simp only [RdV, Rep] at r; subst r; cases h; exact .base (.str b)
  | lst xs =>
    obtain ⟨a, vs, rfl, q, _⟩ := r
    cases h
    exact .base (.lst q)
  | tup xs =>
    simp only [RdV, Rep] at r
    obtain ⟨a, vs, rfl, q, _⟩ := r
    cases h
    rw [hG] at q
    rcases sqT_mono hle q with (q | ⟨o, q⟩) | ⟨o, its, n, q, c, _⟩
    · exact .base (.tup q)
    · exact .fTuple q
    · exact .kTuple q c
  | _ => cases h
theorem kit_sub {K : PySem.W.Frag} (a b : Ty) (hb : b ≠ .none) : PySem.W.kitOne K (.type a.n) (.type b.n) = some (a.sub b) := by
  cases a <;> cases b <;> first | exact absurd rfl hb | exact kit_ty (by decide +kernel)
theorem kit_any {K : PySem.W.Frag} (a : Ty) : ∀ ts : List Ty, (∀ t ∈ ts, t ≠ .none) → PySem.W.kitAny K (.type a.n) (ts.map fun t => Value.type t.n) = some (ts.any a.sub)
  | [], _ => kitAny_nil
  | t :: ts, h => by
    have ih := kit_any (K := K) a ts fun u hu => h u (List.mem_cons_of_mem _ hu)
    refine kitAny_cons (kit_sub a t (h t List.mem_cons_self)) (fun e => ?_) (fun e => ?_)
    · rw [List.any_cons, e]; exact ih
    · rw [List.any_cons, e]; rfl
theorem boot_ty (t : Ty) (h : t ≠ .none) : bootBuiltins t.s = some (.type t.n) := by cases t <;> first | exact absurd rfl h | decide +kernel
def tTys (ts : List Ty) : TA := fun σ H Q => Q (ts.map fun t => V.ty t.n) H
theorem pe_tyn {S : Sg} {G : Gd} {X : Cx} {sc : Scope} {t : Ty} {p : Pos} (g : XG S G sc X) (h : t ≠ .none) (hg : glB sc t.s = true) : PE X (.Name t.s p) (tC (.ty t.n)) :=
  pe_bltn (g.gl hg) (g.bn _ (by cases t <;> first | exact absurd rfl h | decide +kernel)) (boot_ty t h) rfl (by cases t <;> decide +kernel) (by cases t <;> decide +kernel)
theorem pa_tys {S : Sg} {G : Gd} {X : Cx} {sc : Scope} (g : XG S G sc X) : ∀ (ts : List Ty) (l : List Expr), mTy sc ts l = true → PA X l (tTys ts) ∧ ∀ t ∈ ts, t ≠ .none
  | [], [], _ => ⟨pa_nil, fun _ h => by cases h⟩
  | [], _ :: _, h => by simp [mTy] at h
  | t :: ts, [], h => by simp [mTy] at h
  | t :: ts, e :: es, h => by
    cases e with
    | Name y p =>
      simp only [mTy, Bool.and_eq_true, decide_eq_true_eq] at h
      obtain ⟨⟨⟨rfl, h2⟩, h3⟩, h4⟩ := h
      obtain ⟨i1, i2⟩ := pa_tys g ts es h4
      refine ⟨(pa_cons (pe_tyn (p := p) g h2 h3) i1 (star_plain rfl)).imp fun σ H Q q => q, fun u hu => ?_⟩
      rcases List.mem_cons.mp hu with rfl | hu
      · exact h2
      · exact i2 u hu
    | _ => simp [mTy] at h
theorem cls_tys : ∀ ts : List Ty, Paired ClsV (ts.map fun t => V.ty t.n) (ts.map fun t => Value.type t.n)
  | [] => .nil
  | _ :: ts => .cons (.ty _) (cls_tys ts)
theorem isi_shape {S : Sg} {N : List Str} {sc : Scope} {one : Bool} {a : C} {ts : List Ty} {e : Expr} (h : mE S N sc (.isi one a ts) e = true) : (∃ t x px ea y py p, one = true ∧ ts = [t] ∧ e = .Call (.Name x px) [ea, .Name y py] [] p) ∨ (∃ x px ea l k pt p, one = false ∧ e = .Call (.Name x px) [ea, .Tuple l k pt] [] p) := by
  cases e with
  | Call f l kws p =>
    cases f with
    | Name x px =>
      cases kws with
      | cons _ _ => cases one <;> simp [mE] at h
      | nil =>
        match l, h with
        | [], h => cases one <;> simp [mE] at h
        | [_], h => cases one <;> simp [mE] at h
        | _ :: _ :: _ :: _, h => cases one <;> simp [mE] at h
        | [ea, eb], h =>
          cases one with
          | true =>
            cases eb with
            | Name y py =>
              match ts, h with
              | [t], _ => exact .inl ⟨t, x, px, ea, y, py, p, rfl, rfl, rfl⟩
              | [], h => simp [mE] at h
              | _ :: _ :: _, h => simp [mE] at h
            | _ => simp [mE] at h
          | false =>
            cases eb with
            | Tuple l k pt => exact .inr ⟨x, px, ea, l, k, pt, p, rfl, rfl⟩
            | _ => simp [mE] at h
    | _ => cases one <;> simp [mE] at h
  | _ => cases one <;> simp [mE] at h
theorem e_isi {S : Sg} {G : Gd} {X : Cx} {sc : Scope} {e : Expr} {w : Wd} {xp : XP} {one : Bool} {a : C} {ts : List Ty} (g : XG S G sc X) (h : mE S X.N sc (.isi one a ts) e = true) (hw : w.G = G) (hA : ∀ l, mE S X.N sc a l = true → PE X l (tJ w fun ρ K => iE S xp a ρ K)) :
    PE X e (tJ w fun ρ K => iE S xp (.isi one a ts) ρ K) := by
  have hb : bootBuiltins "isinstance" = some (.builtin "isinstance") := PyProof.Rows.boot_isinstance
  have hm : X.mg "isinstance" = none := g.bn _ (by decide +kernel)
  have hK : w.G.K = X.K := by rw [hw]; exact g.K
  rcases isi_shape h with ⟨t, x, px, ea, y, py, p, rfl, rfl, rfl⟩ | ⟨x, px, ea, l, k, pt, p, rfl, rfl⟩
  · simp only [mE, Bool.and_eq_true, decide_eq_true_eq] at h
    obtain ⟨⟨⟨⟨rfl, h2⟩, h3⟩, h4⟩, h5⟩ := h
    simp only [mTy, Bool.and_eq_true, decide_eq_true_eq] at h4
    obtain ⟨⟨⟨rfl, k2⟩, k3⟩, _⟩ := h4
    simp only [iE]
    refine (pe_callB call_isi (g.gl h2) hm hb (pa_cons (hA _ h5) (pa_cons (pe_tyn (p := py) g k2 k3) pa_nil (star_plain rfl)) (star_plain h3)) (by decide +kernel) (by decide +kernel) (star_plain h3) rfl).imp fun σ H Q q => ?_
    obtain ⟨F, ρ, l, Kd, q, k⟩ := q
    refine tJ_settled l q fun r ρ1 F1 H1 v le1 l1 rr q1 => ?_
    obtain ⟨d, rd, q1⟩ := rdr_rel l1 rr q1
    unfold isiD at q1
    split at q1
    · rename_i u hu
      refine ⟨v, .ty t.n, .type u.n, .type t.n, u.sub t, rfl, .ty _, tyx_of hK l1.le rd hu, kit_sub u t k2, ?_⟩
      rw [List.any_cons, List.any_nil, Bool.or_false] at q1
      exact k (.v (.bl (u.sub t))) ρ1 F1 H1 _ le1 l1 (Rep.bl' (G := w.G) (F := F1) _) q1
    · exact q1.elim
  · simp only [mE, Bool.and_eq_true, decide_eq_true_eq] at h
    obtain ⟨⟨⟨⟨⟨rfl, h2⟩, hz⟩, h3⟩, h4⟩, h5⟩ := h
    obtain ⟨pl, hn⟩ := pa_tys g ts l h4
    simp only [iE]
    refine (pe_callB call_isiT (g.gl h2) hm hb (pa_cons (hA _ h5) (pa_cons (pe_tup pl) pa_nil (star_plain rfl)) (star_plain h3)) (by decide +kernel) (by decide +kernel) (star_plain h3) rfl).imp fun σ H Q q => ?_
    obtain ⟨F, ρ, l, Kd, q, k⟩ := q
    refine tJ_settled l q fun r ρ1 F1 H1 v le1 l1 rr q1 => ?_
    obtain ⟨d, rd, q1⟩ := rdr_rel l1 rr q1
    unfold isiD at q1
    split at q1
    · rename_i u hu
      refine ⟨?_, fun tp hp => ?_⟩
      · rw [List.length_map]; exact Nat.le_trans hz (by decide)
      · have gr := Grow.alloc l1.le hp (.tup (ts.map fun t => V.ty t.n))
        have l2 := l1.grow gr
        refine ⟨v, tp, _, .type u.n, _, ts.any u.sub, rfl, upd_same, cls_tys ts, tyx_of hK l2.le (rdv_mono gr.hm rd) hu, kit_any u ts hn, ?_⟩
        exact k (.v (.bl (ts.any u.sub))) ρ1 F1 _ _ le1 l2 (Rep.bl' (G := w.G) (F := F1) _) q1
    · exact q1.elim
theorem e_var {S : Sg} {G : Gd} {X : Cx} {sc : Scope} {e : Expr} {w : Wd} {xp : XP} {i : Nat} (g : XG S G sc X) (h : mE S X.N sc (.var i) e = true) : PE X e (tJ w fun ρ K => iE S xp (.var i) ρ K) := by
  cases e with
  | Name x p =>
    simp only [mE, Bool.and_eq_true, decide_eq_true_eq] at h
    simp only [iE]
    exact j_var h.1.1 (g.vis h.1.2) (noDb_1 h.2) (noDb_2 h.2)
  | _ => simp [mE] at h
theorem e_bi {S : Sg} {G : Gd} {X : Cx} {sc : Scope} {e : Expr} {w : Wd} {xp : XP} {b : Bi} {es : Cs} (g : XG S G sc X) (h : mE S X.N sc (.bi b es) e = true) (hw : w.G = G) (hA : ∀ l, mEs S X.N sc es l = true → PA X l (tJR w fun ρ K => iRs S xp es ρ K)) : PE X e (tJ w fun ρ K => iE S xp (.bi b es) ρ K) := by
  cases e with
  | Call f l kws p =>
    cases f with
    | Name x p2 =>
      cases kws with
      | nil =>
        cases l with
        | nil => simp [mE] at h
        | cons e1 l =>
          simp only [mE, Bool.and_eq_true, decide_eq_true_eq] at h
          obtain ⟨⟨rfl, h2⟩, h3⟩ := h
          simp only [iE]
          have hA := hA _ h3
          obtain ⟨he, hpl⟩ := args_plain (pos := p) (X := X) h3
          subst hw
          exact j_bi b g (g.gl h2) hA he hpl
      | cons _ _ => cases l <;> simp [mE] at h
    | _ => simp [mE] at h
  | _ => simp [mE] at h
theorem e_call {S : Sg} {G : Gd} {X : Cx} {sc : Scope} {e : Expr} {w : Wd} {xp : XP} {f : Nat} {es : Cs} (g : XG S G sc X) (fc : FnCs S G X) (h : mE S X.N sc (.call f es) e = true) (hw : w.G = G) (hx : XOk S X w xp) (hA : ∀ l, mEs S X.N sc es l = true → PA X l (tJA w fun ρ K => iAs S xp es ρ K)) : PE X e (tJ w fun ρ K => iE S xp (.call f es) ρ K) := by
  cases e with
  | Call fe l kws p =>
    cases fe with
    | Name x p2 =>
      cases kws with
      | nil =>
        simp only [mE, Bool.and_eq_true] at h
        obtain ⟨⟨⟨h1, h2⟩, h3⟩, h4⟩ := h
        simp only [iE]
        cases hf : S.fs[f]? with
        | none => rw [hf] at h1; exact absurd h1 Bool.false_ne_true
        | some c =>
          rw [hf] at h1
          have ex : x = c.name := of_decide_eq_true h1
          subst ex
          subst hw
          obtain ⟨k, fa, fd, ps, ds, dvs, F, hr, hm, hk, hb, hd, hdv⟩ := fc f c hf
          have hA := hA _ h4
          cases l with
          | nil =>
            cases es with
            | nil =>
              refine (pe_callSD0 F hr (g.gl h2) hm hk hb hd (fun σ => L2N.passAt hx.tk σ) (noDb_1 h3)).imp fun σ H Q q => ?_
              obtain ⟨F0, ρ, l, Kd, q, k⟩ := q
              have := call_data (c := c) (xp := xp) (fa := fun ρ K => K [] ρ) hdv ⟨F0, ρ, l, Kd, q, k⟩
              obtain ⟨F1, ρ1, l1, Kd1, q1, k1⟩ := this
              exact k1 [] ρ1 F1 H [] le_rfl' l1 RepL.nil q1
            | cons _ _ => simp [mEs] at h4
          | cons e1 l =>
            obtain ⟨he, hpl⟩ := args_plain (pos := p) (X := X) h4
            exact (pe_callSD F hr (g.gl h2) hm hk hb hd (fun σ => L2N.passAt hx.tk σ) hA (noDb_1 h3) (star_plain he) hpl).imp fun σ H Q q => call_data hdv q
      | cons _ _ => simp [mE] at h
    | _ => simp [mE] at h
  | _ => simp [mE] at h
theorem e_callm {S : Sg} {G : Gd} {X : Cx} {sc : Scope} {e : Expr} {w : Wd} {xp : XP} {f i : Nat} {es : Cs} (g : XG S G sc X) (fc : FnCs S G X) (h : mE S X.N sc (.callm f i es) e = true) (hw : w.G = G) (hx : XOk S X w xp) (hA : ∀ l, mEs S X.N sc es l = true → PA X l (tJA w fun ρ K => iAs S xp es ρ K)) : PE X e (tJ w fun ρ K => iE S xp (.callm f i es) ρ K) := by
  cases e with
  | Call fe l kws p =>
    cases fe with
    | Name x p2 =>
      cases kws with
      | nil =>
        cases l with
        | nil => simp [mE] at h
        | cons e1 l =>
          cases e1 with
          | Name y p3 =>
            simp only [mE, Bool.and_eq_true, decide_eq_true_eq] at h
            obtain ⟨⟨⟨⟨⟨⟨h1, h2⟩, h3⟩, h4⟩, h5⟩, h6⟩, h7⟩ := h
            simp only [iE]
            cases hf : S.fs[f]? with
            | none => rw [hf] at h1; exact absurd h1 Bool.false_ne_true
            | some c =>
              rw [hf] at h1
              have ex : x = c.name := of_decide_eq_true h1
              subst ex
              subst hw
              obtain ⟨k, fa, fd, ps, ds, dvs, F, hr, hm, hk, hb, hd, hdv⟩ := fc f c hf
              have hA := hA _ h7
              have hpl := backTo_plain (pos := p) (X := X) h7
              have hv := pe_var (pos := p3) h4 (g.vis h5) (noDb_1 h6) (noDb_2 h6)
              exact (pe_callSD F hr (g.gl h2) hm hk hb hd (fun σ => L2N.passAt hx.tk σ) (pa_cons hv hA (star_plain rfl)) (noDb_1 h3) (star_plain rfl) hpl).imp fun σ H Q q => callm_data hdv q
          | _ => simp [mE] at h
      | cons _ _ => cases l with
        | nil => simp [mE] at h
        | cons e1 _ => cases e1 <;> simp [mE] at h
    | _ => simp [mE] at h
  | _ => simp [mE] at h

mutual
theorem sE {S : Sg} {G : Gd} : ∀ (c : C) {X : Cx} {sc : Scope} {e : Expr}, XG S G sc X → FnCs S G X → mE S X.N sc c e = true → ∀ (w : Wd) (xp : XP), w.G = G → XOk S X w xp → PE X e (tJ w fun ρ K => iE S xp c ρ K)
  | .var i, X, sc, e, g, fc, h, w, xp, hw, hx => e_var g h
  | .int i, X, sc, e, g, fc, h, w, xp, hw, hx => by
    cases e with
    | Constant k j p =>
      cases k with
      | int j =>
        simp only [mE, decide_eq_true_eq] at h
        subst h
        simp only [iE]
        exact j_const pe_int fun F => Rep.int' _
      | _ => simp [mE] at h
    | _ => simp [mE] at h
  | .str i, X, sc, e, g, fc, h, w, xp, hw, hx => by
    cases e with
    | Constant k j p =>
      cases k with
      | str j =>
        simp only [mE, decide_eq_true_eq] at h
        subst h
        simp only [iE]
        exact j_const pe_str fun F => Rep.str' _
      | _ => simp [mE] at h
    | _ => simp [mE] at h
  | .bl i, X, sc, e, g, fc, h, w, xp, hw, hx => by
    cases e with
    | Constant k j p =>
      cases k with
      | bool j =>
        simp only [mE, beq_iff_eq] at h
        subst h
        simp only [iE]
        exact j_const pe_bl fun F => Rep.bl' _
      | _ => simp [mE] at h
    | _ => simp [mE] at h
  | .non, X, sc, e, g, fc, h, w, xp, hw, hx => by
    cases e with
    | Constant k j p =>
      cases k with
      | none =>
        simp only [iE]
        exact j_const pe_non fun F => Rep.non'
      | _ => simp [mE] at h
    | _ => simp [mE] at h
  | .glob x, X, sc, e, g, fc, h, w, xp, hw, hx => by
    cases e with
    | Name y p =>
      simp only [mE, Bool.and_eq_true, decide_eq_true_eq] at h
      obtain ⟨⟨rfl, h2⟩, h3⟩ := h
      subst hw
      simp only [iE]
      cases hd : S.gv.lookup x with
      | none =>
        refine ⟨fun pins s σ H Q I q => ?_⟩
        obtain ⟨_, _, _, _, z, _⟩ := q
        exact z.elim
      | some d =>
        obtain ⟨u, v, hm, rv, rp⟩ := g.gv x d hd
        exact j_const (pe_glob (g.gl h2) hm rv (noDb_1 h3)) rp
    | _ => simp [mE] at h
  | .bin o a b, X, sc, e, g, fc, h, w, xp, hw, hx => by
    cases e with
    | BinOp ea op eb p =>
      simp only [mE, Bool.and_eq_true] at h
      simp only [iE]
      exact j_bin (op_at (by rw [hw]; exact g.K) h.1.1) (sE a g fc h.1.2 w xp hw hx) (sE b g fc h.2 w xp hw hx)
    | _ => simp [mE] at h
  | .neg a, X, sc, e, g, fc, h, w, xp, hw, hx => by
    cases e with
    | UnaryOp op ea p =>
      cases op with
      | USub =>
        simp only [mE] at h
        simp only [iE]
        exact j_neg (sE a g fc h w xp hw hx)
      | _ => simp [mE] at h
    | _ => simp [mE] at h
  | .cmp o a b, X, sc, e, g, fc, h, w, xp, hw, hx => by
    cases e with
    | Compare ea ops es p =>
      match ops, es, h with
      | [op], [eb], h =>
        simp only [mE, Bool.and_eq_true] at h
        simp only [iE]
        exact j_cmp (cm_at (by rw [hw]; exact g.K) g.hu h.1.1.1) h.1.1.2 (sE a g fc h.1.2 w xp hw hx) (sE b g fc h.2 w xp hw hx)
      | [], _, h => simp [mE] at h
      | [_], [], h => simp [mE] at h
      | [_], _ :: _ :: _, h => simp [mE] at h
      | _ :: _ :: _, _, h => simp [mE] at h
    | _ => simp [mE] at h
  | .cmp2 o o' a b c, X, sc, e, g, fc, h, w, xp, hw, hx => by
    cases e with
    | Compare ea ops es p =>
      match ops, es, h with
      | [op, op'], [eb, ec], h =>
        simp only [mE, Bool.and_eq_true] at h
        simp only [iE]
        obtain ⟨⟨⟨⟨⟨⟨h1, h2⟩, h3⟩, h4⟩, h5⟩, h6⟩, h7⟩ := h
        exact j_cmp2 (cm_at (by rw [hw]; exact g.K) g.hu h1) (cm_at (by rw [hw]; exact g.K) g.hu h2) h3 h4 (sE a g fc h5 w xp hw hx) (sE b g fc h6 w xp hw hx) (sE c g fc h7 w xp hw hx)
      | [], _, h => simp [mE] at h
      | [_], _, h => simp [mE] at h
      | [_, _], [], h => simp [mE] at h
      | [_, _], [_], h => simp [mE] at h
      | [_, _], _ :: _ :: _ :: _, h => simp [mE] at h
      | _ :: _ :: _ :: _, _, h => simp [mE] at h
    | _ => simp [mE] at h
  | .and a b, X, sc, e, g, fc, h, w, xp, hw, hx => by
    cases e with
    | BoolOp op l p =>
      match op, l, h with
      | .And, ea :: eb :: r, h =>
        simp only [mE, Bool.and_eq_true] at h
        simp only [iE]
        exact j_and (sE a g fc h.1 w xp hw hx) (sE b g fc h.2 w xp hw hx)
      | .And, [], h => simp [mE] at h
      | .And, [_], h => simp [mE] at h
      | .Or, _, h => simp [mE] at h
    | _ => simp [mE] at h
  | .or a b, X, sc, e, g, fc, h, w, xp, hw, hx => by
    cases e with
    | BoolOp op l p =>
      match op, l, h with
      | .Or, ea :: eb :: r, h =>
        simp only [mE, Bool.and_eq_true] at h
        simp only [iE]
        exact j_or (sE a g fc h.1 w xp hw hx) (sE b g fc h.2 w xp hw hx)
      | .Or, [], h => simp [mE] at h
      | .Or, [_], h => simp [mE] at h
      | .And, _, h => simp [mE] at h
    | _ => simp [mE] at h
  | .one a, X, sc, e, g, fc, h, w, xp, hw, hx => by
    cases e with
    | BoolOp op l p =>
      match l, h with
      | [ea], h =>
        simp only [mE] at h
        simp only [iE]
        exact pe_one (sE a g fc h w xp hw hx)
      | [], h => simp [mE] at h
      | _ :: _ :: _, h => simp [mE] at h
    | _ => simp [mE] at h
  | .not a, X, sc, e, g, fc, h, w, xp, hw, hx => by
    cases e with
    | UnaryOp op ea p =>
      cases op with
      | Not =>
        simp only [mE] at h
        simp only [iE]
        exact j_not (sE a g fc h w xp hw hx)
      | _ => simp [mE] at h
    | _ => simp [mE] at h
  | .ife t a b, X, sc, e, g, fc, h, w, xp, hw, hx => by
    cases e with
    | IfExp et ea eb p =>
      simp only [mE, Bool.and_eq_true] at h
      simp only [iE]
      exact j_ife (sT t g fc h.1.1 w xp hw hx) (sE a g fc h.1.2 w xp hw hx) (sE b g fc h.2 w xp hw hx)
    | _ => simp [mE] at h
  | .tup es, X, sc, e, g, fc, h, w, xp, hw, hx => by
    cases e with
    | Tuple l k p =>
      simp only [mE] at h
      simp only [iE]
      exact j_tup (sAs es g fc h w xp hw hx)
    | _ => simp [mE] at h
  | .lst es, X, sc, e, g, fc, h, w, xp, hw, hx => by
    cases e with
    | List l p =>
      simp only [mE] at h
      simp only [iE]
      exact j_lst (sAs es g fc h w xp hw hx)
    | _ => simp [mE] at h
  | .ix a b, X, sc, e, g, fc, h, w, xp, hw, hx => by
    cases e with
    | Subscript ea eb p =>
      simp only [mE, Bool.and_eq_true] at h
      simp only [iE]
      exact j_ix (ix_D (by rw [hw]; exact g.K) (by rw [hw]; exact g.w)) h.1.1 (sE a g fc h.1.2 w xp hw hx) (sE b g fc h.2 w xp hw hx)
    | _ => simp [mE] at h
  | .sl a lo hi, X, sc, e, g, fc, h, w, xp, hw, hx => by
    cases e with
    | Subscript ea eb p =>
      cases eb with
      | Slice l u st p2 =>
        cases st with
        | none =>
          simp only [mE, Bool.and_eq_true] at h
          simp only [iE]
          exact j_sl (by rw [hw]; exact g.K) (sE a g fc h.1.1 w xp hw hx) (sO lo g fc h.1.2 w xp hw hx) (sO hi g fc h.2 w xp hw hx)
        | some _ => simp [mE] at h
      | _ => simp [mE] at h
    | _ => simp [mE] at h
  | .bi b es, X, sc, e, g, fc, h, w, xp, hw, hx => e_bi g h hw fun l hl => sRs es g fc hl w xp hw hx
  | .call f es, X, sc, e, g, fc, h, w, xp, hw, hx => e_call g fc h hw hx fun l hl => sAs es g fc hl w xp hw hx
  | .callm f i es, X, sc, e, g, fc, h, w, xp, hw, hx => e_callm g fc h hw hx fun l hl => sAs es g fc hl w xp hw hx
  | .isi one a ts, X, sc, e, g, fc, h, w, xp, hw, hx => e_isi g h hw fun l hl => sE a g fc hl w xp hw hx
  | .bm m a b, X, sc, e, g, fc, h, w, xp, hw, hx => by
    obtain ⟨ea, ap, eb, cp, rfl⟩ : ∃ ea ap eb cp, e = .Call (.Attribute ea m.name ap) [eb] [] cp := by
      unfold mE at h
      split at h <;> first | exact absurd h Bool.false_ne_true | skip
      all_goals first
        | (simp only [Bool.and_eq_true, decide_eq_true_eq] at h
           obtain ⟨rfl, _⟩ := h
           exact ⟨_, _, _, _, rfl⟩)
        | simp_all
    simp only [mE, Bool.and_eq_true, decide_eq_true_eq] at h
    obtain ⟨_, h2, h3, h4, h5, h6⟩ := h
    simp only [iE]
    subst hw
    exact j_bm g h2 h3 h4 (sE a g fc h5 w xp rfl hx) (sE b g fc h6 w xp rfl hx)
  | .dget kvs i j, X, sc, e, g, fc, h, w, xp, hw, hx => e_dget g hw h
  | .lrg a, X, sc, e, g, fc, h, w, xp, hw, hx => by
    obtain ⟨p, q, e1, r, s, rfl⟩ : ∃ p q e1 r s, e = .Call (.Name "list" p) [.Call (.Name "range" q) [e1] [] r] [] s := by
      unfold mE at h
      split at h <;> first | exact absurd h Bool.false_ne_true | skip
      all_goals first
        | (simp only [Bool.and_eq_true, decide_eq_true_eq] at h
           obtain ⟨rfl, _, rfl, _⟩ := h
           exact ⟨_, _, _, _, _, rfl⟩)
        | simp_all
    simp only [mE, Bool.and_eq_true, decide_eq_true_eq] at h
    obtain ⟨_, h2, _, h4, h5, h6⟩ := h
    simp only [iE]
    subst hw
    exact j_lrg g (g.gl h2) (g.gl h4) h5 (sE a g fc h6 w xp rfl hx)
  | .told fz wp c, X, sc, e, g, fc, h, w, xp, hw, hx => by
    have hg : Gl X "_law_told" := by
      refine g.gl (x := "_law_told") ?_
      unfold mE at h
      split at h <;> first | exact absurd h Bool.false_ne_true | skip
      all_goals first
        | (simp only [Bool.and_eq_true, decide_eq_true_eq] at h
           obtain ⟨rfl, h2, _⟩ := h
           exact h2)
        | simp_all
    subst hw
    exact hx.tl hg fz wp c sc e g h fun {X'} {sc'} {e'} g' fc' h' w' xp' hw' tk' ng => sE c g' fc' h' w' xp' hw' ⟨tk', fun z => absurd z ng⟩
  | .comp own t it ifs c, X, sc, e, g, fc, h, w, xp, hw, hx => by
    cases e with
    | ListComp elt gens scope p =>
      cases gens with
      | nil => simp [mE] at h
      | cons g0 gs =>
        cases gs with
        | cons _ _ => obtain ⟨tg, iter, is, asy⟩ := g0; simp [mE] at h
        | nil =>
          obtain ⟨tg, iter, is, asy⟩ := g0
          have e0 : asy = 0 := by
            by_cases z : asy = 0
            · exact z
            · simp [mE, z] at h
          subst e0
          simp only [mE, Bool.and_eq_true] at h
          obtain ⟨⟨⟨⟨⟨⟨h1, h2⟩, h3⟩, h4⟩, h5⟩, h6⟩, h7⟩ := h
          have h7 := of_decide_eq_true h7
          simp only [iE]
          subst hw
          exact (pe_lc g.calm g.nd (sI it g fc h3 w xp rfl hx) (blk_ok g h1)
            (fun s H C cl fp => g_ok (w := w) (X := X.blk s H scope (compEnvC scope cl C X.env) fp) (xg_blk g) rfl t tg h4)
            (fun s H C cl fp => pts_ex fun w' hw' => sTs ifs (X := X.blk s H scope (compEnvC scope cl C X.env) fp) (xg_blk g) (fun i e he => fc i e he) h5 w' _ hw' (xok_never (blk_quiet h7)))
            (fun s H C cl fp => pe_ex fun w' hw' => sE c (X := X.blk s H scope (compEnvC scope cl C X.env) fp) (xg_blk g) (fun i e he => fc i e he) h6 w' _ hw' (xok_never (blk_quiet h7)))
            (set_plain h2)).imp fun σ H Q q => lc_data (wi := tJI w fun ρ K => iI S xp it ρ K) q
    | _ => simp [mE] at h
theorem sW {S : Sg} {G : Gd} : ∀ (c : C) {X : Cx} {sc : Scope} {op : BoolOp} {l : List Expr} {p : Pos}, XG S G sc X → FnCs S G X → mE S X.N sc c (.BoolOp op l p) = true → ∀ (w : Wd) (xp : XP), w.G = G → XOk S X w xp → PW X (.BoolOp op l p) (tJT w fun ρ K => iT S xp c ρ K)
  | .and a b, X, sc, op, l, p, g, fc, h, w, xp, hw, hx => by
    match op, l, h with
    | .And, ea :: eb :: r, h =>
      simp only [mE, Bool.and_eq_true] at h
      simp only [iT]
      exact jt_and (sT a g fc h.1 w xp hw hx) (sW b g fc h.2 w xp hw hx)
    | .And, [], h => simp [mE] at h
    | .And, [_], h => simp [mE] at h
    | .Or, _, h => simp [mE] at h
  | .or a b, X, sc, op, l, p, g, fc, h, w, xp, hw, hx => by
    match op, l, h with
    | .Or, ea :: eb :: r, h =>
      simp only [mE, Bool.and_eq_true] at h
      simp only [iT]
      exact jt_or (sT a g fc h.1 w xp hw hx) (sW b g fc h.2 w xp hw hx)
    | .Or, [], h => simp [mE] at h
    | .Or, [_], h => simp [mE] at h
    | .And, _, h => simp [mE] at h
  | .one a, X, sc, op, l, p, g, fc, h, w, xp, hw, hx => by
    match op, l, h with
    | .And, [ea], h =>
      simp only [mE] at h
      simp only [iT]
      exact pw_and1 (sT a g fc h w xp hw hx)
    | .Or, [ea], h =>
      simp only [mE] at h
      simp only [iT]
      exact pw_or1 (sT a g fc h w xp hw hx)
    | _, [], h => simp [mE] at h
    | _, _ :: _ :: _, h => simp [mE] at h
  | .var _, X, sc, op, l, p, g, fc, h, w, xp, hw, hx => by simp [mE] at h
  | .int _, X, sc, op, l, p, g, fc, h, w, xp, hw, hx => by simp [mE] at h
  | .str _, X, sc, op, l, p, g, fc, h, w, xp, hw, hx => by simp [mE] at h
  | .bl _, X, sc, op, l, p, g, fc, h, w, xp, hw, hx => by simp [mE] at h
  | .non, X, sc, op, l, p, g, fc, h, w, xp, hw, hx => by simp [mE] at h
  | .glob _, X, sc, op, l, p, g, fc, h, w, xp, hw, hx => by simp [mE] at h
  | .bin .., X, sc, op, l, p, g, fc, h, w, xp, hw, hx => by simp [mE] at h
  | .neg _, X, sc, op, l, p, g, fc, h, w, xp, hw, hx => by simp [mE] at h
  | .cmp .., X, sc, op, l, p, g, fc, h, w, xp, hw, hx => by simp [mE] at h
  | .cmp2 .., X, sc, op, l, p, g, fc, h, w, xp, hw, hx => by simp [mE] at h
  | .not _, X, sc, op, l, p, g, fc, h, w, xp, hw, hx => by simp [mE] at h
  | .ife .., X, sc, op, l, p, g, fc, h, w, xp, hw, hx => by simp [mE] at h
  | .tup _, X, sc, op, l, p, g, fc, h, w, xp, hw, hx => by simp [mE] at h
  | .lst _, X, sc, op, l, p, g, fc, h, w, xp, hw, hx => by simp [mE] at h
  | .ix .., X, sc, op, l, p, g, fc, h, w, xp, hw, hx => by simp [mE] at h
  | .sl .., X, sc, op, l, p, g, fc, h, w, xp, hw, hx => by simp [mE] at h
  | .bi .., X, sc, op, l, p, g, fc, h, w, xp, hw, hx => by simp [mE] at h
  | .call .., X, sc, op, l, p, g, fc, h, w, xp, hw, hx => by simp [mE] at h
  | .callm .., X, sc, op, l, p, g, fc, h, w, xp, hw, hx => by simp [mE] at h
  | .comp .., X, sc, op, l, p, g, fc, h, w, xp, hw, hx => by simp [mE] at h
  | .isi one a ts, X, sc, op, l, p, g, fc, h, w, xp, hw, hx => by cases one <;> simp [mE] at h
  | .told .., X, sc, op, l, p, g, fc, h, w, xp, hw, hx => by simp [mE] at h
  | .bm .., X, sc, op, l, p, g, fc, h, w, xp, hw, hx => by simp [mE] at h
  | .dget .., X, sc, op, l, p, g, fc, h, w, xp, hw, hx => by simp [mE] at h
  | .lrg .., X, sc, op, l, p, g, fc, h, w, xp, hw, hx => by simp [mE] at h
theorem sT {S : Sg} {G : Gd} : ∀ (c : C) {X : Cx} {sc : Scope} {e : Expr}, XG S G sc X → FnCs S G X → mE S X.N sc c e = true → ∀ (w : Wd) (xp : XP), w.G = G → XOk S X w xp → PT X e (tJT w fun ρ K => iT S xp c ρ K)
  | .and a b, X, sc, e, g, fc, h, w, xp, hw, hx => by
    cases e with
    | BoolOp op l p =>
      match op, l, h with
      | .And, ea :: eb :: r, h =>
        simp only [mE, Bool.and_eq_true] at h
        simp only [iT]
        exact (jt_and (sT a g fc h.1 w xp hw hx) (sW b g fc h.2 w xp hw hx)).pt
      | .And, [], h => simp [mE] at h
      | .And, [_], h => simp [mE] at h
      | .Or, _, h => simp [mE] at h
    | _ => simp [mE] at h
  | .or a b, X, sc, e, g, fc, h, w, xp, hw, hx => by
    cases e with
    | BoolOp op l p =>
      match op, l, h with
      | .Or, ea :: eb :: r, h =>
        simp only [mE, Bool.and_eq_true] at h
        simp only [iT]
        exact (jt_or (sT a g fc h.1 w xp hw hx) (sW b g fc h.2 w xp hw hx)).pt
      | .Or, [], h => simp [mE] at h
      | .Or, [_], h => simp [mE] at h
      | .And, _, h => simp [mE] at h
    | _ => simp [mE] at h
  | .one a, X, sc, e, g, fc, h, w, xp, hw, hx => by
    cases e with
    | BoolOp op l p =>
      match op, l, h with
      | .And, [ea], h =>
        simp only [mE] at h
        simp only [iT]
        exact (pw_and1 (sT a g fc h w xp hw hx)).pt
      | .Or, [ea], h =>
        simp only [mE] at h
        simp only [iT]
        exact (pw_or1 (sT a g fc h w xp hw hx)).pt
      | _, [], h => simp [mE] at h
      | _, _ :: _ :: _, h => simp [mE] at h
    | _ => simp [mE] at h
  | .not a, X, sc, e, g, fc, h, w, xp, hw, hx => by
    cases e with
    | UnaryOp op ea p =>
      cases op with
      | Not =>
        simp only [mE] at h
        simp only [iT]
        exact jt_not (sT a g fc h w xp hw hx)
      | _ => simp [mE] at h
    | _ => simp [mE] at h
  | .cmp o a b, X, sc, e, g, fc, h, w, xp, hw, hx => by
    cases e with
    | Compare ea ops es p =>
      match ops, es, h with
      | [op], [eb], h =>
        simp only [mE, Bool.and_eq_true] at h
        simp only [iT]
        exact jt_cmp (cm_at (by rw [hw]; exact g.K) g.hu h.1.1.1) h.1.1.2 (sE a g fc h.1.2 w xp hw hx) (sE b g fc h.2 w xp hw hx)
      | [], _, h => simp [mE] at h
      | [_], [], h => simp [mE] at h
      | [_], _ :: _ :: _, h => simp [mE] at h
      | _ :: _ :: _, _, h => simp [mE] at h
    | _ => simp [mE] at h
  | .cmp2 o o' a b c, X, sc, e, g, fc, h, w, xp, hw, hx => by
    cases e with
    | Compare ea ops es p =>
      match ops, es, h with
      | [op, op'], [eb, ec], h =>
        simp only [mE, Bool.and_eq_true] at h
        simp only [iT]
        obtain ⟨⟨⟨⟨⟨⟨h1, h2⟩, h3⟩, h4⟩, h5⟩, h6⟩, h7⟩ := h
        exact jt_cmp2 (cm_at (by rw [hw]; exact g.K) g.hu h1) (cm_at (by rw [hw]; exact g.K) g.hu h2) h3 h4 (sE a g fc h5 w xp hw hx) (sE b g fc h6 w xp hw hx) (sE c g fc h7 w xp hw hx)
      | [], _, h => simp [mE] at h
      | [_], _, h => simp [mE] at h
      | [_, _], [], h => simp [mE] at h
      | [_, _], [_], h => simp [mE] at h
      | [_, _], _ :: _ :: _ :: _, h => simp [mE] at h
      | _ :: _ :: _ :: _, _, h => simp [mE] at h
    | _ => simp [mE] at h
  | .var i, X, sc, e, g, fc, h, w, xp, hw, hx => by
    cases e with
    | Name x p =>
      have hE := e_var (w := w) (xp := xp) g h
      refine (jt_val (by rw [hw]; exact g.K) (fun _ => rfl) hE).imp fun σ H Q q => ?_
      obtain ⟨F, ρ, l, Kd, q, k⟩ := q
      refine ⟨F, ρ, l, Kd, ?_, k⟩
      simp only [iT] at q
      simp only [iE]
      unfold rdr at q
      split at q
      · cases ‹R.pl i = R.v _›
      · cases ‹R.pl i = R.n _›
      · rename_i j ej
        cases ej
        split at q
        · rename_i b xs eo
          rw [eo]
          simp only [R.stl, rdr, eo]
          exact q
        · rename_i d eo
          rw [eo]
          simp only [R.stl, rdr]
          exact q
        · exact q.elim
    | _ => simp [mE] at h
  | .bi b es, X, sc, e, g, fc, h, w, xp, hw, hx => by
    cases e with
    | Call f l kws p =>
      have hE := e_bi (w := w) (xp := xp) g h hw fun l hl => sRs es g fc hl w xp hw hx
      have hf : ∃ x p2, f = .Name x p2 := by
        cases f with
        | Name x p2 => exact ⟨_, _, rfl⟩
        | _ => simp [mE] at h
      obtain ⟨x, p2, rfl⟩ := hf
      refine (jt_val (by rw [hw]; exact g.K) (fun _ => rfl) hE).imp fun σ H Q q => ?_
      obtain ⟨F, ρ, l, Kd, q, k⟩ := q
      refine ⟨F, ρ, l, Kd, ?_, k⟩
      simp only [iT] at q
      simp only [iE]
      have e1 : ∀ ρ1, (fun r : Res => rdr ρ1 (R.ofRes r).stl fun d => truD d fun b => Kd b ρ1) = fun r => match r with
          | .d x => truD x fun b => Kd b ρ1
          | .n xs => Kd (!xs.isEmpty) ρ1 := fun ρ1 => by funext r; cases r <;> rfl
      simp only [e1]
      exact q
    | _ => simp [mE] at h
  | .told .., X, sc, e, g, fc, h, w, xp, hw, hx => jt_no fun ρ K => by simp [iT]
  | .bm .., X, sc, e, g, fc, h, w, xp, hw, hx => jt_no fun ρ K => by simp [iT]
  | .dget .., X, sc, e, g, fc, h, w, xp, hw, hx => jt_no fun ρ K => by simp [iT]
  | .lrg .., X, sc, e, g, fc, h, w, xp, hw, hx => jt_no fun ρ K => by simp [iT]
  | .isi one a ts, X, sc, e, g, fc, h, w, xp, hw, hx => by
    have hE := e_isi (w := w) (xp := xp) g h hw fun l hl => sE a g fc hl w xp hw hx
    obtain ⟨x, px, l, p, rfl⟩ : ∃ x px l p, e = .Call (.Name x px) l [] p := by
      rcases isi_shape h with ⟨t, x, px, ea, y, py, p, _, _, rfl⟩ | ⟨x, px, ea, l, k, pt, p, _, rfl⟩
      · exact ⟨_, _, _, _, rfl⟩
      · exact ⟨_, _, _, _, rfl⟩
    refine (jt_val (by rw [hw]; exact g.K) (fun _ => rfl) hE).imp fun σ H Q q => ?_
    obtain ⟨F, ρ, l, Kd, q, k⟩ := q
    refine ⟨F, ρ, l, Kd, ?_, k⟩
    simp only [iT] at q
    simp only [iE]
    exact q
  | .call f es, X, sc, e, g, fc, h, w, xp, hw, hx => by
    cases e with
    | Call fe l kws p =>
      have hE := e_call (w := w) (xp := xp) g fc h hw hx fun l hl => sAs es g fc hl w xp hw hx
      have hf : ∃ x p2, fe = .Name x p2 := by
        cases fe with
        | Name x p2 => exact ⟨_, _, rfl⟩
        | _ => simp [mE] at h
      obtain ⟨x, p2, rfl⟩ := hf
      refine (jt_val (by rw [hw]; exact g.K) (fun _ => rfl) hE).imp fun σ H Q q => ?_
      obtain ⟨F, ρ, l, Kd, q, k⟩ := q
      refine ⟨F, ρ, l, Kd, ?_, k⟩
      simp only [iT] at q
      simp only [iE]
      have e1 : ∀ ρ1, (fun (r : Res) (_ : List D) => rdr ρ1 (R.ofRes r).stl fun d => truD d fun b => Kd b ρ1) = fun r _ => match r with
          | .d x => truD x fun b => Kd b ρ1
          | .n xs => Kd (!xs.isEmpty) ρ1 := fun ρ1 => by funext r _; cases r <;> rfl
      simp only [e1]
      exact q
    | _ => simp [mE] at h
  | .callm f i es, X, sc, e, g, fc, h, w, xp, hw, hx => by
    cases e with
    | Call fe l kws p =>
      have hE := e_callm (w := w) (xp := xp) g fc h hw hx fun l hl => sAs es g fc hl w xp hw hx
      have hf : ∃ x p2, fe = .Name x p2 := by
        cases fe with
        | Name x p2 => exact ⟨_, _, rfl⟩
        | _ => simp [mE] at h
      obtain ⟨x, p2, rfl⟩ := hf
      refine (jt_val (by rw [hw]; exact g.K) (fun _ => rfl) hE).imp fun σ H Q q => ?_
      obtain ⟨F, ρ, l, Kd, q, k⟩ := q
      refine ⟨F, ρ, l, Kd, ?_, k⟩
      simp only [iT] at q
      simp only [iE]
      have e1 : ∀ (ρ1 : Rho) (b : Bool), (fun (r : Res) (bag : List D) => rdr (ρ1.set i (Sl.ow b bag)) (R.ofRes r).stl fun d => truD d fun c => Kd c (ρ1.set i (Sl.ow b bag))) = fun r bag => match r with
          | .d x => truD x fun c => Kd c (ρ1.set i (Sl.ow b bag))
          | .n xs => Kd (!xs.isEmpty) (ρ1.set i (Sl.ow b bag)) := fun ρ1 b => by funext r bag; cases r <;> rfl
      simp only [e1]
      exact q
    | _ => simp [mE] at h
  | .int i, X, sc, e, g, fc, h, w, xp, hw, hx => jt_no (by intro ρ K q; simp only [iT] at q)
  | .str i, X, sc, e, g, fc, h, w, xp, hw, hx => jt_no (by intro ρ K q; simp only [iT] at q)
  | .bl i, X, sc, e, g, fc, h, w, xp, hw, hx => jt_no (by intro ρ K q; simp only [iT] at q)
  | .non, X, sc, e, g, fc, h, w, xp, hw, hx => jt_no (by intro ρ K q; simp only [iT] at q)
  | .glob i, X, sc, e, g, fc, h, w, xp, hw, hx => jt_no (by intro ρ K q; simp only [iT] at q)
  | .bin .., X, sc, e, g, fc, h, w, xp, hw, hx => jt_no (by intro ρ K q; simp only [iT] at q)
  | .neg .., X, sc, e, g, fc, h, w, xp, hw, hx => jt_no (by intro ρ K q; simp only [iT] at q)
  | .ife .., X, sc, e, g, fc, h, w, xp, hw, hx => jt_no (by intro ρ K q; simp only [iT] at q)
  | .tup .., X, sc, e, g, fc, h, w, xp, hw, hx => jt_no (by intro ρ K q; simp only [iT] at q)
  | .lst .., X, sc, e, g, fc, h, w, xp, hw, hx => jt_no (by intro ρ K q; simp only [iT] at q)
  | .ix .., X, sc, e, g, fc, h, w, xp, hw, hx => jt_no (by intro ρ K q; simp only [iT] at q)
  | .sl .., X, sc, e, g, fc, h, w, xp, hw, hx => jt_no (by intro ρ K q; simp only [iT] at q)
  | .comp .., X, sc, e, g, fc, h, w, xp, hw, hx => jt_no (by intro ρ K q; simp only [iT] at q)
theorem sTs {S : Sg} {G : Gd} : ∀ (cs : Cs) {X : Cx} {sc : Scope} {es : List Expr}, XG S G sc X → FnCs S G X → mTs S X.N sc cs es = true → ∀ (w : Wd) (xp : XP), w.G = G → XOk S X w xp → PTs X es (tJT w fun ρ K => iTs S xp cs ρ K)
  | .nil, X, sc, es, g, fc, h, w, xp, hw, hx => by
    cases es with
    | nil =>
      refine ⟨fun pins s σ H Q I q => pts_nil.run pins s σ H Q I ?_⟩
      obtain ⟨F, ρ, l, Kd, q, k⟩ := q
      simp only [iTs] at q
      exact k true ρ F H le_rfl' l q
    | cons _ _ => simp [mTs] at h
  | .cons c .nil, X, sc, es, g, fc, h, w, xp, hw, hx => by
    match es, h with
    | [e], h =>
      simp only [mTs] at h
      simp only [iTs]
      exact pts_one (sT c g fc h w xp hw hx)
    | [], h => simp [mTs] at h
    | _ :: _ :: _, h => simp [mTs] at h
  | .cons _ (.cons _ _), X, sc, es, g, fc, h, w, xp, hw, hx => by
    cases es <;> simp [mTs] at h
theorem sI {S : Sg} {G : Gd} : ∀ (it : Src) {X : Cx} {sc : Scope} {e tg : Expr}, XG S G sc X → FnCs S G X → mI S X.N sc it e tg = true → ∀ (w : Wd) (xp : XP), w.G = G → XOk S X w xp → PI X tg e (tJI w fun ρ K => iI S xp it ρ K)
  | .seq c, X, sc, e, tg, g, fc, h, w, xp, hw, hx => by
    simp only [mI] at h
    simp only [iI]
    exact ji_seq (by rw [hw]; exact g.K) (sE c g fc h w xp hw hx)
  | .rng1 c, X, sc, e, tg, g, fc, h, w, xp, hw, hx => by
    cases e with
    | Call fe l kws p =>
      cases fe with
      | Name x p2 =>
        match l, kws, h with
        | [e], [], h =>
          simp only [mI, Bool.and_eq_true, decide_eq_true_eq] at h
          obtain ⟨⟨⟨rfl, h2⟩, h3⟩, h4⟩ := h
          simp only [iI]
          exact ji_rng1 h3 (g.gl h2) (g.bn _ (by decide +kernel)) (sE c g fc h4 w xp hw hx)
        | [], _, h => simp [mI] at h
        | [_], _ :: _, h => simp [mI] at h
        | _ :: _ :: _, _, h => simp [mI] at h
      | _ => simp [mI] at h
    | _ => simp [mI] at h
  | .rng2 a b, X, sc, e, tg, g, fc, h, w, xp, hw, hx => by
    cases e with
    | Call fe l kws p =>
      cases fe with
      | Name x p2 =>
        match l, kws, h with
        | [e, f], [], h =>
          simp only [mI, Bool.and_eq_true, decide_eq_true_eq] at h
          obtain ⟨⟨⟨⟨⟨rfl, h2⟩, h3⟩, h4⟩, h5⟩, h6⟩ := h
          simp only [iI]
          exact ji_rng2 h3 h4 (g.gl h2) (g.bn _ (by decide +kernel)) (sE a g fc h5 w xp hw hx) (sE b g fc h6 w xp hw hx)
        | [], _, h => simp [mI] at h
        | [_], _, h => simp [mI] at h
        | [_, _], _ :: _, h => simp [mI] at h
        | _ :: _ :: _ :: _, _, h => simp [mI] at h
      | _ => simp [mI] at h
    | _ => simp [mI] at h
  | .zip a b, X, sc, e, tg, g, fc, h, w, xp, hw, hx => by
    cases e with
    | Call fe l kws p =>
      cases fe with
      | Name x p2 =>
        match l, kws, h with
        | [e, f], [], h =>
          cases tg with
          | Tuple elts kk tpos =>
            simp only [mI, Bool.and_eq_true, decide_eq_true_eq] at h
            obtain ⟨⟨⟨⟨⟨rfl, h2⟩, h3⟩, h4⟩, h5⟩, h6⟩ := h
            simp only [iI]
            exact ji_zip (by rw [hw]; exact g.K) h3 h4 (g.gl h2) (g.bn _ (by decide +kernel)) (sE a g fc h5 w xp hw hx) (sE b g fc h6 w xp hw hx)
          | _ => exact absurd h Bool.false_ne_true
        | [], _, h => exact absurd h Bool.false_ne_true
        | [_], _, h => exact absurd h Bool.false_ne_true
        | [_, _], _ :: _, h => exact absurd h Bool.false_ne_true
        | _ :: _ :: _ :: _, _, h => exact absurd h Bool.false_ne_true
      | _ => exact absurd h Bool.false_ne_true
    | _ => exact absurd h Bool.false_ne_true
theorem sO {S : Sg} {G : Gd} : ∀ (c : Co) {X : Cx} {sc : Scope} {e : Option Expr}, XG S G sc X → FnCs S G X → mO S X.N sc c e = true → ∀ (w : Wd) (xp : XP), w.G = G → XOk S X w xp → PO X e (tJO w fun ρ K => iO S xp c ρ K)
  | .no, X, sc, e, g, fc, h, w, xp, hw, hx => by
    cases e with
    | none =>
      simp only [iO]
      exact jo_no
    | some _ => simp [mO] at h
  | .so c, X, sc, e, g, fc, h, w, xp, hw, hx => by
    cases e with
    | none => simp [mO] at h
    | some e =>
      simp only [mO] at h
      simp only [iO]
      exact jo_so (sE c g fc h w xp hw hx)
theorem sAs {S : Sg} {G : Gd} : ∀ (cs : Cs) {X : Cx} {sc : Scope} {es : List Expr}, XG S G sc X → FnCs S G X → mEs S X.N sc cs es = true → ∀ (w : Wd) (xp : XP), w.G = G → XOk S X w xp → PA X es (tJA w fun ρ K => iAs S xp cs ρ K)
  | .nil, X, sc, es, g, fc, h, w, xp, hw, hx => by
    cases es with
    | nil =>
      simp only [iAs]
      exact ja_nil
    | cons _ _ => simp [mEs] at h
  | .cons c r, X, sc, es, g, fc, h, w, xp, hw, hx => by
    cases es with
    | nil => simp [mEs] at h
    | cons e es =>
      simp only [mEs, Bool.and_eq_true] at h
      simp only [iAs]
      exact ja_cons h.1.1 (sE c g fc h.1.2 w xp hw hx) (sAs r g fc h.2 w xp hw hx)
theorem sRs {S : Sg} {G : Gd} : ∀ (cs : Cs) {X : Cx} {sc : Scope} {es : List Expr}, XG S G sc X → FnCs S G X → mEs S X.N sc cs es = true → ∀ (w : Wd) (xp : XP), w.G = G → XOk S X w xp → PA X es (tJR w fun ρ K => iRs S xp cs ρ K)
  | .nil, X, sc, es, g, fc, h, w, xp, hw, hx => by
    cases es with
    | nil =>
      simp only [iRs]
      exact jr_nil
    | cons _ _ => simp [mEs] at h
  | .cons c r, X, sc, es, g, fc, h, w, xp, hw, hx => by
    cases es with
    | nil => simp [mEs] at h
    | cons e es =>
      simp only [mEs, Bool.and_eq_true] at h
      simp only [iRs]
      exact jr_cons h.1.1 (sE c g fc h.1.2 w xp hw hx) (sRs r g fc h.2 w xp hw hx)
end
end DL

/-! DV: own exceptions: classes whose __init__ hands a word on to the base, raised without arguments or with one. -/
namespace DL
open PySem L2 PySem.Spec PyProof.Rows
section
variable {P : Program} {w : World} {K : PySem.W.Frag} {mg : Str → Option Value} {base : Heap}
/-- a def whose exceptions bear no context -/
theorem fun_okN {x qual : Str} {st : Stmt} {f : Addr} {fd : FuncData} {N ps : List Str} {k : Nat} {sp : Sp} (F : Fun K x qual st f fd) (S : FnScope N ps (defScope st)) (len : ∀ vs H Q E, sp vs H Q E → vs.length = ps.length)
    (hbody : ∀ (cdv : Value) (A : Around) (outer : List Env) (s : Shared) (H : Hp) (vs : List V) (Q : VK) (E : XK), Room k (A.deeper (envOfC qual (defScope st) s.heap.objs.size f cdv)) → sp vs H Q E →
      ∃ t, PSs (cxOf (L2N.CX P w) P w K mg base N qual (defScope st) f cdv A outer s H E) (defBody st) t ∧ t { nx := fun _ H' => Q .non H', rt := Q } (start N vs) H) : FnOk P w K mg base (L2N.CX P w) (k + 1) f fd ps sp := by
  have ⟨_, _, _, _, _, _, cdv, _, _, e, lk, hcd⟩ := F.ex
  subst e
  exact fn_of lk hcd S len fun A outer s H vs Q E hr hsp => hbody cdv A outer s H vs Q E hr hsp
theorem mk_endN {X : Cx} {pins : List (Addr × Obj)} {σ : L2.St} {H1 H2 : Hp} {Q : XK} {hp hp2 h2 : Heap} {g1 g2 : Array GenState} {d1 d2 : Drawn} {t1 t2 : Nat} {os1 os2 : OsState} {a C d : Addr} {fs : List (Str × V)} (T : Raises X (.ref C)) (I1 : Inv X pins σ H1 ⟨hp, g1, d1, t1, os1⟩)
    (ha : hp.objs.size ≤ a) (k : ∀ b o, hp.get? b = some o → hp2.get? b = some o) (un : Un (frs X.stack) [] (upd H1 a (exo a C none)) H2 hp2 h2) (hok : HOk X.prog X.w H2 h2) (ho : os2 = os1) (hb : AllBare g2)
    (ea : H2 a = some (exo a C (some d))) (ed : H2 d = some (exd d fs)) (hd1 : H1 d = none) (q : Q (.ref C) (some d) (upd (del H2 a) d (.xd fs))) : L2N.MkP X pins σ Q (.ref a) ⟨h2, g2, d2, t2, os2⟩ :=
  have ⟨_, _, J, kG, ge, hoe, na⟩ := mk_end0 (d2 := d2) (t2 := t2) I1 ha k un hok ho hb ea ed hd1
  ⟨a, _, _, _, _, _, some d, rfl, J, kG, ge, hoe, ⟨rfl, rfl, fun vs hv => by cases hv; rfl⟩, rfl, rfl, na, rfl, hb, T, q⟩
end

section
variable {X : Cx} {x m : Str} {C g : Addr} {k : Nat} {fd : FuncData} {ps : List Str} {sp : Sp} {E : L2.St → XK} {e : Expr} {es : List Expr} {ta : TA} {p1 p2 pos : Pos} {mc : Value}
/-- Base.m(e, ..): a def that is got from the class object itself -/
theorem pe_clsf {pl : Sem Bool} (hg : Gl X x) (hm : X.mg x = some (.ref C)) (gs : PySem.W.specialIn X.K (.ref C) "__getattribute__" = some (some (.builtin "type.__getattribute__"))) (tm : PySem.W.typeIn X.K (.ref C) = some mc)
    (rd : PySem.W.readsIn X.K C mc = true) (fc : PySem.W.findCls X.K (.ref C) mc m = some (.val (.ref g))) (hh : PySem.W.handedIn (.ref g) = true) (F : FnOk X.prog X.w X.K X.mg X.base (L2N.CX X.prog X.w) k g fd ps sp) (hr : Room k X.A) (kp : PySem.W.keepIn X.K (.ref g) = true)
    (hb : Binds X.K fd ps []) (hx : ∀ σ, PassesAt (L2N.CX X.prog X.w) X σ (E σ)) (ha : PA X (e :: es) ta) (hdb : (x == ("__debug__" : Str)) = false)
    (hc : eval (.Call (.Attribute (.Name x p1) m p2) (e :: es) [] pos) X.env = (do
      let ov ← eval (.Name x p1) X.env
      standAt p2.atName
      let (f, first) ← holding [ov] (getMethod ov m pl)
      callWith pos f first (backTo pos (starEach (e :: es) X.env)) (backToKw pos (keywordEach [] X.env))))
    (he : starEach (e :: es) X.env = (false, eval e X.env) :: starEach es X.env) (hpl : (backTo pos (starEach es X.env)).any (·.1) = false) :
    PE X (.Call (.Attribute (.Name x p1) m p2) (e :: es) [] pos) (tCallS sp E ta) := ⟨fun pins s σ H Q I h => by
  obtain ⟨m0, fr⟩ := I.fr
  refine PySem.W.methodCall_KW (ld_glob I hg hm ?_ hdb) hc
  refine PySem.W.method_of_cls fr I.ok.mod.kin gs (PySem.W.cls_val fr I.ok.mod.kin tm rd fc hh ?_)
  refine PySem.W.callWith_K (first := []) (h₀ := X.base) I.ok.mod.kin kp (thn (ha.run pos pins _ σ H _ (I.tok _) h) fun us s2 ⟨vs, H2, I2, r, q2⟩ => ⟨I2.kIn, ?_⟩) he hpl
  exact run_fnS F hr hb (hx σ) I2 r q2⟩
end
/-- what an __init__ of ours keeps: the object gets a dict with these fields, nothing else is touched -/
def spInit (K : PySem.W.Frag) (n : Nat) (flds : List V → List (Str × V)) : Sp := fun vs H Q _ => ∃ (a C : Addr) (ws : List V), vs = .ref a :: ws ∧ ws.length = n ∧ OexC K C ∧ (∀ f, f ∈ (["word", "most", "at", "row"] : List Str) → PySem.W.findIn K (.ref C) f = some none) ∧ H a = some (exo a C none) ∧
  ∀ d, H d = none → d ≠ a → Q .non (upd (upd H d (exd d (flds ws))) a (exo a C (some d)))
section
variable {P : Program} {w : World} {K : PySem.W.Frag} {mg : Str → Option Value} {base : Heap}
/-- class Base(ValueError): def __init__(self, word): ValueError.__init__(self, word); self.word = word -/
theorem init_base {qual : Str} {st : Stmt} {f : Addr} {fd : FuncData} {p1 p2 p3 p4 p5 p6 p7 p8 p9 p10 : Pos} (Fn : Fun K "__init__" qual st f fd) (Sc : FnScope ["self", "word"] ["self", "word"] (defScope st)) (ls : (defScope st).names.lookup ("self" : Str) = some .local) (lw : (defScope st).names.lookup ("word" : Str) = some .local)
    (hb : defBody st = [.Expr (.Call (.Attribute (.Name "ValueError" p1) "__init__" p2) [.Name "self" p3, .Name "word" p4] [] p5) p6, .Assign [.Attribute (.Name "self" p7) "word" p8] (.Name "word" p9) p10]) (hg : (defScope st).names.lookup ("ValueError" : Str) = some .globalImplicit)
    {pl : Env → Sem Bool} (hc : ∀ env : Env, eval (.Call (.Attribute (.Name "ValueError" p1) "__init__" p2) [.Name "self" p3, .Name "word" p4] [] p5) env = (do
      let ov ← eval (.Name "ValueError" p1) env
      standAt p2.atName
      let (f, first) ← holding [ov] (getMethod ov "__init__" (pl env))
      callWith p5 f first (backTo p5 (starEach [.Name "self" p3, .Name "word" p4] env)) (backToKw p5 (keywordEach [] env))))
    (hm : mg "ValueError" = none) (vV : PySem.W.findCls K (.type "ValueError") (.type "type") "__init__" = some (.val (.builtin "ValueError.__init__"))) :
    FnOk P w K mg base (L2N.CX P w) 1 f fd ["self", "word"] (spInit K 1 fun ws => ws.map fun v => (("word" : Str), v)) := by
  refine fun_okN Fn Sc (fun vs H Q E h => ?_) (fun cdv A outer s H vs Q E hr h => ?_)
  · obtain ⟨a, C, ws, rfl, hl, _⟩ := h
    rw [List.length_cons, hl]; rfl
  · obtain ⟨a, C, ws, rfl, hl, hC, hf, hH, q⟩ := h
    obtain ⟨v, rfl⟩ := List.length_eq_one_iff.mp hl
    rw [hb]
    refine ⟨_, pss_cons (ps_expr (pe_veinit hg hm vV (pa_cons (pe_var (i := 0) rfl (.inl ls)) (pa_cons (pe_var (i := 1) rfl (.inl lw)) pa_nil)) (hc _))) (pss_one (ps_ost (pe_var (i := 0) rfl (.inl ls)) (pe_var (i := 1) rfl (.inl lw)))), ?_⟩
    refine ⟨_, rfl, _, rfl, a, C, [v], rfl, by simp, hC, hH, _, rfl, _, rfl, a, C, rfl, hC, hf _ (by simp), .inl ⟨hH, fun d hd hne => ?_⟩⟩
    exact q d hd hne
/-- class C(Base): def __init__(self): Base.__init__(self, "..") -/
theorem init_word {qual bn : Str} {z : Str} {j : Nat} {st : Stmt} {f B g : Addr} {fd gd : FuncData} {mc : Value} {p1 p2 p3 p4 p5 p6 : Pos} (Fn : Fun K "__init__" qual st f fd) (Sc : FnScope ["self"] ["self"] (defScope st)) (ls : (defScope st).names.lookup ("self" : Str) = some .local)
    (hb : defBody st = [.Expr (.Call (.Attribute (.Name bn p1) "__init__" p2) [.Name "self" p3, .Constant (.str z) j p4] [] p5) p6]) (hg : (defScope st).names.lookup bn = some .globalImplicit)
    {pl : Env → Sem Bool} (hc : ∀ env : Env, eval (.Call (.Attribute (.Name bn p1) "__init__" p2) [.Name "self" p3, .Constant (.str z) j p4] [] p5) env = (do
      let ov ← eval (.Name bn p1) env
      standAt p2.atName
      let (f, first) ← holding [ov] (getMethod ov "__init__" (pl env))
      callWith p5 f first (backTo p5 (starEach [.Name "self" p3, .Constant (.str z) j p4] env)) (backToKw p5 (keywordEach [] env))))
    (hm : mg bn = some (.ref B)) (hdb : (bn == ("__debug__" : Str)) = false) (gs : PySem.W.specialIn K (.ref B) "__getattribute__" = some (some (.builtin "type.__getattribute__"))) (tm : PySem.W.typeIn K (.ref B) = some mc) (rd : PySem.W.readsIn K B mc = true)
    (fc : PySem.W.findCls K (.ref B) mc "__init__" = some (.val (.ref g))) (hh : PySem.W.handedIn (.ref g) = true) (kp : PySem.W.keepIn K (.ref g) = true) (G : FnOk P w K mg base (L2N.CX P w) 1 g gd ["self", "word"] (spInit K 1 fun ws => ws.map fun v => (("word" : Str), v))) (gb : Binds K gd ["self", "word"] []) :
    FnOk P w K mg base (L2N.CX P w) 2 f fd ["self"] (spInit K 0 fun _ => [("word", .str z)]) := by
  refine fun_okN Fn Sc (fun vs H Q E h => ?_) (fun cdv A outer s H vs Q E hr h => ?_)
  · obtain ⟨a, C, ws, rfl, hl, _⟩ := h
    rw [List.length_cons, hl]; rfl
  · obtain ⟨a, C, ws, rfl, hl, hC, hf, hH, q⟩ := h
    have := List.eq_nil_of_length_eq_zero hl
    subst this
    rw [hb]
    refine ⟨_, pss_one (ps_expr (pe_clsf (E := fun _ _ _ _ => False) hg hm gs tm rd fc hh G hr kp gb (fun σ pins H s e s' I c => ?_) (pa_cons (pe_var (i := 0) rfl (.inl ls)) (pa_cons pe_str pa_nil)) hdb (hc _) rfl rfl)), ?_⟩
    · obtain ⟨_, _, _, _, _, _, _, _, _, _, _, _, z⟩ := c
      exact z.elim
    · exact ⟨_, rfl, a, C, [.str z], rfl, rfl, hC, hf, hH, fun d hd hne => q d hd hne⟩
end
section
variable {X : Cx} {C fI : Addr} {k : Nat} {fd : FuncData} {ps : List Str} {sp : Sp} {x : Str} {p pos : Pos}
/-- the class is called without arguments, in a context where nothing is handled -/
theorem call_exc0 {pins : List (Addr × Obj)} {s : Shared} {σ : L2.St} {H : Hp} {Q : XK} (T : OexC X.K C) (iC : PySem.W.findIn X.K (.ref C) "__init__" = some (some (.ref fI))) (tI : PySem.W.typeIn X.K (.ref fI) = some (.type "function"))
    (F : FnOk X.prog X.w X.K X.mg X.base (L2N.CX X.prog X.w) k fI fd ps sp) (hr : Room (k + 1) X.A) (hb : Binds X.K fd ps []) (I : Inv X pins σ H s)
    (h : ∀ a, H a = none → sp [.ref a] (upd H a (exo a C none)) (fun v H2 => v = .non ∧ ∃ (d : Addr) (fs : List (Str × V)), H2 a = some (exo a C (some d)) ∧ H2 d = some (exd d fs) ∧ H d = none ∧ Q (.ref C) (some d) (upd (del H2 a) d (.xd fs))) fun _ _ _ => False) :
    wpAny (model X.prog X.w) X.A (call (.ref C) []) (L2N.MkP X pins σ Q) X.xe s := by
  obtain ⟨c1, c2, c3, c4, c5, c6, c7, c8, c9, c10, c11, c12, c13, c14, c15, hC, hB⟩ := T.cls
  obtain ⟨hp, gn, dr, tk, os⟩ := s
  let a0 : Addr := hp.objs.size + 1
  have le1 : hp.objs.size ≤ a0 := Nat.le_succ _
  have fresh : H a0 = none := I.hok.fresh le1
  have ask := h a0 fresh
  let h1 : Heap := (hp.push (PySem.W.kdv_tup [])).push (PySem.HandSPX.excO C hp.objs.size)
  have keep1 : ∀ b o, hp.get? b = some o → h1.get? b = some o := fun b o e => Heap.get?_push_of_some _ (Heap.get?_push_of_some _ e)
  have at0 : h1.get? a0 = some (PySem.HandSPX.excO C hp.objs.size) := by
    show ((hp.push (PySem.W.kdv_tup [])).push (PySem.HandSPX.excO C hp.objs.size)).get? (hp.objs.size + 1) = _
    heap_get
  have J : Inv X pins σ (upd H a0 (exo a0 C none)) ⟨h1, gn, dr, tk, os⟩ := I.laid (t' := tk) keep1 le1 (exo_ok at0)
  have one : ([Value.ref a0] : List Value).length = ps.length := (F.len _ _ _ _ ask).symm ▸ rfl
  have bnd := hb ⟨h1, gn, dr, tk, os⟩ [Value.ref a0] J.kIn (by rw [List.append_nil]; exact one)
  rw [List.append_nil] at bnd
  have inner := F.run _ X.stack _ _ ⟨[Value.ref a0], []⟩ [Value.ref a0] [V.ref a0] _ (fun _ _ _ => False) (hr.make C [] []) (J.env0.make C [] []) bnd (.cons rfl .nil) ask
  refine wpAny_call (PySem.HandSPX.call_own PySem.F.excBase_ValueError (fun Y => PySem.HandSPX.refsVE_contains Y c5 hB) (I.kIn _ _ hC) (PySem.W.looks_findIn I.kIn iC) (fun self => PySem.W.bind_fn I.kIn self tI) (Nat.zero_le _) (codeAny_mono inner fun r s2 q2 => ?_))
  match r, q2 with
  | .error e, q2 =>
    obtain ⟨_, _, _, _, _, _, _, _, _, _, _, _, z⟩ := q2
    exact z.elim
  | .ok (.ret u), q2 =>
    obtain ⟨v, H2, eo, eb, un, ok2, rv, rfl, d, fs, e1, e2, e3, q⟩ := q2
    obtain ⟨h2, g2, d2, t2, o2⟩ := s2
    exact ⟨rv, mk_endN (raises_own T.exC T.tyC) I le1 keep1 un ok2 eo eb e1 e2 e3 q⟩
  | .ok .next, q2 => exact False.elim q2
  | .ok .brk, q2 => exact False.elim q2
  | .ok .cont, q2 => exact False.elim q2
end
/-- a class of ours that is raised by its name alone -/
structure ClX (X : Cx) (C : Addr) (n z : Str) : Prop where
  ox : OexC X.K C
  nf : ∀ f, f ∈ (["word", "most", "at", "row"] : List Str) → PySem.W.findIn X.K (.ref C) f = some none
  mg : X.mg n = some (.ref C)
  ini : ∃ fI fd, PySem.W.findIn X.K (.ref C) "__init__" = some (some (.ref fI)) ∧ PySem.W.typeIn X.K (.ref fI) = some (.type "function") ∧ Binds X.K fd ["self"] [] ∧
    FnOk X.prog X.w X.K X.mg X.base (L2N.CX X.prog X.w) 2 fI fd ["self"] (spInit X.K 0 fun _ => [("word", .str z)])
theorem heap_back {H : Hp} {a d : Addr} {o1 o2 o3 o4 : HO} (ha : H a = none) (hne : d ≠ a) : upd (del (upd (upd (upd H a o1) d o2) a o3) a) d o4 = upd H d o4 := by
  funext b
  by_cases hb : b = d
  · subst hb; rw [upd_same, upd_same]
  · rw [upd_ne hb, upd_ne hb]
    by_cases hc : b = a
    · subst hc; rw [del_same, ha]
    · rw [del_ne hc, upd_ne hc, upd_ne hb, upd_ne hc]
theorem pmk_raise {X : Cx} {C : Addr} {n z : Str} {p pos : Pos} (c : ClX X C n z) (hr : Room 3 X.A) (hg : Gl X n) (hdb : (n == ("__debug__" : Str)) = false) :
    L2N.PMk X (.Call (.Name n p) [] [] pos) (fun _ H Q => ∀ d, H d = none → Q (.ref C) (some d) (upd H d (.xd [("word", .str z)]))) := by
  intro pins s σ H Q I h
  obtain ⟨fI, fd, iC, tI, hb, F⟩ := c.ini
  refine wpAny_Call_Name_kw (ld_glob I hg c.mg (PySem.W.callWith_K0 I.kIn c.ox.kC (call_exc0 c.ox iC tI F hr hb I fun a ha => ?_)) hdb)
  refine ⟨a, C, [], rfl, rfl, c.ox, c.nf, upd_same, fun d hd hne => ⟨rfl, d, [(("word" : Str), V.str z)], upd_same, ?_, ?_, ?_⟩⟩
  · rw [upd_ne hne, upd_same]
  · rw [upd_ne hne] at hd; exact hd
  · rw [heap_back ha hne]
    exact h d (by rw [upd_ne hne] at hd; exact hd)
theorem s_raise {S : Sg} {X : Cx} {w : Wd} {xp : XP} {k : Nat} {n z : Str} {p pos pos' : Pos} (hc : X.calm = true) (tk : XOk S X w xp) (c : ClX X (w.G.cl k) n z) (hr : Room 3 X.A) (hg : Gl X n) (hdb : (n == ("__debug__" : Str)) = false) :
    PS X (.Raise (some (.Call (.Name n p) [] [] pos)) none pos') (fun D σ H => ∃ F ρ, Rl w F H σ ρ ∧ xp ⟨k, [("word", .str z)]⟩ ρ) := by
  refine ⟨fun pins s σ H D I h => (L2N.ps_raise (pos := pos') hc tk.tk (pmk_raise (p := p) (pos := pos) c hr hg hdb)).run pins s σ H D I fun d hd => ?_⟩
  obtain ⟨F, ρ, l, q⟩ := h
  have gr := Grow.alloc l.le hd (.xd [("word", .str z)])
  refine ⟨F, ρ, _, l.grow gr, ⟨rfl, d, _, rfl, upd_same, ?_⟩, q⟩
  simp only [RepF, Rep]
  exact ⟨_, _, rfl, rfl, rfl⟩
end DL

/-! DY: the rules are sound for every statement of the small language. -/
namespace DL
open PySem L2

def Fits (w : Wd) (F : Hp) (E : DE) (D : Ends) : Prop := ∀ ρ' σ' F' H', Le F F' → Rl w F' H' σ' ρ' → (E.nx ρ' → D.nx σ' H') ∧ (E.bk ρ' → D.bk σ' H') ∧ (E.ct ρ' → D.ct σ' H') ∧ ∀ r v, RelR w F' H' σ' ρ' v r → E.rt r ρ' → D.rt v H'
def tJS (w : Wd) (f : Rho → DE → Prop) : TS := fun D σ H => ∃ F ρ, Rl w F H σ ρ ∧ ∃ E : DE, f ρ E ∧ Fits w F E D
theorem _root_.L2.PS.imp {X : Cx} {e : Stmt} {t t' : TS} (h : PS X e t) (k : ∀ D σ H, t' D σ H → t D σ H) : PS X e t' := ⟨fun pins s σ H D I q => h.run pins s σ H D I (k D σ H q)⟩
theorem _root_.L2.PSs.imp {X : Cx} {e : List Stmt} {t t' : TS} (h : PSs X e t) (k : ∀ D σ H, t' D σ H → t D σ H) : PSs X e t' := ⟨fun pins s σ H D I q => h.run pins s σ H D I (k D σ H q)⟩

section
variable {S : Sg} {G : Gd} {X : Cx} {w : Wd} {sc : Scope} {xp : XP} {e ea eb ec tg : Expr} {pos p : Pos} {Dn : Ends} {E : DE} {F F' H H' : Hp} {σ : St} {ρ : Rho} {v : V}
theorem Fits.mono (h : Le F F') (k : Fits w F E Dn) : Fits w F' E Dn := fun ρ' σ' F1 H1 le l => k ρ' σ' F1 H1 (le_tr h le) l
theorem Fits.nx (k : Fits w F E Dn) (le : Le F F') (l : Rl w F' H σ ρ) (q : E.nx ρ) : Dn.nx σ H := (k ρ σ F' H le l).1 q
theorem s_nil : PSs X [] (tJS w fun ρ E => E.nx ρ) := pss_nil.imp fun Dn σ H q => by
  obtain ⟨F, ρ, l, E, q, k⟩ := q
  exact k.nx le_rfl' l q
theorem s_cons {st : Stmt} {sts : List Stmt} {f g : Rho → DE → Prop} (h1 : PS X st (tJS w f)) (h2 : PSs X sts (tJS w g)) : PSs X (st :: sts) (tJS w fun ρ E => f ρ { E with nx := fun ρ1 => g ρ1 E }) := (pss_cons h1 h2).imp fun Dn σ H q => by
  obtain ⟨F, ρ, l, E, q, k⟩ := q
  refine ⟨F, ρ, l, _, q, fun ρ' σ' F' H' le l' => ?_⟩
  obtain ⟨k1, k2, k3, k4⟩ := k ρ' σ' F' H' le l'
  exact ⟨fun q' => ⟨F', ρ', l', E, q', k.mono le⟩, k2, k3, k4⟩
theorem s_next {st : Stmt} (h : PS X st tNext) : PS X st (tJS w fun ρ E => E.nx ρ) := h.imp fun Dn σ H q => by
  obtain ⟨F, ρ, l, E, q, k⟩ := q
  exact k.nx le_rfl' l q
theorem s_brk : PS X (.Break pos) (tJS w fun ρ E => E.bk ρ) := ps_break.imp fun Dn σ H q => by
  obtain ⟨F, ρ, l, E, q, k⟩ := q
  exact (k ρ σ F H le_rfl' l).2.1 q
theorem s_cont : PS X (.Continue pos) (tJS w fun ρ E => E.ct ρ) := ps_continue.imp fun Dn σ H q => by
  obtain ⟨F, ρ, l, E, q, k⟩ := q
  exact (k ρ σ F H le_rfl' l).2.2.1 q
theorem s_nev {st : Stmt} : PS X st (tJS w fun _ _ => False) := ps_never.imp fun Dn σ H q => by
  obtain ⟨F, ρ, l, E, q, k⟩ := q
  exact q.elim
theorem s_ex {f : Rho → KR → Prop} (h : PE X e (tJ w f)) (hs : swapsWith e none pos.line X.env = pure false) : PS X (.Expr e pos) (tJS w fun ρ E => f ρ fun _ ρ1 => E.nx ρ1) := (ps_expr h hs).imp fun Dn σ H q => by
  obtain ⟨F, ρ, l, E, q, k⟩ := q
  exact ⟨F, ρ, l, _, q, fun r ρ' F' H' v le l' rr q' => k.nx le l' q'⟩
theorem s_ret {f : Rho → KR → Prop} (h : PE X e (tJ w f)) : PS X (.Return (some e) pos) (tJS w fun ρ E => f ρ E.rt) := (ps_ret h).imp fun Dn σ H q => by
  obtain ⟨F, ρ, l, E, q, k⟩ := q
  exact ⟨F, ρ, l, _, q, fun r ρ' F' H' v le l' rr q' => (k ρ' σ F' H' le l').2.2.2 r v rr q'⟩
theorem s_retn : PS X (.Return none pos) (tJS w fun ρ E => E.rt (.v .non) ρ) := ps_retN.imp fun Dn σ H q => by
  obtain ⟨F, ρ, l, E, q, k⟩ := q
  exact (k ρ σ F H le_rfl' l).2.2.2 (.v .non) .non (Rep.non' (G := w.G) (F := F)) q
theorem s_ife {ft : Rho → (Bool → Rho → Prop) → Prop} {f g : Rho → DE → Prop} {a b : List Stmt} (ht : PT X e (tJT w ft)) (ha : PSs X a (tJS w f)) (hb : PSs X b (tJS w g)) :
    PS X (.If e a b pos) (tJS w fun ρ E => ft ρ fun c ρ1 => if c = true then f ρ1 E else g ρ1 E) := (ps_if ht ha hb).imp fun Dn σ H q => by
  obtain ⟨F, ρ, l, E, q, k⟩ := q
  refine ⟨F, ρ, l, _, q, fun c ρ' F' H' le l' q' => ?_⟩
  cases c with
  | true => rw [if_pos rfl] at q' ⊢; exact ⟨F', ρ', l', E, q', k.mono le⟩
  | false => rw [if_neg Bool.false_ne_true] at q' ⊢; exact ⟨F', ρ', l', E, q', k.mono le⟩
theorem forD_w {t : Tg} {fb : Rho → DE → Prop} {tb : TS} {body : List Stmt} {J : It} {ds : List D} {G : Gd} (hw : w.G = G) (htb : tb = tJS w fb) (it : Items G J ds F) (l : Rl w F H σ ρ) (k : Fits w F E Dn) (h : forD t fb ds ρ E) (ok : List Nat → Bool) :
    ∃ W : Nat → Nat → St → Hp → Prop, (∃ m, W 0 m σ H) ∧ ∀ i m σ H, W i m σ H →
      (J.stop i H ∧ Dn.nx σ H) ∨ (J.go i H ∧ ∃ N : St → Hp → Prop, (∀ σ' H', N σ' H' → ∃ m', m' < m ∧ W (i + 1) m' σ' H') ∧ ∀ x H', J.yld i H x H' → gJ G (fun d ρ K => tgD t d ρ K) ok x σ H' fun σ2 H2 => tb { Dn with nx := N, ct := N, bk := Dn.nx } σ2 H2) := by
  subst htb
  refine ⟨fun i m σ H => m = ds.length - i ∧ i ≤ ds.length ∧ ∃ F' ρ', Le F F' ∧ Rl w F' H σ ρ' ∧ forD t fb (ds.drop i) ρ' E, ⟨ds.length, by simp, Nat.zero_le _, F, ρ, le_rfl', l, h⟩, ?_⟩
  rintro i m σ1 H1 ⟨rfl, hi, F1, ρ1, le1, l1, q⟩
  obtain ⟨i1, i2⟩ := it i F1 H1 le1 l1.le hi
  by_cases hlt : i < ds.length
  · obtain ⟨go, y⟩ := i2 ds[i] (by simp [hlt])
    refine .inr ⟨go, fun σ' H' => i < ds.length ∧ ∃ F' ρ', Le F F' ∧ Rl w F' H' σ' ρ' ∧ forD t fb (ds.drop (i + 1)) ρ' E, fun σ' H' p' => ⟨ds.length - (i + 1), by omega, rfl, hlt, p'.2⟩, fun x H2 y2 => ?_⟩
    obtain ⟨F2, gr, rp⟩ := y x H2 y2
    rw [List.drop_eq_getElem_cons hlt] at q
    simp only [forD] at q
    refine ⟨w, F2, ρ1, ds[i], hw, l1.grow gr, rp, _, q, fun ρ' σ' l' _ q' => ?_⟩
    refine ⟨F2, ρ', l', _, q', fun ρ'' σ'' F'' H'' le'' l'' => ?_⟩
    have le3 : Le F F'' := le_tr le1 (le_tr gr.fm le'')
    obtain ⟨k1, k2, k3, k4⟩ := k ρ'' σ'' F'' H'' le3 l''
    exact ⟨fun q => ⟨hlt, F'', ρ'', le3, l'', q⟩, k1, fun q => ⟨hlt, F'', ρ'', le3, l'', q⟩, k4⟩
  · have e0 : i = ds.length := by omega
    rw [e0, List.drop_length] at q
    exact .inl ⟨i1 e0, k.nx le1 l1 q⟩
theorem s_for {t : Tg} {fi : Rho → (List D → Rho → Prop) → Prop} {fb : Rho → DE → Prop} {body : List Stmt} {iter : Expr} {ok : List Nat → Bool} (hp : PassesOwn (model X.prog X.w) X.A X.env X.xe) (g : XG S w.G sc X) (hpl : plainE iter = true)
    (hi : PI X tg iter (tJI w fi)) (hg : PG X tg (gJ w.G (fun d ρ K => tgD t d ρ K) ok)) (hb : PSs X body (tJS w fb)) : PS X (.For tg iter body [] pos) (tJS w fun ρ E => fi ρ fun ds ρ1 => forD t fb ds ρ1 E) :=
  (ps_for hp g.calm hi hg hb (set_plain hpl)).imp fun Dn σ H q => by
    obtain ⟨F, ρ, l, E, q, k⟩ := q
    exact ⟨F, ρ, l, _, q, fun ds ρ' F' H' J le l' it q' => forD_w (body := body) rfl rfl it l' (k.mono le) q' ok⟩
theorem s_while {ft : Rho → (Bool → Rho → Prop) → Prop} {fb : Rho → DE → Prop} {body : List Stmt} (hp : PassesOwn (model X.prog X.w) X.A X.env X.xe) (ht : PT X e (tJT w ft)) (hb : PSs X body (tJS w fb)) :
    PS X (.While e body [] pos) (tJS w fun ρ E => ∃ I : Nat → Rho → Prop, (∃ m, I m ρ) ∧ ∀ m ρ, I m ρ → ft ρ fun c ρ1 =>
      if c = true then fb ρ1 { E with nx := fun ρ2 => ∃ m', m' < m ∧ I m' ρ2, ct := fun ρ2 => ∃ m', m' < m ∧ I m' ρ2, bk := E.nx } else E.nx ρ1) :=
  (ps_while hp ht hb).imp fun Dn σ H q => by
    obtain ⟨F, ρ, l, E, ⟨I, ⟨m0, i0⟩, q⟩, k⟩ := q
    refine ⟨fun m σ H => ∃ F' ρ', Le F F' ∧ Rl w F' H σ ρ' ∧ I m ρ', ⟨m0, F, ρ, le_rfl', l, i0⟩, ?_⟩
    rintro m σ1 H1 ⟨F1, ρ1, le1, l1, i1⟩
    refine ⟨F1, ρ1, l1, _, q m ρ1 i1, fun c ρ2 F2 H2 le2 l2 q2 => ?_⟩
    cases c with
    | false => rw [if_neg Bool.false_ne_true] at q2 ⊢; exact k.nx (le_tr le1 le2) l2 q2
    | true =>
      rw [if_pos rfl] at q2 ⊢
      refine ⟨fun σ' H' => ∃ m', m' < m ∧ ∃ F' ρ', Le F F' ∧ Rl w F' H' σ' ρ' ∧ I m' ρ', fun σ' H' ⟨m', hm, q'⟩ => ⟨m', hm, q'⟩, F2, ρ2, l2, _, q2, fun ρ3 σ3 F3 H3 le3 l3 => ?_⟩
      have le4 : Le F F3 := le_tr le1 (le_tr le2 le3)
      obtain ⟨k1, k2, k3, k4⟩ := k ρ3 σ3 F3 H3 le4 l3
      exact ⟨fun ⟨m', hm, q'⟩ => ⟨m', hm, F3, ρ3, le4, l3, q'⟩, k1, fun ⟨m', hm, q'⟩ => ⟨m', hm, F3, ρ3, le4, l3, q'⟩, k4⟩
/-- the store of a value that is an expression's -/
theorem setR_rl {i : Nat} {r : R} {K : Rho → Prop} (l : Rl w F H σ ρ) (rr : RelR w F H σ ρ v r) (h : setR ρ i r K) : ∃ F' ρ', Le F F' ∧ Rl w F' H (σ.set i (some v)) ρ' ∧ K ρ' := by
  cases r with
  | v d => exact ⟨F, _, le_rfl', l.set (par_open l h.1) rr, h.2⟩
  | n xs =>
    obtain ⟨p, vs, rfl, ha, rl, hF, h0, hf, fr⟩ := rr
    exact ⟨F, _, le_rfl', l.setow (par_open l h.1) ha rl hF h0 hf fr, h.2⟩
  | pl j =>
    obtain ⟨d, F', ρ', le, l', rp, h⟩ := frz_rel (r := .pl j) l rr (show frz ρ (.pl j) (fun d ρ' => open? ρ' i = true ∧ K (ρ'.set i (.fz d))) from h)
    exact ⟨F', _, le, l'.set (par_open l' h.1) rp, h.2⟩
theorem s_set {i : Nat} {f : Rho → KR → Prop} {st : Stmt} (h : PS X st (tAsg (tJ w f) (gName i))) : PS X st (tJS w fun ρ E => f ρ fun r ρ1 => setR ρ1 i r E.nx) := h.imp fun Dn σ H q => by
  obtain ⟨F, ρ, l, E, q, k⟩ := q
  refine ⟨F, ρ, l, _, q, fun r ρ' F' H' v le l' rr q' => ?_⟩
  obtain ⟨F2, ρ2, le2, l2, q2⟩ := setR_rl l' rr q'
  exact k.nx (le_tr le le2) l2 q2
theorem s_tgt {t : Tg} {f : Rho → KR → Prop} {ok : List Nat → Bool} {st : Stmt} (h : PS X st (tAsg (tJ w f) (gJ w.G (fun d ρ K => tgD t d ρ K) ok))) : PS X st (tJS w fun ρ E => f ρ fun r ρ1 => frz ρ1 r.stl fun d ρ2 => tgD t d ρ2 E.nx) := h.imp fun Dn σ H q => by
  obtain ⟨F, ρ, l, E, q, k⟩ := q
  refine tJ_settled l q fun x ρ1 F1 H1 v le1 l1 rx h1 => ?_
  obtain ⟨d, F2, ρ2, le2, l2, rp, h2⟩ := frz_rel l1 rx h1
  exact ⟨w, F2, ρ2, d, rfl, l2, rp, _, h2, fun ρ' σ' l' _ q' => k.nx (le_tr le1 le2) l' q'⟩
theorem s_par {i j : Nat} {f : Rho → (List D → Rho → Prop) → Prop} {st : Stmt} (h : PS X st (tPar i j (tJA w f))) : PS X st (tJS w fun ρ E => f ρ fun ds ρ1 => match ds with
    | [d, e] => (open? ρ1 i = true ∧ open? ρ1 j = true) ∧ E.nx ((ρ1.set i (.fz d)).set j (.fz e))
    | _ => False) := h.imp fun Dn σ H q => by
  obtain ⟨F, ρ, l, E, q, k⟩ := q
  refine ⟨F, ρ, l, _, q, fun ds ρ1 F1 H1 vs le1 l1 rl q1 => ?_⟩
  split at q1
  · rename_i d e
    obtain ⟨v, r, rfl, rv, rl⟩ := rl.inv
    obtain ⟨u, r, rfl, ru, rl⟩ := rl.inv
    have := rl.nil_inv
    subst this
    have l2 := (l1.set (par_open l1 q1.1.1) rv).set (i := j) (par_open l1 q1.1.2) ru
    exact ⟨v, u, rfl, k.nx le1 l2 q1.2⟩
  · exact q1.elim
theorem ow_write {i : Nat} {b : Bool} {xs ys : List D} {a : Addr} {us : List V} (l : Rl w F H σ ρ) (e : ρ[i]? = some (Sl.ow b xs)) (es : σ[i]? = some (some (V.ref a))) (rl : RepL w.G F us ys) : Rl w F (upd H a (.lst us)) σ (ρ.set i (Sl.ow b ys)) := l.write e es rl
theorem ow_has {i : Nat} {b : Bool} {xs : List D} {a : Addr} (l : Rl w F H σ ρ) (e : ρ[i]? = some (Sl.ow b xs)) (es : σ[i]? = some (some (V.ref a))) : ∃ vs, H a = some (.lst vs) ∧ RepL w.G F vs xs := by
  obtain ⟨a', vs, es', ha, rl, _⟩ := l.sl i _ e
  rw [es] at es'
  injection es' with q; injection q with q; injection q with q
  subst q
  exact ⟨vs, ha, rl⟩
theorem isOw_ex {i : Nat} (h : isOw ρ i = true) : ∃ b xs, ρ[i]? = some (Sl.ow b xs) := by
  unfold isOw at h
  split at h
  · exact ⟨_, _, ‹_›⟩
  · cases h
/-- xs[k] = c -/
theorem s_seti {i : Nat} {fc fk : Rho → KR → Prop} {st : Stmt} (h : PS X st (tAsg (tJ w fc) (gSub (tVar i) (tJ w fk) rSetL))) : PS X st (tJS w fun ρ E => fc ρ fun x ρ1 => frz ρ1 x.stl fun d ρ2 => isOw ρ2 i = true ∧ fk ρ2 fun y ρ3 => match y, ρ3[i]? with
    | .v (.int n), some (.ow b xs) => ∃ j, ixN xs.length n = some j ∧ E.nx (ρ3.set i (.ow b (xs.set j d)))
    | _, _ => False) := h.imp fun Dn σ H q => by
  obtain ⟨F, ρ, l, E, q, k⟩ := q
  refine tJ_settled l q fun x ρ1 F1 H1 v le1 l1 rx h1 => ?_
  obtain ⟨d, F2, ρ2, le2, l2, rp, h0, h2⟩ := frz_rel l1 rx h1
  obtain ⟨a, es⟩ := ow_at l2 h0
  refine ⟨.ref a, es, F2, ρ2, l2, _, h2, fun y ρ3 F3 H3 u le3 l3 ry h3 => ?_⟩
  split at h3
  · rename_i n b xs e
    obtain ⟨j, hj, q3⟩ := h3
    obtain ⟨vs, ha, rl⟩ := ow_has l3 e es
    simp only [RelR, Rep] at ry
    subst ry
    refine ⟨a, vs, n, j, rfl, rfl, ha, by rw [rl.length]; exact hj, ?_⟩
    exact k.nx (le_tr le1 (le_tr le2 le3)) (l3.write e es (rl.set j (Rep.mono le3 _ _ rp))) q3
  · exact h3.elim
/-- xs[k] by values -/
def rGetL (K : PySem.W.Frag) : V → V → Hp → VK → Prop := fun x y H Q => ∃ p xs i v, x = .ref p ∧ y = .int i ∧ SqL K H p xs ∧ atI xs i = some v ∧ Q v H
theorem get_list : PGet X (rGetL X.K) := by
  intro pins s σ H x y v u Q I rx ry h
  obtain ⟨p, xs, i, z, rfl, rfl, hq, he, q⟩ := h
  cases rx
  obtain ⟨t, rfl⟩ := ry
  obtain ⟨its, r, pl, hz⟩ := I.list hq
  obtain ⟨j, h1, h2, h3, h4, h5⟩ := atI_get he
  obtain ⟨w, ew, rw'⟩ := r.get h2
  have hl := r.length
  have hn := line63
  have fin : EP X pins σ Q w s := ⟨z, H, I, rw', q⟩
  by_cases h0 : 0 ≤ i
  · have hj : i.toNat = j := by
      rw [seqIndex_of h0 h5] at h1
      exact Option.some.inj h1
    exact wpAny_getItem_list (x := w) pl.isList h0 (by omega) (by rw [hj]; simpa using ew) fin
  · have hj : (i + (its.toArray.size : Int)).toNat = j := by
      rw [seqIndex_neg (by omega) h4] at h1
      rw [List.size_toArray, ← hl]
      exact Option.some.inj h1
    exact wpAny_getItem_list_neg pl.isList (by omega) (by rw [List.size_toArray] <;> omega) (by omega) (by rw [hj]; simpa using ew) fin
theorem atI_rep {G : Gd} {F : Hp} {vs : List V} {xs : List D} {n : Int} {m : D} (rl : RepL G F vs xs) (h : atI xs n = some m) : ∃ v, atI vs n = some v ∧ Rep G F v m := by
  unfold atI at h ⊢
  rw [rl.length]
  cases e : ixN xs.length n with
  | none => rw [e] at h; simp at h
  | some j =>
    rw [e] at h
    exact rl.get h
theorem s_augi {i : Nat} {fc fk : Rho → KR → Prop} {st : Stmt} (hK : w.G.K = X.K) (h : PS X st (tAugS (tVar i) (tJ w fk) (tJ w fc) (rGetL X.K) (ipI fun i j => i + j) rSetL)) : PS X st (tJS w fun ρ E => isOw ρ i = true ∧ fk ρ fun y ρ1 => match y, ρ1[i]? with
    | .v (.int n), some (.ow _ xs) => ∃ m, atI xs n = some (.int m) ∧ fc ρ1 fun z ρ2 => match z, ρ2[i]? with
      | .v (.int l), some (.ow b ys) => ∃ j, ixN ys.length n = some j ∧ E.nx (ρ2.set i (.ow b (ys.set j (.int (m + l)))))
      | _, _ => False
    | _, _ => False) := h.imp fun Dn σ H q => by
  obtain ⟨F, ρ, l, E, ⟨h0, q⟩, k⟩ := q
  obtain ⟨a, es⟩ := ow_at l h0
  refine ⟨.ref a, es, F, ρ, l, _, q, fun y ρ1 F1 H1 u le1 l1 ry h1 => ?_⟩
  split at h1
  · rename_i n b xs e
    obtain ⟨m, hm, q1⟩ := h1
    obtain ⟨vs, ha, rl⟩ := ow_has l1 e es
    simp only [RelR, Rep] at ry
    subst ry
    obtain ⟨v, hv, rv⟩ := atI_rep rl hm
    simp only [Rep] at rv
    subst rv
    refine ⟨a, vs, n, _, rfl, rfl, SqL.of ha, hv, F1, ρ1, l1, _, q1, fun z ρ2 F2 H2 u2 le2 l2 rz h2 => ?_⟩
    split at h2
    · rename_i l' b2 ys e2
      obtain ⟨j, hj, q3⟩ := h2
      obtain ⟨vs2, ha2, rl2⟩ := ow_has l2 e2 es
      simp only [RelR, Rep] at rz
      subst rz
      refine ⟨m, l', rfl, rfl, a, vs2, n, j, rfl, rfl, ha2, by rw [rl2.length]; exact hj, ?_⟩
      exact k.nx (le_tr le1 le2) (l2.write e2 es (rl2.set j (Rep.int' _))) q3
    · exact h2.elim
  · exact h1.elim
theorem s_aug {i : Nat} {fc : Rho → KR → Prop} {st : Stmt} (h : PS X st (tAug i (tJ w fc) (ipI fun i j => i + j))) : PS X st (tJS w fun ρ E => match ρ[i]? with
    | some (.fz dx) => fc ρ fun y ρ1 => rdr ρ1 y.stl fun dy => match dx, dy with
      | .int m, .int l => open? ρ1 i = true ∧ E.nx (ρ1.set i (.fz (.int (m + l))))
      | _, _ => False
    | _ => False) := h.imp fun Dn σ H q => by
  obtain ⟨F, ρ, l, E, q, k⟩ := q
  split at q
  · rename_i dx e
    obtain ⟨v, es, rp⟩ := l.sl i _ e
    refine ⟨v, es, tJ_settled l q fun y ρ1 F1 H1 u le1 l1 ry h1 => ?_⟩
    obtain ⟨dy, rd, h1⟩ := rdr_rel l1 ry h1
    cases dx with
    | int m =>
      cases dy with
      | int l' =>
        have rd : Rep w.G F1 u (.int l') := rd
        simp only [Rep] at rp rd
        subst rp
        subst rd
        exact ⟨m, l', rfl, rfl, k.nx le1 (l1.set (par_open l1 h1.1) (Rep.int' _)) h1.2⟩
      | _ => exact (show False from h1).elim
    | _ => exact (show False from h1).elim
  · exact q.elim
theorem s_app {i : Nat} {fc : Rho → KR → Prop} {st : Stmt} (hK : w.G.K = X.K) (h : PS X st (tDrop (tBM X.K "list" rAppend (tVar i) (tJA w fun ρ K => fc ρ fun x ρ1 => frz ρ1 x.stl fun d ρ2 => (fun ρ K => K [] ρ) ρ2 fun ds ρ3 => K (d :: ds) ρ3)))) :
    PS X st (tJS w fun ρ E => isOw ρ i = true ∧ fc ρ fun x ρ1 => frz ρ1 x.stl fun d ρ2 => match ρ2[i]? with
    | some (.ow b xs) => xs.length < sizeLine ∧ E.nx (ρ2.set i (.ow b (xs ++ [d])))
    | _ => False) := h.imp fun Dn σ H q => by
  obtain ⟨F, ρ, l, E, ⟨h0, q⟩, k⟩ := q
  obtain ⟨b, xs, e⟩ := isOw_ex h0
  obtain ⟨a, vs, es, ha, _⟩ := l.sl i _ e
  refine ⟨.ref a, es, .inl ⟨rfl, vs, SqL.of ha⟩, F, ρ, l, fun ds ρ2 => match ds with
    | [d] => (match ρ2[i]? with
      | some (.ow b xs) => xs.length < sizeLine ∧ E.nx (ρ2.set i (.ow b (xs ++ [d])))
      | _ => False)
    | _ => False, q, fun ds ρ1 F1 H1 us le1 l1 rl q1 => ?_⟩
  cases ds with
  | nil => exact (show False from q1).elim
  | cons d r => cases r with
    | cons _ _ => exact (show False from q1).elim
    | nil =>
      have q1 : (match ρ1[i]? with
        | some (.ow b xs) => xs.length < sizeLine ∧ E.nx (ρ1.set i (.ow b (xs ++ [d])))
        | _ => False) := q1
      split at q1
      · rename_i b xs e
        obtain ⟨vs, ha, rl2⟩ := ow_has l1 e es
        obtain ⟨u, r, rfl, ru, rl⟩ := rl.inv
        have := rl.nil_inv
        subst this
        refine ⟨a, vs, u, rfl, rfl, ha, by rw [rl2.length]; exact q1.1, k.nx le1 (l1.write e es (rl2.append (.cons ru .nil))) q1.2⟩
      · exact q1.elim
/-- the frame of a def -/
structure XS (S : Sg) (G : Gd) (sc : Scope) (X : Cx) : Prop extends XG S G sc X where
  hp : PassesOwn (model X.prog X.w) X.A X.env X.xe
  bk : X.env.blockKind = .function
  cx : ∀ (k : Nat) (c : Str × Str), S.cs[k]? = some c → ClX X (G.cl k) c.1 c.2 ∧ Room 3 X.A
def isComp (e : Expr) : Prop := (∃ elt gens scope q, e = .ListComp elt gens scope q) ∨ (∃ elt gens scope q, e = .SetComp elt gens scope q) ∨ ∃ k v gens scope q, e = .DictComp k v gens scope q
theorem swap_cases (e : Expr) (p : Pos) (x : Str) (ln : Nat) (env : Env) : swapsWith e (some (.Name x p)) ln env = pure false ∨ (swapsWith e (some (.Name x p)) ln env = pure true ∧ env.scope.names.lookup x = some .local ∧ isComp e) := by
  have fin : ∀ (scope : Scope) (q : Pos), isComp e → (let b := env.blockKind == .function && env.kindOf x == some .local && p.line == q.line && !(scope.names.any fun (n, k) => n == x && (k == .local || k == .cell)); (pure b : Sem Bool) = pure false ∨ ((pure b : Sem Bool) = pure true ∧ env.scope.names.lookup x = some .local ∧ isComp e)) := fun scope q ic => by
    intro b
    cases hb : b with
    | false => exact .inl rfl
    | true =>
      refine .inr ⟨rfl, ?_, ic⟩
      simp only [b, Bool.and_eq_true, beq_iff_eq] at hb
      exact hb.1.1.2
  cases e <;> first
    | exact .inl rfl
    | exact fin _ _ (.inl ⟨_, _, _, _, rfl⟩)
    | exact fin _ _ (.inr (.inl ⟨_, _, _, _, rfl⟩))
    | exact fin _ _ (.inr (.inr ⟨_, _, _, _, _, rfl⟩))
theorem mE_lc {N : List Str} {c : C} (h : mE S N sc c e = true) (ic : isComp e) : (∃ own t it ifs c', c = .comp own t it ifs c') ∧ ∃ elt gens scope q, e = .ListComp elt gens scope q := by
  rcases ic with ⟨_, _, _, _, rfl⟩ | ⟨_, _, _, _, rfl⟩ | ⟨_, _, _, _, _, rfl⟩
  · exact ⟨by cases c <;> first | exact ⟨_, _, _, _, _, rfl⟩ | simp [mE] at h, _, _, _, _, rfl⟩
  · cases c <;> simp [mE] at h
  · cases c <;> simp [mE] at h
theorem ne_starred {a : Expr} (h : plainE a = true) : (match a with | .Starred .. => true | _ => false) = false := by
  cases a <;> first | rfl | exact absurd h (by simp [plainE])
theorem swapped_par {x y : Str} {px py pt : Pos} {kt k2 : Nat} {pt2 : Pos} {env : Env} (hb : env.blockKind = .function) (hx : env.scope.names.lookup x = some .local) (hy : env.scope.names.lookup y = some .local) (hl : px.line = py.line) (hne : x ≠ y)
    (hf : (!foldedForSure 8 ea || !foldedForSure 8 eb) = true) (hc : (!constantsAlone 8 ea || !constantsAlone 8 eb) = true) (ha : plainE ea = true) (hb' : plainE eb = true) :
    swappedStores [.Tuple [.Name x px, .Name y py] kt pt] (.Tuple [ea, eb] k2 pt2) env = pure (some [x, y]) := by
  have kx : env.kindOf x = some .local := hx
  have ky : env.kindOf y = some .local := hy
  have hf : (foldedForSure 8 ea && foldedForSure 8 eb) = false := by
    cases h1 : foldedForSure 8 ea <;> cases h2 : foldedForSure 8 eb <;> simp_all
  have hc : (constantsAlone 8 ea && constantsAlone 8 eb) = false := by
    cases h1 : constantsAlone 8 ea <;> cases h2 : constantsAlone 8 eb <;> simp_all
  have hne' : (y == x) = false := by simpa using fun z : y = x => hne z.symm
  have hp : (Expr.Name x px).pos = px := rfl
  simp [swappedStores, hb, kx, ky, hl, hf, hc, List.eraseDups_cons, hne']
  rw [if_neg]
  · simp [hp, kx, ky, hl, List.eraseDups_cons, hne']
  · rintro (h | h)
    · cases ea <;> first | exact absurd h Bool.false_ne_true | exact absurd ha (by simp [plainE])
    · cases eb <;> first | exact absurd h Bool.false_ne_true | exact absurd hb' (by simp [plainE])
end

section
variable {S : Sg} {G : Gd} {X : Cx} {w : Wd} {sc : Scope} {xp : XP}
theorem q_set {i : Nat} {c : C} (g : XS S G sc X) (fc : FnCs S G X) (hw : w.G = G) (hx : XOk S X w xp) {st : Stmt} (h : mS S X.N sc (.set i c) st = true) : PS X st (tJS w fun ρ E => iS S xp (.set i c) ρ E) := by
  have hst : ∃ x px e p, st = .Assign [.Name x px] e p := by
    cases st <;> first
      | (rename_i ts e p
         cases ts with
         | nil => simp [mS] at h
         | cons t0 r => cases t0 <;> cases r <;> first | exact ⟨_, _, _, _, rfl⟩ | simp [mS] at h)
      | simp [mS] at h
  obtain ⟨x, px, e, p, rfl⟩ := hst
  simp only [mS, Bool.and_eq_true, decide_eq_true_eq] at h
  obtain ⟨⟨⟨h1, h2⟩, h3⟩, h4⟩ := h
  obtain ⟨l1, l2⟩ := g.toXG.loc h2
  simp only [iS]
  rcases swap_cases e px x p.line X.env with hs | ⟨hs, hl, ic⟩
  · exact s_set (ps_set g.nd h1 l1 (sE c g.toXG fc h4 w xp hw hx) hs l2)
  · obtain ⟨⟨own, t, it, ifs, c', rfl⟩, elt, gens, scope, q, rfl⟩ := mE_lc h4 ic
    cases gens with
    | nil => simp [mE] at h4
    | cons g0 gs =>
      cases gs with
      | cons _ _ => obtain ⟨tg, iter, is, asy⟩ := g0; simp [mE] at h4
      | nil =>
        obtain ⟨tg, iter, is, asy⟩ := g0
        have e0 : asy = 0 := by
          by_cases z : asy = 0
          · exact z
          · simp [mE, z] at h4
        subst e0
        simp only [mE, Bool.and_eq_true] at h4
        obtain ⟨⟨⟨⟨⟨⟨k1, k2⟩, k3⟩, k4⟩, k5⟩, k6⟩, k7⟩ := h4
        have k7 := of_decide_eq_true k7
        subst hw
        refine s_set (f := fun ρ K => iE S xp (.comp own t it ifs c') ρ K) ((ps_setLc g.calm g.nd h1 hl hs (sI it g.toXG fc k3 w xp rfl hx) (blk_ok g.toXG k1)
          (fun s H C cl fp => g_ok (w := w) (X := X.blk s H scope (compEnvC scope cl C X.env) fp) (xg_blk g.toXG) rfl t tg k4)
          (fun s H C cl fp => pts_ex fun w' hw' => sTs ifs (X := X.blk s H scope (compEnvC scope cl C X.env) fp) (xg_blk g.toXG) (fun i e he => fc i e he) k5 w' _ hw' (xok_never (blk_quiet k7)))
          (fun s H C cl fp => pe_ex fun w' hw' => sE c' (X := X.blk s H scope (compEnvC scope cl C X.env) fp) (xg_blk g.toXG) (fun i e he => fc i e he) k6 w' _ hw' (xok_never (blk_quiet k7)))
          (set_plain k2)).imp fun Dn σ H q => ?_)
        simp only [iE] at q
        exact lc_data (wi := tJI w fun ρ K => iI S xp it ρ K) q
theorem swap_folded {es vs : List Expr} {k k2 : Nat} {p p2 : Pos} {env : Env} (h : vs.all (foldedForSure 8) = true) : swappedStores [.Tuple es k p] (.Tuple vs k2 p2) env = pure none := by
  unfold swappedStores
  simp only [h]
  repeat (first | rfl | split)
theorem q_tgt {t : Tg} {c : C} (g : XS S G sc X) (fc : FnCs S G X) (hw : w.G = G) (hx : XOk S X w xp) {st : Stmt} (h : mS S X.N sc (.tgt t c) st = true) : PS X st (tJS w fun ρ E => iS S xp (.tgt t c) ρ E) := by
  have hst : ∃ es k p e pos, st = .Assign [.Tuple es k p] e pos := by
    cases st <;> first
      | (rename_i ts e p
         cases ts with
         | nil => simp [mS] at h
         | cons t0 r => cases t0 <;> cases r <;> first | exact ⟨_, _, _, _, _, rfl⟩ | simp [mS] at h)
      | simp [mS] at h
  obtain ⟨es, k, p, e, pos, rfl⟩ := hst
  simp only [mS, Bool.and_eq_true] at h
  obtain ⟨⟨⟨h1, h2⟩, h3⟩, h4⟩ := h
  simp only [iS]
  subst hw
  refine s_tgt (ps_asg (sE c g.toXG fc h4 w xp rfl hx) (g_ok g.toXG rfl t _ h3) ?_ ?_)
  · cases e <;> rfl
  · cases e <;> first | rfl | exact absurd h2 Bool.false_ne_true | exact swap_folded h2
theorem q_par {i j : Nat} {a b : C} (g : XS S G sc X) (fc : FnCs S G X) (hw : w.G = G) (hx : XOk S X w xp) {st : Stmt} (h : mS S X.N sc (.par i j a b) st = true) : PS X st (tJS w fun ρ E => iS S xp (.par i j a b) ρ E) := by
  have hst : ∃ x px y py k p ea eb k2 p2 pos, st = .Assign [.Tuple [.Name x px, .Name y py] k p] (.Tuple [ea, eb] k2 p2) pos := by
    unfold mS at h
    split at h <;> first | exact absurd h Bool.false_ne_true | skip
    all_goals first | exact ⟨_, _, _, _, _, _, _, _, _, _, _, rfl⟩ | simp_all
  obtain ⟨x, px, y, py, k, p, ea, eb, k2, p2, pos, rfl⟩ := hst
  simp only [mS, Bool.and_eq_true, decide_eq_true_eq] at h
  obtain ⟨⟨⟨⟨⟨⟨⟨⟨⟨⟨⟨h1, h2⟩, h3⟩, h4⟩, h5⟩, h6⟩, h7⟩, h8⟩, h9⟩, h10⟩, h11⟩, h12⟩ := h
  have lx : X.env.scope.names.lookup x = some .local := by
    rcases g.scr x _ h4 with q | ⟨q, _⟩
    · exact q
    · cases q
  have ly : X.env.scope.names.lookup y = some .local := by
    rcases g.scr y _ h5 with q | ⟨q, _⟩
    · exact q
    · cases q
  have hne : x ≠ y := fun z => by
    subst z
    have hi := (List.getElem?_eq_some_iff.mp h1).1
    have hj := (List.getElem?_eq_some_iff.mp h2).1
    exact h3 ((List.getElem?_inj hi g.nd).mp (h1.trans h2.symm))
  simp only [iS]
  subst hw
  have ha := ja_cons h9 (sE a g.toXG fc h11 w xp rfl hx) (ja_cons h10 (sE b g.toXG fc h12 w xp rfl hx) (ja_nil (w := w)))
  exact s_par (ps_par g.calm g.nd h1 h2 h3 lx ly ha (swapped_par g.bk lx ly h6 hne h7 h8 h9 h10))
theorem q_seti {i : Nat} {k c : C} (g : XS S G sc X) (fc : FnCs S G X) (hw : w.G = G) (hx : XOk S X w xp) {st : Stmt} (h : mS S X.N sc (.seti i k c) st = true) : PS X st (tJS w fun ρ E => iS S xp (.seti i k c) ρ E) := by
  have hst : ∃ x px ek p e pos, st = .Assign [.Subscript (.Name x px) ek p] e pos := by
    unfold mS at h
    split at h <;> first | exact absurd h Bool.false_ne_true | skip
    all_goals first | exact ⟨_, _, _, _, _, _, rfl⟩ | simp_all
  obtain ⟨x, px, ek, p, e, pos, rfl⟩ := hst
  simp only [mS, Bool.and_eq_true, decide_eq_true_eq] at h
  obtain ⟨⟨⟨⟨⟨⟨⟨h1, h2⟩, h3⟩, h4⟩, h5⟩, h6⟩, h7⟩, h8⟩ := h
  simp only [iS]
  subst hw
  refine s_seti (ps_asg (sE c g.toXG fc h8 w xp rfl hx) (pg_sub (pe_var h1 (g.toXG.vis h2) (noDb_1 h3) (noDb_2 h3)) (sE k g.toXG fc h7 w xp rfl hx) set_list ?_) ?_ ?_)
  · cases ek <;> first | (intro _; rfl) | exact absurd h4 (by simp [plainE])
  · cases e <;> rfl
  · cases e <;> rfl
theorem q_augi {i : Nat} {k c : C} (g : XS S G sc X) (fc : FnCs S G X) (hw : w.G = G) (hx : XOk S X w xp) {st : Stmt} (h : mS S X.N sc (.augi i k c) st = true) : PS X st (tJS w fun ρ E => iS S xp (.augi i k c) ρ E) := by
  have hst : ∃ x px ek p e pos, st = .AugAssign (.Subscript (.Name x px) ek p) .Add e pos := by
    unfold mS at h
    split at h <;> first | exact absurd h Bool.false_ne_true | skip
    all_goals first | exact ⟨_, _, _, _, _, _, rfl⟩ | simp_all
  obtain ⟨x, px, ek, p, e, pos, rfl⟩ := hst
  simp only [mS, Bool.and_eq_true, decide_eq_true_eq] at h
  obtain ⟨⟨⟨⟨⟨h1, h2⟩, h3⟩, h4⟩, h5⟩, h6⟩ := h
  simp only [iS]
  subst hw
  refine s_augi g.K (ps_augS (pe_var h1 (g.toXG.vis h2) (noDb_1 h3) (noDb_2 h3)) (sE k g.toXG fc h5 w xp rfl hx) get_list (sE c g.toXG fc h6 w xp rfl hx) ip_add set_list ?_)
  cases ek <;> first | (intros; rfl) | exact absurd h4 (by simp [plainE])
theorem q_aug {i : Nat} {c : C} (g : XS S G sc X) (fc : FnCs S G X) (hw : w.G = G) (hx : XOk S X w xp) {st : Stmt} (h : mS S X.N sc (.aug i c) st = true) : PS X st (tJS w fun ρ E => iS S xp (.aug i c) ρ E) := by
  have hst : ∃ x px e pos, st = .AugAssign (.Name x px) .Add e pos := by
    unfold mS at h
    split at h <;> first | exact absurd h Bool.false_ne_true | skip
    all_goals first | exact ⟨_, _, _, _, rfl⟩ | simp_all
  obtain ⟨x, px, e, pos, rfl⟩ := hst
  simp only [mS, Bool.and_eq_true, decide_eq_true_eq] at h
  obtain ⟨⟨h1, h2⟩, h3⟩ := h
  obtain ⟨l1, l2⟩ := g.toXG.loc h2
  simp only [iS]
  exact s_aug (ps_aug g.nd h1 l1 (sE c g.toXG fc h3 w xp hw hx) ip_add l2)
theorem q_app {i : Nat} {c : C} (g : XS S G sc X) (fc : FnCs S G X) (hw : w.G = G) (hx : XOk S X w xp) {st : Stmt} (h : mS S X.N sc (.app i c) st = true) : PS X st (tJS w fun ρ E => iS S xp (.app i c) ρ E) := by
  have hst : ∃ x px m ap e cp p, st = .Expr (.Call (.Attribute (.Name x px) m ap) [e] [] cp) p := by
    unfold mS at h
    split at h <;> first | exact absurd h Bool.false_ne_true | skip
    all_goals first | exact ⟨_, _, _, _, _, _, _, rfl⟩ | simp_all
  obtain ⟨x, px, m, ap, e, cp, p, rfl⟩ := hst
  simp only [mS, Bool.and_eq_true, decide_eq_true_eq] at h
  obtain ⟨⟨⟨⟨⟨⟨h1, rfl⟩, h2⟩, h3⟩, h4⟩, h5⟩, h6⟩ := h
  simp only [iS]
  subst hw
  have ha := ja_cons h5 (sE c g.toXG fc h6 w xp rfl hx) (ja_nil (w := w))
  refine s_app g.K (ps_expr (pe_bm PySem.F.plainAttrs_list PySem.F.slot_list_append PySem.F.type_list_append (fun pins s σ H x xs v us Q I r rs q => mt_append pins s σ H x xs v us Q I r rs q) (pe_var h2 (g.toXG.vis h3) (noDb_1 h4) (noDb_2 h4)) ha rfl ?_ h1 (star_plain h5) rfl) rfl)
  rw [star_plain h5]; rfl
end
end DL

/-! DZ: statements are sound; a def keeps its contract. -/
namespace DL
open PySem L2

mutual
theorem qS {S : Sg} {G : Gd} {sc : Scope} {xp : XP} : ∀ (s : Sm) {X : Cx} {st : Stmt}, XS S G sc X → FnCs S G X → mS S X.N sc s st = true → ∀ (w : Wd), w.G = G → XOk S X w xp → PS X st (tJS w fun ρ E => iS S xp s ρ E)
  | .set i c, X, st, g, fc, h, w, hw, hx => q_set g fc hw hx h
  | .tgt t c, X, st, g, fc, h, w, hw, hx => q_tgt g fc hw hx h
  | .par i j a b, X, st, g, fc, h, w, hw, hx => q_par g fc hw hx h
  | .seti i k c, X, st, g, fc, h, w, hw, hx => q_seti g fc hw hx h
  | .augi i k c, X, st, g, fc, h, w, hw, hx => q_augi g fc hw hx h
  | .aug i c, X, st, g, fc, h, w, hw, hx => q_aug g fc hw hx h
  | .app i c, X, st, g, fc, h, w, hw, hx => q_app g fc hw hx h
  | .ex c, X, st, g, fc, h, w, hw, hx => by
    cases st with
    | Expr e p =>
      simp only [mS, Bool.and_eq_true] at h
      simp only [iS]
      exact s_ex (sE c g.toXG fc h.2 w xp hw hx) (by cases e <;> first | rfl | exact absurd h.1 Bool.false_ne_true)
    | _ => simp [mS] at h
  | .ret c, X, st, g, fc, h, w, hw, hx => by
    cases st with
    | Return e p =>
      cases e with
      | none => simp [mS] at h
      | some e =>
        simp only [mS] at h
        simp only [iS]
        exact s_ret (sE c g.toXG fc h w xp hw hx)
    | _ => simp [mS] at h
  | .retn, X, st, g, fc, h, w, hw, hx => by
    cases st with
    | Return e p =>
      cases e with
      | some _ => simp [mS] at h
      | none =>
        simp only [iS]
        exact s_retn
    | _ => simp [mS] at h
  | .ife t a b, X, st, g, fc, h, w, hw, hx => by
    cases st with
    | If et ea eb p =>
      simp only [mS, Bool.and_eq_true] at h
      simp only [iS]
      exact s_ife (sT t g.toXG fc h.1.1 w xp hw hx) (qSs a g fc h.1.2 w hw hx) (qSs b g fc h.2 w hw hx)
    | _ => simp [mS] at h
  | .for t it b, X, st, g, fc, h, w, hw, hx => by
    cases st with
    | For tg iter body els p =>
      cases els with
      | cons _ _ => simp [mS] at h
      | nil =>
        simp only [mS, Bool.and_eq_true] at h
        simp only [iS]
        subst hw
        exact s_for g.hp g.toXG h.1.1.1 (sI it g.toXG fc h.1.1.2 w xp rfl hx) (g_ok g.toXG rfl t tg h.1.2) (qSs b g fc h.2 w rfl hx)
    | _ => simp [mS] at h
  | .while t b, X, st, g, fc, h, w, hw, hx => by
    cases st with
    | While et body els p =>
      cases els with
      | cons _ _ => simp [mS] at h
      | nil =>
        simp only [mS, Bool.and_eq_true] at h
        simp only [iS]
        exact s_while g.hp (sT t g.toXG fc h.1 w xp hw hx) (qSs b g fc h.2 w hw hx)
    | _ => simp [mS] at h
  | .pass, X, st, g, fc, h, w, hw, hx => by
    simp only [iS]
    unfold mS at h
    split at h <;> first
      | exact s_next ps_pass
      | exact s_next ps_doc
      | exact absurd h Bool.false_ne_true
      | simp_all
  | .brk, X, st, g, fc, h, w, hw, hx => by
    cases st with
    | Break p =>
      simp only [iS]
      exact s_brk
    | _ => simp [mS] at h
  | .cont, X, st, g, fc, h, w, hw, hx => by
    cases st with
    | Continue p =>
      simp only [iS]
      exact s_cont
    | _ => simp [mS] at h
  | .raise k, X, st, g, fc, h, w, hw, hx => by
    simp only [iS]
    have hst : ∃ x p pos pos', st = .Raise (some (.Call (.Name x p) [] [] pos)) none pos' := by
      unfold mS at h
      split at h <;> first | exact absurd h Bool.false_ne_true | skip
      all_goals first | exact ⟨_, _, _, _, rfl⟩ | simp_all
    obtain ⟨x, p, pos, pos', rfl⟩ := hst
    simp only [mS, Bool.and_eq_true] at h
    cases hc : S.cs[k]? with
    | none => rw [hc] at h; exact absurd h.1.1 Bool.false_ne_true
    | some c =>
      rw [hc] at h
      have ex : x = c.1 := of_decide_eq_true h.1.1
      subst ex
      obtain ⟨cx, hr⟩ := g.cx k c hc
      subst hw
      refine (s_raise (S := S) (p := p) (pos := pos) (pos' := pos') g.calm hx cx hr (g.toXG.gl h.1.2) (noDb_1 h.2)).imp fun D σ H q => ?_
      obtain ⟨F, ρ, l, E, q, k'⟩ := q
      exact ⟨F, ρ, l, q⟩
  | .nev, X, st, g, fc, h, w, hw, hx => by
    simp only [iS]
    exact s_nev
theorem qSs {S : Sg} {G : Gd} {sc : Scope} {xp : XP} : ∀ (ss : Ss) {X : Cx} {sts : List Stmt}, XS S G sc X → FnCs S G X → mSs S X.N sc ss sts = true → ∀ (w : Wd), w.G = G → XOk S X w xp → PSs X sts (tJS w fun ρ E => iSs S xp ss ρ E)
  | .nil, X, sts, g, fc, h, w, hw, hx => by
    cases sts with
    | nil =>
      simp only [iSs]
      exact s_nil
    | cons _ _ => simp [mSs] at h
  | .cons s r, X, sts, g, fc, h, w, hw, hx => by
    cases sts with
    | nil => simp [mSs] at h
    | cons st sts =>
      simp only [mSs, Bool.and_eq_true] at h
      simp only [iSs]
      exact s_cons (qS s g fc h.1 w hw hx) (qSs r g fc h.2 w hw hx)
end
end DL

namespace DL
open PySem L2
/-! ### a def keeps its contract -/
def bagOf (m : Bool) (ρ : Rho) : List D := if m = true then (match (ρ[0]? : Option Sl) with | some (Sl.ow true xs) => xs | _ => []) else []
def finR (m : Bool) (Kd : Res → List D → Prop) (r : R) (ρ : Rho) : Prop := match r with
  | .v d => Kd (.d d) (bagOf m ρ)
  | .n xs => Kd (.n xs) (bagOf m ρ)
  | .pl i => match ρ[i]? with
    | some (.ow false xs) => Kd (.n xs) (bagOf m ρ)
    | some (.fz d) => Kd (.d d) (bagOf m ρ)
    | _ => False
/-- the slots at the entry -/
def start0 (m : Bool) (bag args : List D) (z : Nat) : Rho := (if m = true then [Sl.ow true bag] else []) ++ args.map Sl.fz ++ List.replicate z Sl.no
/-- what is known of the written part, for defs of level k -/
structure TW (S : Sg) (G : Gd) (P : Program) (w : World) (K : PySem.W.Frag) (mg : Str → Option Value) (base : Heap) (k : Nat) : Prop where
  eK : G.K = K
  ew : G.w = w
  gv : ∀ x d, S.gv.lookup x = some d → ∃ u v, mg x = some u ∧ RelV v u ∧ ∀ F, Rep G F v d
  bn : ∀ x : Str, x ∈ (["len", "max", "min", "list", "tuple", "sum", "any", "all", "int", "range", "zip", "isinstance", "bool", "str"] : List Str) → mg x = none
  cs : ∀ (j : Nat) (c : Str × Str), S.cs[j]? = some c → 3 ≤ k ∧ OexC K (G.cl j) ∧ (∀ f, f ∈ (["word", "most", "at", "row"] : List Str) → PySem.W.findIn K (.ref (G.cl j)) f = some none) ∧ mg c.1 = some (.ref (G.cl j)) ∧
    ∃ fI fd, PySem.W.findIn K (.ref (G.cl j)) "__init__" = some (some (.ref fI)) ∧ PySem.W.typeIn K (.ref fI) = some (.type "function") ∧ Binds K fd ["self"] [] ∧ FnOk P w K mg base (L2N.CX P w) 2 fI fd ["self"] (spInit K 0 fun _ => [("word", .str c.2)])
  fs : ∀ (i : Nat) (e : FnE), S.fs[i]? = some e → ∃ k' f fd ps ds dvs, k' ≤ k ∧ FnOk P w K mg base (L2N.CX P w) k' f fd ps (e.ct.sp G) ∧ mg e.name = some (.ref f) ∧ PySem.W.keepIn K (.ref f) = true ∧ Binds K fd ps ds ∧ Vals dvs ds ∧ ∀ F, RepL G F dvs e.dflt

section
variable {G : Gd} {F H F' H' : Hp} {σ' : St} {ρ' : Rho} {m : Bool} {bo : Option Addr} {bag args : List D} {vs : List V}
def parOf (bo : Option Addr) : Nat → Option Addr := fun i => if i = 0 then bo else none
theorem parOf_inv {i : Nat} {a : Addr} (h : parOf bo i = some a) : i = 0 ∧ bo = some a := by
  unfold parOf at h
  split at h
  · exact ⟨‹_›, h⟩
  · cases h
theorem start_fz {z : Nat} : ∀ (l : List D) (i : Nat) (s : Sl), ((l.map Sl.fz ++ List.replicate z Sl.no) : Rho)[i]? = some s → s = .no ∨ ∃ d, s = .fz d ∧ l[i]? = some d := fun l i s h => by
  by_cases hi : i < l.length
  · rw [List.getElem?_append_left (by simpa using hi), List.getElem?_map] at h
    cases e : l[i]? with
    | none => rw [e] at h; cases h
    | some d => rw [e] at h; cases h; exact .inr ⟨d, rfl, rfl⟩
  · rw [List.getElem?_append_right (by simpa using hi), List.getElem?_replicate] at h
    split at h
    · cases h; exact .inl rfl
    · cases h
theorem start_ok {N : List Str} {c : Ct} (hle : Le F H) (ht : TabsOk G.ts F H) (hN : vs.length ≤ N.length) (hn : args.length = c.n) (ha : ArgsAt G c F H vs bo bag args) :
    Rl ⟨G, F, delT G.ts H, parOf bo, fun _ => none⟩ F H (L2.start N vs) (start0 c.m bag args (N.length - vs.length)) := by
  have hlen : (L2.start N vs).length = (start0 c.m bag args (N.length - vs.length)).length := by
    unfold L2.start start0
    unfold ArgsAt at ha
    by_cases hm : c.m = true
    · rw [if_pos hm] at ha ⊢
      obtain ⟨a, vr, us, rfl, _, _, _, _, l⟩ := ha
      simp [l.length]
    · rw [if_neg hm] at ha ⊢
      simp [ha.2.2.length]
  have hsl : ∀ (i : Nat) (s : Sl), (start0 c.m bag args (N.length - vs.length))[i]? = some s → SlOk ⟨G, F, delT G.ts H, parOf bo, fun _ => none⟩ F H i (L2.start N vs)[i]? s ∧ ((∃ b xs, s = .ow b xs) → i = 0 ∧ ∃ a, bo = some a ∧ s = .ow true bag) := fun i s h => by
    unfold start0 at h
    unfold ArgsAt at ha
    have gv : ∀ (l : List V) (i : Nat) (v : V) (n : Nat), l[i]? = some v → (l.map some ++ List.replicate n (none : Option V))[i]? = some (some v) := fun l i v n e => by
      have hi := (List.getElem?_eq_some_iff.mp e).1
      rw [List.getElem?_append_left (by simpa using hi), List.getElem?_map, e]; rfl
    by_cases hm : c.m = true
    · rw [if_pos hm] at ha h
      obtain ⟨a, vr, us, rfl, rfl, hH, rb, hF, l⟩ := ha
      cases i with
      | zero =>
        have : s = .ow true bag := by simpa using h.symm
        subst this
        refine ⟨⟨a, us, gv _ 0 _ _ rfl, hH, rb, hF, rfl, by rw [if_pos rfl]; rfl⟩, fun _ => ⟨rfl, a, rfl, rfl⟩⟩
      | succ i =>
        have h : ((args.map Sl.fz ++ List.replicate (N.length - (V.ref a :: vr).length) Sl.no) : Rho)[i]? = some s := by simpa using h
        rcases start_fz args i s h with rfl | ⟨d, rfl, e⟩
        · exact ⟨trivial, fun ⟨_, _, z⟩ => by cases z⟩
        · obtain ⟨v, ev, rp⟩ := l.get e
          refine ⟨⟨v, ?_, rp⟩, fun ⟨_, _, z⟩ => by cases z⟩
          unfold L2.start
          exact gv (.ref a :: vr) (i + 1) v _ (by simpa using ev)
    · rw [if_neg hm] at ha h
      obtain ⟨rfl, rfl, l⟩ := ha
      have h : ((args.map Sl.fz ++ List.replicate (N.length - vs.length) Sl.no) : Rho)[i]? = some s := by simpa using h
      rcases start_fz args i s h with rfl | ⟨d, rfl, e⟩
      · exact ⟨trivial, fun ⟨_, _, z⟩ => by cases z⟩
      · obtain ⟨v, ev, rp⟩ := l.get e
        exact ⟨⟨v, gv vs i v _ ev, rp⟩, fun ⟨_, _, z⟩ => by cases z⟩
  refine ⟨hlen, hle, fun _ _ e => e, fun _ _ e _ => (delT_some e).1, fun a e => ?_, fun _ _ e => e, fun i s h => (hsl i s h).1, fun i a h => ?_, fun i j a b c' xs ys h1 h2 _ _ => ?_, fun _ _ e => (by cases e), fun q e => ⟨(ht q e).1, (ht q e).2, rfl, delT_in e⟩⟩
  · show delT G.ts H a = none
    cases z : delT G.ts H a with
    | none => rfl
    | some o => rw [(delT_some z).1] at e; cases e
  · obtain ⟨rfl, hb⟩ := parOf_inv h
    unfold ArgsAt at ha
    by_cases hm : c.m = true
    · exact ⟨bag, by unfold start0; rw [if_pos hm]; rfl⟩
    · rw [if_neg hm] at ha
      rw [ha.1] at hb; cases hb
  · exact ((hsl i _ h1).2 ⟨_, _, rfl⟩).1.trans ((hsl j _ h2).2 ⟨_, _, rfl⟩).1.symm
theorem end_step (hm : (m = true ∧ bo.isSome) ∨ (m = false ∧ bo = none)) (l : Rl ⟨G, F, delT G.ts H, parOf bo, fun _ => none⟩ F' H' σ' ρ') : Step G F H F' H' bo (bagOf m ρ') where
  fm := l.f0
  le := l.le
  kp := fun a o e nt hb => l.kp a o (by show delT G.ts H a = some o; rw [delT_ne nt]; exact e) fun i z => hb (parOf_inv z).2
  tb := fun q hq => (l.tb q hq).1
  al := fun a e => by
    have z : delT G.ts H a = none := l.al a e
    rw [delT_ne fun q hq y => by
      obtain ⟨⟨ps, e', _⟩, _⟩ := l.tb q hq
      rw [y, e] at e'; cases e'] at z
    exact z
  nf := fun a h n => by
    by_cases y : ∃ q ∈ G.ts, q.1 = a
    · obtain ⟨q, hq, rfl⟩ := y
      exact (l.tb q hq).2.1
    · exact l.nf a (by show delT G.ts H a ≠ none; rw [delT_ne fun q hq z => y ⟨q, hq, z⟩]; exact h) n
  bg := fun a hb => by
    obtain ⟨xs, e⟩ := l.pr 0 a (by show parOf bo 0 = _; unfold parOf; rw [if_pos rfl]; exact hb)
    obtain ⟨a', us, es, ha, rl, _, _, c⟩ := l.sl 0 _ e
    have c : parOf bo 0 = some a' := by simpa using c
    have ea : a' = a := by
      have := (parOf_inv c).2
      rw [hb] at this; cases this; rfl
    subst ea
    refine ⟨us, ha, ?_⟩
    have hm' : m = true := by
      rcases hm with ⟨h, _⟩ | ⟨_, h⟩
      · exact h
      · rw [h] at hb; cases hb
    unfold bagOf
    rw [if_pos hm', e]
    exact rl
theorem end_res {Kd : Res → List D → Prop} {r : R} {v : V} (l : Rl ⟨G, F, delT G.ts H, parOf bo, fun _ => none⟩ F' H' σ' ρ') (rr : RelR ⟨G, F, delT G.ts H, parOf bo, fun _ => none⟩ F' H' σ' ρ' v r) (h : finR m Kd r ρ') : ∃ s, RRes G H F' H' v s ∧ Kd s (bagOf m ρ') := by
  cases r with
  | v d => exact ⟨.d d, rr, h⟩
  | n xs =>
    obtain ⟨p, vs, rfl, ha, rl, hF, h0, hf, fr⟩ := rr
    have h0 : delT G.ts H p = none := h0
    rw [delT_ne (l.noTab ha (fun ps z => by cases z))] at h0
    exact ⟨.n xs, ⟨p, vs, rfl, h0, ha, rl, hF⟩, h⟩
  | pl i =>
    have rr : σ'[i]? = some (some v) := rr
    unfold finR at h
    split at h <;> rename_i e <;> try cases e
    split at h <;> rename_i e
    · obtain ⟨a, vs, es, ha, rl, n, f, c⟩ := l.sl _ _ e
      rw [rr] at es
      cases es
      have c : delT G.ts H a = none := by simpa using c
      rw [delT_ne (l.noTab ha (fun ps z => by cases z))] at c
      exact ⟨.n _, ⟨a, vs, rfl, c, ha, rl, n⟩, h⟩
    · obtain ⟨u, es, rp⟩ := l.sl _ _ e
      rw [rr] at es
      cases es
      exact ⟨.d _, rp, h⟩
    · exact h.elim
end
theorem def_ok {S : Sg} {G : Gd} {P : Program} {w : World} {K : PySem.W.Frag} {mg : Str → Option Value} {base : Heap} {k : Nat} {x qual : Str} {st : Stmt} {f : Addr} {fd : FuncData} {N ps : List Str} (c : Ct) (body : Ss)
    (T : TW S G P w K mg base k) (Fn : Fun K x qual st f fd) (Sc : FnScope N ps (defScope st)) (hq : (defScope st).names.lookup ("_law_told" : Str) ≠ some .globalImplicit) (hps : ps.length = if c.m = true then c.n + 1 else c.n) (hm : mSs S N (defScope st) body (defBody st) = true)
    (hsem : ∀ (Xd : Xn → List D → Prop) (bag args : List D) (Kd : Res → List D → Prop), args.length = c.n → c.sem Xd bag args Kd →
      iSs S (fun xn ρ => Xd xn (bagOf c.m ρ)) body (start0 c.m bag args (N.length - ps.length)) { nx := fun ρ => finR c.m Kd (.v .non) ρ, rt := finR c.m Kd }) :
    FnOk P w K mg base (L2N.CX P w) (k + 1) f fd ps (c.sp G) := by
  have hpl : ps.length ≤ N.length := by have := congrArg List.length Sc.pre; rw [List.length_take] at this; omega
  refine fun_okN Fn Sc (fun vs H Q E h => by rw [Ct.sp_len h, hps]) (fun cdv A outer s H vs Q E hr h => ?_)
  have hvl : vs.length = ps.length := by rw [Ct.sp_len h, hps]
  obtain ⟨F, bag, args, bo, ⟨hle, htb⟩, hn, ha, Kd, Xd, hs, kr, kx⟩ := h
  have hmb : (c.m = true ∧ bo.isSome) ∨ (c.m = false ∧ bo = none) := by
    unfold ArgsAt at ha
    by_cases hm : c.m = true
    · rw [if_pos hm] at ha
      obtain ⟨a, vr, us, rfl, rfl, _⟩ := ha
      exact .inl ⟨hm, rfl⟩
    · rw [if_neg hm] at ha
      exact .inr ⟨by simpa using hm, ha.1⟩
  have l0 := start_ok (N := N) hle htb (by omega) hn ha
  have gX : XS S G (defScope st) (cxOf (L2N.CX P w) P w K mg base N qual (defScope st) f cdv A outer s H E) := by
    refine { nd := Sc.nd, calm := rfl, K := T.eK, w := T.ew, scr := fun _ _ e => .inl e, fnc := fun _ _ => rfl, gv := T.gv, bn := T.bn, hu := ?_, hp := passes_of rfl, bk := ?_, cx := fun j c hj => ?_ }
    · have := hr.un
      show (A.deeper _).units + 65 < cLine
      omega
    · show (if (defScope st).kind.isAnnotationScope then ScopeKind.function else (defScope st).kind) = _
      rw [Sc.kind]
      rfl
    · obtain ⟨h3, ox, nf, hm', ini⟩ := T.cs j c hj
      exact ⟨⟨ox, nf, hm', ini⟩, hr.mono h3⟩
  have fcs : FnCs S G (cxOf (L2N.CX P w) P w K mg base N qual (defScope st) f cdv A outer s H E) := fun i e he => by
    obtain ⟨k', f', fd', ps', ds', dvs', hk, F1, m1, k1, b1, v1, r1⟩ := T.fs i e he
    exact ⟨k', f', fd', ps', ds', dvs', F1, hr.mono hk, m1, k1, b1, v1, r1⟩
  have tk : XOk S (cxOf (L2N.CX P w) P w K mg base N qual (defScope st) f cdv A outer s H E) ⟨G, F, delT G.ts H, parOf bo, fun _ => none⟩ (fun xn ρ => Xd xn (bagOf c.m ρ)) := by
    refine ⟨(L2N.takes_of rfl rfl rfl rfl).imp fun cls d σ H' q => ?_, fun z => absurd z hq⟩
    obtain ⟨F', ρ', xn, l', rx, q⟩ := q
    exact kx cls d F' H' xn _ (end_step hmb l') rx q
  refine ⟨_, qSs body gX fcs hm ⟨G, F, delT G.ts H, parOf bo, fun _ => none⟩ rfl tk, ?_⟩
  refine ⟨F, _, l0, { nx := fun ρ => finR c.m Kd (.v .non) ρ, rt := finR c.m Kd }, by rw [hvl]; exact hsem Xd bag args Kd hn hs, fun ρ' σ' F' H' le l' => ⟨fun q => ?_, fun q => q.elim, fun q => q.elim, fun r v rr q => ?_⟩⟩
  · obtain ⟨s, rs, q⟩ := end_res l' (v := .non) (r := .v .non) (Rep.non' (G := G) (F := F')) q
    exact kr _ s F' H' _ (end_step hmb l') rs q
  · obtain ⟨s, rs, q⟩ := end_res l' rr q
    exact kr _ s F' H' _ (end_step hmb l') rs q
end DL

/-! EA: how a def's meaning is reckoned by data; the bag of numbers of every law. -/
namespace DL
open PySem L2

/-- the next level -/
theorem TW.push {gv : List (Str × D)} {cs : List (Str × Str)} {l : List FnE} {G : Gd} {P : Program} {w : World} {K : PySem.W.Frag} {mg : Str → Option Value} {base : Heap} {k : Nat} {e : FnE} {f : Addr} {fd : FuncData} {ps : List Str} {ds : List Value} {dvs : List V}
    (T : TW ⟨gv, l, cs⟩ G P w K mg base k) (F : FnOk P w K mg base (L2N.CX P w) (k + 1) f fd ps (e.ct.sp G)) (hm : mg e.name = some (.ref f)) (hk : PySem.W.keepIn K (.ref f) = true) (hb : Binds K fd ps ds) (hd : Vals dvs ds)
    (hr : ∀ F, RepL G F dvs e.dflt) : TW ⟨gv, l ++ [e], cs⟩ G P w K mg base (k + 1) where
  eK := T.eK
  ew := T.ew
  gv := T.gv
  bn := T.bn
  cs := fun j c hj => by
    obtain ⟨h3, r⟩ := T.cs j c hj
    exact ⟨by omega, r⟩
  fs := fun i e' he => by
    by_cases hi : i < l.length
    · rw [List.getElem?_append_left hi] at he
      obtain ⟨k', f', fd', ps', ds', dvs', h1, h2⟩ := T.fs i e' he
      exact ⟨k', f', fd', ps', ds', dvs', by omega, h2⟩
    · have hz : i = l.length := by
        have := (List.getElem?_eq_some_iff.mp he).1
        rw [List.length_append, List.length_singleton] at this
        omega
      subst hz
      rw [List.getElem?_append_right (Nat.le_refl _), Nat.sub_self] at he
      cases he
      exact ⟨_, f, fd, ps, ds, dvs, Nat.le_refl _, F, hm, hk, hb, hd, hr⟩
/-- a def of the module as its law's head tells it, no defaults -/
theorem TW.def {gv : List (Str × D)} {cs : List (Str × Str)} {l : List FnE} {G : Gd} {P : Program} {w : World} {K : PySem.W.Frag} {mg : Str → Option Value} {base : Heap} {k : Nat} {name : Str} {c : Ct} {st : Stmt} {f : Addr} {fd : FuncData} {N ps : List Str} (body : Ss)
    (T : TW ⟨gv, l, cs⟩ G P w K mg base k) (Fn : Fun K name name st f fd) (hg : mg name = some (.ref f))
    (hb : ∀ (kV doc pm : Value) (an : Option Addr) (cdv ct : Value) (us : List Value), us.length = ps.length → bindArgs (PySem.W.fnOf name name (defArgs st) (defBody st) (defScope st) .none kV doc pm an cdv ct) ⟨us, []⟩ = pure (ps.zip us))
    (Sc : FnScope N ps (defScope st)) (hq : (defScope st).names.lookup ("_law_told" : Str) ≠ some .globalImplicit) (hps : ps.length = if c.m = true then c.n + 1 else c.n) (hm : mSs ⟨gv, l, cs⟩ N (defScope st) body (defBody st) = true)
    (hsem : ∀ (Xd : Xn → List D → Prop) (bag args : List D) (Kd : Res → List D → Prop), args.length = c.n → c.sem Xd bag args Kd →
      iSs ⟨gv, l, cs⟩ (fun xn ρ => Xd xn (bagOf c.m ρ)) body (start0 c.m bag args (N.length - ps.length)) { nx := fun ρ => finR c.m Kd (.v .non) ρ, rt := finR c.m Kd }) :
    TW ⟨gv, l ++ [⟨name, c, []⟩], cs⟩ G P w K mg base (k + 1) :=
  T.push (e := ⟨name, c, []⟩) (def_ok c body T Fn Sc hq hps hm hsem) hg Fn.kp (Fn.binds hb) (dvs := []) .nil fun _ => RepL.nil

/-! ### how it is reckoned -/
@[simp] theorem ofs_eq (s t : String) : (Str.ofString s = Str.ofString t) = (s = t) := by
  apply propext
  constructor
  · intro h
    rw [Str.ofString_eq_toList, Str.ofString_eq_toList] at h
    injection h with h
    have h := congrArg Array.toList h
    have h2 : s.toList.map Char.toNat = t.toList.map Char.toNat := by simpa using h
    have inj : Function.Injective Char.toNat := fun a b e => by
      apply Char.ext
      apply UInt32.toNat_inj.mp
      exact e
    exact String.toList_inj.mp (List.map_inj_right (fun _ _ e => inj e) |>.mp h2)
  · rintro rfl; rfl
@[simp] theorem ofs_beq (s t : String) : (Str.ofString s == Str.ofString t) = decide (s = t) := by
  by_cases h : s = t
  · subst h; simp
  · rw [decide_eq_false h]
    exact beq_eq_false_iff_ne.mpr fun e => h (by rw [ofs_eq] at e; exact e)
section
variable {α : Type} {a b c d e f g : α} {r : List α}
@[simp] theorem at0 : atI (a :: r) 0 = some a := by simp [atI, ixN]
@[simp] theorem at1 : atI (a :: b :: r) 1 = some b := by
  unfold atI ixN
  rw [if_pos (by decide), if_pos (by simp only [List.length_cons]; omega)]
  rfl
@[simp] theorem at2 : atI (a :: b :: c :: r) 2 = some c := by
  unfold atI ixN
  rw [if_pos (by decide), if_pos (by simp only [List.length_cons]; omega)]
  rfl
@[simp] theorem at3 : atI (a :: b :: c :: d :: r) 3 = some d := by
  unfold atI ixN
  rw [if_pos (by decide), if_pos (by simp only [List.length_cons]; omega)]
  rfl
@[simp] theorem at4 : atI (a :: b :: c :: d :: e :: r) 4 = some e := by
  unfold atI ixN
  rw [if_pos (by decide), if_pos (by simp only [List.length_cons]; omega)]
  rfl
@[simp] theorem at5 : atI (a :: b :: c :: d :: e :: f :: r) 5 = some f := by
  unfold atI ixN
  rw [if_pos (by decide), if_pos (by simp only [List.length_cons]; omega)]
  rfl
@[simp] theorem atM1 : atI [a] (-1) = some a := by simp [atI, ixN]
end
theorem at_map {α β : Type} (f : α → β) (xs : List α) (i : Int) : atI (xs.map f) i = (atI xs i).map f := by
  unfold atI
  rw [List.length_map]
  cases ixN xs.length i <;> simp
theorem at_in {α : Type} (xs : List α) {i : Int} (h0 : 0 ≤ i) (h : i < xs.length) : ∃ x, atI xs i = some x ∧ x ∈ xs := by
  have hi : i.toNat < xs.length := by omega
  refine ⟨xs[i.toNat], ?_, List.getElem_mem _⟩
  unfold atI ixN
  rw [if_pos h0, if_pos h]
  simp [hi]
@[simp] theorem fv_str (s : Str) : fv (.str s) = .str s := rfl
@[simp] theorem fv_int (s : Int) : fv (.int s) = .int s := rfl
@[simp] theorem inV_cons (x y : V) (l : List V) : inV x (y :: l) = (eqV y x || inV x l) := rfl
@[simp] theorem inV_nil (x : V) : inV x [] = false := rfl
@[simp] theorem eqV_str (a b : Str) : eqV (.str a) (.str b) = (a == b) := rfl
@[simp] theorem eqV_int (a b : Int) : eqV (.int a) (.int b) = (a == b) := rfl
/-! the scrutinees by themselves -/
/-- a result read, its place kept or not -/
def rdx (ρ : Rho) (r : R) (K : D → Prop) : Prop := rdr ρ r.stl K
def fzx (ρ : Rho) (r : R) (K : D → Rho → Prop) : Prop := frz ρ r.stl K
def opS : Sl → Bool
  | .ow true _ => false
  | _ => true
def noS : Sl → Bool
  | .ow _ _ => false
  | _ => true
def asI : R → (Int → Prop) → Prop
  | .v (.int n), K => K n
  | _, _ => False
def asB : R → (Bool → Prop) → Prop
  | .v (.bl n), K => K n
  | _, _ => False
/-- the frame's own list in a slot: its content, and the frame with another one -/
def owc (i : Nat) (ρ : Rho) (K : List D → (List D → Rho) → Prop) : Prop := match ρ[i]? with
  | some (.ow b xs) => K xs fun ys => ρ.set i (.ow b ys)
  | _ => False
def fzc (i : Nat) (ρ : Rho) (K : D → Prop) : Prop := match ρ[i]? with
  | some (.fz d) => K d
  | _ => False
def exK {α : Type} (o : Option α) (K : α → Prop) : Prop := ∃ d, o = some d ∧ K d
def exI (o : Option D) (K : Int → Prop) : Prop := ∃ d, o = some (D.int d) ∧ K d
def stK (xs : List D) (n : Int) (d : D) (K : List D → Prop) : Prop := exK (ixN xs.length n) fun j => K (xs.set j d)
def gvK : Option D → (D → Prop) → Prop
  | some e, K => K e
  | none, _ => False
def trR : Res → (Bool → Prop) → Prop
  | .d x, K => truD x K
  | .n xs, K => K (!xs.isEmpty)
def inK : D → (Int → Prop) → Prop
  | .int n, K => K n
  | _, _ => False
def boR (o : BOp) (x y : D) (K : R → Prop) : Prop := o.sem x y fun r => K (R.ofRes r)
def ixR (x y : D) (K : R → Prop) : Prop := ixD x y fun r => K (R.ofRes r)
def slR (x : D) (lo hi : Option Int) (K : R → Prop) : Prop := slD x lo hi fun r => K (R.ofRes r)
def biR (b : Bi) (ds : List D) (K : R → Prop) : Prop := b.sem ds fun r => K (R.ofRes r)
def bmR (m : Bm) (x y : D) (K : R → Prop) : Prop := m.sem x y fun r => K (R.ofRes r)
def biT (b : Bi) (ds : List D) (K : Bool → Prop) : Prop := b.sem ds fun r => trR r K
def rdxs (ρ : Rho) : List R → (List D → Prop) → Prop
  | [], K => K []
  | r :: rs, K => rdx ρ r fun d => rdxs ρ rs fun ds => K (d :: ds)
def isR (d : D) (ts : List Ty) (K : Bool → Prop) : Prop := isiD d ts K
def clK (c : Ct) (ds : List D) (X : Xn → Prop) (K : R → Prop) : Prop := ds.length = c.n ∧ c.sem (fun xn _ => X xn) [] ds fun r _ => K (R.ofRes r)
def clM (c : Ct) (bag ds : List D) (X : Xn → List D → Prop) (K : R → List D → Prop) : Prop := ds.length = c.n ∧ c.sem X bag ds fun r b => K (R.ofRes r) b
def tclK (c : Ct) (ds : List D) (X : Xn → Prop) (K : Bool → Prop) : Prop := ds.length = c.n ∧ c.sem (fun xn _ => X xn) [] ds fun r _ => trR r K
theorem rdrs_x {ρ : Rho} : ∀ {rs : List R} {K : List D → Prop}, rdrs ρ (rs.map R.stl) K = rdxs ρ rs K
  | [], _ => rfl
  | r :: rs, K => by
    show rdr ρ r.stl _ = rdx ρ r _
    unfold rdx
    congr 1
    funext d
    exact rdrs_x
def iXs (S : Sg) (xp : XP) : Cs → Rho → (List R → Rho → Prop) → Prop
  | .nil, ρ, K => K [] ρ
  | .cons c r, ρ, K => iE S xp c ρ fun x ρ1 => iXs S xp r ρ1 fun rs ρ2 => K (x :: rs) ρ2
theorem iRs_x (S : Sg) (xp : XP) : ∀ (es : Cs) (ρ : Rho) (K : List R → Rho → Prop), iRs S xp es ρ K = iXs S xp es ρ fun rs ρ1 => K (rs.map R.stl) ρ1
  | .nil, _, _ => by unfold iRs iXs; rfl
  | .cons c r, ρ, K => by
    unfold iRs iXs
    congr 1
    funext x ρ1
    rw [iRs_x]
    rfl
theorem iRs_b {S : Sg} {xp : XP} {es : Cs} {ρ : Rho} {F : List D → Rho → Prop} : (iRs S xp es ρ fun rs ρ1 => rdrs ρ1 rs fun ds => F ds ρ1) = iXs S xp es ρ fun rs ρ1 => rdxs ρ1 rs fun ds => F ds ρ1 := by
  rw [iRs_x]
  congr 1
  funext rs ρ1
  exact rdrs_x
@[simp ↓] theorem ze_int {S : Sg} {xp : XP} {ρ : Rho} {i : Int} {K : KR} : iE S xp (.int i) ρ K = (K (.v (.int i)) ρ) := rfl
@[simp ↓] theorem ze_str {S : Sg} {xp : XP} {ρ : Rho} {s : Str} {K : KR} : iE S xp (.str s) ρ K = (K (.v (.str s)) ρ) := rfl
@[simp ↓] theorem ze_bl {S : Sg} {xp : XP} {ρ : Rho} {b : Bool} {K : KR} : iE S xp (.bl b) ρ K = (K (.v (.bl b)) ρ) := rfl
@[simp ↓] theorem ze_non {S : Sg} {xp : XP} {ρ : Rho}  {K : KR} : iE S xp (.non) ρ K = (K (.v .non) ρ) := rfl
theorem ze_globh {S : Sg} {xp : XP} {ρ : Rho} {x : Str} {d : D} {K : KR} (h : S.gv.lookup x = some d) : iE S xp (.glob x) ρ K = K (.v d) ρ := by show (match S.gv.lookup x with | some d => K (.v d) ρ | none => False) = _; rw [h]
@[simp ↓] theorem ze_bin {S : Sg} {xp : XP} {ρ : Rho} {o : BOp} {a b : C} {K : KR} : iE S xp (.bin o a b) ρ K = (iE S xp a ρ fun x ρ1 => iE S xp b ρ1 fun y ρ2 => rdx ρ2 x fun dx => rdx ρ2 y fun dy => boR o dx dy fun r => K r ρ2) := rfl
@[simp ↓] theorem ze_neg {S : Sg} {xp : XP} {ρ : Rho} {a : C} {K : KR} : iE S xp (.neg a) ρ K = (iE S xp a ρ fun x ρ1 => asI x fun i => K (.v (.int (-i))) ρ1) := by simp only [iE, iO, iI]; congr 1; funext x ρ1; cases x <;> first | rfl | (rename_i d; cases d <;> rfl)
@[simp ↓] theorem ze_cmp {S : Sg} {xp : XP} {ρ : Rho} {o : COp} {a b : C} {K : KR} : iE S xp (.cmp o a b) ρ K = (iE S xp a ρ fun x ρ1 => iE S xp b ρ1 fun y ρ2 => rdx ρ2 x fun dx => rdx ρ2 y fun dy => o.sem dx dy fun r => K (.v (.bl r)) ρ2) := rfl
@[simp ↓] theorem ze_cmp2 {S : Sg} {xp : XP} {ρ : Rho} {o o' : COp} {a b c : C} {K : KR} : iE S xp ((.cmp2 o o' a b c)) ρ K = (iE S xp a ρ fun x ρ1 => iE S xp b ρ1 fun y ρ2 => rdx ρ2 x fun dx => rdx ρ2 y fun dy => o.sem dx dy fun r => if r = true then iE S xp c ρ2 fun z ρ3 => rdx ρ3 y fun dy' => rdx ρ3 z fun dz => o'.sem dy' dz fun r' => K (.v (.bl r')) ρ3 else K (.v (.bl false)) ρ2) := rfl
@[simp ↓] theorem ze_and {S : Sg} {xp : XP} {ρ : Rho} {a b : C} {K : KR} : iE S xp (.and a b) ρ K = (iE S xp a ρ fun x ρ1 => asB x fun c => if c = true then iE S xp b ρ1 K else K (.v (.bl false)) ρ1) := by simp only [iE, iO, iI]; congr 1; funext x ρ1; cases x <;> first | rfl | (rename_i d; cases d <;> rfl)
@[simp ↓] theorem ze_or {S : Sg} {xp : XP} {ρ : Rho} {a b : C} {K : KR} : iE S xp (.or a b) ρ K = (iE S xp a ρ fun x ρ1 => asB x fun c => if c = true then K (.v (.bl true)) ρ1 else iE S xp b ρ1 K) := by simp only [iE, iO, iI]; congr 1; funext x ρ1; cases x <;> first | rfl | (rename_i d; cases d <;> rfl)
@[simp ↓] theorem ze_one {S : Sg} {xp : XP} {ρ : Rho} {a : C} {K : KR} : iE S xp (.one a) ρ K = (iE S xp a ρ K) := rfl
@[simp ↓] theorem ze_not {S : Sg} {xp : XP} {ρ : Rho} {a : C} {K : KR} : iE S xp (.not a) ρ K = (iE S xp a ρ fun x ρ1 => asB x fun c => K (.v (.bl (!c))) ρ1) := by simp only [iE, iO, iI]; congr 1; funext x ρ1; cases x <;> first | rfl | (rename_i d; cases d <;> rfl)
@[simp ↓] theorem ze_ife {S : Sg} {xp : XP} {ρ : Rho} {t a b : C} {K : KR} : iE S xp (.ife t a b) ρ K = (iT S xp t ρ fun c ρ1 => if c = true then iE S xp a ρ1 K else iE S xp b ρ1 K) := rfl
@[simp ↓] theorem ze_tup {S : Sg} {xp : XP} {ρ : Rho} {es : Cs} {K : KR} : iE S xp (.tup es) ρ K = (iAs S xp es ρ fun ds ρ1 => ds.length ≤ sizeLine ∧ K (.v (.tup ds)) ρ1) := rfl
@[simp ↓] theorem ze_lst {S : Sg} {xp : XP} {ρ : Rho} {es : Cs} {K : KR} : iE S xp (.lst es) ρ K = (iAs S xp es ρ fun ds ρ1 => ds.length ≤ sizeLine ∧ K (.n ds) ρ1) := rfl
@[simp ↓] theorem ze_ix {S : Sg} {xp : XP} {ρ : Rho} {a b : C} {K : KR} : iE S xp (.ix a b) ρ K = (iE S xp a ρ fun x ρ1 => iE S xp b ρ1 fun y ρ2 => rdx ρ2 x fun dx => rdx ρ2 y fun dy => ixR dx dy fun r => K r ρ2) := rfl
@[simp ↓] theorem ze_sl {S : Sg} {xp : XP} {ρ : Rho} {a : C} {lo hi : Co} {K : KR} : iE S xp (.sl a lo hi) ρ K = (iE S xp a ρ fun x ρ1 => iO S xp lo ρ1 fun l ρ2 => iO S xp hi ρ2 fun h ρ3 => rdx ρ3 x fun dx => slR dx l h fun r => K r ρ3) := rfl
@[simp ↓] theorem ze_bi {S : Sg} {xp : XP} {ρ : Rho} {b : Bi} {es : Cs} {K : KR} : iE S xp (.bi b es) ρ K = (iXs S xp es ρ fun rs ρ1 => rdxs ρ1 rs fun ds => biR b ds fun r => K r ρ1) := iRs_b (F := fun ds ρ1 => biR b ds fun r => K r ρ1)
theorem ze_callh {S : Sg} {xp : XP} {ρ : Rho} {f : Nat} {es : Cs} {K : KR} {nm : Str} {ct : Ct} (h : S.fs[f]? = some ⟨nm, ct, []⟩) (hm : ct.m = false) : iE S xp (.call f es) ρ K = iAs S xp es ρ fun ds ρ1 => clK ct ds (fun xn => xp xn ρ1) fun r => K r ρ1 := by
  show (iAs S xp es ρ fun ds ρ1 => match S.fs[f]? with | none => False | some e => (e.ct.m = false ∧ (ds ++ e.dflt).length = e.ct.n) ∧ e.ct.sem (fun xn _ => xp xn ρ1) [] (ds ++ e.dflt) fun r _ => K (R.ofRes r) ρ1) = _
  rw [h]
  congr 1
  funext ds ρ1
  simp only [List.append_nil, hm, true_and]
  rfl
theorem zt_callh {S : Sg} {xp : XP} {ρ : Rho} {f : Nat} {es : Cs} {K : Bool → Rho → Prop} {nm : Str} {ct : Ct} (h : S.fs[f]? = some ⟨nm, ct, []⟩) (hm : ct.m = false) : iT S xp (.call f es) ρ K = iAs S xp es ρ fun ds ρ1 => tclK ct ds (fun xn => xp xn ρ1) fun b => K b ρ1 := by
  have e : ∀ ρ1 : Rho, (fun (r : Res) (_ : List D) => trR r fun b => K b ρ1) = fun r _ => match r with
      | .d x => truD x fun b => K b ρ1
      | .n xs => K (!xs.isEmpty) ρ1 := fun ρ1 => by funext r _; cases r <;> rfl
  show (iAs S xp es ρ fun ds ρ1 => match S.fs[f]? with | none => False | some e => (e.ct.m = false ∧ (ds ++ e.dflt).length = e.ct.n) ∧ e.ct.sem (fun xn _ => xp xn ρ1) [] (ds ++ e.dflt) fun r _ => match r with
      | .d x => truD x fun b => K b ρ1
      | .n xs => K (!xs.isEmpty) ρ1) = _
  rw [h]
  congr 1
  funext ds ρ1
  simp only [List.append_nil, hm, true_and, ← e]
  rfl
theorem ze_callmh {S : Sg} {xp : XP} {ρ : Rho} {f i : Nat} {es : Cs} {K : KR} {nm : Str} {ct : Ct} (h : S.fs[f]? = some ⟨nm, ct, []⟩) (hm : ct.m = true) : iE S xp (.callm f i es) ρ K = (isOw ρ i = true ∧ iAs S xp es ρ fun ds ρ1 => owc i ρ1 fun bag up => clM ct bag ds (fun xn b => xp xn (up b)) fun r b => K r (up b)) := by
  simp only [iE, h]
  congr 1
  congr 1
  funext ds ρ1
  unfold owc
  cases ρ1[i]? with
  | none => rfl
  | some s =>
    cases s with
    | ow b xs =>
      simp only [List.append_nil, hm, true_and]
      rfl
    | _ => rfl
@[simp ↓] theorem ze_bm {S : Sg} {xp : XP} {ρ : Rho} {m : Bm} {a b : C} {K : KR} : iE S xp (.bm m a b) ρ K = (iE S xp a ρ fun x ρ1 => (rdx ρ1 x fun d => tyD d = some m.ty) ∧ iE S xp b ρ1 fun y ρ2 => rdx ρ2 x fun dx => rdx ρ2 y fun dy => bmR m dx dy fun r => K r ρ2) := rfl
@[simp ↓] theorem ze_lrg {S : Sg} {xp : XP} {ρ : Rho} {a : C} {K : KR} : iE S xp (.lrg a) ρ K = (iE S xp a ρ fun x ρ1 => rdx ρ1 x fun d => rgD d fun xs => K (.n xs) ρ1) := rfl
@[simp ↓] theorem rgD_i {n : Int} {K : List D → Prop} : rgD (.int n) K = (((-1000 ≤ n ∧ n ≤ 16777216) ∧ K ((List.range n.toNat).map fun i => D.int (i : Nat)))) := rfl
@[simp ↓] theorem ze_told {S : Sg} {xp : XP} {ρ : Rho} {fz wp : List Nat} {c : C} {K : KR} : iE S xp (.told fz wp c) ρ K = (wp.all (notOw ((frzL ρ fz).map noOw)) = true ∧ iE S (fun xn _ => toldX S.cs xn fun d => K (.v d) (frzL ρ fz)) c (lamR wp (frzL ρ fz)) fun r ρ1 => fzx ρ1 r fun d _ => K (.v (.tup [.str "told", d])) (frzL ρ fz)) := rfl
@[simp ↓] theorem fzl_nil {ρ : Rho} : frzL ρ [] = (ρ) := rfl
@[simp ↓] theorem lamR_d {wp : List Nat} {ρ : Rho} : lamR wp ρ = (wipeR (ρ.map noOw) wp) := rfl
@[simp] theorem noOw_w {b : Bool} {xs : List D} : noOw (.ow b xs) = (.no) := rfl
@[simp] theorem noOw_z {d : D} : noOw (.fz d) = (.fz d) := rfl
@[simp] theorem noOw_o  : noOw (.no) = (.no) := rfl
@[simp] theorem noS_noOw {s : Sl} : noS (noOw s) = (true) := by cases s <;> rfl
theorem toldX_n {K : D → Prop} {cs : List (Str × Str)} {k : Nat} {fs : List (Str × D)} {nm z : Str} (h : cs[k]? = some (nm, z)) (hf : fldOf nm = none) (hw : fs.lookup ("word" : Str) = some (.str z)) : toldX cs ⟨k, fs⟩ K = K (.tup [.str z, .non]) := by
  unfold toldX
  simp only [h, hf, hw, true_and]
theorem toldX_s {K : D → Prop} {cs : List (Str × Str)} {k : Nat} {fs : List (Str × D)} {nm z m : Str} {d : D} (h : cs[k]? = some (nm, z)) (hf : fldOf nm = some m) (hw : fs.lookup ("word" : Str) = some (.str z)) (hd : fs.lookup m = some d) : toldX cs ⟨k, fs⟩ K = K (.tup [.str z, d]) := by
  unfold toldX
  simp only [h, hf, hw, hd, true_and, Option.some.injEq, exists_eq_left']
@[simp ↓] theorem ze_isi {S : Sg} {xp : XP} {ρ : Rho} {one : Bool} {a : C} {ts : List Ty} {K : KR} : iE S xp (.isi one a ts) ρ K = (iE S xp a ρ fun x ρ1 => rdx ρ1 x fun d => isR d ts fun b => K (.v (.bl b)) ρ1) := rfl
@[simp ↓] theorem ze_comp {S : Sg} {xp : XP} {ρ : Rho} {own : List (Str × Nat)} {t : Tg} {it : Src} {ifs : Cs} {e : C} {K : KR} : iE S xp (.comp own t it ifs e) ρ K = (iI S xp it ρ fun ds ρ1 => ((own.map (·.2)).all (notOw ρ1) = true ∧ tgIn (own.map (·.2)) t = true) ∧ compD (own.map (·.2)) t (iTs S (fun _ _ => False) ifs) (iE S (fun _ _ => False) e) ds [] (wipeR ρ1 (own.map (·.2))) fun acc ρ2 => K (.n acc) (unwipe ρ1 ρ2 (own.map (·.2)))) := rfl
theorem zdget {S : Sg} {xp : XP} {ρ : Rho} {kvs : List (Str × Str)} {i j : Nat} {K : KR} {z : Str} {d : D} (hi : ρ[i]? = some (.fz (.str z))) (hj : ρ[j]? = some (.fz d)) : iE S xp (.dget kvs i j) ρ K = K (.v (((kvs.reverse.lookup z).map D.str).getD d)) ρ := by
  show (match ρ[i]?, ρ[j]? with | some (.fz (.str z)), some (.fz d) => K (.v (((kvs.reverse.lookup z).map D.str).getD d)) ρ | _, _ => False) = _
  rw [hi, hj]
@[simp ↓] theorem tyd_list {xs : List D} : tyD (.lst xs) = (some .list) := rfl
@[simp ↓] theorem tyd_str {s : Str} : tyD (.str s) = (some .str) := rfl
@[simp ↓] theorem bmt_lindex  : Bm.ty .lindex = (.list) := rfl
@[simp ↓] theorem bmt_sjoin  : Bm.ty .sjoin = (.str) := rfl
@[simp ↓] theorem bmt_sfind  : Bm.ty .sfind = (.str) := rfl
@[simp ↓] theorem bmt_srfind  : Bm.ty .srfind = (.str) := rfl
@[simp ↓] theorem bmt_scount  : Bm.ty .scount = (.str) := rfl
@[simp ↓] theorem bmt_sstarts  : Bm.ty .sstarts = (.str) := rfl
@[simp ↓] theorem bm_sfind {a b : Str} {K : R → Prop} : bmR .sfind (.str a) (.str b) K = (K (.v (.int (Txt.find a b)))) := rfl
@[simp ↓] theorem bm_srfind {a b : Str} {K : R → Prop} : bmR .srfind (.str a) (.str b) K = (K (.v (.int (Txt.rfind a b)))) := rfl
@[simp ↓] theorem bm_scount {a b : Str} {K : R → Prop} : bmR .scount (.str a) (.str b) K = (K (.v (.int (Txt.count a b)))) := rfl
@[simp ↓] theorem bm_sstarts {a b : Str} {K : R → Prop} : bmR .sstarts (.str a) (.str b) K = (K (.v (.bl (Txt.startswith a b)))) := rfl
@[simp ↓] theorem zt_and {S : Sg} {xp : XP} {ρ : Rho} {a b : C} {K : Bool → Rho → Prop} : iT S xp (.and a b) ρ K = (iT S xp a ρ fun c ρ1 => if c = true then iT S xp b ρ1 K else K false ρ1) := rfl
@[simp ↓] theorem zt_or {S : Sg} {xp : XP} {ρ : Rho} {a b : C} {K : Bool → Rho → Prop} : iT S xp (.or a b) ρ K = (iT S xp a ρ fun c ρ1 => if c = true then K true ρ1 else iT S xp b ρ1 K) := rfl
@[simp ↓] theorem zt_isi {S : Sg} {xp : XP} {ρ : Rho} {one : Bool} {a : C} {ts : List Ty} {K : Bool → Rho → Prop} : iT S xp (.isi one a ts) ρ K = (iE S xp a ρ fun x ρ1 => rdx ρ1 x fun d => isR d ts fun b => K b ρ1) := rfl
@[simp ↓] theorem zt_one {S : Sg} {xp : XP} {ρ : Rho} {a : C} {K : Bool → Rho → Prop} : iT S xp (.one a) ρ K = (iT S xp a ρ K) := rfl
@[simp ↓] theorem zt_not {S : Sg} {xp : XP} {ρ : Rho} {a : C} {K : Bool → Rho → Prop} : iT S xp (.not a) ρ K = (iT S xp a ρ fun c ρ1 => K (!c) ρ1) := rfl
@[simp ↓] theorem zt_cmp {S : Sg} {xp : XP} {ρ : Rho} {o : COp} {a b : C} {K : Bool → Rho → Prop} : iT S xp (.cmp o a b) ρ K = (iE S xp a ρ fun x ρ1 => iE S xp b ρ1 fun y ρ2 => rdx ρ2 x fun dx => rdx ρ2 y fun dy => o.sem dx dy fun r => K r ρ2) := rfl
@[simp ↓] theorem zt_cmp2 {S : Sg} {xp : XP} {ρ : Rho} {o o' : COp} {a b c : C} {K : Bool → Rho → Prop} : iT S xp ((.cmp2 o o' a b c)) ρ K = (iE S xp a ρ fun x ρ1 => iE S xp b ρ1 fun y ρ2 => rdx ρ2 x fun dx => rdx ρ2 y fun dy => o.sem dx dy fun r => if r = true then iE S xp c ρ2 fun z ρ3 => rdx ρ3 y fun dy' => rdx ρ3 z fun dz => o'.sem dy' dz fun r' => K r' ρ3 else K false ρ2) := rfl
@[simp ↓] theorem zt_var {S : Sg} {xp : XP} {ρ : Rho} {i : Nat} {K : Bool → Rho → Prop} : iT S xp (.var i) ρ K = (rdx ρ (.pl i) fun d => truD d fun b => K b ρ) := rfl
@[simp ↓] theorem zt_bi {S : Sg} {xp : XP} {ρ : Rho} {b : Bi} {es : Cs} {K : Bool → Rho → Prop} : iT S xp (.bi b es) ρ K = (iXs S xp es ρ fun rs ρ1 => rdxs ρ1 rs fun ds => biT b ds fun b => K b ρ1) := by
  rw [← iRs_b]
  show (iRs S xp es ρ fun rs ρ1 => rdrs ρ1 rs fun ds => b.sem ds fun r => match r with
    | .d x => truD x fun b => K b ρ1
    | .n xs => K (!xs.isEmpty) ρ1) = _
  congr 1
  funext rs ρ1
  congr 1
  funext ds
  show _ = b.sem ds fun r => trR r fun b => K b ρ1
  congr 1
  funext r
  cases r <;> rfl
@[simp ↓] theorem o_no {S : Sg} {xp : XP} {ρ : Rho} {K : Option Int → Rho → Prop} : iO S xp .no ρ K = (K none ρ) := rfl
@[simp ↓] theorem o_so {S : Sg} {xp : XP} {ρ : Rho} {c : C} {K : Option Int → Rho → Prop} : iO S xp (.so c) ρ K = (iE S xp c ρ fun x ρ1 => asI x fun i => K (some i) ρ1) := by simp only [iE, iO, iI]; congr 1; funext x ρ1; cases x <;> first | rfl | (rename_i d; cases d <;> rfl)
@[simp ↓] theorem as_nil {S : Sg} {xp : XP} {ρ : Rho} {K : List D → Rho → Prop} : iAs S xp .nil ρ K = (K [] ρ) := rfl
@[simp ↓] theorem as_cons {S : Sg} {xp : XP} {ρ : Rho} {c : C} {r : Cs} {K : List D → Rho → Prop} : iAs S xp (.cons c r) ρ K = (iE S xp c ρ fun x ρ1 => fzx ρ1 x fun d ρ2 => iAs S xp r ρ2 fun ds ρ3 => K (d :: ds) ρ3) := rfl
@[simp ↓] theorem xs_nil {S : Sg} {xp : XP} {ρ : Rho} {K : List R → Rho → Prop} : iXs S xp .nil ρ K = (K [] ρ) := rfl
@[simp ↓] theorem xs_cons {S : Sg} {xp : XP} {ρ : Rho} {c : C} {r : Cs} {K : List R → Rho → Prop} : iXs S xp (.cons c r) ρ K = (iE S xp c ρ fun x ρ1 => iXs S xp r ρ1 fun rs ρ2 => K (x :: rs) ρ2) := rfl
@[simp ↓] theorem ts_nil {S : Sg} {xp : XP} {ρ : Rho} {K : Bool → Rho → Prop} : iTs S xp .nil ρ K = (K true ρ) := rfl
@[simp ↓] theorem ts_one {S : Sg} {xp : XP} {ρ : Rho} {c : C} {K : Bool → Rho → Prop} : iTs S xp (.cons c .nil) ρ K = (iT S xp c ρ K) := rfl
@[simp ↓] theorem i_seq {S : Sg} {xp : XP} {ρ : Rho} {c : C} {K : List D → Rho → Prop} : iI S xp (.seq c) ρ K = (iE S xp c ρ fun x ρ1 => fzx ρ1 x fun d ρ2 => itemsD d fun ds => K ds ρ2) := rfl
@[simp ↓] theorem i_rng1 {S : Sg} {xp : XP} {ρ : Rho} {c : C} {K : List D → Rho → Prop} : iI S xp (.rng1 c) ρ K = (iE S xp c ρ fun x ρ1 => asI x fun n => (-(2 ^ 62) ≤ n ∧ n < 2 ^ 62) ∧ K ((List.range n.toNat).map fun (k : Nat) => D.int (k : Int)) ρ1) := by simp only [iE, iO, iI]; congr 1; funext x ρ1; cases x <;> first | rfl | (rename_i d; cases d <;> rfl)
@[simp ↓] theorem i_rng2 {S : Sg} {xp : XP} {ρ : Rho} {a b : C} {K : List D → Rho → Prop} : iI S xp (.rng2 a b) ρ K = (iE S xp a ρ fun x ρ1 => iE S xp b ρ1 fun y ρ2 => asI x fun i => asI y fun j => (-(2 ^ 62) ≤ i ∧ i < 2 ^ 62 ∧ -(2 ^ 62) ≤ j ∧ j < 2 ^ 62) ∧ K ((List.range (j - i).toNat).map fun (k : Nat) => D.int (i + (k : Int))) ρ2) := by
  simp only [iI]
  congr 1
  funext x ρ1
  congr 1
  funext y ρ2
  cases x <;> cases y <;> first | rfl | (rename_i d e; cases d <;> cases e <;> rfl) | (rename_i d e; cases d <;> rfl) | (rename_i d e; cases e <;> rfl)
@[simp ↓] theorem i_zip {S : Sg} {xp : XP} {ρ : Rho} {a b : C} {K : List D → Rho → Prop} : iI S xp (.zip a b) ρ K = (iE S xp a ρ fun x ρ1 => fzx ρ1 x fun dx ρ2 => iE S xp b ρ2 fun y ρ3 => fzx ρ3 y fun dy ρ4 => zipD dx dy fun ds => K ds ρ4) := rfl
@[simp ↓] theorem zip_ll {xs ys : List D} {K : List D → Prop} : zipD (.lst xs) (.lst ys) K = (K (List.zipWith (fun x y => .tup [x, y]) xs ys)) := rfl
@[simp ↓] theorem zs_tgt {S : Sg} {xp : XP} {ρ : Rho} {t : Tg} {c : C} {E : DE} : iS S xp (.tgt t c) ρ E = (iE S xp c ρ fun r ρ1 => fzx ρ1 r fun d ρ2 => tgD t d ρ2 E.nx) := rfl
@[simp ↓] theorem zs_set {S : Sg} {xp : XP} {ρ : Rho} {i : Nat} {c : C} {E : DE} : iS S xp (.set i c) ρ E = (iE S xp c ρ fun r ρ1 => setR ρ1 i r E.nx) := rfl
@[simp ↓] theorem zs_par {S : Sg} {xp : XP} {ρ : Rho} {i j : Nat} {a b : C} {E : DE} : iS S xp (.par i j a b) ρ E = (iE S xp a ρ fun x ρ1 => fzx ρ1 x fun d ρ2 => iE S xp b ρ2 fun y ρ3 => fzx ρ3 y fun e ρ4 => (open? ρ4 i = true ∧ open? ρ4 j = true) ∧ E.nx ((ρ4.set i (.fz d)).set j (.fz e))) := rfl
@[simp ↓] theorem zs_seti {S : Sg} {xp : XP} {ρ : Rho} {i : Nat} {k c : C} {E : DE} : iS S xp (.seti i k c) ρ E = (iE S xp c ρ fun x ρ1 => fzx ρ1 x fun d ρ2 => isOw ρ2 i = true ∧ iE S xp k ρ2 fun y ρ3 => asI y fun n => owc i ρ3 fun xs up => stK xs n d fun zs => E.nx (up zs)) := by
  simp only [iS]
  congr 1
  funext x ρ1
  unfold fzx
  congr 1
  funext d ρ2
  congr 1
  congr 1
  funext y ρ3
  unfold owc
  cases y <;> first
    | (rename_i d; cases d <;> first | rfl | (cases ρ3[i]? <;> first | rfl | (rename_i s; cases s <;> rfl)))
    | rfl
@[simp ↓] theorem zs_augi {S : Sg} {xp : XP} {ρ : Rho} {i : Nat} {k c : C} {E : DE} : iS S xp (.augi i k c) ρ E = (isOw ρ i = true ∧ iE S xp k ρ fun y ρ1 => asI y fun n => owc i ρ1 fun xs _ => exI (atI xs n) fun m => iE S xp c ρ1 fun z ρ2 => asI z fun l => owc i ρ2 fun ys up => stK ys n (.int (m + l)) fun zs => E.nx (up zs)) := by
  simp only [iS]
  congr 1
  congr 1
  funext y ρ1
  unfold owc
  cases y <;> first
    | (rename_i d
       cases d <;> first
         | rfl
         | (cases ρ1[i]? <;> first
             | rfl
             | (rename_i s
                cases s <;> first
                  | rfl
                  | (refine congrArg Exists (funext fun m => congrArg (And _) (congrArg (iE S xp c ρ1) (funext fun z => funext fun ρ2 => ?_)))
                     cases z <;> first
                       | (rename_i d; cases d <;> first | rfl | (cases ρ2[i]? <;> first | rfl | (rename_i s; cases s <;> rfl)))
                       | rfl))))
    | rfl
@[simp ↓] theorem zs_aug {S : Sg} {xp : XP} {ρ : Rho} {i : Nat} {c : C} {E : DE} : iS S xp (.aug i c) ρ E = (fzc i ρ fun dx => iE S xp c ρ fun y ρ1 => rdx ρ1 y fun dy => inK dx fun m => inK dy fun l => setR ρ1 i (.v (.int (m + l))) E.nx) := by
  simp only [iS]
  unfold fzc
  cases ρ[i]? <;> first
    | rfl
    | (rename_i s
       cases s <;> first
         | rfl
         | (refine congrArg (iE S xp c ρ) (funext fun y => funext fun ρ1 => congrArg (rdr ρ1 y.stl) (funext fun dy => ?_))
            rename_i dx
            cases dx <;> cases dy <;> rfl))
@[simp ↓] theorem zs_app {S : Sg} {xp : XP} {ρ : Rho} {i : Nat} {c : C} {E : DE} : iS S xp (.app i c) ρ E = (isOw ρ i = true ∧ iE S xp c ρ fun x ρ1 => fzx ρ1 x fun d ρ2 => owc i ρ2 fun xs up => xs.length < sizeLine ∧ E.nx (up (xs ++ [d]))) := by
  simp only [iS]
  first
    | done
    | (congr 1
       first
         | done
         | (congr 1
            funext x ρ1
            unfold fzx
            congr 1
            funext d ρ2
            unfold owc
            cases ρ2[i]? <;> first | rfl | (rename_i s; cases s <;> rfl)))
@[simp ↓] theorem zs_ex {S : Sg} {xp : XP} {ρ : Rho} {c : C} {E : DE} : iS S xp (.ex c) ρ E = (iE S xp c ρ fun _ ρ1 => E.nx ρ1) := rfl
@[simp ↓] theorem zs_ret {S : Sg} {xp : XP} {ρ : Rho} {c : C} {E : DE} : iS S xp (.ret c) ρ E = (iE S xp c ρ E.rt) := rfl
@[simp ↓] theorem zs_retn {S : Sg} {xp : XP} {ρ : Rho}  {E : DE} : iS S xp (.retn) ρ E = (E.rt (.v .non) ρ) := rfl
@[simp ↓] theorem zs_ife {S : Sg} {xp : XP} {ρ : Rho} {t : C} {a b : Ss} {E : DE} : iS S xp (.ife t a b) ρ E = (iT S xp t ρ fun c ρ1 => if c = true then iSs S xp a ρ1 E else iSs S xp b ρ1 E) := rfl
@[simp ↓] theorem zs_for {S : Sg} {xp : XP} {ρ : Rho} {t : Tg} {it : Src} {b : Ss} {E : DE} : iS S xp (.for t it b) ρ E = (iI S xp it ρ fun ds ρ1 => forD t (iSs S xp b) ds ρ1 E) := rfl
@[simp ↓] theorem zs_pass {S : Sg} {xp : XP} {ρ : Rho}  {E : DE} : iS S xp (.pass) ρ E = (E.nx ρ) := rfl
@[simp ↓] theorem zs_brk {S : Sg} {xp : XP} {ρ : Rho}  {E : DE} : iS S xp (.brk) ρ E = (E.bk ρ) := rfl
@[simp ↓] theorem zs_cont {S : Sg} {xp : XP} {ρ : Rho}  {E : DE} : iS S xp (.cont) ρ E = (E.ct ρ) := rfl
@[simp ↓] theorem zs_nev {S : Sg} {xp : XP} {ρ : Rho}  {E : DE} : iS S xp (.nev) ρ E = (False) := rfl
theorem zs_raiseh {S : Sg} {xp : XP} {ρ : Rho} {k : Nat} {c : Str × Str} {E : DE} (h : S.cs[k]? = some c) : iS S xp (.raise k) ρ E = xp ⟨k, [("word", .str c.2)]⟩ ρ := by show (match S.cs[k]? with | some c => xp ⟨k, [("word", .str c.2)]⟩ ρ | none => False) = _; rw [h]
@[simp ↓] theorem ss_nil {S : Sg} {xp : XP} {ρ : Rho} {E : DE} : iSs S xp .nil ρ E = (E.nx ρ) := rfl
@[simp ↓] theorem ss_cons {S : Sg} {xp : XP} {ρ : Rho} {s : Sm} {r : Ss} {E : DE} : iSs S xp (.cons s r) ρ E = (iS S xp s ρ { E with nx := fun ρ1 => iSs S xp r ρ1 E }) := rfl
@[simp ↓] theorem rdx_v {ρ : Rho} {d : D} {K : D → Prop} : rdx ρ (.v d) K = (K d) := rfl
@[simp ↓] theorem rdx_n {ρ : Rho} {xs : List D} {K : D → Prop} : rdx ρ (.n xs) K = (K (.lst xs)) := rfl
@[simp ↓] theorem fzx_v {ρ : Rho} {d : D} {K : D → Rho → Prop} : fzx ρ (.v d) K = (K d ρ) := rfl
@[simp ↓] theorem fzx_n {ρ : Rho} {xs : List D} {K : D → Rho → Prop} : fzx ρ (.n xs) K = (K (.lst xs) ρ) := rfl
@[simp ↓] theorem asI_v {n : Int} {K : Int → Prop} : asI (.v (.int n)) K = (K n) := rfl
@[simp ↓] theorem asB_v {n : Bool} {K : Bool → Prop} : asB (.v (.bl n)) K = (K n) := rfl
@[simp ↓] theorem inK_i {n : Int} {K : Int → Prop} : inK (.int n) K = (K n) := rfl
@[simp ↓] theorem gvK_s {e : D} {K : D → Prop} : gvK (some e) K = (K e) := rfl
@[simp ↓] theorem exK_s {α : Type} {a : α} {K : α → Prop} : exK (some a) K = (K a) := by unfold exK; simp
@[simp ↓] theorem exI_s {a : Int} {K : Int → Prop} : exI (some (.int a)) K = (K a) := by unfold exI; simp
@[simp ↓] theorem rdxs_nil {ρ : Rho} {K : List D → Prop} : rdxs ρ [] K = (K []) := rfl
@[simp ↓] theorem rdxs_cons {ρ : Rho} {r : R} {rs : List R} {K : List D → Prop} : rdxs ρ (r :: rs) K = (rdx ρ r fun d => rdxs ρ rs fun ds => K (d :: ds)) := rfl
@[simp ↓] theorem opS_t {xs : List D} : opS (.ow true xs) = (false) := rfl
@[simp ↓] theorem opS_f {xs : List D} : opS (.ow false xs) = (true) := rfl
@[simp ↓] theorem opS_z {d : D} : opS (.fz d) = (true) := rfl
@[simp ↓] theorem opS_o  : opS .no = (true) := rfl
@[simp ↓] theorem noS_f {b : Bool} {xs : List D} : noS (.ow b xs) = (false) := rfl
@[simp ↓] theorem noS_z {d : D} : noS (.fz d) = (true) := rfl
@[simp ↓] theorem noS_o  : noS .no = (true) := rfl
@[simp] theorem opS_tp {xs : List D} : opS (.ow true xs) = (false) := rfl
@[simp] theorem opS_fp {xs : List D} : opS (.ow false xs) = (true) := rfl
@[simp] theorem opS_zp {d : D} : opS (.fz d) = (true) := rfl
@[simp] theorem opS_op  : opS .no = (true) := rfl
@[simp] theorem noS_fp {b : Bool} {xs : List D} : noS (.ow b xs) = (false) := rfl
@[simp] theorem noS_zp {d : D} : noS (.fz d) = (true) := rfl
@[simp] theorem noS_op  : noS .no = (true) := rfl
@[simp ↓] theorem bag_t {xs : List D} {r : Rho} : bagOf true (.ow true xs :: r) = (xs) := rfl
@[simp ↓] theorem bag_f {ρ : Rho} : bagOf false ρ = ([]) := rfl
@[simp ↓] theorem fin_v {m : Bool} {Kd : Res → List D → Prop} {d : D} {ρ : Rho} : finR m Kd (.v d) ρ = (Kd (.d d) (bagOf m ρ)) := rfl
@[simp ↓] theorem fin_n {m : Bool} {Kd : Res → List D → Prop} {xs : List D} {ρ : Rho} : finR m Kd (.n xs) ρ = (Kd (.n xs) (bagOf m ρ)) := rfl
@[simp ↓] theorem st_f0 {bag args : List D} {z : Nat} : start0 false bag args z = (args.map Sl.fz ++ List.replicate z Sl.no) := rfl
@[simp ↓] theorem st_t0 {bag args : List D} {z : Nat} : start0 true bag args z = (.ow true bag :: (args.map Sl.fz ++ List.replicate z Sl.no)) := rfl
@[simp ↓] theorem tg_tp {ts : Tgs} {xs : List D} {ρ : Rho} {K : Rho → Prop} : tgD (.tp ts) (.tup xs) ρ K = (tgsD ts xs ρ K) := rfl
@[simp ↓] theorem tgs_nil {ρ : Rho} {K : Rho → Prop} : tgsD .nil [] ρ K = (K ρ) := rfl
@[simp ↓] theorem tgs_cons {t : Tg} {r : Tgs} {d : D} {ds : List D} {ρ : Rho} {K : Rho → Prop} : tgsD (.cons t r) (d :: ds) ρ K = (tgD t d ρ fun ρ1 => tgsD r ds ρ1 K) := rfl
@[simp ↓] theorem v0_z {S : Sg} {xp : XP} {d : D} {r : Rho} {K : KR} : iE S xp (.var 0) (.fz d :: r) K = (K (.v d) (.fz d :: r)) := rfl
@[simp ↓] theorem v0_w {S : Sg} {xp : XP} {b : Bool} {xs : List D} {r : Rho} {K : KR} : iE S xp (.var 0) (.ow b xs :: r) K = (K (.pl 0) (.ow b xs :: r)) := rfl
@[simp ↓] theorem rp0_z {d : D} {r : Rho} {K : D → Prop} : rdx (.fz d :: r) (.pl 0) K = (K d) := rfl
@[simp ↓] theorem rp0_w {b : Bool} {xs : List D} {r : Rho} {K : D → Prop} : rdx (.ow b xs :: r) (.pl 0) K = (K (.lst xs)) := rfl
@[simp ↓] theorem fp0_z {d : D} {r : Rho} {K : D → Rho → Prop} : fzx (.fz d :: r) (.pl 0) K = (K d (.fz d :: r)) := rfl
@[simp ↓] theorem fp0_w {xs : List D} {r : Rho} {K : D → Rho → Prop} : fzx (.ow false xs :: r) (.pl 0) K = (K (.lst xs) (.fz (.lst xs) :: r)) := rfl
@[simp ↓] theorem sv0 {s : Sl} {d : D} {r : Rho} {K : Rho → Prop} : setR (s :: r) 0 (.v d) K = (opS s = true ∧ K (.fz d :: r)) := by cases s <;> first | rfl | (rename_i b xs; cases b <;> rfl)
@[simp ↓] theorem sn0 {s : Sl} {xs : List D} {r : Rho} {K : Rho → Prop} : setR (s :: r) 0 (.n xs) K = (opS s = true ∧ K (.ow false xs :: r)) := by cases s <;> first | rfl | (rename_i b xs; cases b <;> rfl)
@[simp ↓] theorem tg0 {s : Sl} {d : D} {r : Rho} {K : Rho → Prop} : tgD (.nm 0) d (s :: r) K = (opS s = true ∧ K (.fz d :: r)) := by cases s <;> first | rfl | (rename_i b xs; cases b <;> rfl)
@[simp ↓] theorem op0 {s : Sl} {r : Rho} : open? (s :: r) 0 = (opS s) := by cases s <;> first | rfl | (rename_i b xs; cases b <;> rfl)
@[simp ↓] theorem no0 {s : Sl} {r : Rho} : notOw (s :: r) 0 = (noS s) := by cases s <;> rfl
@[simp ↓] theorem io0 {b : Bool} {xs : List D} {r : Rho} : isOw (.ow b xs :: r) 0 = (true) := rfl
@[simp ↓] theorem oc0 {b : Bool} {xs : List D} {r : Rho} {K : List D → (List D → Rho) → Prop} : owc 0 (.ow b xs :: r) K = (K xs fun ys => (.ow b ys :: r)) := rfl
@[simp ↓] theorem fzl0_w {xs : List D} {l : List Nat} {r : Rho} : frzL (.ow false xs :: r) (0 :: l) = (frzL (.fz (.lst xs) :: r) l) := rfl
@[simp ↓] theorem fzl0_z {d : D} {l : List Nat} {r : Rho} : frzL (.fz d :: r) (0 :: l) = (frzL (.fz d :: r) l) := rfl
@[simp ↓] theorem fzl0_o {l : List Nat} {r : Rho} : frzL (.no :: r) (0 :: l) = (frzL (.no :: r) l) := rfl
@[simp ↓] theorem zc0 {d : D} {r : Rho} {K : D → Prop} : fzc 0 (.fz d :: r) K = (K d) := rfl
@[simp ↓] theorem fn0_z {m : Bool} {Kd : Res → List D → Prop} {d : D} {r : Rho} : finR m Kd (.pl 0) (.fz d :: r) = (Kd (.d d) (bagOf m (.fz d :: r))) := rfl
@[simp ↓] theorem fn0_w {m : Bool} {Kd : Res → List D → Prop} {xs : List D} {r : Rho} : finR m Kd (.pl 0) (.ow false xs :: r) = (Kd (.n xs) (bagOf m (.ow false xs :: r))) := rfl
@[simp ↓] theorem v1_z {S : Sg} {xp : XP} {s0 : Sl} {d : D} {r : Rho} {K : KR} : iE S xp (.var 1) (s0 :: .fz d :: r) K = (K (.v d) (s0 :: .fz d :: r)) := rfl
@[simp ↓] theorem v1_w {S : Sg} {xp : XP} {s0 : Sl} {b : Bool} {xs : List D} {r : Rho} {K : KR} : iE S xp (.var 1) (s0 :: .ow b xs :: r) K = (K (.pl 1) (s0 :: .ow b xs :: r)) := rfl
@[simp ↓] theorem rp1_z {s0 : Sl} {d : D} {r : Rho} {K : D → Prop} : rdx (s0 :: .fz d :: r) (.pl 1) K = (K d) := rfl
@[simp ↓] theorem rp1_w {s0 : Sl} {b : Bool} {xs : List D} {r : Rho} {K : D → Prop} : rdx (s0 :: .ow b xs :: r) (.pl 1) K = (K (.lst xs)) := rfl
@[simp ↓] theorem fp1_z {s0 : Sl} {d : D} {r : Rho} {K : D → Rho → Prop} : fzx (s0 :: .fz d :: r) (.pl 1) K = (K d (s0 :: .fz d :: r)) := rfl
@[simp ↓] theorem fp1_w {s0 : Sl} {xs : List D} {r : Rho} {K : D → Rho → Prop} : fzx (s0 :: .ow false xs :: r) (.pl 1) K = (K (.lst xs) (s0 :: .fz (.lst xs) :: r)) := rfl
@[simp ↓] theorem sv1 {s0 : Sl} {s : Sl} {d : D} {r : Rho} {K : Rho → Prop} : setR (s0 :: s :: r) 1 (.v d) K = (opS s = true ∧ K (s0 :: .fz d :: r)) := by cases s <;> first | rfl | (rename_i b xs; cases b <;> rfl)
@[simp ↓] theorem sn1 {s0 : Sl} {s : Sl} {xs : List D} {r : Rho} {K : Rho → Prop} : setR (s0 :: s :: r) 1 (.n xs) K = (opS s = true ∧ K (s0 :: .ow false xs :: r)) := by cases s <;> first | rfl | (rename_i b xs; cases b <;> rfl)
@[simp ↓] theorem tg1 {s0 : Sl} {s : Sl} {d : D} {r : Rho} {K : Rho → Prop} : tgD (.nm 1) d (s0 :: s :: r) K = (opS s = true ∧ K (s0 :: .fz d :: r)) := by cases s <;> first | rfl | (rename_i b xs; cases b <;> rfl)
@[simp ↓] theorem op1 {s0 : Sl} {s : Sl} {r : Rho} : open? (s0 :: s :: r) 1 = (opS s) := by cases s <;> first | rfl | (rename_i b xs; cases b <;> rfl)
@[simp ↓] theorem no1 {s0 : Sl} {s : Sl} {r : Rho} : notOw (s0 :: s :: r) 1 = (noS s) := by cases s <;> rfl
@[simp ↓] theorem io1 {s0 : Sl} {b : Bool} {xs : List D} {r : Rho} : isOw (s0 :: .ow b xs :: r) 1 = (true) := rfl
@[simp ↓] theorem oc1 {s0 : Sl} {b : Bool} {xs : List D} {r : Rho} {K : List D → (List D → Rho) → Prop} : owc 1 (s0 :: .ow b xs :: r) K = (K xs fun ys => (s0 :: .ow b ys :: r)) := rfl
@[simp ↓] theorem fzl1_w {s0 : Sl} {xs : List D} {l : List Nat} {r : Rho} : frzL (s0 :: .ow false xs :: r) (1 :: l) = (frzL (s0 :: .fz (.lst xs) :: r) l) := rfl
@[simp ↓] theorem fzl1_z {s0 : Sl} {d : D} {l : List Nat} {r : Rho} : frzL (s0 :: .fz d :: r) (1 :: l) = (frzL (s0 :: .fz d :: r) l) := rfl
@[simp ↓] theorem fzl1_o {s0 : Sl} {l : List Nat} {r : Rho} : frzL (s0 :: .no :: r) (1 :: l) = (frzL (s0 :: .no :: r) l) := rfl
@[simp ↓] theorem zc1 {s0 : Sl} {d : D} {r : Rho} {K : D → Prop} : fzc 1 (s0 :: .fz d :: r) K = (K d) := rfl
@[simp ↓] theorem fn1_z {m : Bool} {Kd : Res → List D → Prop} {s0 : Sl} {d : D} {r : Rho} : finR m Kd (.pl 1) (s0 :: .fz d :: r) = (Kd (.d d) (bagOf m (s0 :: .fz d :: r))) := rfl
@[simp ↓] theorem fn1_w {m : Bool} {Kd : Res → List D → Prop} {s0 : Sl} {xs : List D} {r : Rho} : finR m Kd (.pl 1) (s0 :: .ow false xs :: r) = (Kd (.n xs) (bagOf m (s0 :: .ow false xs :: r))) := rfl
@[simp ↓] theorem v2_z {S : Sg} {xp : XP} {s0 s1 : Sl} {d : D} {r : Rho} {K : KR} : iE S xp (.var 2) (s0 :: s1 :: .fz d :: r) K = (K (.v d) (s0 :: s1 :: .fz d :: r)) := rfl
@[simp ↓] theorem v2_w {S : Sg} {xp : XP} {s0 s1 : Sl} {b : Bool} {xs : List D} {r : Rho} {K : KR} : iE S xp (.var 2) (s0 :: s1 :: .ow b xs :: r) K = (K (.pl 2) (s0 :: s1 :: .ow b xs :: r)) := rfl
@[simp ↓] theorem rp2_z {s0 s1 : Sl} {d : D} {r : Rho} {K : D → Prop} : rdx (s0 :: s1 :: .fz d :: r) (.pl 2) K = (K d) := rfl
@[simp ↓] theorem rp2_w {s0 s1 : Sl} {b : Bool} {xs : List D} {r : Rho} {K : D → Prop} : rdx (s0 :: s1 :: .ow b xs :: r) (.pl 2) K = (K (.lst xs)) := rfl
@[simp ↓] theorem fp2_z {s0 s1 : Sl} {d : D} {r : Rho} {K : D → Rho → Prop} : fzx (s0 :: s1 :: .fz d :: r) (.pl 2) K = (K d (s0 :: s1 :: .fz d :: r)) := rfl
@[simp ↓] theorem fp2_w {s0 s1 : Sl} {xs : List D} {r : Rho} {K : D → Rho → Prop} : fzx (s0 :: s1 :: .ow false xs :: r) (.pl 2) K = (K (.lst xs) (s0 :: s1 :: .fz (.lst xs) :: r)) := rfl
@[simp ↓] theorem sv2 {s0 s1 : Sl} {s : Sl} {d : D} {r : Rho} {K : Rho → Prop} : setR (s0 :: s1 :: s :: r) 2 (.v d) K = (opS s = true ∧ K (s0 :: s1 :: .fz d :: r)) := by cases s <;> first | rfl | (rename_i b xs; cases b <;> rfl)
@[simp ↓] theorem sn2 {s0 s1 : Sl} {s : Sl} {xs : List D} {r : Rho} {K : Rho → Prop} : setR (s0 :: s1 :: s :: r) 2 (.n xs) K = (opS s = true ∧ K (s0 :: s1 :: .ow false xs :: r)) := by cases s <;> first | rfl | (rename_i b xs; cases b <;> rfl)
@[simp ↓] theorem tg2 {s0 s1 : Sl} {s : Sl} {d : D} {r : Rho} {K : Rho → Prop} : tgD (.nm 2) d (s0 :: s1 :: s :: r) K = (opS s = true ∧ K (s0 :: s1 :: .fz d :: r)) := by cases s <;> first | rfl | (rename_i b xs; cases b <;> rfl)
@[simp ↓] theorem op2 {s0 s1 : Sl} {s : Sl} {r : Rho} : open? (s0 :: s1 :: s :: r) 2 = (opS s) := by cases s <;> first | rfl | (rename_i b xs; cases b <;> rfl)
@[simp ↓] theorem no2 {s0 s1 : Sl} {s : Sl} {r : Rho} : notOw (s0 :: s1 :: s :: r) 2 = (noS s) := by cases s <;> rfl
@[simp ↓] theorem io2 {s0 s1 : Sl} {b : Bool} {xs : List D} {r : Rho} : isOw (s0 :: s1 :: .ow b xs :: r) 2 = (true) := rfl
@[simp ↓] theorem oc2 {s0 s1 : Sl} {b : Bool} {xs : List D} {r : Rho} {K : List D → (List D → Rho) → Prop} : owc 2 (s0 :: s1 :: .ow b xs :: r) K = (K xs fun ys => (s0 :: s1 :: .ow b ys :: r)) := rfl
@[simp ↓] theorem fzl2_w {s0 s1 : Sl} {xs : List D} {l : List Nat} {r : Rho} : frzL (s0 :: s1 :: .ow false xs :: r) (2 :: l) = (frzL (s0 :: s1 :: .fz (.lst xs) :: r) l) := rfl
@[simp ↓] theorem fzl2_z {s0 s1 : Sl} {d : D} {l : List Nat} {r : Rho} : frzL (s0 :: s1 :: .fz d :: r) (2 :: l) = (frzL (s0 :: s1 :: .fz d :: r) l) := rfl
@[simp ↓] theorem fzl2_o {s0 s1 : Sl} {l : List Nat} {r : Rho} : frzL (s0 :: s1 :: .no :: r) (2 :: l) = (frzL (s0 :: s1 :: .no :: r) l) := rfl
@[simp ↓] theorem zc2 {s0 s1 : Sl} {d : D} {r : Rho} {K : D → Prop} : fzc 2 (s0 :: s1 :: .fz d :: r) K = (K d) := rfl
@[simp ↓] theorem fn2_z {m : Bool} {Kd : Res → List D → Prop} {s0 s1 : Sl} {d : D} {r : Rho} : finR m Kd (.pl 2) (s0 :: s1 :: .fz d :: r) = (Kd (.d d) (bagOf m (s0 :: s1 :: .fz d :: r))) := rfl
@[simp ↓] theorem fn2_w {m : Bool} {Kd : Res → List D → Prop} {s0 s1 : Sl} {xs : List D} {r : Rho} : finR m Kd (.pl 2) (s0 :: s1 :: .ow false xs :: r) = (Kd (.n xs) (bagOf m (s0 :: s1 :: .ow false xs :: r))) := rfl
@[simp ↓] theorem v3_z {S : Sg} {xp : XP} {s0 s1 s2 : Sl} {d : D} {r : Rho} {K : KR} : iE S xp (.var 3) (s0 :: s1 :: s2 :: .fz d :: r) K = (K (.v d) (s0 :: s1 :: s2 :: .fz d :: r)) := rfl
@[simp ↓] theorem v3_w {S : Sg} {xp : XP} {s0 s1 s2 : Sl} {b : Bool} {xs : List D} {r : Rho} {K : KR} : iE S xp (.var 3) (s0 :: s1 :: s2 :: .ow b xs :: r) K = (K (.pl 3) (s0 :: s1 :: s2 :: .ow b xs :: r)) := rfl
@[simp ↓] theorem rp3_z {s0 s1 s2 : Sl} {d : D} {r : Rho} {K : D → Prop} : rdx (s0 :: s1 :: s2 :: .fz d :: r) (.pl 3) K = (K d) := rfl
@[simp ↓] theorem rp3_w {s0 s1 s2 : Sl} {b : Bool} {xs : List D} {r : Rho} {K : D → Prop} : rdx (s0 :: s1 :: s2 :: .ow b xs :: r) (.pl 3) K = (K (.lst xs)) := rfl
@[simp ↓] theorem fp3_z {s0 s1 s2 : Sl} {d : D} {r : Rho} {K : D → Rho → Prop} : fzx (s0 :: s1 :: s2 :: .fz d :: r) (.pl 3) K = (K d (s0 :: s1 :: s2 :: .fz d :: r)) := rfl
@[simp ↓] theorem fp3_w {s0 s1 s2 : Sl} {xs : List D} {r : Rho} {K : D → Rho → Prop} : fzx (s0 :: s1 :: s2 :: .ow false xs :: r) (.pl 3) K = (K (.lst xs) (s0 :: s1 :: s2 :: .fz (.lst xs) :: r)) := rfl
@[simp ↓] theorem sv3 {s0 s1 s2 : Sl} {s : Sl} {d : D} {r : Rho} {K : Rho → Prop} : setR (s0 :: s1 :: s2 :: s :: r) 3 (.v d) K = (opS s = true ∧ K (s0 :: s1 :: s2 :: .fz d :: r)) := by cases s <;> first | rfl | (rename_i b xs; cases b <;> rfl)
@[simp ↓] theorem sn3 {s0 s1 s2 : Sl} {s : Sl} {xs : List D} {r : Rho} {K : Rho → Prop} : setR (s0 :: s1 :: s2 :: s :: r) 3 (.n xs) K = (opS s = true ∧ K (s0 :: s1 :: s2 :: .ow false xs :: r)) := by cases s <;> first | rfl | (rename_i b xs; cases b <;> rfl)
@[simp ↓] theorem tg3 {s0 s1 s2 : Sl} {s : Sl} {d : D} {r : Rho} {K : Rho → Prop} : tgD (.nm 3) d (s0 :: s1 :: s2 :: s :: r) K = (opS s = true ∧ K (s0 :: s1 :: s2 :: .fz d :: r)) := by cases s <;> first | rfl | (rename_i b xs; cases b <;> rfl)
@[simp ↓] theorem op3 {s0 s1 s2 : Sl} {s : Sl} {r : Rho} : open? (s0 :: s1 :: s2 :: s :: r) 3 = (opS s) := by cases s <;> first | rfl | (rename_i b xs; cases b <;> rfl)
@[simp ↓] theorem no3 {s0 s1 s2 : Sl} {s : Sl} {r : Rho} : notOw (s0 :: s1 :: s2 :: s :: r) 3 = (noS s) := by cases s <;> rfl
@[simp ↓] theorem io3 {s0 s1 s2 : Sl} {b : Bool} {xs : List D} {r : Rho} : isOw (s0 :: s1 :: s2 :: .ow b xs :: r) 3 = (true) := rfl
@[simp ↓] theorem oc3 {s0 s1 s2 : Sl} {b : Bool} {xs : List D} {r : Rho} {K : List D → (List D → Rho) → Prop} : owc 3 (s0 :: s1 :: s2 :: .ow b xs :: r) K = (K xs fun ys => (s0 :: s1 :: s2 :: .ow b ys :: r)) := rfl
@[simp ↓] theorem fzl3_w {s0 s1 s2 : Sl} {xs : List D} {l : List Nat} {r : Rho} : frzL (s0 :: s1 :: s2 :: .ow false xs :: r) (3 :: l) = (frzL (s0 :: s1 :: s2 :: .fz (.lst xs) :: r) l) := rfl
@[simp ↓] theorem fzl3_z {s0 s1 s2 : Sl} {d : D} {l : List Nat} {r : Rho} : frzL (s0 :: s1 :: s2 :: .fz d :: r) (3 :: l) = (frzL (s0 :: s1 :: s2 :: .fz d :: r) l) := rfl
@[simp ↓] theorem fzl3_o {s0 s1 s2 : Sl} {l : List Nat} {r : Rho} : frzL (s0 :: s1 :: s2 :: .no :: r) (3 :: l) = (frzL (s0 :: s1 :: s2 :: .no :: r) l) := rfl
@[simp ↓] theorem zc3 {s0 s1 s2 : Sl} {d : D} {r : Rho} {K : D → Prop} : fzc 3 (s0 :: s1 :: s2 :: .fz d :: r) K = (K d) := rfl
@[simp ↓] theorem fn3_z {m : Bool} {Kd : Res → List D → Prop} {s0 s1 s2 : Sl} {d : D} {r : Rho} : finR m Kd (.pl 3) (s0 :: s1 :: s2 :: .fz d :: r) = (Kd (.d d) (bagOf m (s0 :: s1 :: s2 :: .fz d :: r))) := rfl
@[simp ↓] theorem fn3_w {m : Bool} {Kd : Res → List D → Prop} {s0 s1 s2 : Sl} {xs : List D} {r : Rho} : finR m Kd (.pl 3) (s0 :: s1 :: s2 :: .ow false xs :: r) = (Kd (.n xs) (bagOf m (s0 :: s1 :: s2 :: .ow false xs :: r))) := rfl
@[simp ↓] theorem v4_z {S : Sg} {xp : XP} {s0 s1 s2 s3 : Sl} {d : D} {r : Rho} {K : KR} : iE S xp (.var 4) (s0 :: s1 :: s2 :: s3 :: .fz d :: r) K = (K (.v d) (s0 :: s1 :: s2 :: s3 :: .fz d :: r)) := rfl
@[simp ↓] theorem v4_w {S : Sg} {xp : XP} {s0 s1 s2 s3 : Sl} {b : Bool} {xs : List D} {r : Rho} {K : KR} : iE S xp (.var 4) (s0 :: s1 :: s2 :: s3 :: .ow b xs :: r) K = (K (.pl 4) (s0 :: s1 :: s2 :: s3 :: .ow b xs :: r)) := rfl
@[simp ↓] theorem rp4_z {s0 s1 s2 s3 : Sl} {d : D} {r : Rho} {K : D → Prop} : rdx (s0 :: s1 :: s2 :: s3 :: .fz d :: r) (.pl 4) K = (K d) := rfl
@[simp ↓] theorem rp4_w {s0 s1 s2 s3 : Sl} {b : Bool} {xs : List D} {r : Rho} {K : D → Prop} : rdx (s0 :: s1 :: s2 :: s3 :: .ow b xs :: r) (.pl 4) K = (K (.lst xs)) := rfl
@[simp ↓] theorem fp4_z {s0 s1 s2 s3 : Sl} {d : D} {r : Rho} {K : D → Rho → Prop} : fzx (s0 :: s1 :: s2 :: s3 :: .fz d :: r) (.pl 4) K = (K d (s0 :: s1 :: s2 :: s3 :: .fz d :: r)) := rfl
@[simp ↓] theorem fp4_w {s0 s1 s2 s3 : Sl} {xs : List D} {r : Rho} {K : D → Rho → Prop} : fzx (s0 :: s1 :: s2 :: s3 :: .ow false xs :: r) (.pl 4) K = (K (.lst xs) (s0 :: s1 :: s2 :: s3 :: .fz (.lst xs) :: r)) := rfl
@[simp ↓] theorem sv4 {s0 s1 s2 s3 : Sl} {s : Sl} {d : D} {r : Rho} {K : Rho → Prop} : setR (s0 :: s1 :: s2 :: s3 :: s :: r) 4 (.v d) K = (opS s = true ∧ K (s0 :: s1 :: s2 :: s3 :: .fz d :: r)) := by cases s <;> first | rfl | (rename_i b xs; cases b <;> rfl)
@[simp ↓] theorem sn4 {s0 s1 s2 s3 : Sl} {s : Sl} {xs : List D} {r : Rho} {K : Rho → Prop} : setR (s0 :: s1 :: s2 :: s3 :: s :: r) 4 (.n xs) K = (opS s = true ∧ K (s0 :: s1 :: s2 :: s3 :: .ow false xs :: r)) := by cases s <;> first | rfl | (rename_i b xs; cases b <;> rfl)
@[simp ↓] theorem tg4 {s0 s1 s2 s3 : Sl} {s : Sl} {d : D} {r : Rho} {K : Rho → Prop} : tgD (.nm 4) d (s0 :: s1 :: s2 :: s3 :: s :: r) K = (opS s = true ∧ K (s0 :: s1 :: s2 :: s3 :: .fz d :: r)) := by cases s <;> first | rfl | (rename_i b xs; cases b <;> rfl)
@[simp ↓] theorem op4 {s0 s1 s2 s3 : Sl} {s : Sl} {r : Rho} : open? (s0 :: s1 :: s2 :: s3 :: s :: r) 4 = (opS s) := by cases s <;> first | rfl | (rename_i b xs; cases b <;> rfl)
@[simp ↓] theorem no4 {s0 s1 s2 s3 : Sl} {s : Sl} {r : Rho} : notOw (s0 :: s1 :: s2 :: s3 :: s :: r) 4 = (noS s) := by cases s <;> rfl
@[simp ↓] theorem io4 {s0 s1 s2 s3 : Sl} {b : Bool} {xs : List D} {r : Rho} : isOw (s0 :: s1 :: s2 :: s3 :: .ow b xs :: r) 4 = (true) := rfl
@[simp ↓] theorem oc4 {s0 s1 s2 s3 : Sl} {b : Bool} {xs : List D} {r : Rho} {K : List D → (List D → Rho) → Prop} : owc 4 (s0 :: s1 :: s2 :: s3 :: .ow b xs :: r) K = (K xs fun ys => (s0 :: s1 :: s2 :: s3 :: .ow b ys :: r)) := rfl
@[simp ↓] theorem fzl4_w {s0 s1 s2 s3 : Sl} {xs : List D} {l : List Nat} {r : Rho} : frzL (s0 :: s1 :: s2 :: s3 :: .ow false xs :: r) (4 :: l) = (frzL (s0 :: s1 :: s2 :: s3 :: .fz (.lst xs) :: r) l) := rfl
@[simp ↓] theorem fzl4_z {s0 s1 s2 s3 : Sl} {d : D} {l : List Nat} {r : Rho} : frzL (s0 :: s1 :: s2 :: s3 :: .fz d :: r) (4 :: l) = (frzL (s0 :: s1 :: s2 :: s3 :: .fz d :: r) l) := rfl
@[simp ↓] theorem fzl4_o {s0 s1 s2 s3 : Sl} {l : List Nat} {r : Rho} : frzL (s0 :: s1 :: s2 :: s3 :: .no :: r) (4 :: l) = (frzL (s0 :: s1 :: s2 :: s3 :: .no :: r) l) := rfl
@[simp ↓] theorem zc4 {s0 s1 s2 s3 : Sl} {d : D} {r : Rho} {K : D → Prop} : fzc 4 (s0 :: s1 :: s2 :: s3 :: .fz d :: r) K = (K d) := rfl
@[simp ↓] theorem fn4_z {m : Bool} {Kd : Res → List D → Prop} {s0 s1 s2 s3 : Sl} {d : D} {r : Rho} : finR m Kd (.pl 4) (s0 :: s1 :: s2 :: s3 :: .fz d :: r) = (Kd (.d d) (bagOf m (s0 :: s1 :: s2 :: s3 :: .fz d :: r))) := rfl
@[simp ↓] theorem fn4_w {m : Bool} {Kd : Res → List D → Prop} {s0 s1 s2 s3 : Sl} {xs : List D} {r : Rho} : finR m Kd (.pl 4) (s0 :: s1 :: s2 :: s3 :: .ow false xs :: r) = (Kd (.n xs) (bagOf m (s0 :: s1 :: s2 :: s3 :: .ow false xs :: r))) := rfl
@[simp ↓] theorem v5_z {S : Sg} {xp : XP} {s0 s1 s2 s3 s4 : Sl} {d : D} {r : Rho} {K : KR} : iE S xp (.var 5) (s0 :: s1 :: s2 :: s3 :: s4 :: .fz d :: r) K = (K (.v d) (s0 :: s1 :: s2 :: s3 :: s4 :: .fz d :: r)) := rfl
@[simp ↓] theorem v5_w {S : Sg} {xp : XP} {s0 s1 s2 s3 s4 : Sl} {b : Bool} {xs : List D} {r : Rho} {K : KR} : iE S xp (.var 5) (s0 :: s1 :: s2 :: s3 :: s4 :: .ow b xs :: r) K = (K (.pl 5) (s0 :: s1 :: s2 :: s3 :: s4 :: .ow b xs :: r)) := rfl
@[simp ↓] theorem rp5_z {s0 s1 s2 s3 s4 : Sl} {d : D} {r : Rho} {K : D → Prop} : rdx (s0 :: s1 :: s2 :: s3 :: s4 :: .fz d :: r) (.pl 5) K = (K d) := rfl
@[simp ↓] theorem rp5_w {s0 s1 s2 s3 s4 : Sl} {b : Bool} {xs : List D} {r : Rho} {K : D → Prop} : rdx (s0 :: s1 :: s2 :: s3 :: s4 :: .ow b xs :: r) (.pl 5) K = (K (.lst xs)) := rfl
@[simp ↓] theorem fp5_z {s0 s1 s2 s3 s4 : Sl} {d : D} {r : Rho} {K : D → Rho → Prop} : fzx (s0 :: s1 :: s2 :: s3 :: s4 :: .fz d :: r) (.pl 5) K = (K d (s0 :: s1 :: s2 :: s3 :: s4 :: .fz d :: r)) := rfl
@[simp ↓] theorem fp5_w {s0 s1 s2 s3 s4 : Sl} {xs : List D} {r : Rho} {K : D → Rho → Prop} : fzx (s0 :: s1 :: s2 :: s3 :: s4 :: .ow false xs :: r) (.pl 5) K = (K (.lst xs) (s0 :: s1 :: s2 :: s3 :: s4 :: .fz (.lst xs) :: r)) := rfl
@[simp ↓] theorem sv5 {s0 s1 s2 s3 s4 : Sl} {s : Sl} {d : D} {r : Rho} {K : Rho → Prop} : setR (s0 :: s1 :: s2 :: s3 :: s4 :: s :: r) 5 (.v d) K = (opS s = true ∧ K (s0 :: s1 :: s2 :: s3 :: s4 :: .fz d :: r)) := by cases s <;> first | rfl | (rename_i b xs; cases b <;> rfl)
@[simp ↓] theorem sn5 {s0 s1 s2 s3 s4 : Sl} {s : Sl} {xs : List D} {r : Rho} {K : Rho → Prop} : setR (s0 :: s1 :: s2 :: s3 :: s4 :: s :: r) 5 (.n xs) K = (opS s = true ∧ K (s0 :: s1 :: s2 :: s3 :: s4 :: .ow false xs :: r)) := by cases s <;> first | rfl | (rename_i b xs; cases b <;> rfl)
@[simp ↓] theorem tg5 {s0 s1 s2 s3 s4 : Sl} {s : Sl} {d : D} {r : Rho} {K : Rho → Prop} : tgD (.nm 5) d (s0 :: s1 :: s2 :: s3 :: s4 :: s :: r) K = (opS s = true ∧ K (s0 :: s1 :: s2 :: s3 :: s4 :: .fz d :: r)) := by cases s <;> first | rfl | (rename_i b xs; cases b <;> rfl)
@[simp ↓] theorem op5 {s0 s1 s2 s3 s4 : Sl} {s : Sl} {r : Rho} : open? (s0 :: s1 :: s2 :: s3 :: s4 :: s :: r) 5 = (opS s) := by cases s <;> first | rfl | (rename_i b xs; cases b <;> rfl)
@[simp ↓] theorem no5 {s0 s1 s2 s3 s4 : Sl} {s : Sl} {r : Rho} : notOw (s0 :: s1 :: s2 :: s3 :: s4 :: s :: r) 5 = (noS s) := by cases s <;> rfl
@[simp ↓] theorem io5 {s0 s1 s2 s3 s4 : Sl} {b : Bool} {xs : List D} {r : Rho} : isOw (s0 :: s1 :: s2 :: s3 :: s4 :: .ow b xs :: r) 5 = (true) := rfl
@[simp ↓] theorem oc5 {s0 s1 s2 s3 s4 : Sl} {b : Bool} {xs : List D} {r : Rho} {K : List D → (List D → Rho) → Prop} : owc 5 (s0 :: s1 :: s2 :: s3 :: s4 :: .ow b xs :: r) K = (K xs fun ys => (s0 :: s1 :: s2 :: s3 :: s4 :: .ow b ys :: r)) := rfl
@[simp ↓] theorem fzl5_w {s0 s1 s2 s3 s4 : Sl} {xs : List D} {l : List Nat} {r : Rho} : frzL (s0 :: s1 :: s2 :: s3 :: s4 :: .ow false xs :: r) (5 :: l) = (frzL (s0 :: s1 :: s2 :: s3 :: s4 :: .fz (.lst xs) :: r) l) := rfl
@[simp ↓] theorem fzl5_z {s0 s1 s2 s3 s4 : Sl} {d : D} {l : List Nat} {r : Rho} : frzL (s0 :: s1 :: s2 :: s3 :: s4 :: .fz d :: r) (5 :: l) = (frzL (s0 :: s1 :: s2 :: s3 :: s4 :: .fz d :: r) l) := rfl
@[simp ↓] theorem fzl5_o {s0 s1 s2 s3 s4 : Sl} {l : List Nat} {r : Rho} : frzL (s0 :: s1 :: s2 :: s3 :: s4 :: .no :: r) (5 :: l) = (frzL (s0 :: s1 :: s2 :: s3 :: s4 :: .no :: r) l) := rfl
@[simp ↓] theorem zc5 {s0 s1 s2 s3 s4 : Sl} {d : D} {r : Rho} {K : D → Prop} : fzc 5 (s0 :: s1 :: s2 :: s3 :: s4 :: .fz d :: r) K = (K d) := rfl
@[simp ↓] theorem fn5_z {m : Bool} {Kd : Res → List D → Prop} {s0 s1 s2 s3 s4 : Sl} {d : D} {r : Rho} : finR m Kd (.pl 5) (s0 :: s1 :: s2 :: s3 :: s4 :: .fz d :: r) = (Kd (.d d) (bagOf m (s0 :: s1 :: s2 :: s3 :: s4 :: .fz d :: r))) := rfl
@[simp ↓] theorem fn5_w {m : Bool} {Kd : Res → List D → Prop} {s0 s1 s2 s3 s4 : Sl} {xs : List D} {r : Rho} : finR m Kd (.pl 5) (s0 :: s1 :: s2 :: s3 :: s4 :: .ow false xs :: r) = (Kd (.n xs) (bagOf m (s0 :: s1 :: s2 :: s3 :: s4 :: .ow false xs :: r))) := rfl
@[simp ↓] theorem v6_z {S : Sg} {xp : XP} {s0 s1 s2 s3 s4 s5 : Sl} {d : D} {r : Rho} {K : KR} : iE S xp (.var 6) (s0 :: s1 :: s2 :: s3 :: s4 :: s5 :: .fz d :: r) K = (K (.v d) (s0 :: s1 :: s2 :: s3 :: s4 :: s5 :: .fz d :: r)) := rfl
@[simp ↓] theorem v6_w {S : Sg} {xp : XP} {s0 s1 s2 s3 s4 s5 : Sl} {b : Bool} {xs : List D} {r : Rho} {K : KR} : iE S xp (.var 6) (s0 :: s1 :: s2 :: s3 :: s4 :: s5 :: .ow b xs :: r) K = (K (.pl 6) (s0 :: s1 :: s2 :: s3 :: s4 :: s5 :: .ow b xs :: r)) := rfl
@[simp ↓] theorem rp6_z {s0 s1 s2 s3 s4 s5 : Sl} {d : D} {r : Rho} {K : D → Prop} : rdx (s0 :: s1 :: s2 :: s3 :: s4 :: s5 :: .fz d :: r) (.pl 6) K = (K d) := rfl
@[simp ↓] theorem rp6_w {s0 s1 s2 s3 s4 s5 : Sl} {b : Bool} {xs : List D} {r : Rho} {K : D → Prop} : rdx (s0 :: s1 :: s2 :: s3 :: s4 :: s5 :: .ow b xs :: r) (.pl 6) K = (K (.lst xs)) := rfl
@[simp ↓] theorem fp6_z {s0 s1 s2 s3 s4 s5 : Sl} {d : D} {r : Rho} {K : D → Rho → Prop} : fzx (s0 :: s1 :: s2 :: s3 :: s4 :: s5 :: .fz d :: r) (.pl 6) K = (K d (s0 :: s1 :: s2 :: s3 :: s4 :: s5 :: .fz d :: r)) := rfl
@[simp ↓] theorem fp6_w {s0 s1 s2 s3 s4 s5 : Sl} {xs : List D} {r : Rho} {K : D → Rho → Prop} : fzx (s0 :: s1 :: s2 :: s3 :: s4 :: s5 :: .ow false xs :: r) (.pl 6) K = (K (.lst xs) (s0 :: s1 :: s2 :: s3 :: s4 :: s5 :: .fz (.lst xs) :: r)) := rfl
@[simp ↓] theorem sv6 {s0 s1 s2 s3 s4 s5 : Sl} {s : Sl} {d : D} {r : Rho} {K : Rho → Prop} : setR (s0 :: s1 :: s2 :: s3 :: s4 :: s5 :: s :: r) 6 (.v d) K = (opS s = true ∧ K (s0 :: s1 :: s2 :: s3 :: s4 :: s5 :: .fz d :: r)) := by cases s <;> first | rfl | (rename_i b xs; cases b <;> rfl)
@[simp ↓] theorem sn6 {s0 s1 s2 s3 s4 s5 : Sl} {s : Sl} {xs : List D} {r : Rho} {K : Rho → Prop} : setR (s0 :: s1 :: s2 :: s3 :: s4 :: s5 :: s :: r) 6 (.n xs) K = (opS s = true ∧ K (s0 :: s1 :: s2 :: s3 :: s4 :: s5 :: .ow false xs :: r)) := by cases s <;> first | rfl | (rename_i b xs; cases b <;> rfl)
@[simp ↓] theorem tg6 {s0 s1 s2 s3 s4 s5 : Sl} {s : Sl} {d : D} {r : Rho} {K : Rho → Prop} : tgD (.nm 6) d (s0 :: s1 :: s2 :: s3 :: s4 :: s5 :: s :: r) K = (opS s = true ∧ K (s0 :: s1 :: s2 :: s3 :: s4 :: s5 :: .fz d :: r)) := by cases s <;> first | rfl | (rename_i b xs; cases b <;> rfl)
@[simp ↓] theorem op6 {s0 s1 s2 s3 s4 s5 : Sl} {s : Sl} {r : Rho} : open? (s0 :: s1 :: s2 :: s3 :: s4 :: s5 :: s :: r) 6 = (opS s) := by cases s <;> first | rfl | (rename_i b xs; cases b <;> rfl)
@[simp ↓] theorem no6 {s0 s1 s2 s3 s4 s5 : Sl} {s : Sl} {r : Rho} : notOw (s0 :: s1 :: s2 :: s3 :: s4 :: s5 :: s :: r) 6 = (noS s) := by cases s <;> rfl
@[simp ↓] theorem io6 {s0 s1 s2 s3 s4 s5 : Sl} {b : Bool} {xs : List D} {r : Rho} : isOw (s0 :: s1 :: s2 :: s3 :: s4 :: s5 :: .ow b xs :: r) 6 = (true) := rfl
@[simp ↓] theorem oc6 {s0 s1 s2 s3 s4 s5 : Sl} {b : Bool} {xs : List D} {r : Rho} {K : List D → (List D → Rho) → Prop} : owc 6 (s0 :: s1 :: s2 :: s3 :: s4 :: s5 :: .ow b xs :: r) K = (K xs fun ys => (s0 :: s1 :: s2 :: s3 :: s4 :: s5 :: .ow b ys :: r)) := rfl
@[simp ↓] theorem fzl6_w {s0 s1 s2 s3 s4 s5 : Sl} {xs : List D} {l : List Nat} {r : Rho} : frzL (s0 :: s1 :: s2 :: s3 :: s4 :: s5 :: .ow false xs :: r) (6 :: l) = (frzL (s0 :: s1 :: s2 :: s3 :: s4 :: s5 :: .fz (.lst xs) :: r) l) := rfl
@[simp ↓] theorem fzl6_z {s0 s1 s2 s3 s4 s5 : Sl} {d : D} {l : List Nat} {r : Rho} : frzL (s0 :: s1 :: s2 :: s3 :: s4 :: s5 :: .fz d :: r) (6 :: l) = (frzL (s0 :: s1 :: s2 :: s3 :: s4 :: s5 :: .fz d :: r) l) := rfl
@[simp ↓] theorem fzl6_o {s0 s1 s2 s3 s4 s5 : Sl} {l : List Nat} {r : Rho} : frzL (s0 :: s1 :: s2 :: s3 :: s4 :: s5 :: .no :: r) (6 :: l) = (frzL (s0 :: s1 :: s2 :: s3 :: s4 :: s5 :: .no :: r) l) := rfl
@[simp ↓] theorem zc6 {s0 s1 s2 s3 s4 s5 : Sl} {d : D} {r : Rho} {K : D → Prop} : fzc 6 (s0 :: s1 :: s2 :: s3 :: s4 :: s5 :: .fz d :: r) K = (K d) := rfl
@[simp ↓] theorem fn6_z {m : Bool} {Kd : Res → List D → Prop} {s0 s1 s2 s3 s4 s5 : Sl} {d : D} {r : Rho} : finR m Kd (.pl 6) (s0 :: s1 :: s2 :: s3 :: s4 :: s5 :: .fz d :: r) = (Kd (.d d) (bagOf m (s0 :: s1 :: s2 :: s3 :: s4 :: s5 :: .fz d :: r))) := rfl
@[simp ↓] theorem fn6_w {m : Bool} {Kd : Res → List D → Prop} {s0 s1 s2 s3 s4 s5 : Sl} {xs : List D} {r : Rho} : finR m Kd (.pl 6) (s0 :: s1 :: s2 :: s3 :: s4 :: s5 :: .ow false xs :: r) = (Kd (.n xs) (bagOf m (s0 :: s1 :: s2 :: s3 :: s4 :: s5 :: .ow false xs :: r))) := rfl
@[simp ↓] theorem v7_z {S : Sg} {xp : XP} {s0 s1 s2 s3 s4 s5 s6 : Sl} {d : D} {r : Rho} {K : KR} : iE S xp (.var 7) (s0 :: s1 :: s2 :: s3 :: s4 :: s5 :: s6 :: .fz d :: r) K = (K (.v d) (s0 :: s1 :: s2 :: s3 :: s4 :: s5 :: s6 :: .fz d :: r)) := rfl
@[simp ↓] theorem v7_w {S : Sg} {xp : XP} {s0 s1 s2 s3 s4 s5 s6 : Sl} {b : Bool} {xs : List D} {r : Rho} {K : KR} : iE S xp (.var 7) (s0 :: s1 :: s2 :: s3 :: s4 :: s5 :: s6 :: .ow b xs :: r) K = (K (.pl 7) (s0 :: s1 :: s2 :: s3 :: s4 :: s5 :: s6 :: .ow b xs :: r)) := rfl
@[simp ↓] theorem rp7_z {s0 s1 s2 s3 s4 s5 s6 : Sl} {d : D} {r : Rho} {K : D → Prop} : rdx (s0 :: s1 :: s2 :: s3 :: s4 :: s5 :: s6 :: .fz d :: r) (.pl 7) K = (K d) := rfl
@[simp ↓] theorem rp7_w {s0 s1 s2 s3 s4 s5 s6 : Sl} {b : Bool} {xs : List D} {r : Rho} {K : D → Prop} : rdx (s0 :: s1 :: s2 :: s3 :: s4 :: s5 :: s6 :: .ow b xs :: r) (.pl 7) K = (K (.lst xs)) := rfl
@[simp ↓] theorem fp7_z {s0 s1 s2 s3 s4 s5 s6 : Sl} {d : D} {r : Rho} {K : D → Rho → Prop} : fzx (s0 :: s1 :: s2 :: s3 :: s4 :: s5 :: s6 :: .fz d :: r) (.pl 7) K = (K d (s0 :: s1 :: s2 :: s3 :: s4 :: s5 :: s6 :: .fz d :: r)) := rfl
@[simp ↓] theorem fp7_w {s0 s1 s2 s3 s4 s5 s6 : Sl} {xs : List D} {r : Rho} {K : D → Rho → Prop} : fzx (s0 :: s1 :: s2 :: s3 :: s4 :: s5 :: s6 :: .ow false xs :: r) (.pl 7) K = (K (.lst xs) (s0 :: s1 :: s2 :: s3 :: s4 :: s5 :: s6 :: .fz (.lst xs) :: r)) := rfl
@[simp ↓] theorem sv7 {s0 s1 s2 s3 s4 s5 s6 : Sl} {s : Sl} {d : D} {r : Rho} {K : Rho → Prop} : setR (s0 :: s1 :: s2 :: s3 :: s4 :: s5 :: s6 :: s :: r) 7 (.v d) K = (opS s = true ∧ K (s0 :: s1 :: s2 :: s3 :: s4 :: s5 :: s6 :: .fz d :: r)) := by cases s <;> first | rfl | (rename_i b xs; cases b <;> rfl)
@[simp ↓] theorem sn7 {s0 s1 s2 s3 s4 s5 s6 : Sl} {s : Sl} {xs : List D} {r : Rho} {K : Rho → Prop} : setR (s0 :: s1 :: s2 :: s3 :: s4 :: s5 :: s6 :: s :: r) 7 (.n xs) K = (opS s = true ∧ K (s0 :: s1 :: s2 :: s3 :: s4 :: s5 :: s6 :: .ow false xs :: r)) := by cases s <;> first | rfl | (rename_i b xs; cases b <;> rfl)
@[simp ↓] theorem tg7 {s0 s1 s2 s3 s4 s5 s6 : Sl} {s : Sl} {d : D} {r : Rho} {K : Rho → Prop} : tgD (.nm 7) d (s0 :: s1 :: s2 :: s3 :: s4 :: s5 :: s6 :: s :: r) K = (opS s = true ∧ K (s0 :: s1 :: s2 :: s3 :: s4 :: s5 :: s6 :: .fz d :: r)) := by cases s <;> first | rfl | (rename_i b xs; cases b <;> rfl)
@[simp ↓] theorem op7 {s0 s1 s2 s3 s4 s5 s6 : Sl} {s : Sl} {r : Rho} : open? (s0 :: s1 :: s2 :: s3 :: s4 :: s5 :: s6 :: s :: r) 7 = (opS s) := by cases s <;> first | rfl | (rename_i b xs; cases b <;> rfl)
@[simp ↓] theorem no7 {s0 s1 s2 s3 s4 s5 s6 : Sl} {s : Sl} {r : Rho} : notOw (s0 :: s1 :: s2 :: s3 :: s4 :: s5 :: s6 :: s :: r) 7 = (noS s) := by cases s <;> rfl
@[simp ↓] theorem io7 {s0 s1 s2 s3 s4 s5 s6 : Sl} {b : Bool} {xs : List D} {r : Rho} : isOw (s0 :: s1 :: s2 :: s3 :: s4 :: s5 :: s6 :: .ow b xs :: r) 7 = (true) := rfl
@[simp ↓] theorem oc7 {s0 s1 s2 s3 s4 s5 s6 : Sl} {b : Bool} {xs : List D} {r : Rho} {K : List D → (List D → Rho) → Prop} : owc 7 (s0 :: s1 :: s2 :: s3 :: s4 :: s5 :: s6 :: .ow b xs :: r) K = (K xs fun ys => (s0 :: s1 :: s2 :: s3 :: s4 :: s5 :: s6 :: .ow b ys :: r)) := rfl
@[simp ↓] theorem fzl7_w {s0 s1 s2 s3 s4 s5 s6 : Sl} {xs : List D} {l : List Nat} {r : Rho} : frzL (s0 :: s1 :: s2 :: s3 :: s4 :: s5 :: s6 :: .ow false xs :: r) (7 :: l) = (frzL (s0 :: s1 :: s2 :: s3 :: s4 :: s5 :: s6 :: .fz (.lst xs) :: r) l) := rfl
@[simp ↓] theorem fzl7_z {s0 s1 s2 s3 s4 s5 s6 : Sl} {d : D} {l : List Nat} {r : Rho} : frzL (s0 :: s1 :: s2 :: s3 :: s4 :: s5 :: s6 :: .fz d :: r) (7 :: l) = (frzL (s0 :: s1 :: s2 :: s3 :: s4 :: s5 :: s6 :: .fz d :: r) l) := rfl
@[simp ↓] theorem fzl7_o {s0 s1 s2 s3 s4 s5 s6 : Sl} {l : List Nat} {r : Rho} : frzL (s0 :: s1 :: s2 :: s3 :: s4 :: s5 :: s6 :: .no :: r) (7 :: l) = (frzL (s0 :: s1 :: s2 :: s3 :: s4 :: s5 :: s6 :: .no :: r) l) := rfl
@[simp ↓] theorem zc7 {s0 s1 s2 s3 s4 s5 s6 : Sl} {d : D} {r : Rho} {K : D → Prop} : fzc 7 (s0 :: s1 :: s2 :: s3 :: s4 :: s5 :: s6 :: .fz d :: r) K = (K d) := rfl
@[simp ↓] theorem fn7_z {m : Bool} {Kd : Res → List D → Prop} {s0 s1 s2 s3 s4 s5 s6 : Sl} {d : D} {r : Rho} : finR m Kd (.pl 7) (s0 :: s1 :: s2 :: s3 :: s4 :: s5 :: s6 :: .fz d :: r) = (Kd (.d d) (bagOf m (s0 :: s1 :: s2 :: s3 :: s4 :: s5 :: s6 :: .fz d :: r))) := rfl
@[simp ↓] theorem fn7_w {m : Bool} {Kd : Res → List D → Prop} {s0 s1 s2 s3 s4 s5 s6 : Sl} {xs : List D} {r : Rho} : finR m Kd (.pl 7) (s0 :: s1 :: s2 :: s3 :: s4 :: s5 :: s6 :: .ow false xs :: r) = (Kd (.n xs) (bagOf m (s0 :: s1 :: s2 :: s3 :: s4 :: s5 :: s6 :: .ow false xs :: r))) := rfl
@[simp ↓] theorem v8_z {S : Sg} {xp : XP} {s0 s1 s2 s3 s4 s5 s6 s7 : Sl} {d : D} {r : Rho} {K : KR} : iE S xp (.var 8) (s0 :: s1 :: s2 :: s3 :: s4 :: s5 :: s6 :: s7 :: .fz d :: r) K = (K (.v d) (s0 :: s1 :: s2 :: s3 :: s4 :: s5 :: s6 :: s7 :: .fz d :: r)) := rfl
@[simp ↓] theorem v8_w {S : Sg} {xp : XP} {s0 s1 s2 s3 s4 s5 s6 s7 : Sl} {b : Bool} {xs : List D} {r : Rho} {K : KR} : iE S xp (.var 8) (s0 :: s1 :: s2 :: s3 :: s4 :: s5 :: s6 :: s7 :: .ow b xs :: r) K = (K (.pl 8) (s0 :: s1 :: s2 :: s3 :: s4 :: s5 :: s6 :: s7 :: .ow b xs :: r)) := rfl
@[simp ↓] theorem rp8_z {s0 s1 s2 s3 s4 s5 s6 s7 : Sl} {d : D} {r : Rho} {K : D → Prop} : rdx (s0 :: s1 :: s2 :: s3 :: s4 :: s5 :: s6 :: s7 :: .fz d :: r) (.pl 8) K = (K d) := rfl
@[simp ↓] theorem rp8_w {s0 s1 s2 s3 s4 s5 s6 s7 : Sl} {b : Bool} {xs : List D} {r : Rho} {K : D → Prop} : rdx (s0 :: s1 :: s2 :: s3 :: s4 :: s5 :: s6 :: s7 :: .ow b xs :: r) (.pl 8) K = (K (.lst xs)) := rfl
@[simp ↓] theorem fp8_z {s0 s1 s2 s3 s4 s5 s6 s7 : Sl} {d : D} {r : Rho} {K : D → Rho → Prop} : fzx (s0 :: s1 :: s2 :: s3 :: s4 :: s5 :: s6 :: s7 :: .fz d :: r) (.pl 8) K = (K d (s0 :: s1 :: s2 :: s3 :: s4 :: s5 :: s6 :: s7 :: .fz d :: r)) := rfl
@[simp ↓] theorem fp8_w {s0 s1 s2 s3 s4 s5 s6 s7 : Sl} {xs : List D} {r : Rho} {K : D → Rho → Prop} : fzx (s0 :: s1 :: s2 :: s3 :: s4 :: s5 :: s6 :: s7 :: .ow false xs :: r) (.pl 8) K = (K (.lst xs) (s0 :: s1 :: s2 :: s3 :: s4 :: s5 :: s6 :: s7 :: .fz (.lst xs) :: r)) := rfl
@[simp ↓] theorem sv8 {s0 s1 s2 s3 s4 s5 s6 s7 : Sl} {s : Sl} {d : D} {r : Rho} {K : Rho → Prop} : setR (s0 :: s1 :: s2 :: s3 :: s4 :: s5 :: s6 :: s7 :: s :: r) 8 (.v d) K = (opS s = true ∧ K (s0 :: s1 :: s2 :: s3 :: s4 :: s5 :: s6 :: s7 :: .fz d :: r)) := by cases s <;> first | rfl | (rename_i b xs; cases b <;> rfl)
@[simp ↓] theorem sn8 {s0 s1 s2 s3 s4 s5 s6 s7 : Sl} {s : Sl} {xs : List D} {r : Rho} {K : Rho → Prop} : setR (s0 :: s1 :: s2 :: s3 :: s4 :: s5 :: s6 :: s7 :: s :: r) 8 (.n xs) K = (opS s = true ∧ K (s0 :: s1 :: s2 :: s3 :: s4 :: s5 :: s6 :: s7 :: .ow false xs :: r)) := by cases s <;> first | rfl | (rename_i b xs; cases b <;> rfl)
@[simp ↓] theorem tg8 {s0 s1 s2 s3 s4 s5 s6 s7 : Sl} {s : Sl} {d : D} {r : Rho} {K : Rho → Prop} : tgD (.nm 8) d (s0 :: s1 :: s2 :: s3 :: s4 :: s5 :: s6 :: s7 :: s :: r) K = (opS s = true ∧ K (s0 :: s1 :: s2 :: s3 :: s4 :: s5 :: s6 :: s7 :: .fz d :: r)) := by cases s <;> first | rfl | (rename_i b xs; cases b <;> rfl)
@[simp ↓] theorem op8 {s0 s1 s2 s3 s4 s5 s6 s7 : Sl} {s : Sl} {r : Rho} : open? (s0 :: s1 :: s2 :: s3 :: s4 :: s5 :: s6 :: s7 :: s :: r) 8 = (opS s) := by cases s <;> first | rfl | (rename_i b xs; cases b <;> rfl)
@[simp ↓] theorem no8 {s0 s1 s2 s3 s4 s5 s6 s7 : Sl} {s : Sl} {r : Rho} : notOw (s0 :: s1 :: s2 :: s3 :: s4 :: s5 :: s6 :: s7 :: s :: r) 8 = (noS s) := by cases s <;> rfl
@[simp ↓] theorem io8 {s0 s1 s2 s3 s4 s5 s6 s7 : Sl} {b : Bool} {xs : List D} {r : Rho} : isOw (s0 :: s1 :: s2 :: s3 :: s4 :: s5 :: s6 :: s7 :: .ow b xs :: r) 8 = (true) := rfl
@[simp ↓] theorem oc8 {s0 s1 s2 s3 s4 s5 s6 s7 : Sl} {b : Bool} {xs : List D} {r : Rho} {K : List D → (List D → Rho) → Prop} : owc 8 (s0 :: s1 :: s2 :: s3 :: s4 :: s5 :: s6 :: s7 :: .ow b xs :: r) K = (K xs fun ys => (s0 :: s1 :: s2 :: s3 :: s4 :: s5 :: s6 :: s7 :: .ow b ys :: r)) := rfl
@[simp ↓] theorem fzl8_w {s0 s1 s2 s3 s4 s5 s6 s7 : Sl} {xs : List D} {l : List Nat} {r : Rho} : frzL (s0 :: s1 :: s2 :: s3 :: s4 :: s5 :: s6 :: s7 :: .ow false xs :: r) (8 :: l) = (frzL (s0 :: s1 :: s2 :: s3 :: s4 :: s5 :: s6 :: s7 :: .fz (.lst xs) :: r) l) := rfl
@[simp ↓] theorem fzl8_z {s0 s1 s2 s3 s4 s5 s6 s7 : Sl} {d : D} {l : List Nat} {r : Rho} : frzL (s0 :: s1 :: s2 :: s3 :: s4 :: s5 :: s6 :: s7 :: .fz d :: r) (8 :: l) = (frzL (s0 :: s1 :: s2 :: s3 :: s4 :: s5 :: s6 :: s7 :: .fz d :: r) l) := rfl
@[simp ↓] theorem fzl8_o {s0 s1 s2 s3 s4 s5 s6 s7 : Sl} {l : List Nat} {r : Rho} : frzL (s0 :: s1 :: s2 :: s3 :: s4 :: s5 :: s6 :: s7 :: .no :: r) (8 :: l) = (frzL (s0 :: s1 :: s2 :: s3 :: s4 :: s5 :: s6 :: s7 :: .no :: r) l) := rfl
@[simp ↓] theorem zc8 {s0 s1 s2 s3 s4 s5 s6 s7 : Sl} {d : D} {r : Rho} {K : D → Prop} : fzc 8 (s0 :: s1 :: s2 :: s3 :: s4 :: s5 :: s6 :: s7 :: .fz d :: r) K = (K d) := rfl
@[simp ↓] theorem fn8_z {m : Bool} {Kd : Res → List D → Prop} {s0 s1 s2 s3 s4 s5 s6 s7 : Sl} {d : D} {r : Rho} : finR m Kd (.pl 8) (s0 :: s1 :: s2 :: s3 :: s4 :: s5 :: s6 :: s7 :: .fz d :: r) = (Kd (.d d) (bagOf m (s0 :: s1 :: s2 :: s3 :: s4 :: s5 :: s6 :: s7 :: .fz d :: r))) := rfl
@[simp ↓] theorem fn8_w {m : Bool} {Kd : Res → List D → Prop} {s0 s1 s2 s3 s4 s5 s6 s7 : Sl} {xs : List D} {r : Rho} : finR m Kd (.pl 8) (s0 :: s1 :: s2 :: s3 :: s4 :: s5 :: s6 :: s7 :: .ow false xs :: r) = (Kd (.n xs) (bagOf m (s0 :: s1 :: s2 :: s3 :: s4 :: s5 :: s6 :: s7 :: .ow false xs :: r))) := rfl
@[simp ↓] theorem v9_z {S : Sg} {xp : XP} {s0 s1 s2 s3 s4 s5 s6 s7 s8 : Sl} {d : D} {r : Rho} {K : KR} : iE S xp (.var 9) (s0 :: s1 :: s2 :: s3 :: s4 :: s5 :: s6 :: s7 :: s8 :: .fz d :: r) K = (K (.v d) (s0 :: s1 :: s2 :: s3 :: s4 :: s5 :: s6 :: s7 :: s8 :: .fz d :: r)) := rfl
@[simp ↓] theorem v9_w {S : Sg} {xp : XP} {s0 s1 s2 s3 s4 s5 s6 s7 s8 : Sl} {b : Bool} {xs : List D} {r : Rho} {K : KR} : iE S xp (.var 9) (s0 :: s1 :: s2 :: s3 :: s4 :: s5 :: s6 :: s7 :: s8 :: .ow b xs :: r) K = (K (.pl 9) (s0 :: s1 :: s2 :: s3 :: s4 :: s5 :: s6 :: s7 :: s8 :: .ow b xs :: r)) := rfl
@[simp ↓] theorem rp9_z {s0 s1 s2 s3 s4 s5 s6 s7 s8 : Sl} {d : D} {r : Rho} {K : D → Prop} : rdx (s0 :: s1 :: s2 :: s3 :: s4 :: s5 :: s6 :: s7 :: s8 :: .fz d :: r) (.pl 9) K = (K d) := rfl
@[simp ↓] theorem rp9_w {s0 s1 s2 s3 s4 s5 s6 s7 s8 : Sl} {b : Bool} {xs : List D} {r : Rho} {K : D → Prop} : rdx (s0 :: s1 :: s2 :: s3 :: s4 :: s5 :: s6 :: s7 :: s8 :: .ow b xs :: r) (.pl 9) K = (K (.lst xs)) := rfl
@[simp ↓] theorem fp9_z {s0 s1 s2 s3 s4 s5 s6 s7 s8 : Sl} {d : D} {r : Rho} {K : D → Rho → Prop} : fzx (s0 :: s1 :: s2 :: s3 :: s4 :: s5 :: s6 :: s7 :: s8 :: .fz d :: r) (.pl 9) K = (K d (s0 :: s1 :: s2 :: s3 :: s4 :: s5 :: s6 :: s7 :: s8 :: .fz d :: r)) := rfl
@[simp ↓] theorem fp9_w {s0 s1 s2 s3 s4 s5 s6 s7 s8 : Sl} {xs : List D} {r : Rho} {K : D → Rho → Prop} : fzx (s0 :: s1 :: s2 :: s3 :: s4 :: s5 :: s6 :: s7 :: s8 :: .ow false xs :: r) (.pl 9) K = (K (.lst xs) (s0 :: s1 :: s2 :: s3 :: s4 :: s5 :: s6 :: s7 :: s8 :: .fz (.lst xs) :: r)) := rfl
@[simp ↓] theorem sv9 {s0 s1 s2 s3 s4 s5 s6 s7 s8 : Sl} {s : Sl} {d : D} {r : Rho} {K : Rho → Prop} : setR (s0 :: s1 :: s2 :: s3 :: s4 :: s5 :: s6 :: s7 :: s8 :: s :: r) 9 (.v d) K = (opS s = true ∧ K (s0 :: s1 :: s2 :: s3 :: s4 :: s5 :: s6 :: s7 :: s8 :: .fz d :: r)) := by cases s <;> first | rfl | (rename_i b xs; cases b <;> rfl)
@[simp ↓] theorem sn9 {s0 s1 s2 s3 s4 s5 s6 s7 s8 : Sl} {s : Sl} {xs : List D} {r : Rho} {K : Rho → Prop} : setR (s0 :: s1 :: s2 :: s3 :: s4 :: s5 :: s6 :: s7 :: s8 :: s :: r) 9 (.n xs) K = (opS s = true ∧ K (s0 :: s1 :: s2 :: s3 :: s4 :: s5 :: s6 :: s7 :: s8 :: .ow false xs :: r)) := by cases s <;> first | rfl | (rename_i b xs; cases b <;> rfl)
@[simp ↓] theorem tg9 {s0 s1 s2 s3 s4 s5 s6 s7 s8 : Sl} {s : Sl} {d : D} {r : Rho} {K : Rho → Prop} : tgD (.nm 9) d (s0 :: s1 :: s2 :: s3 :: s4 :: s5 :: s6 :: s7 :: s8 :: s :: r) K = (opS s = true ∧ K (s0 :: s1 :: s2 :: s3 :: s4 :: s5 :: s6 :: s7 :: s8 :: .fz d :: r)) := by cases s <;> first | rfl | (rename_i b xs; cases b <;> rfl)
@[simp ↓] theorem op9 {s0 s1 s2 s3 s4 s5 s6 s7 s8 : Sl} {s : Sl} {r : Rho} : open? (s0 :: s1 :: s2 :: s3 :: s4 :: s5 :: s6 :: s7 :: s8 :: s :: r) 9 = (opS s) := by cases s <;> first | rfl | (rename_i b xs; cases b <;> rfl)
@[simp ↓] theorem no9 {s0 s1 s2 s3 s4 s5 s6 s7 s8 : Sl} {s : Sl} {r : Rho} : notOw (s0 :: s1 :: s2 :: s3 :: s4 :: s5 :: s6 :: s7 :: s8 :: s :: r) 9 = (noS s) := by cases s <;> rfl
@[simp ↓] theorem io9 {s0 s1 s2 s3 s4 s5 s6 s7 s8 : Sl} {b : Bool} {xs : List D} {r : Rho} : isOw (s0 :: s1 :: s2 :: s3 :: s4 :: s5 :: s6 :: s7 :: s8 :: .ow b xs :: r) 9 = (true) := rfl
@[simp ↓] theorem oc9 {s0 s1 s2 s3 s4 s5 s6 s7 s8 : Sl} {b : Bool} {xs : List D} {r : Rho} {K : List D → (List D → Rho) → Prop} : owc 9 (s0 :: s1 :: s2 :: s3 :: s4 :: s5 :: s6 :: s7 :: s8 :: .ow b xs :: r) K = (K xs fun ys => (s0 :: s1 :: s2 :: s3 :: s4 :: s5 :: s6 :: s7 :: s8 :: .ow b ys :: r)) := rfl
@[simp ↓] theorem fzl9_w {s0 s1 s2 s3 s4 s5 s6 s7 s8 : Sl} {xs : List D} {l : List Nat} {r : Rho} : frzL (s0 :: s1 :: s2 :: s3 :: s4 :: s5 :: s6 :: s7 :: s8 :: .ow false xs :: r) (9 :: l) = (frzL (s0 :: s1 :: s2 :: s3 :: s4 :: s5 :: s6 :: s7 :: s8 :: .fz (.lst xs) :: r) l) := rfl
@[simp ↓] theorem fzl9_z {s0 s1 s2 s3 s4 s5 s6 s7 s8 : Sl} {d : D} {l : List Nat} {r : Rho} : frzL (s0 :: s1 :: s2 :: s3 :: s4 :: s5 :: s6 :: s7 :: s8 :: .fz d :: r) (9 :: l) = (frzL (s0 :: s1 :: s2 :: s3 :: s4 :: s5 :: s6 :: s7 :: s8 :: .fz d :: r) l) := rfl
@[simp ↓] theorem fzl9_o {s0 s1 s2 s3 s4 s5 s6 s7 s8 : Sl} {l : List Nat} {r : Rho} : frzL (s0 :: s1 :: s2 :: s3 :: s4 :: s5 :: s6 :: s7 :: s8 :: .no :: r) (9 :: l) = (frzL (s0 :: s1 :: s2 :: s3 :: s4 :: s5 :: s6 :: s7 :: s8 :: .no :: r) l) := rfl
@[simp ↓] theorem zc9 {s0 s1 s2 s3 s4 s5 s6 s7 s8 : Sl} {d : D} {r : Rho} {K : D → Prop} : fzc 9 (s0 :: s1 :: s2 :: s3 :: s4 :: s5 :: s6 :: s7 :: s8 :: .fz d :: r) K = (K d) := rfl
@[simp ↓] theorem fn9_z {m : Bool} {Kd : Res → List D → Prop} {s0 s1 s2 s3 s4 s5 s6 s7 s8 : Sl} {d : D} {r : Rho} : finR m Kd (.pl 9) (s0 :: s1 :: s2 :: s3 :: s4 :: s5 :: s6 :: s7 :: s8 :: .fz d :: r) = (Kd (.d d) (bagOf m (s0 :: s1 :: s2 :: s3 :: s4 :: s5 :: s6 :: s7 :: s8 :: .fz d :: r))) := rfl
@[simp ↓] theorem fn9_w {m : Bool} {Kd : Res → List D → Prop} {s0 s1 s2 s3 s4 s5 s6 s7 s8 : Sl} {xs : List D} {r : Rho} : finR m Kd (.pl 9) (s0 :: s1 :: s2 :: s3 :: s4 :: s5 :: s6 :: s7 :: s8 :: .ow false xs :: r) = (Kd (.n xs) (bagOf m (s0 :: s1 :: s2 :: s3 :: s4 :: s5 :: s6 :: s7 :: s8 :: .ow false xs :: r))) := rfl
@[simp ↓] theorem v10_z {S : Sg} {xp : XP} {s0 s1 s2 s3 s4 s5 s6 s7 s8 s9 : Sl} {d : D} {r : Rho} {K : KR} : iE S xp (.var 10) (s0 :: s1 :: s2 :: s3 :: s4 :: s5 :: s6 :: s7 :: s8 :: s9 :: .fz d :: r) K = (K (.v d) (s0 :: s1 :: s2 :: s3 :: s4 :: s5 :: s6 :: s7 :: s8 :: s9 :: .fz d :: r)) := rfl
@[simp ↓] theorem v10_w {S : Sg} {xp : XP} {s0 s1 s2 s3 s4 s5 s6 s7 s8 s9 : Sl} {b : Bool} {xs : List D} {r : Rho} {K : KR} : iE S xp (.var 10) (s0 :: s1 :: s2 :: s3 :: s4 :: s5 :: s6 :: s7 :: s8 :: s9 :: .ow b xs :: r) K = (K (.pl 10) (s0 :: s1 :: s2 :: s3 :: s4 :: s5 :: s6 :: s7 :: s8 :: s9 :: .ow b xs :: r)) := rfl
@[simp ↓] theorem rp10_z {s0 s1 s2 s3 s4 s5 s6 s7 s8 s9 : Sl} {d : D} {r : Rho} {K : D → Prop} : rdx (s0 :: s1 :: s2 :: s3 :: s4 :: s5 :: s6 :: s7 :: s8 :: s9 :: .fz d :: r) (.pl 10) K = (K d) := rfl
@[simp ↓] theorem rp10_w {s0 s1 s2 s3 s4 s5 s6 s7 s8 s9 : Sl} {b : Bool} {xs : List D} {r : Rho} {K : D → Prop} : rdx (s0 :: s1 :: s2 :: s3 :: s4 :: s5 :: s6 :: s7 :: s8 :: s9 :: .ow b xs :: r) (.pl 10) K = (K (.lst xs)) := rfl
@[simp ↓] theorem fp10_z {s0 s1 s2 s3 s4 s5 s6 s7 s8 s9 : Sl} {d : D} {r : Rho} {K : D → Rho → Prop} : fzx (s0 :: s1 :: s2 :: s3 :: s4 :: s5 :: s6 :: s7 :: s8 :: s9 :: .fz d :: r) (.pl 10) K = (K d (s0 :: s1 :: s2 :: s3 :: s4 :: s5 :: s6 :: s7 :: s8 :: s9 :: .fz d :: r)) := rfl
@[simp ↓] theorem fp10_w {s0 s1 s2 s3 s4 s5 s6 s7 s8 s9 : Sl} {xs : List D} {r : Rho} {K : D → Rho → Prop} : fzx (s0 :: s1 :: s2 :: s3 :: s4 :: s5 :: s6 :: s7 :: s8 :: s9 :: .ow false xs :: r) (.pl 10) K = (K (.lst xs) (s0 :: s1 :: s2 :: s3 :: s4 :: s5 :: s6 :: s7 :: s8 :: s9 :: .fz (.lst xs) :: r)) := rfl
@[simp ↓] theorem sv10 {s0 s1 s2 s3 s4 s5 s6 s7 s8 s9 : Sl} {s : Sl} {d : D} {r : Rho} {K : Rho → Prop} : setR (s0 :: s1 :: s2 :: s3 :: s4 :: s5 :: s6 :: s7 :: s8 :: s9 :: s :: r) 10 (.v d) K = (opS s = true ∧ K (s0 :: s1 :: s2 :: s3 :: s4 :: s5 :: s6 :: s7 :: s8 :: s9 :: .fz d :: r)) := by cases s <;> first | rfl | (rename_i b xs; cases b <;> rfl)
@[simp ↓] theorem sn10 {s0 s1 s2 s3 s4 s5 s6 s7 s8 s9 : Sl} {s : Sl} {xs : List D} {r : Rho} {K : Rho → Prop} : setR (s0 :: s1 :: s2 :: s3 :: s4 :: s5 :: s6 :: s7 :: s8 :: s9 :: s :: r) 10 (.n xs) K = (opS s = true ∧ K (s0 :: s1 :: s2 :: s3 :: s4 :: s5 :: s6 :: s7 :: s8 :: s9 :: .ow false xs :: r)) := by cases s <;> first | rfl | (rename_i b xs; cases b <;> rfl)
@[simp ↓] theorem tg10 {s0 s1 s2 s3 s4 s5 s6 s7 s8 s9 : Sl} {s : Sl} {d : D} {r : Rho} {K : Rho → Prop} : tgD (.nm 10) d (s0 :: s1 :: s2 :: s3 :: s4 :: s5 :: s6 :: s7 :: s8 :: s9 :: s :: r) K = (opS s = true ∧ K (s0 :: s1 :: s2 :: s3 :: s4 :: s5 :: s6 :: s7 :: s8 :: s9 :: .fz d :: r)) := by cases s <;> first | rfl | (rename_i b xs; cases b <;> rfl)
@[simp ↓] theorem op10 {s0 s1 s2 s3 s4 s5 s6 s7 s8 s9 : Sl} {s : Sl} {r : Rho} : open? (s0 :: s1 :: s2 :: s3 :: s4 :: s5 :: s6 :: s7 :: s8 :: s9 :: s :: r) 10 = (opS s) := by cases s <;> first | rfl | (rename_i b xs; cases b <;> rfl)
@[simp ↓] theorem no10 {s0 s1 s2 s3 s4 s5 s6 s7 s8 s9 : Sl} {s : Sl} {r : Rho} : notOw (s0 :: s1 :: s2 :: s3 :: s4 :: s5 :: s6 :: s7 :: s8 :: s9 :: s :: r) 10 = (noS s) := by cases s <;> rfl
@[simp ↓] theorem io10 {s0 s1 s2 s3 s4 s5 s6 s7 s8 s9 : Sl} {b : Bool} {xs : List D} {r : Rho} : isOw (s0 :: s1 :: s2 :: s3 :: s4 :: s5 :: s6 :: s7 :: s8 :: s9 :: .ow b xs :: r) 10 = (true) := rfl
@[simp ↓] theorem oc10 {s0 s1 s2 s3 s4 s5 s6 s7 s8 s9 : Sl} {b : Bool} {xs : List D} {r : Rho} {K : List D → (List D → Rho) → Prop} : owc 10 (s0 :: s1 :: s2 :: s3 :: s4 :: s5 :: s6 :: s7 :: s8 :: s9 :: .ow b xs :: r) K = (K xs fun ys => (s0 :: s1 :: s2 :: s3 :: s4 :: s5 :: s6 :: s7 :: s8 :: s9 :: .ow b ys :: r)) := rfl
@[simp ↓] theorem fzl10_w {s0 s1 s2 s3 s4 s5 s6 s7 s8 s9 : Sl} {xs : List D} {l : List Nat} {r : Rho} : frzL (s0 :: s1 :: s2 :: s3 :: s4 :: s5 :: s6 :: s7 :: s8 :: s9 :: .ow false xs :: r) (10 :: l) = (frzL (s0 :: s1 :: s2 :: s3 :: s4 :: s5 :: s6 :: s7 :: s8 :: s9 :: .fz (.lst xs) :: r) l) := rfl
@[simp ↓] theorem fzl10_z {s0 s1 s2 s3 s4 s5 s6 s7 s8 s9 : Sl} {d : D} {l : List Nat} {r : Rho} : frzL (s0 :: s1 :: s2 :: s3 :: s4 :: s5 :: s6 :: s7 :: s8 :: s9 :: .fz d :: r) (10 :: l) = (frzL (s0 :: s1 :: s2 :: s3 :: s4 :: s5 :: s6 :: s7 :: s8 :: s9 :: .fz d :: r) l) := rfl
@[simp ↓] theorem fzl10_o {s0 s1 s2 s3 s4 s5 s6 s7 s8 s9 : Sl} {l : List Nat} {r : Rho} : frzL (s0 :: s1 :: s2 :: s3 :: s4 :: s5 :: s6 :: s7 :: s8 :: s9 :: .no :: r) (10 :: l) = (frzL (s0 :: s1 :: s2 :: s3 :: s4 :: s5 :: s6 :: s7 :: s8 :: s9 :: .no :: r) l) := rfl
@[simp ↓] theorem zc10 {s0 s1 s2 s3 s4 s5 s6 s7 s8 s9 : Sl} {d : D} {r : Rho} {K : D → Prop} : fzc 10 (s0 :: s1 :: s2 :: s3 :: s4 :: s5 :: s6 :: s7 :: s8 :: s9 :: .fz d :: r) K = (K d) := rfl
@[simp ↓] theorem fn10_z {m : Bool} {Kd : Res → List D → Prop} {s0 s1 s2 s3 s4 s5 s6 s7 s8 s9 : Sl} {d : D} {r : Rho} : finR m Kd (.pl 10) (s0 :: s1 :: s2 :: s3 :: s4 :: s5 :: s6 :: s7 :: s8 :: s9 :: .fz d :: r) = (Kd (.d d) (bagOf m (s0 :: s1 :: s2 :: s3 :: s4 :: s5 :: s6 :: s7 :: s8 :: s9 :: .fz d :: r))) := rfl
@[simp ↓] theorem fn10_w {m : Bool} {Kd : Res → List D → Prop} {s0 s1 s2 s3 s4 s5 s6 s7 s8 s9 : Sl} {xs : List D} {r : Rho} : finR m Kd (.pl 10) (s0 :: s1 :: s2 :: s3 :: s4 :: s5 :: s6 :: s7 :: s8 :: s9 :: .ow false xs :: r) = (Kd (.n xs) (bagOf m (s0 :: s1 :: s2 :: s3 :: s4 :: s5 :: s6 :: s7 :: s8 :: s9 :: .ow false xs :: r))) := rfl
@[simp ↓] theorem v11_z {S : Sg} {xp : XP} {s0 s1 s2 s3 s4 s5 s6 s7 s8 s9 s10 : Sl} {d : D} {r : Rho} {K : KR} : iE S xp (.var 11) (s0 :: s1 :: s2 :: s3 :: s4 :: s5 :: s6 :: s7 :: s8 :: s9 :: s10 :: .fz d :: r) K = (K (.v d) (s0 :: s1 :: s2 :: s3 :: s4 :: s5 :: s6 :: s7 :: s8 :: s9 :: s10 :: .fz d :: r)) := rfl
@[simp ↓] theorem v11_w {S : Sg} {xp : XP} {s0 s1 s2 s3 s4 s5 s6 s7 s8 s9 s10 : Sl} {b : Bool} {xs : List D} {r : Rho} {K : KR} : iE S xp (.var 11) (s0 :: s1 :: s2 :: s3 :: s4 :: s5 :: s6 :: s7 :: s8 :: s9 :: s10 :: .ow b xs :: r) K = (K (.pl 11) (s0 :: s1 :: s2 :: s3 :: s4 :: s5 :: s6 :: s7 :: s8 :: s9 :: s10 :: .ow b xs :: r)) := rfl
@[simp ↓] theorem rp11_z {s0 s1 s2 s3 s4 s5 s6 s7 s8 s9 s10 : Sl} {d : D} {r : Rho} {K : D → Prop} : rdx (s0 :: s1 :: s2 :: s3 :: s4 :: s5 :: s6 :: s7 :: s8 :: s9 :: s10 :: .fz d :: r) (.pl 11) K = (K d) := rfl
@[simp ↓] theorem rp11_w {s0 s1 s2 s3 s4 s5 s6 s7 s8 s9 s10 : Sl} {b : Bool} {xs : List D} {r : Rho} {K : D → Prop} : rdx (s0 :: s1 :: s2 :: s3 :: s4 :: s5 :: s6 :: s7 :: s8 :: s9 :: s10 :: .ow b xs :: r) (.pl 11) K = (K (.lst xs)) := rfl
@[simp ↓] theorem fp11_z {s0 s1 s2 s3 s4 s5 s6 s7 s8 s9 s10 : Sl} {d : D} {r : Rho} {K : D → Rho → Prop} : fzx (s0 :: s1 :: s2 :: s3 :: s4 :: s5 :: s6 :: s7 :: s8 :: s9 :: s10 :: .fz d :: r) (.pl 11) K = (K d (s0 :: s1 :: s2 :: s3 :: s4 :: s5 :: s6 :: s7 :: s8 :: s9 :: s10 :: .fz d :: r)) := rfl
@[simp ↓] theorem fp11_w {s0 s1 s2 s3 s4 s5 s6 s7 s8 s9 s10 : Sl} {xs : List D} {r : Rho} {K : D → Rho → Prop} : fzx (s0 :: s1 :: s2 :: s3 :: s4 :: s5 :: s6 :: s7 :: s8 :: s9 :: s10 :: .ow false xs :: r) (.pl 11) K = (K (.lst xs) (s0 :: s1 :: s2 :: s3 :: s4 :: s5 :: s6 :: s7 :: s8 :: s9 :: s10 :: .fz (.lst xs) :: r)) := rfl
@[simp ↓] theorem sv11 {s0 s1 s2 s3 s4 s5 s6 s7 s8 s9 s10 : Sl} {s : Sl} {d : D} {r : Rho} {K : Rho → Prop} : setR (s0 :: s1 :: s2 :: s3 :: s4 :: s5 :: s6 :: s7 :: s8 :: s9 :: s10 :: s :: r) 11 (.v d) K = (opS s = true ∧ K (s0 :: s1 :: s2 :: s3 :: s4 :: s5 :: s6 :: s7 :: s8 :: s9 :: s10 :: .fz d :: r)) := by cases s <;> first | rfl | (rename_i b xs; cases b <;> rfl)
@[simp ↓] theorem sn11 {s0 s1 s2 s3 s4 s5 s6 s7 s8 s9 s10 : Sl} {s : Sl} {xs : List D} {r : Rho} {K : Rho → Prop} : setR (s0 :: s1 :: s2 :: s3 :: s4 :: s5 :: s6 :: s7 :: s8 :: s9 :: s10 :: s :: r) 11 (.n xs) K = (opS s = true ∧ K (s0 :: s1 :: s2 :: s3 :: s4 :: s5 :: s6 :: s7 :: s8 :: s9 :: s10 :: .ow false xs :: r)) := by cases s <;> first | rfl | (rename_i b xs; cases b <;> rfl)
@[simp ↓] theorem tg11 {s0 s1 s2 s3 s4 s5 s6 s7 s8 s9 s10 : Sl} {s : Sl} {d : D} {r : Rho} {K : Rho → Prop} : tgD (.nm 11) d (s0 :: s1 :: s2 :: s3 :: s4 :: s5 :: s6 :: s7 :: s8 :: s9 :: s10 :: s :: r) K = (opS s = true ∧ K (s0 :: s1 :: s2 :: s3 :: s4 :: s5 :: s6 :: s7 :: s8 :: s9 :: s10 :: .fz d :: r)) := by cases s <;> first | rfl | (rename_i b xs; cases b <;> rfl)
@[simp ↓] theorem op11 {s0 s1 s2 s3 s4 s5 s6 s7 s8 s9 s10 : Sl} {s : Sl} {r : Rho} : open? (s0 :: s1 :: s2 :: s3 :: s4 :: s5 :: s6 :: s7 :: s8 :: s9 :: s10 :: s :: r) 11 = (opS s) := by cases s <;> first | rfl | (rename_i b xs; cases b <;> rfl)
@[simp ↓] theorem no11 {s0 s1 s2 s3 s4 s5 s6 s7 s8 s9 s10 : Sl} {s : Sl} {r : Rho} : notOw (s0 :: s1 :: s2 :: s3 :: s4 :: s5 :: s6 :: s7 :: s8 :: s9 :: s10 :: s :: r) 11 = (noS s) := by cases s <;> rfl
@[simp ↓] theorem io11 {s0 s1 s2 s3 s4 s5 s6 s7 s8 s9 s10 : Sl} {b : Bool} {xs : List D} {r : Rho} : isOw (s0 :: s1 :: s2 :: s3 :: s4 :: s5 :: s6 :: s7 :: s8 :: s9 :: s10 :: .ow b xs :: r) 11 = (true) := rfl
@[simp ↓] theorem oc11 {s0 s1 s2 s3 s4 s5 s6 s7 s8 s9 s10 : Sl} {b : Bool} {xs : List D} {r : Rho} {K : List D → (List D → Rho) → Prop} : owc 11 (s0 :: s1 :: s2 :: s3 :: s4 :: s5 :: s6 :: s7 :: s8 :: s9 :: s10 :: .ow b xs :: r) K = (K xs fun ys => (s0 :: s1 :: s2 :: s3 :: s4 :: s5 :: s6 :: s7 :: s8 :: s9 :: s10 :: .ow b ys :: r)) := rfl
@[simp ↓] theorem fzl11_w {s0 s1 s2 s3 s4 s5 s6 s7 s8 s9 s10 : Sl} {xs : List D} {l : List Nat} {r : Rho} : frzL (s0 :: s1 :: s2 :: s3 :: s4 :: s5 :: s6 :: s7 :: s8 :: s9 :: s10 :: .ow false xs :: r) (11 :: l) = (frzL (s0 :: s1 :: s2 :: s3 :: s4 :: s5 :: s6 :: s7 :: s8 :: s9 :: s10 :: .fz (.lst xs) :: r) l) := rfl
@[simp ↓] theorem fzl11_z {s0 s1 s2 s3 s4 s5 s6 s7 s8 s9 s10 : Sl} {d : D} {l : List Nat} {r : Rho} : frzL (s0 :: s1 :: s2 :: s3 :: s4 :: s5 :: s6 :: s7 :: s8 :: s9 :: s10 :: .fz d :: r) (11 :: l) = (frzL (s0 :: s1 :: s2 :: s3 :: s4 :: s5 :: s6 :: s7 :: s8 :: s9 :: s10 :: .fz d :: r) l) := rfl
@[simp ↓] theorem fzl11_o {s0 s1 s2 s3 s4 s5 s6 s7 s8 s9 s10 : Sl} {l : List Nat} {r : Rho} : frzL (s0 :: s1 :: s2 :: s3 :: s4 :: s5 :: s6 :: s7 :: s8 :: s9 :: s10 :: .no :: r) (11 :: l) = (frzL (s0 :: s1 :: s2 :: s3 :: s4 :: s5 :: s6 :: s7 :: s8 :: s9 :: s10 :: .no :: r) l) := rfl
@[simp ↓] theorem zc11 {s0 s1 s2 s3 s4 s5 s6 s7 s8 s9 s10 : Sl} {d : D} {r : Rho} {K : D → Prop} : fzc 11 (s0 :: s1 :: s2 :: s3 :: s4 :: s5 :: s6 :: s7 :: s8 :: s9 :: s10 :: .fz d :: r) K = (K d) := rfl
@[simp ↓] theorem fn11_z {m : Bool} {Kd : Res → List D → Prop} {s0 s1 s2 s3 s4 s5 s6 s7 s8 s9 s10 : Sl} {d : D} {r : Rho} : finR m Kd (.pl 11) (s0 :: s1 :: s2 :: s3 :: s4 :: s5 :: s6 :: s7 :: s8 :: s9 :: s10 :: .fz d :: r) = (Kd (.d d) (bagOf m (s0 :: s1 :: s2 :: s3 :: s4 :: s5 :: s6 :: s7 :: s8 :: s9 :: s10 :: .fz d :: r))) := rfl
@[simp ↓] theorem fn11_w {m : Bool} {Kd : Res → List D → Prop} {s0 s1 s2 s3 s4 s5 s6 s7 s8 s9 s10 : Sl} {xs : List D} {r : Rho} : finR m Kd (.pl 11) (s0 :: s1 :: s2 :: s3 :: s4 :: s5 :: s6 :: s7 :: s8 :: s9 :: s10 :: .ow false xs :: r) = (Kd (.n xs) (bagOf m (s0 :: s1 :: s2 :: s3 :: s4 :: s5 :: s6 :: s7 :: s8 :: s9 :: s10 :: .ow false xs :: r))) := rfl
@[simp ↓] theorem v12_z {S : Sg} {xp : XP} {s0 s1 s2 s3 s4 s5 s6 s7 s8 s9 s10 s11 : Sl} {d : D} {r : Rho} {K : KR} : iE S xp (.var 12) (s0 :: s1 :: s2 :: s3 :: s4 :: s5 :: s6 :: s7 :: s8 :: s9 :: s10 :: s11 :: .fz d :: r) K = (K (.v d) (s0 :: s1 :: s2 :: s3 :: s4 :: s5 :: s6 :: s7 :: s8 :: s9 :: s10 :: s11 :: .fz d :: r)) := rfl
@[simp ↓] theorem v12_w {S : Sg} {xp : XP} {s0 s1 s2 s3 s4 s5 s6 s7 s8 s9 s10 s11 : Sl} {b : Bool} {xs : List D} {r : Rho} {K : KR} : iE S xp (.var 12) (s0 :: s1 :: s2 :: s3 :: s4 :: s5 :: s6 :: s7 :: s8 :: s9 :: s10 :: s11 :: .ow b xs :: r) K = (K (.pl 12) (s0 :: s1 :: s2 :: s3 :: s4 :: s5 :: s6 :: s7 :: s8 :: s9 :: s10 :: s11 :: .ow b xs :: r)) := rfl
@[simp ↓] theorem rp12_z {s0 s1 s2 s3 s4 s5 s6 s7 s8 s9 s10 s11 : Sl} {d : D} {r : Rho} {K : D → Prop} : rdx (s0 :: s1 :: s2 :: s3 :: s4 :: s5 :: s6 :: s7 :: s8 :: s9 :: s10 :: s11 :: .fz d :: r) (.pl 12) K = (K d) := rfl
@[simp ↓] theorem rp12_w {s0 s1 s2 s3 s4 s5 s6 s7 s8 s9 s10 s11 : Sl} {b : Bool} {xs : List D} {r : Rho} {K : D → Prop} : rdx (s0 :: s1 :: s2 :: s3 :: s4 :: s5 :: s6 :: s7 :: s8 :: s9 :: s10 :: s11 :: .ow b xs :: r) (.pl 12) K = (K (.lst xs)) := rfl
@[simp ↓] theorem fp12_z {s0 s1 s2 s3 s4 s5 s6 s7 s8 s9 s10 s11 : Sl} {d : D} {r : Rho} {K : D → Rho → Prop} : fzx (s0 :: s1 :: s2 :: s3 :: s4 :: s5 :: s6 :: s7 :: s8 :: s9 :: s10 :: s11 :: .fz d :: r) (.pl 12) K = (K d (s0 :: s1 :: s2 :: s3 :: s4 :: s5 :: s6 :: s7 :: s8 :: s9 :: s10 :: s11 :: .fz d :: r)) := rfl
@[simp ↓] theorem fp12_w {s0 s1 s2 s3 s4 s5 s6 s7 s8 s9 s10 s11 : Sl} {xs : List D} {r : Rho} {K : D → Rho → Prop} : fzx (s0 :: s1 :: s2 :: s3 :: s4 :: s5 :: s6 :: s7 :: s8 :: s9 :: s10 :: s11 :: .ow false xs :: r) (.pl 12) K = (K (.lst xs) (s0 :: s1 :: s2 :: s3 :: s4 :: s5 :: s6 :: s7 :: s8 :: s9 :: s10 :: s11 :: .fz (.lst xs) :: r)) := rfl
@[simp ↓] theorem sv12 {s0 s1 s2 s3 s4 s5 s6 s7 s8 s9 s10 s11 : Sl} {s : Sl} {d : D} {r : Rho} {K : Rho → Prop} : setR (s0 :: s1 :: s2 :: s3 :: s4 :: s5 :: s6 :: s7 :: s8 :: s9 :: s10 :: s11 :: s :: r) 12 (.v d) K = (opS s = true ∧ K (s0 :: s1 :: s2 :: s3 :: s4 :: s5 :: s6 :: s7 :: s8 :: s9 :: s10 :: s11 :: .fz d :: r)) := by cases s <;> first | rfl | (rename_i b xs; cases b <;> rfl)
@[simp ↓] theorem sn12 {s0 s1 s2 s3 s4 s5 s6 s7 s8 s9 s10 s11 : Sl} {s : Sl} {xs : List D} {r : Rho} {K : Rho → Prop} : setR (s0 :: s1 :: s2 :: s3 :: s4 :: s5 :: s6 :: s7 :: s8 :: s9 :: s10 :: s11 :: s :: r) 12 (.n xs) K = (opS s = true ∧ K (s0 :: s1 :: s2 :: s3 :: s4 :: s5 :: s6 :: s7 :: s8 :: s9 :: s10 :: s11 :: .ow false xs :: r)) := by cases s <;> first | rfl | (rename_i b xs; cases b <;> rfl)
@[simp ↓] theorem tg12 {s0 s1 s2 s3 s4 s5 s6 s7 s8 s9 s10 s11 : Sl} {s : Sl} {d : D} {r : Rho} {K : Rho → Prop} : tgD (.nm 12) d (s0 :: s1 :: s2 :: s3 :: s4 :: s5 :: s6 :: s7 :: s8 :: s9 :: s10 :: s11 :: s :: r) K = (opS s = true ∧ K (s0 :: s1 :: s2 :: s3 :: s4 :: s5 :: s6 :: s7 :: s8 :: s9 :: s10 :: s11 :: .fz d :: r)) := by cases s <;> first | rfl | (rename_i b xs; cases b <;> rfl)
@[simp ↓] theorem op12 {s0 s1 s2 s3 s4 s5 s6 s7 s8 s9 s10 s11 : Sl} {s : Sl} {r : Rho} : open? (s0 :: s1 :: s2 :: s3 :: s4 :: s5 :: s6 :: s7 :: s8 :: s9 :: s10 :: s11 :: s :: r) 12 = (opS s) := by cases s <;> first | rfl | (rename_i b xs; cases b <;> rfl)
@[simp ↓] theorem no12 {s0 s1 s2 s3 s4 s5 s6 s7 s8 s9 s10 s11 : Sl} {s : Sl} {r : Rho} : notOw (s0 :: s1 :: s2 :: s3 :: s4 :: s5 :: s6 :: s7 :: s8 :: s9 :: s10 :: s11 :: s :: r) 12 = (noS s) := by cases s <;> rfl
@[simp ↓] theorem io12 {s0 s1 s2 s3 s4 s5 s6 s7 s8 s9 s10 s11 : Sl} {b : Bool} {xs : List D} {r : Rho} : isOw (s0 :: s1 :: s2 :: s3 :: s4 :: s5 :: s6 :: s7 :: s8 :: s9 :: s10 :: s11 :: .ow b xs :: r) 12 = (true) := rfl
@[simp ↓] theorem oc12 {s0 s1 s2 s3 s4 s5 s6 s7 s8 s9 s10 s11 : Sl} {b : Bool} {xs : List D} {r : Rho} {K : List D → (List D → Rho) → Prop} : owc 12 (s0 :: s1 :: s2 :: s3 :: s4 :: s5 :: s6 :: s7 :: s8 :: s9 :: s10 :: s11 :: .ow b xs :: r) K = (K xs fun ys => (s0 :: s1 :: s2 :: s3 :: s4 :: s5 :: s6 :: s7 :: s8 :: s9 :: s10 :: s11 :: .ow b ys :: r)) := rfl
@[simp ↓] theorem fzl12_w {s0 s1 s2 s3 s4 s5 s6 s7 s8 s9 s10 s11 : Sl} {xs : List D} {l : List Nat} {r : Rho} : frzL (s0 :: s1 :: s2 :: s3 :: s4 :: s5 :: s6 :: s7 :: s8 :: s9 :: s10 :: s11 :: .ow false xs :: r) (12 :: l) = (frzL (s0 :: s1 :: s2 :: s3 :: s4 :: s5 :: s6 :: s7 :: s8 :: s9 :: s10 :: s11 :: .fz (.lst xs) :: r) l) := rfl
@[simp ↓] theorem fzl12_z {s0 s1 s2 s3 s4 s5 s6 s7 s8 s9 s10 s11 : Sl} {d : D} {l : List Nat} {r : Rho} : frzL (s0 :: s1 :: s2 :: s3 :: s4 :: s5 :: s6 :: s7 :: s8 :: s9 :: s10 :: s11 :: .fz d :: r) (12 :: l) = (frzL (s0 :: s1 :: s2 :: s3 :: s4 :: s5 :: s6 :: s7 :: s8 :: s9 :: s10 :: s11 :: .fz d :: r) l) := rfl
@[simp ↓] theorem fzl12_o {s0 s1 s2 s3 s4 s5 s6 s7 s8 s9 s10 s11 : Sl} {l : List Nat} {r : Rho} : frzL (s0 :: s1 :: s2 :: s3 :: s4 :: s5 :: s6 :: s7 :: s8 :: s9 :: s10 :: s11 :: .no :: r) (12 :: l) = (frzL (s0 :: s1 :: s2 :: s3 :: s4 :: s5 :: s6 :: s7 :: s8 :: s9 :: s10 :: s11 :: .no :: r) l) := rfl
@[simp ↓] theorem zc12 {s0 s1 s2 s3 s4 s5 s6 s7 s8 s9 s10 s11 : Sl} {d : D} {r : Rho} {K : D → Prop} : fzc 12 (s0 :: s1 :: s2 :: s3 :: s4 :: s5 :: s6 :: s7 :: s8 :: s9 :: s10 :: s11 :: .fz d :: r) K = (K d) := rfl
@[simp ↓] theorem fn12_z {m : Bool} {Kd : Res → List D → Prop} {s0 s1 s2 s3 s4 s5 s6 s7 s8 s9 s10 s11 : Sl} {d : D} {r : Rho} : finR m Kd (.pl 12) (s0 :: s1 :: s2 :: s3 :: s4 :: s5 :: s6 :: s7 :: s8 :: s9 :: s10 :: s11 :: .fz d :: r) = (Kd (.d d) (bagOf m (s0 :: s1 :: s2 :: s3 :: s4 :: s5 :: s6 :: s7 :: s8 :: s9 :: s10 :: s11 :: .fz d :: r))) := rfl
@[simp ↓] theorem fn12_w {m : Bool} {Kd : Res → List D → Prop} {s0 s1 s2 s3 s4 s5 s6 s7 s8 s9 s10 s11 : Sl} {xs : List D} {r : Rho} : finR m Kd (.pl 12) (s0 :: s1 :: s2 :: s3 :: s4 :: s5 :: s6 :: s7 :: s8 :: s9 :: s10 :: s11 :: .ow false xs :: r) = (Kd (.n xs) (bagOf m (s0 :: s1 :: s2 :: s3 :: s4 :: s5 :: s6 :: s7 :: s8 :: s9 :: s10 :: s11 :: .ow false xs :: r))) := rfl
@[simp ↓] theorem v13_z {S : Sg} {xp : XP} {s0 s1 s2 s3 s4 s5 s6 s7 s8 s9 s10 s11 s12 : Sl} {d : D} {r : Rho} {K : KR} : iE S xp (.var 13) (s0 :: s1 :: s2 :: s3 :: s4 :: s5 :: s6 :: s7 :: s8 :: s9 :: s10 :: s11 :: s12 :: .fz d :: r) K = (K (.v d) (s0 :: s1 :: s2 :: s3 :: s4 :: s5 :: s6 :: s7 :: s8 :: s9 :: s10 :: s11 :: s12 :: .fz d :: r)) := rfl
@[simp ↓] theorem v13_w {S : Sg} {xp : XP} {s0 s1 s2 s3 s4 s5 s6 s7 s8 s9 s10 s11 s12 : Sl} {b : Bool} {xs : List D} {r : Rho} {K : KR} : iE S xp (.var 13) (s0 :: s1 :: s2 :: s3 :: s4 :: s5 :: s6 :: s7 :: s8 :: s9 :: s10 :: s11 :: s12 :: .ow b xs :: r) K = (K (.pl 13) (s0 :: s1 :: s2 :: s3 :: s4 :: s5 :: s6 :: s7 :: s8 :: s9 :: s10 :: s11 :: s12 :: .ow b xs :: r)) := rfl
@[simp ↓] theorem rp13_z {s0 s1 s2 s3 s4 s5 s6 s7 s8 s9 s10 s11 s12 : Sl} {d : D} {r : Rho} {K : D → Prop} : rdx (s0 :: s1 :: s2 :: s3 :: s4 :: s5 :: s6 :: s7 :: s8 :: s9 :: s10 :: s11 :: s12 :: .fz d :: r) (.pl 13) K = (K d) := rfl
@[simp ↓] theorem rp13_w {s0 s1 s2 s3 s4 s5 s6 s7 s8 s9 s10 s11 s12 : Sl} {b : Bool} {xs : List D} {r : Rho} {K : D → Prop} : rdx (s0 :: s1 :: s2 :: s3 :: s4 :: s5 :: s6 :: s7 :: s8 :: s9 :: s10 :: s11 :: s12 :: .ow b xs :: r) (.pl 13) K = (K (.lst xs)) := rfl
@[simp ↓] theorem fp13_z {s0 s1 s2 s3 s4 s5 s6 s7 s8 s9 s10 s11 s12 : Sl} {d : D} {r : Rho} {K : D → Rho → Prop} : fzx (s0 :: s1 :: s2 :: s3 :: s4 :: s5 :: s6 :: s7 :: s8 :: s9 :: s10 :: s11 :: s12 :: .fz d :: r) (.pl 13) K = (K d (s0 :: s1 :: s2 :: s3 :: s4 :: s5 :: s6 :: s7 :: s8 :: s9 :: s10 :: s11 :: s12 :: .fz d :: r)) := rfl
@[simp ↓] theorem fp13_w {s0 s1 s2 s3 s4 s5 s6 s7 s8 s9 s10 s11 s12 : Sl} {xs : List D} {r : Rho} {K : D → Rho → Prop} : fzx (s0 :: s1 :: s2 :: s3 :: s4 :: s5 :: s6 :: s7 :: s8 :: s9 :: s10 :: s11 :: s12 :: .ow false xs :: r) (.pl 13) K = (K (.lst xs) (s0 :: s1 :: s2 :: s3 :: s4 :: s5 :: s6 :: s7 :: s8 :: s9 :: s10 :: s11 :: s12 :: .fz (.lst xs) :: r)) := rfl
@[simp ↓] theorem sv13 {s0 s1 s2 s3 s4 s5 s6 s7 s8 s9 s10 s11 s12 : Sl} {s : Sl} {d : D} {r : Rho} {K : Rho → Prop} : setR (s0 :: s1 :: s2 :: s3 :: s4 :: s5 :: s6 :: s7 :: s8 :: s9 :: s10 :: s11 :: s12 :: s :: r) 13 (.v d) K = (opS s = true ∧ K (s0 :: s1 :: s2 :: s3 :: s4 :: s5 :: s6 :: s7 :: s8 :: s9 :: s10 :: s11 :: s12 :: .fz d :: r)) := by cases s <;> first | rfl | (rename_i b xs; cases b <;> rfl)
@[simp ↓] theorem sn13 {s0 s1 s2 s3 s4 s5 s6 s7 s8 s9 s10 s11 s12 : Sl} {s : Sl} {xs : List D} {r : Rho} {K : Rho → Prop} : setR (s0 :: s1 :: s2 :: s3 :: s4 :: s5 :: s6 :: s7 :: s8 :: s9 :: s10 :: s11 :: s12 :: s :: r) 13 (.n xs) K = (opS s = true ∧ K (s0 :: s1 :: s2 :: s3 :: s4 :: s5 :: s6 :: s7 :: s8 :: s9 :: s10 :: s11 :: s12 :: .ow false xs :: r)) := by cases s <;> first | rfl | (rename_i b xs; cases b <;> rfl)
@[simp ↓] theorem tg13 {s0 s1 s2 s3 s4 s5 s6 s7 s8 s9 s10 s11 s12 : Sl} {s : Sl} {d : D} {r : Rho} {K : Rho → Prop} : tgD (.nm 13) d (s0 :: s1 :: s2 :: s3 :: s4 :: s5 :: s6 :: s7 :: s8 :: s9 :: s10 :: s11 :: s12 :: s :: r) K = (opS s = true ∧ K (s0 :: s1 :: s2 :: s3 :: s4 :: s5 :: s6 :: s7 :: s8 :: s9 :: s10 :: s11 :: s12 :: .fz d :: r)) := by cases s <;> first | rfl | (rename_i b xs; cases b <;> rfl)
@[simp ↓] theorem op13 {s0 s1 s2 s3 s4 s5 s6 s7 s8 s9 s10 s11 s12 : Sl} {s : Sl} {r : Rho} : open? (s0 :: s1 :: s2 :: s3 :: s4 :: s5 :: s6 :: s7 :: s8 :: s9 :: s10 :: s11 :: s12 :: s :: r) 13 = (opS s) := by cases s <;> first | rfl | (rename_i b xs; cases b <;> rfl)
@[simp ↓] theorem no13 {s0 s1 s2 s3 s4 s5 s6 s7 s8 s9 s10 s11 s12 : Sl} {s : Sl} {r : Rho} : notOw (s0 :: s1 :: s2 :: s3 :: s4 :: s5 :: s6 :: s7 :: s8 :: s9 :: s10 :: s11 :: s12 :: s :: r) 13 = (noS s) := by cases s <;> rfl
@[simp ↓] theorem io13 {s0 s1 s2 s3 s4 s5 s6 s7 s8 s9 s10 s11 s12 : Sl} {b : Bool} {xs : List D} {r : Rho} : isOw (s0 :: s1 :: s2 :: s3 :: s4 :: s5 :: s6 :: s7 :: s8 :: s9 :: s10 :: s11 :: s12 :: .ow b xs :: r) 13 = (true) := rfl
@[simp ↓] theorem oc13 {s0 s1 s2 s3 s4 s5 s6 s7 s8 s9 s10 s11 s12 : Sl} {b : Bool} {xs : List D} {r : Rho} {K : List D → (List D → Rho) → Prop} : owc 13 (s0 :: s1 :: s2 :: s3 :: s4 :: s5 :: s6 :: s7 :: s8 :: s9 :: s10 :: s11 :: s12 :: .ow b xs :: r) K = (K xs fun ys => (s0 :: s1 :: s2 :: s3 :: s4 :: s5 :: s6 :: s7 :: s8 :: s9 :: s10 :: s11 :: s12 :: .ow b ys :: r)) := rfl
@[simp ↓] theorem fzl13_w {s0 s1 s2 s3 s4 s5 s6 s7 s8 s9 s10 s11 s12 : Sl} {xs : List D} {l : List Nat} {r : Rho} : frzL (s0 :: s1 :: s2 :: s3 :: s4 :: s5 :: s6 :: s7 :: s8 :: s9 :: s10 :: s11 :: s12 :: .ow false xs :: r) (13 :: l) = (frzL (s0 :: s1 :: s2 :: s3 :: s4 :: s5 :: s6 :: s7 :: s8 :: s9 :: s10 :: s11 :: s12 :: .fz (.lst xs) :: r) l) := rfl
@[simp ↓] theorem fzl13_z {s0 s1 s2 s3 s4 s5 s6 s7 s8 s9 s10 s11 s12 : Sl} {d : D} {l : List Nat} {r : Rho} : frzL (s0 :: s1 :: s2 :: s3 :: s4 :: s5 :: s6 :: s7 :: s8 :: s9 :: s10 :: s11 :: s12 :: .fz d :: r) (13 :: l) = (frzL (s0 :: s1 :: s2 :: s3 :: s4 :: s5 :: s6 :: s7 :: s8 :: s9 :: s10 :: s11 :: s12 :: .fz d :: r) l) := rfl
@[simp ↓] theorem fzl13_o {s0 s1 s2 s3 s4 s5 s6 s7 s8 s9 s10 s11 s12 : Sl} {l : List Nat} {r : Rho} : frzL (s0 :: s1 :: s2 :: s3 :: s4 :: s5 :: s6 :: s7 :: s8 :: s9 :: s10 :: s11 :: s12 :: .no :: r) (13 :: l) = (frzL (s0 :: s1 :: s2 :: s3 :: s4 :: s5 :: s6 :: s7 :: s8 :: s9 :: s10 :: s11 :: s12 :: .no :: r) l) := rfl
@[simp ↓] theorem zc13 {s0 s1 s2 s3 s4 s5 s6 s7 s8 s9 s10 s11 s12 : Sl} {d : D} {r : Rho} {K : D → Prop} : fzc 13 (s0 :: s1 :: s2 :: s3 :: s4 :: s5 :: s6 :: s7 :: s8 :: s9 :: s10 :: s11 :: s12 :: .fz d :: r) K = (K d) := rfl
@[simp ↓] theorem fn13_z {m : Bool} {Kd : Res → List D → Prop} {s0 s1 s2 s3 s4 s5 s6 s7 s8 s9 s10 s11 s12 : Sl} {d : D} {r : Rho} : finR m Kd (.pl 13) (s0 :: s1 :: s2 :: s3 :: s4 :: s5 :: s6 :: s7 :: s8 :: s9 :: s10 :: s11 :: s12 :: .fz d :: r) = (Kd (.d d) (bagOf m (s0 :: s1 :: s2 :: s3 :: s4 :: s5 :: s6 :: s7 :: s8 :: s9 :: s10 :: s11 :: s12 :: .fz d :: r))) := rfl
@[simp ↓] theorem fn13_w {m : Bool} {Kd : Res → List D → Prop} {s0 s1 s2 s3 s4 s5 s6 s7 s8 s9 s10 s11 s12 : Sl} {xs : List D} {r : Rho} : finR m Kd (.pl 13) (s0 :: s1 :: s2 :: s3 :: s4 :: s5 :: s6 :: s7 :: s8 :: s9 :: s10 :: s11 :: s12 :: .ow false xs :: r) = (Kd (.n xs) (bagOf m (s0 :: s1 :: s2 :: s3 :: s4 :: s5 :: s6 :: s7 :: s8 :: s9 :: s10 :: s11 :: s12 :: .ow false xs :: r))) := rfl
@[simp ↓] theorem v14_z {S : Sg} {xp : XP} {s0 s1 s2 s3 s4 s5 s6 s7 s8 s9 s10 s11 s12 s13 : Sl} {d : D} {r : Rho} {K : KR} : iE S xp (.var 14) (s0 :: s1 :: s2 :: s3 :: s4 :: s5 :: s6 :: s7 :: s8 :: s9 :: s10 :: s11 :: s12 :: s13 :: .fz d :: r) K = (K (.v d) (s0 :: s1 :: s2 :: s3 :: s4 :: s5 :: s6 :: s7 :: s8 :: s9 :: s10 :: s11 :: s12 :: s13 :: .fz d :: r)) := rfl
@[simp ↓] theorem v14_w {S : Sg} {xp : XP} {s0 s1 s2 s3 s4 s5 s6 s7 s8 s9 s10 s11 s12 s13 : Sl} {b : Bool} {xs : List D} {r : Rho} {K : KR} : iE S xp (.var 14) (s0 :: s1 :: s2 :: s3 :: s4 :: s5 :: s6 :: s7 :: s8 :: s9 :: s10 :: s11 :: s12 :: s13 :: .ow b xs :: r) K = (K (.pl 14) (s0 :: s1 :: s2 :: s3 :: s4 :: s5 :: s6 :: s7 :: s8 :: s9 :: s10 :: s11 :: s12 :: s13 :: .ow b xs :: r)) := rfl
@[simp ↓] theorem rp14_z {s0 s1 s2 s3 s4 s5 s6 s7 s8 s9 s10 s11 s12 s13 : Sl} {d : D} {r : Rho} {K : D → Prop} : rdx (s0 :: s1 :: s2 :: s3 :: s4 :: s5 :: s6 :: s7 :: s8 :: s9 :: s10 :: s11 :: s12 :: s13 :: .fz d :: r) (.pl 14) K = (K d) := rfl
@[simp ↓] theorem rp14_w {s0 s1 s2 s3 s4 s5 s6 s7 s8 s9 s10 s11 s12 s13 : Sl} {b : Bool} {xs : List D} {r : Rho} {K : D → Prop} : rdx (s0 :: s1 :: s2 :: s3 :: s4 :: s5 :: s6 :: s7 :: s8 :: s9 :: s10 :: s11 :: s12 :: s13 :: .ow b xs :: r) (.pl 14) K = (K (.lst xs)) := rfl
@[simp ↓] theorem fp14_z {s0 s1 s2 s3 s4 s5 s6 s7 s8 s9 s10 s11 s12 s13 : Sl} {d : D} {r : Rho} {K : D → Rho → Prop} : fzx (s0 :: s1 :: s2 :: s3 :: s4 :: s5 :: s6 :: s7 :: s8 :: s9 :: s10 :: s11 :: s12 :: s13 :: .fz d :: r) (.pl 14) K = (K d (s0 :: s1 :: s2 :: s3 :: s4 :: s5 :: s6 :: s7 :: s8 :: s9 :: s10 :: s11 :: s12 :: s13 :: .fz d :: r)) := rfl
@[simp ↓] theorem fp14_w {s0 s1 s2 s3 s4 s5 s6 s7 s8 s9 s10 s11 s12 s13 : Sl} {xs : List D} {r : Rho} {K : D → Rho → Prop} : fzx (s0 :: s1 :: s2 :: s3 :: s4 :: s5 :: s6 :: s7 :: s8 :: s9 :: s10 :: s11 :: s12 :: s13 :: .ow false xs :: r) (.pl 14) K = (K (.lst xs) (s0 :: s1 :: s2 :: s3 :: s4 :: s5 :: s6 :: s7 :: s8 :: s9 :: s10 :: s11 :: s12 :: s13 :: .fz (.lst xs) :: r)) := rfl
@[simp ↓] theorem sv14 {s0 s1 s2 s3 s4 s5 s6 s7 s8 s9 s10 s11 s12 s13 : Sl} {s : Sl} {d : D} {r : Rho} {K : Rho → Prop} : setR (s0 :: s1 :: s2 :: s3 :: s4 :: s5 :: s6 :: s7 :: s8 :: s9 :: s10 :: s11 :: s12 :: s13 :: s :: r) 14 (.v d) K = (opS s = true ∧ K (s0 :: s1 :: s2 :: s3 :: s4 :: s5 :: s6 :: s7 :: s8 :: s9 :: s10 :: s11 :: s12 :: s13 :: .fz d :: r)) := by cases s <;> first | rfl | (rename_i b xs; cases b <;> rfl)
@[simp ↓] theorem sn14 {s0 s1 s2 s3 s4 s5 s6 s7 s8 s9 s10 s11 s12 s13 : Sl} {s : Sl} {xs : List D} {r : Rho} {K : Rho → Prop} : setR (s0 :: s1 :: s2 :: s3 :: s4 :: s5 :: s6 :: s7 :: s8 :: s9 :: s10 :: s11 :: s12 :: s13 :: s :: r) 14 (.n xs) K = (opS s = true ∧ K (s0 :: s1 :: s2 :: s3 :: s4 :: s5 :: s6 :: s7 :: s8 :: s9 :: s10 :: s11 :: s12 :: s13 :: .ow false xs :: r)) := by cases s <;> first | rfl | (rename_i b xs; cases b <;> rfl)
@[simp ↓] theorem tg14 {s0 s1 s2 s3 s4 s5 s6 s7 s8 s9 s10 s11 s12 s13 : Sl} {s : Sl} {d : D} {r : Rho} {K : Rho → Prop} : tgD (.nm 14) d (s0 :: s1 :: s2 :: s3 :: s4 :: s5 :: s6 :: s7 :: s8 :: s9 :: s10 :: s11 :: s12 :: s13 :: s :: r) K = (opS s = true ∧ K (s0 :: s1 :: s2 :: s3 :: s4 :: s5 :: s6 :: s7 :: s8 :: s9 :: s10 :: s11 :: s12 :: s13 :: .fz d :: r)) := by cases s <;> first | rfl | (rename_i b xs; cases b <;> rfl)
@[simp ↓] theorem op14 {s0 s1 s2 s3 s4 s5 s6 s7 s8 s9 s10 s11 s12 s13 : Sl} {s : Sl} {r : Rho} : open? (s0 :: s1 :: s2 :: s3 :: s4 :: s5 :: s6 :: s7 :: s8 :: s9 :: s10 :: s11 :: s12 :: s13 :: s :: r) 14 = (opS s) := by cases s <;> first | rfl | (rename_i b xs; cases b <;> rfl)
@[simp ↓] theorem no14 {s0 s1 s2 s3 s4 s5 s6 s7 s8 s9 s10 s11 s12 s13 : Sl} {s : Sl} {r : Rho} : notOw (s0 :: s1 :: s2 :: s3 :: s4 :: s5 :: s6 :: s7 :: s8 :: s9 :: s10 :: s11 :: s12 :: s13 :: s :: r) 14 = (noS s) := by cases s <;> rfl
@[simp ↓] theorem io14 {s0 s1 s2 s3 s4 s5 s6 s7 s8 s9 s10 s11 s12 s13 : Sl} {b : Bool} {xs : List D} {r : Rho} : isOw (s0 :: s1 :: s2 :: s3 :: s4 :: s5 :: s6 :: s7 :: s8 :: s9 :: s10 :: s11 :: s12 :: s13 :: .ow b xs :: r) 14 = (true) := rfl
@[simp ↓] theorem oc14 {s0 s1 s2 s3 s4 s5 s6 s7 s8 s9 s10 s11 s12 s13 : Sl} {b : Bool} {xs : List D} {r : Rho} {K : List D → (List D → Rho) → Prop} : owc 14 (s0 :: s1 :: s2 :: s3 :: s4 :: s5 :: s6 :: s7 :: s8 :: s9 :: s10 :: s11 :: s12 :: s13 :: .ow b xs :: r) K = (K xs fun ys => (s0 :: s1 :: s2 :: s3 :: s4 :: s5 :: s6 :: s7 :: s8 :: s9 :: s10 :: s11 :: s12 :: s13 :: .ow b ys :: r)) := rfl
@[simp ↓] theorem fzl14_w {s0 s1 s2 s3 s4 s5 s6 s7 s8 s9 s10 s11 s12 s13 : Sl} {xs : List D} {l : List Nat} {r : Rho} : frzL (s0 :: s1 :: s2 :: s3 :: s4 :: s5 :: s6 :: s7 :: s8 :: s9 :: s10 :: s11 :: s12 :: s13 :: .ow false xs :: r) (14 :: l) = (frzL (s0 :: s1 :: s2 :: s3 :: s4 :: s5 :: s6 :: s7 :: s8 :: s9 :: s10 :: s11 :: s12 :: s13 :: .fz (.lst xs) :: r) l) := rfl
@[simp ↓] theorem fzl14_z {s0 s1 s2 s3 s4 s5 s6 s7 s8 s9 s10 s11 s12 s13 : Sl} {d : D} {l : List Nat} {r : Rho} : frzL (s0 :: s1 :: s2 :: s3 :: s4 :: s5 :: s6 :: s7 :: s8 :: s9 :: s10 :: s11 :: s12 :: s13 :: .fz d :: r) (14 :: l) = (frzL (s0 :: s1 :: s2 :: s3 :: s4 :: s5 :: s6 :: s7 :: s8 :: s9 :: s10 :: s11 :: s12 :: s13 :: .fz d :: r) l) := rfl
@[simp ↓] theorem fzl14_o {s0 s1 s2 s3 s4 s5 s6 s7 s8 s9 s10 s11 s12 s13 : Sl} {l : List Nat} {r : Rho} : frzL (s0 :: s1 :: s2 :: s3 :: s4 :: s5 :: s6 :: s7 :: s8 :: s9 :: s10 :: s11 :: s12 :: s13 :: .no :: r) (14 :: l) = (frzL (s0 :: s1 :: s2 :: s3 :: s4 :: s5 :: s6 :: s7 :: s8 :: s9 :: s10 :: s11 :: s12 :: s13 :: .no :: r) l) := rfl
@[simp ↓] theorem zc14 {s0 s1 s2 s3 s4 s5 s6 s7 s8 s9 s10 s11 s12 s13 : Sl} {d : D} {r : Rho} {K : D → Prop} : fzc 14 (s0 :: s1 :: s2 :: s3 :: s4 :: s5 :: s6 :: s7 :: s8 :: s9 :: s10 :: s11 :: s12 :: s13 :: .fz d :: r) K = (K d) := rfl
@[simp ↓] theorem fn14_z {m : Bool} {Kd : Res → List D → Prop} {s0 s1 s2 s3 s4 s5 s6 s7 s8 s9 s10 s11 s12 s13 : Sl} {d : D} {r : Rho} : finR m Kd (.pl 14) (s0 :: s1 :: s2 :: s3 :: s4 :: s5 :: s6 :: s7 :: s8 :: s9 :: s10 :: s11 :: s12 :: s13 :: .fz d :: r) = (Kd (.d d) (bagOf m (s0 :: s1 :: s2 :: s3 :: s4 :: s5 :: s6 :: s7 :: s8 :: s9 :: s10 :: s11 :: s12 :: s13 :: .fz d :: r))) := rfl
@[simp ↓] theorem fn14_w {m : Bool} {Kd : Res → List D → Prop} {s0 s1 s2 s3 s4 s5 s6 s7 s8 s9 s10 s11 s12 s13 : Sl} {xs : List D} {r : Rho} : finR m Kd (.pl 14) (s0 :: s1 :: s2 :: s3 :: s4 :: s5 :: s6 :: s7 :: s8 :: s9 :: s10 :: s11 :: s12 :: s13 :: .ow false xs :: r) = (Kd (.n xs) (bagOf m (s0 :: s1 :: s2 :: s3 :: s4 :: s5 :: s6 :: s7 :: s8 :: s9 :: s10 :: s11 :: s12 :: s13 :: .ow false xs :: r))) := rfl
@[simp ↓] theorem v15_z {S : Sg} {xp : XP} {s0 s1 s2 s3 s4 s5 s6 s7 s8 s9 s10 s11 s12 s13 s14 : Sl} {d : D} {r : Rho} {K : KR} : iE S xp (.var 15) (s0 :: s1 :: s2 :: s3 :: s4 :: s5 :: s6 :: s7 :: s8 :: s9 :: s10 :: s11 :: s12 :: s13 :: s14 :: .fz d :: r) K = (K (.v d) (s0 :: s1 :: s2 :: s3 :: s4 :: s5 :: s6 :: s7 :: s8 :: s9 :: s10 :: s11 :: s12 :: s13 :: s14 :: .fz d :: r)) := rfl
@[simp ↓] theorem v15_w {S : Sg} {xp : XP} {s0 s1 s2 s3 s4 s5 s6 s7 s8 s9 s10 s11 s12 s13 s14 : Sl} {b : Bool} {xs : List D} {r : Rho} {K : KR} : iE S xp (.var 15) (s0 :: s1 :: s2 :: s3 :: s4 :: s5 :: s6 :: s7 :: s8 :: s9 :: s10 :: s11 :: s12 :: s13 :: s14 :: .ow b xs :: r) K = (K (.pl 15) (s0 :: s1 :: s2 :: s3 :: s4 :: s5 :: s6 :: s7 :: s8 :: s9 :: s10 :: s11 :: s12 :: s13 :: s14 :: .ow b xs :: r)) := rfl
@[simp ↓] theorem rp15_z {s0 s1 s2 s3 s4 s5 s6 s7 s8 s9 s10 s11 s12 s13 s14 : Sl} {d : D} {r : Rho} {K : D → Prop} : rdx (s0 :: s1 :: s2 :: s3 :: s4 :: s5 :: s6 :: s7 :: s8 :: s9 :: s10 :: s11 :: s12 :: s13 :: s14 :: .fz d :: r) (.pl 15) K = (K d) := rfl
@[simp ↓] theorem rp15_w {s0 s1 s2 s3 s4 s5 s6 s7 s8 s9 s10 s11 s12 s13 s14 : Sl} {b : Bool} {xs : List D} {r : Rho} {K : D → Prop} : rdx (s0 :: s1 :: s2 :: s3 :: s4 :: s5 :: s6 :: s7 :: s8 :: s9 :: s10 :: s11 :: s12 :: s13 :: s14 :: .ow b xs :: r) (.pl 15) K = (K (.lst xs)) := rfl
@[simp ↓] theorem fp15_z {s0 s1 s2 s3 s4 s5 s6 s7 s8 s9 s10 s11 s12 s13 s14 : Sl} {d : D} {r : Rho} {K : D → Rho → Prop} : fzx (s0 :: s1 :: s2 :: s3 :: s4 :: s5 :: s6 :: s7 :: s8 :: s9 :: s10 :: s11 :: s12 :: s13 :: s14 :: .fz d :: r) (.pl 15) K = (K d (s0 :: s1 :: s2 :: s3 :: s4 :: s5 :: s6 :: s7 :: s8 :: s9 :: s10 :: s11 :: s12 :: s13 :: s14 :: .fz d :: r)) := rfl
@[simp ↓] theorem fp15_w {s0 s1 s2 s3 s4 s5 s6 s7 s8 s9 s10 s11 s12 s13 s14 : Sl} {xs : List D} {r : Rho} {K : D → Rho → Prop} : fzx (s0 :: s1 :: s2 :: s3 :: s4 :: s5 :: s6 :: s7 :: s8 :: s9 :: s10 :: s11 :: s12 :: s13 :: s14 :: .ow false xs :: r) (.pl 15) K = (K (.lst xs) (s0 :: s1 :: s2 :: s3 :: s4 :: s5 :: s6 :: s7 :: s8 :: s9 :: s10 :: s11 :: s12 :: s13 :: s14 :: .fz (.lst xs) :: r)) := rfl
@[simp ↓] theorem sv15 {s0 s1 s2 s3 s4 s5 s6 s7 s8 s9 s10 s11 s12 s13 s14 : Sl} {s : Sl} {d : D} {r : Rho} {K : Rho → Prop} : setR (s0 :: s1 :: s2 :: s3 :: s4 :: s5 :: s6 :: s7 :: s8 :: s9 :: s10 :: s11 :: s12 :: s13 :: s14 :: s :: r) 15 (.v d) K = (opS s = true ∧ K (s0 :: s1 :: s2 :: s3 :: s4 :: s5 :: s6 :: s7 :: s8 :: s9 :: s10 :: s11 :: s12 :: s13 :: s14 :: .fz d :: r)) := by cases s <;> first | rfl | (rename_i b xs; cases b <;> rfl)
@[simp ↓] theorem sn15 {s0 s1 s2 s3 s4 s5 s6 s7 s8 s9 s10 s11 s12 s13 s14 : Sl} {s : Sl} {xs : List D} {r : Rho} {K : Rho → Prop} : setR (s0 :: s1 :: s2 :: s3 :: s4 :: s5 :: s6 :: s7 :: s8 :: s9 :: s10 :: s11 :: s12 :: s13 :: s14 :: s :: r) 15 (.n xs) K = (opS s = true ∧ K (s0 :: s1 :: s2 :: s3 :: s4 :: s5 :: s6 :: s7 :: s8 :: s9 :: s10 :: s11 :: s12 :: s13 :: s14 :: .ow false xs :: r)) := by cases s <;> first | rfl | (rename_i b xs; cases b <;> rfl)
@[simp ↓] theorem tg15 {s0 s1 s2 s3 s4 s5 s6 s7 s8 s9 s10 s11 s12 s13 s14 : Sl} {s : Sl} {d : D} {r : Rho} {K : Rho → Prop} : tgD (.nm 15) d (s0 :: s1 :: s2 :: s3 :: s4 :: s5 :: s6 :: s7 :: s8 :: s9 :: s10 :: s11 :: s12 :: s13 :: s14 :: s :: r) K = (opS s = true ∧ K (s0 :: s1 :: s2 :: s3 :: s4 :: s5 :: s6 :: s7 :: s8 :: s9 :: s10 :: s11 :: s12 :: s13 :: s14 :: .fz d :: r)) := by cases s <;> first | rfl | (rename_i b xs; cases b <;> rfl)
@[simp ↓] theorem op15 {s0 s1 s2 s3 s4 s5 s6 s7 s8 s9 s10 s11 s12 s13 s14 : Sl} {s : Sl} {r : Rho} : open? (s0 :: s1 :: s2 :: s3 :: s4 :: s5 :: s6 :: s7 :: s8 :: s9 :: s10 :: s11 :: s12 :: s13 :: s14 :: s :: r) 15 = (opS s) := by cases s <;> first | rfl | (rename_i b xs; cases b <;> rfl)
@[simp ↓] theorem no15 {s0 s1 s2 s3 s4 s5 s6 s7 s8 s9 s10 s11 s12 s13 s14 : Sl} {s : Sl} {r : Rho} : notOw (s0 :: s1 :: s2 :: s3 :: s4 :: s5 :: s6 :: s7 :: s8 :: s9 :: s10 :: s11 :: s12 :: s13 :: s14 :: s :: r) 15 = (noS s) := by cases s <;> rfl
@[simp ↓] theorem io15 {s0 s1 s2 s3 s4 s5 s6 s7 s8 s9 s10 s11 s12 s13 s14 : Sl} {b : Bool} {xs : List D} {r : Rho} : isOw (s0 :: s1 :: s2 :: s3 :: s4 :: s5 :: s6 :: s7 :: s8 :: s9 :: s10 :: s11 :: s12 :: s13 :: s14 :: .ow b xs :: r) 15 = (true) := rfl
@[simp ↓] theorem oc15 {s0 s1 s2 s3 s4 s5 s6 s7 s8 s9 s10 s11 s12 s13 s14 : Sl} {b : Bool} {xs : List D} {r : Rho} {K : List D → (List D → Rho) → Prop} : owc 15 (s0 :: s1 :: s2 :: s3 :: s4 :: s5 :: s6 :: s7 :: s8 :: s9 :: s10 :: s11 :: s12 :: s13 :: s14 :: .ow b xs :: r) K = (K xs fun ys => (s0 :: s1 :: s2 :: s3 :: s4 :: s5 :: s6 :: s7 :: s8 :: s9 :: s10 :: s11 :: s12 :: s13 :: s14 :: .ow b ys :: r)) := rfl
@[simp ↓] theorem fzl15_w {s0 s1 s2 s3 s4 s5 s6 s7 s8 s9 s10 s11 s12 s13 s14 : Sl} {xs : List D} {l : List Nat} {r : Rho} : frzL (s0 :: s1 :: s2 :: s3 :: s4 :: s5 :: s6 :: s7 :: s8 :: s9 :: s10 :: s11 :: s12 :: s13 :: s14 :: .ow false xs :: r) (15 :: l) = (frzL (s0 :: s1 :: s2 :: s3 :: s4 :: s5 :: s6 :: s7 :: s8 :: s9 :: s10 :: s11 :: s12 :: s13 :: s14 :: .fz (.lst xs) :: r) l) := rfl
@[simp ↓] theorem fzl15_z {s0 s1 s2 s3 s4 s5 s6 s7 s8 s9 s10 s11 s12 s13 s14 : Sl} {d : D} {l : List Nat} {r : Rho} : frzL (s0 :: s1 :: s2 :: s3 :: s4 :: s5 :: s6 :: s7 :: s8 :: s9 :: s10 :: s11 :: s12 :: s13 :: s14 :: .fz d :: r) (15 :: l) = (frzL (s0 :: s1 :: s2 :: s3 :: s4 :: s5 :: s6 :: s7 :: s8 :: s9 :: s10 :: s11 :: s12 :: s13 :: s14 :: .fz d :: r) l) := rfl
@[simp ↓] theorem fzl15_o {s0 s1 s2 s3 s4 s5 s6 s7 s8 s9 s10 s11 s12 s13 s14 : Sl} {l : List Nat} {r : Rho} : frzL (s0 :: s1 :: s2 :: s3 :: s4 :: s5 :: s6 :: s7 :: s8 :: s9 :: s10 :: s11 :: s12 :: s13 :: s14 :: .no :: r) (15 :: l) = (frzL (s0 :: s1 :: s2 :: s3 :: s4 :: s5 :: s6 :: s7 :: s8 :: s9 :: s10 :: s11 :: s12 :: s13 :: s14 :: .no :: r) l) := rfl
@[simp ↓] theorem zc15 {s0 s1 s2 s3 s4 s5 s6 s7 s8 s9 s10 s11 s12 s13 s14 : Sl} {d : D} {r : Rho} {K : D → Prop} : fzc 15 (s0 :: s1 :: s2 :: s3 :: s4 :: s5 :: s6 :: s7 :: s8 :: s9 :: s10 :: s11 :: s12 :: s13 :: s14 :: .fz d :: r) K = (K d) := rfl
@[simp ↓] theorem fn15_z {m : Bool} {Kd : Res → List D → Prop} {s0 s1 s2 s3 s4 s5 s6 s7 s8 s9 s10 s11 s12 s13 s14 : Sl} {d : D} {r : Rho} : finR m Kd (.pl 15) (s0 :: s1 :: s2 :: s3 :: s4 :: s5 :: s6 :: s7 :: s8 :: s9 :: s10 :: s11 :: s12 :: s13 :: s14 :: .fz d :: r) = (Kd (.d d) (bagOf m (s0 :: s1 :: s2 :: s3 :: s4 :: s5 :: s6 :: s7 :: s8 :: s9 :: s10 :: s11 :: s12 :: s13 :: s14 :: .fz d :: r))) := rfl
@[simp ↓] theorem fn15_w {m : Bool} {Kd : Res → List D → Prop} {s0 s1 s2 s3 s4 s5 s6 s7 s8 s9 s10 s11 s12 s13 s14 : Sl} {xs : List D} {r : Rho} : finR m Kd (.pl 15) (s0 :: s1 :: s2 :: s3 :: s4 :: s5 :: s6 :: s7 :: s8 :: s9 :: s10 :: s11 :: s12 :: s13 :: s14 :: .ow false xs :: r) = (Kd (.n xs) (bagOf m (s0 :: s1 :: s2 :: s3 :: s4 :: s5 :: s6 :: s7 :: s8 :: s9 :: s10 :: s11 :: s12 :: s13 :: s14 :: .ow false xs :: r))) := rfl
@[simp ↓] theorem v16_z {S : Sg} {xp : XP} {s0 s1 s2 s3 s4 s5 s6 s7 s8 s9 s10 s11 s12 s13 s14 s15 : Sl} {d : D} {r : Rho} {K : KR} : iE S xp (.var 16) (s0 :: s1 :: s2 :: s3 :: s4 :: s5 :: s6 :: s7 :: s8 :: s9 :: s10 :: s11 :: s12 :: s13 :: s14 :: s15 :: .fz d :: r) K = (K (.v d) (s0 :: s1 :: s2 :: s3 :: s4 :: s5 :: s6 :: s7 :: s8 :: s9 :: s10 :: s11 :: s12 :: s13 :: s14 :: s15 :: .fz d :: r)) := rfl
@[simp ↓] theorem v16_w {S : Sg} {xp : XP} {s0 s1 s2 s3 s4 s5 s6 s7 s8 s9 s10 s11 s12 s13 s14 s15 : Sl} {b : Bool} {xs : List D} {r : Rho} {K : KR} : iE S xp (.var 16) (s0 :: s1 :: s2 :: s3 :: s4 :: s5 :: s6 :: s7 :: s8 :: s9 :: s10 :: s11 :: s12 :: s13 :: s14 :: s15 :: .ow b xs :: r) K = (K (.pl 16) (s0 :: s1 :: s2 :: s3 :: s4 :: s5 :: s6 :: s7 :: s8 :: s9 :: s10 :: s11 :: s12 :: s13 :: s14 :: s15 :: .ow b xs :: r)) := rfl
@[simp ↓] theorem rp16_z {s0 s1 s2 s3 s4 s5 s6 s7 s8 s9 s10 s11 s12 s13 s14 s15 : Sl} {d : D} {r : Rho} {K : D → Prop} : rdx (s0 :: s1 :: s2 :: s3 :: s4 :: s5 :: s6 :: s7 :: s8 :: s9 :: s10 :: s11 :: s12 :: s13 :: s14 :: s15 :: .fz d :: r) (.pl 16) K = (K d) := rfl
@[simp ↓] theorem rp16_w {s0 s1 s2 s3 s4 s5 s6 s7 s8 s9 s10 s11 s12 s13 s14 s15 : Sl} {b : Bool} {xs : List D} {r : Rho} {K : D → Prop} : rdx (s0 :: s1 :: s2 :: s3 :: s4 :: s5 :: s6 :: s7 :: s8 :: s9 :: s10 :: s11 :: s12 :: s13 :: s14 :: s15 :: .ow b xs :: r) (.pl 16) K = (K (.lst xs)) := rfl
@[simp ↓] theorem fp16_z {s0 s1 s2 s3 s4 s5 s6 s7 s8 s9 s10 s11 s12 s13 s14 s15 : Sl} {d : D} {r : Rho} {K : D → Rho → Prop} : fzx (s0 :: s1 :: s2 :: s3 :: s4 :: s5 :: s6 :: s7 :: s8 :: s9 :: s10 :: s11 :: s12 :: s13 :: s14 :: s15 :: .fz d :: r) (.pl 16) K = (K d (s0 :: s1 :: s2 :: s3 :: s4 :: s5 :: s6 :: s7 :: s8 :: s9 :: s10 :: s11 :: s12 :: s13 :: s14 :: s15 :: .fz d :: r)) := rfl
@[simp ↓] theorem fp16_w {s0 s1 s2 s3 s4 s5 s6 s7 s8 s9 s10 s11 s12 s13 s14 s15 : Sl} {xs : List D} {r : Rho} {K : D → Rho → Prop} : fzx (s0 :: s1 :: s2 :: s3 :: s4 :: s5 :: s6 :: s7 :: s8 :: s9 :: s10 :: s11 :: s12 :: s13 :: s14 :: s15 :: .ow false xs :: r) (.pl 16) K = (K (.lst xs) (s0 :: s1 :: s2 :: s3 :: s4 :: s5 :: s6 :: s7 :: s8 :: s9 :: s10 :: s11 :: s12 :: s13 :: s14 :: s15 :: .fz (.lst xs) :: r)) := rfl
@[simp ↓] theorem sv16 {s0 s1 s2 s3 s4 s5 s6 s7 s8 s9 s10 s11 s12 s13 s14 s15 : Sl} {s : Sl} {d : D} {r : Rho} {K : Rho → Prop} : setR (s0 :: s1 :: s2 :: s3 :: s4 :: s5 :: s6 :: s7 :: s8 :: s9 :: s10 :: s11 :: s12 :: s13 :: s14 :: s15 :: s :: r) 16 (.v d) K = (opS s = true ∧ K (s0 :: s1 :: s2 :: s3 :: s4 :: s5 :: s6 :: s7 :: s8 :: s9 :: s10 :: s11 :: s12 :: s13 :: s14 :: s15 :: .fz d :: r)) := by cases s <;> first | rfl | (rename_i b xs; cases b <;> rfl)
@[simp ↓] theorem sn16 {s0 s1 s2 s3 s4 s5 s6 s7 s8 s9 s10 s11 s12 s13 s14 s15 : Sl} {s : Sl} {xs : List D} {r : Rho} {K : Rho → Prop} : setR (s0 :: s1 :: s2 :: s3 :: s4 :: s5 :: s6 :: s7 :: s8 :: s9 :: s10 :: s11 :: s12 :: s13 :: s14 :: s15 :: s :: r) 16 (.n xs) K = (opS s = true ∧ K (s0 :: s1 :: s2 :: s3 :: s4 :: s5 :: s6 :: s7 :: s8 :: s9 :: s10 :: s11 :: s12 :: s13 :: s14 :: s15 :: .ow false xs :: r)) := by cases s <;> first | rfl | (rename_i b xs; cases b <;> rfl)
@[simp ↓] theorem tg16 {s0 s1 s2 s3 s4 s5 s6 s7 s8 s9 s10 s11 s12 s13 s14 s15 : Sl} {s : Sl} {d : D} {r : Rho} {K : Rho → Prop} : tgD (.nm 16) d (s0 :: s1 :: s2 :: s3 :: s4 :: s5 :: s6 :: s7 :: s8 :: s9 :: s10 :: s11 :: s12 :: s13 :: s14 :: s15 :: s :: r) K = (opS s = true ∧ K (s0 :: s1 :: s2 :: s3 :: s4 :: s5 :: s6 :: s7 :: s8 :: s9 :: s10 :: s11 :: s12 :: s13 :: s14 :: s15 :: .fz d :: r)) := by cases s <;> first | rfl | (rename_i b xs; cases b <;> rfl)
@[simp ↓] theorem op16 {s0 s1 s2 s3 s4 s5 s6 s7 s8 s9 s10 s11 s12 s13 s14 s15 : Sl} {s : Sl} {r : Rho} : open? (s0 :: s1 :: s2 :: s3 :: s4 :: s5 :: s6 :: s7 :: s8 :: s9 :: s10 :: s11 :: s12 :: s13 :: s14 :: s15 :: s :: r) 16 = (opS s) := by cases s <;> first | rfl | (rename_i b xs; cases b <;> rfl)
@[simp ↓] theorem no16 {s0 s1 s2 s3 s4 s5 s6 s7 s8 s9 s10 s11 s12 s13 s14 s15 : Sl} {s : Sl} {r : Rho} : notOw (s0 :: s1 :: s2 :: s3 :: s4 :: s5 :: s6 :: s7 :: s8 :: s9 :: s10 :: s11 :: s12 :: s13 :: s14 :: s15 :: s :: r) 16 = (noS s) := by cases s <;> rfl
@[simp ↓] theorem io16 {s0 s1 s2 s3 s4 s5 s6 s7 s8 s9 s10 s11 s12 s13 s14 s15 : Sl} {b : Bool} {xs : List D} {r : Rho} : isOw (s0 :: s1 :: s2 :: s3 :: s4 :: s5 :: s6 :: s7 :: s8 :: s9 :: s10 :: s11 :: s12 :: s13 :: s14 :: s15 :: .ow b xs :: r) 16 = (true) := rfl
@[simp ↓] theorem oc16 {s0 s1 s2 s3 s4 s5 s6 s7 s8 s9 s10 s11 s12 s13 s14 s15 : Sl} {b : Bool} {xs : List D} {r : Rho} {K : List D → (List D → Rho) → Prop} : owc 16 (s0 :: s1 :: s2 :: s3 :: s4 :: s5 :: s6 :: s7 :: s8 :: s9 :: s10 :: s11 :: s12 :: s13 :: s14 :: s15 :: .ow b xs :: r) K = (K xs fun ys => (s0 :: s1 :: s2 :: s3 :: s4 :: s5 :: s6 :: s7 :: s8 :: s9 :: s10 :: s11 :: s12 :: s13 :: s14 :: s15 :: .ow b ys :: r)) := rfl
@[simp ↓] theorem fzl16_w {s0 s1 s2 s3 s4 s5 s6 s7 s8 s9 s10 s11 s12 s13 s14 s15 : Sl} {xs : List D} {l : List Nat} {r : Rho} : frzL (s0 :: s1 :: s2 :: s3 :: s4 :: s5 :: s6 :: s7 :: s8 :: s9 :: s10 :: s11 :: s12 :: s13 :: s14 :: s15 :: .ow false xs :: r) (16 :: l) = (frzL (s0 :: s1 :: s2 :: s3 :: s4 :: s5 :: s6 :: s7 :: s8 :: s9 :: s10 :: s11 :: s12 :: s13 :: s14 :: s15 :: .fz (.lst xs) :: r) l) := rfl
@[simp ↓] theorem fzl16_z {s0 s1 s2 s3 s4 s5 s6 s7 s8 s9 s10 s11 s12 s13 s14 s15 : Sl} {d : D} {l : List Nat} {r : Rho} : frzL (s0 :: s1 :: s2 :: s3 :: s4 :: s5 :: s6 :: s7 :: s8 :: s9 :: s10 :: s11 :: s12 :: s13 :: s14 :: s15 :: .fz d :: r) (16 :: l) = (frzL (s0 :: s1 :: s2 :: s3 :: s4 :: s5 :: s6 :: s7 :: s8 :: s9 :: s10 :: s11 :: s12 :: s13 :: s14 :: s15 :: .fz d :: r) l) := rfl
@[simp ↓] theorem fzl16_o {s0 s1 s2 s3 s4 s5 s6 s7 s8 s9 s10 s11 s12 s13 s14 s15 : Sl} {l : List Nat} {r : Rho} : frzL (s0 :: s1 :: s2 :: s3 :: s4 :: s5 :: s6 :: s7 :: s8 :: s9 :: s10 :: s11 :: s12 :: s13 :: s14 :: s15 :: .no :: r) (16 :: l) = (frzL (s0 :: s1 :: s2 :: s3 :: s4 :: s5 :: s6 :: s7 :: s8 :: s9 :: s10 :: s11 :: s12 :: s13 :: s14 :: s15 :: .no :: r) l) := rfl
@[simp ↓] theorem zc16 {s0 s1 s2 s3 s4 s5 s6 s7 s8 s9 s10 s11 s12 s13 s14 s15 : Sl} {d : D} {r : Rho} {K : D → Prop} : fzc 16 (s0 :: s1 :: s2 :: s3 :: s4 :: s5 :: s6 :: s7 :: s8 :: s9 :: s10 :: s11 :: s12 :: s13 :: s14 :: s15 :: .fz d :: r) K = (K d) := rfl
@[simp ↓] theorem fn16_z {m : Bool} {Kd : Res → List D → Prop} {s0 s1 s2 s3 s4 s5 s6 s7 s8 s9 s10 s11 s12 s13 s14 s15 : Sl} {d : D} {r : Rho} : finR m Kd (.pl 16) (s0 :: s1 :: s2 :: s3 :: s4 :: s5 :: s6 :: s7 :: s8 :: s9 :: s10 :: s11 :: s12 :: s13 :: s14 :: s15 :: .fz d :: r) = (Kd (.d d) (bagOf m (s0 :: s1 :: s2 :: s3 :: s4 :: s5 :: s6 :: s7 :: s8 :: s9 :: s10 :: s11 :: s12 :: s13 :: s14 :: s15 :: .fz d :: r))) := rfl
@[simp ↓] theorem fn16_w {m : Bool} {Kd : Res → List D → Prop} {s0 s1 s2 s3 s4 s5 s6 s7 s8 s9 s10 s11 s12 s13 s14 s15 : Sl} {xs : List D} {r : Rho} : finR m Kd (.pl 16) (s0 :: s1 :: s2 :: s3 :: s4 :: s5 :: s6 :: s7 :: s8 :: s9 :: s10 :: s11 :: s12 :: s13 :: s14 :: s15 :: .ow false xs :: r) = (Kd (.n xs) (bagOf m (s0 :: s1 :: s2 :: s3 :: s4 :: s5 :: s6 :: s7 :: s8 :: s9 :: s10 :: s11 :: s12 :: s13 :: s14 :: s15 :: .ow false xs :: r))) := rfl
@[simp ↓] theorem v17_z {S : Sg} {xp : XP} {s0 s1 s2 s3 s4 s5 s6 s7 s8 s9 s10 s11 s12 s13 s14 s15 s16 : Sl} {d : D} {r : Rho} {K : KR} : iE S xp (.var 17) (s0 :: s1 :: s2 :: s3 :: s4 :: s5 :: s6 :: s7 :: s8 :: s9 :: s10 :: s11 :: s12 :: s13 :: s14 :: s15 :: s16 :: .fz d :: r) K = (K (.v d) (s0 :: s1 :: s2 :: s3 :: s4 :: s5 :: s6 :: s7 :: s8 :: s9 :: s10 :: s11 :: s12 :: s13 :: s14 :: s15 :: s16 :: .fz d :: r)) := rfl
@[simp ↓] theorem v17_w {S : Sg} {xp : XP} {s0 s1 s2 s3 s4 s5 s6 s7 s8 s9 s10 s11 s12 s13 s14 s15 s16 : Sl} {b : Bool} {xs : List D} {r : Rho} {K : KR} : iE S xp (.var 17) (s0 :: s1 :: s2 :: s3 :: s4 :: s5 :: s6 :: s7 :: s8 :: s9 :: s10 :: s11 :: s12 :: s13 :: s14 :: s15 :: s16 :: .ow b xs :: r) K = (K (.pl 17) (s0 :: s1 :: s2 :: s3 :: s4 :: s5 :: s6 :: s7 :: s8 :: s9 :: s10 :: s11 :: s12 :: s13 :: s14 :: s15 :: s16 :: .ow b xs :: r)) := rfl
@[simp ↓] theorem rp17_z {s0 s1 s2 s3 s4 s5 s6 s7 s8 s9 s10 s11 s12 s13 s14 s15 s16 : Sl} {d : D} {r : Rho} {K : D → Prop} : rdx (s0 :: s1 :: s2 :: s3 :: s4 :: s5 :: s6 :: s7 :: s8 :: s9 :: s10 :: s11 :: s12 :: s13 :: s14 :: s15 :: s16 :: .fz d :: r) (.pl 17) K = (K d) := rfl
@[simp ↓] theorem rp17_w {s0 s1 s2 s3 s4 s5 s6 s7 s8 s9 s10 s11 s12 s13 s14 s15 s16 : Sl} {b : Bool} {xs : List D} {r : Rho} {K : D → Prop} : rdx (s0 :: s1 :: s2 :: s3 :: s4 :: s5 :: s6 :: s7 :: s8 :: s9 :: s10 :: s11 :: s12 :: s13 :: s14 :: s15 :: s16 :: .ow b xs :: r) (.pl 17) K = (K (.lst xs)) := rfl
@[simp ↓] theorem fp17_z {s0 s1 s2 s3 s4 s5 s6 s7 s8 s9 s10 s11 s12 s13 s14 s15 s16 : Sl} {d : D} {r : Rho} {K : D → Rho → Prop} : fzx (s0 :: s1 :: s2 :: s3 :: s4 :: s5 :: s6 :: s7 :: s8 :: s9 :: s10 :: s11 :: s12 :: s13 :: s14 :: s15 :: s16 :: .fz d :: r) (.pl 17) K = (K d (s0 :: s1 :: s2 :: s3 :: s4 :: s5 :: s6 :: s7 :: s8 :: s9 :: s10 :: s11 :: s12 :: s13 :: s14 :: s15 :: s16 :: .fz d :: r)) := rfl
@[simp ↓] theorem fp17_w {s0 s1 s2 s3 s4 s5 s6 s7 s8 s9 s10 s11 s12 s13 s14 s15 s16 : Sl} {xs : List D} {r : Rho} {K : D → Rho → Prop} : fzx (s0 :: s1 :: s2 :: s3 :: s4 :: s5 :: s6 :: s7 :: s8 :: s9 :: s10 :: s11 :: s12 :: s13 :: s14 :: s15 :: s16 :: .ow false xs :: r) (.pl 17) K = (K (.lst xs) (s0 :: s1 :: s2 :: s3 :: s4 :: s5 :: s6 :: s7 :: s8 :: s9 :: s10 :: s11 :: s12 :: s13 :: s14 :: s15 :: s16 :: .fz (.lst xs) :: r)) := rfl
@[simp ↓] theorem sv17 {s0 s1 s2 s3 s4 s5 s6 s7 s8 s9 s10 s11 s12 s13 s14 s15 s16 : Sl} {s : Sl} {d : D} {r : Rho} {K : Rho → Prop} : setR (s0 :: s1 :: s2 :: s3 :: s4 :: s5 :: s6 :: s7 :: s8 :: s9 :: s10 :: s11 :: s12 :: s13 :: s14 :: s15 :: s16 :: s :: r) 17 (.v d) K = (opS s = true ∧ K (s0 :: s1 :: s2 :: s3 :: s4 :: s5 :: s6 :: s7 :: s8 :: s9 :: s10 :: s11 :: s12 :: s13 :: s14 :: s15 :: s16 :: .fz d :: r)) := by cases s <;> first | rfl | (rename_i b xs; cases b <;> rfl)
@[simp ↓] theorem sn17 {s0 s1 s2 s3 s4 s5 s6 s7 s8 s9 s10 s11 s12 s13 s14 s15 s16 : Sl} {s : Sl} {xs : List D} {r : Rho} {K : Rho → Prop} : setR (s0 :: s1 :: s2 :: s3 :: s4 :: s5 :: s6 :: s7 :: s8 :: s9 :: s10 :: s11 :: s12 :: s13 :: s14 :: s15 :: s16 :: s :: r) 17 (.n xs) K = (opS s = true ∧ K (s0 :: s1 :: s2 :: s3 :: s4 :: s5 :: s6 :: s7 :: s8 :: s9 :: s10 :: s11 :: s12 :: s13 :: s14 :: s15 :: s16 :: .ow false xs :: r)) := by cases s <;> first | rfl | (rename_i b xs; cases b <;> rfl)
@[simp ↓] theorem tg17 {s0 s1 s2 s3 s4 s5 s6 s7 s8 s9 s10 s11 s12 s13 s14 s15 s16 : Sl} {s : Sl} {d : D} {r : Rho} {K : Rho → Prop} : tgD (.nm 17) d (s0 :: s1 :: s2 :: s3 :: s4 :: s5 :: s6 :: s7 :: s8 :: s9 :: s10 :: s11 :: s12 :: s13 :: s14 :: s15 :: s16 :: s :: r) K = (opS s = true ∧ K (s0 :: s1 :: s2 :: s3 :: s4 :: s5 :: s6 :: s7 :: s8 :: s9 :: s10 :: s11 :: s12 :: s13 :: s14 :: s15 :: s16 :: .fz d :: r)) := by cases s <;> first | rfl | (rename_i b xs; cases b <;> rfl)
@[simp ↓] theorem op17 {s0 s1 s2 s3 s4 s5 s6 s7 s8 s9 s10 s11 s12 s13 s14 s15 s16 : Sl} {s : Sl} {r : Rho} : open? (s0 :: s1 :: s2 :: s3 :: s4 :: s5 :: s6 :: s7 :: s8 :: s9 :: s10 :: s11 :: s12 :: s13 :: s14 :: s15 :: s16 :: s :: r) 17 = (opS s) := by cases s <;> first | rfl | (rename_i b xs; cases b <;> rfl)
@[simp ↓] theorem no17 {s0 s1 s2 s3 s4 s5 s6 s7 s8 s9 s10 s11 s12 s13 s14 s15 s16 : Sl} {s : Sl} {r : Rho} : notOw (s0 :: s1 :: s2 :: s3 :: s4 :: s5 :: s6 :: s7 :: s8 :: s9 :: s10 :: s11 :: s12 :: s13 :: s14 :: s15 :: s16 :: s :: r) 17 = (noS s) := by cases s <;> rfl
@[simp ↓] theorem io17 {s0 s1 s2 s3 s4 s5 s6 s7 s8 s9 s10 s11 s12 s13 s14 s15 s16 : Sl} {b : Bool} {xs : List D} {r : Rho} : isOw (s0 :: s1 :: s2 :: s3 :: s4 :: s5 :: s6 :: s7 :: s8 :: s9 :: s10 :: s11 :: s12 :: s13 :: s14 :: s15 :: s16 :: .ow b xs :: r) 17 = (true) := rfl
@[simp ↓] theorem oc17 {s0 s1 s2 s3 s4 s5 s6 s7 s8 s9 s10 s11 s12 s13 s14 s15 s16 : Sl} {b : Bool} {xs : List D} {r : Rho} {K : List D → (List D → Rho) → Prop} : owc 17 (s0 :: s1 :: s2 :: s3 :: s4 :: s5 :: s6 :: s7 :: s8 :: s9 :: s10 :: s11 :: s12 :: s13 :: s14 :: s15 :: s16 :: .ow b xs :: r) K = (K xs fun ys => (s0 :: s1 :: s2 :: s3 :: s4 :: s5 :: s6 :: s7 :: s8 :: s9 :: s10 :: s11 :: s12 :: s13 :: s14 :: s15 :: s16 :: .ow b ys :: r)) := rfl
@[simp ↓] theorem fzl17_w {s0 s1 s2 s3 s4 s5 s6 s7 s8 s9 s10 s11 s12 s13 s14 s15 s16 : Sl} {xs : List D} {l : List Nat} {r : Rho} : frzL (s0 :: s1 :: s2 :: s3 :: s4 :: s5 :: s6 :: s7 :: s8 :: s9 :: s10 :: s11 :: s12 :: s13 :: s14 :: s15 :: s16 :: .ow false xs :: r) (17 :: l) = (frzL (s0 :: s1 :: s2 :: s3 :: s4 :: s5 :: s6 :: s7 :: s8 :: s9 :: s10 :: s11 :: s12 :: s13 :: s14 :: s15 :: s16 :: .fz (.lst xs) :: r) l) := rfl
@[simp ↓] theorem fzl17_z {s0 s1 s2 s3 s4 s5 s6 s7 s8 s9 s10 s11 s12 s13 s14 s15 s16 : Sl} {d : D} {l : List Nat} {r : Rho} : frzL (s0 :: s1 :: s2 :: s3 :: s4 :: s5 :: s6 :: s7 :: s8 :: s9 :: s10 :: s11 :: s12 :: s13 :: s14 :: s15 :: s16 :: .fz d :: r) (17 :: l) = (frzL (s0 :: s1 :: s2 :: s3 :: s4 :: s5 :: s6 :: s7 :: s8 :: s9 :: s10 :: s11 :: s12 :: s13 :: s14 :: s15 :: s16 :: .fz d :: r) l) := rfl
@[simp ↓] theorem fzl17_o {s0 s1 s2 s3 s4 s5 s6 s7 s8 s9 s10 s11 s12 s13 s14 s15 s16 : Sl} {l : List Nat} {r : Rho} : frzL (s0 :: s1 :: s2 :: s3 :: s4 :: s5 :: s6 :: s7 :: s8 :: s9 :: s10 :: s11 :: s12 :: s13 :: s14 :: s15 :: s16 :: .no :: r) (17 :: l) = (frzL (s0 :: s1 :: s2 :: s3 :: s4 :: s5 :: s6 :: s7 :: s8 :: s9 :: s10 :: s11 :: s12 :: s13 :: s14 :: s15 :: s16 :: .no :: r) l) := rfl
@[simp ↓] theorem zc17 {s0 s1 s2 s3 s4 s5 s6 s7 s8 s9 s10 s11 s12 s13 s14 s15 s16 : Sl} {d : D} {r : Rho} {K : D → Prop} : fzc 17 (s0 :: s1 :: s2 :: s3 :: s4 :: s5 :: s6 :: s7 :: s8 :: s9 :: s10 :: s11 :: s12 :: s13 :: s14 :: s15 :: s16 :: .fz d :: r) K = (K d) := rfl
@[simp ↓] theorem fn17_z {m : Bool} {Kd : Res → List D → Prop} {s0 s1 s2 s3 s4 s5 s6 s7 s8 s9 s10 s11 s12 s13 s14 s15 s16 : Sl} {d : D} {r : Rho} : finR m Kd (.pl 17) (s0 :: s1 :: s2 :: s3 :: s4 :: s5 :: s6 :: s7 :: s8 :: s9 :: s10 :: s11 :: s12 :: s13 :: s14 :: s15 :: s16 :: .fz d :: r) = (Kd (.d d) (bagOf m (s0 :: s1 :: s2 :: s3 :: s4 :: s5 :: s6 :: s7 :: s8 :: s9 :: s10 :: s11 :: s12 :: s13 :: s14 :: s15 :: s16 :: .fz d :: r))) := rfl
@[simp ↓] theorem fn17_w {m : Bool} {Kd : Res → List D → Prop} {s0 s1 s2 s3 s4 s5 s6 s7 s8 s9 s10 s11 s12 s13 s14 s15 s16 : Sl} {xs : List D} {r : Rho} : finR m Kd (.pl 17) (s0 :: s1 :: s2 :: s3 :: s4 :: s5 :: s6 :: s7 :: s8 :: s9 :: s10 :: s11 :: s12 :: s13 :: s14 :: s15 :: s16 :: .ow false xs :: r) = (Kd (.n xs) (bagOf m (s0 :: s1 :: s2 :: s3 :: s4 :: s5 :: s6 :: s7 :: s8 :: s9 :: s10 :: s11 :: s12 :: s13 :: s14 :: s15 :: s16 :: .ow false xs :: r))) := rfl
@[simp ↓] theorem v18_z {S : Sg} {xp : XP} {s0 s1 s2 s3 s4 s5 s6 s7 s8 s9 s10 s11 s12 s13 s14 s15 s16 s17 : Sl} {d : D} {r : Rho} {K : KR} : iE S xp (.var 18) (s0 :: s1 :: s2 :: s3 :: s4 :: s5 :: s6 :: s7 :: s8 :: s9 :: s10 :: s11 :: s12 :: s13 :: s14 :: s15 :: s16 :: s17 :: .fz d :: r) K = (K (.v d) (s0 :: s1 :: s2 :: s3 :: s4 :: s5 :: s6 :: s7 :: s8 :: s9 :: s10 :: s11 :: s12 :: s13 :: s14 :: s15 :: s16 :: s17 :: .fz d :: r)) := rfl
@[simp ↓] theorem v18_w {S : Sg} {xp : XP} {s0 s1 s2 s3 s4 s5 s6 s7 s8 s9 s10 s11 s12 s13 s14 s15 s16 s17 : Sl} {b : Bool} {xs : List D} {r : Rho} {K : KR} : iE S xp (.var 18) (s0 :: s1 :: s2 :: s3 :: s4 :: s5 :: s6 :: s7 :: s8 :: s9 :: s10 :: s11 :: s12 :: s13 :: s14 :: s15 :: s16 :: s17 :: .ow b xs :: r) K = (K (.pl 18) (s0 :: s1 :: s2 :: s3 :: s4 :: s5 :: s6 :: s7 :: s8 :: s9 :: s10 :: s11 :: s12 :: s13 :: s14 :: s15 :: s16 :: s17 :: .ow b xs :: r)) := rfl
@[simp ↓] theorem rp18_z {s0 s1 s2 s3 s4 s5 s6 s7 s8 s9 s10 s11 s12 s13 s14 s15 s16 s17 : Sl} {d : D} {r : Rho} {K : D → Prop} : rdx (s0 :: s1 :: s2 :: s3 :: s4 :: s5 :: s6 :: s7 :: s8 :: s9 :: s10 :: s11 :: s12 :: s13 :: s14 :: s15 :: s16 :: s17 :: .fz d :: r) (.pl 18) K = (K d) := rfl
@[simp ↓] theorem rp18_w {s0 s1 s2 s3 s4 s5 s6 s7 s8 s9 s10 s11 s12 s13 s14 s15 s16 s17 : Sl} {b : Bool} {xs : List D} {r : Rho} {K : D → Prop} : rdx (s0 :: s1 :: s2 :: s3 :: s4 :: s5 :: s6 :: s7 :: s8 :: s9 :: s10 :: s11 :: s12 :: s13 :: s14 :: s15 :: s16 :: s17 :: .ow b xs :: r) (.pl 18) K = (K (.lst xs)) := rfl
@[simp ↓] theorem fp18_z {s0 s1 s2 s3 s4 s5 s6 s7 s8 s9 s10 s11 s12 s13 s14 s15 s16 s17 : Sl} {d : D} {r : Rho} {K : D → Rho → Prop} : fzx (s0 :: s1 :: s2 :: s3 :: s4 :: s5 :: s6 :: s7 :: s8 :: s9 :: s10 :: s11 :: s12 :: s13 :: s14 :: s15 :: s16 :: s17 :: .fz d :: r) (.pl 18) K = (K d (s0 :: s1 :: s2 :: s3 :: s4 :: s5 :: s6 :: s7 :: s8 :: s9 :: s10 :: s11 :: s12 :: s13 :: s14 :: s15 :: s16 :: s17 :: .fz d :: r)) := rfl
@[simp ↓] theorem fp18_w {s0 s1 s2 s3 s4 s5 s6 s7 s8 s9 s10 s11 s12 s13 s14 s15 s16 s17 : Sl} {xs : List D} {r : Rho} {K : D → Rho → Prop} : fzx (s0 :: s1 :: s2 :: s3 :: s4 :: s5 :: s6 :: s7 :: s8 :: s9 :: s10 :: s11 :: s12 :: s13 :: s14 :: s15 :: s16 :: s17 :: .ow false xs :: r) (.pl 18) K = (K (.lst xs) (s0 :: s1 :: s2 :: s3 :: s4 :: s5 :: s6 :: s7 :: s8 :: s9 :: s10 :: s11 :: s12 :: s13 :: s14 :: s15 :: s16 :: s17 :: .fz (.lst xs) :: r)) := rfl
@[simp ↓] theorem sv18 {s0 s1 s2 s3 s4 s5 s6 s7 s8 s9 s10 s11 s12 s13 s14 s15 s16 s17 : Sl} {s : Sl} {d : D} {r : Rho} {K : Rho → Prop} : setR (s0 :: s1 :: s2 :: s3 :: s4 :: s5 :: s6 :: s7 :: s8 :: s9 :: s10 :: s11 :: s12 :: s13 :: s14 :: s15 :: s16 :: s17 :: s :: r) 18 (.v d) K = (opS s = true ∧ K (s0 :: s1 :: s2 :: s3 :: s4 :: s5 :: s6 :: s7 :: s8 :: s9 :: s10 :: s11 :: s12 :: s13 :: s14 :: s15 :: s16 :: s17 :: .fz d :: r)) := by cases s <;> first | rfl | (rename_i b xs; cases b <;> rfl)
@[simp ↓] theorem sn18 {s0 s1 s2 s3 s4 s5 s6 s7 s8 s9 s10 s11 s12 s13 s14 s15 s16 s17 : Sl} {s : Sl} {xs : List D} {r : Rho} {K : Rho → Prop} : setR (s0 :: s1 :: s2 :: s3 :: s4 :: s5 :: s6 :: s7 :: s8 :: s9 :: s10 :: s11 :: s12 :: s13 :: s14 :: s15 :: s16 :: s17 :: s :: r) 18 (.n xs) K = (opS s = true ∧ K (s0 :: s1 :: s2 :: s3 :: s4 :: s5 :: s6 :: s7 :: s8 :: s9 :: s10 :: s11 :: s12 :: s13 :: s14 :: s15 :: s16 :: s17 :: .ow false xs :: r)) := by cases s <;> first | rfl | (rename_i b xs; cases b <;> rfl)
@[simp ↓] theorem tg18 {s0 s1 s2 s3 s4 s5 s6 s7 s8 s9 s10 s11 s12 s13 s14 s15 s16 s17 : Sl} {s : Sl} {d : D} {r : Rho} {K : Rho → Prop} : tgD (.nm 18) d (s0 :: s1 :: s2 :: s3 :: s4 :: s5 :: s6 :: s7 :: s8 :: s9 :: s10 :: s11 :: s12 :: s13 :: s14 :: s15 :: s16 :: s17 :: s :: r) K = (opS s = true ∧ K (s0 :: s1 :: s2 :: s3 :: s4 :: s5 :: s6 :: s7 :: s8 :: s9 :: s10 :: s11 :: s12 :: s13 :: s14 :: s15 :: s16 :: s17 :: .fz d :: r)) := by cases s <;> first | rfl | (rename_i b xs; cases b <;> rfl)
@[simp ↓] theorem op18 {s0 s1 s2 s3 s4 s5 s6 s7 s8 s9 s10 s11 s12 s13 s14 s15 s16 s17 : Sl} {s : Sl} {r : Rho} : open? (s0 :: s1 :: s2 :: s3 :: s4 :: s5 :: s6 :: s7 :: s8 :: s9 :: s10 :: s11 :: s12 :: s13 :: s14 :: s15 :: s16 :: s17 :: s :: r) 18 = (opS s) := by cases s <;> first | rfl | (rename_i b xs; cases b <;> rfl)
@[simp ↓] theorem no18 {s0 s1 s2 s3 s4 s5 s6 s7 s8 s9 s10 s11 s12 s13 s14 s15 s16 s17 : Sl} {s : Sl} {r : Rho} : notOw (s0 :: s1 :: s2 :: s3 :: s4 :: s5 :: s6 :: s7 :: s8 :: s9 :: s10 :: s11 :: s12 :: s13 :: s14 :: s15 :: s16 :: s17 :: s :: r) 18 = (noS s) := by cases s <;> rfl
@[simp ↓] theorem io18 {s0 s1 s2 s3 s4 s5 s6 s7 s8 s9 s10 s11 s12 s13 s14 s15 s16 s17 : Sl} {b : Bool} {xs : List D} {r : Rho} : isOw (s0 :: s1 :: s2 :: s3 :: s4 :: s5 :: s6 :: s7 :: s8 :: s9 :: s10 :: s11 :: s12 :: s13 :: s14 :: s15 :: s16 :: s17 :: .ow b xs :: r) 18 = (true) := rfl
@[simp ↓] theorem oc18 {s0 s1 s2 s3 s4 s5 s6 s7 s8 s9 s10 s11 s12 s13 s14 s15 s16 s17 : Sl} {b : Bool} {xs : List D} {r : Rho} {K : List D → (List D → Rho) → Prop} : owc 18 (s0 :: s1 :: s2 :: s3 :: s4 :: s5 :: s6 :: s7 :: s8 :: s9 :: s10 :: s11 :: s12 :: s13 :: s14 :: s15 :: s16 :: s17 :: .ow b xs :: r) K = (K xs fun ys => (s0 :: s1 :: s2 :: s3 :: s4 :: s5 :: s6 :: s7 :: s8 :: s9 :: s10 :: s11 :: s12 :: s13 :: s14 :: s15 :: s16 :: s17 :: .ow b ys :: r)) := rfl
@[simp ↓] theorem fzl18_w {s0 s1 s2 s3 s4 s5 s6 s7 s8 s9 s10 s11 s12 s13 s14 s15 s16 s17 : Sl} {xs : List D} {l : List Nat} {r : Rho} : frzL (s0 :: s1 :: s2 :: s3 :: s4 :: s5 :: s6 :: s7 :: s8 :: s9 :: s10 :: s11 :: s12 :: s13 :: s14 :: s15 :: s16 :: s17 :: .ow false xs :: r) (18 :: l) = (frzL (s0 :: s1 :: s2 :: s3 :: s4 :: s5 :: s6 :: s7 :: s8 :: s9 :: s10 :: s11 :: s12 :: s13 :: s14 :: s15 :: s16 :: s17 :: .fz (.lst xs) :: r) l) := rfl
@[simp ↓] theorem fzl18_z {s0 s1 s2 s3 s4 s5 s6 s7 s8 s9 s10 s11 s12 s13 s14 s15 s16 s17 : Sl} {d : D} {l : List Nat} {r : Rho} : frzL (s0 :: s1 :: s2 :: s3 :: s4 :: s5 :: s6 :: s7 :: s8 :: s9 :: s10 :: s11 :: s12 :: s13 :: s14 :: s15 :: s16 :: s17 :: .fz d :: r) (18 :: l) = (frzL (s0 :: s1 :: s2 :: s3 :: s4 :: s5 :: s6 :: s7 :: s8 :: s9 :: s10 :: s11 :: s12 :: s13 :: s14 :: s15 :: s16 :: s17 :: .fz d :: r) l) := rfl
@[simp ↓] theorem fzl18_o {s0 s1 s2 s3 s4 s5 s6 s7 s8 s9 s10 s11 s12 s13 s14 s15 s16 s17 : Sl} {l : List Nat} {r : Rho} : frzL (s0 :: s1 :: s2 :: s3 :: s4 :: s5 :: s6 :: s7 :: s8 :: s9 :: s10 :: s11 :: s12 :: s13 :: s14 :: s15 :: s16 :: s17 :: .no :: r) (18 :: l) = (frzL (s0 :: s1 :: s2 :: s3 :: s4 :: s5 :: s6 :: s7 :: s8 :: s9 :: s10 :: s11 :: s12 :: s13 :: s14 :: s15 :: s16 :: s17 :: .no :: r) l) := rfl
@[simp ↓] theorem zc18 {s0 s1 s2 s3 s4 s5 s6 s7 s8 s9 s10 s11 s12 s13 s14 s15 s16 s17 : Sl} {d : D} {r : Rho} {K : D → Prop} : fzc 18 (s0 :: s1 :: s2 :: s3 :: s4 :: s5 :: s6 :: s7 :: s8 :: s9 :: s10 :: s11 :: s12 :: s13 :: s14 :: s15 :: s16 :: s17 :: .fz d :: r) K = (K d) := rfl
@[simp ↓] theorem fn18_z {m : Bool} {Kd : Res → List D → Prop} {s0 s1 s2 s3 s4 s5 s6 s7 s8 s9 s10 s11 s12 s13 s14 s15 s16 s17 : Sl} {d : D} {r : Rho} : finR m Kd (.pl 18) (s0 :: s1 :: s2 :: s3 :: s4 :: s5 :: s6 :: s7 :: s8 :: s9 :: s10 :: s11 :: s12 :: s13 :: s14 :: s15 :: s16 :: s17 :: .fz d :: r) = (Kd (.d d) (bagOf m (s0 :: s1 :: s2 :: s3 :: s4 :: s5 :: s6 :: s7 :: s8 :: s9 :: s10 :: s11 :: s12 :: s13 :: s14 :: s15 :: s16 :: s17 :: .fz d :: r))) := rfl
@[simp ↓] theorem fn18_w {m : Bool} {Kd : Res → List D → Prop} {s0 s1 s2 s3 s4 s5 s6 s7 s8 s9 s10 s11 s12 s13 s14 s15 s16 s17 : Sl} {xs : List D} {r : Rho} : finR m Kd (.pl 18) (s0 :: s1 :: s2 :: s3 :: s4 :: s5 :: s6 :: s7 :: s8 :: s9 :: s10 :: s11 :: s12 :: s13 :: s14 :: s15 :: s16 :: s17 :: .ow false xs :: r) = (Kd (.n xs) (bagOf m (s0 :: s1 :: s2 :: s3 :: s4 :: s5 :: s6 :: s7 :: s8 :: s9 :: s10 :: s11 :: s12 :: s13 :: s14 :: s15 :: s16 :: s17 :: .ow false xs :: r))) := rfl
@[simp ↓] theorem v19_z {S : Sg} {xp : XP} {s0 s1 s2 s3 s4 s5 s6 s7 s8 s9 s10 s11 s12 s13 s14 s15 s16 s17 s18 : Sl} {d : D} {r : Rho} {K : KR} : iE S xp (.var 19) (s0 :: s1 :: s2 :: s3 :: s4 :: s5 :: s6 :: s7 :: s8 :: s9 :: s10 :: s11 :: s12 :: s13 :: s14 :: s15 :: s16 :: s17 :: s18 :: .fz d :: r) K = (K (.v d) (s0 :: s1 :: s2 :: s3 :: s4 :: s5 :: s6 :: s7 :: s8 :: s9 :: s10 :: s11 :: s12 :: s13 :: s14 :: s15 :: s16 :: s17 :: s18 :: .fz d :: r)) := rfl
@[simp ↓] theorem v19_w {S : Sg} {xp : XP} {s0 s1 s2 s3 s4 s5 s6 s7 s8 s9 s10 s11 s12 s13 s14 s15 s16 s17 s18 : Sl} {b : Bool} {xs : List D} {r : Rho} {K : KR} : iE S xp (.var 19) (s0 :: s1 :: s2 :: s3 :: s4 :: s5 :: s6 :: s7 :: s8 :: s9 :: s10 :: s11 :: s12 :: s13 :: s14 :: s15 :: s16 :: s17 :: s18 :: .ow b xs :: r) K = (K (.pl 19) (s0 :: s1 :: s2 :: s3 :: s4 :: s5 :: s6 :: s7 :: s8 :: s9 :: s10 :: s11 :: s12 :: s13 :: s14 :: s15 :: s16 :: s17 :: s18 :: .ow b xs :: r)) := rfl
@[simp ↓] theorem rp19_z {s0 s1 s2 s3 s4 s5 s6 s7 s8 s9 s10 s11 s12 s13 s14 s15 s16 s17 s18 : Sl} {d : D} {r : Rho} {K : D → Prop} : rdx (s0 :: s1 :: s2 :: s3 :: s4 :: s5 :: s6 :: s7 :: s8 :: s9 :: s10 :: s11 :: s12 :: s13 :: s14 :: s15 :: s16 :: s17 :: s18 :: .fz d :: r) (.pl 19) K = (K d) := rfl
@[simp ↓] theorem rp19_w {s0 s1 s2 s3 s4 s5 s6 s7 s8 s9 s10 s11 s12 s13 s14 s15 s16 s17 s18 : Sl} {b : Bool} {xs : List D} {r : Rho} {K : D → Prop} : rdx (s0 :: s1 :: s2 :: s3 :: s4 :: s5 :: s6 :: s7 :: s8 :: s9 :: s10 :: s11 :: s12 :: s13 :: s14 :: s15 :: s16 :: s17 :: s18 :: .ow b xs :: r) (.pl 19) K = (K (.lst xs)) := rfl
@[simp ↓] theorem fp19_z {s0 s1 s2 s3 s4 s5 s6 s7 s8 s9 s10 s11 s12 s13 s14 s15 s16 s17 s18 : Sl} {d : D} {r : Rho} {K : D → Rho → Prop} : fzx (s0 :: s1 :: s2 :: s3 :: s4 :: s5 :: s6 :: s7 :: s8 :: s9 :: s10 :: s11 :: s12 :: s13 :: s14 :: s15 :: s16 :: s17 :: s18 :: .fz d :: r) (.pl 19) K = (K d (s0 :: s1 :: s2 :: s3 :: s4 :: s5 :: s6 :: s7 :: s8 :: s9 :: s10 :: s11 :: s12 :: s13 :: s14 :: s15 :: s16 :: s17 :: s18 :: .fz d :: r)) := rfl
@[simp ↓] theorem fp19_w {s0 s1 s2 s3 s4 s5 s6 s7 s8 s9 s10 s11 s12 s13 s14 s15 s16 s17 s18 : Sl} {xs : List D} {r : Rho} {K : D → Rho → Prop} : fzx (s0 :: s1 :: s2 :: s3 :: s4 :: s5 :: s6 :: s7 :: s8 :: s9 :: s10 :: s11 :: s12 :: s13 :: s14 :: s15 :: s16 :: s17 :: s18 :: .ow false xs :: r) (.pl 19) K = (K (.lst xs) (s0 :: s1 :: s2 :: s3 :: s4 :: s5 :: s6 :: s7 :: s8 :: s9 :: s10 :: s11 :: s12 :: s13 :: s14 :: s15 :: s16 :: s17 :: s18 :: .fz (.lst xs) :: r)) := rfl
@[simp ↓] theorem sv19 {s0 s1 s2 s3 s4 s5 s6 s7 s8 s9 s10 s11 s12 s13 s14 s15 s16 s17 s18 : Sl} {s : Sl} {d : D} {r : Rho} {K : Rho → Prop} : setR (s0 :: s1 :: s2 :: s3 :: s4 :: s5 :: s6 :: s7 :: s8 :: s9 :: s10 :: s11 :: s12 :: s13 :: s14 :: s15 :: s16 :: s17 :: s18 :: s :: r) 19 (.v d) K = (opS s = true ∧ K (s0 :: s1 :: s2 :: s3 :: s4 :: s5 :: s6 :: s7 :: s8 :: s9 :: s10 :: s11 :: s12 :: s13 :: s14 :: s15 :: s16 :: s17 :: s18 :: .fz d :: r)) := by cases s <;> first | rfl | (rename_i b xs; cases b <;> rfl)
@[simp ↓] theorem sn19 {s0 s1 s2 s3 s4 s5 s6 s7 s8 s9 s10 s11 s12 s13 s14 s15 s16 s17 s18 : Sl} {s : Sl} {xs : List D} {r : Rho} {K : Rho → Prop} : setR (s0 :: s1 :: s2 :: s3 :: s4 :: s5 :: s6 :: s7 :: s8 :: s9 :: s10 :: s11 :: s12 :: s13 :: s14 :: s15 :: s16 :: s17 :: s18 :: s :: r) 19 (.n xs) K = (opS s = true ∧ K (s0 :: s1 :: s2 :: s3 :: s4 :: s5 :: s6 :: s7 :: s8 :: s9 :: s10 :: s11 :: s12 :: s13 :: s14 :: s15 :: s16 :: s17 :: s18 :: .ow false xs :: r)) := by cases s <;> first | rfl | (rename_i b xs; cases b <;> rfl)
@[simp ↓] theorem tg19 {s0 s1 s2 s3 s4 s5 s6 s7 s8 s9 s10 s11 s12 s13 s14 s15 s16 s17 s18 : Sl} {s : Sl} {d : D} {r : Rho} {K : Rho → Prop} : tgD (.nm 19) d (s0 :: s1 :: s2 :: s3 :: s4 :: s5 :: s6 :: s7 :: s8 :: s9 :: s10 :: s11 :: s12 :: s13 :: s14 :: s15 :: s16 :: s17 :: s18 :: s :: r) K = (opS s = true ∧ K (s0 :: s1 :: s2 :: s3 :: s4 :: s5 :: s6 :: s7 :: s8 :: s9 :: s10 :: s11 :: s12 :: s13 :: s14 :: s15 :: s16 :: s17 :: s18 :: .fz d :: r)) := by cases s <;> first | rfl | (rename_i b xs; cases b <;> rfl)
@[simp ↓] theorem op19 {s0 s1 s2 s3 s4 s5 s6 s7 s8 s9 s10 s11 s12 s13 s14 s15 s16 s17 s18 : Sl} {s : Sl} {r : Rho} : open? (s0 :: s1 :: s2 :: s3 :: s4 :: s5 :: s6 :: s7 :: s8 :: s9 :: s10 :: s11 :: s12 :: s13 :: s14 :: s15 :: s16 :: s17 :: s18 :: s :: r) 19 = (opS s) := by cases s <;> first | rfl | (rename_i b xs; cases b <;> rfl)
@[simp ↓] theorem no19 {s0 s1 s2 s3 s4 s5 s6 s7 s8 s9 s10 s11 s12 s13 s14 s15 s16 s17 s18 : Sl} {s : Sl} {r : Rho} : notOw (s0 :: s1 :: s2 :: s3 :: s4 :: s5 :: s6 :: s7 :: s8 :: s9 :: s10 :: s11 :: s12 :: s13 :: s14 :: s15 :: s16 :: s17 :: s18 :: s :: r) 19 = (noS s) := by cases s <;> rfl
@[simp ↓] theorem io19 {s0 s1 s2 s3 s4 s5 s6 s7 s8 s9 s10 s11 s12 s13 s14 s15 s16 s17 s18 : Sl} {b : Bool} {xs : List D} {r : Rho} : isOw (s0 :: s1 :: s2 :: s3 :: s4 :: s5 :: s6 :: s7 :: s8 :: s9 :: s10 :: s11 :: s12 :: s13 :: s14 :: s15 :: s16 :: s17 :: s18 :: .ow b xs :: r) 19 = (true) := rfl
@[simp ↓] theorem oc19 {s0 s1 s2 s3 s4 s5 s6 s7 s8 s9 s10 s11 s12 s13 s14 s15 s16 s17 s18 : Sl} {b : Bool} {xs : List D} {r : Rho} {K : List D → (List D → Rho) → Prop} : owc 19 (s0 :: s1 :: s2 :: s3 :: s4 :: s5 :: s6 :: s7 :: s8 :: s9 :: s10 :: s11 :: s12 :: s13 :: s14 :: s15 :: s16 :: s17 :: s18 :: .ow b xs :: r) K = (K xs fun ys => (s0 :: s1 :: s2 :: s3 :: s4 :: s5 :: s6 :: s7 :: s8 :: s9 :: s10 :: s11 :: s12 :: s13 :: s14 :: s15 :: s16 :: s17 :: s18 :: .ow b ys :: r)) := rfl
@[simp ↓] theorem fzl19_w {s0 s1 s2 s3 s4 s5 s6 s7 s8 s9 s10 s11 s12 s13 s14 s15 s16 s17 s18 : Sl} {xs : List D} {l : List Nat} {r : Rho} : frzL (s0 :: s1 :: s2 :: s3 :: s4 :: s5 :: s6 :: s7 :: s8 :: s9 :: s10 :: s11 :: s12 :: s13 :: s14 :: s15 :: s16 :: s17 :: s18 :: .ow false xs :: r) (19 :: l) = (frzL (s0 :: s1 :: s2 :: s3 :: s4 :: s5 :: s6 :: s7 :: s8 :: s9 :: s10 :: s11 :: s12 :: s13 :: s14 :: s15 :: s16 :: s17 :: s18 :: .fz (.lst xs) :: r) l) := rfl
@[simp ↓] theorem fzl19_z {s0 s1 s2 s3 s4 s5 s6 s7 s8 s9 s10 s11 s12 s13 s14 s15 s16 s17 s18 : Sl} {d : D} {l : List Nat} {r : Rho} : frzL (s0 :: s1 :: s2 :: s3 :: s4 :: s5 :: s6 :: s7 :: s8 :: s9 :: s10 :: s11 :: s12 :: s13 :: s14 :: s15 :: s16 :: s17 :: s18 :: .fz d :: r) (19 :: l) = (frzL (s0 :: s1 :: s2 :: s3 :: s4 :: s5 :: s6 :: s7 :: s8 :: s9 :: s10 :: s11 :: s12 :: s13 :: s14 :: s15 :: s16 :: s17 :: s18 :: .fz d :: r) l) := rfl
@[simp ↓] theorem fzl19_o {s0 s1 s2 s3 s4 s5 s6 s7 s8 s9 s10 s11 s12 s13 s14 s15 s16 s17 s18 : Sl} {l : List Nat} {r : Rho} : frzL (s0 :: s1 :: s2 :: s3 :: s4 :: s5 :: s6 :: s7 :: s8 :: s9 :: s10 :: s11 :: s12 :: s13 :: s14 :: s15 :: s16 :: s17 :: s18 :: .no :: r) (19 :: l) = (frzL (s0 :: s1 :: s2 :: s3 :: s4 :: s5 :: s6 :: s7 :: s8 :: s9 :: s10 :: s11 :: s12 :: s13 :: s14 :: s15 :: s16 :: s17 :: s18 :: .no :: r) l) := rfl
@[simp ↓] theorem zc19 {s0 s1 s2 s3 s4 s5 s6 s7 s8 s9 s10 s11 s12 s13 s14 s15 s16 s17 s18 : Sl} {d : D} {r : Rho} {K : D → Prop} : fzc 19 (s0 :: s1 :: s2 :: s3 :: s4 :: s5 :: s6 :: s7 :: s8 :: s9 :: s10 :: s11 :: s12 :: s13 :: s14 :: s15 :: s16 :: s17 :: s18 :: .fz d :: r) K = (K d) := rfl
@[simp ↓] theorem fn19_z {m : Bool} {Kd : Res → List D → Prop} {s0 s1 s2 s3 s4 s5 s6 s7 s8 s9 s10 s11 s12 s13 s14 s15 s16 s17 s18 : Sl} {d : D} {r : Rho} : finR m Kd (.pl 19) (s0 :: s1 :: s2 :: s3 :: s4 :: s5 :: s6 :: s7 :: s8 :: s9 :: s10 :: s11 :: s12 :: s13 :: s14 :: s15 :: s16 :: s17 :: s18 :: .fz d :: r) = (Kd (.d d) (bagOf m (s0 :: s1 :: s2 :: s3 :: s4 :: s5 :: s6 :: s7 :: s8 :: s9 :: s10 :: s11 :: s12 :: s13 :: s14 :: s15 :: s16 :: s17 :: s18 :: .fz d :: r))) := rfl
@[simp ↓] theorem fn19_w {m : Bool} {Kd : Res → List D → Prop} {s0 s1 s2 s3 s4 s5 s6 s7 s8 s9 s10 s11 s12 s13 s14 s15 s16 s17 s18 : Sl} {xs : List D} {r : Rho} : finR m Kd (.pl 19) (s0 :: s1 :: s2 :: s3 :: s4 :: s5 :: s6 :: s7 :: s8 :: s9 :: s10 :: s11 :: s12 :: s13 :: s14 :: s15 :: s16 :: s17 :: s18 :: .ow false xs :: r) = (Kd (.n xs) (bagOf m (s0 :: s1 :: s2 :: s3 :: s4 :: s5 :: s6 :: s7 :: s8 :: s9 :: s10 :: s11 :: s12 :: s13 :: s14 :: s15 :: s16 :: s17 :: s18 :: .ow false xs :: r))) := rfl
theorem lat0 {α : Type} {x : α} {r : List α} : atI (x :: r) 0 = some x := by unfold atI ixN; rw [if_pos (by decide), if_pos (by simp only [List.length_cons]; omega)]; rfl
theorem lix0 {α : Type} {x : α} {r : List α} : ixN (x :: r).length 0 = some 0 := by unfold ixN; rw [if_pos (by decide), if_pos (by simp only [List.length_cons]; omega)]; rfl
@[simp ↓] theorem xat0 {α : Type} {x : α} {r : List α} {K : α → Prop} : exK (atI (x :: r) 0) K = (K x) := by rw [lat0]; exact exK_s
@[simp ↓] theorem xai0 {x : Int} {r : List D} {K : Int → Prop} : exI (atI (D.int x :: r) 0) K = (K x) := by rw [lat0]; exact exI_s
@[simp ↓] theorem stk0 {x d : D} {r : List D} {K : List D → Prop} : stK (x :: r) 0 d K = (K (d :: r)) := by unfold stK; rw [lix0]; exact exK_s
theorem lat1 {α : Type} {a0 : α} {x : α} {r : List α} : atI (a0 :: x :: r) 1 = some x := by unfold atI ixN; rw [if_pos (by decide), if_pos (by simp only [List.length_cons]; omega)]; rfl
theorem lix1 {α : Type} {a0 : α} {x : α} {r : List α} : ixN (a0 :: x :: r).length 1 = some 1 := by unfold ixN; rw [if_pos (by decide), if_pos (by simp only [List.length_cons]; omega)]; rfl
@[simp ↓] theorem xat1 {α : Type} {a0 : α} {x : α} {r : List α} {K : α → Prop} : exK (atI (a0 :: x :: r) 1) K = (K x) := by rw [lat1]; exact exK_s
@[simp ↓] theorem xai1 {a0 : D} {x : Int} {r : List D} {K : Int → Prop} : exI (atI (a0 :: D.int x :: r) 1) K = (K x) := by rw [lat1]; exact exI_s
@[simp ↓] theorem stk1 {a0 : D} {x d : D} {r : List D} {K : List D → Prop} : stK (a0 :: x :: r) 1 d K = (K (a0 :: d :: r)) := by unfold stK; rw [lix1]; exact exK_s
theorem lat2 {α : Type} {a0 a1 : α} {x : α} {r : List α} : atI (a0 :: a1 :: x :: r) 2 = some x := by unfold atI ixN; rw [if_pos (by decide), if_pos (by simp only [List.length_cons]; omega)]; rfl
theorem lix2 {α : Type} {a0 a1 : α} {x : α} {r : List α} : ixN (a0 :: a1 :: x :: r).length 2 = some 2 := by unfold ixN; rw [if_pos (by decide), if_pos (by simp only [List.length_cons]; omega)]; rfl
@[simp ↓] theorem xat2 {α : Type} {a0 a1 : α} {x : α} {r : List α} {K : α → Prop} : exK (atI (a0 :: a1 :: x :: r) 2) K = (K x) := by rw [lat2]; exact exK_s
@[simp ↓] theorem xai2 {a0 a1 : D} {x : Int} {r : List D} {K : Int → Prop} : exI (atI (a0 :: a1 :: D.int x :: r) 2) K = (K x) := by rw [lat2]; exact exI_s
@[simp ↓] theorem stk2 {a0 a1 : D} {x d : D} {r : List D} {K : List D → Prop} : stK (a0 :: a1 :: x :: r) 2 d K = (K (a0 :: a1 :: d :: r)) := by unfold stK; rw [lix2]; exact exK_s
theorem lat3 {α : Type} {a0 a1 a2 : α} {x : α} {r : List α} : atI (a0 :: a1 :: a2 :: x :: r) 3 = some x := by unfold atI ixN; rw [if_pos (by decide), if_pos (by simp only [List.length_cons]; omega)]; rfl
theorem lix3 {α : Type} {a0 a1 a2 : α} {x : α} {r : List α} : ixN (a0 :: a1 :: a2 :: x :: r).length 3 = some 3 := by unfold ixN; rw [if_pos (by decide), if_pos (by simp only [List.length_cons]; omega)]; rfl
@[simp ↓] theorem xat3 {α : Type} {a0 a1 a2 : α} {x : α} {r : List α} {K : α → Prop} : exK (atI (a0 :: a1 :: a2 :: x :: r) 3) K = (K x) := by rw [lat3]; exact exK_s
@[simp ↓] theorem xai3 {a0 a1 a2 : D} {x : Int} {r : List D} {K : Int → Prop} : exI (atI (a0 :: a1 :: a2 :: D.int x :: r) 3) K = (K x) := by rw [lat3]; exact exI_s
@[simp ↓] theorem stk3 {a0 a1 a2 : D} {x d : D} {r : List D} {K : List D → Prop} : stK (a0 :: a1 :: a2 :: x :: r) 3 d K = (K (a0 :: a1 :: a2 :: d :: r)) := by unfold stK; rw [lix3]; exact exK_s
theorem lat4 {α : Type} {a0 a1 a2 a3 : α} {x : α} {r : List α} : atI (a0 :: a1 :: a2 :: a3 :: x :: r) 4 = some x := by unfold atI ixN; rw [if_pos (by decide), if_pos (by simp only [List.length_cons]; omega)]; rfl
theorem lix4 {α : Type} {a0 a1 a2 a3 : α} {x : α} {r : List α} : ixN (a0 :: a1 :: a2 :: a3 :: x :: r).length 4 = some 4 := by unfold ixN; rw [if_pos (by decide), if_pos (by simp only [List.length_cons]; omega)]; rfl
@[simp ↓] theorem xat4 {α : Type} {a0 a1 a2 a3 : α} {x : α} {r : List α} {K : α → Prop} : exK (atI (a0 :: a1 :: a2 :: a3 :: x :: r) 4) K = (K x) := by rw [lat4]; exact exK_s
@[simp ↓] theorem xai4 {a0 a1 a2 a3 : D} {x : Int} {r : List D} {K : Int → Prop} : exI (atI (a0 :: a1 :: a2 :: a3 :: D.int x :: r) 4) K = (K x) := by rw [lat4]; exact exI_s
@[simp ↓] theorem stk4 {a0 a1 a2 a3 : D} {x d : D} {r : List D} {K : List D → Prop} : stK (a0 :: a1 :: a2 :: a3 :: x :: r) 4 d K = (K (a0 :: a1 :: a2 :: a3 :: d :: r)) := by unfold stK; rw [lix4]; exact exK_s
theorem lat5 {α : Type} {a0 a1 a2 a3 a4 : α} {x : α} {r : List α} : atI (a0 :: a1 :: a2 :: a3 :: a4 :: x :: r) 5 = some x := by unfold atI ixN; rw [if_pos (by decide), if_pos (by simp only [List.length_cons]; omega)]; rfl
theorem lix5 {α : Type} {a0 a1 a2 a3 a4 : α} {x : α} {r : List α} : ixN (a0 :: a1 :: a2 :: a3 :: a4 :: x :: r).length 5 = some 5 := by unfold ixN; rw [if_pos (by decide), if_pos (by simp only [List.length_cons]; omega)]; rfl
@[simp ↓] theorem xat5 {α : Type} {a0 a1 a2 a3 a4 : α} {x : α} {r : List α} {K : α → Prop} : exK (atI (a0 :: a1 :: a2 :: a3 :: a4 :: x :: r) 5) K = (K x) := by rw [lat5]; exact exK_s
@[simp ↓] theorem xai5 {a0 a1 a2 a3 a4 : D} {x : Int} {r : List D} {K : Int → Prop} : exI (atI (a0 :: a1 :: a2 :: a3 :: a4 :: D.int x :: r) 5) K = (K x) := by rw [lat5]; exact exI_s
@[simp ↓] theorem stk5 {a0 a1 a2 a3 a4 : D} {x d : D} {r : List D} {K : List D → Prop} : stK (a0 :: a1 :: a2 :: a3 :: a4 :: x :: r) 5 d K = (K (a0 :: a1 :: a2 :: a3 :: a4 :: d :: r)) := by unfold stK; rw [lix5]; exact exK_s
theorem lat6 {α : Type} {a0 a1 a2 a3 a4 a5 : α} {x : α} {r : List α} : atI (a0 :: a1 :: a2 :: a3 :: a4 :: a5 :: x :: r) 6 = some x := by unfold atI ixN; rw [if_pos (by decide), if_pos (by simp only [List.length_cons]; omega)]; rfl
theorem lix6 {α : Type} {a0 a1 a2 a3 a4 a5 : α} {x : α} {r : List α} : ixN (a0 :: a1 :: a2 :: a3 :: a4 :: a5 :: x :: r).length 6 = some 6 := by unfold ixN; rw [if_pos (by decide), if_pos (by simp only [List.length_cons]; omega)]; rfl
@[simp ↓] theorem xat6 {α : Type} {a0 a1 a2 a3 a4 a5 : α} {x : α} {r : List α} {K : α → Prop} : exK (atI (a0 :: a1 :: a2 :: a3 :: a4 :: a5 :: x :: r) 6) K = (K x) := by rw [lat6]; exact exK_s
@[simp ↓] theorem xai6 {a0 a1 a2 a3 a4 a5 : D} {x : Int} {r : List D} {K : Int → Prop} : exI (atI (a0 :: a1 :: a2 :: a3 :: a4 :: a5 :: D.int x :: r) 6) K = (K x) := by rw [lat6]; exact exI_s
@[simp ↓] theorem stk6 {a0 a1 a2 a3 a4 a5 : D} {x d : D} {r : List D} {K : List D → Prop} : stK (a0 :: a1 :: a2 :: a3 :: a4 :: a5 :: x :: r) 6 d K = (K (a0 :: a1 :: a2 :: a3 :: a4 :: a5 :: d :: r)) := by unfold stK; rw [lix6]; exact exK_s
theorem lat7 {α : Type} {a0 a1 a2 a3 a4 a5 a6 : α} {x : α} {r : List α} : atI (a0 :: a1 :: a2 :: a3 :: a4 :: a5 :: a6 :: x :: r) 7 = some x := by unfold atI ixN; rw [if_pos (by decide), if_pos (by simp only [List.length_cons]; omega)]; rfl
theorem lix7 {α : Type} {a0 a1 a2 a3 a4 a5 a6 : α} {x : α} {r : List α} : ixN (a0 :: a1 :: a2 :: a3 :: a4 :: a5 :: a6 :: x :: r).length 7 = some 7 := by unfold ixN; rw [if_pos (by decide), if_pos (by simp only [List.length_cons]; omega)]; rfl
@[simp ↓] theorem xat7 {α : Type} {a0 a1 a2 a3 a4 a5 a6 : α} {x : α} {r : List α} {K : α → Prop} : exK (atI (a0 :: a1 :: a2 :: a3 :: a4 :: a5 :: a6 :: x :: r) 7) K = (K x) := by rw [lat7]; exact exK_s
@[simp ↓] theorem xai7 {a0 a1 a2 a3 a4 a5 a6 : D} {x : Int} {r : List D} {K : Int → Prop} : exI (atI (a0 :: a1 :: a2 :: a3 :: a4 :: a5 :: a6 :: D.int x :: r) 7) K = (K x) := by rw [lat7]; exact exI_s
@[simp ↓] theorem stk7 {a0 a1 a2 a3 a4 a5 a6 : D} {x d : D} {r : List D} {K : List D → Prop} : stK (a0 :: a1 :: a2 :: a3 :: a4 :: a5 :: a6 :: x :: r) 7 d K = (K (a0 :: a1 :: a2 :: a3 :: a4 :: a5 :: a6 :: d :: r)) := by unfold stK; rw [lix7]; exact exK_s
theorem lat8 {α : Type} {a0 a1 a2 a3 a4 a5 a6 a7 : α} {x : α} {r : List α} : atI (a0 :: a1 :: a2 :: a3 :: a4 :: a5 :: a6 :: a7 :: x :: r) 8 = some x := by unfold atI ixN; rw [if_pos (by decide), if_pos (by simp only [List.length_cons]; omega)]; rfl
theorem lix8 {α : Type} {a0 a1 a2 a3 a4 a5 a6 a7 : α} {x : α} {r : List α} : ixN (a0 :: a1 :: a2 :: a3 :: a4 :: a5 :: a6 :: a7 :: x :: r).length 8 = some 8 := by unfold ixN; rw [if_pos (by decide), if_pos (by simp only [List.length_cons]; omega)]; rfl
@[simp ↓] theorem xat8 {α : Type} {a0 a1 a2 a3 a4 a5 a6 a7 : α} {x : α} {r : List α} {K : α → Prop} : exK (atI (a0 :: a1 :: a2 :: a3 :: a4 :: a5 :: a6 :: a7 :: x :: r) 8) K = (K x) := by rw [lat8]; exact exK_s
@[simp ↓] theorem xai8 {a0 a1 a2 a3 a4 a5 a6 a7 : D} {x : Int} {r : List D} {K : Int → Prop} : exI (atI (a0 :: a1 :: a2 :: a3 :: a4 :: a5 :: a6 :: a7 :: D.int x :: r) 8) K = (K x) := by rw [lat8]; exact exI_s
@[simp ↓] theorem stk8 {a0 a1 a2 a3 a4 a5 a6 a7 : D} {x d : D} {r : List D} {K : List D → Prop} : stK (a0 :: a1 :: a2 :: a3 :: a4 :: a5 :: a6 :: a7 :: x :: r) 8 d K = (K (a0 :: a1 :: a2 :: a3 :: a4 :: a5 :: a6 :: a7 :: d :: r)) := by unfold stK; rw [lix8]; exact exK_s
theorem lat9 {α : Type} {a0 a1 a2 a3 a4 a5 a6 a7 a8 : α} {x : α} {r : List α} : atI (a0 :: a1 :: a2 :: a3 :: a4 :: a5 :: a6 :: a7 :: a8 :: x :: r) 9 = some x := by unfold atI ixN; rw [if_pos (by decide), if_pos (by simp only [List.length_cons]; omega)]; rfl
theorem lix9 {α : Type} {a0 a1 a2 a3 a4 a5 a6 a7 a8 : α} {x : α} {r : List α} : ixN (a0 :: a1 :: a2 :: a3 :: a4 :: a5 :: a6 :: a7 :: a8 :: x :: r).length 9 = some 9 := by unfold ixN; rw [if_pos (by decide), if_pos (by simp only [List.length_cons]; omega)]; rfl
@[simp ↓] theorem xat9 {α : Type} {a0 a1 a2 a3 a4 a5 a6 a7 a8 : α} {x : α} {r : List α} {K : α → Prop} : exK (atI (a0 :: a1 :: a2 :: a3 :: a4 :: a5 :: a6 :: a7 :: a8 :: x :: r) 9) K = (K x) := by rw [lat9]; exact exK_s
@[simp ↓] theorem xai9 {a0 a1 a2 a3 a4 a5 a6 a7 a8 : D} {x : Int} {r : List D} {K : Int → Prop} : exI (atI (a0 :: a1 :: a2 :: a3 :: a4 :: a5 :: a6 :: a7 :: a8 :: D.int x :: r) 9) K = (K x) := by rw [lat9]; exact exI_s
@[simp ↓] theorem stk9 {a0 a1 a2 a3 a4 a5 a6 a7 a8 : D} {x d : D} {r : List D} {K : List D → Prop} : stK (a0 :: a1 :: a2 :: a3 :: a4 :: a5 :: a6 :: a7 :: a8 :: x :: r) 9 d K = (K (a0 :: a1 :: a2 :: a3 :: a4 :: a5 :: a6 :: a7 :: a8 :: d :: r)) := by unfold stK; rw [lix9]; exact exK_s
theorem lat10 {α : Type} {a0 a1 a2 a3 a4 a5 a6 a7 a8 a9 : α} {x : α} {r : List α} : atI (a0 :: a1 :: a2 :: a3 :: a4 :: a5 :: a6 :: a7 :: a8 :: a9 :: x :: r) 10 = some x := by unfold atI ixN; rw [if_pos (by decide), if_pos (by simp only [List.length_cons]; omega)]; rfl
theorem lix10 {α : Type} {a0 a1 a2 a3 a4 a5 a6 a7 a8 a9 : α} {x : α} {r : List α} : ixN (a0 :: a1 :: a2 :: a3 :: a4 :: a5 :: a6 :: a7 :: a8 :: a9 :: x :: r).length 10 = some 10 := by unfold ixN; rw [if_pos (by decide), if_pos (by simp only [List.length_cons]; omega)]; rfl
@[simp ↓] theorem xat10 {α : Type} {a0 a1 a2 a3 a4 a5 a6 a7 a8 a9 : α} {x : α} {r : List α} {K : α → Prop} : exK (atI (a0 :: a1 :: a2 :: a3 :: a4 :: a5 :: a6 :: a7 :: a8 :: a9 :: x :: r) 10) K = (K x) := by rw [lat10]; exact exK_s
@[simp ↓] theorem xai10 {a0 a1 a2 a3 a4 a5 a6 a7 a8 a9 : D} {x : Int} {r : List D} {K : Int → Prop} : exI (atI (a0 :: a1 :: a2 :: a3 :: a4 :: a5 :: a6 :: a7 :: a8 :: a9 :: D.int x :: r) 10) K = (K x) := by rw [lat10]; exact exI_s
@[simp ↓] theorem stk10 {a0 a1 a2 a3 a4 a5 a6 a7 a8 a9 : D} {x d : D} {r : List D} {K : List D → Prop} : stK (a0 :: a1 :: a2 :: a3 :: a4 :: a5 :: a6 :: a7 :: a8 :: a9 :: x :: r) 10 d K = (K (a0 :: a1 :: a2 :: a3 :: a4 :: a5 :: a6 :: a7 :: a8 :: a9 :: d :: r)) := by unfold stK; rw [lix10]; exact exK_s
theorem lat11 {α : Type} {a0 a1 a2 a3 a4 a5 a6 a7 a8 a9 a10 : α} {x : α} {r : List α} : atI (a0 :: a1 :: a2 :: a3 :: a4 :: a5 :: a6 :: a7 :: a8 :: a9 :: a10 :: x :: r) 11 = some x := by unfold atI ixN; rw [if_pos (by decide), if_pos (by simp only [List.length_cons]; omega)]; rfl
theorem lix11 {α : Type} {a0 a1 a2 a3 a4 a5 a6 a7 a8 a9 a10 : α} {x : α} {r : List α} : ixN (a0 :: a1 :: a2 :: a3 :: a4 :: a5 :: a6 :: a7 :: a8 :: a9 :: a10 :: x :: r).length 11 = some 11 := by unfold ixN; rw [if_pos (by decide), if_pos (by simp only [List.length_cons]; omega)]; rfl
@[simp ↓] theorem xat11 {α : Type} {a0 a1 a2 a3 a4 a5 a6 a7 a8 a9 a10 : α} {x : α} {r : List α} {K : α → Prop} : exK (atI (a0 :: a1 :: a2 :: a3 :: a4 :: a5 :: a6 :: a7 :: a8 :: a9 :: a10 :: x :: r) 11) K = (K x) := by rw [lat11]; exact exK_s
@[simp ↓] theorem xai11 {a0 a1 a2 a3 a4 a5 a6 a7 a8 a9 a10 : D} {x : Int} {r : List D} {K : Int → Prop} : exI (atI (a0 :: a1 :: a2 :: a3 :: a4 :: a5 :: a6 :: a7 :: a8 :: a9 :: a10 :: D.int x :: r) 11) K = (K x) := by rw [lat11]; exact exI_s
@[simp ↓] theorem stk11 {a0 a1 a2 a3 a4 a5 a6 a7 a8 a9 a10 : D} {x d : D} {r : List D} {K : List D → Prop} : stK (a0 :: a1 :: a2 :: a3 :: a4 :: a5 :: a6 :: a7 :: a8 :: a9 :: a10 :: x :: r) 11 d K = (K (a0 :: a1 :: a2 :: a3 :: a4 :: a5 :: a6 :: a7 :: a8 :: a9 :: a10 :: d :: r)) := by unfold stK; rw [lix11]; exact exK_s
@[simp ↓] theorem cop_eq {x y : D} {K : Bool → Prop} : COp.sem .eq x y K = (eqD x y K) := rfl
@[simp ↓] theorem cop_lt {x y : D} {K : Bool → Prop} : COp.sem .lt x y K = (ltD x y K) := rfl
@[simp ↓] theorem cop_le {x y : D} {K : Bool → Prop} : COp.sem .le x y K = (leD x y K) := rfl
@[simp ↓] theorem cop_gt {x y : D} {K : Bool → Prop} : COp.sem .gt x y K = (gtD x y K) := rfl
@[simp ↓] theorem cop_ge {x y : D} {K : Bool → Prop} : COp.sem .ge x y K = (geD x y K) := rfl
@[simp ↓] theorem cop_isin {x y : D} {K : Bool → Prop} : COp.sem .isin x y K = (inD x y K) := rfl
@[simp ↓] theorem cop_is {x y : D} {K : Bool → Prop} : COp.sem .is x y K = (isD x y K) := rfl
@[simp ↓] theorem cop_ne {x y : D} {K : Bool → Prop} : COp.sem .ne x y K = (eqD x y fun b => K (!b)) := rfl
@[simp ↓] theorem cop_notin {x y : D} {K : Bool → Prop} : COp.sem .notin x y K = (inD x y fun b => K (!b)) := rfl
@[simp ↓] theorem cop_isnot {x y : D} {K : Bool → Prop} : COp.sem .isnot x y K = (isD x y fun b => K (!b)) := rfl
@[simp ↓] theorem add_i {i j : Int} {K : R → Prop} : boR .add (.int i) (.int j) K = (K (.v (.int (i + j)))) := rfl
@[simp ↓] theorem add_s {a b : Str} {K : R → Prop} : boR .add (.str a) (.str b) K = (a.length + b.length ≤ sizeLine ∧ K (.v (.str (a ++ b)))) := rfl
@[simp ↓] theorem add_l {xs ys : List D} {K : R → Prop} : boR .add (.lst xs) (.lst ys) K = (xs.length + ys.length ≤ sizeLine ∧ K (.n (xs ++ ys))) := rfl
@[simp ↓] theorem add_t {xs ys : List D} {K : R → Prop} : boR .add (.tup xs) (.tup ys) K = (xs.length + ys.length ≤ sizeLine ∧ K (.v (.tup (xs ++ ys)))) := rfl
@[simp ↓] theorem sub_i {i j : Int} {K : R → Prop} : boR .sub (.int i) (.int j) K = (K (.v (.int (i - j)))) := rfl
@[simp ↓] theorem mul_i {i j : Int} {K : R → Prop} : boR .mul (.int i) (.int j) K = (BigM i j ∧ K (.v (.int (i * j)))) := rfl
@[simp ↓] theorem mul_l {xs : List D} {k : Int} {K : R → Prop} : boR .mul (.lst xs) (.int k) K = ((-(2 ^ 63) ≤ k ∧ k < 2 ^ 63 ∧ xs.length * k.toNat ≤ sizeLine) ∧ K (.n (List.replicate k.toNat xs).flatten)) := rfl
@[simp ↓] theorem fdiv_i {i j : Int} {K : R → Prop} : boR .fdiv (.int i) (.int j) K = ((0 < j ∧ j < 340282366920938463463374607431768211456) ∧ K (.v (.int (i / j)))) := rfl
@[simp ↓] theorem mod_i {i j : Int} {K : R → Prop} : boR .mod (.int i) (.int j) K = (0 < j ∧ K (.v (.int (i % j)))) := rfl
@[simp ↓] theorem pow_i {i j : Int} {K : R → Prop} : boR .pow (.int i) (.int j) K = (CPow i j ∧ K (.v (.int (i ^ j.toNat)))) := rfl
@[simp ↓] theorem eq_i {i j : Int} {K : Bool → Prop} : eqD (.int i) (.int j) K = (K (decide (i = j))) := rfl
@[simp ↓] theorem eq_b {a b : Bool} {K : Bool → Prop} : eqD (.bl a) (.bl b) K = (K (a == b)) := propext ⟨fun h => by have h := h.2; cases a <;> cases b <;> exact h, fun h => ⟨by cases a <;> cases b <;> exact ⟨rfl, rfl, rfl, rfl⟩, by cases a <;> cases b <;> exact h⟩⟩
@[simp ↓] theorem eq_s {a b : Str} {K : Bool → Prop} : eqD (.str a) (.str b) K = (K (decide (a = b))) := rfl
@[simp ↓] theorem lt_i {i j : Int} {K : Bool → Prop} : ltD (.int i) (.int j) K = (K (decide (i < j))) := rfl
@[simp ↓] theorem le_i {i j : Int} {K : Bool → Prop} : leD (.int i) (.int j) K = (K (decide (i ≤ j))) := rfl
@[simp ↓] theorem gt_i {i j : Int} {K : Bool → Prop} : gtD (.int i) (.int j) K = (K (decide (j < i))) := rfl
@[simp ↓] theorem ge_i {i j : Int} {K : Bool → Prop} : geD (.int i) (.int j) K = (K (decide (j ≤ i))) := rfl
@[simp ↓] theorem in_t {x : D} {ys : List D} {K : Bool → Prop} : inD x (.tup ys) K = ((flat x = true ∧ ys.all flat = true) ∧ K (inV (fv x) (ys.map fv))) := rfl
@[simp ↓] theorem isr_non  {ts : List Ty} {K : Bool → Prop} : isR (.non) ts K = (K (ts.any (Ty.sub .none))) := rfl
@[simp ↓] theorem isr_bl {b : Bool} {ts : List Ty} {K : Bool → Prop} : isR (.bl b) ts K = (K (ts.any (Ty.sub .bool))) := rfl
@[simp ↓] theorem isr_int {i : Int} {ts : List Ty} {K : Bool → Prop} : isR (.int i) ts K = (K (ts.any (Ty.sub .int))) := rfl
@[simp ↓] theorem isr_str {s : Str} {ts : List Ty} {K : Bool → Prop} : isR (.str s) ts K = (K (ts.any (Ty.sub .str))) := rfl
@[simp ↓] theorem isr_tup {xs : List D} {ts : List Ty} {K : Bool → Prop} : isR (.tup xs) ts K = (K (ts.any (Ty.sub .tuple))) := rfl
@[simp ↓] theorem isr_lst {xs : List D} {ts : List Ty} {K : Bool → Prop} : isR (.lst xs) ts K = (K (ts.any (Ty.sub .list))) := rfl
@[simp ↓] theorem zip_tt {xs ys : List D} {K : List D → Prop} : zipD (.tup xs) (.tup ys) K = (K (List.zipWith (fun x y => .tup [x, y]) xs ys)) := rfl
@[simp ↓] theorem is_n {x : D} {K : Bool → Prop} : isD x .non K = (K (isNone x)) := by cases x <;> rfl
@[simp ↓] theorem is_b {a b : Bool} {K : Bool → Prop} : isD (.bl a) (.bl b) K = (K (decide (a = b))) := rfl
@[simp] theorem fl_int {i : Int} : flat (.int i) = (true) := rfl
@[simp] theorem fl_str {s : Str} : flat (.str s) = (true) := rfl
@[simp] theorem fl_bl {s : Bool} : flat (.bl s) = (true) := rfl
@[simp] theorem fl_non  : flat (.non) = (true) := rfl
@[simp ↓] theorem ix_l {xs : List D} {i : Int} {K : R → Prop} : ixR (.lst xs) (.int i) K = (exK (atI xs i) fun d => K (.v d)) := rfl
@[simp ↓] theorem ix_t {xs : List D} {i : Int} {K : R → Prop} : ixR (.tup xs) (.int i) K = (exK (atI xs i) fun d => K (.v d)) := rfl
@[simp ↓] theorem ix_k {kvs : List (Str × D)} {z : Str} {K : R → Prop} : ixR (.kd kvs) (.str z) K = (exK (kvs.lookup z) fun d => flat d = true ∧ K (.v d)) := rfl
@[simp ↓] theorem ix_s {z : Str} {i : Int} {K : R → Prop} : ixR (.str z) (.int i) K = (z.length ≤ sizeLine ∧ exK (atI z.cps.toList i) fun c => K (.v (.str ⟨#[c]⟩))) := rfl
@[simp ↓] theorem sl_l {xs : List D} {lo hi : Option Int} {K : R → Prop} : slR (.lst xs) lo hi K = (K (.n (cutD xs lo hi))) := rfl
@[simp ↓] theorem sl_c {xs : List Int} {lo hi : Option Int} {K : R → Prop} : slR (.scr xs) lo hi K = (K (.n (cutD (xs.map D.int) lo hi))) := rfl
@[simp ↓] theorem sl_t {xs : List D} {lo hi : Option Int} {K : R → Prop} : slR (.tup xs) lo hi K = (K (.v (.tup (cutD xs lo hi)))) := rfl
@[simp ↓] theorem sl_s {z : Str} {lo hi : Option Int} {K : R → Prop} : slR (.str z) lo hi K = (z.length ≤ sizeLine ∧ K (.v (.str (cutS z lo hi)))) := rfl
@[simp ↓] theorem itm_l {xs : List D} {K : List D → Prop} : itemsD (.lst xs) K = (K xs) := rfl
@[simp ↓] theorem itm_t {xs : List D} {K : List D → Prop} : itemsD (.tup xs) K = (K xs) := rfl
@[simp ↓] theorem itm_s {z : Str} {K : List D → Prop} : itemsD (.str z) K = (K (z.cps.toList.map fun c => .str ⟨#[c]⟩)) := rfl
@[simp ↓] theorem b_len_l {xs : List D} {K : R → Prop} : biR .len [.lst xs] K = (K (.v (.int xs.length))) := rfl
@[simp ↓] theorem b_len_t {xs : List D} {K : R → Prop} : biR .len [.tup xs] K = (K (.v (.int xs.length))) := rfl
@[simp ↓] theorem b_len_s {s : Str} {K : R → Prop} : biR .len [.str s] K = (s.length ≤ sizeLine ∧ K (.v (.int s.length))) := rfl
@[simp ↓] theorem b_max2 {i j : Int}  {K : R → Prop} : biR .max2 [.int i, .int j] K = (K (.v (.int (max i j)))) := rfl
@[simp ↓] theorem b_min2 {i j : Int}  {K : R → Prop} : biR .min2 [.int i, .int j] K = (K (.v (.int (min i j)))) := rfl
@[simp ↓] theorem b_max3 {i j k : Int} {K : R → Prop} : biR .max3 [.int i, .int j, .int k] K = (K (.v (.int (max (max i j) k)))) := rfl
@[simp ↓] theorem b_max1_l {xs : List D} {K : R → Prop} : biR .max1 [.lst xs] K = (∃ ns : List Int, xs = ns.map D.int ∧ 0 < ns.length ∧ ∀ m, m ∈ ns → (∀ y, y ∈ ns → y ≤ m) → K (.v (.int m))) := rfl
@[simp ↓] theorem b_min1_l {xs : List D} {K : R → Prop} : biR .min1 [.lst xs] K = (∃ ns : List Int, xs = ns.map D.int ∧ 0 < ns.length ∧ ∀ m, m ∈ ns → (∀ y, y ∈ ns → m ≤ y) → K (.v (.int m))) := rfl
@[simp ↓] theorem b_max1_t {xs : List D} {K : R → Prop} : biR .max1 [.tup xs] K = (∃ ns : List Int, xs = ns.map D.int ∧ 0 < ns.length ∧ ∀ m, m ∈ ns → (∀ y, y ∈ ns → y ≤ m) → K (.v (.int m))) := rfl
@[simp ↓] theorem b_list_l {x : List D} {K : R → Prop} : biR .list [.lst x] K = (K (.n x)) := rfl
@[simp ↓] theorem b_list_t {x : List D} {K : R → Prop} : biR .list [.tup x] K = (K (.n x)) := rfl
@[simp ↓] theorem b_tuple_l {x : List D} {K : R → Prop} : biR .tuple [.lst x] K = (K (.v (.tup x))) := rfl
@[simp ↓] theorem b_tuple_t {x : List D} {K : R → Prop} : biR .tuple [.tup x] K = (K (.v (.tup x))) := rfl
@[simp ↓] theorem b_sum {xs : List D} {K : R → Prop} : biR .sum [.lst xs] K = (∃ ns : List Int, xs = ns.map D.int ∧ K (.v (.int ns.sum))) := rfl
@[simp ↓] theorem b_any {xs : List D} {K : R → Prop} : biR .any [.lst xs] K = (∃ bs : List Bool, xs = bs.map D.bl ∧ K (.v (.bl (bs.any id)))) := rfl
@[simp ↓] theorem b_all {xs : List D} {K : R → Prop} : biR .all [.lst xs] K = (∃ bs : List Bool, xs = bs.map D.bl ∧ K (.v (.bl (bs.all id)))) := rfl
@[simp ↓] theorem b_int_i {i : Int} {K : R → Prop} : biR .int [.int i] K = (K (.v (.int i))) := rfl
@[simp ↓] theorem b_int_b {b : Bool} {K : R → Prop} : biR .int [.bl b] K = (K (.v (.int (if b then 1 else 0)))) := rfl
@[simp ↓] theorem bt_any {xs : List D} {K : Bool → Prop} : biT .any [.lst xs] K = (∃ bs : List Bool, xs = bs.map D.bl ∧ K (bs.any id)) := rfl
@[simp ↓] theorem bt_all {xs : List D} {K : Bool → Prop} : biT .all [.lst xs] K = (∃ bs : List Bool, xs = bs.map D.bl ∧ K (bs.all id)) := rfl
@[simp ↓] theorem tru_non {K : Bool → Prop} : truD (.non) K = (K false) := rfl
@[simp ↓] theorem tru_bl {b : Bool} {K : Bool → Prop} : truD (.bl b) K = (K b) := rfl
@[simp ↓] theorem tru_int {i : Int} {K : Bool → Prop} : truD (.int i) K = (K (i != 0)) := rfl
@[simp ↓] theorem tru_str {s : Str} {K : Bool → Prop} : truD (.str s) K = (s.length ≤ sizeLine ∧ K ((s.length : Int) != 0)) := rfl
@[simp ↓] theorem tru_tup {xs : List D} {K : Bool → Prop} : truD (.tup xs) K = (K (!xs.isEmpty)) := rfl
@[simp ↓] theorem tru_lst {xs : List D} {K : Bool → Prop} : truD (.lst xs) K = (K (!xs.isEmpty)) := rfl
@[simp] theorem szl0 : ((0 : Nat) ≤ sizeLine) = True := eq_true (by decide)
@[simp] theorem szl1 : ((1 : Nat) ≤ sizeLine) = True := eq_true (by decide)
@[simp] theorem szl2 : ((2 : Nat) ≤ sizeLine) = True := eq_true (by decide)
@[simp] theorem szl3 : ((3 : Nat) ≤ sizeLine) = True := eq_true (by decide)
@[simp] theorem szl4 : ((4 : Nat) ≤ sizeLine) = True := eq_true (by decide)
@[simp] theorem szl5 : ((5 : Nat) ≤ sizeLine) = True := eq_true (by decide)
@[simp] theorem szl6 : ((6 : Nat) ≤ sizeLine) = True := eq_true (by decide)
@[simp] theorem szl7 : ((7 : Nat) ≤ sizeLine) = True := eq_true (by decide)
@[simp] theorem szl8 : ((8 : Nat) ≤ sizeLine) = True := eq_true (by decide)
@[simp] theorem szl9 : ((9 : Nat) ≤ sizeLine) = True := eq_true (by decide)
@[simp] theorem szl10 : ((10 : Nat) ≤ sizeLine) = True := eq_true (by decide)
@[simp] theorem szl11 : ((11 : Nat) ≤ sizeLine) = True := eq_true (by decide)
@[simp] theorem szl12 : ((12 : Nat) ≤ sizeLine) = True := eq_true (by decide)
@[simp] theorem szl13 : ((13 : Nat) ≤ sizeLine) = True := eq_true (by decide)
@[simp] theorem szl14 : ((14 : Nat) ≤ sizeLine) = True := eq_true (by decide)
@[simp] theorem szl15 : ((15 : Nat) ≤ sizeLine) = True := eq_true (by decide)
@[simp] theorem szl16 : ((16 : Nat) ≤ sizeLine) = True := eq_true (by decide)
@[simp] theorem szl17 : ((17 : Nat) ≤ sizeLine) = True := eq_true (by decide)
@[simp] theorem szl18 : ((18 : Nat) ≤ sizeLine) = True := eq_true (by decide)
@[simp] theorem szl19 : ((19 : Nat) ≤ sizeLine) = True := eq_true (by decide)
@[simp] theorem szl20 : ((20 : Nat) ≤ sizeLine) = True := eq_true (by decide)
@[simp] theorem szl21 : ((21 : Nat) ≤ sizeLine) = True := eq_true (by decide)
@[simp] theorem szl22 : ((22 : Nat) ≤ sizeLine) = True := eq_true (by decide)
@[simp] theorem szl23 : ((23 : Nat) ≤ sizeLine) = True := eq_true (by decide)
@[simp] theorem szl24 : ((24 : Nat) ≤ sizeLine) = True := eq_true (by decide)
@[simp] theorem szl25 : ((25 : Nat) ≤ sizeLine) = True := eq_true (by decide)
@[simp] theorem szl26 : ((26 : Nat) ≤ sizeLine) = True := eq_true (by decide)
@[simp] theorem szl27 : ((27 : Nat) ≤ sizeLine) = True := eq_true (by decide)
@[simp] theorem szl28 : ((28 : Nat) ≤ sizeLine) = True := eq_true (by decide)
@[simp] theorem szl29 : ((29 : Nat) ≤ sizeLine) = True := eq_true (by decide)
@[simp] theorem szl30 : ((30 : Nat) ≤ sizeLine) = True := eq_true (by decide)
@[simp] theorem szl31 : ((31 : Nat) ≤ sizeLine) = True := eq_true (by decide)
@[simp] theorem szl32 : ((32 : Nat) ≤ sizeLine) = True := eq_true (by decide)
@[simp] theorem szl33 : ((33 : Nat) ≤ sizeLine) = True := eq_true (by decide)
@[simp] theorem szl34 : ((34 : Nat) ≤ sizeLine) = True := eq_true (by decide)
@[simp] theorem szl35 : ((35 : Nat) ≤ sizeLine) = True := eq_true (by decide)
@[simp] theorem szl36 : ((36 : Nat) ≤ sizeLine) = True := eq_true (by decide)
@[simp] theorem szl37 : ((37 : Nat) ≤ sizeLine) = True := eq_true (by decide)
@[simp] theorem szl38 : ((38 : Nat) ≤ sizeLine) = True := eq_true (by decide)
@[simp] theorem szl39 : ((39 : Nat) ≤ sizeLine) = True := eq_true (by decide)
@[simp] theorem szl40 : ((40 : Nat) ≤ sizeLine) = True := eq_true (by decide)
@[simp] theorem szl41 : ((41 : Nat) ≤ sizeLine) = True := eq_true (by decide)
@[simp] theorem szl42 : ((42 : Nat) ≤ sizeLine) = True := eq_true (by decide)
@[simp] theorem szl43 : ((43 : Nat) ≤ sizeLine) = True := eq_true (by decide)
@[simp] theorem szl44 : ((44 : Nat) ≤ sizeLine) = True := eq_true (by decide)
@[simp] theorem szl45 : ((45 : Nat) ≤ sizeLine) = True := eq_true (by decide)
@[simp] theorem szl46 : ((46 : Nat) ≤ sizeLine) = True := eq_true (by decide)
@[simp] theorem szl47 : ((47 : Nat) ≤ sizeLine) = True := eq_true (by decide)
@[simp] theorem szl48 : ((48 : Nat) ≤ sizeLine) = True := eq_true (by decide)
@[simp] theorem szl49 : ((49 : Nat) ≤ sizeLine) = True := eq_true (by decide)
@[simp] theorem szl50 : ((50 : Nat) ≤ sizeLine) = True := eq_true (by decide)
@[simp] theorem szl51 : ((51 : Nat) ≤ sizeLine) = True := eq_true (by decide)
@[simp] theorem szl52 : ((52 : Nat) ≤ sizeLine) = True := eq_true (by decide)
@[simp] theorem szl53 : ((53 : Nat) ≤ sizeLine) = True := eq_true (by decide)
@[simp] theorem szl54 : ((54 : Nat) ≤ sizeLine) = True := eq_true (by decide)
@[simp] theorem szl55 : ((55 : Nat) ≤ sizeLine) = True := eq_true (by decide)
@[simp] theorem szl56 : ((56 : Nat) ≤ sizeLine) = True := eq_true (by decide)
@[simp] theorem szl57 : ((57 : Nat) ≤ sizeLine) = True := eq_true (by decide)
@[simp] theorem szl58 : ((58 : Nat) ≤ sizeLine) = True := eq_true (by decide)
@[simp] theorem szl59 : ((59 : Nat) ≤ sizeLine) = True := eq_true (by decide)
@[simp] theorem szl60 : ((60 : Nat) ≤ sizeLine) = True := eq_true (by decide)
@[simp] theorem szl61 : ((61 : Nat) ≤ sizeLine) = True := eq_true (by decide)
@[simp] theorem szl62 : ((62 : Nat) ≤ sizeLine) = True := eq_true (by decide)
@[simp] theorem szl63 : ((63 : Nat) ≤ sizeLine) = True := eq_true (by decide)
@[simp] theorem szl64 : ((64 : Nat) ≤ sizeLine) = True := eq_true (by decide)
@[simp] theorem szl65 : ((65 : Nat) ≤ sizeLine) = True := eq_true (by decide)
@[simp] theorem szl66 : ((66 : Nat) ≤ sizeLine) = True := eq_true (by decide)
@[simp] theorem szl67 : ((67 : Nat) ≤ sizeLine) = True := eq_true (by decide)
@[simp] theorem szl68 : ((68 : Nat) ≤ sizeLine) = True := eq_true (by decide)
@[simp] theorem szl69 : ((69 : Nat) ≤ sizeLine) = True := eq_true (by decide)
theorem forD_nil {t : Tg} {fb : Rho → DE → Prop} {ρ : Rho} {E : DE} : forD t fb [] ρ E = E.nx ρ := rfl
theorem forD_cons {t : Tg} {fb : Rho → DE → Prop} {d : D} {ds : List D} {ρ : Rho} {E : DE} : forD t fb (d :: ds) ρ E = tgD t d ρ fun ρ1 => fb ρ1 { E with nx := fun ρ2 => forD t fb ds ρ2 E, ct := fun ρ2 => forD t fb ds ρ2 E, bk := E.nx } := rfl
/-- a for by a word of what is left to be walked -/
theorem forD_list {t : Tg} {fb : Rho → DE → Prop} {E : DE} (I : List D → Rho → Prop) (hs : ∀ d r ρ (E' : DE), I (d :: r) ρ → (∀ ρ', I r ρ' → E'.nx ρ') → (∀ ρ', I r ρ' → E'.ct ρ') → E'.rt = E.rt → E'.bk = E.nx → tgD t d ρ fun ρ1 => fb ρ1 E')
    (hd : ∀ ρ, I [] ρ → E.nx ρ) : ∀ (ds : List D) (ρ : Rho), I ds ρ → forD t fb ds ρ E
  | [], ρ, h => hd ρ h
  | d :: r, ρ, h => hs d r ρ _ h (fun ρ' h' => forD_list I hs hd r ρ' h') (fun ρ' h' => forD_list I hs hd r ρ' h') rfl rfl
theorem compD_list {vs : List Nat} {t : Tg} {ft : Rho → (Bool → Rho → Prop) → Prop} {fe : Rho → KR → Prop} {K : List D → Rho → Prop} (I : List D → List D → Rho → Prop)
    (hs : ∀ d r acc ρ (Q : List D → Rho → Prop), I (d :: r) acc ρ → (∀ acc' ρ', I r acc' ρ' → Q acc' ρ') → tgD t d ρ fun ρ1 => ft ρ1 fun b ρ2 =>
      if b = true then fe ρ2 fun r ρ3 => frz ρ3 r fun x ρ4 => acc.length < sizeLine ∧ vs.all (notOw ρ4) = true ∧ Q (acc ++ [x]) (wipeR ρ4 vs) else vs.all (notOw ρ2) = true ∧ Q acc (wipeR ρ2 vs))
    (hd : ∀ acc ρ, I [] acc ρ → K acc ρ) : ∀ (ds acc : List D) (ρ : Rho), I ds acc ρ → compD vs t ft fe ds acc ρ K
  | [], acc, ρ, h => hd acc ρ h
  | d :: r, acc, ρ, h => hs d r acc ρ _ h fun acc' ρ' h' => compD_list I hs hd r acc' ρ' h'
@[simp] theorem tgIn_nm {vs : List Nat} {i : Nat} : tgIn vs (.nm i) = vs.contains i := rfl
@[simp] theorem wipeR_nil {ρ : Rho} : wipeR ρ [] = ρ := rfl
@[simp] theorem wipeR_cons {ρ : Rho} {i : Nat} {r : List Nat} : wipeR ρ (i :: r) = (wipeR ρ r).set i .no := rfl
@[simp] theorem unwipe_nil {ρ ρ2 : Rho} : unwipe ρ ρ2 [] = ρ2 := rfl
@[simp] theorem unwipe_cons {ρ ρ2 : Rho} {i : Nat} {r : List Nat} : unwipe ρ ρ2 (i :: r) = (unwipe ρ ρ2 r).set i (ρ.getD i .no) := rfl
/-- an expression's result held in a frame: frz over what a comprehension's element gives -/
@[simp ↓] theorem zfrz_v {ρ : Rho} {d : D} {K : D → Rho → Prop} : frz ρ (.v d) K = K d ρ := rfl
@[simp ↓] theorem zfrz_n {ρ : Rho} {xs : List D} {K : D → Rho → Prop} : frz ρ (.n xs) K = K (.lst xs) ρ := rfl
theorem map_cons_inv {α : Type} {f : α → D} {d : D} {r : List D} {l : List α} (h : d :: r = l.map f) : ∃ a l', l = a :: l' ∧ d = f a ∧ r = l'.map f := by
  cases l with
  | nil => cases h
  | cons a l' => injection h with h1 h2; exact ⟨a, l', rfl, h1, h2⟩
theorem map_nil_inv {α : Type} {f : α → D} {l : List α} (h : [] = l.map f) : l = [] := by
  cases l with
  | nil => rfl
  | cons a l' => cases h
theorem bigM_r {i j : Int} (h1 : -(2 ^ 64) < j) (h2 : j < 2 ^ 64) : BigM i j := .inl (.inr ⟨h1, h2⟩)
theorem bigM_l {i j : Int} (h1 : -(2 ^ 64) < i) (h2 : i < 2 ^ 64) : BigM i j := .inl (.inl ⟨h1, h2⟩)
theorem sz (n : Nat) (h : n ≤ 1000) : n ≤ sizeLine := Nat.le_trans h (by decide)
theorem cut_map {α : Type} (f : α → D) (xs : List α) (lo hi : Option Int) : ∃ ys : List α, cutD (xs.map f) lo hi = ys.map f := by
  unfold cutD
  rw [List.length_map, ← List.map_drop, ← List.map_take]
  exact ⟨_, rfl⟩
end DL

/-! EB: the bag of numbers that every law draws from: what _law_bag, _law_pull, _law_of keep. -/
namespace DL
open PySem L2
/-- _law_bag(_law_script) -/
def N_law_bag : List Str := ["_law_script", "_law_seed", "_law_cell"]
def P_law_bag : List Str := ["_law_script"]
def b_law_bag : Ss := .cons (.set 1 (.int 37)) (
  .cons (.for (.nm 2) (.seq (.sl (.var 0) .no (.so (.int 63)))) (.cons (.set 1 (.bin .mod (.bin .add (.bin .add (.bin .mul (.var 1) (.int 65539)) (.var 2)) (.int 11)) (.int 2147483629))) .nil)) (
  .cons (.ret (.lst (.cons (.bi .list (.cons (.sl (.var 0) .no (.so (.int 63))) .nil)) (.cons (.int 0) (.cons (.int 0) (.cons (.var 1) (.cons (.int 0) .nil))))))) .nil))
/-- _law_pull(_law_bag_here, _law_many) -/
def N_law_pull : List Str := ["_law_bag_here", "_law_many", "_law_rest", "_law_cell", "_law_one", "_law_two"]
def P_law_pull : List Str := ["_law_bag_here", "_law_many"]
def b_law_pull : Ss := .cons (.augi 0 (.int 4) (.int 1)) (
  .cons (.ife (.cmp .gt (.ix (.var 0) (.int 2)) (.int 0)) (.cons (.set 2 (.ix (.var 0) (.int 2))) (
    .cons (.seti 0 (.int 2) (.bin .fdiv (.var 2) (.var 1))) (
    .cons (.ret (.bin .mod (.var 2) (.var 1))) .nil))) (.nil)) (
  .cons (.set 3 (.ix (.var 0) (.int 3))) (
  .cons (.ife (.cmp .lt (.ix (.var 0) (.int 1)) (.bi .len (.cons (.ix (.var 0) (.int 0)) .nil))) (.cons (.set 3 (.ix (.ix (.var 0) (.int 0)) (.ix (.var 0) (.int 1)))) (
    .cons (.augi 0 (.int 1) (.int 1)) .nil)) (.nil)) (
  .cons (.ife (.cmp .ge (.var 3) (.bin .pow (.int 10) (.int 18))) (.cons (.seti 0 (.int 2) (.bin .fdiv (.var 3) (.var 1))) (
    .cons (.ret (.bin .mod (.var 3) (.var 1))) .nil)) (.nil)) (
  .cons (.set 4 (.bin .mod (.bin .add (.bin .add (.bin .add (.bin .mul (.var 3) (.int 48271)) (.bin .mul (.ix (.var 0) (.int 3)) (.int 40503))) (.bin .mul (.ix (.var 0) (.int 4)) (.int 69621))) (.int 9176)) (.int 2147483629))) (
  .cons (.set 5 (.bin .mod (.bin .add (.bin .add (.bin .mul (.var 4) (.bin .add (.bin .mod (.var 4) (.int 65521)) (.int 13))) (.bin .mul (.ix (.var 0) (.int 4)) (.int 40692))) (.bin .mod (.ix (.var 0) (.int 3)) (.int 104729))) (.int 998244353))) (
  .cons (.seti 0 (.int 3) (.bin .mod (.bin .add (.bin .mul (.ix (.var 0) (.int 3)) (.int 16807)) (.var 5)) (.int 2147483563))) (
  .cons (.ret (.bin .mod (.bin .fdiv (.var 5) (.int 7)) (.var 1))) .nil))))))))
/-- _law_of(_law_bag_here, _law_some) -/
def N_law_of : List Str := ["_law_bag_here", "_law_some"]
def P_law_of : List Str := ["_law_bag_here", "_law_some"]
def b_law_of : Ss := .cons (.ret (.ix (.var 1) (.callm 1 0 (.cons (.bi .len (.cons (.var 1) .nil)) .nil)))) .nil
def BagOk (bag : List D) : Prop := ∃ (ns : List Int) (i rest seed cnt : Int), bag = [.lst (ns.map D.int), .int i, .int rest, .int seed, .int cnt] ∧ 0 ≤ i
def ct_law_bag : Ct := ⟨false, 1, fun _ _ a K => ∃ ns : List Int, a = [.scr ns] ∧ ∀ bag, BagOk bag → K (.n bag) []⟩
def ct_law_pull : Ct := ⟨true, 1, fun _ bag a K => ∃ many : Int, a = [.int many] ∧ (0 < many ∧ many < 2 ^ 127) ∧ BagOk bag ∧ ∀ r bag', 0 ≤ r → r < many → BagOk bag' → K (.d (.int r)) bag'⟩
def ct_law_of : Ct := ⟨true, 1, fun _ bag a K => ∃ xs : List D, (a = [.lst xs] ∨ a = [.tup xs]) ∧ (0 < xs.length ∧ xs.length < 2 ^ 24) ∧ BagOk bag ∧ ∀ x bag', x ∈ xs → BagOk bag' → K (.d x) bag'⟩
def f_bag : List FnE := [⟨"_law_bag", ct_law_bag, []⟩]
def f_pull : List FnE := f_bag ++ [⟨"_law_pull", ct_law_pull, []⟩]
def f_of : List FnE := f_pull ++ [⟨"_law_of", ct_law_of, []⟩]
section
variable {S : Sg}
theorem h_law_bag (Xd : Xn → List D → Prop) (bag args : List D) (Kd : Res → List D → Prop) (hn : args.length = ct_law_bag.n) (h : ct_law_bag.sem Xd bag args Kd) :
      iSs S (fun xn ρ => Xd xn (bagOf ct_law_bag.m ρ)) b_law_bag (start0 ct_law_bag.m bag args (N_law_bag.length - P_law_bag.length)) { nx := fun ρ => finR ct_law_bag.m Kd (.v .non) ρ, rt := finR ct_law_bag.m Kd } := by
  obtain ⟨ns, rfl, h⟩ := h
  obtain ⟨ys, hy⟩ := cut_map D.int ns none (some 63)
  simp [b_law_bag, N_law_bag, P_law_bag, ct_law_bag, hy]
  refine forD_list (fun r ρ => ∃ (l : List Int) (seed : Int) (s : Sl), r = l.map D.int ∧ opS s = true ∧ ρ = [Sl.fz (D.scr ns), .fz (.int seed), s]) ?_ ?_ _ _ ⟨ys, 37, .no, rfl, rfl, rfl⟩
  · rintro d r ρ E' ⟨l, seed, s, e, hs, rfl⟩ hn hc hr hb
    obtain ⟨y, l', rfl, rfl, rfl⟩ := map_cons_inv e
    simp [hs, bigM_r]
    exact hn _ ⟨l', _, _, rfl, rfl, rfl⟩
  · rintro ρ ⟨l, seed, s, e, hs, rfl⟩
    simp [hy]
    exact h _ ⟨ys, 0, 0, _, 0, rfl, Int.le_refl _⟩
theorem cl_law_bag {ns : List Int} {X : Xn → Prop} {K : R → Prop} (h : ∀ bag, BagOk bag → K (.n bag)) : clK ct_law_bag [.scr ns] X K := ⟨rfl, ns, rfl, h⟩
theorem clM_pull {bag : List D} {X : Xn → List D → Prop} {K : R → List D → Prop} {many : Int} (h0 : 0 < many) (h1 : many < 2 ^ 127) (hb : BagOk bag) : clM ct_law_pull bag [.int many] X K = ∀ r bag', 0 ≤ r → r < many → BagOk bag' → K (.v (.int r)) bag' := by
  apply propext
  unfold clM ct_law_pull
  constructor
  · rintro ⟨_, m, e, hm, _, h⟩ r bag' h2 h3 h4
    cases e
    exact h r bag' h2 h3 h4
  · intro h
    exact ⟨rfl, many, rfl, ⟨h0, h1⟩, hb, h⟩
theorem h_law_pull (Xd : Xn → List D → Prop) (bag args : List D) (Kd : Res → List D → Prop) (hn : args.length = ct_law_pull.n) (h : ct_law_pull.sem Xd bag args Kd) :
      iSs S (fun xn ρ => Xd xn (bagOf ct_law_pull.m ρ)) b_law_pull (start0 ct_law_pull.m bag args (N_law_pull.length - P_law_pull.length)) { nx := fun ρ => finR ct_law_pull.m Kd (.v .non) ρ, rt := finR ct_law_pull.m Kd } := by
  obtain ⟨many, rfl, ⟨h0, h1⟩, ⟨ns, i, rest, seed, cnt, rfl, hi⟩, h⟩ := h
  simp [b_law_pull, N_law_pull, P_law_pull, ct_law_pull]
  have cp : CPow 10 18 := ⟨by decide, by decide, by decide⟩
  have bg : ∀ x y : Int, BigM (x % 2147483629) (x % 2147483629 % 65521 + 13) := fun x _ => bigM_r (by have := Int.emod_nonneg (x % 2147483629) (show (65521 : Int) ≠ 0 by decide); omega) (by have := Int.emod_lt_of_pos (x % 2147483629) (show (0 : Int) < 65521 by decide); omega)
  have nn : ∀ x : Int, 0 ≤ x % many := fun x => Int.emod_nonneg _ (by omega)
  have lt : ∀ x : Int, x % many < many := fun x => Int.emod_lt_of_pos _ h0
  split
  · exact ⟨⟨h0, by omega⟩, h0, h _ _ (nn _) (lt _) ⟨ns, i, _, seed, _, rfl, hi⟩⟩
  · split
    · rename_i hl
      obtain ⟨y, hy, _⟩ := at_in ns hi hl
      have hy' : atI (ns.map D.int) i = some (D.int y) := by rw [at_map, hy]; rfl
      simp [hy', cp, bg, bigM_r]
      split
      · exact ⟨⟨h0, by omega⟩, h0, h _ _ (nn _) (lt _) ⟨ns, i + 1, _, seed, _, rfl, by omega⟩⟩
      · exact ⟨bg _ 0, h0, h _ _ (nn _) (lt _) ⟨ns, i + 1, _, _, _, rfl, by omega⟩⟩
    · simp [cp, bg, bigM_r]
      split
      · exact ⟨⟨h0, by omega⟩, h0, h _ _ (nn _) (lt _) ⟨ns, i, _, seed, _, rfl, by omega⟩⟩
      · exact ⟨bg _ 0, h0, h _ _ (nn _) (lt _) ⟨ns, i, _, _, _, rfl, by omega⟩⟩
theorem clM_of {bag ds : List D} {X : Xn → List D → Prop} {K : R → List D → Prop} {xs : List D} (h0 : 0 < xs.length) (h1 : xs.length < 2 ^ 24) (hb : BagOk bag) (hd : ds = [.lst xs] ∨ ds = [.tup xs]) (h : ∀ x bag', x ∈ xs → BagOk bag' → K (.v x) bag') : clM ct_law_of bag ds X K :=
  ⟨by rcases hd with rfl | rfl <;> rfl, xs, hd, ⟨h0, h1⟩, hb, h⟩
theorem h_law_of (hp : S.fs[1]? = some ⟨"_law_pull", ct_law_pull, []⟩) (Xd : Xn → List D → Prop) (bag args : List D) (Kd : Res → List D → Prop) (hn : args.length = ct_law_of.n) (h : ct_law_of.sem Xd bag args Kd) :
      iSs S (fun xn ρ => Xd xn (bagOf ct_law_of.m ρ)) b_law_of (start0 ct_law_of.m bag args (N_law_of.length - P_law_of.length)) { nx := fun ρ => finR ct_law_of.m Kd (.v .non) ρ, rt := finR ct_law_of.m Kd } := by
  obtain ⟨xs, hx, ⟨h0, h1⟩, hb, h⟩ := h
  rcases hx with rfl | rfl <;>
  · simp [↓ ze_callmh hp rfl, ↓ clM_pull (show (0 : Int) < (xs.length : Int) by omega) (show (xs.length : Int) < 2 ^ 127 by omega) hb, b_law_of, N_law_of, P_law_of, ct_law_of]
    intro r bag' h2 h3 h4
    obtain ⟨x, e, hx⟩ := at_in xs h2 h3
    simp [e]
    exact h x bag' hx h4
end
end DL

/-! ES: _law_same, for two that are alike: it calls itself, so its contract goes by depth. -/
namespace DL
open PySem L2
/-- _law_same(_law_found, _law_due) -/
def N_law_same : List Str := ["_law_found", "_law_due", "_law_a", "_law_b"]
def P_law_same : List Str := ["_law_found", "_law_due"]
def b_law_same (f : Nat) : Ss := .cons (.ife (.isi false (.var 1) [.list, .tuple]) (.cons (.ife (.or (.cmp .ne (.isi true (.var 0) [.list]) (.isi true (.var 1) [.list])) (.one (.cmp .ne (.isi true (.var 0) [.tuple]) (.isi true (.var 1) [.tuple])))) (.cons (.ret (.bl false)) .nil) (.nil)) (
    .cons (.ret (.and (.cmp .eq (.bi .len (.cons (.var 0) .nil)) (.bi .len (.cons (.var 1) .nil))) (.one (.bi .all (.cons (.comp [("_law_a", 2), ("_law_b", 3)] (.tp (.cons (.nm 2) (.cons (.nm 3) .nil))) (.zip (.var 0) (.var 1)) .nil (.call f (.cons (.var 2) (.cons (.var 3) .nil)))) .nil))))) .nil)) (.nil)) (
  .cons (.ife (.or (.cmp .is (.var 1) .non) (.one (.cmp .is (.var 0) .non))) (.cons (.ret (.and (.cmp .is (.var 0) .non) (.one (.cmp .is (.var 1) .non)))) .nil) (.nil)) (
  .cons (.ife (.or (.cmp .ne (.isi true (.var 0) [.bool]) (.isi true (.var 1) [.bool])) (.one (.cmp .ne (.isi true (.var 0) [.int]) (.isi true (.var 1) [.int])))) (.cons (.ret (.bl false)) .nil) (.nil)) (
  .cons (.ret (.and (.cmp .eq (.isi true (.var 0) [.str]) (.isi true (.var 1) [.str])) (.one (.cmp .eq (.var 0) (.var 1))))) .nil)))
/-- data that may be looked through to the depth n -/
def okD : Nat → D → Bool
  | _, .non => true
  | _, .bl _ => true
  | _, .int _ => true
  | _, .str _ => true
  | n + 1, .tup xs => decide (xs.length ≤ sizeLine) && xs.all (okD n)
  | n + 1, .lst xs => decide (xs.length ≤ sizeLine) && xs.all (okD n)
  | _, _ => false
def ct_same (n : Nat) : Ct := ⟨false, 2, fun _ _ a K => ∃ d, a = [d, d] ∧ okD n d = true ∧ K (.d (.bl true)) []⟩
theorem cl_same {n : Nat} {d : D} {X : Xn → Prop} {K : R → Prop} (h : okD n d = true) : clK (ct_same n) [d, d] X K = K (.v (.bl true)) :=
  propext ⟨fun ⟨_, _, _, _, h⟩ => h, fun q => ⟨rfl, d, rfl, h, q⟩⟩
theorem tcl_same {n : Nat} {d : D} {X : Xn → Prop} {K : Bool → Prop} (h : okD n d = true) : tclK (ct_same n) [d, d] X K = K true :=
  propext ⟨fun ⟨_, _, _, _, h⟩ => h, fun q => ⟨rfl, d, rfl, h, q⟩⟩
/-- == of a thing with itself -/
theorem eqD_self {d : D} {K : Bool → Prop} (h1 : bare d = true) (h2 : SeqAt.shaped (py d) = true) (h3 : PyData.eqv (py d) (py d) = true) : eqD d d K = K true := by
  cases d <;> first
    | (simp only [eqD, decide_true]; done)
    | (unfold eqD; apply propext; constructor; (intro h; have h := h.2; rw [h3] at h; exact h); (intro h; exact ⟨⟨h1, h1, h2, h2⟩, by rw [h3]; exact h⟩))
/-- data that may be compared with itself -/
def okE : Nat → D → Bool
  | _, .non => true
  | _, .bl _ => true
  | _, .int _ => true
  | _, .str s => PyData.strOk s
  | n + 1, .tup xs => xs.all (okE n)
  | n + 1, .lst xs => xs.all (okE n)
  | _, _ => false
def okEs (n : Nat) (xs : List D) : Prop := bares xs = true ∧ PyData.canLayAll0 (pys xs) = true ∧ PyData.depthAll (pys xs) ≤ n ∧ PyData.eqvAll (pys xs) (pys xs) = true
theorem okEs_of {n : Nat} (h : ∀ d, okE n d = true → bare d = true ∧ PyData.canLay0 (py d) = true ∧ PyData.depth (py d) ≤ n ∧ PyData.eqv (py d) (py d) = true) : ∀ xs : List D, xs.all (okE n) = true → okEs n xs
  | [], _ => ⟨rfl, rfl, by simp [pys, PyData.depthAll], rfl⟩
  | x :: xs, q => by
    rw [List.all_cons, Bool.and_eq_true] at q
    obtain ⟨a1, a2, a3, a4⟩ := h x q.1
    obtain ⟨b1, b2, b3, b4⟩ := okEs_of h xs q.2
    refine ⟨by simp only [bares, a1, b1, Bool.and_self], by simp only [pys, PyData.canLayAll0, a2, b2, Bool.and_self], by simp only [pys, PyData.depthAll]; omega, by simp only [pys, PyData.eqvAll, a4, b4, Bool.and_self]⟩
theorem okE_of : ∀ (n : Nat) (d : D), okE n d = true → bare d = true ∧ PyData.canLay0 (py d) = true ∧ PyData.depth (py d) ≤ n ∧ PyData.eqv (py d) (py d) = true
  | n, .non, _ => ⟨rfl, rfl, by simp [py, PyData.depth], rfl⟩
  | n, .bl b, _ => ⟨rfl, rfl, by simp [py, PyData.depth], by simp [py, PyData.eqv]⟩
  | n, .int b, _ => ⟨rfl, rfl, by simp [py, PyData.depth], by simp [py, PyData.eqv]⟩
  | n, .str b, h => ⟨rfl, by simpa [okE, py, PyData.canLay0] using h, by simp [py, PyData.depth], by simp [py, PyData.eqv]⟩
  | n + 1, .tup xs, h => by
    obtain ⟨b1, b2, b3, b4⟩ := okEs_of (okE_of n) xs (by simpa only [okE] using h)
    exact ⟨by simpa only [bare] using b1, by simpa only [py, PyData.canLay0] using b2, by simp only [py, PyData.depth]; omega, by simpa only [py, PyData.eqv] using b4⟩
  | n + 1, .lst xs, h => by
    obtain ⟨b1, b2, b3, b4⟩ := okEs_of (okE_of n) xs (by simpa only [okE] using h)
    exact ⟨by simpa only [bare] using b1, by simpa only [py, PyData.canLay0] using b2, by simp only [py, PyData.depth]; omega, by simpa only [py, PyData.eqv] using b4⟩
  | 0, .tup _, h => by simp [okE] at h
  | 0, .lst _, h => by simp [okE] at h
  | _, .obj _ _, h => by simp [okE] at h
  | _, .kd _, h => by simp [okE] at h
  | _, .scr _, h => by simp [okE] at h
theorem eqD_ok {n : Nat} {d : D} {K : Bool → Prop} (hn : n ≤ 64) (h : okE n d = true) : eqD d d K = K true := by
  obtain ⟨h1, h2, h3, h4⟩ := okE_of n d h
  exact eqD_self h1 (by unfold SeqAt.shaped; rw [h2]; simpa using Nat.le_trans h3 hn) h4
section
variable {S : Sg} {f n : Nat}
/-- the comprehension's turn -/
theorem same_comp (h : S.fs[f]? = some ⟨"_law_same", ct_same n, []⟩) {xp : XP} {s0 s1 : Sl} {K : List D → Rho → Prop} (xs : List D) (hz : xs.length ≤ sizeLine) (hx : xs.all (okD n) = true)
    (k : ∀ m, K ((List.replicate m true).map D.bl) [s0, s1, .no, .no]) : compD [2, 3] (.tp (.cons (.nm 2) (.cons (.nm 3) .nil))) (iTs S xp .nil) (iE S xp (.call f (.cons (.var 2) (.cons (.var 3) .nil)))) (xs.map fun x => D.tup [x, x]) [] [s0, s1, .no, .no] K := by
  refine compD_list (fun r acc ρ => ∃ (l : List D) (m : Nat), r = l.map (fun x => D.tup [x, x]) ∧ l.all (okD n) = true ∧ m + l.length ≤ sizeLine ∧ acc = (List.replicate m true).map D.bl ∧ ρ = [s0, s1, .no, .no]) ?_ ?_ _ _ _ ⟨xs, 0, rfl, hx, by omega, rfl, rfl⟩
  · rintro d r acc ρ Q ⟨l, m, e, hl, hm, rfl, rfl⟩ hQ
    obtain ⟨y, l', rfl, rfl, rfl⟩ := map_cons_inv e
    rw [List.all_cons, Bool.and_eq_true] at hl
    simp [↓ ze_callh h rfl, ↓ cl_same hl.1]
    simp at hm
    exact ⟨by omega, hQ _ _ ⟨l', m + 1, rfl, hl.2, by omega, by simp [List.replicate_succ'], rfl⟩⟩
  · rintro acc ρ ⟨l, m, e, hl, hm, rfl, rfl⟩
    exact k m
theorem h_law_same (h : S.fs[f]? = some ⟨"_law_same", ct_same n, []⟩) (Xd : Xn → List D → Prop) (bag args : List D) (Kd : Res → List D → Prop) (hn : args.length = (ct_same (n + 1)).n) (hs : (ct_same (n + 1)).sem Xd bag args Kd) :
      iSs S (fun xn ρ => Xd xn (bagOf (ct_same (n + 1)).m ρ)) (b_law_same f) (start0 (ct_same (n + 1)).m bag args (N_law_same.length - P_law_same.length)) { nx := fun ρ => finR (ct_same (n + 1)).m Kd (.v .non) ρ, rt := finR (ct_same (n + 1)).m Kd } := by
  obtain ⟨d, rfl, ho, k⟩ := hs
  cases d with
  | non => simp [b_law_same, N_law_same, P_law_same, ct_same, Ty.sub, isNone, k]
  | bl b => simp [b_law_same, N_law_same, P_law_same, ct_same, Ty.sub, isNone, k]
  | int b => simp [b_law_same, N_law_same, P_law_same, ct_same, Ty.sub, isNone, k]
  | str b => simp [b_law_same, N_law_same, P_law_same, ct_same, Ty.sub, isNone, k]
  | tup xs =>
    simp only [okD, Bool.and_eq_true, decide_eq_true_eq] at ho
    simp [b_law_same, N_law_same, P_law_same, ct_same, Ty.sub, isNone]
    exact ⟨rfl, same_comp h xs ho.1 ho.2 fun m => ⟨List.replicate m true, rfl, by simpa using k⟩⟩
  | lst xs =>
    simp only [okD, Bool.and_eq_true, decide_eq_true_eq] at ho
    simp [b_law_same, N_law_same, P_law_same, ct_same, Ty.sub, isNone]
    exact ⟨rfl, same_comp h xs ho.1 ho.2 fun m => ⟨List.replicate m true, rfl, by simpa using k⟩⟩
  | _ => simp [okD] at ho
theorem h_law_same0 (Xd : Xn → List D → Prop) (bag args : List D) (Kd : Res → List D → Prop) (hn : args.length = (ct_same 0).n) (hs : (ct_same 0).sem Xd bag args Kd) :
      iSs S (fun xn ρ => Xd xn (bagOf (ct_same 0).m ρ)) (b_law_same f) (start0 (ct_same 0).m bag args (N_law_same.length - P_law_same.length)) { nx := fun ρ => finR (ct_same 0).m Kd (.v .non) ρ, rt := finR (ct_same 0).m Kd } := by
  obtain ⟨d, rfl, ho, k⟩ := hs
  cases d with
  | non => simp [b_law_same, N_law_same, P_law_same, ct_same, Ty.sub, isNone, k]
  | bl b => simp [b_law_same, N_law_same, P_law_same, ct_same, Ty.sub, isNone, k]
  | int b => simp [b_law_same, N_law_same, P_law_same, ct_same, Ty.sub, isNone, k]
  | str b => simp [b_law_same, N_law_same, P_law_same, ct_same, Ty.sub, isNone, k]
  | _ => simp [okD] at ho
end
end DL

/-! DH: iterators that end, tuples that are taken apart, comprehensions, while an exception is handled. -/
namespace DH
open PySem PySem.Spec PyProof.Rows HotX

section
variable {prog : Program} {w : World} {A : Around} {E : Value → Shared → Prop} {s : Shared} {x1 : Addr}
theorem hot_in1 {h : Heap} (c : HotAt A x1 h) : HotAt A.in1 x1 h := ⟨c.1, c.2⟩
theorem hot_keep {h h' : Heap} (c : HotAt A x1 h) (k : ∀ o, h.get? x1 = some o → h'.get? x1 = some o) : HotAt A x1 h' := by
  obtain ⟨a, o, vs, b, d, e⟩ := c
  exact ⟨a, o, vs, k o b, d, e⟩
/-- a StopIteration that is made and raised -/
theorem stop_hot {α : Type} {Q : α → Shared → Prop} (hot : HotAt A x1 s.heap)
    (hE : ∀ h' e, (∀ b o, s.heap.get? b = some o → h'.get? b = some o) → (∃ o, h'.get? e = some o ∧ o.cls = .type "StopIteration") → E (.ref e) { s with heap := h' }) :
    wpAny (model prog w) A (newExc (.type "StopIteration") [] >>= fun e => (raiseNew e : Sem α)) Q E s := by
  obtain ⟨hh, o1, vs1, h1, d1, c1⟩ := hot
  refine wpAny_bind ?_
  unfold newExc newTuple
  refine wpAny_bind (wpAny_newObj_type (wpAny_bind (m := firstArgMember _ _) (wpAny_of_eq (a := Value.none) (by first | rfl | (simp only [firstArgMember]; rfl)) (wpAny_newObj_type ?_ (by size_fits)))) (by size_fits))
  have up : ∀ {u v : Obj} {b : Addr} {o : Obj}, s.heap.get? b = some o → ((s.heap.push u).push v).get? b = some o := fun e => Heap.get?_push_of_some _ (Heap.get?_push_of_some _ e)
  refine raiseNew_hot ⟨hh, o1, vs1, up h1, d1, c1⟩ (Nat.ne_of_lt (Heap.lt_size (Heap.get?_push_of_some _ h1))) (Heap.get?_push_size _ rfl) rfl (by first | (simp; done) | (simp; omega) | (simp only [Array.size_append]; simp; omega)) ?_
  refine hE _ _ (fun b o e => ?_) ⟨_, Heap.get?_update_self _ (Heap.get?_push_size _ rfl) rfl, rfl⟩
  rw [Heap.get?_update_other _ _ (Nat.ne_of_gt (Heap.lt_size (Heap.get?_push_of_some _ e)))]
  exact up e
theorem hot_ne {it : Addr} {o : Obj} {a b : Value} (hot : HotAt A x1 s.heap) (ho : s.heap.get? it = some o) (hd : o.data = .fields #[a, b]) : x1 ≠ it := fun z => by
  obtain ⟨_, o1, vs1, h1, d1, c1⟩ := hot
  rw [z, ho] at h1
  cases h1
  rw [hd] at d1
  cases d1
  simp at c1
/-- a list's iterator at its end, asked from within -/
theorem nextOf_end {it l : Addr} {i : Nat} {items : Array Value} {Q : Value → Shared → Prop} (hot : HotAt A x1 s.heap) (hit : s.heap.IsListIter it l i) (hl : s.heap.IsList l items) (hx : items[i]? = none)
    (hE : ∀ h' e, Heap.ExtBut it s.heap h' → (∃ o, h'.get? e = some o ∧ o.cls = .type "StopIteration") → E (.ref e) { s with heap := h' }) : wpAny (model prog w) A (Builtin.SmallTypes.nextOf (.ref it)) Q E s := by
  obtain ⟨oi, gi, ci, di⟩ := id hit
  obtain ⟨ol, gl, _, nl, dl⟩ := hl
  have hne := hot_ne hot gi di
  unfold Builtin.SmallTypes.nextOf
  refine wpAny_bind (wpAny_callSpecial?_slot (name := Str.ofString "__next__") hit.typeIs slot_listiter_next (wpAny_call_entry slot_listiter_next hit.typeIs entry_listiter_next ?_ (args_listiter_next _)))
  refine wpAny_bind (m := field (.ref it) 0) (wpAny_field gi di (x := .ref l) rfl ?_)
  have nn : ¬ ((Value.ref l == Value.none) = true) := Bool.false_ne_true
  show wpAny _ _ (if (Value.ref l == Value.none) = true then _ else _) _ _ _
  rw [if_neg nn]
  refine wpAny_bind (m := field (.ref it) 1) (wpAny_field gi di (x := .int i 0) rfl ?_)
  refine wpAny_bind (m := seqItems? (.ref l)) (wpAny_seqItems gl dl ?_)
  simp only [Int.toNat_natCast, hx]
  refine wpAny_bind (wpAny_rule (wpAny_bind (wpAny_setField gi di (by simp) ?_)))
  show wpAny _ _ (newExc (.type "StopIteration") [] >>= fun e => raiseNew e) _ _ _
  have sb : Heap.SameBut it s.heap (s.heap.update it (Obj.mapFields fun x => x.setIfInBounds 0 Value.none)) := Heap.SameBut.update ..
  refine stop_hot (hot_in1 (hot_keep hot fun o e => sb.extBut _ _ hne e)) fun h' e k he => ?_
  exact hE h' e (fun b o hb z => k b o (sb.extBut _ _ hb z)) he
theorem hot_other {b : Addr} {o : Obj} (hot : HotAt A x1 s.heap) (ho : s.heap.get? b = some o) (hd : ∀ vs, o.data = .fields vs → vs[2]? ≠ some .none) : x1 ≠ b := fun z => by
  obtain ⟨_, o1, vs1, h1, d1, c1⟩ := hot
  rw [z, ho] at h1
  cases h1
  exact hd vs1 d1 c1
/-- zip of two lists, one at its end -/
theorem zip_end {z TI TO i1 i2 l1 l2 : Addr} {k1 k2 : Nat} {xs ys : Array Value} {a b : Value} {Q : Fin → Shared → Prop} (hot : HotAt A x1 s.heap) (D : ZipApart z TI TO i1 i2 l1 l2) (hz : IsZip s.heap z TI TO .none) (hI : IsPair s.heap TI (.ref i1) (.ref i2)) (hO : IsPair s.heap TO a b)
    (j1 : s.heap.IsListIter i1 l1 k1) (j2 : s.heap.IsListIter i2 l2 k2) (m1 : s.heap.IsList l1 xs) (m2 : s.heap.IsList l2 ys) (hend : xs[k1]? = none ∨ ys[k2]? = none)
    (hE : ∀ h' e, (∀ c o, c ≠ z → c ≠ TO → c ≠ i1 → c ≠ i2 → s.heap.get? c = some o → h'.get? c = some o) → (∃ o, h'.get? e = some o ∧ o.cls = .type "StopIteration") → E (.ref e) { s with heap := h' }) :
    wpAny (model prog w) A (Builtin.«zip.__next__» ⟨[.ref z], []⟩) Q E s := by
  have nz : x1 ≠ z := hot_other hot hz fun vs e => by cases e; simp
  have nO : x1 ≠ TO := hot_other hot hO fun vs e => by cases e
  have n1 : x1 ≠ i1 := by obtain ⟨_, g, _, d⟩ := j1; exact hot_ne hot g d
  refine wpAny_bind (m := field (.ref z) 2) (wpAny_field hz rfl (x := .bool false) rfl ?_)
  refine wpAny_bind (m := field (.ref z) 3) (wpAny_field hz rfl (x := .ref TI) rfl (wpAny_bind (wpAny_seqItems hI rfl ?_)))
  refine wpAny_bind (m := Builtin.SmallTypes.ownedTupleIsFree (.ref z)) ?_
  unfold Builtin.SmallTypes.ownedTupleIsFree
  refine wpAny_bind (wpAny_field hz rfl (x := .none) rfl (wpAny_pure ?_))
  simp only [if_true]
  refine wpAny_bind (wpAny_rule (wpAny_bind (wpAny_field hz rfl (x := .ref TO) rfl (wpAny_bind (wpAny_setField_rec hz (by simp) fun g1 z1 u1 => ?_)))))
  replace z1 : IsZip g1 z TI TO .ellipsis := z1
  have hot1 : HotAt A x1 g1 := hot_keep hot fun o e => u1.extBut _ _ nz e
  refine wpAny_bind ?_
  simp only [List.zipIdx_cons, List.zipIdx_nil, List.forIn_cons, List.forIn_nil]
  refine wpAny_bind (wpAny_bind (wpAny_onRaise (wpAny_bind (m := Builtin.SmallTypes.nextOf (.ref i1)) ?_)))
  have a1 := j1.extBut u1.extBut D.i1z
  have b1 := m1.extBut u1.extBut D.l1z
  cases hx : xs[k1]? with
  | none =>
    refine nextOf_end (s := { s with heap := g1 }) hot1 a1 b1 hx fun g2 e u2 ⟨oe, he, ce⟩ => ?_
    have z2 : IsZip g2 z TI TO .ellipsis := u2 _ _ D.i1z.symm z1
    have ne : e ≠ z := fun q => by subst q; rw [z2] at he; cases he; simp at ce
    exact wpAny_setField_rec z2 (by simp) fun g3 _ u3 => hE g3 e (fun c o c1 _ c3 _ q => u3.extBut _ _ c1 (u2 _ _ c3 (u1.extBut _ _ c1 q))) ⟨oe, u3.extBut _ _ ne he, ce⟩
  | some x =>
    have hy : ys[k2]? = none := hend.resolve_left fun q => by rw [hx] at q; cases q
    refine wpAny_nextOf_list_item a1 b1 hx fun g2 _ u2 => wpAny_pure ?_
    have O2 : IsPair g2 TO a b := u2.extBut _ _ D.TOi1 (u1.extBut _ _ D.TOz hO)
    refine wpAny_bind (wpAny_seqItems O2 rfl (wpAny_bind (wpAny_updateSeq_pair O2 fun g3 _ u3 => wpAny_bind (wpAny_letGo (wpAny_pure ?_)))))
    refine wpAny_bind (wpAny_bind (wpAny_onRaise (wpAny_bind (m := Builtin.SmallTypes.nextOf (.ref i2)) ?_)))
    have hot3 : HotAt A x1 g3 := hot_keep hot1 fun o e => u3.extBut _ _ nO (u2.extBut _ _ n1 e)
    refine nextOf_end (s := { s with heap := g3 }) hot3 (((j2.extBut u1.extBut D.i2z).extBut u2.extBut D.i12.symm).extBut u3.extBut D.TOi2.symm) (((m2.extBut u1.extBut D.l2z).extBut u2.extBut D.l2i1).extBut u3.extBut D.l2TO) hy fun g4 e u4 ⟨oe, he, ce⟩ => ?_
    have z4 : IsZip g4 z TI TO .ellipsis := u4 _ _ D.i2z.symm (u3.extBut _ _ D.TOz.symm (u2.extBut _ _ D.i1z.symm z1))
    have ne : e ≠ z := fun q => by subst q; rw [z4] at he; cases he; simp at ce
    exact wpAny_setField_rec z4 (by simp) fun g5 _ u5 => hE g5 e (fun c o c1 c2 c3 c4 q => u5.extBut _ _ c1 (u4 _ _ c4 (u3.extBut _ _ c2 (u2.extBut _ _ c3 (u1.extBut _ _ c1 q))))) ⟨oe, u5.extBut _ _ ne he, ce⟩
theorem zip_next_end {z TI TO i1 i2 l1 l2 : Addr} {k1 k2 : Nat} {xs ys : Array Value} {a b : Value} {Q : Option Value → Shared → Prop} (hot : HotAt A x1 s.heap) (D : ZipApart z TI TO i1 i2 l1 l2) (hz : IsZip s.heap z TI TO .none) (hI : IsPair s.heap TI (.ref i1) (.ref i2))
    (hO : IsPair s.heap TO a b) (j1 : s.heap.IsListIter i1 l1 k1) (j2 : s.heap.IsListIter i2 l2 k2) (m1 : s.heap.IsList l1 xs) (m2 : s.heap.IsList l2 ys) (hend : xs[k1]? = none ∨ ys[k2]? = none)
    (hQ : ∀ h', (∀ c o, c ≠ z → c ≠ TO → c ≠ i1 → c ≠ i2 → s.heap.get? c = some o → h'.get? c = some o) → Q none { s with heap := h' }) : wpAny (model prog w) A (pyNext (.ref z)) Q E s := by
  have ty : s.TypeIs (.ref z) "zip" := ⟨_, hz, rfl⟩
  unfold pyNext
  refine wpAny_bind (wpAny_attempt (wpAny_callSpecial?_slot (name := Str.ofString "__next__") ty F.slot_zip_next (wpAny_call_entry F.slot_zip_next ty F.entry_zip_next (zip_end (hot_in1 hot) D hz hI hO j1 j2 m1 m2 hend fun h' e k he => ?_) (F.args_zip_next_1 _))))
  obtain ⟨o, g, c⟩ := he
  exact wpAny_bind (wpAny_isInstance (T := "StopIteration") (b := true) ⟨o, g, c⟩ isSubtype_stop (wpAny_pure (hQ _ k)))
/-- a tuple's iterator at its end -/
theorem tup_next_end {it u : Addr} {i : Nat} {items : Array Value} {Q : Option Value → Shared → Prop} (hot : HotAt A x1 s.heap) (hit : IsTupIter s.heap it u i) (ht : IsTup s.heap u items) (hx : items[i]? = none)
    (hQ : ∀ h', Heap.ExtBut it s.heap h' → Q none { s with heap := h' }) : wpAny (model prog w) A (pyNext (.ref it)) Q E s := by
  obtain ⟨oi, gi, ci, di⟩ := id hit
  obtain ⟨ol, gl, _, nl, dl⟩ := ht
  have hne := hot_ne hot gi di
  have nn : ¬ ((Value.ref u == Value.none) = true) := Bool.false_ne_true
  unfold pyNext
  refine wpAny_bind (wpAny_attempt (wpAny_callSpecial?_slot (name := Str.ofString "__next__") hit.typeIs slot_tupleiter_next (wpAny_call_entry slot_tupleiter_next hit.typeIs entry_tupleiter_next ?_ (args_tupleiter_next _))))
  refine wpAny_bind (m := field (.ref it) 0) (wpAny_field gi di (x := .ref u) rfl ?_)
  show wpAny _ _ (if (Value.ref u == Value.none) = true then _ else _) _ _ _
  rw [if_neg nn]
  refine wpAny_bind (m := field (.ref it) 1) (wpAny_field gi di (x := .int i 0) rfl (wpAny_bind (m := seqItems? (.ref u)) (wpAny_seqItems gl dl ?_)))
  simp only [Int.toNat_natCast, hx]
  refine wpAny_bind (wpAny_rule (wpAny_bind (wpAny_setField gi di (by simp) ?_)))
  show wpAny _ _ (newExc (.type "StopIteration") [] >>= fun e => raiseNew e) _ _ _
  have sb : Heap.SameBut it s.heap (s.heap.update it (Obj.mapFields fun x => x.setIfInBounds 0 Value.none)) := Heap.SameBut.update ..
  refine stop_hot (hot_in1 (hot_keep hot fun o e => sb.extBut _ _ hne e)) fun h' e k ⟨o, g, c⟩ => ?_
  exact wpAny_bind (wpAny_isInstance (T := "StopIteration") (b := true) ⟨o, g, c⟩ isSubtype_stop (wpAny_pure (hQ h' fun b o hb z => k b o (sb.extBut _ _ hb z))))
theorem unpack_hot {u : Addr} {items : Array Value} {Q : List Value → Shared → Prop} (hot : HotAt A x1 s.heap) (ht : IsTup s.heap u items)
    (hQ : ∀ h', Heap.ExtBut s.heap.objs.size s.heap h' → Q items.toList { s with heap := h' }) : wpAny (model prog w) A (unpackItems (.ref u) items.size none) Q E s := by
  have old : ∀ {b : Addr} {o : Obj}, s.heap.get? b = some o → b ≠ s.heap.objs.size := fun e => Nat.ne_of_lt (Heap.lt_size e)
  have hu : u ≠ s.heap.objs.size := by obtain ⟨o, g, _⟩ := ht; exact old g
  have hx : x1 ≠ s.heap.objs.size := by obtain ⟨_, o, _, g, _⟩ := hot; exact old g
  unfold unpackItems
  refine wpAny_bind ?_
  unfold notIterableAtAll
  refine wpAny_bind (wpAny_specialOf ht.typeIs slot_tuple_iter.lookup (wpAny_pure ?_))
  simp only [Bool.false_eq_true, if_false]
  refine wpAny_bind (wpAny_holding (iter_tuple ht (wpAny_bind (wpAny_holding (draw_tuple hu items.size 0 _ _ ⟨_, Heap.get?_push_size _ rfl, rfl, rfl⟩ (ht.push _) (by omega) fun g1 i1 s1 => ?_)))))
  have all : List.take items.size (List.drop 0 items.toList) = items.toList := by rw [List.drop_zero, List.take_of_length_le (by simp)]
  rw [all, if_neg (by simp)]
  have t1 : IsTup g1 u items := (ht.push _).extBut s1.extBut hu
  have h1 : HotAt A x1 g1 := hot_keep hot fun o e => s1.extBut _ _ hx (Heap.get?_push_of_some _ e)
  refine wpAny_bind (wpAny_holding (tup_next_end h1 i1 t1 (by simp) fun g2 e2 => ?_))
  simp only [Option.isSome_none, Bool.false_eq_true, if_false]
  exact wpAny_pure (hQ g2 fun b o hb e => e2 b o hb (s1.extBut b o hb (Heap.get?_push_of_some _ e)))
theorem assign_hot {env : Env} {elts : List Expr} {kk : Nat} {pos : Pos} {u : Addr} {items : Array Value} {Q : Unit → Shared → Prop} (hot : HotAt A x1 s.heap) (ht : IsTup s.heap u items) (hn : (assignEach elts env).length = items.size) (hstar : (assignEach elts env).findIdx? (·.1) = none)
    (h : ∀ h', Heap.ExtBut s.heap.objs.size s.heap h' → wpAny (model prog w) A (assignInOrder ((assignEach elts env).map (·.2)) items.toList) Q E { s with heap := h' }) : wpAny (model prog w) A (assign (.Tuple elts kk pos) env (.ref u)) Q E s := by
  rw [assign_Tuple]
  refine wpAny_bind (wpAny_standAt ?_)
  unfold unpack
  rw [hn, hstar]
  exact wpAny_bind (wpAny_holding (unpack_hot hot ht h))
end
end DH

/-! DI: zip and a comprehension over it while an exception is handled. -/
namespace DH
open PySem PySem.Spec PyProof.Rows HotX L2

/-- what walks, where an exception is handled -/
structure TurnZ (P : Program) (w : World) (K : PySem.W.Frag) (tg : Expr) (J : It) (fp : List Addr) (it : Addr) (tn : Nat → Heap → Prop) : Prop where
  obj : ∀ i h, tn i h → ∀ b ∈ fp, ∃ o, h.get? b = some o ∧ ∀ v, o.data ≠ .cell v
  keep : ∀ i h h', tn i h → (∀ b ∈ fp, ∀ o, h.get? b = some o → h'.get? b = some o) → tn i h'
  item : ∀ (X : Cx), X.prog = P → X.w = w → X.K = K → ∀ (i : Nat) (pins : List (Addr × Obj)) (s : Shared) (σ : L2.St) (H : Hp) (E : Value → Shared → Prop), Inv X pins σ H s → (∀ b ∈ fp, FpOk X pins H b) → tn i s.heap → J.go i H →
    wpAny (model P w) X.A (pyNext (.ref it)) (fun r s1 => ∃ u, r = some u ∧ wpAny (model P w) X.A (letOwnedTupleGo tg (.ref it) u) (fun _ s2 => ∃ x H', Inv X pins σ H' s2 ∧ RelV x u ∧ J.yld i H x H' ∧ tn (i + 1) s2.heap ∧ ∀ b ∈ fp, H' b = none) E s1) E s
  done : ∀ (X : Cx), X.prog = P → X.w = w → X.K = K → ∀ (i : Nat) (pins : List (Addr × Obj)) (s : Shared) (σ : L2.St) (H : Hp) (E : Value → Shared → Prop), Inv X pins σ H s → (∃ x1, HotAt X.A x1 s.heap) → (∀ b ∈ fp, FpOk X pins H b) → tn i s.heap → J.stop i H →
    wpAny (model P w) X.A (pyNext (.ref it)) (fun r s1 => r = none ∧ Inv X pins σ H s1) E s
  self : ∀ (A : Around) (i : Nat) (s : Shared) (Q : Value → Shared → Prop) (E : Value → Shared → Prop), tn i s.heap → Q (.ref it) s → wpAny (model P w) A (pyIter (.ref it)) Q E s
section
variable {P : Program} {w : World} {K : PySem.W.Frag} {elts : List Expr} {kk : Nat} {tpos : Pos} {a b z TI TO i1 i2 : Addr}
/-- where a zip stands -/
def zipAt (a b z TI TO i1 i2 : Addr) (i : Nat) (h : Heap) : Prop := IsZip h z TI TO .none ∧ IsPair h TI (.ref i1) (.ref i2) ∧ (∃ x y, IsPair h TO x y) ∧ h.IsListIter i1 a i ∧ h.IsListIter i2 b i
theorem zip_five {c : Addr} {q : Prop} (hc : c ∈ [z, TI, TO, i1, i2]) (h1 : c = z → q) (h2 : c = TI → q) (h3 : c = TO → q) (h4 : c = i1 → q) (h5 : c = i2 → q) : q := by
  simp only [List.mem_cons, List.not_mem_nil, or_false] at hc
  rcases hc with e | e | e | e | e
  · exact h1 e
  · exact h2 e
  · exact h3 e
  · exact h4 e
  · exact h5 e
theorem turn_zipZ (D : ZipApart z TI TO i1 i2 a b) : TurnZ P w K (.Tuple elts kk tpos) (Itz K a b) [z, TI, TO, i1, i2] z (zipAt a b z TI TO i1 i2) where
  obj := fun i h st c hc => by
    obtain ⟨g1, g2, ⟨x, y, g3⟩, ⟨o1, g4, _, d1⟩, ⟨o2, g5, _, d2⟩⟩ := st
    refine zip_five hc (fun e => ?_) (fun e => ?_) (fun e => ?_) (fun e => ?_) (fun e => ?_) <;> subst e
    · exact ⟨_, g1, fun v q => nomatch q⟩
    · exact ⟨_, g2, fun v q => nomatch q⟩
    · exact ⟨_, g3, fun v q => nomatch q⟩
    · exact ⟨o1, g4, fun v q => by rw [d1] at q; cases q⟩
    · exact ⟨o2, g5, fun v q => by rw [d2] at q; cases q⟩
  keep := fun i h h' st k => by
    obtain ⟨g1, g2, ⟨x, y, g3⟩, g4, g5⟩ := st
    exact ⟨k _ (by simp) _ g1, k _ (by simp) _ g2, ⟨x, y, k _ (by simp) _ g3⟩, g4.at fun o q => k _ (by simp) o q, g5.at fun o q => k _ (by simp) o q⟩
  item := by
    intro X e1 e2 e3 i pins s σ H E I hf st hg
    subst e1 e2 e3
    obtain ⟨g1, g2, ⟨x0, y0, g3⟩, g4, g5⟩ := st
    obtain ⟨xs, ys, x, y, qx, qy, ex, ey⟩ := hg
    obtain ⟨its, rv, p1, _⟩ := I.list qx
    obtain ⟨jts, rw', p2, _⟩ := I.list qy
    obtain ⟨u, eu, ru⟩ := rv.get ex
    obtain ⟨v, ev, rv2⟩ := rw'.get ey
    let n := s.heap.objs.size
    have lz : z < n := Heap.lt_size g1
    refine wpAny_pyNext_zip_item D g1 g2 g3 g4 g5 p1.isList p2.isList (x := u) (y := v) (by simpa using eu) (by simpa using ev) fun h1 z1 t1 l1 l2 n1 _ k1 => ⟨_, rfl, wpAny_letOwnedTupleGo_zip (s := { s with heap := h1 }) z1 fun h2 z2 sb => ?_⟩
    have at2 : h2.get? n = some { cls := .type "tuple", data := .seq #[u, v] } := (sb.2 _ (Nat.ne_of_gt lz)).trans n1
    have small : 2 ≤ sizeLine := by decide
    have new : ObjOk X.prog X.w (upd H n (.tup [x, y])) h2 n (.tup [x, y]) := ⟨small, [u, v], .cons ru (.cons rv2 .nil), ⟨_, at2, rfl, _, rfl⟩⟩
    have I1 : Inv X pins σ (upd H n (.tup [x, y])) { s with heap := h2 } := I.turnedNew (t' := s.toks) (ch := [z, TI, TO, i1, i2]) (fun c o hb q => (sb.2 c (fun e => hb (by simp [e]))).trans (k1 c o (fun e => hb (by simp [e])) (fun e => hb (by simp [e])) (fun e => hb (by simp [e])) (fun e => hb (by simp [e])) q)) hf (Nat.le_refl _) new
    have yl : (Itz X.K a b).yld i H (.ref n) (upd H n (.tup [x, y])) := ⟨_, x, y, rfl, I.hok.fresh (Nat.le_refl _), rfl, fun l hl => by rw [I.list_inj hl qx]; exact ex, fun l hl => by rw [I.list_inj hl qy]; exact ey⟩
    have st2 : zipAt a b z TI TO i1 i2 (i + 1) h2 := ⟨z2, (sb.2 _ D.TIz).trans (k1 _ _ D.TIz D.TITO D.TIi1 D.TIi2 g2), ⟨u, v, (sb.2 _ D.TOz).trans t1⟩, l1.at fun o q => (sb.2 _ D.i1z).trans q, l2.at fun o q => (sb.2 _ D.i2z).trans q⟩
    refine ⟨.ref n, _, I1, rfl, yl, st2, fun c hc => ?_⟩
    have lt : c < n := zip_five hc (fun e => by rw [e]; exact lz) (fun e => by rw [e]; exact Heap.lt_size g2) (fun e => by rw [e]; exact Heap.lt_size g3) (fun e => by rw [e]; obtain ⟨_, e1, _⟩ := g4; exact Heap.lt_size e1) (fun e => by rw [e]; obtain ⟨_, e1, _⟩ := g5; exact Heap.lt_size e1)
    rw [upd_ne (Nat.ne_of_lt lt)]
    exact (hf c hc).1
  done := by
    intro X e1 e2 e3 i pins s σ H E I hot hf st hg
    subst e1 e2 e3
    obtain ⟨x1, hot⟩ := hot
    obtain ⟨g1, g2, ⟨x0, y0, g3⟩, g4, g5⟩ := st
    obtain ⟨xs, ys, qx, qy, he⟩ := hg
    obtain ⟨its, rv, p1, _⟩ := I.list qx
    obtain ⟨jts, rw', p2, _⟩ := I.list qy
    have n1 := rv.length
    have n2 := rw'.length
    have fin : its.toArray[i]? = none ∨ jts.toArray[i]? = none := by
      rcases he with q | q
      · left; simp; omega
      · right; simp; omega
    refine zip_next_end hot D g1 g2 g3 g4 g5 p1.isList p2.isList fin fun h' k => ⟨rfl, I.turnedL (t' := s.toks) (ch := [z, TI, TO, i1, i2]) (fun c o hb q => k c o (fun e => hb (by simp [e])) (fun e => hb (by simp [e])) (fun e => hb (by simp [e])) (fun e => hb (by simp [e])) q) hf⟩
  self := fun A i s Q E st q => wpAny_pyIter_zip st.1 q
end
structure PGZ (X : Cx) (target : Expr) (t : TG) : Prop where
  run : ∀ (pins : List (Addr × Obj)) (s : Shared) (σ : L2.St) (H : Hp) (v : V) (u : Value) (Q : L2.St → Hp → Prop), Inv X pins σ H s → (∃ x1, HotAt X.A x1 s.heap) → RelV v u → t v σ H Q → wpAny (model X.prog X.w) X.A (assign target X.env u) (fun _ s' => ∃ σ' H', Inv X pins σ' H' s' ∧ Q σ' H') X.xe s
theorem pgz_tup {X : Cx} {es : List Expr} {k : Nat} {t : TGs} {n : Nat} {pos : Pos} (h : PGs X es t) (hn : (assignEach es X.env).length = n) (hst : (assignEach es X.env).findIdx? (·.1) = none) : PGZ X (.Tuple es k pos) (gTup X.K n t) := ⟨fun pins s σ H v u Q I hot r q => by
  obtain ⟨a, xs, rfl, hq, hl, q⟩ := q
  cases r
  obtain ⟨x1, hot⟩ := hot
  obtain ⟨its, rv, ht, _⟩ := I.tuple hq
  refine assign_hot hot ht (by simp [hn, ← hl, rv.length]) hst fun h' hx => ?_
  have J : Inv X pins σ H { s with heap := h' } := I.kept (t' := s.toks) fun b o e => hx b o (Nat.ne_of_lt (Heap.lt_size e)) e
  exact h.run pins _ σ H xs _ Q J (by simpa using rv) q⟩
def PIEZ (X : Cx) (pins : List (Addr × Obj)) (σ : L2.St) (tg : Expr) (R : It → Hp → Prop) (itv : Value) (s2 : Shared) : Prop :=
  ∃ (it : Addr) (fp : List Addr) (tn : Nat → Heap → Prop) (J : It) (H' : Hp), itv = .ref it ∧ Inv X pins σ H' s2 ∧ TurnZ X.prog X.w X.K tg J fp it tn ∧ tn 0 s2.heap ∧ (∀ b ∈ fp, FpOk X pins H' b) ∧ R J H'
structure PIZ (X : Cx) (tg iter : Expr) (wi : TI) : Prop where
  run : ∀ (pins : List (Addr × Obj)) (s : Shared) (σ : L2.St) (H : Hp) (R : It → Hp → Prop), Inv X pins σ H s → wi σ H R → wpAny (model X.prog X.w) X.A (eval iter X.env) (fun v s1 => wpAny (model X.prog X.w) X.A (pyIter v) (PIEZ X pins σ tg R) X.xe s1) X.xe s
theorem piz_zip {X : Cx} {e e2 : Expr} {ta : TA} {p pos tpos : Pos} {elts : List Expr} {kk : Nat} (hg : Gl X "zip") (hm : X.mg "zip" = none) (ha : PA X [e, e2] ta) (hs : starEach [e, e2] X.env = (false, eval e X.env) :: starEach [e2] X.env) (hpl : (backTo pos (starEach [e2] X.env)).any (·.1) = false) :
    PIZ X (.Tuple elts kk tpos) (.Call (.Name "zip" p) [e, e2] [] pos) (iZip X.K ta) := ⟨fun pins s σ H R I h => by
  refine Call_ (ld_blt I hg hm PyProof.Rows.boot_zip (PyProof.Rows.callWith_type1 (thn (ha.run pos pins s σ H _ I h) fun us s1 ⟨vs, H1, I1, r1, q1⟩ => ?_) hs hpl))
  obtain ⟨a, b, xs, ys, rfl, qx, qy, q⟩ := q1
  obtain ⟨ua, ub, rfl, ra, rb⟩ := r1.two
  cases ra
  cases rb
  obtain ⟨its, rv, p1, _⟩ := I1.list qx
  obtain ⟨jts, rw', p2, _⟩ := I1.list qy
  let n := s1.heap.objs.size
  refine call_zip_2 p1.isList p2.isList fun h' g1 g2 g3 g4 g5 _ k => wpAny_pyIter_zip g1 ?_
  have J : Inv X pins σ H1 { s1 with heap := h' } := I1.kept (t' := s1.toks) k
  refine ⟨n + 4, [n + 4, n + 2, n + 3, n, n + 1], _, _, H1, rfl, J, turn_zipZ (PySem.W.ktu_apart n a b p1.lt p2.lt), ⟨g1, g2, ⟨_, _, g3⟩, g4, g5⟩, fun c hc => ?_, q⟩
  have le : n ≤ c := zip_five hc (fun e => e ▸ Nat.le_add_right n 4) (fun e => e ▸ Nat.le_add_right n 2) (fun e => e ▸ Nat.le_add_right n 3) (fun e => Nat.le_of_eq e.symm) (fun e => e ▸ Nat.le_add_right n 1)
  exact I1.fpOk le (I1.hok.fresh le)⟩
section
variable {X : Cx} {elt tg iter : Expr} {ifs : List Expr} {scope : Scope} {own : List (Str × Nat)} {pos : Pos} {wi : TI} {g : TG} {tt : TT} {te : TE} {p : Addr × Obj}
/-- the handled exception is pinned in the block, too -/
theorem block_pin {pins : List (Addr × Obj)} {σ : L2.St} {H : Hp} {s s4 : Shared} {ce : Env} {fp : List Addr} {σ' : L2.St} (I : Inv X pins σ H s) (hp : p ∈ X.pn) (J : Inv (X.blk s H scope ce fp) [] σ' H s4) (k : ∀ o, s.heap.get? p.1 = some o → s4.heap.get? p.1 = some o) (hL : ce.locals = s.heap.objs.size) :
    Inv (X.blk s H scope ce fp) [p] σ' H s4 := J.pins_of fun q hq => by
  obtain rfl : q = p := by simpa using hq
  obtain ⟨h1, h2, h3, h4, h5⟩ := I.pin q (List.mem_append_left _ hp)
  refine ⟨k _ h1, h2, ?_, fun z => (List.mem_cons.mp (I.stkSub q.1 z)).elim h3 h4, h5⟩
  show q.1 ≠ ce.locals
  rw [hL]
  exact Nat.ne_of_lt (Heap.lt_size h1)
theorem pin_hot {X : Cx} {pins : List (Addr × Obj)} {σ : L2.St} {H : Hp} {s : Shared} (h1 : L2H.Hot1 X.A p) (hp : p ∈ X.pn ++ pins) (I : Inv X pins σ H s) : ∃ x1, HotAt X.A x1 s.heap := by
  obtain ⟨hh, v1, e1, c1⟩ := h1
  exact ⟨p.1, hh, p.2, v1, (I.pin p hp).1, e1, c1⟩
theorem pe_lcZ (hot : L2H.Hot1 X.A p) (hp : p ∈ X.pn) (hN : X.N.Nodup) (hi : PIZ X tg iter wi) (ok : BlkOk X.N X.env.scope scope own) (hg : ∀ (s : Shared) (H : Hp) (C : Addr) (cl : List (Str × Addr)) (fp : List Addr), PGZ (X.blk s H scope (compEnvC scope cl C X.env) fp) tg g)
    (ht : ∀ (s : Shared) (H : Hp) (C : Addr) (cl : List (Str × Addr)) (fp : List Addr), PTs (X.blk s H scope (compEnvC scope cl C X.env) fp) ifs tt) (he : ∀ (s : Shared) (H : Hp) (C : Addr) (cl : List (Str × Addr)) (fp : List Addr), PE (X.blk s H scope (compEnvC scope cl C X.env) fp) elt te)
    (hs : ∀ x, foldedSetIterable iter X.env x = pure x) : PE X (.ListComp elt [⟨tg, iter, ifs, 0⟩] scope pos) (tLc wi g tt te (own.map (·.2))) := ⟨fun pins s σ H Q I h => by
  have hfree : ∀ y ∈ scope.names, y.2 = .free → ∃ c, X.env.cells.lookup y.1 = some c := fun y hy e => (ok.free y hy e).elim (fun k => I.ok.has _ (.inl k)) fun k => I.ok.has _ (.inr k)
  rw [eval_ListComp]
  refine wpAny_comprehension_free (use := none) rfl hs (closure_ok hfree) ok.kind (fun y hy e => by rw [ok.uniq y hy, e]) (thn (hi.run pins s σ H _ I h) fun xv s1 hx => thn hx fun itv s2 h2 => ?_)
  obtain ⟨it, fp, tn, J, H2, rfl, I2, T, st2, f2, q⟩ := h2
  refine wpAny_newObj_type (newEnv_comp ?_) (by show 0 ≤ sizeLine; decide)
  let s3 : Shared := { s2 with heap := s2.heap.push { cls := .type "list", data := .seq ([] : List Value).toArray } }
  let L : Addr := s2.heap.objs.size
  have nL : H2 L = none := I2.hok.fresh (Nat.le_refl _)
  obtain ⟨W, ⟨m0, w0⟩, turn⟩ := q L nL
  let H3 : Hp := upd H2 L (.lst [])
  have I3 : Inv X pins σ H3 s3 := I2.laid (t' := s2.toks) (fun b o e => Heap.get?_push_of_some _ e) (Nat.le_refl _) ⟨Nat.zero_le _, [], 0, .nil, Heap.get?_push_size _ rfl⟩
  have low : ∀ b ∈ fp, b < s2.heap.objs.size := fun b hb => by
    obtain ⟨o, e, _⟩ := T.obj _ _ st2 b hb
    exact Heap.lt_size e
  have s3z : s3.heap.objs.size = s2.heap.objs.size + 1 := Heap.size_push ..
  have f3 : ∀ b ∈ fp, FpOk X pins H3 b ∧ b < s3.heap.objs.size := fun b hb => ⟨⟨(upd_ne (Nat.ne_of_lt (low b hb))).trans (f2 b hb).1, (f2 b hb).2⟩, by rw [s3z]; exact Nat.lt_succ_of_lt (low b hb)⟩
  have st3 : tn 0 s3.heap := T.keep _ _ _ st2 fun b _ o e => Heap.get?_push_of_some _ e
  let C : Addr := s3.heap.objs.size
  let cl := cellsFrom (C + 1) scope.names (cloFrom X.env.cells scope.names [])
  let ce := compEnvC scope cl C X.env
  let s4 : Shared := { s3 with heap := pushCells (s3.heap.push { cls := .type "dict", data := .dict #[] }) scope.names }
  have up4 : ∀ b o, s3.heap.get? b = some o → s4.heap.get? b = some o := fun b o e => pushCells_keeps _ _ _ _ (Heap.get?_push_of_some _ e)
  have I4 : Inv (X.blk s3 H3 scope ce fp) [p] (wipe σ (own.map (·.2))) H3 s4 := block_pin I3 hp (block_start I3 ok hN f3) (fun o e => up4 _ o e) rfl
  have pg := hg s3 H3 C cl fp
  have pt := ht s3 H3 C cl fp
  have pe := he s3 H3 C cl fp
  show codeAny _ _ (.compStart (.ListComp elt [⟨tg, iter, ifs, 0⟩] scope pos) 0 (.ref it) (.ref L) ce) (compPost (model X.prog X.w) X.A X.xe none _ (.ref L) C) s4
  have st4 : tn 0 s4.heap := T.keep _ _ _ st3 fun b _ o e => up4 _ _ e
  have hotB : ∀ {ps : List (Addr × Obj)} {σ' : L2.St} {H' : Hp} {s' : Shared}, p ∈ ps → Inv (X.blk s3 H3 scope ce fp) ps σ' H' s' → ∃ x1, HotAt (X.blk s3 H3 scope ce fp).A x1 s'.heap := fun hm I' => pin_hot (X := X.blk s3 H3 scope ce fp) hot (List.mem_append_right _ hm) I'
  have stat : ∀ {σ' : L2.St} {H' : Hp} {s' : Shared}, Inv (X.blk s3 H3 scope ce fp) [p] σ' H' s' → (∀ b ∈ fp, H' b = none) → ∀ b ∈ fp, FpOk (X.blk s3 H3 scope ce fp) [p] H' b := fun {σ' H' s'} I' hn b hb => by
    refine ⟨hn b hb, (I'.ok.exf b hb).1, I'.ok.exfs b hb, .inl hb, fun x c e => (I'.ok.exf b hb).2 x c e, fun q hq => ?_⟩
    obtain rfl : q = p := by simpa using (show q ∈ ([] : List (Addr × Obj)) ++ [p] from hq)
    exact (f3 b hb).1.2.2.2.2.2 q (List.mem_append_left _ hp)
  have loop : codeAny (model X.prog X.w) X.A (.compLoop (.ListComp elt [⟨tg, iter, ifs, 0⟩] scope pos) 0 (.ref it) (.ref L) ce) (compPost (model X.prog X.w) X.A X.xe none (EP X pins σ Q) (.ref L) C) s4 := by
    refine compLoop_any (fun n s' => ∃ i H', Inv (X.blk s3 H3 scope ce fp) [p] (wipe σ (own.map (·.2))) H' s' ∧ tn i s'.heap ∧ (∀ b ∈ fp, H' b = none) ∧ W i n H') ?_ m0 ⟨0, H3, I4, st4, fun b hb => (f3 b hb).1.1, w0⟩
    rintro n s5 ⟨i, H5, I5, st5, n5, w5⟩
    rcases turn i n H5 w5 with ⟨stop, qq⟩ | ⟨go, Nx, hNx, step⟩
    · refine thnF (T.done (X.blk s3 H3 scope ce fp) rfl rfl rfl i [p] s5 _ H5 (fun _ _ => False) I5 (hotB (by simp) I5) (stat I5 n5) st5 stop) fun r s6 ⟨hr, I6⟩ => ?_
      subst hr
      have I7 : Inv X pins σ H5 s6 := I3.call' (ch := fp) I6.os I6.base I6.hok I6.bare fun b hb => ⟨(f3 b hb).1.2.2.2.1, (f3 b hb).1.2.1, (f3 b hb).1.2.2.2.2.1, (f3 b hb).1.2.2.2.2.2⟩
      have nC : H5 C = none := I6.free
      obtain ⟨m, hn, _⟩ := I6.loc
      obtain ⟨k0, k1, k2, k3, k4, k5⟩ := I3.fpOk (Nat.le_refl C) nC
      exact ⟨m, hn, fun h'' sb => ⟨.ref L, H5, I7.turned (t' := s6.toks) (fun b o hb e => (sb.2 b hb).trans e) k0 k1 k3 k4 k5, rfl, qq⟩⟩
    · refine thnF (T.item (X.blk s3 H3 scope ce fp) rfl rfl rfl i [p] s5 _ H5 (fun _ _ => False) I5 (stat I5 n5) st5 go) fun r s6 ⟨u, hr, h6⟩ => ?_
      subst hr
      refine thnF h6 fun _ s7 ⟨x, H7, I7, r7, y7, st7, n7⟩ => ?_
      have K7 := I7.pinned (stat I7 n7) (T.obj _ _ st7)
      refine thnF (pg.run _ s7 _ H7 x u _ K7 (hotB (List.mem_append_left _ (by simp)) K7) r7 (step x H7 y7)) fun _ s8 ⟨σ8, H8, I8, hw8, q8⟩ => ?_
      refine thnF (pt.run _ s8 σ8 H8 _ I8 q8) fun b s9 ⟨H9, I9, q9⟩ => ?_
      have fin : ∀ {s' : Shared} {H' : Hp}, Inv (X.blk s3 H3 scope ce fp) ([p] ++ pinsAt fp s7.heap) σ8 H' s' → Nx H' → ∃ m, m < n ∧ ∃ i H', Inv (X.blk s3 H3 scope ce fp) [p] (wipe σ (own.map (·.2))) H' s' ∧ tn i s'.heap ∧ (∀ b ∈ fp, H' b = none) ∧ W i m H' := fun {s' H'} I' nx => by
        obtain ⟨m', hm, w'⟩ := hNx H' nx
        have held : ∀ b ∈ fp, ∀ o, s7.heap.get? b = some o → s'.heap.get? b = some o ∧ H' b = none := fun b hb o e => ⟨(I'.pin (b, o) (List.mem_append_right _ (List.mem_append_right _ (mem_pinsAt hb e)))).1, (I'.pin (b, o) (List.mem_append_right _ (List.mem_append_right _ (mem_pinsAt hb e)))).2.1⟩
        refine ⟨m', hm, i + 1, H', (I'.unpinned (pins := [p])).weak (by rw [← hw8, wipe_length]) (fun j v e => by rw [← hw8] at e; exact (wipe_some e).1), T.keep _ _ _ st7 fun b hb o e => (held b hb o e).1, fun b hb => ?_, w'⟩
        obtain ⟨o, e, _⟩ := T.obj _ _ st7 b hb
        exact (held b hb o e).2
      cases b with
      | false =>
        rw [if_neg Bool.false_ne_true] at q9 ⊢
        exact fin I9 q9
      | true =>
        rw [if_pos rfl] at q9 ⊢
        exact thnF (pe.run _ s9 σ8 H9 _ I9 q9) fun v s10 ⟨y, H10, I10, r10, acc, hD, hz, nx⟩ => app_ok (X := X.blk s3 H3 scope ce fp) I10 hD hz r10 fun s11 I11 => fin I11 nx
  exact codeAny_compStart_list loop (T.self X.A 0 _ _ _ st4 loop)⟩
end
end DH

/-! DJ: what is asked of a caught exception that has fields. -/
namespace DH
open PySem PySem.Spec PyProof.Rows HotX L2 PySem.W

section
variable {prog : Program} {w : World} {A : Around} {E : Value → Shared → Prop} {s : Shared} {K : Frag} {x D : Addr} {ox od : Obj}
/-- its class -/
theorem exc_class {Q : Option Value → Shared → Prop} (C : ExcC K D) (X : K.In s.heap) (I : InstAt s.heap x ox D (some od)) (h : Q (some (.ref D)) { s with toks := s.toks + 1 }) : wpAny (model prog w) A (getAttr? (.ref x) "__class__") Q E s := by
  have hc : (clsIn K D).isSome = true := by obtain ⟨cd, q, _⟩ := any_some C.hd; rw [q]; rfl
  have found : findObj K D (some od) "__class__" = some (.bind (.builtin "getset_descriptor.__get__") (.builtin "object.__class__")) := findObj_data hc C.ha C.hn C.ht
  obtain ⟨hp, g, d, t, os⟩ := s
  have lt := I.type (M := model prog w)
  have la := looks_findIn (M := model prog w) X C.hg
  have lg := looks_findIn (M := model prog w) X C.hk
  have lf := looks_find (M := model prog w) X I found
  have inst : Looks (model prog w) hp (isInstance (.ref x) (.type "BaseException")) true := lt.andThen (looks_subIn X C.hs)
  have ne2 : (Value.builtin "BaseException.__getattribute__" == Value.builtin "object.__getattribute__") = false := by decide +kernel
  have ne1 : (onTheHeap (Value.ref D) && Value.builtin "BaseException.__getattribute__" == Value.builtin "object.__getattribute__") = false := by rw [ne2]; rfl
  unfold getAttr? getAttrBy? getAttrBy
  refine wpAny_bind (wpAny_mkText (wpAny_bind (wpAny_attempt (wpAny_holding (wpAny_bind (lt.at (wpAny_bind (la.at ?_))))))))
  show wpAny _ _ (if (onTheHeap (Value.ref D) && Value.builtin "BaseException.__getattribute__" == Value.builtin "object.__getattribute__") = true then _ else _) _ _ _
  rw [ne1, if_neg Bool.false_ne_true]
  unfold getAttrByItsOwn hookBefore
  have on : onTheHeap (Value.ref D) = true := rfl
  refine wpAny_bind ?_
  rw [if_pos on]
  refine lg.at (wpAny_bind (wpAny_attempt (wpAny_holding ?_)))
  have off : (false && onTheHeap (Value.builtin "BaseException.__getattribute__")) = false := rfl
  unfold callGetattribute
  rw [off, if_neg Bool.false_ne_true]
  unfold boundAndCalled
  rw [PySem.F.excAttr_ValueError.ga.bind (.ref x)]
  refine wpAny_bind (wpAny_pure ?_)
  show wpAny _ _ (call (.builtin "BaseException.__getattribute__") [.ref x, .str "__class__" t]) _ _ _
  refine wpAny_call (codeAny_call_builtin PySem.F.excAttr_ValueError.ga.plain PySem.F.entry_bexc_ga (@check_slot (model prog w) _ _ ⟨hp, g, d, t + 1, os⟩ "BaseException.__getattribute__" "BaseException" "__getattribute__" (.ref x) [.str "__class__" t] [] _ (by decide +kernel) (by decide +kernel) inst (PySem.F.args_bexc_ga (.ref x) (.str "__class__" t)) ?_))
  unfold Builtin.«object.__getattribute__»
  refine wpAny_bind (wpAny_of_eq (a := ((Value.ref x : Value), [Value.str "__class__" t])) (by first | rfl | (simp only [slotArgs]; rfl)) (wpAny_bind (wpAny_pure (wpAny_bind (lt.at (wpAny_bind (lf.at ?_)))))))
  show wpAny _ _ (holding [Value.builtin "object.__class__"] (call (.builtin "getset_descriptor.__get__") [.builtin "object.__class__", .ref x, .ref D]) >>= ret) _ _ _
  refine wpAny_bind (wpAny_holding (wpAny_call (class_get (s := ⟨hp, g, d, t + 1, os⟩) (ox := ox) (od := some od) X I C.hm (wpAny_pure ?_))))
  show wpAny _ _ (handedOut (.ref D)) _ _ _
  rw [handedOut_of (v := .ref D) rfl]
  first
    | exact wpAny_pure (wpAny_pure h)
    | exact wpAny_pure h
    | exact wpAny_pure (wpAny_bind (wpAny_pure (wpAny_pure h)))
theorem exc_kit (C : ExcC K D) : KitX K (.ref x) (.ref D) (fun h => ∃ ox od, InstAt h x ox D (some od)) := by
  obtain ⟨cd, hc, _⟩ := any_some C.hd
  unfold clsIn at hc
  split at hc
  · rename_i c' d' cd' sl' ho
    refine ⟨fun _ _ _ ⟨_, _, I⟩ => I.type, fun _ _ X _ A Q E s k q => ?_, fun h tp dd its n sl X htp => Bool.eq_false_iff.mpr fun q => ?_, fun X ⟨_, _, I⟩ k => exc_class C X I k⟩
    · unfold isType loadHead
      exact wpAny_bind (wpAny_loadPart (k _ _ (X _ _ ho)) (wpAny_pure q))
    · have e : D = tp := Value.ref.inj (beq_iff_eq.mp q)
      subst e
      have z := (X _ _ ho).symm.trans htp
      cases z
  · cases hc
end
end DH

/-! DK: defs that are called while an exception is handled and that get this exception (p: its address, its object). -/
namespace DH
open PySem PySem.Spec PyProof.Rows HotX L2 L2H

/-- a def's promise there; the wish may name the exception -/
structure FnP (P : Program) (w : World) (K : PySem.W.Frag) (mg : Str → Option Value) (base : Heap) (CX : CXT) (k : Nat) (f : Addr) (fd : FuncData) (ps : List Str) (sp : Addr × Obj → Sp) : Prop where
  len : ∀ p vs H Q E, sp p vs H Q E → vs.length = ps.length
  run : ∀ (p : Addr × Obj) (A : Around) (outer : List Env) (s : Shared) (H : Hp) (args : Args) (us : List Value) (vs : List V) (Q : VK) (E : XK), RoomH k A → Hot1 A p → PinOk outer H s p → Env0 P w K mg base A outer s H →
    BindsTo s fd args (ps.zip us) → Vals vs us → sp p vs H Q E → codeAny (model P w) A (.call (.ref f) args) (CR CX outer P w H s Q E) s
section
variable {CX : CXT} {P : Program} {w : World} {K : PySem.W.Frag} {mg : Str → Option Value} {base : Heap} {k : Nat} {f : Addr}
theorem fn_ofP {name qual : Str} {params : Arguments} {body : List Stmt} {scope : Scope} {dV kV doc pm cdv ct oc : Value} {an od : Option Addr} {osl : Array (Option Value)} {N ps : List Str} {sp : Addr × Obj → Sp}
    (lk : K.lookup f = some ⟨oc, od, .func (PySem.W.fnOf name qual params body scope dV kV doc pm an cdv ct), osl⟩) (hcd : PySem.W.codeIn K cdv qual = true) (S : FnScope N ps scope) (len : ∀ p vs H Q E, sp p vs H Q E → vs.length = ps.length)
    (hbody : ∀ (p : Addr × Obj) (A : Around) (outer : List Env) (s : Shared) (H : Hp) (vs : List V) (Q : VK) (E : XK), Hot1 A p → RoomH k (A.deeper (envOfC qual scope s.heap.objs.size f cdv)) → sp p vs H Q E →
      ∃ t, PSs (cxH CX P w K mg base N qual scope f cdv A outer s H E p) body t ∧ t { nx := fun _ H' => Q .non H', rt := Q } (L2.start N vs) H) :
    FnP P w K mg base CX (k + 1) f (PySem.W.fnOf name qual params body scope dV kV doc pm an cdv ct) ps sp where
  len := len
  run := by
    intro p A outer s H args us vs Q E room hot pin e0 bind vals wish
    have sameLen := len _ _ _ _ _ wish
    have kin : K.In s.heap := e0.mod.kin.keeps fun b o e => (e0.bs b o e).1
    have free : s.heap.NoLimit := e0.mod.nolimit.keeps fun b o e => (e0.bs b o e).1
    refine codeAny_call_function room.depth (kin _ _ lk) rfl S.co S.gen rfl (PySem.W.codeRec_of kin hcd) (bind _ _ _ _ ?_)
    refine wpAny_newFunctionEnv_cells S.kind (fun y hy => ?_) fun env he s1 x => ?_
    · obtain ⟨n, v⟩ := y
      exact (S.par n (List.of_mem_zip hy).1).imp id fun q => ⟨q, PySem.W.cellsFrom_some _ _ _ (.inl q)⟩
    subst he
    obtain ⟨t, walk, start⟩ := hbody p A outer s H vs Q E hot (room.deeper _) wish
    have I : Inv (cxH CX P w K mg base N qual scope f cdv A outer s H E p) [] (L2.start N vs) H s1 := inv_startH S pin e0 sameLen vals x
    refine ⟨free.keeps x.toInCall.keep, codeAny_func (wpAny_mono (walk.run [] s1 (L2.start N vs) H _ I start) (fun fl s' hs => ?_) fun e s' hs => hs)⟩
    cases fl with
    | ret u => exact let ⟨v, _, H', J, rv, q⟩ := hs; ⟨v, H', J.os, J.bare, J.base, J.hok, rv, q⟩
    | next => exact let ⟨_, H', J, q⟩ := hs; ⟨.non, H', J.os, J.bare, J.base, J.hok, rfl, q⟩
    | brk => exact let ⟨_, _, _, q⟩ := hs; q.elim
    | cont => exact let ⟨_, _, _, q⟩ := hs; q.elim
end
section
variable {X : Cx} {CX : CXT} {k : Nat} {f : Addr} {fd : FuncData} {ps : List Str} {sp : Addr × Obj → Sp} {E : L2.St → XK} {x : Str} {q pos : Pos} {e : Expr} {es : List Expr} {t : TA} {p : Addr × Obj}
theorem pe_callP (F : FnP X.prog X.w X.K X.mg X.base CX k f fd ps sp) (hr : RoomH k X.A) (h1 : Hot1 X.A p) (hp : p ∈ X.pn) (hg : Gl X x) (hm : X.mg x = some (.ref f)) (hk : PySem.W.keepIn X.K (.ref f) = true) (hb : Binds X.K fd ps []) (hx : ∀ σ, PassesAt CX X σ (E σ))
    (ha : PA X (e :: es) t) (hdb : (x == ("__debug__" : Str)) = false) (he : starEach (e :: es) X.env = (false, eval e X.env) :: starEach es X.env) (hpl : (backTo pos (starEach es X.env)).any (·.1) = false) :
    PE X (.Call (.Name x q) (e :: es) [] pos) (tCallS (sp p) E t) := ⟨fun pins s σ H Q I h => by
  refine wpAny_Call_Name_kw (ld_glob I hg hm ?_ hdb)
  refine PySem.W.callWith_K (h₀ := X.base) I.ok.mod.kin hk (thn (ha.run pos pins s σ H _ I h) fun us s1 ⟨vs, H1, I1, r, q⟩ => ⟨I1.kIn, ?_⟩) he hpl
  have len : (us ++ []).length = ps.length := by rw [List.append_nil, ← r.length]; exact F.len _ _ _ _ _ q
  have b := hb s1 us I1.kIn len
  rw [List.append_nil] at b
  obtain ⟨p1, p2, p3, p4, p5⟩ := I1.pin p (List.mem_append_left _ hp)
  have pin : PinOk X.stack H1 s1 p := ⟨p1, p2, fun z => (List.mem_cons.mp (I1.stkSub p.1 z)).elim p3 p4, p5⟩
  refine wpAny_call (codeAny_mono (F.run p X.A X.stack s1 H1 ⟨us, []⟩ us vs Q (E σ) hr h1 pin I1.env0 b r q) fun r s' hq => ?_)
  match r, hq with
  | .error e, hq => exact hx σ pins H1 s1 e s' I1 hq
  | .ok (.ret u), hq => exact I1.after hq
  | .ok .next, hq => exact hq.elim
  | .ok .brk, hq => exact hq.elim
  | .ok .cont, hq => exact hq.elim⟩

/-! ### the exception's class, its fields -/
/-- p is the caught exception of class D, its dict is d -/
structure PinX (X : Cx) (p : Addr × Obj) (D d : Addr) : Prop where
  hot : Hot1 X.A p
  mem : p ∈ X.pn
  cls : p.2.cls = .ref D
  dict : p.2.dict = some d
  C : ExcC X.K D
/-- isinstance(e, c), e the handled exception -/
def rIsP (K : PySem.W.Frag) (a D d : Addr) : List V → Hp → VK → Prop := fun xs H Q => ∃ (c : Addr) (b : Bool) (fs : List (Str × V)), xs = [.ref a, .ref c] ∧ H d = some (.xd fs) ∧ PySem.W.kitOne K (.ref D) (.ref c) = some b ∧ Q (.bl b) H
theorem call_isP {X : Cx} {D d : Addr} (c : PinX X p D d) : CallR X (.builtin "isinstance") (rIsP X.K p.1 D d) := by
  intro pins s σ H xs us Q I r h
  obtain ⟨cl, b, fs, rfl, hd, e, q⟩ := h
  obtain ⟨u1, u2, rfl, r1, r2⟩ := r.two
  cases r1
  cases r2
  obtain ⟨vs, hv, _⟩ := c.hot.2
  obtain ⟨mA, hns, hr⟩ := I.hok d _ hd
  obtain ⟨od, ho, hl⟩ := lookIn_ns hns
  have J : PySem.W.InstAt s.heap p.1 p.2 D (some od) := ⟨(I.pin p (List.mem_append_left _ c.mem)).1, c.cls, by unfold PySem.W.notCls; rw [hv] <;> rfl, by rw [c.dict]; exact ho⟩
  exact PySem.W.kia_one (exc_kit c.C) I.kIn ⟨_, _, J⟩ e (fun z => nomatch z) fun tk => ⟨.bl b, H, I.kept (t' := tk) fun _ _ z => z, rfl, q⟩
/-- e.n, e the handled exception -/
def tXp (a d : Addr) (n : Str) (te : TE) : TE := fun σ H Q => te σ H fun x H1 => x = .ref a ∧ ∃ (fs : List (Str × V)) (v : V), H1 d = some (.xd fs) ∧ fs.lookup n = some v ∧ Q v H1
theorem pe_xp {X : Cx} {D d : Addr} {n : Str} {te : TE} (c : PinX X p D d) (T : XfC X.K D) (hno : PySem.W.findIn X.K (.ref D) n = some none) (he : PE X e te) (hb : attributeBase e n X.env (eval e X.env) = eval e X.env) : PE X (.Attribute e n pos) (tXp p.1 d n te) := ⟨fun pins s σ H Q I h => by
  refine attr_of hb (thn (he.run pins s σ H _ I h) fun u s1 hh => ?_)
  obtain ⟨x, H1, I1, rx, ex, fs, v, hd, l, q⟩ := hh
  subst ex
  obtain rfl : u = Value.ref p.1 := rx
  obtain ⟨vs, hv, _⟩ := c.hot.2
  obtain ⟨mA, hns, hr⟩ := I1.hok d _ hd
  obtain ⟨od, ho, hl⟩ := lookIn_ns hns
  have J : PySem.W.InstAt s1.heap p.1 p.2 D (some od) := ⟨(I1.pin p (List.mem_append_left _ c.mem)).1, c.cls, by unfold PySem.W.notCls; rw [hv] <;> rfl, by rw [c.dict]; exact ho⟩
  obtain ⟨u, hu, ru⟩ := RelO.some_of (v := v) (o := mA n) (by rw [← l]; exact hr n)
  exact HandSPX.exc_get I1.kIn J T.ga T.gg T.exC (PySem.W.findObj_own T.hdC hno rfl (by rw [hl, hu])) (handed_of ru) ⟨v, H1, I1.tok _, ru, q⟩⟩
end
end DH

/-! DM: _law_kind: the class of the handled exception as a word. -/
namespace DH
open PySem PySem.Spec PyProof.Rows HotX L2 L2H

def kGroup : Nat → List Str
  | 0 => ["BadMark", "BadLetters", "BadRoom"]
  | 1 => ["BadArrow", "BadWord", "BadSize"]
  | 2 => ["BadPattern", "BadTable", "BadTree"]
  | 3 => ["BadText", "BadName", "BadDeed"]
  | 4 => ["BadPage", "Taken", "Full"]
  | 5 => ["Unlike", "NotDear", "InUse"]
  | 6 => ["TooWide", "NoArrow", "NoName"]
  | _ => ["NoTraveller", "NothingLeft"]
def kAll : List Str := kGroup 0 ++ kGroup 1 ++ kGroup 2 ++ kGroup 3 ++ kGroup 4 ++ kGroup 5 ++ kGroup 6 ++ kGroup 7
theorem kGroup_sub : ∀ (i : Nat) (n : Str), n ∈ kGroup i → n ∈ kAll := fun i n h => by
  have e : i = 0 ∨ i = 1 ∨ i = 2 ∨ i = 3 ∨ i = 4 ∨ i = 5 ∨ i = 6 ∨ kGroup i = kGroup 7 := by
    match i with
    | 0 | 1 | 2 | 3 | 4 | 5 | 6 => simp
    | i + 7 => simp [kGroup]
  unfold kAll
  simp only [List.mem_append]
  rcases e with rfl | rfl | rfl | rfl | rfl | rfl | rfl | e
  · simp [h]
  · simp [h]
  · simp [h]
  · simp [h]
  · simp [h]
  · simp [h]
  · simp [h]
  · rw [e] at h; simp [h]
/-- isinstance(_law_e, n) -/
def mIs (n : Str) : Expr → Bool
  | .Call (.Name f _) [.Name x _, .Name c _] [] _ => decide (f = "isinstance") && (decide (x = "_law_e") && decide (c = n))
  | _ => false
def mIss : List Str → List Expr → Bool
  | [], [] => true
  | n :: ns, e :: es => mIs n e && mIss ns es
  | _, _ => false
theorem is_shape {n : Str} {e : Expr} (h : mIs n e = true) : ∃ p1 p2 p3 p4, e = .Call (.Name "isinstance" p1) [.Name "_law_e" p2, .Name n p3] [] p4 := by
  unfold mIs at h
  split at h
  · simp only [Bool.and_eq_true, decide_eq_true_eq] at h
    obtain ⟨rfl, rfl, rfl⟩ := h
    exact ⟨_, _, _, _, rfl⟩
  · cases h
def kN : List Str := ["_law_e", "_law_flags", "_law_words", "_law_found", "_law_one", "_law_here"]
/-- where the def runs: the exception, the names, what isinstance says of each class -/
structure KX (X : Cx) (p : Addr × Obj) (D d : Addr) (fl : Str → Bool) : Prop where
  px : PinX X p D d
  N : X.N = kN
  loc : ∀ n ∈ (["_law_e", "_law_flags", "_law_words", "_law_found"] : List Str), X.env.scope.names.lookup n = some .local
  cl : ∀ n ∈ kAll, Gl X n ∧ (n == ("__debug__" : Str)) = false ∧ ∃ c, X.mg n = some (.ref c) ∧ PySem.W.kitOne X.K (.ref D) (.ref c) = some (fl n)
  gi : Gl X "isinstance"
  mi : X.mg "isinstance" = none
  gz : Gl X "zip"
  mz : X.mg "zip" = none
  T : XfC X.K D
  no : PySem.W.findIn X.K (.ref D) "word" = some none
  un : X.A.units + 64 < cLine
/-- _law_e is the exception, its fields stand -/
def ES (p : Addr × Obj) (d : Addr) (σ : L2.St) (H : Hp) : Prop := σ[0]? = some (some (.ref p.1)) ∧ ∃ fs, H d = some (.xd fs)
section
variable {X : Cx} {p : Addr × Obj} {D d : Addr} {fl : Str → Bool}
theorem KX.nd (k : KX X p D d fl) : X.N.Nodup := by rw [k.N]; decide
theorem KX.e (k : KX X p D d fl) {pos : Pos} : PE X (.Name "_law_e" pos) (tVar 0) := pe_var (by rw [k.N]; rfl) (.inl (k.loc _ (by simp)))
theorem KX.flags (k : KX X p D d fl) {pos : Pos} : PE X (.Name "_law_flags" pos) (tVar 1) := pe_var (by rw [k.N]; rfl) (.inl (k.loc _ (by simp)))
theorem KX.words (k : KX X p D d fl) {pos : Pos} : PE X (.Name "_law_words" pos) (tVar 2) := pe_var (by rw [k.N]; rfl) (.inl (k.loc _ (by simp)))
theorem KX.found (k : KX X p D d fl) {pos : Pos} : PE X (.Name "_law_found" pos) (tVar 3) := pe_var (by rw [k.N]; rfl) (.inl (k.loc _ (by simp)))
theorem pe_is (k : KX X p D d fl) {n : Str} (hn : n ∈ kAll) {p1 p2 p3 pos : Pos} : PE X (.Call (.Name "isinstance" p1) [.Name "_law_e" p2, .Name n p3] [] pos) (fun σ H Q => ES p d σ H ∧ Q (.bl (fl n)) H) := by
  obtain ⟨hg, hdb, c, hm, hk⟩ := k.cl n hn
  refine (pe_callB (call_isP k.px) k.gi k.mi PyProof.Rows.boot_isinstance (pa_cons k.e (pa_cons (pe_glob (v := .ref c) hg hm rfl hdb) pa_nil))).imp fun σ H Q q => ?_
  obtain ⟨⟨h0, fs, hd⟩, q⟩ := q
  exact ⟨_, h0, c, fl n, fs, rfl, hd, hk, q⟩
theorem pa_iss (k : KX X p D d fl) : ∀ (ns : List Str) (es : List Expr), (∀ n ∈ ns, n ∈ kAll) → mIss ns es = true → PA X es (fun σ H Q => ES p d σ H ∧ Q (ns.map fun n => V.bl (fl n)) H)
  | [], [], _, _ => pa_nil.imp fun σ H Q q => q.2
  | n :: ns, e :: es, hs, h => by
    simp only [mIss, Bool.and_eq_true] at h
    obtain ⟨_, _, _, _, rfl⟩ := is_shape h.1
    exact (pa_cons (pe_is k (hs n (by simp))) (pa_iss k ns es (fun m hm => hs m (by simp [hm])) h.2)).imp fun σ H Q q => ⟨q.1, q.1, q.2⟩
  | [], _ :: _, _, h => by simp [mIss] at h
  | _ :: _, [], _, h => by simp [mIss] at h
def mF0 (ns : List Str) : Stmt → Bool
  | .Assign [.Name t _] (.List es _) _ => decide (t = "_law_flags") && mIss ns es
  | _ => false
def mF (ns : List Str) : Stmt → Bool
  | .Assign [.Name t _] (.BinOp (.Name u _) .Add (.List es _) _) _ => decide (t = "_law_flags") && (decide (u = "_law_flags") && mIss ns es)
  | _ => false
def flV (fl : Str → Bool) (ns : List Str) : List V := ns.map fun n => V.bl (fl n)
theorem ps_f0 (k : KX X p D d fl) {ns : List Str} {st : Stmt} (hs : ∀ n ∈ ns, n ∈ kAll) (hl : ns.length ≤ 100) (h : mF0 ns st = true) :
    PS X st (fun Dn σ H => ES p d σ H ∧ ∀ a H', DL.Le H H' → H' a = some (.lst (flV fl ns)) → Dn.nx (σ.set 1 (some (.ref a))) H') := by
  unfold mF0 at h
  split at h
  · simp only [Bool.and_eq_true, decide_eq_true_eq] at h
    obtain ⟨rfl, h⟩ := h
    refine (ps_set (i := 1) k.nd (by rw [k.N]; rfl) (.inl (k.loc _ (by simp))) (pe_lst (pa_iss k ns _ hs h)) (by rfl) (.inr (k.loc _ (by simp)))).imp fun Dn σ H q => ?_
    refine ⟨q.1, ?_, fun a ha => q.2 a _ (DL.le_upd ha) upd_same⟩
    rw [List.length_map]
    exact Nat.le_trans hl (by decide)
  · cases h
theorem ps_f (k : KX X p D d fl) {ns : List Str} {st : Stmt} (hs : ∀ n ∈ ns, n ∈ kAll) (hl : ns.length ≤ 100) (h : mF ns st = true) :
    PS X st (fun Dn σ H => ES p d σ H ∧ ∃ a old, σ[1]? = some (some (.ref a)) ∧ H a = some (.lst old) ∧ old.length ≤ 100 ∧ ∀ b H', DL.Le H H' → H' b = some (.lst (old ++ flV fl ns)) → Dn.nx (σ.set 1 (some (.ref b))) H') := by
  unfold mF at h
  split at h
  · simp only [Bool.and_eq_true, decide_eq_true_eq] at h
    obtain ⟨rfl, rfl, h⟩ := h
    refine (ps_set (i := 1) k.nd (by rw [k.N]; rfl) (.inl (k.loc _ (by simp))) (pe_op op_cat k.flags (pe_lst (pa_iss k ns _ hs h))) (by rfl) (.inr (k.loc _ (by simp)))).imp fun Dn σ H q => ?_
    obtain ⟨es, a, old, e1, ha, ho, q⟩ := q
    refine ⟨_, e1, es, ?_, fun b hb => ?_⟩
    · rw [List.length_map]
      exact Nat.le_trans hl (by decide)
    · have ne : a ≠ b := fun z => by rw [z, hb] at ha; cases ha
      refine ⟨a, b, old, _, rfl, rfl, by rw [upd_ne ne]; exact ha, upd_same, ?_, fun c hc => q c _ (fun x o hx => ?_) upd_same⟩
      · rw [List.length_map]
        exact Nat.le_trans (Nat.add_le_add ho hl) (by decide)
      · exact DL.le_upd hc x o (DL.le_upd hb x o hx)
  · cases h
def mW0 (z : Str) : Stmt → Bool
  | .Assign [.Name t _] (.Constant (.str y) _ _) _ => decide (t = "_law_words") && decide (y = z)
  | _ => false
def mW (z : Str) : Stmt → Bool
  | .Assign [.Name t _] (.BinOp (.Name u _) .Add (.Constant (.str y) _ _) _) _ => decide (t = "_law_words") && (decide (u = "_law_words") && decide (y = z))
  | _ => false
theorem ps_w0 (k : KX X p D d fl) {z : Str} {st : Stmt} (h : mW0 z st = true) : PS X st (fun Dn σ H => Dn.nx (σ.set 2 (some (.str z))) H) := by
  unfold mW0 at h
  split at h
  · simp only [Bool.and_eq_true, decide_eq_true_eq] at h
    obtain ⟨rfl, rfl⟩ := h
    exact ps_set (i := 2) k.nd (by rw [k.N]; rfl) (.inl (k.loc _ (by simp))) pe_str (by rfl) (.inr (k.loc _ (by simp)))
  · cases h
theorem ps_w (k : KX X p D d fl) {z : Str} {st : Stmt} (h : mW z st = true) : PS X st (fun Dn σ H => ∃ y, σ[2]? = some (some (.str y)) ∧ y.length + z.length ≤ sizeLine ∧ Dn.nx (σ.set 2 (some (.str (y ++ z)))) H) := by
  unfold mW at h
  split at h
  · simp only [Bool.and_eq_true, decide_eq_true_eq] at h
    obtain ⟨rfl, rfl, rfl⟩ := h
    refine (ps_set (i := 2) k.nd (by rw [k.N]; rfl) (.inl (k.loc _ (by simp))) (pe_op op_add_str k.words pe_str) (by rfl) (.inr (k.loc _ (by simp)))).imp fun Dn σ H q => ?_
    obtain ⟨y, e, hl, q⟩ := q
    exact ⟨_, e, y, _, rfl, rfl, hl, q⟩
  · cases h
/-! the words whose flag stands -/
def pick (ws : List Str) (bs : List Bool) : List Str := ((ws.zip bs).filter (·.2)).map (·.1)
theorem pick_snoc {ws : List Str} {bs : List Bool} {i : Nat} {x : Str} {y : Bool} (hx : ws[i]? = some x) (hy : bs[i]? = some y) : pick (ws.take (i + 1)) (bs.take (i + 1)) = pick (ws.take i) (bs.take i) ++ (if y = true then [x] else []) := by
  have h1 : i < ws.length := (List.getElem?_eq_some_iff.mp hx).1
  have h2 : i < bs.length := (List.getElem?_eq_some_iff.mp hy).1
  have e1 : ws.take (i + 1) = ws.take i ++ [x] := by rw [List.take_succ, hx]; rfl
  have e2 : bs.take (i + 1) = bs.take i ++ [y] := by rw [List.take_succ, hy]; rfl
  unfold pick
  rw [e1, e2, List.zip_append (by simp; omega), List.filter_append, List.map_append]
  cases y <;> simp
theorem wipe_two {σ : L2.St} {v u : V} : wipe (((wipe σ [4, 5]).set 4 (some v)).set 5 (some u)) [4, 5] = wipe σ [4, 5] := by
  simp only [wipe]
  apply List.ext_getElem?
  intro j
  simp only [List.getElem?_set, List.length_set]
  split <;> rename_i h
  · subst h; simp
  · split <;> rename_i h2
    · subst h2; simp
    · rfl
theorem lc_pick {K : PySem.W.Frag} {a b D : Addr} {ws : List Str} {bs : List Bool} {σ : L2.St} {H1 : Hp} {Qd : Hp → Prop} (hl : ws.length = bs.length) (ha : H1 a = some (.lst (ws.map V.str))) (hb : H1 b = some (.lst (bs.map V.bl))) (hD : H1 D = none) (hz : ws.length < sizeLine) (hσ : 5 < σ.length)
    (hq : ∀ H', DL.Le H1 H' → H' D = some (.lst ((pick ws bs).map V.str)) → Qd H') :
    ∃ W : Nat → Nat → Hp → Prop, (∃ m, W 0 m (upd H1 D (.lst []))) ∧ ∀ i m H, W i m H → ((Itz K a b).stop i H ∧ Qd H) ∨ ((Itz K a b).go i H ∧ ∃ Nx : Hp → Prop, (∀ H', Nx H' → ∃ m', m' < m ∧ W (i + 1) m' H') ∧
      ∀ x H', (Itz K a b).yld i H x H' → gTup K 2 (gCons (gName 4) (gCons (gName 5) gNil)) x (wipe σ [4, 5]) H' fun σ2 H2 => wipe σ2 [4, 5] = wipe σ [4, 5] ∧ tB (tVar 5) σ2 H2 fun c H3 =>
        if c = true then tVar 4 σ2 H3 fun y H4 => ∃ acc, H4 D = some (.lst acc) ∧ acc.length < sizeLine ∧ Nx (upd H4 D (.lst (acc ++ [y]))) else Nx H3) := by
  let Inv' : Nat → Hp → Prop := fun i H => i ≤ ws.length ∧ DL.Le H1 H ∧ H D = some (.lst ((pick (ws.take i) (bs.take i)).map V.str))
  refine ⟨fun i m H => m = ws.length - i ∧ Inv' i H, ⟨_, rfl, Nat.zero_le _, DL.le_upd hD, by simp [upd_same, pick]⟩, ?_⟩
  rintro i m H ⟨rfl, hi, le, hd⟩
  have qa : SqL K H a (ws.map V.str) := .inl (.inl (le a _ ha))
  have qb : SqL K H b (bs.map V.bl) := .inl (.inl (le b _ hb))
  by_cases lt : i < ws.length
  · obtain ⟨x, hx⟩ : ∃ x, ws[i]? = some x := ⟨_, List.getElem?_eq_getElem lt⟩
    obtain ⟨y, hy⟩ : ∃ y, bs[i]? = some y := ⟨_, List.getElem?_eq_getElem (by omega)⟩
    have hx' : (ws.map V.str)[i]? = some (.str x) := by rw [List.getElem?_map, hx]; rfl
    have hy' : (bs.map V.bl)[i]? = some (.bl y) := by rw [List.getElem?_map, hy]; rfl
    refine .inr ⟨⟨_, _, _, _, qa, qb, hx', hy'⟩, Inv' (i + 1), fun H' p' => ⟨ws.length - (i + 1), by omega, rfl, p'⟩, fun v H' yl => ?_⟩
    obtain ⟨T, x1, y1, rfl, hT, rfl, ex, ey⟩ := yl
    have e1 := ex _ qa
    have e2 := ey _ qb
    rw [hx'] at e1
    rw [hy'] at e2
    obtain rfl : V.str x = x1 := Option.some.inj e1
    obtain rfl : V.bl y = y1 := Option.some.inj e2
    have nT : D ≠ T := fun z => by rw [z, hT] at hd; cases hd
    have step := pick_snoc hx hy
    have le2 : DL.Le H1 (upd H T (.tup [.str x, .bl y])) := fun c o hc => DL.le_upd hT c o (le c o hc)
    have small : (pick (ws.take i) (bs.take i)).length < sizeLine := by
      have h1 : (pick (ws.take i) (bs.take i)).length ≤ ((ws.take i).zip (bs.take i)).length := by
        unfold pick
        rw [List.length_map]
        exact List.length_filter_le _ _
      rw [List.length_zip, List.length_take] at h1
      omega
    refine ⟨T, _, rfl, .inl (.inl upd_same), rfl, _, _, rfl, _, _, rfl, rfl, wipe_two, .bl y, ?_, y, rfl, ?_⟩
    · simp only [List.getElem?_set, List.length_set, wipe]
      simp [hσ]
    · cases y with
      | true =>
        rw [if_pos rfl]
        refine ⟨.str x, ?_, (pick (ws.take i) (bs.take i)).map V.str, by rw [upd_ne nT]; exact hd, by rw [List.length_map]; exact small, lt, ?_, ?_⟩
        · simp only [List.getElem?_set, List.length_set, wipe]
          simp
          omega
        · intro c o hc
          have nc : c ≠ D := fun z => by rw [z, hD] at hc; cases hc
          rw [upd_ne nc]
          exact le2 c o hc
        · rw [upd_same, step, if_pos rfl, List.map_append]
          rfl
      | false =>
        rw [if_neg Bool.false_ne_true]
        refine ⟨lt, le2, ?_⟩
        rw [upd_ne nT, hd, step, if_neg Bool.false_ne_true, List.append_nil]
  · have e : i = ws.length := by omega
    subst e
    refine .inl ⟨⟨_, _, qa, qb, .inl (by simp)⟩, hq H le ?_⟩
    rw [hd, List.take_of_length_le (Nat.le_refl _), List.take_of_length_le (by omega)]
def mBlk (scope : Scope) : Bool := blkC kN { scope with names := [] } scope [("_law_one", 4), ("_law_here", 5)] && (decide (scope.names.lookup ("_law_one" : Str) = some .local) && decide (scope.names.lookup ("_law_here" : Str) = some .local))
theorem blk_of {scope sc : Scope} (h : mBlk scope = true) : BlkOk kN sc scope [("_law_one", 4), ("_law_here", 5)] ∧ scope.names.lookup ("_law_one" : Str) = some .local ∧ scope.names.lookup ("_law_here" : Str) = some .local := by
  unfold mBlk at h
  simp only [Bool.and_eq_true, decide_eq_true_eq] at h
  obtain ⟨h1, h2, h3⟩ := h
  have b := blkOk_by h1
  refine ⟨⟨b.kind, b.uniq, b.ix, fun y hy e => ?_, b.own⟩, h2, h3⟩
  rcases b.free y hy e with z | z
  · cases z
  · cases z
/-- [_law_one for _law_one, _law_here in zip(_law_words.split(' '), _law_flags) if _law_here] -/
def mComp : Expr → Bool
  | .ListComp (.Name o1 _) [⟨.Tuple [.Name o2 _, .Name h1 _] _ _, .Call (.Name z _) [.Call (.Attribute (.Name w _) s ap) [.Constant (.str sep) _ _] [] cp, .Name f _] [] _, [.Name h2 _], 0⟩] scope _ =>
    decide (o1 = "_law_one") && (decide (o2 = "_law_one") && (decide (h1 = "_law_here") && (decide (h2 = "_law_here") && (decide (z = "zip") && (decide (w = "_law_words") && (decide (s = "split") && (decide (sep = " ") && (decide (f = "_law_flags") && ((ap.endLine == cp.line) && mBlk scope)))))))))
  | _ => false
theorem pe_pick (k : KX X p D d fl) {e : Expr} (h : mComp e = true) : PE X e (fun σ H Q => ∃ words bs a, σ[2]? = some (some (.str words)) ∧ words.length + 2 ≤ sizeLine ∧ σ[1]? = some (some (.ref a)) ∧ H a = some (.lst (bs.map V.bl)) ∧ (Txt.split words " ").length = bs.length ∧ bs.length < sizeLine ∧ 5 < σ.length ∧
    ∀ D' H', DL.Le H H' → H' D' = some (.lst ((pick (Txt.split words " ") bs).map V.str)) → Q (.ref D') H') := by
  unfold mComp at h
  split at h
  · rename_i o1 _ o2 _ h1 _ _ _ z _ w _ s ap sep _ _ cp f _ _ h2 _ scope _
    simp only [Bool.and_eq_true, decide_eq_true_eq] at h
    obtain ⟨rfl, rfl, rfl, rfl, rfl, rfl, rfl, rfl, rfl, hap, hb⟩ := h
    obtain ⟨ok, l1, l2⟩ := blk_of (sc := X.env.scope) hb
    rw [← k.N] at ok
    refine (pe_lcZ (g := gTup X.K 2 (gCons (gName 4) (gCons (gName 5) gNil))) (tt := tB (tVar 5)) (te := tVar 4) (own := [("_law_one", 4), ("_law_here", 5)]) k.px.hot k.px.mem k.nd
      (piz_zip k.gz k.mz (pa_cons (pe_split k.words pe_str (by rfl) (by rfl) hap) (pa_cons k.flags pa_nil)) (by rfl) (by rfl)) ok
      (fun s H C cl fp => pgz_tup (X := X.blk s H scope (compEnvC scope cl C X.env) fp) (n := 2) (pgs_cons (pg_name (X := X.blk s H scope (compEnvC scope cl C X.env) fp) (i := 4) (by exact k.nd) (by show X.N[4]? = _; rw [k.N]; rfl) (.inl (lookup_relabel_local l1)) (.inr (lookup_relabel_local l1))) (pgs_cons (pg_name (X := X.blk s H scope (compEnvC scope cl C X.env) fp) (i := 5) (by exact k.nd) (by show X.N[5]? = _; rw [k.N]; rfl) (.inl (lookup_relabel_local l2)) (.inr (lookup_relabel_local l2))) pgs_nil)) (by rfl) (by rfl))
      (fun s H C cl fp => pts_one (pt_val (pe_var (X := X.blk s H scope (compEnvC scope cl C X.env) fp) (i := 5) (by show X.N[5]? = _; rw [k.N]; rfl) (.inl (lookup_relabel_local l2)))))
      (fun s H C cl fp => pe_var (X := X.blk s H scope (compEnvC scope cl C X.env) fp) (i := 4) (by show X.N[4]? = _; rw [k.N]; rfl) (.inl (lookup_relabel_local l1))) (by intro _; rfl)).imp fun σ H Q q => ?_
    obtain ⟨words, bs, a, e2, hw, e1, ha, hl, hz, hσ, q⟩ := q
    refine ⟨_, e2, ⟨_, rfl⟩, _, _, rfl, rfl, by rfl, hw, fun sp hsp => ?_⟩
    have nA : a ≠ sp := fun z => by rw [z, hsp] at ha; cases ha
    refine ⟨_, e1, sp, a, _, bs.map V.bl, rfl, .inl (.inl upd_same), .inl (.inl (by rw [upd_ne nA]; exact ha)), fun D' hD' => ?_⟩
    refine lc_pick hl upd_same (by rw [upd_ne nA]; exact ha) hD' (by omega) hσ fun H' le hd => q D' H' (fun c o hc => le c o (DL.le_upd hsp c o hc)) hd
  · cases h
def mFound : Stmt → Bool
  | .Assign [.Name t _] (.Call (.Attribute (.Constant (.str sep) _ _) j ap) [e] [] cp) _ => decide (t = "_law_found") && (decide (sep = "+") && (decide (j = "join") && ((ap.endLine == cp.line) && mComp e)))
  | _ => false
theorem ps_found (k : KX X p D d fl) {st : Stmt} (h : mFound st = true) : PS X st (fun Dn σ H => ∃ words bs a, σ[2]? = some (some (.str words)) ∧ words.length + 2 ≤ sizeLine ∧ σ[1]? = some (some (.ref a)) ∧ H a = some (.lst (bs.map V.bl)) ∧ (Txt.split words " ").length = bs.length ∧ bs.length < sizeLine ∧ 5 < σ.length ∧
    ((pick (Txt.split words " ") bs).map (·.length)).sum + (pick (Txt.split words " ") bs).length * 1 ≤ 16777216 ∧ ∀ H', DL.Le H H' → Dn.nx (σ.set 3 (some (.str (Txt.join "+" (pick (Txt.split words " ") bs))))) H') := by
  unfold mFound at h
  split at h
  · rename_i t0 _ sep0 _ _ j0 ap e cp _
    simp only [Bool.and_eq_true, decide_eq_true_eq] at h
    obtain ⟨rfl, rfl, rfl, hap, h⟩ := h
    have hst : starEach [e] X.env = [(false, eval e X.env)] := by
      unfold mComp at h
      split at h
      · rfl
      · cases h
    refine (ps_set (i := 3) k.nd (by rw [k.N]; rfl) (.inl (k.loc _ (by simp))) (pe_join pe_str (pe_pick k h) hst (by rfl) hap) (by rfl) (.inr (k.loc _ (by simp)))).imp fun Dn σ H q => ?_
    obtain ⟨words, bs, a, e2, hw, e1, ha, hl, hz, hσ, hj, q⟩ := q
    exact ⟨⟨_, rfl⟩, words, bs, a, e2, hw, e1, ha, hl, hz, hσ, fun D' H' le hd => ⟨_, _, _, rfl, rfl, .inl (.inl (.inl hd)), hj, q H' le⟩⟩
  · cases h
def mRet : Stmt → Bool
  | .Return (some (.IfExp (.Compare (.Attribute (.Name e _) w _) [.Eq] [.Name f1 _] _) (.Name f2 _) (.BinOp (.Name f3 _) .Add (.Constant (.str q) _ _) _) _)) _ => decide (e = "_law_e") && (decide (w = "word") && (decide (f1 = "_law_found") && (decide (f2 = "_law_found") && (decide (f3 = "_law_found") && decide (q = "?")))))
  | _ => false
theorem ps_kret (k : KX X p D d fl) {st : Stmt} (h : mRet st = true) : PS X st (fun Dn σ H => σ[0]? = some (some (.ref p.1)) ∧ ∃ fs z, H d = some (.xd fs) ∧ fs.lookup ("word" : Str) = some (.str z) ∧ σ[3]? = some (some (.str z)) ∧ Dn.rt (.str z) H) := by
  unfold mRet at h
  split at h
  · simp only [Bool.and_eq_true, decide_eq_true_eq] at h
    obtain ⟨rfl, rfl, rfl, rfl, rfl, rfl⟩ := h
    refine (ps_ret (pe_ifExp (pt_cmpR op_eq (pe_xp k.px k.T k.no k.e (by rfl)) k.found (by rfl)) k.found (pe_op op_add_str k.found pe_str))).imp fun Dn σ H q => ?_
    obtain ⟨h0, fs, z, hd, hw, h3, q⟩ := q
    refine ⟨_, h0, rfl, fs, _, hd, hw, _, h3, by rfl, true, by simp, ?_⟩
    exact ⟨_, h3, q⟩
  · cases h
end
end DH

/-! DN: _law_kind keeps its promise. -/
namespace DH
open PySem PySem.Spec PyProof.Rows HotX L2 L2H

def kW0 : Str := "badmark badletters badroom badarrow badword badsize badpattern badtable badtree "
def kW1 : Str := "badtext badname baddeed badpage taken full unlike notdear inuse toowide "
def kW2 : Str := "noarrow noname notraveller nothingleft"
def kWords : List Str := ["badmark", "badletters", "badroom", "badarrow", "badword", "badsize", "badpattern", "badtable", "badtree", "badtext", "badname", "baddeed", "badpage", "taken", "full", "unlike", "notdear", "inuse", "toowide", "noarrow", "noname", "notraveller", "nothingleft"]
theorem kW_split : Txt.split (kW0 ++ kW1 ++ kW2) " " = kWords := by decide +kernel
def mKind : List Stmt → Bool
  | [s0, s1, s2, s3, s4, s5, s6, s7, w0, w1, w2, f, r] => mF0 (kGroup 0) s0 && (mF (kGroup 1) s1 && (mF (kGroup 2) s2 && (mF (kGroup 3) s3 && (mF (kGroup 4) s4 && (mF (kGroup 5) s5 && (mF (kGroup 6) s6 && (mF (kGroup 7) s7 && (mW0 kW0 w0 && (mW kW1 w1 && (mW kW2 w2 && (mFound f && mRet r)))))))))))
  | _ => false
/-- the class D, as _law_kind looks at it -/
structure KC (K : PySem.W.Frag) (mg : Str → Option Value) (D : Addr) (fl : Str → Bool) : Prop where
  C : ExcC K D
  T : XfC K D
  no : PySem.W.findIn K (.ref D) "word" = some none
  cl : ∀ n ∈ kAll, ∃ c, mg n = some (.ref c) ∧ PySem.W.kitOne K (.ref D) (.ref c) = some (fl n)
def kPick (fl : Str → Bool) : List Str := pick kWords (kAll.map fl)
def spKind (K : PySem.W.Frag) (mg : Str → Option Value) (p : Addr × Obj) : Sp := fun vs H Q _ => ∃ (D d : Addr) (fs : List (Str × V)) (z : Str) (fl : Str → Bool), vs = [.ref p.1] ∧ p.2.cls = .ref D ∧ p.2.dict = some d ∧ H d = some (.xd fs) ∧ fs.lookup ("word" : Str) = some (.str z) ∧
  KC K mg D fl ∧ kPick fl = [z] ∧ z.length ≤ 100 ∧ ∀ H', DL.Le H H' → Q (.str z) H'
theorem flV_len {fl : Str → Bool} {ns : List Str} : (flV fl ns).length = ns.length := List.length_map ..
theorem join_one (z : Str) : Txt.join "+" [z] = z := by
  unfold Txt.join
  first | rfl | simp
section
variable {P : Program} {w : World} {K : PySem.W.Frag} {mg : Str → Option Value} {base : Heap} {k : Nat} {x qual : Str} {st : Stmt} {f : Addr} {fd : FuncData}
theorem kind_ok (Fn : Fun K x qual st f fd) (Sc : FnScope kN ["_law_e"] (defScope st)) (hm : mKind (defBody st) = true)
    (hl : (["_law_e", "_law_flags", "_law_words", "_law_found"] : List Str).all (fun n => decide ((defScope st).names.lookup n = some .local)) = true)
    (hg : (kAll ++ (["isinstance", "zip"] : List Str)).all (fun n => decide ((defScope st).names.lookup n = some .globalImplicit)) = true) (mi : mg "isinstance" = none) (mz : mg "zip" = none) :
    FnP P w K mg base (L2N.CX P w) (k + 1) f fd ["_law_e"] (spKind K mg) := by
  obtain ⟨oc, od, kV, doc, pm, an, cdv, ct, osl, rfl, lk, hcd⟩ := Fn.ex
  refine fn_ofP lk hcd Sc (fun p vs H Q E h => ?_) fun p A outer s H vs Q E hot hr h => ?_
  · obtain ⟨_, _, _, _, _, rfl, _⟩ := h
    rfl
  · obtain ⟨D, d, fs, z, fl, rfl, hc, hd, hH, hw, kc, hz, hs, q⟩ := h
    have ndb : ∀ n ∈ kAll, (n == ("__debug__" : Str)) = false := by decide +kernel
    rw [List.all_eq_true] at hl hg
    have gl : ∀ n ∈ kAll ++ (["isinstance", "zip"] : List Str), (defScope st).names.lookup n = some .globalImplicit := fun n hn => of_decide_eq_true (hg n hn)
    have kx : KX (cxH (L2N.CX P w) P w K mg base kN qual (defScope st) f cdv A outer s H E p) p D d fl :=
      { px := ⟨hot, by exact List.mem_singleton.mpr rfl, hc, hd, kc.C⟩, N := rfl, loc := fun n hn => of_decide_eq_true (hl n hn), cl := fun n hn => ⟨gl n (List.mem_append_left _ hn), ndb n hn, kc.cl n hn⟩,
        gi := gl _ (by simp), mi := mi, gz := gl _ (by simp), mz := mz, T := kc.T, no := kc.no, un := by have := hr.un; show (A.deeper _).units + 64 < cLine; omega }
    unfold mKind at hm
    split at hm
    · rename_i s0 s1 s2 s3 s4 s5 s6 s7 w0 w1 w2 sf sr hb
      simp only [Bool.and_eq_true] at hm
      obtain ⟨m0, m1, m2, m3, m4, m5, m6, m7, n0, n1, n2, mf, mr⟩ := hm
      rw [hb]
      have sub := kGroup_sub
      refine ⟨_, pss_cons (ps_f0 kx (sub 0) (by decide) m0) (pss_cons (ps_f kx (sub 1) (by decide) m1) (pss_cons (ps_f kx (sub 2) (by decide) m2) (pss_cons (ps_f kx (sub 3) (by decide) m3) (pss_cons (ps_f kx (sub 4) (by decide) m4)
        (pss_cons (ps_f kx (sub 5) (by decide) m5) (pss_cons (ps_f kx (sub 6) (by decide) m6) (pss_cons (ps_f kx (sub 7) (by decide) m7) (pss_cons (ps_w0 kx n0) (pss_cons (ps_w kx n1) (pss_cons (ps_w kx n2) (pss_cons (ps_found kx mf) (pss_one (ps_kret kx mr))))))))))))), ?_⟩
      have es : ∀ {H1 : Hp} {t : L2.St}, DL.Le H H1 → t[0]? = some (some (.ref p.1)) → ES p d t H1 := fun le h0 => ⟨h0, fs, le _ _ hH⟩
      have tr : ∀ {H1 H2 H3 : Hp}, DL.Le H1 H2 → DL.Le H2 H3 → DL.Le H1 H3 := fun a b c o e => b c o (a c o e)
      refine ⟨es (fun _ _ e => e) rfl, fun a0 H0 l0 h0 => ⟨es l0 rfl, a0, _, rfl, h0, by simp only [List.length_append, flV_len]; decide, fun a1 H1 l1 h1 => ?_⟩⟩
      replace l1 := tr l0 l1
      refine ⟨es l1 rfl, a1, _, rfl, h1, by simp only [List.length_append, flV_len]; decide, fun a2 H2 l2 h2 => ?_⟩
      replace l2 := tr l1 l2
      refine ⟨es l2 rfl, a2, _, rfl, h2, by simp only [List.length_append, flV_len]; decide, fun a3 H3 l3 h3 => ?_⟩
      replace l3 := tr l2 l3
      refine ⟨es l3 rfl, a3, _, rfl, h3, by simp only [List.length_append, flV_len]; decide, fun a4 H4 l4 h4 => ?_⟩
      replace l4 := tr l3 l4
      refine ⟨es l4 rfl, a4, _, rfl, h4, by simp only [List.length_append, flV_len]; decide, fun a5 H5 l5 h5 => ?_⟩
      replace l5 := tr l4 l5
      refine ⟨es l5 rfl, a5, _, rfl, h5, by simp only [List.length_append, flV_len]; decide, fun a6 H6 l6 h6 => ?_⟩
      replace l6 := tr l5 l6
      refine ⟨es l6 rfl, a6, _, rfl, h6, by simp only [List.length_append, flV_len]; decide, fun a7 H7 l7 h7 => ?_⟩
      replace l7 := tr l6 l7
      refine ⟨kW0, rfl, by decide +kernel, kW0 ++ kW1, rfl, by decide +kernel, ?_⟩
      refine ⟨kW0 ++ kW1 ++ kW2, kAll.map fl, a7, rfl, by decide +kernel, rfl, by rw [h7]; rfl, by rw [kW_split, List.length_map]; decide +kernel, by rw [List.length_map]; decide +kernel, by simp only [List.length_set]; show 5 < 6; decide, ?_, fun H8 l8 => ?_⟩
      · have e : pick (Txt.split (kW0 ++ kW1 ++ kW2) " ") (kAll.map fl) = [z] := by rw [kW_split]; exact hz
        rw [e]
        simp
        omega
      · have e : pick (Txt.split (kW0 ++ kW1 ++ kW2) " ") (kAll.map fl) = [z] := by rw [kW_split]; exact hz
        rw [e, join_one]
        exact ⟨rfl, fs, z, tr l7 l8 _ _ hH, hw, rfl, q H8 (tr l7 l8)⟩
    · cases hm
end
end DH

/-! DO: try with several clauses, each with a name, tests of one class or of three. -/
namespace DH
open PySem PySem.Spec PyProof.Rows HotX L2 L2H PySem.W

/-- a clause's test, asked of the exception that is handled: it may lay new objects, nothing else -/
def Tst (X : Cx) (te : Expr) (chk : Value → Option Bool) : Prop := ∀ (a : Addr) (oe : Obj) (pn : List (Addr × Obj)) (s : Shared) (σ : L2.St) (H : Hp) (b : Bool) (Q : Value → Shared → Prop) (E : Value → Shared → Prop),
  Inv (X.suite a ((a, oe) :: pn)) [] σ H s → chk oe.cls = some b → (∀ c h, (∀ d o, s.heap.get? d = some o → h.get? d = some o) → Looks (model X.prog X.w) h (excMatches (.ref a) c) b → Q c { s with heap := h }) →
  wpAny (model X.prog X.w) (X.A.mark (some (.ref a))) (eval te X.env) Q E s
section
variable {X : Cx}
theorem exc_type {M : Model} {h : Heap} {a : Addr} {oe : Obj} (g : h.get? a = some oe) : Looks M h (typeOf (.ref a)) oe.cls := fun A Q E s k q => wpAny_typeOf_ref (k _ _ g) q
theorem suite_pin {a : Addr} {oe : Obj} {pn : List (Addr × Obj)} {s : Shared} {σ : L2.St} {H : Hp} (I : Inv (X.suite a ((a, oe) :: pn)) [] σ H s) : s.heap.get? a = some oe := (I.pin (a, oe) (List.mem_append_left _ List.mem_cons_self)).1
theorem tst_one {x : Str} {c : Value} {np : Pos} (hc : Names X x c) : Tst X (.Name x np) (fun cls => exmOne X.K cls c) := fun a oe pn s σ H b Q E I hb q => by
  have found := q c s.heap (fun _ _ e => e) (exm_one (M := model X.prog X.w) I.kIn (exc_type (suite_pin I)) hb)
  obtain ⟨hg, hdb, hm | ⟨hm, hv, hn⟩⟩ := hc
  · exact ld_glob (X := X.suite a ((a, oe) :: pn)) I hg hm found hdb
  · exact ld_blt (X := X.suite a ((a, oe) :: pn)) I hg hm hv found hn hdb
theorem name_in {x : Str} {c : Value} {np : Pos} {a : Addr} {oe : Obj} {pn : List (Addr × Obj)} {s : Shared} {σ : L2.St} {H : Hp} {Q : Value → Shared → Prop} {E : Value → Shared → Prop} (hc : Names X x c) (I : Inv (X.suite a ((a, oe) :: pn)) [] σ H s) (q : Q c s) :
    wpAny (model X.prog X.w) (X.A.mark (some (.ref a))) (eval (.Name x np) X.env) Q E s := by
  obtain ⟨hg, hdb, hm | ⟨hm, hv, hn⟩⟩ := hc
  · exact ld_glob (X := X.suite a ((a, oe) :: pn)) I hg hm q hdb
  · exact ld_blt (X := X.suite a ((a, oe) :: pn)) I hg hm hv q hn hdb
theorem tst_tup3 {x y z : Str} {c1 c2 c3 : Value} {k : Nat} {p1 p2 p3 pos : Pos} (h1 : Names X x c1) (h2 : Names X y c2) (h3 : Names X z c3) : Tst X (.Tuple [.Name x p1, .Name y p2, .Name z p3] k pos) (fun cls => exmAny X.K cls [c1, c2, c3]) := fun a oe pn s σ H b Q E I hb q => by
  refine wpAny_Tuple_spliced ?_
  show wpAny _ _ (spliced [(false, eval (.Name x p1) X.env), (false, eval (.Name y p2) X.env), (false, eval (.Name z p3) X.env)]) _ _ _
  refine Calls.spliced_cons (name_in h1 I (Calls.spliced_cons (name_in h2 I (Calls.spliced_cons (name_in h3 I (Calls.spliced_nil ⟨by show 3 ≤ sizeLine; decide, q _ _ (fun _ _ e => Heap.get?_push_of_some _ e) ?_⟩))))))
  have keeps : ∀ d o, s.heap.get? d = some o → (s.heap.push { cls := .type "tuple", data := .seq [c1, c2, c3].toArray }).get? d = some o := fun _ _ e => Heap.get?_push_of_some _ e
  exact exm_tup3 (I.kIn.keeps keeps) (exc_type (keeps _ _ (suite_pin I))) (Heap.get?_push_size _ rfl) hb
end
abbrev TsX := Addr → Value → Option Addr → TS
def endsAt (D : Ends) (i : Nat) : Ends := { nx := fun σ H => D.nx (σ.set i none) H, rt := D.rt, bk := fun σ H => D.bk (σ.set i none) H, ct := fun σ H => D.ct (σ.set i none) H }
def wCls (Wout : WX) (D : Ends) (i : Nat) : List ((Value → Option Bool) × TsX) → WX
  | [] => Wout
  | (chk, ts) :: r => fun cls d σ H => ∃ b, chk cls = some b ∧ (b = true → ∀ a, H a = none → i < σ.length → ts a cls d (endsAt D i) (σ.set i (some (.ref a))) H) ∧ (b = false → wCls Wout D i r cls d σ H)
inductive ClsOk (X : Cx) (n : Str) : List ExceptHandler → List ((Value → Option Bool) × TsX) → Prop
  | nil : ClsOk X n [] []
  | cons {te : Expr} {chk : Value → Option Bool} {ts : TsX} {b₀ : Stmt} {suite : List Stmt} {pos : Pos} {hds : List ExceptHandler} {l : List ((Value → Option Bool) × TsX)} (ht : Tst X te chk)
      (hsu : ∀ (a : Addr) (oe : Obj) (d : Option Addr) (pn : List (Addr × Obj)), oe.dict = d → (∃ vs, oe.data = .fields vs ∧ vs[2]? = some .none) → PSs (X.suite a ((a, oe) :: pn)) (b₀ :: suite) (ts a oe.cls d)) (r : ClsOk X n hds l) :
      ClsOk X n (.ExceptHandler (some te) (some n) (b₀ :: suite) pos :: hds) ((chk, ts) :: l)
theorem flying_keeps {B h h' : Heap} {l : List Env} {a : Addr} {Z : Obj → Prop} (f : HandSPX.FlyingZ B l a Z h) (k : ∀ b o, h.get? b = some o → h'.get? b = some o) : HandSPX.FlyingZ B l a Z h' := by
  obtain ⟨f1, f2, f3, oe, vs, T, oT, ts, g1, g2, g3, g4, g5, g6, g7, g8⟩ := f
  exact ⟨fun b o e => k b o (f1 b o e), f2, f3.of_keeps fun b o e _ => ⟨o, k b o e, rfl⟩, oe, vs, T, oT, ts, k _ _ g1, g2, g3, g4, g5, g6, k _ _ g7, g8⟩
section
variable {X : Cx} {n : Str} {i : Nat} {body : List Stmt} {c₀ : ExceptHandler} {cs : List ExceptHandler} {l : List ((Value → Option Bool) × TsX)} {pos : Pos} {tb : WX → TS} {Wout : WX}
/-- the clauses are gone through: the exception flies in s, what is tracked was so in sI -/
theorem clauses_ok {pins : List (Addr × Obj)} {σ : L2.St} {H : Hp} {sI s : Shared} {B : Heap} {a : Addr} {cls : Value} {d : Option Addr} {D : Ends} (hs : X.stack = X.env :: X.outer) (hf : X.env.frame = some X.env.locals) (hN : X.N.Nodup) (hi : X.N[i]? = some n) (hln : X.env.kindOf n = some .local) (tk : L2N.Takes X Wout)
    (ok : X.Ok) (J : Inv X pins σ H sI) (below : ∀ b o, sI.heap.get? b = some o → b ∉ frs X.stack → B.get? b = some o) (na : H a = none) (os : s.os = sI.os) (ag : AllBare s.gens) :
    ∀ {hds : List ExceptHandler} {l : List ((Value → Option Bool) × TsX)}, ClsOk X n hds l → ∀ (h : Heap), HandSPX.FlyingZ B (X.env :: X.outer) a (L2N.Zn cls d) h → sI.heap.UpToSlots h → wCls Wout D i l cls d σ H →
      wpAny (model X.prog X.w) X.A (handleBy (.ref a) X.env hds) (SP X pins D) X.xe { s with heap := h } := by
  intro hds l good
  induction good with
  | nil =>
    intro h fly up wish
    obtain ⟨_, _, _, oe, vs, T, _, _, he, _, hd, h1, _⟩ := id fly
    refine wpAny_handleBy_nil ?_
    unfold PySem.passOn
    refine wpAny_bind (wpAny_field he hd h1 ?_)
    rw [if_neg (show ¬ ((Value.ref T == Value.none) = true) from by simp)]
    have away : wpAny (model X.prog X.w) X.A (setFlight (.ref a) X.env.frame) (fun _ s4 => wpAny (model X.prog X.w) X.A (throw (.ref a) : Sem Flow) (SP X pins D) X.xe s4) X.xe { s with heap := h } := by
      rw [hf]
      exact HandSPX.setFlight_upZ fly fun h4 held up4 => wpAny_throw (tk _ _ ⟨a, B, sI, pins, σ, H, cls, d, rfl, J, below, up.trans up4, .inr (.inr (by rw [hs]; exact held)), na, os, ag, wish⟩)
    first
      | exact wpAny_bind (wpAny_pure (wpAny_bind away))
      | exact wpAny_bind away
  | @cons te chk ts b₀ suite cpos rest l2 ht hsu _ ih =>
    intro h fly up wish
    obtain ⟨b, hb, yes, no⟩ := wish
    have place : ∀ (g : Heap), HandSPX.FlyingZ B (X.env :: X.outer) a (L2N.Zn cls d) g → sI.heap.UpToSlots g → ∃ oe vs, g.get? a = some oe ∧ L2N.Zn cls d oe ∧ oe.data = .fields vs ∧ Inv X pins σ H { s with heap := g } ∧ Inv (X.suite a ((a, oe) :: (X.pn ++ pins))) [] σ H { s with heap := g } := fun g fly up => by
      have Jg : Inv X pins σ H { s with heap := g } := J.landed below fly.1 up os ag
      obtain ⟨oe, vs, he, hz, hd⟩ := fly.there
      have off : a ∉ frs (X.env :: X.outer) := fun hm => by
        obtain ⟨_, o, e, nf⟩ := fly.2.2.1.mem hm
        rw [he] at e
        cases e
        exact nf _ hd
      refine ⟨oe, vs, he, hz, hd, Jg, Jg.suite he hd na (fun z => off (List.mem_filterMap.mpr ⟨X.env, List.mem_cons_self, by rw [hf, z]⟩)) fun hm => ?_⟩
      obtain ⟨e, he, q⟩ := List.mem_filterMap.mp hm
      exact off (List.mem_filterMap.mpr ⟨e, List.mem_cons_of_mem _ he, q⟩)
    obtain ⟨oe, vs, he, hz, hd, Jh, Sh⟩ := place h fly up
    refine wpAny_handleBy_cons (codeAny_handlers_test ?_) (by intro q; cases q)
    refine ht a oe _ _ σ H b _ _ Sh (by rw [hz.1]; exact hb) fun c g keep looks => looks.here ?_
    have fly2 := flying_keeps fly keep
    have up2 : sI.heap.UpToSlots g := up.trans (Heap.UpToSlots.of_keeps keep)
    cases b with
    | false => exact ih g fly2 up2 (no rfl)
    | true =>
      refine codeAny_handlers_suite_as (HandSPX.lands_againZ fly2 fun g4 fly4 up4 => ?_)
      obtain ⟨oe4, vs4, he4, hz4, hd4, J4, S4⟩ := place g4 fly4 (up2.trans up4)
      refine store_ok (X := X.suite a ((a, oe4) :: (X.pn ++ pins))) (v := .ref a) S4 hN hi (.inl hln) rfl (fun s5 S5 => ?_) (.inr hln)
      have run := (hsu a oe4 d (X.pn ++ pins) hz4.2.1 ⟨_, hd4, hz4.2.2 _ hd4⟩).run [] s5 _ H (endsAt D i) S5 (by rw [hz4.1]; exact yes rfl a na (by rw [J.len]; exact (List.getElem?_eq_some_iff.mp hi).1))
      refine wpAny_mono run (fun f s6 fin => ?_) (fun _ _ z => False.elim z)
      have gone : ∀ {σ6 : L2.St} {H6 : Hp} {Q : Shared → Prop}, Inv (X.suite a ((a, oe4) :: (X.pn ++ pins))) [] σ6 H6 s6 → (∀ s7, Inv X pins (σ6.set i none) H6 s7 → Q s7) → wpAny (model X.prog X.w) X.A (do bindName X.env n .none; unbindBehindTheSuite X.env n cpos) (fun _ s7 => Q s7) X.xe s6 :=
        fun S6 hq => gone_ok (S6.unsuite ok) hN hi hln hq
      cases f with
      | next => exact let ⟨_, _, S6, q⟩ := fin; gone S6 fun s7 J7 => ⟨_, _, J7, q⟩
      | brk => exact let ⟨_, _, S6, q⟩ := fin; gone S6 fun s7 J7 => ⟨_, _, J7, q⟩
      | cont => exact let ⟨_, _, S6, q⟩ := fin; gone S6 fun s7 J7 => ⟨_, _, J7, q⟩
      | ret u => exact let ⟨_, _, _, S6, r6, q⟩ := fin; gone S6 fun s7 J7 => ⟨_, _, _, J7, r6, q⟩
theorem ps_clauses (hs : X.stack = X.env :: X.outer) (hf : X.env.frame = some X.env.locals) (hN : X.N.Nodup) (hi : X.N[i]? = some n) (hln : X.env.kindOf n = some .local) (tk : L2N.Takes X Wout)
    (hb : ∀ (W : WX) (pn : List (Addr × Obj)) (xe : Value → Shared → Prop), L2N.Takes (X.tr pn xe) W → PassesOwn (model X.prog X.w) X.A X.env xe → PSs (X.tr pn xe) body (tb W)) (hh : ClsOk X n (c₀ :: cs) l) :
    PS X (.Try body (c₀ :: cs) [] [] pos) (fun D σ H => tb (wCls Wout D i l) D σ H) := ⟨fun pins s σ H D I h => by
  have ok := I.ok
  have frames : X.A.frames = some (X.env :: X.outer) := by rw [ok.frames, hs]
  let caught : Value → Shared → Prop := fun e s1 => wpAny (model X.prog X.w) X.A (noteFrame e X.env) (fun _ s2 => wpAny (model X.prog X.w) X.A (setFlight e none) (fun _ s3 => wpAny (model X.prog X.w) X.A (handleBy e X.env (c₀ :: cs)) (SP X pins D) X.xe s3) X.xe s2) X.xe s1
  have takes : L2N.Takes (X.tr (X.pn ++ pins) caught) (wCls Wout D i l) := fun u s' air => by
    obtain ⟨a, B, sI, pins', σ', H', cls, d, rfl, J', below, up, sky, na, os, ag, wish⟩ := air
    have J : Inv X pins σ' H' sI := J'.ofTry ok
    have sky' : Sky B (X.env :: X.outer) a (L2N.Zn cls d) X.env.locals s'.heap := by rw [← hs]; exact sky
    show wpAny (model X.prog X.w) X.A (noteFrame (.ref a) X.env) _ _ _
    exact L2N.Sky.land L2N.Zn.steady frames hf sky' fun h fly up2 => clauses_ok (s := s') hs hf hN hi hln tk ok J below na os ag hh h fly (up.trans up2) wish
  refine wpAny_Try_except (wpAny_mono ((hb _ (X.pn ++ pins) caught takes PassesOwn.looking).run [] s σ H D (I.toTry _) h) (fun f s1 q => ?_) fun e s1 z => z)
  cases f with
  | next => exact let ⟨_, _, J, q⟩ := q; wpAny_execs_nil ⟨_, _, J.ofTry ok, q⟩
  | brk => exact let ⟨_, _, J, q⟩ := q; ⟨_, _, J.ofTry ok, q⟩
  | cont => exact let ⟨_, _, J, q⟩ := q; ⟨_, _, J.ofTry ok, q⟩
  | ret u => exact let ⟨_, _, _, J, r, q⟩ := q; ⟨_, _, _, J.ofTry ok, r, q⟩⟩
end
end DH

/-! DP: a lambda that is called by the def it was handed to, the exceptions without context. -/
namespace DH
open PySem PySem.Spec PyProof.Rows HotX L2 L2H LamX

def lamOut (X : Cx) (A : Around) (outer : List Env) (s : Shared) (H : Hp) (E : XK) (scope : Scope) (f c' : Addr) : Value → Shared → Prop := fun e s' =>
  wpAny (model X.prog X.w) (A.deeper (lamEnv X scope s.heap.objs.size f c')) (leaving (lamEnv X scope s.heap.objs.size f c') e) (fun _ s2 => L2N.CX X.prog X.w outer H s E e s2) (fun e2 s2 => L2N.CX X.prog X.w outer H s E e2 s2) s'
/-- the context of the lambda's body -/
abbrev lamN (X : Cx) (A : Around) (outer : List Env) (s : Shared) (H : Hp) (E : XK) (scope : Scope) (f c' : Addr) : Cx := (lamCx X A outer s H E scope f c').wish (lamOut X A outer s H E scope f c')
section
variable {X : Cx} {pins : List (Addr × Obj)} {σ : L2.St} {H : Hp} {s : Shared}
/-- what the body's context lets out is what its caller takes -/
theorem lamN_takes {A : Around} {outer : List Env} {E : XK} {scope : Scope} {f c' : Addr} : L2N.Takes (lamN X A outer s H E scope f c') (fun cls d _ H => E cls d H) := L2N.takes_of rfl rfl rfl rfl
theorem pe_actN {CXg : CXT} {Eg : XK} {Ng : List Str} {qg : Str} {sg : Scope} {g f c' : Addr} {cdg pm ctv : Value} {params : Arguments} {body : Expr} {scope : Scope} {k i : Nat} {a : Str} {pn : List (Addr × Obj)} {xe : Value → Shared → Prop} {W : WX} {E : XK} {tb : TE} {p1 p2 : Pos}
    (I : Inv X pins σ H s) (L : LamS X.env.scope scope) (hf : s.heap.get? f = some (PySem.W.kla_obj "<lambda>" (X.env.qual ++ "<lambda>") params body scope (cloFrom X.env.cells scope.names []) pm c' ctv)) (hfn : H f = none) (hfr : f ∉ frs X.stack)
    (hbind : bindArgs (PySem.W.kla_fn "<lambda>" (X.env.qual ++ "<lambda>") params body scope (cloFrom X.env.cells scope.names []) pm (.ref c') ctv) ⟨[], []⟩ = pure [])
    (tk : L2N.Takes ((cxOf CXg X.prog X.w X.K X.mg X.base Ng qg sg g cdg X.A X.stack s H Eg).tr pn xe) W) (hW : ∀ cls d σ' H', E cls d H' → W cls d σ' H') (hr : Room (k + 1) (X.A.deeper (envOfC qg sg s.heap.objs.size g cdg)))
    (hbody : ∀ (A : Around) (outer : List Env) (s : Shared) (H : Hp), Room k (A.deeper (lamEnv X scope s.heap.objs.size f c')) → PE (lamN X A outer s H E scope f c') body tb)
    (hN : Ng[i]? = some a) (hv : Vis sg a) (hd : (a == ("__debug__" : Str)) = false) (hcd : (a == ("__classdict__" : Str)) = false) :
    PE ((cxOf CXg X.prog X.w X.K X.mg X.base Ng qg sg g cdg X.A X.stack s H Eg).tr pn xe) (.Call (.Name a p1) [] [] p2) (fun σZ HZ Q => σZ[i]? = some (some (.ref f)) ∧ HZ c' = some (CodeO c' (X.env.qual ++ "<lambda>")) ∧ tb σ HZ Q) := ⟨fun pinsZ sZ σZ HZ Q IZ h => by
  obtain ⟨slot, code, wish⟩ := h
  refine wpAny_Call_Name_kw (thn ((pe_var (pos := p1) (i := i) hN hv hd hcd).run pinsZ sZ σZ HZ (fun v H1 => v = .ref f ∧ H1 = HZ) IZ ⟨.ref f, slot, rfl, rfl⟩) fun u s1 ⟨v, H1, I1, r1, ev, eH⟩ => ?_)
  subst ev
  rw [eH] at I1
  obtain rfl : u = Value.ref f := r1
  have still : s1.heap.get? f = some (PySem.W.kla_obj "<lambda>" (X.env.qual ++ "<lambda>") params body scope (cloFrom X.env.cells scope.names []) pm c' ctv) := I1.base.keep f _ hf hfn hfr (fun z => nomatch (show f ∈ ([] : List Addr) from z))
  have un : Un (frs X.stack) [] H HZ s.heap s1.heap := I1.base
  obtain ⟨⟨oc, vs, t, hoc, hdc, hvc⟩, _, _⟩ := I1.hok c' _ code
  let A1 := X.A.deeper (envOfC qg sg s.heap.objs.size g cdg)
  let out1 := envOfC qg sg s.heap.objs.size g cdg :: X.stack
  have called : codeAny (model X.prog X.w) A1 (.call (.ref f) ⟨[], []⟩) (CR (L2N.CX X.prog X.w) out1 X.prog X.w HZ s1 Q E) s1 := by
    refine PySem.W.kla_callFunE hr.depth still rfl L.co L.gen rfl ⟨c', oc, vs, t, rfl, hoc, hdc, hvc⟩ ?_
    rw [hbind]
    refine wpAny_pure (wpAny_newFunctionEnv (fun y hy => (L.own y hy).2) (fun y hy => absurd hy (by simp)) (fun h₁ hns hsb => ⟨I1.nolimit.fresh _ hsb, ?_⟩) L.kind)
    show codeAny _ _ (.expr body (lamEnv X scope s1.heap.objs.size f c')) _ _
    have kp : ∀ b o, s1.heap.get? b = some o → h₁.get? b = some o := fun b o e => hsb.extBut b o (Nat.ne_of_lt (Heap.lt_size e)) (Heap.get?_push_of_some _ e)
    have J : Inv (lamN X A1 out1 s1 HZ E scope f c') [] σ HZ { s1 with heap := h₁, toks := s1.toks + ([] : List (Str × Value)).length } := (lam_start2 I L I1.env0 hr.hd un hns kp).wish _
    refine PySem.W.kla_codeExpr (wpAny_mono ((hbody A1 out1 s1 HZ (hr.deeper _)).run [] _ _ HZ Q J wish) (fun v s' hq => ?_) fun e s' hq => hq)
    obtain ⟨v', H', J', rv, q⟩ := hq
    exact ⟨v', H', J'.os, J'.bare, J'.base, J'.hok, rv, q⟩
  refine PySem.W.callWith_F0 ⟨_, _, _, _, still⟩ (wpAny_call (codeAny_mono called fun r s' hq => ?_))
  match r, hq with
  | .error e, hq => exact L2N.passes_call tk hW pinsZ σZ HZ s1 e s' I1 hq
  | .ok (.ret u), hq => exact I1.after hq
  | .ok .next, hq => exact hq.elim
  | .ok .brk, hq => exact hq.elim
  | .ok .cont, hq => exact hq.elim⟩
end
end DH

/-! DQ: the suites of _law_told: the word of the class and a field. -/
namespace DH
open PySem PySem.Spec PyProof.Rows HotX L2 L2H

section
variable {X : Cx} {a : Addr} {oe : Obj} {pn : List (Addr × Obj)}
/-- a field of the caught exception, its class told by the wish -/
def tXq (K : PySem.W.Frag) (a : Addr) (oe : Obj) (n : Str) (te : TE) : TE := fun σ H Q => te σ H fun x H1 => x = .ref a ∧ ∃ (D d : Addr) (fs : List (Str × V)) (v : V), oe.cls = .ref D ∧ oe.dict = some d ∧ XfC K D ∧ PySem.W.findIn K (.ref D) n = some none ∧ H1 d = some (.xd fs) ∧ fs.lookup n = some v ∧ Q v H1
theorem pe_xq {n : Str} {e : Expr} {te : TE} {pos : Pos} (hv : ∃ vs, oe.data = .fields vs) (he : PE (X.suite a ((a, oe) :: pn)) e te) (hb : attributeBase e n X.env (eval e X.env) = eval e X.env) : PE (X.suite a ((a, oe) :: pn)) (.Attribute e n pos) (tXq X.K a oe n te) := ⟨fun pins s σ H Q I h => by
  refine attr_of hb (thn (he.run pins s σ H _ I h) fun u s1 ⟨x, H1, I1, rx, ex, D, d, fs, v, ec, ed, T, no, hd, l, q⟩ => ?_)
  subst ex
  obtain rfl : u = Value.ref a := rx
  obtain ⟨vs, hv⟩ := hv
  obtain ⟨mA, hns, hr⟩ := I1.hok d _ hd
  obtain ⟨od, ho, hl⟩ := lookIn_ns hns
  have at1 : PySem.W.InstAt s1.heap a oe D (some od) := ⟨(I1.pin (a, oe) (List.mem_append_left _ List.mem_cons_self)).1, ec, by unfold PySem.W.notCls; rw [hv] <;> rfl, by rw [ed]; exact ho⟩
  obtain ⟨u, hu, ru⟩ := RelO.some_of (v := v) (o := mA n) (by rw [← l]; exact hr n)
  exact HandSPX.exc_get I1.kIn at1 T.ga T.gg T.exC (PySem.W.findObj_own T.hdC no rfl (by rw [hl, hu])) (handed_of ru) ⟨v, H1, I1.tok _, ru, q⟩⟩
/-- _law_kind(_law_e) in the suite -/
theorem pe_kindcall {f : Addr} {fd : FuncData} {k i : Nat} {p1 p2 pos : Pos} (F : FnP X.prog X.w X.K X.mg X.base (L2N.CX X.prog X.w) k f fd ["_law_e"] (spKind X.K X.mg)) (hr : Room k X.A) (hv : ∃ vs : Array Value, oe.data = .fields vs ∧ vs[2]? = some .none) (hg : Gl X "_law_kind") (hm : X.mg "_law_kind" = some (.ref f))
    (hk : PySem.W.keepIn X.K (.ref f) = true) (hb : L2.Binds X.K fd ["_law_e"] []) (hN : X.N[i]? = some "_law_e") (hl : X.env.scope.names.lookup ("_law_e" : Str) = some .local) :
    PE (X.suite a ((a, oe) :: pn)) (.Call (.Name "_law_kind" p1) [.Name "_law_e" p2] [] pos) (fun σ H Q => ∃ v, σ[i]? = some (some v) ∧ spKind X.K X.mg (a, oe) [v] H Q (fun _ _ _ => False)) := by
  refine (pe_callP (X := X.suite a ((a, oe) :: pn)) (p := (a, oe)) (E := fun _ _ _ _ => False) F (roomH_mark hr _) ⟨rfl, hv⟩ List.mem_cons_self hg hm hk hb (fun σ pins H s e s' I c => ?_) (pa_cons (pe_var (X := X.suite a ((a, oe) :: pn)) (i := i) hN (.inl hl)) pa_nil) (by decide) (by rfl) (by rfl)).imp fun σ H Q q => ?_
  · obtain ⟨_, _, _, _, _, _, _, _, _, _, _, _, z⟩ := c
    exact z.elim
  · obtain ⟨v, e, q⟩ := q
    exact ⟨v, e, q⟩
/-- the answer of a suite: the word, and a field or None -/
def tsAns (K : PySem.W.Frag) (mg : Str → Option Value) (i : Nat) (n : Option Str) : TsX := fun a cls d Dn σ H => σ[i]? = some (some (.ref a)) ∧ ∃ (D d0 : Addr) (fs : List (Str × V)) (z : Str) (fl : Str → Bool) (v : V), cls = .ref D ∧ d = some d0 ∧ H d0 = some (.xd fs) ∧ fs.lookup ("word" : Str) = some (.str z) ∧
  KC K mg D fl ∧ kPick fl = [z] ∧ z.length ≤ 100 ∧ (match n with | some m => PySem.W.findIn K (.ref D) m = some none ∧ fs.lookup m = some v | none => v = .non) ∧ ∀ p H1, DL.Le H H1 → H1 p = none → Dn.rt (.ref p) (upd H1 p (.tup [.str z, v]))
def mAns : Option Str → Stmt → Bool
  | some n, .Return (some (.Tuple [.Call (.Name k _) [.Name e _] [] _, .Attribute (.Name e2 _) m _] _ _)) _ => decide (k = "_law_kind") && (decide (e = "_law_e") && (decide (e2 = "_law_e") && decide (m = n)))
  | none, .Return (some (.Tuple [.Call (.Name k _) [.Name e _] [] _, .Constant .none _ _] _ _)) _ => decide (k = "_law_kind") && decide (e = "_law_e")
  | _, _ => false
/-- what told's frame knows of _law_kind -/
structure TK (X : Cx) (k i : Nat) : Prop where
  ex : ∃ f fd, FnP X.prog X.w X.K X.mg X.base (L2N.CX X.prog X.w) k f fd ["_law_e"] (spKind X.K X.mg) ∧ X.mg "_law_kind" = some (.ref f) ∧ PySem.W.keepIn X.K (.ref f) = true ∧ L2.Binds X.K fd ["_law_e"] []
  hr : Room k X.A
  hg : Gl X "_law_kind"
  hN : X.N[i]? = some "_law_e"
  hl : X.env.scope.names.lookup ("_law_e" : Str) = some .local
theorem ps_ans {k i : Nat} (T : TK X k i) (hv : ∃ vs : Array Value, oe.data = .fields vs ∧ vs[2]? = some .none) {n : Option Str} {st : Stmt} (h : mAns n st = true) : PSs (X.suite a ((a, oe) :: pn)) [st] (tsAns X.K X.mg i n a oe.cls oe.dict) := by
  obtain ⟨f, fd, F, hm, hk, hb⟩ := T.ex
  have var : ∀ {pos : Pos}, PE (X.suite a ((a, oe) :: pn)) (.Name "_law_e" pos) (tVar i) := pe_var (X := X.suite a ((a, oe) :: pn)) (i := i) T.hN (.inl T.hl)
  unfold mAns at h
  split at h
  · simp only [Bool.and_eq_true, decide_eq_true_eq] at h
    obtain ⟨rfl, rfl, rfl, rfl⟩ := h
    refine (pss_one (ps_ret (pe_tup (pa_cons (pe_kindcall F T.hr hv T.hg hm hk hb T.hN T.hl) (pa_cons (pe_xq (hv.imp fun _ q => q.1) var (by rfl)) pa_nil))))).imp fun Dn σ H q => ?_
    obtain ⟨s0, D, d0, fs, z, fl, v, hc, hd, hH, hw, kc, hp, hl, ⟨no, hf⟩, q⟩ := q
    refine ⟨_, s0, D, d0, fs, z, fl, rfl, hc, hd, hH, hw, kc, hp, hl, fun H1 le1 => ⟨_, s0, rfl, D, d0, fs, v, hc, hd, kc.T, no, le1 _ _ hH, hf, ?_⟩⟩
    exact ⟨by show 2 ≤ sizeLine; decide, fun p hp => q p _ le1 hp⟩
  · simp only [Bool.and_eq_true, decide_eq_true_eq] at h
    obtain ⟨rfl, rfl⟩ := h
    refine (pss_one (ps_ret (pe_tup (pa_cons (pe_kindcall F T.hr hv T.hg hm hk hb T.hN T.hl) (pa_cons pe_non pa_nil))))).imp fun Dn σ H q => ?_
    obtain ⟨s0, D, d0, fs, z, fl, v, hc, hd, hH, hw, kc, hp, hl, hf, q⟩ := q
    subst hf
    refine ⟨_, s0, D, d0, fs, z, fl, rfl, hc, hd, hH, hw, kc, hp, hl, fun H1 le1 => ?_⟩
    exact ⟨by show 2 ≤ sizeLine; decide, fun p hp => q p _ le1 hp⟩
  · cases h
end
end DH

/-! DR: the body of _law_told. -/
namespace DH
open PySem PySem.Spec PyProof.Rows HotX L2 L2H LamX

def mTold : List Stmt → Bool
  | [.Try [.Return (some (.Tuple [.Constant (.str t) _ _, .Call (.Name a _) [] [] _] _ _)) _]
      [.ExceptHandler (some (.Name x1 _)) (some n1) [a1] _, .ExceptHandler (some (.Name x2 _)) (some n2) [a2] _, .ExceptHandler (some (.Name x3 _)) (some n3) [a3] _, .ExceptHandler (some (.Tuple [.Name y1 _, .Name y2 _, .Name y3 _] _ _)) (some n4) [a4] _] [] [] _] =>
    decide (t = "told") && (decide (a = "_law_ask") && (decide (x1 = "BadText") && (decide (x2 = "BadPage") && (decide (x3 = "TooWide") && (decide (y1 = "PurseError") && (decide (y2 = "Missing") && (decide (y3 = "NothingLeft") && (decide (n1 = "_law_e") && (decide (n2 = "_law_e") && (decide (n3 = "_law_e") && (decide (n4 = "_law_e") &&
      (mAns (some "at") a1 && (mAns (some "row") a2 && (mAns (some "most") a3 && mAns none a4))))))))))))))
  | _ => false
/-- the six classes that the clauses name -/
structure TC where
  c1 : Addr
  c2 : Addr
  c3 : Addr
  c4 : Addr
  c5 : Addr
  c6 : Addr
structure TCOk (X : Cx) (c : TC) : Prop where
  h1 : Names X "BadText" (.ref c.c1)
  h2 : Names X "BadPage" (.ref c.c2)
  h3 : Names X "TooWide" (.ref c.c3)
  h4 : Names X "PurseError" (.ref c.c4)
  h5 : Names X "Missing" (.ref c.c5)
  h6 : Names X "NothingLeft" (.ref c.c6)
def tClauses (K : PySem.W.Frag) (mg : Str → Option Value) (i : Nat) (c : TC) : List ((Value → Option Bool) × TsX) :=
  [(fun cls => PySem.W.exmOne K cls (.ref c.c1), tsAns K mg i (some "at")), (fun cls => PySem.W.exmOne K cls (.ref c.c2), tsAns K mg i (some "row")), (fun cls => PySem.W.exmOne K cls (.ref c.c3), tsAns K mg i (some "most")),
    (fun cls => PySem.W.exmAny K cls [.ref c.c4, .ref c.c5, .ref c.c6], tsAns K mg i none)]
theorem never_takes {X : Cx} : L2N.Takes X (fun _ _ _ _ => False) := fun _ _ x => by
  obtain ⟨_, _, _, _, _, _, _, _, _, _, _, _, _, _, _, _, z⟩ := x
  exact z.elim
section
variable {X : Cx} {k i : Nat} {c : TC} {f c' : Addr} {q : Str} {tl : XK → Hp → VK → Prop} {bg : List Stmt}
theorem told_body (hs : X.stack = X.env :: X.outer) (hf : X.env.frame = some X.env.locals) (hN : X.N.Nodup) (T : TK X k i) (C : TCOk X c) (hln : X.env.kindOf "_law_e" = some .local) (hm : mTold bg = true)
    (act : ∀ (W : WX) (pn : List (Addr × Obj)) (xe : Value → Shared → Prop) (E : XK) (p1 p2 : Pos), L2N.Takes (X.tr pn xe) W → (∀ cls d σ' H', E cls d H' → W cls d σ' H') → PE (X.tr pn xe) (.Call (.Name "_law_ask" p1) [] [] p2) (fun σZ HZ Q => σZ[0]? = some (some (.ref f)) ∧ HZ c' = some (CodeO c' q) ∧ tl E HZ Q)) :
    PSs X bg (fun Dn σ H => ∃ Ech : XK, (∀ cls d σ' H', Ech cls d H' → wCls (fun _ _ _ _ => False) Dn i (tClauses X.K X.mg i c) cls d σ' H') ∧ σ[0]? = some (some (.ref f)) ∧ H c' = some (CodeO c' q) ∧ tl Ech H fun v H' => [V.str "told", v].length ≤ sizeLine ∧ ∀ p, H' p = none → Dn.rt (.ref p) (upd H' p (.tup [.str "told", v]))) := by
  unfold mTold at hm
  split at hm
  · simp only [Bool.and_eq_true, decide_eq_true_eq] at hm
    obtain ⟨rfl, rfl, rfl, rfl, rfl, rfl, rfl, rfl, rfl, rfl, rfl, rfl, m1, m2, m3, m4⟩ := hm
    have ans : ∀ {n : Option Str} {st : Stmt}, mAns n st = true → ∀ (a : Addr) (oe : Obj) (d : Option Addr) (pn : List (Addr × Obj)), oe.dict = d → (∃ vs : Array Value, oe.data = .fields vs ∧ vs[2]? = some .none) → PSs (X.suite a ((a, oe) :: pn)) [st] (tsAns X.K X.mg i n a oe.cls d) := fun m a oe d pn e hv => by
      subst e
      exact ps_ans T hv m
    refine pss_one (ps_clauses (i := i) (l := tClauses X.K X.mg i c) (Wout := fun _ _ _ _ => False)
      (tb := fun W Dn σ H => ∃ Ech : XK, (∀ cls d σ' H', Ech cls d H' → W cls d σ' H') ∧ σ[0]? = some (some (.ref f)) ∧ H c' = some (CodeO c' q) ∧ tl Ech H fun v H' => [V.str "told", v].length ≤ sizeLine ∧ ∀ p, H' p = none → Dn.rt (.ref p) (upd H' p (.tup [.str "told", v])))
      hs hf hN T.hN hln never_takes (fun W pn xe tk _ => ⟨fun pins s σ H Dn I h => ?_⟩)
      (.cons (tst_one C.h1) (ans m1) (.cons (tst_one C.h2) (ans m2) (.cons (tst_one C.h3) (ans m3) (.cons (tst_tup3 C.h4 C.h5 C.h6) (ans m4) .nil)))))
    obtain ⟨Ech, hW, h0, hc, hq⟩ := h
    refine (pss_one (ps_ret (pe_tup (pa_cons pe_str (pa_cons (act W pn xe Ech _ _ tk hW) pa_nil))))).run pins s σ H Dn I ⟨h0, hc, ?_⟩
    exact hq
  · cases hm
end
end DH

/-! DLm: a lambda is made: only the maker's own table changes. -/
namespace DH
open PySem PySem.Spec PyProof.Rows HotX L2 L2H LamX

/-- all but P stays -/
def ExtP (P : Addr) (H H' : Hp) : Prop := ∀ b o, b ≠ P → H b = some o → H' b = some o
theorem ExtP.refl {P : Addr} {H : Hp} : ExtP P H H := fun _ _ _ e => e
section
variable {X : Cx} {pins : List (Addr × Obj)} {σ : L2.St} {H : Hp} {s : Shared}
theorem lam_makeP {c P : Addr} {params : Arguments} {body : Expr} {scope : Scope} {pos : Pos} {E : Value → Shared → Prop} {Q : Value → Shared → Prop} (I : Inv X pins σ H s) (TB : TabB X.base X.mg c P) (hcode : X.env.code = .ref c)
    (tab : TabS H P (X.env.qual ++ "<lambda>")) (hdef : defaultsOf params X.env = ([], [])) (hfree : ∀ y ∈ scope.names, y.2 = .free → ∃ c, X.env.cells.lookup y.1 = some c)
    (k : ∀ (f c' : Addr) (pm ctv : Value) (H1 : Hp) (s' : Shared), Inv X pins σ H1 s' → ExtP P H H1 → TabS H1 P (X.env.qual ++ "<lambda>") →
      s'.heap.get? f = some (PySem.W.kla_obj "<lambda>" (X.env.qual ++ "<lambda>") params body scope (cloFrom X.env.cells scope.names []) pm c' ctv) → H1 f = none → f ∉ frs X.stack → H1 c' = some (CodeO c' (X.env.qual ++ "<lambda>")) → Q (.ref f) s') :
    wpAny (model X.prog X.w) X.A (eval (.Lambda params body scope pos) X.env) Q E s := by
  obtain ⟨ps, hP, triples, known⟩ := tab
  have built : s.heap.BuiltinsAt X.mg P := TB.bm.keeps I.bk
  have stands : s.heap.get? P = some { cls := .none, data := .fields ps } := I.hok P _ hP
  have out : ∀ f, s.heap.objs.size ≤ f → f ∉ frs X.stack := fun f hf z => (List.mem_cons.mp (I.stkSub _ z)).elim (fun e => Nat.lt_irrefl _ (Nat.lt_of_lt_of_le (by have := I.lt; rw [← e] at this; exact this) hf)) fun e => I.nofs hf e
  refine PySem.W.kla_eval hdef ?_
  cases found : codeAmong pos ps.toList with
  | some cv =>
    obtain ⟨c', rfl, code⟩ := known pos cv found
    refine PySem.W.kla_makeFunctionHit (mg := X.mg) (c := c) (P := P) (ps := ps) (closure_ok hfree) I.ok.glob (I.mod.glob.keeps I.bk) hcode (TB.code.keeps I.bk) stands triples found built fun ctv h' tk hx hsz => ?_
    exact k h'.objs.size c' ((X.mg "__name__").getD .none) ctv H _ (I.kept fun b o e => Heap.get?_push_of_some _ (hx b o e)) ExtP.refl ⟨ps, hP, triples, known⟩ (Heap.get?_push_size _ rfl) (I.hok.fresh hsz) (out _ hsz) code
  | none =>
    refine PySem.W.kla_makeFunction (mg := X.mg) (c := c) (P := P) (ps := ps) (closure_ok hfree) I.ok.glob (I.mod.glob.keeps I.bk) hcode (TB.code.keeps I.bk) stands triples found TB.gP built fun c' ctv h' tk hx hge hlt hrec htb => ?_
    obtain ⟨c2, oc, vs, t, e2, hoc, hd, hv⟩ := hrec
    cases e2
    have size : s.heap.objs.size ≤ h'.objs.size := Nat.le_trans hge (Nat.le_of_lt hlt)
    have new : H c' = none := I.hok.fresh hge
    have nPc : P ≠ c' := ne_of_none hP new
    have J := inv_table (t' := tk) (more := #[rawInt pos.line, rawInt pos.col, .ref c']) (h' := h'.push (PySem.W.kla_obj "<lambda>" (X.env.qual ++ "<lambda>") params body scope (cloFrom X.env.cells scope.names []) ((X.mg "__name__").getD .none) c' ctv)) I hP
      (fun b o hb e => Heap.get?_push_of_some _ (hx b o hb e)) (Heap.get?_push_of_some _ htb) hge ⟨oc, vs, t, Heap.get?_push_of_some _ hoc, hd, hv⟩
    refine k h'.objs.size c' ((X.mg "__name__").getD .none) ctv _ _ J (fun b o hb e => ?_) ⟨_, by rw [upd_ne nPc, upd_same], ?_, fun p' cv hcv => ?_⟩ (Heap.get?_push_size _ rfl) ?_ (out _ size) upd_same
    · rw [upd_ne (ne_of_none e new), upd_ne hb]
      exact e
    · rw [Array.toList_append]
      exact PySem.TriplesOk_snoc _ _ _ _ triples
    · rw [Array.toList_append] at hcv
      rcases among_app _ triples hcv with z | z
      · obtain ⟨c0, e1, e2⟩ := known p' cv z
        have n0 : c0 ≠ P := fun y => by rw [y, hP] at e2; exact codeO_ne ps (Option.some.inj e2).symm
        exact ⟨c0, e1, by rw [upd_ne (ne_of_none e2 new), upd_ne n0]; exact e2⟩
      · exact ⟨c', z, upd_same⟩
    · rw [upd_ne (Nat.ne_of_gt hlt), upd_ne (Nat.ne_of_gt (Nat.lt_of_lt_of_le (Heap.lt_size stands) size))]
      exact I.hok.fresh size
end
end DH

/-! DTo: _law_told(lambda: e) in a def's frame. -/
namespace DH
open PySem PySem.Spec PyProof.Rows HotX L2 L2H LamX

def tN : List Str := ["_law_ask", "_law_e"]
def tG : List Str := ["_law_kind", "BadText", "BadPage", "TooWide", "PurseError", "Missing", "NothingLeft"]
/-- what the frag says of told and of what told names -/
structure ToldK (P : Program) (w : World) (K : PySem.W.Frag) (mg : Str → Option Value) (base : Heap) (k : Nat) (st : Stmt) (g : Addr) (gd : FuncData) (c : TC) : Prop where
  fn : Fun K "_law_told" "_law_told" st g gd
  sc : FnScope tN ["_law_ask"] (defScope st)
  bd : L2.Binds K gd ["_law_ask"] []
  ml : (defScope st).names.lookup ("_law_ask" : Str) = some .local ∧ (defScope st).names.lookup ("_law_e" : Str) = some .local
  gl : ∀ n ∈ tG, (defScope st).names.lookup n = some .globalImplicit
  body : mTold (defBody st) = true
  mt : mg "_law_told" = some (.ref g)
  kp : PySem.W.keepIn K (.ref g) = true
  m1 : mg "BadText" = some (.ref c.c1)
  m2 : mg "BadPage" = some (.ref c.c2)
  m3 : mg "TooWide" = some (.ref c.c3)
  m4 : mg "PurseError" = some (.ref c.c4)
  m5 : mg "Missing" = some (.ref c.c5)
  m6 : mg "NothingLeft" = some (.ref c.c6)
  kind : ∃ f fd, FnP P w K mg base (L2N.CX P w) k f fd ["_law_e"] (spKind K mg) ∧ mg "_law_kind" = some (.ref f) ∧ PySem.W.keepIn K (.ref f) = true ∧ L2.Binds K fd ["_law_e"] []
def noX : XK := fun _ _ _ => False
/-- told's answer to what e does -/
def toldK (K : PySem.W.Frag) (mg : Str → Option Value) (c : TC) (Q : VK) (Ech : XK) : Prop := ∀ cls d σ H, Ech cls d H → wCls (fun _ _ _ _ => False) { nx := fun _ H' => Q .non H', rt := Q } 1 (tClauses K mg 1 c) cls d σ H
def tTold (K : PySem.W.Frag) (mg : Str → Option Value) (c : TC) (P : Addr) (q : Str) (t : XK → TE) : TE := fun σ H Q => TabS H P q ∧ ∀ H1, ExtP P H H1 → TabS H1 P q → ∃ Ech, toldK K mg c Q Ech ∧ t Ech σ H1 fun v H' => [V.str "told", v].length ≤ sizeLine ∧ ∀ p, H' p = none → Q (.ref p) (upd H' p (.tup [.str "told", v]))
section
variable {X : Cx}
theorem pe_told {k : Nat} {st : Stmt} {g cc P : Addr} {gd : FuncData} {c : TC} {params : Arguments} {body : Expr} {scope : Scope} {t : XK → TE} {p lpos pos : Pos} (hg : Gl X "_law_told") (TK0 : ToldK X.prog X.w X.K X.mg X.base k st g gd c)
    (TB : TabB X.base X.mg cc P) (hcode : X.env.code = .ref cc) (hr : Room (k + 2) X.A) (L : LamS X.env.scope scope) (hdef : defaultsOf params X.env = ([], []))
    (hbind : ∀ (q : Str) (cl : List (Str × Addr)) (pm cv ctv : Value), bindArgs (PySem.W.kla_fn "<lambda>" q params body scope cl pm cv ctv) ⟨[], []⟩ = pure [])
    (hbody : ∀ (A : Around) (outer : List Env) (s : Shared) (H : Hp) (E : XK) (f c' : Addr), Room k (A.deeper (lamEnv X scope s.heap.objs.size f c')) → PE (lamN X A outer s H E scope f c') body (t E)) :
    PE X (.Call (.Name "_law_told" p) [.Lambda params body scope lpos] [] pos) (tTold X.K X.mg c P (X.env.qual ++ "<lambda>") t) := ⟨fun pins s σ H Q I h => by
  obtain ⟨hT, h⟩ := h
  obtain ⟨oc, od, kV, doc, pm, an, cdv, ct, osl, e, lk, hcd⟩ := TK0.fn.ex
  have bd := TK0.bd
  subst e
  refine wpAny_Call_Name_kw (ld_glob I hg TK0.mt ?_ (by decide))
  refine PySem.W.callWith_K (h₀ := X.base) I.ok.mod.kin TK0.kp ?_ (by rfl) (by rfl)
  show wpAny _ _ (spliced ((false, eval (.Lambda params body scope lpos) X.env) :: backTo pos (starEach [] X.env))) _ _ s
  refine Calls.spliced_cons (lam_makeP I TB hcode hT hdef (L.has I.ok) fun f c' pm' ctv H1 s' I1 eN T1 hf hfn hfr hco => Calls.spliced_nil ⟨I1.kIn, ?_⟩)
  obtain ⟨Ech, hE, hq⟩ := h H1 eN T1
  have ran : codeAny (model X.prog X.w) X.A (.call (.ref g) ⟨[.ref f], []⟩) (CR (L2N.CX X.prog X.w) X.stack X.prog X.w H1 s' Q noX) s' := by
    refine run_ofS (N := tN) (ps := ["_law_ask"]) (us := [.ref f]) (vs := [.ref f]) lk hcd TK0.sc hr I1.env0 (bd s' [.ref f] I1.kIn rfl) (.cons rfl .nil) rfl fun hr' => ?_
    have glob : ∀ n ∈ tG, Gl (cxOf (L2N.CX X.prog X.w) X.prog X.w X.K X.mg X.base tN "_law_told" (defScope st) g cdv X.A X.stack s' H1 noX) n := fun n hn => TK0.gl n hn
    have one : ∀ {n : Str} {a : Addr}, n ∈ tG → (n == ("__debug__" : Str)) = false → X.mg n = some (.ref a) → Names (cxOf (L2N.CX X.prog X.w) X.prog X.w X.K X.mg X.base tN "_law_told" (defScope st) g cdv X.A X.stack s' H1 noX) n (.ref a) := fun hn hd hm => ⟨glob _ hn, hd, .inl hm⟩
    refine ⟨_, told_body (i := 1) (k := k) (c := c) (f := f) (c' := c') (q := X.env.qual ++ "<lambda>") (tl := fun E H' Q' => t E σ H' Q') rfl rfl TK0.sc.nd ⟨TK0.kind, hr'.mono (Nat.le_succ _), glob _ (by decide), rfl, TK0.ml.2⟩
      ⟨one (by decide) (by decide) TK0.m1, one (by decide) (by decide) TK0.m2, one (by decide) (by decide) TK0.m3, one (by decide) (by decide) TK0.m4, one (by decide) (by decide) TK0.m5, one (by decide) (by decide) TK0.m6⟩ TK0.ml.2 TK0.body
      (fun W pn xe E p1 p2 tk hW => pe_actN (i := 0) I1 L hf hfn hfr (hbind _ _ _ _ _) tk hW hr' (fun A outer s H hr2 => hbody A outer s H E f c' hr2) rfl (.inl TK0.ml.1) (by decide) (by decide)), ?_⟩
    exact ⟨Ech, hE, rfl, hco, hq⟩
  refine wpAny_call (codeAny_mono ran fun r s2 hq => ?_)
  match r, hq with
  | .error e, hq =>
    obtain ⟨_, _, _, _, _, _, _, _, _, _, _, _, z⟩ := hq
    exact z.elim
  | .ok (.ret u), hq => exact I1.after hq
  | .ok .next, hq => exact hq.elim
  | .ok .brk, hq => exact hq.elim
  | .ok .cont, hq => exact hq.elim⟩
end
end DH

/-! DTb: a frame whose own table has changed. -/
namespace DL
open PySem L2
section
variable {w : Wd} {F H H1 : Hp} {σ : St} {ρ : Rho} {P : Addr} {q : Str}
theorem Rl.tabled (l : Rl w F H σ ρ) (ht : (P, q) ∈ w.G.ts) (hu : ∀ p ∈ w.G.ts, p.1 = P → p = (P, q)) (e : DH.ExtP P H H1) (t : LamX.TabS H1 P q) : Rl w F H1 σ ρ where
  len := l.len
  le := fun a o z => e a o (fun y => by rw [y, (l.tb _ ht).2.1] at z; cases z) (l.le a o z)
  f0 := l.f0
  kp := fun a o z n => e a o (fun y => by rw [y, (l.tb _ ht).2.2.2] at z; cases z) (l.kp a o z n)
  al := fun a z => by
    by_cases y : a = P
    · rw [y]; exact (l.tb _ ht).2.2.2
    · refine l.al a ?_
      cases g : H a with
      | none => rfl
      | some o => rw [e a o y g] at z; cases z
  nf := l.nf
  sl := fun i s z => by
    have k := l.sl i s z
    cases s with
    | no => exact k
    | fz d => exact k
    | ow b xs =>
      obtain ⟨a, vs, es, ha, rl, n, f, c⟩ := k
      exact ⟨a, vs, es, e a _ (tab_ne (l.tb _ ht).1 ha).symm ha, rl, n, f, c⟩
  pr := l.pr
  dj := l.dj
  fx := fun a o z => ⟨e a o (fun y => by rw [y, (l.tb _ ht).2.2.1] at z; cases z) (l.fx a o z).1, (l.fx a o z).2⟩
  tb := fun p z => by
    have k := l.tb p z
    refine ⟨?_, k.2⟩
    by_cases y : p.1 = P
    · rw [hu p z y]; exact t
    · obtain ⟨⟨ps, e1, tr, kn⟩, _⟩ := k
      refine ⟨ps, e _ _ y e1, tr, fun pos cv hc => ?_⟩
      obtain ⟨c, e2, e3⟩ := kn pos cv hc
      refine ⟨c, e2, e _ _ (fun x => ?_) e3⟩
      obtain ⟨⟨ps2, e4, _⟩, _⟩ := l.tb _ ht
      rw [x, e4] at e3
      exact LamX.codeO_ne ps2 (Option.some.inj e3).symm
end
end DL

/-! DLd: a lambda without arguments, maybe with one parameter whose default is a whole number: made, called. -/
namespace DH
open PySem PySem.Spec PyProof.Rows HotX L2 L2H LamX

def dflV : Option (Addr × Value) → Value
  | some t => .ref t.1
  | none => .none
/-- the lambda's object, and the object of its default -/
def LamAt (h : Heap) (q : Str) (params : Arguments) (body : Expr) (scope : Scope) (clos : List (Str × Addr)) (f c' : Addr) (t : Option (Addr × Value)) : Prop :=
  ∃ doc pm ctv : Value, h.get? f = some (PySem.W.kdv_obj "<lambda>" q params (.expr body) scope clos (dflV t) doc pm c' ctv) ∧ ∀ u, t = some u → h.get? u.1 = some (PySem.W.kdv_tup [u.2])
/-- the default's object belongs to the parameters -/
def DflOf : List Str → Option (Addr × Value) → Prop
  | [], none => True
  | [_], some _ => True
  | _, _ => False
def lamBinds (xs : List Str) (t : Option (Addr × Value)) : List (Str × Value) := match xs, t with
  | [x], some u => [(x, u.2)]
  | _, _ => []
theorem lam_binds {s : Shared} {q : Str} {params : Arguments} {body : Expr} {scope : Scope} {clos : List (Str × Addr)} {c' : Addr} {t : Option (Addr × Value)} {xs : List Str} {doc pm ctv : Value} (hp : lamPs params = some xs) (hd : DflOf xs t) (ht : ∀ u, t = some u → s.heap.get? u.1 = some (PySem.W.kdv_tup [u.2])) :
    BindsTo s (PySem.W.kdv_fn "<lambda>" q params (.expr body) scope clos (dflV t) doc pm (.ref c') ctv) ⟨[], []⟩ (lamBinds xs t) := by
  unfold lamPs at hp
  split at hp
  · cases hp
    cases t with
    | none => exact .of_eq rfl
    | some u => exact hd.elim
  · rename_i a n j p
    split at hp
    · rename_i ea
      cases hp
      obtain ⟨an, aa, ap⟩ := a
      subst ea
      cases t with
      | none => exact hd.elim
      | some u =>
        have e : ∃ k, bindArgs (PySem.W.kdv_fn "<lambda>" q ⟨[], [⟨"_law_k", aa, ap⟩], none, [], [], none, [.Constant (.int n) j p]⟩ (.expr body) scope clos (.ref u.1) doc pm (.ref c') ctv) ⟨[], []⟩ = (seqItems? (.ref u.1) >>= k) ∧ k (some [u.2].toArray) = pure (lamBinds ["_law_k"] (some u)) := ⟨_, rfl, rfl⟩
        obtain ⟨k, e1, e2⟩ := e
        intro M A E Q hq
        show wpAny M A (bindArgs (PySem.W.kdv_fn "<lambda>" q ⟨[], [⟨"_law_k", aa, ap⟩], none, [], [], none, [.Constant (.int n) j p]⟩ (.expr body) scope clos (.ref u.1) doc pm (.ref c') ctv) ⟨[], []⟩) Q E s
        rw [e1]
        refine wpAny_bind (wpAny_seqItems (ht u rfl) rfl ?_)
        rw [e2]
        exact wpAny_pure hq
    · cases hp
  · cases hp
section
variable {X : Cx} {pins : List (Addr × Obj)} {σ : L2.St} {H : Hp} {s : Shared}
theorem lam_tail {c P : Addr} {params : Arguments} {body : Expr} {scope : Scope} {pos : Pos} {dV : Value} {E : Value → Shared → Prop} {Q : Value → Shared → Prop} (I : Inv X pins σ H s) (TB : TabB X.base X.mg c P) (hcode : X.env.code = .ref c)
    (tab : TabS H P (X.env.qual ++ "<lambda>")) (hfree : ∀ y ∈ scope.names, y.2 = .free → ∃ c, X.env.cells.lookup y.1 = some c)
    (k : ∀ (f c' : Addr) (doc pm ctv : Value) (H1 : Hp) (s' : Shared), Inv X pins σ H1 s' → ExtP P H H1 → TabS H1 P (X.env.qual ++ "<lambda>") → (∀ b o, b ≠ P → s.heap.get? b = some o → s'.heap.get? b = some o) → (∀ b, b < s.heap.objs.size → H b = none → H1 b = none) →
      s'.heap.get? f = some (PySem.W.kdv_obj "<lambda>" (X.env.qual ++ "<lambda>") params (.expr body) scope (cloFrom X.env.cells scope.names []) dV doc pm c' ctv) → H1 f = none → f ∉ frs X.stack → H1 c' = some (CodeO c' (X.env.qual ++ "<lambda>")) → Q (.ref f) s') :
    wpAny (model X.prog X.w) X.A (makeTail "<lambda>" (X.env.qual ++ "<lambda>") params (.expr body) scope X.env dV .none none pos pos.line) Q E s := by
  obtain ⟨ps, hP, triples, known⟩ := tab
  have built : s.heap.BuiltinsAt X.mg P := TB.bm.keeps I.bk
  have stands : s.heap.get? P = some { cls := .none, data := .fields ps } := I.hok P _ hP
  have out : ∀ f, s.heap.objs.size ≤ f → f ∉ frs X.stack := fun f hf z => (List.mem_cons.mp (I.stkSub _ z)).elim (fun e => Nat.lt_irrefl _ (Nat.lt_of_lt_of_le (by have := I.lt; rw [← e] at this; exact this) hf)) fun e => I.nofs hf e
  cases found : codeAmong pos ps.toList with
  | some cv =>
    obtain ⟨c', rfl, code⟩ := known pos cv found
    refine PySem.W.kdv_makeTailHit (mg := X.mg) (c := c) (P := P) (ps := ps) (closure_ok hfree) I.ok.glob (I.mod.glob.keeps I.bk) hcode (TB.code.keeps I.bk) stands triples found built fun ctv doc h' tk hx hsz => ?_
    exact k h'.objs.size c' doc ((X.mg "__name__").getD .none) ctv H _ (I.kept fun b o e => Heap.get?_push_of_some _ (hx b o e)) ExtP.refl ⟨ps, hP, triples, known⟩ (fun b o _ e => Heap.get?_push_of_some _ (hx b o e)) (fun _ _ e => e) (Heap.get?_push_size _ rfl) (I.hok.fresh hsz) (out _ hsz) code
  | none =>
    refine PySem.W.kdv_makeTail (mg := X.mg) (c := c) (P := P) (ps := ps) (closure_ok hfree) I.ok.glob (I.mod.glob.keeps I.bk) hcode (TB.code.keeps I.bk) stands triples found TB.gP built fun c' ctv doc h' tk hx hge hlt hrec htb => ?_
    obtain ⟨c2, oc, vs, t, e2, hoc, hd, hv⟩ := hrec
    cases e2
    have size : s.heap.objs.size ≤ h'.objs.size := Nat.le_trans hge (Nat.le_of_lt hlt)
    have new : H c' = none := I.hok.fresh hge
    have nPc : P ≠ c' := ne_of_none hP new
    have J := inv_table (t' := tk) (more := #[rawInt pos.line, rawInt pos.col, .ref c']) (h' := h'.push (PySem.W.kdv_obj "<lambda>" (X.env.qual ++ "<lambda>") params (.expr body) scope (cloFrom X.env.cells scope.names []) dV doc ((X.mg "__name__").getD .none) c' ctv)) I hP
      (fun b o hb e => Heap.get?_push_of_some _ (hx b o hb e)) (Heap.get?_push_of_some _ htb) hge ⟨oc, vs, t, Heap.get?_push_of_some _ hoc, hd, hv⟩
    refine k h'.objs.size c' doc ((X.mg "__name__").getD .none) ctv _ _ J (fun b o hb e => ?_) ⟨_, by rw [upd_ne nPc, upd_same], ?_, fun p' cv hcv => ?_⟩ (fun b o hb e => Heap.get?_push_of_some _ (hx b o hb e)) (fun b lt e => ?_) (Heap.get?_push_size _ rfl) ?_ (out _ size) upd_same
    · rw [upd_ne (ne_of_none e new), upd_ne hb]
      exact e
    · rw [Array.toList_append]
      exact PySem.TriplesOk_snoc _ _ _ _ triples
    · rw [Array.toList_append] at hcv
      rcases among_app _ triples hcv with z | z
      · obtain ⟨c0, e1, e2⟩ := known p' cv z
        have n0 : c0 ≠ P := fun y => by rw [y, hP] at e2; exact codeO_ne ps (Option.some.inj e2).symm
        exact ⟨c0, e1, by rw [upd_ne (ne_of_none e2 new), upd_ne n0]; exact e2⟩
      · exact ⟨c', z, upd_same⟩
    · have n1 : b ≠ c' := Nat.ne_of_lt (Nat.lt_of_lt_of_le lt hge)
      have n2 : b ≠ P := fun y => by rw [y, hP] at e; cases e
      rw [upd_ne n1, upd_ne n2]; exact e
    · rw [upd_ne (Nat.ne_of_gt hlt), upd_ne (Nat.ne_of_gt (Nat.lt_of_lt_of_le (Heap.lt_size stands) size))]
      exact I.hok.fresh size
theorem lam_makeD {c P : Addr} {params : Arguments} {body : Expr} {scope : Scope} {pos : Pos} {xs : List Str} {E : Value → Shared → Prop} {Q : Value → Shared → Prop} (I : Inv X pins σ H s) (TB : TabB X.base X.mg c P) (hcode : X.env.code = .ref c)
    (tab : TabS H P (X.env.qual ++ "<lambda>")) (hp : lamPs params = some xs) (hfree : ∀ y ∈ scope.names, y.2 = .free → ∃ c, X.env.cells.lookup y.1 = some c)
    (k : ∀ (f c' : Addr) (t : Option (Addr × Value)) (H1 : Hp) (s' : Shared), Inv X pins σ H1 s' → ExtP P H H1 → TabS H1 P (X.env.qual ++ "<lambda>") → DflOf xs t → LamAt s'.heap (X.env.qual ++ "<lambda>") params body scope (cloFrom X.env.cells scope.names []) f c' t →
      (H1 f = none ∧ f ∉ frs X.stack) → (∀ u, t = some u → H1 u.1 = none ∧ u.1 ∉ frs X.stack) → H1 c' = some (CodeO c' (X.env.qual ++ "<lambda>")) → Q (.ref f) s') :
    wpAny (model X.prog X.w) X.A (eval (.Lambda params body scope pos) X.env) Q E s := by
  unfold lamPs at hp
  split at hp
  · cases hp
    refine PySem.W.kla_eval rfl ?_
    rw [makeFunction_eq]
    simp only [List.zip_nil_right, List.filterMap_nil, List.isEmpty_nil, if_true, pure_bind]
    exact lam_tail I TB hcode tab hfree fun f c' doc pm ctv H1 s' I1 e1 t1 _ _ hf hn ho hc => k f c' none H1 s' I1 e1 t1 trivial ⟨doc, pm, ctv, hf, fun u z => by cases z⟩ ⟨hn, ho⟩ (fun u z => by cases z) hc
  · rename_i a n j p
    have hx : xs = ([("_law_k" : Str)] : List Str) := by
      split at hp
      · exact (Option.some.inj hp).symm
      · cases hp
    subst hx
    refine PySem.W.kdv_lam rfl rfl (PySem.W.kdv_all1 (wpAny_Constant_int (PySem.W.kdv_all0 ?_)))
    rw [makeFunction_eq]
    simp only [List.zip_nil_right, List.filterMap_nil, List.isEmpty_nil, List.isEmpty_cons, if_true, Bool.false_eq_true, if_false, pure_bind]
    refine wpAny_bind (wpAny_newTextTuple ?_)
    have lo : s.heap.objs.size ≤ s.heap.objs.size := Nat.le_refl _
    have ht : H s.heap.objs.size = none := I.hok.fresh lo
    have out : s.heap.objs.size ∉ frs X.stack := fun z => (List.mem_cons.mp (I.stkSub _ z)).elim (fun e => Nat.lt_irrefl _ (by have := I.lt; rw [← e] at this; exact this)) fun e => I.nofs lo e
    have nP : s.heap.objs.size ≠ P := fun y => by
      obtain ⟨ps, hP, _⟩ := tab
      rw [← y, ht] at hP; cases hP
    have I2 : Inv X pins σ H { s with heap := s.heap.push { cls := .type "tuple", data := .seq [Value.int n s.toks].toArray }, toks := s.toks + 1 } := I.kept fun b o e => Heap.get?_push_of_some _ e
    refine lam_tail I2 TB hcode tab hfree fun f c' doc pm ctv H1 s' I1 e1 t1 kp fr hf hn ho hc => k f c' (some (s.heap.objs.size, .int n s.toks)) H1 s' I1 e1 t1 trivial ⟨doc, pm, ctv, hf, fun u z => ?_⟩ ⟨hn, ho⟩ (fun u z => ?_) hc
    · cases z
      exact kp _ _ nP (Heap.get?_push_size _ rfl)
    · cases z
      exact ⟨fr _ (by show s.heap.objs.size < (s.heap.push _).objs.size; rw [Heap.size_push]; omega) ht, out⟩
  · cases hp
end
end DH

/-! DLe: such a lambda is called by the def that it was handed to; _law_told(lambda: e). -/
namespace DH
open PySem PySem.Spec PyProof.Rows HotX L2 L2H LamX

/-- the slots as the lambda's body sees them: none bears the name of its own parameter -/
structure Sees (N : List Str) (xs : List Str) (σ σ1 : L2.St) : Prop where
  len : σ1.length = σ.length
  sub : ∀ (i : Nat) (v : V), σ1[i]? = some (some v) → σ[i]? = some (some v)
  own : ∀ (i : Nat) (x : Str) (v : V), x ∈ xs → N[i]? = some x → σ1[i]? ≠ some (some v)
section
variable {X : Cx} {pins : List (Addr × Obj)} {σ σ1 : L2.St} {H HZ : Hp} {s s1 : Shared} {xs : List Str}
theorem lam_begin {A : Around} {outer : List Env} {E : XK} {scope : Scope} {f c' : Addr} {h₁ : Heap} {tk : Nat} {binds : List (Str × Value)} (I : Inv X pins σ H s) (L : LamD X.env.scope scope xs) (S : Sees X.N xs σ σ1) (env0 : Env0 X.prog X.w X.K X.mg X.base A outer s1 HZ) (calm : A.handled = none)
    (un : Un (frs X.stack) [] H HZ s.heap s1.heap) (space : h₁.Ns s1.heap.objs.size fun y => binds.reverse.lookup y) (keep : ∀ b o, s1.heap.get? b = some o → h₁.get? b = some o) : Inv (lamCx X A outer s1 HZ E scope f c') [] σ1 HZ { s1 with heap := h₁, toks := tk } := by
  have free := L.has I.ok
  have same : ∀ {y c}, (cloFrom X.env.cells scope.names []).lookup y = some c → X.env.cells.lookup y = some c := fun {y c} e => by
    rcases cloFrom_mem (PySem.mem_of_lookup e) with z | ⟨z1, z2⟩
    · cases z
    · obtain ⟨d, hd⟩ := free _ z1 rfl
      have hd : X.env.cells.lookup y = some d := hd
      rw [hd] at z2 ⊢
      exact congrArg some z2.symm
  have there : ∀ {y}, scope.names.lookup y = some .free → ∃ c, (cloFrom X.env.cells scope.names []).lookup y = some c := fun {y} e => mem_lookup (cloFrom_has (cells := X.env.cells) (acc := []) (PySem.mem_of_lookup e))
  have cells : ∀ {c : Addr} {v : Option Value}, H c = none → s.heap.IsCell c v → h₁.IsCell c v := fun {c v} n ⟨o, ho, hd⟩ => let ⟨_, q⟩ := un.any ho n (by simp); ⟨_, keep _ _ q, hd⟩
  have no : ∀ b : Addr, b ∉ (lamCx X A outer s1 HZ E scope f c').ex := fun b z => nomatch (show b ∈ ([] : List Addr) from z)
  have ok : (lamCx X A outer s1 HZ E scope f c').Ok :=
    { mod := env0.mod, kind := L.kind, glob := rfl, blt := rfl, above := Nat.le_refl _, inj := fun y z c e1 e2 => I.ok.inj y z c (same e1) (same e2),
      has := fun y hy => by
        have hy : scope.names.lookup y = some .cell ∨ scope.names.lookup y = some .free := hy
        rcases hy with hy | hy
        · exact absurd rfl (L.own _ (PySem.mem_of_lookup hy)).1
        · exact there hy
      cab := fun y c z _ => (nomatch (show false = true from z)), hd := fun _ => calm, frames := Around.frames_deeper env0.frames, stk := .inr ⟨rfl, rfl⟩, exf := fun b z => absurd z (no b), bs := env0.bs, bsz := env0.bsz, noex := fun b _ _ => no b,
      exfs := fun b z => absurd z (no b), funs := env0.funs, frf := env0.frf }
  refine { ok := ok, os := rfl, bare := env0.bare, base := Un.kept keep, loc := ⟨_, space, fun i y v e1 e2 e3 => ?_⟩, cell := fun y c e => ?_, free := env0.hok.fresh (Nat.le_refl _), freeC := fun y c e => ?_, pin := fun q hq => (nomatch (show q ∈ ([] : List (Addr × Obj)) ++ [] from hq)), hok := env0.hok.kept keep, len := S.len.trans I.len }
  · have e3 : Vis scope y := e3
    rcases e3 with k | k | k
    · exact absurd e2 (S.own i y v ((L.own _ (PySem.mem_of_lookup k)).2 rfl) e1)
    · exact absurd rfl (L.own _ (PySem.mem_of_lookup k)).1
    · obtain ⟨m, _, hl⟩ := I.loc
      have out := L.free _ (PySem.mem_of_lookup k) rfl
      obtain ⟨u, r, q⟩ := hl i y v e1 (S.sub i v e2) (out.elim (fun k => .inr (.inl k)) (fun k => .inr (.inr k)))
      obtain ⟨c2, h2⟩ := there k
      refine ⟨u, r, .inr ⟨.inr k, c2, h2, ?_⟩⟩
      rcases q with ⟨k', _⟩ | ⟨_, c3, e', z⟩
      · have k' : X.env.scope.names.lookup y = some .local := k'
        rcases out with k2 | k2
        · rw [show X.env.scope.names.lookup y = _ from k2] at k'; cases k'
        · rw [show X.env.scope.names.lookup y = _ from k2] at k'; cases k'
      · have c1 := same h2
        rw [c1] at e'
        cases e'
        exact cells (I.freeC y _ c1) z
  · obtain ⟨u, z⟩ := I.cell y c (same e)
    exact ⟨u, cells (I.freeC y c (same e)) z⟩
  · obtain ⟨v, o, ho, _⟩ := I.cell y c (same e)
    exact un.free c o ho (I.freeC y c (same e)) (by simp)
theorem pe_actD {CXg : CXT} {Eg : XK} {Ng : List Str} {qg : Str} {sg : Scope} {g f c' : Addr} {cdg : Value} {params : Arguments} {body : Expr} {scope : Scope} {k i : Nat} {a : Str} {pn : List (Addr × Obj)} {xe : Value → Shared → Prop} {W : WX} {E : XK} {tb : TE} {t : Option (Addr × Value)} {p1 p2 : Pos}
    (I : Inv X pins σ H s) (L : LamD X.env.scope scope xs) (S : Sees X.N xs σ σ1) (hp : lamPs params = some xs) (hd0 : DflOf xs t) (at0 : LamAt s.heap (X.env.qual ++ "<lambda>") params body scope (cloFrom X.env.cells scope.names []) f c' t) (hf : H f = none ∧ f ∉ frs X.stack) (ht : ∀ u, t = some u → H u.1 = none ∧ u.1 ∉ frs X.stack)
    (tk : L2N.Takes ((cxOf CXg X.prog X.w X.K X.mg X.base Ng qg sg g cdg X.A X.stack s H Eg).tr pn xe) W) (hW : ∀ cls d σ' H', E cls d H' → W cls d σ' H') (hr : Room (k + 1) (X.A.deeper (envOfC qg sg s.heap.objs.size g cdg)))
    (hbody : ∀ (A : Around) (outer : List Env) (s : Shared) (H : Hp), Room k (A.deeper (lamEnv X scope s.heap.objs.size f c')) → PE (lamN X A outer s H E scope f c') body tb)
    (hN : Ng[i]? = some a) (hv : Vis sg a) (hd : (a == ("__debug__" : Str)) = false) (hcd : (a == ("__classdict__" : Str)) = false) :
    PE ((cxOf CXg X.prog X.w X.K X.mg X.base Ng qg sg g cdg X.A X.stack s H Eg).tr pn xe) (.Call (.Name a p1) [] [] p2) (fun σZ HZ Q => σZ[i]? = some (some (.ref f)) ∧ HZ c' = some (CodeO c' (X.env.qual ++ "<lambda>")) ∧ tb σ1 HZ Q) := ⟨fun pinsZ sZ σZ HZ Q IZ h => by
  obtain ⟨slot, code, wish⟩ := h
  refine wpAny_Call_Name_kw (thn ((pe_var (pos := p1) (i := i) hN hv hd hcd).run pinsZ sZ σZ HZ (fun v H1 => v = .ref f ∧ H1 = HZ) IZ ⟨.ref f, slot, rfl, rfl⟩) fun u s1 ⟨v, H1, I1, r1, ev, eH⟩ => ?_)
  subst ev
  rw [eH] at I1
  obtain rfl : u = Value.ref f := r1
  obtain ⟨doc, pm, ctv, of, ot⟩ := at0
  have none_in : ∀ b : Addr, b ∉ ([] : List Addr) := fun b z => nomatch z
  have still := I1.base.keep f _ of hf.1 hf.2 (none_in _)
  have stillT : ∀ u, t = some u → s1.heap.get? u.1 = some (PySem.W.kdv_tup [u.2]) := fun u z => I1.base.keep u.1 _ (ot u z) (ht u z).1 (ht u z).2 (none_in _)
  have un : Un (frs X.stack) [] H HZ s.heap s1.heap := I1.base
  obtain ⟨⟨oc, vs, tq, hoc, hdc, hvc⟩, _, _⟩ := I1.hok c' _ code
  let A1 := X.A.deeper (envOfC qg sg s.heap.objs.size g cdg)
  let out1 := envOfC qg sg s.heap.objs.size g cdg :: X.stack
  have bnd := lam_binds (s := s1) (q := X.env.qual ++ "<lambda>") (body := body) (scope := scope) (clos := cloFrom X.env.cells scope.names []) (c' := c') (doc := doc) (pm := pm) (ctv := ctv) hp hd0 stillT
  have loc : ∀ y ∈ lamBinds xs t, scope.names.lookup y.1 = some .local := fun y hy => by
    unfold lamBinds at hy
    split at hy
    · rw [List.mem_singleton.mp hy]
      exact L.par _ List.mem_cons_self
    · cases hy
  have called : codeAny (model X.prog X.w) A1 (.call (.ref f) ⟨[], []⟩) (CR (L2N.CX X.prog X.w) out1 X.prog X.w HZ s1 Q E) s1 := by
    refine PySem.W.kla_callFunE hr.depth still rfl L.co L.gen rfl ⟨c', oc, vs, tq, rfl, hoc, hdc, hvc⟩ (bnd _ _ _ _ ?_)
    refine wpAny_newFunctionEnv (fun y hy => (L.own y hy).1) loc (fun h₁ hns hsb => ⟨I1.nolimit.fresh _ hsb, ?_⟩) L.kind
    show codeAny _ _ (.expr body (lamEnv X scope s1.heap.objs.size f c')) _ _
    have kp : ∀ b o, s1.heap.get? b = some o → h₁.get? b = some o := fun b o e => hsb.extBut b o (Nat.ne_of_lt (Heap.lt_size e)) (Heap.get?_push_of_some _ e)
    have J : Inv (lamN X A1 out1 s1 HZ E scope f c') [] σ1 HZ { s1 with heap := h₁, toks := s1.toks + (lamBinds xs t).length } := (lam_begin I L S I1.env0 hr.hd un hns kp).wish _
    refine PySem.W.kla_codeExpr (wpAny_mono ((hbody A1 out1 s1 HZ (hr.deeper _)).run [] _ _ HZ Q J wish) (fun v s' hq => ?_) fun e s' hq => hq)
    obtain ⟨v', H', J', rv, q⟩ := hq
    exact ⟨v', H', J'.os, J'.bare, J'.base, J'.hok, rv, q⟩
  refine PySem.W.callWith_F0 ⟨_, _, _, _, still⟩ (wpAny_call (codeAny_mono called fun r s' hq => ?_))
  match r, hq with
  | .error e, hq => exact L2N.passes_call tk hW pinsZ σZ HZ s1 e s' I1 hq
  | .ok (.ret u), hq => exact I1.after hq
  | .ok .next, hq => exact hq.elim
  | .ok .brk, hq => exact hq.elim
  | .ok .cont, hq => exact hq.elim⟩
end
section
variable {X : Cx}
/-- _law_told(lambda: e): ws tells which slots the lambda's body sees -/
theorem pe_toldD {k : Nat} {st : Stmt} {g cc P : Addr} {gd : FuncData} {c : TC} {params : Arguments} {body : Expr} {scope : Scope} {t : XK → TE} {xs : List Str} {ws : L2.St → L2.St} {p lpos pos : Pos} (hg : Gl X "_law_told") (TK0 : ToldK X.prog X.w X.K X.mg X.base k st g gd c)
    (TB : TabB X.base X.mg cc P) (hcode : X.env.code = .ref cc) (hr : Room (k + 2) X.A) (L : LamD X.env.scope scope xs) (hp : lamPs params = some xs) (hs : ∀ σ : L2.St, σ.length = X.N.length → Sees X.N xs σ (ws σ))
    (hbody : ∀ (A : Around) (outer : List Env) (s : Shared) (H : Hp) (E : XK) (f c' : Addr), Room k (A.deeper (lamEnv X scope s.heap.objs.size f c')) → PE (lamN X A outer s H E scope f c') body (t E)) :
    PE X (.Call (.Name "_law_told" p) [.Lambda params body scope lpos] [] pos) (fun σ H Q => tTold X.K X.mg c P (X.env.qual ++ "<lambda>") (fun E σ' H Q => t E (ws σ') H Q) σ H Q) := ⟨fun pins s σ H Q I h => by
  obtain ⟨hT, h⟩ := h
  obtain ⟨oc, od, kV, doc, pm, an, cdv, ct, osl, e, lk, hcd⟩ := TK0.fn.ex
  have bd := TK0.bd
  subst e
  refine wpAny_Call_Name_kw (ld_glob I hg TK0.mt ?_ (by decide))
  refine PySem.W.callWith_K (h₀ := X.base) I.ok.mod.kin TK0.kp ?_ (by rfl) (by rfl)
  show wpAny _ _ (spliced ((false, eval (.Lambda params body scope lpos) X.env) :: backTo pos (starEach [] X.env))) _ _ s
  refine Calls.spliced_cons (lam_makeD I TB hcode hT hp (L.has I.ok) fun f c' dt H1 s' I1 eN T1 hdf hat hfn htn hco => Calls.spliced_nil ⟨I1.kIn, ?_⟩)
  obtain ⟨Ech, hE, hq⟩ := h H1 eN T1
  have ran : codeAny (model X.prog X.w) X.A (.call (.ref g) ⟨[.ref f], []⟩) (CR (L2N.CX X.prog X.w) X.stack X.prog X.w H1 s' Q noX) s' := by
    refine run_ofS (N := tN) (ps := ["_law_ask"]) (us := [.ref f]) (vs := [.ref f]) lk hcd TK0.sc hr I1.env0 (bd s' [.ref f] I1.kIn rfl) (.cons rfl .nil) rfl fun hr' => ?_
    have glob : ∀ n ∈ tG, Gl (cxOf (L2N.CX X.prog X.w) X.prog X.w X.K X.mg X.base tN "_law_told" (defScope st) g cdv X.A X.stack s' H1 noX) n := fun n hn => TK0.gl n hn
    have one : ∀ {n : Str} {a : Addr}, n ∈ tG → (n == ("__debug__" : Str)) = false → X.mg n = some (.ref a) → Names (cxOf (L2N.CX X.prog X.w) X.prog X.w X.K X.mg X.base tN "_law_told" (defScope st) g cdv X.A X.stack s' H1 noX) n (.ref a) := fun hn hd hm => ⟨glob _ hn, hd, .inl hm⟩
    refine ⟨_, told_body (i := 1) (k := k) (c := c) (f := f) (c' := c') (q := X.env.qual ++ "<lambda>") (tl := fun E H' Q' => t E (ws σ) H' Q') rfl rfl TK0.sc.nd ⟨TK0.kind, hr'.mono (Nat.le_succ _), glob _ (by decide), rfl, TK0.ml.2⟩
      ⟨one (by decide) (by decide) TK0.m1, one (by decide) (by decide) TK0.m2, one (by decide) (by decide) TK0.m3, one (by decide) (by decide) TK0.m4, one (by decide) (by decide) TK0.m5, one (by decide) (by decide) TK0.m6⟩ TK0.ml.2 TK0.body
      (fun W pn xe E p1 p2 tk hW => pe_actD (i := 0) I1 L (hs σ I1.len) hp hdf hat hfn htn tk hW hr' (fun A outer s H hr2 => hbody A outer s H E f c' hr2) rfl (.inl TK0.ml.1) (by decide) (by decide)), ?_⟩
    exact ⟨Ech, hE, rfl, hco, hq⟩
  refine wpAny_call (codeAny_mono ran fun r s2 hq => ?_)
  match r, hq with
  | .error e, hq =>
    obtain ⟨_, _, _, _, _, _, _, _, _, _, _, _, z⟩ := hq
    exact z.elim
  | .ok (.ret u), hq => exact I1.after hq
  | .ok .next, hq => exact hq.elim
  | .ok .brk, hq => exact hq.elim
  | .ok .cont, hq => exact hq.elim⟩
end
end DH

/-! DTr: _law_told(lambda: e) keeps its meaning over data. -/
namespace DL
open PySem PySem.Spec PyProof.Rows L2 LamX DH

/-- a class as _law_told looks at it: n the field that it tells, z its word -/
structure TlC (K : PySem.W.Frag) (mg : Str → Option Value) (c : TC) (D : Addr) (n : Option Str) (z : Str) : Prop where
  ex : ∃ (fl : Str → Bool) (b1 b2 b3 : Bool), KC K mg D fl ∧ kPick fl = [z] ∧ z.length ≤ 100 ∧ PySem.W.exmOne K (.ref D) (.ref c.c1) = some b1 ∧ (b1 = false → PySem.W.exmOne K (.ref D) (.ref c.c2) = some b2) ∧ (b1 = false → b2 = false → PySem.W.exmOne K (.ref D) (.ref c.c3) = some b3) ∧
    (b1 = false → b2 = false → b3 = false → PySem.W.exmAny K (.ref D) [.ref c.c4, .ref c.c5, .ref c.c6] = some true) ∧ n = (if b1 = true then some "at" else if b2 = true then some "row" else if b3 = true then some "most" else none) ∧ ∀ m, n = some m → PySem.W.findIn K (.ref D) m = some none
/-- the exceptions that _law_told turns into a tuple which Q takes -/
def EchT (K : PySem.W.Frag) (mg : Str → Option Value) (c : TC) (Q : VK) : XK := fun cls d H => ∃ (D d0 : Addr) (fs : List (Str × V)) (z : Str) (v : V) (n : Option Str), cls = .ref D ∧ d = some d0 ∧ H d0 = some (.xd fs) ∧ fs.lookup ("word" : Str) = some (.str z) ∧ TlC K mg c D n z ∧
  (match n with | some m => fs.lookup m = some v | none => v = .non) ∧ ∀ p H1, Le H H1 → H1 p = none → Q (.ref p) (upd H1 p (.tup [.str z, v]))
theorem toldK_of {K : PySem.W.Frag} {mg : Str → Option Value} {c : TC} {Q : VK} : toldK K mg c Q (EchT K mg c Q) := fun cls d σ H h => by
  obtain ⟨D, d0, fs, z, v, n, rfl, rfl, hd, hw, ⟨fl, b1, b2, b3, kc, hp, hz, e1, e2, e3, e4, hn, hf⟩, hv, q⟩ := h
  have ans : ∀ (m : Option Str) (a : Addr), n = m → 1 < σ.length → tsAns K mg 1 m a (.ref D) (some d0) (endsAt { nx := fun _ H' => Q .non H', rt := Q } 1) (σ.set 1 (some (.ref a))) H := fun m a e hl => by
    subst e
    refine ⟨by rw [List.getElem?_set_self hl], D, d0, fs, z, fl, v, rfl, rfl, hd, hw, kc, hp, hz, ?_, fun p H1 le hp => q p H1 le hp⟩
    cases n with
    | some m => exact ⟨hf m rfl, hv⟩
    | none => exact hv
  refine ⟨b1, e1, fun hb a ha hl => ans (some "at") a ?_ hl, fun hb => ⟨b2, e2 hb, fun hb2 a ha hl => ans (some "row") a ?_ hl, fun hb2 => ⟨b3, e3 hb hb2, fun hb3 a ha hl => ans (some "most") a ?_ hl, fun hb3 => ⟨true, e4 hb hb2 hb3, fun _ a ha hl => ans none a ?_ hl, fun z => by cases z⟩⟩⟩⟩
  · rw [hn, hb]; rfl
  · rw [hn, hb, hb2]; rfl
  · rw [hn, hb, hb2, hb3]; rfl
  · rw [hn, hb, hb2, hb3]; rfl
theorem repF_at {G : Gd} {F : Hp} {m : Str} : ∀ {xs : List (Str × D)} {fs : List (Str × V)} {d : D}, RepF G F fs xs → xs.lookup m = some d → ∃ v, fs.lookup m = some v ∧ Rep G F v d
  | [], fs, d, h, e => by cases e
  | (y, e0) :: xs, fs, d, h, e => by
    simp only [RepF] at h
    obtain ⟨v, r, rfl, rv, rr⟩ := h
    rw [List.lookup_cons] at e
    rw [List.lookup_cons]
    split at e
    · cases e
      exact ⟨v, rfl, rv⟩
    · exact repF_at rr e
section
variable {G : Gd} {w : Wd} {F F' H H' : Hp} {σ σ' : L2.St} {ρ ρ' : Rho}
abbrev wIn (G : Gd) (F H : Hp) : Wd := ⟨G, F, delT G.ts H, fun _ => none, fun _ => none⟩
theorem grow_in (ht : TabsOk G.ts F H) (l : Rl (wIn G F H) F' H' σ' ρ') : GrowT G.ts F H F' H' := ⟨l.f0, fun a o e n => l.kp a o (by show delT G.ts H a = some o; rw [delT_ne n]; exact e) (fun i => by simp), fun a e => by
    have z : delT G.ts H a = none := l.al a e
    rw [delT_ne fun q hq y => by
      obtain ⟨⟨ps, e', _⟩, _⟩ := l.tb q hq
      rw [y, e] at e'; cases e'] at z
    exact z, l.le, fun a h n => by
    by_cases y : ∃ q ∈ G.ts, q.1 = a
    · obtain ⟨q, hq, rfl⟩ := y
      exact (l.tb q hq).2.1
    · exact l.nf a (by show delT G.ts H a ≠ none; rw [delT_ne fun q hq z => y ⟨q, hq, z⟩]; exact h) n, fun q hq => (l.tb q hq).1⟩
theorem frzL_rel (l : Rl w F H σ ρ) : ∀ fz : List Nat, ∃ F1, Le F F1 ∧ Rl w F1 H σ (frzL ρ fz) := fun fz => by
  induction fz generalizing F ρ with
  | nil => exact ⟨F, le_rfl', l⟩
  | cons i r ih =>
    unfold frzL
    split
    · rename_i xs e
      obtain ⟨a, vs, es, ha, n, rp, l1⟩ := l.freeze e
      obtain ⟨F1, le, l2⟩ := ih l1
      exact ⟨F1, le_tr (le_upd n) le, l2⟩
    · exact ih l
theorem lam_rl (l : Rl w F H σ ρ) : Rl (wIn w.G F H) F H σ (ρ.map noOw) where
  len := by rw [List.length_map]; exact l.len
  le := l.le
  f0 := fun _ _ e => e
  kp := fun _ _ e _ => (delT_some e).1
  al := fun a e => by
    show delT w.G.ts H a = none
    cases z : delT w.G.ts H a with
    | none => rfl
    | some o => rw [(delT_some z).1] at e; cases e
  nf := fun _ _ e => e
  sl := fun i s e => by
    rw [List.getElem?_map] at e
    cases q : ρ[i]? with
    | none => rw [q] at e; cases e
    | some s0 =>
      rw [q] at e
      cases e
      cases s0 with
      | no => trivial
      | fz d => exact l.sl i _ q
      | ow b xs => trivial
  pr := fun i a e => by cases e
  dj := fun i j a b c xs ys e _ _ _ => by
    rw [List.getElem?_map] at e
    cases q : ρ[i]? with
    | none => rw [q] at e; cases e
    | some s0 => rw [q] at e; cases s0 <;> cases e
  fx := fun a o e => by cases e
  tb := fun q e => ⟨(l.tb q e).1, (l.tb q e).2.1, rfl, delT_in e⟩
end
theorem wipe_some : ∀ (vs : List Nat) (σ : L2.St) (i : Nat) (v : V), (L2.wipe σ vs)[i]? = some (some v) → σ[i]? = some (some v) ∧ i ∉ vs
  | [], σ, i, v, h => ⟨h, by simp⟩
  | j :: r, σ, i, v, h => by
    have h : ((L2.wipe σ r).set j none)[i]? = some (some v) := h
    by_cases e : j = i
    · subst e
      rw [List.getElem?_set] at h
      simp at h
    · rw [List.getElem?_set_ne e] at h
      obtain ⟨h1, h2⟩ := wipe_some r σ i v h
      exact ⟨h1, by simp [h2]; omega⟩
/-- the rule of _law_told, in a frame whose table is at P -/
theorem told_rule {S : Sg} {X : Cx} {w : Wd} {xp : XP} {k : Nat} {st : Stmt} {g cc P : Addr} {gd : FuncData} {c : TC} (TK0 : ToldK X.prog X.w X.K X.mg X.base k st g gd c) (TB : TabB X.base X.mg cc P) (hcode : X.env.code = .ref cc) (hr : Room (k + 2) X.A) (ht : (P, X.env.qual ++ "<lambda>") ∈ w.G.ts) (hu : ∀ q ∈ w.G.ts, q.1 = P → q = (P, X.env.qual ++ "<lambda>"))
    (hc : ∀ (j : Nat) (q : Str × Str), S.cs[j]? = some q → TlC X.K X.mg c (w.G.cl j) (fldOf q.1) q.2)
    (hf : ∀ (i : Nat) (e : FnE), S.fs[i]? = some e → ∃ k' f fd ps ds dvs, k' ≤ k ∧ FnOk X.prog X.w X.K X.mg X.base (L2N.CX X.prog X.w) k' f fd ps (e.ct.sp w.G) ∧ X.mg e.name = some (.ref f) ∧ PySem.W.keepIn X.K (.ref f) = true ∧ Binds X.K fd ps ds ∧ Vals dvs ds ∧ ∀ F, RepL w.G F dvs e.dflt) : TRule S X w xp := by
  intro fz wp c0 sc e gx h ih
  have hsh : ∃ x p params body scope lpos pos, e = .Call (.Name x p) [.Lambda params body scope lpos] [] pos := by
    unfold mE at h
    split at h <;> first | exact absurd h Bool.false_ne_true | skip
    all_goals first
      | exact ⟨_, _, _, _, _, _, _, rfl⟩
      | simp_all
  obtain ⟨x, p, params, body, scope, lpos, pos, rfl⟩ := hsh
  simp only [mE, Bool.and_eq_true, decide_eq_true_eq] at h
  obtain ⟨rfl, h2, h3, h4, h5⟩ := h
  cases hp : lamPs params with
  | none => rw [hp] at h3; cases h3
  | some xs =>
    rw [hp] at h3
    simp only [Bool.and_eq_true] at h3
    obtain ⟨h3, h6⟩ := h3
    have hg : Gl X "_law_told" := gx.gl h2
    have L0 := lamD_by h3
    have L : LamD X.env.scope scope xs := ⟨L0.kind, L0.co, L0.gen, L0.own, L0.par, fun y hy e => by
      rcases L0.free y hy e with q | q
      · rcases gx.scr y.1 _ q with z | ⟨z, _⟩
        · exact .inl z
        · cases z
      · rcases gx.scr y.1 _ q with z | ⟨_, z⟩
        · exact .inr z
        · exact .inl z⟩
    have hs : ∀ σ : L2.St, σ.length = X.N.length → Sees X.N xs σ (L2.wipe σ wp) := fun σ hl => ⟨wipe_length .., fun i v q => (wipe_some wp σ i v q).1, fun i y v hy hN q => by
      have nw := (wipe_some wp σ i v q).2
      have hi : i < X.N.length := (List.getElem?_eq_some_iff.mp hN).1
      have z := List.all_eq_true.mp h6 i (List.mem_range.mpr hi)
      rw [hN] at z
      simp only [Bool.or_eq_true, List.contains_iff_mem, Bool.not_eq_true', decide_eq_false_iff_not] at z
      rcases z with z | z
      · exact nw z
      · exact z hy⟩
    let tt : XK → TE := fun E σ H Q => ∃ (w1 : Wd) (xp1 : XP), w1.G = w.G ∧ (∀ cls d σ' H', XW w1 xp1 cls d σ' H' → E cls d H') ∧ tJ w1 (fun ρ K => iE S xp1 c0 ρ K) σ H Q
    have hbody : ∀ (A : Around) (outer : List Env) (s : Shared) (H : Hp) (E : XK) (f c' : Addr), Room k (A.deeper (lamEnv X scope s.heap.objs.size f c')) → PE (lamN X A outer s H E scope f c') body (tt E) := fun A outer s H E f c' hr' => ⟨fun pins s' σ H' Q I q => by
      obtain ⟨w1, xp1, eG, hE, q⟩ := q
      refine (ih (X' := lamN X A outer s H E scope f c') (sc' := scope) (e' := body) ?_ ?_ h5 w1 xp1 eG ((lamN_takes).imp fun cls d σ' H' z => hE cls d σ' H' z) ?_).run pins s' σ H' Q I q
      · refine { nd := gx.nd, calm := rfl, K := gx.K, w := gx.w, scr := fun _ _ e => .inl e, fnc := fun y hy => ?_, gv := gx.gv, bn := gx.bn, hu := ?_ }
        · exact absurd rfl (L0.own _ (PySem.mem_of_lookup hy)).1
        · have := hr'.un
          show (A.deeper _).units + 65 < cLine
          omega
      · intro i e he
        obtain ⟨k', f', fd', ps', ds', dvs', hk, F1, m1, k1, b1, v1, r1⟩ := hf i e he
        exact ⟨k', f', fd', ps', ds', dvs', F1, hr'.mono hk, m1, k1, b1, v1, r1⟩
      · intro z
        have z : scope.names.lookup ("_law_told" : Str) = some .globalImplicit := z
        rw [h4] at z; cases z⟩
    refine (pe_toldD (c := c) (xs := xs) (ws := fun σ => L2.wipe σ wp) (t := tt) (p := p) (lpos := lpos) (pos := pos) hg TK0 TB hcode hr L hp hs hbody).imp fun σ H Q q => ?_
    obtain ⟨F, ρ, l, Kd, q, k0⟩ := q
    simp only [iE] at q
    obtain ⟨hw, q⟩ := q
    obtain ⟨F1, leF, l1⟩ := frzL_rel l fz
    refine ⟨(l.tb _ ht).1, fun H1 e1 t1 => ?_⟩
    have l2 := l1.tabled ht hu e1 t1
    have l3 := (lam_rl l2).wipeL wp hw
    refine ⟨EchT X.K X.mg c Q, toldK_of, wIn w.G F1 H1, _, rfl, ?_, F1, _, l3, _, q, ?_⟩
    · rintro cls d σ' H' ⟨F', ρ', xn, l', ⟨hcl, d0, fs, hd, hH, rf⟩, tx⟩
      have gr := grow_in l2.tabs l'
      have l4 := l2.growT gr
      unfold toldX at tx
      split at tx
      · rename_i q0 hq
        obtain ⟨hwd, tx⟩ := tx
        obtain ⟨vw, ew, rw'⟩ := repF_at rf hwd
        have rw' : vw = .str q0.2 := by simpa only [Rep] using rw'
        subst rw'
        have fin : ∀ (v : V) (dd : D), Rep w.G F' v dd → Kd (.v (.tup [.str q0.2, dd])) (frzL ρ fz) → ∀ p H1', Le H' H1' → H1' p = none → Q (.ref p) (upd H1' p (.tup [.str q0.2, v])) := fun v dd rv kd p H1' le1 hp => by
          have g1 : Grow F' H' F' H1' := ⟨le_rfl', le1, le_tr l4.le le1, fun _ _ n => n⟩
          have g2 := Grow.new g1.le hp (.tup [.str q0.2, v])
          have l5 := (l4.grow g1).grow g2
          refine k0 (.v (.tup [.str q0.2, dd])) (frzL ρ fz) _ _ (.ref p) (le_tr leF (le_tr gr.fm g2.fm)) l5 ?_ kd
          exact Rep.tup' (.inl (.inl upd_same)) (RepL.cons (Rep.str' _) (RepL.cons (rv.mono g2.fm) RepL.nil))
        have tc := hc _ _ hq
        split at tx
        · rename_i m hm
          obtain ⟨dd, hl, kd⟩ := tx
          obtain ⟨v, ev, rv⟩ := repF_at rf hl
          exact ⟨_, d0, fs, q0.2, v, some m, hcl, hd, hH, ew, by rw [← hm]; exact tc, ev, fin v dd rv kd⟩
        · rename_i hm
          exact ⟨_, d0, fs, q0.2, .non, none, hcl, hd, hH, ew, by rw [← hm]; exact tc, rfl, fin .non .non Rep.non' tx⟩
      · exact tx.elim
    · intro r ρ' F' H' v le' l' rr kd
      obtain ⟨F2, le2, l2', rs⟩ := settle_rel l' rr
      obtain ⟨dd, F3, ρ3, le3, l3', rv, kd⟩ := frz_rel l2' rs kd
      have gr := grow_in l2.tabs l3'
      have l4 := l2.growT gr
      refine ⟨by show 2 ≤ sizeLine; decide, fun p hp => ?_⟩
      have g2 := Grow.new l4.le hp (.tup [.str "told", v])
      refine k0 (.v (.tup [.str "told", dd])) (frzL ρ fz) _ _ (.ref p) (le_tr leF (le_tr gr.fm g2.fm)) (l4.grow g2) ?_ kd
      exact Rep.tup' (.inl (.inl upd_same)) (RepL.cons (Rep.str' _) (RepL.cons (rv.mono g2.fm) RepL.nil))
end DL

/-! DTl: the law itself: a def whose own table of code objects changes, of one script. -/
namespace DL
open PySem PySem.Spec PyProof.Rows L2 LamX DH

/-- the law's promise: True for every script -/
def spLawT (K : PySem.W.Frag) (Ps : List Addr) : Sp := fun vs H Q _ => ∃ (a : Addr) (ns : List Int), vs = [.ref a] ∧ ns.length ≤ 63 ∧ (∀ z ∈ ns, Builtin.Int.intBits z ≤ 1048576) ∧ SqL K H a (ns.map V.int) ∧ (∀ P ∈ Ps, H P = some (.tbl #[])) ∧ ∀ H', Q (.bl true) H'
theorem law_ok {S : Sg} {G : Gd} {P : Program} {w : World} {K : PySem.W.Frag} {mg : Str → Option Value} {base : Heap} {k : Nat} {st stT : Stmt} {f g cc Pt : Addr} {Ps : List Addr} {qt : Str} {gd : FuncData} {c : TC} {N : List Str} {oc kV doc pm ct : Value} {od an : Option Addr} {osl : Array (Option Value)} (body : Ss)
    (T : TW S G P w K mg base k) (lk : K.lookup f = some ⟨oc, od, .func (PySem.W.fnOf "law" "law" (defArgs st) (defBody st) (defScope st) .none kV doc pm an (.ref cc) ct), osl⟩) (hcd : PySem.W.codeIn K (.ref cc) "law" = true) (Sc : FnScope N ["_law_script"] (defScope st))
    (hm : mSs S N (defScope st) body (defBody st) = true) (TB : TabB base mg cc Pt) (TK0 : ToldK P w K mg base k stT g gd c) (hc : ∀ (j : Nat) (q : Str × Str), S.cs[j]? = some q → TlC K mg c (G.cl j) (fldOf q.1) q.2)
    (hqt : qt = ((envOfC "law" (defScope st) 0 0 .none).qual ++ "<lambda>")) (ht : (Pt, qt) ∈ G.ts) (hu : ∀ q ∈ G.ts, q.1 = Pt → q = (Pt, qt)) (hPs : ∀ q ∈ G.ts, q.1 ∈ Ps)
    (hsem : ∀ ns : List Int, ns.length ≤ 63 → (∀ z ∈ ns, Builtin.Int.intBits z ≤ 1048576) → iSs S (fun _ _ => False) body (.fz (.scr ns) :: List.replicate (N.length - 1) Sl.no) { nx := fun _ => False, rt := fun r _ => r = .v (.bl true) }) :
    FnOk P w K mg base (L2N.CX P w) (k + 3) f (PySem.W.fnOf "law" "law" (defArgs st) (defBody st) (defScope st) .none kV doc pm an (.ref cc) ct) ["_law_script"] (spLawT K Ps) := by
  have hN : N = ("_law_script" : Str) :: N.drop 1 := by
    have := Sc.pre
    have e : N = N.take 1 ++ N.drop 1 := (List.take_append_drop 1 N).symm
    rw [show (["_law_script"] : List Str).length = 1 from rfl] at this
    rw [this] at e
    exact e
  refine fn_of lk hcd Sc (fun vs H Q E h => by obtain ⟨a, ns, rfl, _⟩ := h; rfl) fun A outer s H vs Q E hr h => ?_
  obtain ⟨a, ns, rfl, hl, hb, hS, hP, hq⟩ := h
  let X := cxOf (L2N.CX P w) P w K mg base N "law" (defScope st) f (.ref cc) A outer s H E
  let F : Hp := delT G.ts H
  let w0 : Wd := ⟨G, F, F, fun _ => none, fun _ => none⟩
  have at_ : ∀ b o, H b = some o → (∀ ps, o ≠ .tbl ps) → F b = some o := fun b o e n => by
    show delT G.ts H b = some o
    rw [delT_ne fun q hq z => n #[] (by rw [← z, hP _ (hPs q hq)] at e; exact (Option.some.inj e).symm)]
    exact e
  have leF : Le F H := fun b o e => (delT_some e).1
  have rp : Rep G F (.ref a) (.scr ns) := by
    simp only [Rep]
    refine ⟨a, rfl, ?_⟩
    rw [T.eK]
    rcases hS with (q | ⟨o, q⟩) | q
    · exact .inl (.inl (at_ _ _ q (fun ps z => by cases z)))
    · exact .inl (.inr ⟨o, at_ _ _ q (fun ps z => by cases z)⟩)
    · exact .inr q
  have gX : XS S G (defScope st) X := by
    refine { nd := Sc.nd, calm := rfl, K := T.eK, w := T.ew, scr := fun _ _ e => .inl e, fnc := fun _ _ => rfl, gv := T.gv, bn := T.bn, hu := ?_, hp := passes_of rfl, bk := ?_, cx := fun j c hj => ?_ }
    · have := hr.un
      show (A.deeper _).units + 65 < cLine
      omega
    · show (if (defScope st).kind.isAnnotationScope then ScopeKind.function else (defScope st).kind) = _
      rw [Sc.kind]
      rfl
    · obtain ⟨h3, ox, nf, hm', ini⟩ := T.cs j c hj
      exact ⟨⟨ox, nf, hm', ini⟩, hr.mono (by omega)⟩
  have fcs : FnCs S G X := fun i e he => by
    obtain ⟨k', f', fd', ps', ds', dvs', hk, F1, m1, k1, b1, v1, r1⟩ := T.fs i e he
    exact ⟨k', f', fd', ps', ds', dvs', F1, hr.mono (by omega), m1, k1, b1, v1, r1⟩
  have l0 : Rl w0 F H (L2.start N [.ref a]) (.fz (.scr ns) :: List.replicate (N.length - 1) Sl.no) := by
    have hlen : 1 ≤ N.length := by rw [hN]; simp
    have len : (L2.start N [V.ref a]).length = ((.fz (.scr ns) :: List.replicate (N.length - 1) Sl.no : Rho)).length := by
      unfold L2.start
      simp
    refine { len := len, le := leF, f0 := fun _ _ e => e, kp := fun b o e _ => leF b o e, al := fun b e => ?_, nf := fun _ h1 h2 => absurd h2 h1, sl := fun i q e => ?_, pr := fun i b e => (by cases e), dj := fun i j b c1 c2 xs ys e1 _ _ _ => ?_, fx := fun b o e => (by cases e), tb := fun q e => ?_ }
    · show delT G.ts H b = none
      cases z : delT G.ts H b with
      | none => rfl
      | some o => rw [(delT_some z).1] at e; cases e
    · cases i with
      | zero =>
        cases e
        exact ⟨.ref a, by unfold L2.start; rfl, rp⟩
      | succ i =>
        have e : (List.replicate (N.length - 1) Sl.no)[i]? = some q := by simpa using e
        rw [List.getElem?_replicate] at e
        split at e
        · cases e; trivial
        · cases e
    · cases i with
      | zero => cases e1
      | succ i =>
        have e1 : (List.replicate (N.length - 1) Sl.no)[i]? = some (.ow c1 xs) := by simpa using e1
        rw [List.getElem?_replicate] at e1
        split at e1 <;> cases e1
    · exact ⟨.nil (hP _ (hPs q e)), delT_in e, rfl, delT_in e⟩
  have tk : XOk S X w0 (fun _ _ => False) := ⟨fun u s' x => by
      obtain ⟨_, _, _, _, _, _, _, _, _, _, _, _, _, _, _, _, F, ρ, xn, _, _, z⟩ := x
      exact z.elim, fun _ => told_rule (X := X) (w := w0) TK0 TB rfl hr (by rw [show X.env.qual ++ ("<lambda>" : Str) = qt from hqt.symm]; exact ht) (by rw [show X.env.qual ++ ("<lambda>" : Str) = qt from hqt.symm]; exact hu) hc T.fs⟩
  refine ⟨_, qSs body gX fcs hm w0 rfl tk, F, _, l0, { nx := fun _ => False, rt := fun r _ => r = .v (.bl true) }, hsem ns hl hb, fun ρ' σ' F' H' le l' => ⟨fun q => q.elim, fun q => q.elim, fun q => q.elim, fun r v rr q => ?_⟩⟩
  subst q
  have rr : Rep G F' v (.bl true) := rr
  simp only [Rep] at rr
  subst rr
  exact hq H'
end DL

/-! DTh: what a law's head hands over: the classes, _law_told, _law_kind, _law_same. -/
namespace DL
open PySem PySem.Spec PyProof.Rows L2 LamX DH

/-- the classes by name, each with its address -/
abbrev CA := List (Str × Addr)
def caAt (L : CA) (n : Str) : Addr := (L.lookup n).getD 0
def eNames : List Str := kAll ++ ([("PurseError" : Str), ("Missing" : Str)] : List Str)
def tcOf (L : CA) : TC := ⟨caAt L "BadText", caAt L "BadPage", caAt L "TooWide", caAt L "PurseError", caAt L "Missing", caAt L "NothingLeft"⟩
def kitB (K : PySem.W.Frag) (C : Addr) (nm : Str) (L : CA) : Bool := L.all fun p => decide (p.1 ∉ kAll) || decide (PySem.W.kitOne K (.ref C) (.ref p.2) = some (decide (p.1 = nm)))
def exmB (K : PySem.W.Frag) (C : Addr) (nm : Str) (c : TC) : Bool :=
  decide (PySem.W.exmOne K (.ref C) (.ref c.c1) = some (decide (nm = "BadText"))) && (decide (PySem.W.exmOne K (.ref C) (.ref c.c2) = some (decide (nm = "BadPage"))) && (decide (PySem.W.exmOne K (.ref C) (.ref c.c3) = some (decide (nm = "TooWide"))) &&
    decide (PySem.W.exmAny K (.ref C) [.ref c.c4, .ref c.c5, .ref c.c6] = some true)))
def clsB (K : PySem.W.Frag) (C : Addr) : Bool :=
  decide (PySem.W.findIn K (.ref C) "__getattribute__" = some (some (.builtin "BaseException.__getattribute__"))) && (decide (PySem.W.findIn K (.ref C) "__getattr__" = some none) && (decide (PySem.W.subIn K (.ref C) (.type "BaseException") = some true) && (PySem.W.hasDictIn K C &&
    (decide (PySem.W.findIn K (.ref C) "__class__" = some (some (.builtin "object.__class__"))) && (decide (PySem.W.specialIn K (.builtin "object.__class__") "__get__" = some (some (.builtin "getset_descriptor.__get__"))) && (decide (PySem.W.takesIn K (.builtin "object.__class__") = some true) &&
      (decide (PySem.W.mroIn K C (.type "object") = some true) && (decide (PySem.W.findIn K (.ref C) "__setattr__" = some (some (.builtin "object.__setattr__"))) && (decide (PySem.W.typeIn K (.ref C) = some (.type "type")) && (PySem.W.keepIn K (.ref C) &&
        (decide (PySem.W.findIn K (.ref C) "word" = some none) && (decide (PySem.W.findIn K (.ref C) "most" = some none) && (decide (PySem.W.findIn K (.ref C) "at" = some none) && decide (PySem.W.findIn K (.ref C) "row" = some none))))))))))))))
structure ClsF (K : PySem.W.Frag) (C : Addr) : Prop where
  ec : ExcC K C
  xf : XfC K C
  sa : PySem.W.findIn K (.ref C) "__setattr__" = some (some (.builtin "object.__setattr__"))
  ty : PySem.W.typeIn K (.ref C) = some (.type "type")
  kp : PySem.W.keepIn K (.ref C) = true
  nf : ∀ f, f ∈ (["word", "most", "at", "row"] : List Str) → PySem.W.findIn K (.ref C) f = some none
theorem clsF {K : PySem.W.Frag} {C : Addr} (h : clsB K C = true) : ClsF K C := by
  unfold clsB at h
  simp only [Bool.and_eq_true, decide_eq_true_eq] at h
  obtain ⟨h1, h2, h3, h4, h5, h6, h7, h8, h9, h10, h11, h12, h13, h14, h15⟩ := h
  refine ⟨⟨h1, h2, h3, h4, h5, h6, h7, h8⟩, ⟨h1, h2, h3, h4⟩, h9, h10, h11, fun f hf => ?_⟩
  simp only [List.mem_cons, List.not_mem_nil, or_false] at hf
  rcases hf with rfl | rfl | rfl | rfl <;> assumption
/-- the classes' names stand where the module says -/
structure CAOk (mg : Str → Option Value) (L : CA) : Prop where
  mg : ∀ p ∈ L, mg p.1 = some (.ref p.2)
  nm : L.map (·.1) = eNames
theorem ca_mem {mg : Str → Option Value} {L : CA} (h : CAOk mg L) {n : Str} (hn : n ∈ eNames) : ∃ p ∈ L, p.1 = n := by
  rw [← h.nm] at hn
  exact List.mem_map.mp hn
theorem lookup_mem {L : CA} {n : Str} : (∃ p ∈ L, p.1 = n) → ∃ a, L.lookup n = some a ∧ (n, a) ∈ L := by
  induction L with
  | nil => rintro ⟨p, hp, _⟩; cases hp
  | cons q L ih =>
    intro h
    obtain ⟨m, a⟩ := q
    rw [List.lookup_cons]
    by_cases e : n = m
    · subst e
      exact ⟨a, by simp, List.mem_cons_self⟩
    · have ne : (n == m) = false := by simpa using e
      rw [ne]
      obtain ⟨p, hp, hn⟩ := h
      rcases List.mem_cons.mp hp with rfl | hp
      · exact absurd hn.symm e
      · obtain ⟨b, h1, h2⟩ := ih ⟨p, hp, hn⟩
        exact ⟨b, h1, List.mem_cons_of_mem _ h2⟩
theorem ca_at {mg : Str → Option Value} {L : CA} (h : CAOk mg L) {n : Str} (hn : n ∈ eNames) : mg n = some (.ref (caAt L n)) := by
  obtain ⟨a, h1, h2⟩ := lookup_mem (ca_mem h hn)
  have := h.mg _ h2
  unfold caAt
  rw [h1]
  exact this
theorem tlc_of {K : PySem.W.Frag} {mg : Str → Option Value} {C : Addr} {nm z : Str} {L : CA} (hb : clsB K C = true) (hk : kitB K C nm L = true) (he : exmB K C nm (tcOf L) = true) (hL : CAOk mg L) (hp : kPick (fun n => decide (n = nm)) = [z]) (hz : z.length ≤ 100) : TlC K mg (tcOf L) C (fldOf nm) z := by
  have f := clsF hb
  unfold exmB at he
  simp only [Bool.and_eq_true, decide_eq_true_eq] at he
  obtain ⟨e1, e2, e3, e4⟩ := he
  refine ⟨fun n => decide (n = nm), _, _, _, ⟨f.ec, f.xf, f.nf _ (by simp), fun n hn => ?_⟩, hp, hz, e1, fun _ => e2, fun _ _ => e3, fun _ _ _ => e4, ?_, fun m hm => f.nf m ?_⟩
  · obtain ⟨p, hp, rfl⟩ := ca_mem hL (n := n) (List.mem_append_left _ hn)
    have q := List.all_eq_true.mp hk p hp
    rw [Bool.or_eq_true, decide_eq_true_eq, decide_eq_true_eq] at q
    rcases q with q | q
    · exact absurd hn q
    · exact ⟨p.2, hL.mg p hp, q⟩
  · unfold fldOf
    by_cases h1 : nm = "BadText"
    · simp [h1]
    · by_cases h2 : nm = "BadPage"
      · simp [h2]
      · by_cases h3 : nm = "TooWide"
        · simp [h3]
        · simp [h1, h2, h3]
  · unfold fldOf at hm
    split at hm
    · cases hm; simp
    · split at hm
      · cases hm; simp
      · split at hm
        · cases hm; simp
        · cases hm
/-- one class that is raised, as TW wants it -/
def CsOk (P : Program) (w : World) (K : PySem.W.Frag) (mg : Str → Option Value) (base : Heap) (C : Addr) (c : Str × Str) : Prop := OexC K C ∧ (∀ f, f ∈ (["word", "most", "at", "row"] : List Str) → PySem.W.findIn K (.ref C) f = some none) ∧ mg c.1 = some (.ref C) ∧
    ∃ fI fd, PySem.W.findIn K (.ref C) "__init__" = some (some (.ref fI)) ∧ PySem.W.typeIn K (.ref fI) = some (.type "function") ∧ Binds K fd ["self"] [] ∧ FnOk P w K mg base (L2N.CX P w) 2 fI fd ["self"] (spInit K 0 fun _ => [("word", .str c.2)])
theorem cs_of {P : Program} {w : World} {K : PySem.W.Frag} {mg : Str → Option Value} {base : Heap} {C : Addr} {c : Str × Str} {fI : Addr} {fd : FuncData} {nm q : Str} {N : Addr} {bs bm : List Value} {sn : List Str} {sub : List Value} {ab : Bool} {col : Option Bool} {dd : Option Addr} {k0 k1 k2 k3 k5 : Option Value}
    (hb : clsB K C = true) (xC : K.lookup C = some (excClassObj nm q C N bs bm true sn sub ab col dd k0 k1 k2 k3 k5 "ValueError.__new__")) (rv : PySem.HandSPX.refsVE bm = true) (hm : mg c.1 = some (.ref C)) (i1 : PySem.W.findIn K (.ref C) "__init__" = some (some (.ref fI))) (i2 : PySem.W.typeIn K (.ref fI) = some (.type "function"))
    (bd : Binds K fd ["self"] []) (F : FnOk P w K mg base (L2N.CX P w) 2 fI fd ["self"] (spInit K 0 fun _ => [("word", .str c.2)])) : CsOk P w K mg base C c := by
  have f := clsF hb
  exact ⟨⟨⟨_, _, _, _, _, _, _, _, _, _, _, _, _, _, _, xC, rv⟩, f.sa, f.xf.exC, f.ty, f.kp⟩, f.nf, hm, fI, fd, i1, i2, bd, F⟩
/-- _law_told and _law_kind as the head tells them -/
theorem toldK_mk {P : Program} {w : World} {K : PySem.W.Frag} {mg : Str → Option Value} {base : Heap} {k : Nat} {stT stK : Stmt} {g f : Addr} {gd fd : FuncData} {L : CA} (FT : Fun K "_law_told" "_law_told" stT g gd) (FK : Fun K "_law_kind" "_law_kind" stK f fd) (bT : Binds K gd ["_law_ask"] []) (bK : Binds K fd ["_law_e"] [])
    (mT : mg "_law_told" = some (.ref g)) (mK : mg "_law_kind" = some (.ref f)) (hL : CAOk mg L) (mi : mg "isinstance" = none) (mz : mg "zip" = none)
    (sT : FnScope tN ["_law_ask"] (defScope stT)) (s1 : (defScope stT).names.lookup ("_law_ask" : Str) = some .local ∧ (defScope stT).names.lookup ("_law_e" : Str) = some .local) (s2 : ∀ n ∈ tG, (defScope stT).names.lookup n = some .globalImplicit) (s3 : mTold (defBody stT) = true)
    (sK : FnScope kN ["_law_e"] (defScope stK)) (k1 : mKind (defBody stK) = true) (k2 : (["_law_e", "_law_flags", "_law_words", "_law_found"] : List Str).all (fun n => decide ((defScope stK).names.lookup n = some .local)) = true)
    (k3 : (kAll ++ (["isinstance", "zip"] : List Str)).all (fun n => decide ((defScope stK).names.lookup n = some .globalImplicit)) = true) : ToldK P w K mg base (k + 1) stT g gd (tcOf L) where
  fn := FT
  sc := sT
  bd := bT
  ml := s1
  gl := s2
  body := s3
  mt := mT
  kp := FT.kp
  m1 := ca_at hL (by decide +kernel)
  m2 := ca_at hL (by decide +kernel)
  m3 := ca_at hL (by decide +kernel)
  m4 := ca_at hL (by decide +kernel)
  m5 := ca_at hL (by decide +kernel)
  m6 := ca_at hL (by decide +kernel)
  kind := ⟨f, fd, kind_ok FK sK k1 k2 k3 mi mz, mK, FK.kp, bK⟩
/-- a contract that nobody uses -/
def ct_nil : Ct := ⟨false, 2, fun _ _ _ _ => False⟩
theorem fn_nil {G : Gd} {P : Program} {w : World} {K : PySem.W.Frag} {mg : Str → Option Value} {base : Heap} {CX : CXT} {k : Nat} {f : Addr} {fd : FuncData} {ps : List Str} : FnOk P w K mg base CX k f fd ps (ct_nil.sp G) where
  len := fun vs H Q E h => by obtain ⟨_, _, _, _, _, _, _, _, _, z, _⟩ := h; exact z.elim
  run := by
    intros
    rename_i h
    obtain ⟨_, _, _, _, _, _, _, _, _, z, _⟩ := h
    exact z.elim
end DL

/-! EM: deeds and marks: what the defs of the marks' module keep (none raises here). -/
namespace DL
open PySem L2
/-- need_deed(deed) -/
def N_need_deed : List Str := ["deed"]
def P_need_deed : List Str := ["deed"]
def b_need_deed : Ss := .cons (.ife (.cmp .notin (.var 0) (.glob "DEEDS")) (.cons .nev .nil) (.nil)) .nil
/-- need_mark(mark) -/
def N_need_mark : List Str := ["mark"]
def P_need_mark : List Str := ["mark"]
def b_need_mark : Ss := .cons (.ife (.cmp .notin (.var 0) (.glob "MARKS")) (.cons .nev .nil) (.nil)) .nil
/-- spent(purses, deed) -/
def N_spent : List Str := ["purses", "deed", "lesser", "greater"]
def P_spent : List Str := ["purses", "deed"]
def b_spent : Ss := .cons (.tgt (.tp (.cons (.nm 2) (.cons (.nm 3) .nil))) (.var 0)) (
  .cons (.ife (.cmp .eq (.var 1) (.str "cent")) (.cons (.ret (.tup (.cons (.bin .add (.var 2) (.int 1)) (.cons (.var 3) .nil)))) .nil) (.nil)) (
  .cons (.ife (.cmp .eq (.var 1) (.str "fill")) (.cons (.ret (.tup (.cons (.int 0) (.cons (.var 3) .nil)))) .nil) (.nil)) (
  .cons (.ife (.cmp .eq (.var 1) (.str "coin")) (.cons (.ret (.tup (.cons (.int 0) (.cons (.bin .add (.var 3) (.int 1)) .nil)))) .nil) (.nil)) (
  .cons (.ret (.ife (.cmp .eq (.var 1) (.str "brim")) (.tup (.cons (.int 0) (.cons (.int 0) .nil))) (.tup (.cons (.var 2) (.cons (.var 3) .nil))))) .nil))))
/-- later_mark(one, other) -/
def N_later_mark : List Str := ["one", "other"]
def P_later_mark : List Str := ["one", "other"]
def b_later_mark : Ss := .cons (.ret (.ife (.cmp .ge (.ix (.glob "LATER") (.var 0)) (.ix (.glob "LATER") (.var 1))) (.var 0) (.var 1))) .nil
/-- often_mark(mark) -/
def N_often_mark : List Str := ["mark"]
def P_often_mark : List Str := ["mark"]
def b_often_mark : Ss := .cons (.ret (.ife (.cmp .isin (.var 0) (.tup (.cons (.str "cent") (.cons (.str "coin") .nil)))) (.str "dear") (.var 0))) .nil
/-- spend(purses, deed) -/
def N_spend : List Str := ["purses", "deed"]
def P_spend : List Str := ["purses", "deed"]
def b_spend : Ss := .cons (.ex (.call 3 (.cons (.var 1) .nil))) (
  .cons (.ret (.call 5 (.cons (.var 0) (.cons (.var 1) .nil)))) .nil)
/-- peak(deeds) -/
def N_peak : List Str := ["deeds", "deed", "purses", "found"]
def P_peak : List Str := ["deeds"]
def b_peak : Ss := .cons (.for (.nm 1) (.seq (.var 0)) (.cons (.ex (.call 3 (.cons (.var 1) .nil))) .nil)) (
  .cons (.set 2 (.tup (.cons (.int 0) (.cons (.int 0) .nil)))) (
  .cons (.set 3 (.int 0)) (
  .cons (.for (.nm 1) (.seq (.var 0)) (.cons (.set 2 (.call 5 (.cons (.var 2) (.cons (.var 1) .nil)))) (
    .cons (.set 3 (.bi .max3 (.cons (.var 3) (.cons (.ix (.var 2) (.int 0)) (.cons (.ix (.var 2) (.int 1)) .nil))))) .nil))) (
  .cons (.ret (.var 3)) .nil))))
/-- mark_of(deeds) -/
def N_mark_of : List Str := ["deeds", "deed", "found"]
def P_mark_of : List Str := ["deeds"]
def b_mark_of : Ss := .cons (.for (.nm 1) (.seq (.var 0)) (.cons (.ex (.call 3 (.cons (.var 1) .nil))) .nil)) (
  .cons (.set 2 (.str "keep")) (
  .cons (.for (.nm 1) (.seq (.var 0)) (.cons (.set 2 (.call 6 (.cons (.var 2) (.cons (.var 1) .nil)))) .nil)) (
  .cons (.ret (.var 2)) .nil)))
/-- behind(one, other) -/
def N_behind : List Str := ["one", "other"]
def P_behind : List Str := ["one", "other"]
def b_behind : Ss := .cons (.ex (.call 4 (.cons (.var 0) .nil))) (
  .cons (.ex (.call 4 (.cons (.var 1) .nil))) (
  .cons (.ret (.call 6 (.cons (.var 0) (.cons (.var 1) .nil)))) .nil))
/-- again(mark) -/
def N_again : List Str := ["mark"]
def P_again : List Str := ["mark"]
def b_again : Ss := .cons (.ex (.call 4 (.cons (.var 0) .nil))) (
  .cons (.ret (.call 7 (.cons (.var 0) .nil))) .nil)
def gvM : List (Str × D) := [("DEEDS", .tup [.str "keep", .str "cent", .str "fill", .str "coin", .str "brim"]), ("MARKS", .tup [.str "brim", .str "fill", .str "keep", .str "cent", .str "coin", .str "dear", .str "shut"]),
  ("LATER", .kd [("keep", .int 0), ("cent", .int 1), ("fill", .int 2), ("coin", .int 3), ("brim", .int 4), ("dear", .int 5), ("shut", .int 6)])]
inductive Mark where | brim | fill | keep | cent | coin | dear | shut
deriving DecidableEq
inductive Deed where | keep | cent | fill | coin | brim
deriving DecidableEq
def Mark.t : Mark → String | .keep => "keep" | .cent => "cent" | .fill => "fill" | .coin => "coin" | .brim => "brim" | .dear => "dear" | .shut => "shut"
def Mark.s (m : Mark) : Str := m.t
def Mark.rank : Mark → Int | .keep => 0 | .cent => 1 | .fill => 2 | .coin => 3 | .brim => 4 | .dear => 5 | .shut => 6
def Deed.mark : Deed → Mark | .keep => .keep | .cent => .cent | .fill => .fill | .coin => .coin | .brim => .brim
def Deed.s (d : Deed) : Str := d.mark.s
theorem Mark.s_inj {a b : Mark} (h : a.s = b.s) : a = b := by
  have h : (Str.ofString a.t) = Str.ofString b.t := h
  rw [ofs_eq] at h
  cases a <;> cases b <;> first | rfl | exact absurd h (by decide)
theorem Deed.s_inj {a b : Deed} (h : a.s = b.s) : a = b := by
  have h := Mark.s_inj h
  cases a <;> cases b <;> first | rfl | cases h
def spentL (p : Int × Int) : Deed → Int × Int | .keep => p | .cent => (p.1 + 1, p.2) | .fill => (0, p.2) | .coin => (0, p.2 + 1) | .brim => (0, 0)
def prD (p : Int × Int) : D := .tup [.int p.1, .int p.2]
def laterM (a b : Mark) : Mark := if b.rank ≤ a.rank then a else b
def oftenM : Mark → Mark | .cent => .dear | .coin => .dear | m => m
def peakS (s : (Int × Int) × Int) (d : Deed) : (Int × Int) × Int := (spentL s.1 d, max (max s.2 (spentL s.1 d).1) (spentL s.1 d).2)
def peakL (ds : List Deed) : Int := (ds.foldl peakS ((0, 0), 0)).2
def markL (ds : List Deed) : Mark := ds.foldl (fun m d => laterM m d.mark) .keep
def dsD (ds : List Deed) : D := .lst (ds.map fun d => .str d.s)
theorem dsD_inj {a b : List Deed} (h : dsD a = dsD b) : a = b := by
  injection h with h
  exact (List.map_inj_right (fun x y e => Deed.s_inj (by injection e))).mp h
theorem prD_inj {a b : Int × Int} (h : prD a = prD b) : a = b := by
  injection h with h
  injection h with h1 h2
  injection h2 with h2 h3
  injection h1 with h1
  injection h2 with h2
  exact Prod.ext h1 h2
def ct_need_deed : Ct := ⟨false, 1, fun _ _ a K => ∃ d : Deed, a = [.str d.s] ∧ K (.d .non) []⟩
def ct_need_mark : Ct := ⟨false, 1, fun _ _ a K => ∃ d : Mark, a = [.str d.s] ∧ K (.d .non) []⟩
def ct_spent : Ct := ⟨false, 2, fun _ _ a K => ∃ p, ∃ d : Deed, a = [prD p, .str d.s] ∧ K (.d (prD (spentL p d))) []⟩
def ct_later_mark : Ct := ⟨false, 2, fun _ _ a K => ∃ x y : Mark, a = [.str x.s, .str y.s] ∧ K (.d (.str (laterM x y).s)) []⟩
def ct_often_mark : Ct := ⟨false, 1, fun _ _ a K => ∃ x : Mark, a = [.str x.s] ∧ K (.d (.str (oftenM x).s)) []⟩
def ct_peak : Ct := ⟨false, 1, fun _ _ a K => ∃ ds : List Deed, a = [dsD ds] ∧ K (.d (.int (peakL ds))) []⟩
def ct_mark_of : Ct := ⟨false, 1, fun _ _ a K => ∃ ds : List Deed, a = [dsD ds] ∧ K (.d (.str (markL ds).s)) []⟩
section
variable {S : Sg} {X : Xn → Prop} {K : R → Prop}
theorem cl_need_deed {d : Deed} : clK ct_need_deed [.str d.s] X K = K (.v .non) :=
  propext ⟨fun ⟨_, _, _, h⟩ => h, fun h => ⟨rfl, d, rfl, h⟩⟩
theorem cl_need_mark {d : Mark} : clK ct_need_mark [.str d.s] X K = K (.v .non) :=
  propext ⟨fun ⟨_, _, _, h⟩ => h, fun h => ⟨rfl, d, rfl, h⟩⟩
theorem cl_spent {p : Int × Int} {d : Deed} : clK ct_spent [prD p, .str d.s] X K = K (.v (prD (spentL p d))) :=
  propext ⟨fun ⟨_, p', d', e, h⟩ => by
    injection e with e1 e2
    injection e2 with e2 _
    injection e2 with e2
    have := prD_inj e1; subst this
    have := Deed.s_inj e2; subst this
    exact h, fun h => ⟨rfl, p, d, rfl, h⟩⟩
theorem cl_later {x y : Mark} : clK ct_later_mark [.str x.s, .str y.s] X K = K (.v (.str (laterM x y).s)) :=
  propext ⟨fun ⟨_, p', d', e, h⟩ => by
    injection e with e1 e2
    injection e2 with e2 _
    injection e2 with e2
    injection e1 with e1
    have := Mark.s_inj e1; subst this
    have := Mark.s_inj e2; subst this
    exact h, fun h => ⟨rfl, x, y, rfl, h⟩⟩
theorem cl_often {x : Mark} : clK ct_often_mark [.str x.s] X K = K (.v (.str (oftenM x).s)) :=
  propext ⟨fun ⟨_, p', e, h⟩ => by
    injection e with e1 e2
    injection e1 with e1
    have := Mark.s_inj e1; subst this
    exact h, fun h => ⟨rfl, x, rfl, h⟩⟩
theorem cl_peak {ds : List Deed} : clK ct_peak [dsD ds] X K = K (.v (.int (peakL ds))) :=
  propext ⟨fun ⟨_, p', e, h⟩ => by
    injection e with e1 e2
    have := dsD_inj e1; subst this
    exact h, fun h => ⟨rfl, ds, rfl, h⟩⟩
theorem cl_mark_of {ds : List Deed} : clK ct_mark_of [dsD ds] X K = K (.v (.str (markL ds).s)) :=
  propext ⟨fun ⟨_, p', e, h⟩ => by
    injection e with e1 e2
    have := dsD_inj e1; subst this
    exact h, fun h => ⟨rfl, ds, rfl, h⟩⟩
/-- what a def's body is to keep -/
def Body (S : Sg) (c : Ct) (b : Ss) (N P : List Str) : Prop := ∀ (Xd : Xn → List D → Prop) (bag args : List D) (Kd : Res → List D → Prop), args.length = c.n → c.sem Xd bag args Kd →
      iSs S (fun xn ρ => Xd xn (bagOf c.m ρ)) b (start0 c.m bag args (N.length - P.length)) { nx := fun ρ => finR c.m Kd (.v .non) ρ, rt := finR c.m Kd }
theorem h_need_deed (g : S.gv.lookup ("DEEDS" : Str) = some (.tup [.str "keep", .str "cent", .str "fill", .str "coin", .str "brim"])) : Body S ct_need_deed b_need_deed N_need_deed P_need_deed := by
  rintro Xd bag args Kd hn ⟨d, rfl, h⟩
  cases d <;> simp [b_need_deed, N_need_deed, P_need_deed, ct_need_deed, ↓ ze_globh g, Deed.s, Deed.mark, Mark.s, Mark.t, h]
theorem h_need_mark (g : S.gv.lookup ("MARKS" : Str) = some (.tup [.str "brim", .str "fill", .str "keep", .str "cent", .str "coin", .str "dear", .str "shut"])) : Body S ct_need_mark b_need_mark N_need_mark P_need_mark := by
  rintro Xd bag args Kd hn ⟨d, rfl, h⟩
  cases d <;> simp [b_need_mark, N_need_mark, P_need_mark, ct_need_mark, ↓ ze_globh g, Mark.s, Mark.t, h]
theorem h_spent : Body S ct_spent b_spent N_spent P_spent := by
  rintro Xd bag args Kd hn ⟨p, d, rfl, h⟩
  have s2 : 2 ≤ sizeLine := sz 2 (by decide)
  cases d <;> simp [b_spent, N_spent, P_spent, ct_spent, prD, Deed.s, Deed.mark, Mark.s, Mark.t, s2] <;> exact h
theorem h_later_mark (g : S.gv.lookup ("LATER" : Str) = some (.kd [("keep", .int 0), ("cent", .int 1), ("fill", .int 2), ("coin", .int 3), ("brim", .int 4), ("dear", .int 5), ("shut", .int 6)])) : Body S ct_later_mark b_later_mark N_later_mark P_later_mark := by
  rintro Xd bag args Kd hn ⟨x, y, rfl, h⟩
  have e : ∀ z : Mark, List.lookup z.s [(("keep" : Str), D.int 0), ("cent", .int 1), ("fill", .int 2), ("coin", .int 3), ("brim", .int 4), ("dear", .int 5), ("shut", .int 6)] = some (.int z.rank) := fun z => by
    cases z <;> simp [List.lookup_cons, Mark.s, Mark.t, Mark.rank]
  simp [b_later_mark, N_later_mark, P_later_mark, ct_later_mark, ↓ ze_globh g, e]
  unfold laterM at h
  split <;> rename_i hh
  · rw [if_pos hh] at h; exact h
  · rw [if_neg hh] at h; exact h
theorem h_often_mark : Body S ct_often_mark b_often_mark N_often_mark P_often_mark := by
  rintro Xd bag args Kd hn ⟨x, rfl, h⟩
  have s2 : 2 ≤ sizeLine := sz 2 (by decide)
  cases x <;> simp [b_often_mark, N_often_mark, P_often_mark, ct_often_mark, Mark.s, Mark.t, s2] <;> exact h
def ct_behind : Ct := ct_later_mark
def ct_again : Ct := ct_often_mark
theorem h_spend (h3 : S.fs[3]? = some ⟨"need_deed", ct_need_deed, []⟩) (h5 : S.fs[5]? = some ⟨"spent", ct_spent, []⟩) : Body S ct_spent b_spend N_spend P_spend := by
  rintro Xd bag args Kd hn ⟨p, d, rfl, h⟩
  simp [b_spend, N_spend, P_spend, ct_spent]
  simp [↓ ze_callh h3 rfl, ↓ ze_callh h5 rfl, ↓ cl_need_deed, ↓ cl_spent]
  exact h
theorem h_behind (h4 : S.fs[4]? = some ⟨"need_mark", ct_need_mark, []⟩) (h6 : S.fs[6]? = some ⟨"later_mark", ct_later_mark, []⟩) : Body S ct_later_mark b_behind N_behind P_behind := by
  rintro Xd bag args Kd hn ⟨x, y, rfl, h⟩
  simp [b_behind, N_behind, P_behind, ct_later_mark]
  simp [↓ ze_callh h4 rfl, ↓ ze_callh h6 rfl, ↓ cl_need_mark, ↓ cl_later]
  exact h
theorem h_again (h4 : S.fs[4]? = some ⟨"need_mark", ct_need_mark, []⟩) (h7 : S.fs[7]? = some ⟨"often_mark", ct_often_mark, []⟩) : Body S ct_often_mark b_again N_again P_again := by
  rintro Xd bag args Kd hn ⟨x, rfl, h⟩
  simp [b_again, N_again, P_again, ct_often_mark]
  simp [↓ ze_callh h4 rfl, ↓ ze_callh h7 rfl, ↓ cl_need_mark, ↓ cl_often]
  exact h
theorem h_mark_of (h3 : S.fs[3]? = some ⟨"need_deed", ct_need_deed, []⟩) (h6 : S.fs[6]? = some ⟨"later_mark", ct_later_mark, []⟩) : Body S ct_mark_of b_mark_of N_mark_of P_mark_of := by
  rintro Xd bag args Kd hn ⟨ds, rfl, h⟩
  simp [b_mark_of, N_mark_of, P_mark_of, ct_mark_of, dsD]
  refine forD_list (fun r ρ => ∃ (l : List Deed) (s : Sl), r = l.map (fun d => D.str d.s) ∧ opS s = true ∧ ρ = [Sl.fz (dsD ds), s, .no]) ?_ ?_ _ _ ⟨ds, .no, rfl, rfl, rfl⟩
  · rintro d r ρ E' ⟨l, s, e, hs, rfl⟩ hn hc hr hb
    obtain ⟨y, l', rfl, rfl, rfl⟩ := map_cons_inv e
    simp [hs, ↓ ze_callh h3 rfl, ↓ cl_need_deed]
    exact hn _ ⟨l', _, rfl, rfl, rfl⟩
  rintro ρ ⟨l, s, e, hs, rfl⟩
  simp [hs, dsD]
  refine forD_list (fun r ρ => ∃ (l : List Deed) (s : Sl) (m : Mark), r = l.map (fun d => D.str d.s) ∧ opS s = true ∧ l.foldl (fun m d => laterM m d.mark) m = markL ds ∧ ρ = [Sl.fz (dsD ds), s, .fz (.str m.s)]) ?_ ?_ _ _ ⟨ds, s, .keep, rfl, hs, rfl, rfl⟩
  · rintro d r ρ E' ⟨l, s, m, e, hs, hf, rfl⟩ hn hc hr hb
    obtain ⟨y, l', rfl, rfl, rfl⟩ := map_cons_inv e
    simp [hs, ↓ ze_callh h6 rfl, ↓ cl_later, Deed.s]
    exact hn _ ⟨l', _, _, rfl, rfl, hf, rfl⟩
  rintro ρ ⟨l, s, m, e, hs, hf, rfl⟩
  have := map_nil_inv e
  subst this
  have hf : m = markL ds := hf
  subst hf
  simp
  exact h
theorem h_peak (h3 : S.fs[3]? = some ⟨"need_deed", ct_need_deed, []⟩) (h5 : S.fs[5]? = some ⟨"spent", ct_spent, []⟩) : Body S ct_peak b_peak N_peak P_peak := by
  rintro Xd bag args Kd hn ⟨ds, rfl, h⟩
  have s2 : 2 ≤ sizeLine := sz 2 (by decide)
  simp [b_peak, N_peak, P_peak, ct_peak, dsD, s2]
  refine forD_list (fun r ρ => ∃ (l : List Deed) (s : Sl), r = l.map (fun d => D.str d.s) ∧ opS s = true ∧ ρ = [Sl.fz (dsD ds), s, .no, .no]) ?_ ?_ _ _ ⟨ds, .no, rfl, rfl, rfl⟩
  · rintro d r ρ E' ⟨l, s, e, hs, rfl⟩ hn hc hr hb
    obtain ⟨y, l', rfl, rfl, rfl⟩ := map_cons_inv e
    simp [hs, ↓ ze_callh h3 rfl, ↓ cl_need_deed]
    exact hn _ ⟨l', _, rfl, rfl, rfl⟩
  rintro ρ ⟨l, s, e, hs, rfl⟩
  simp [hs, dsD, s2]
  refine forD_list (fun r ρ => ∃ (l : List Deed) (s : Sl) (m : (Int × Int) × Int), r = l.map (fun d => D.str d.s) ∧ opS s = true ∧ (l.foldl peakS m).2 = peakL ds ∧ ρ = [Sl.fz (dsD ds), s, .fz (prD m.1), .fz (.int m.2)]) ?_ ?_ _ _ ⟨ds, s, ((0, 0), 0), rfl, hs, rfl, rfl⟩
  · rintro d r ρ E' ⟨l, s, m, e, hs, hf, rfl⟩ hn hc hr hb
    obtain ⟨y, l', rfl, rfl, rfl⟩ := map_cons_inv e
    simp [hs, ↓ ze_callh h5 rfl, ↓ cl_spent]
    simp [prD]
    exact hn _ ⟨l', .fz (.str y.s), peakS m y, rfl, rfl, hf, by simp [peakS, prD, Int.max_assoc]⟩
  rintro ρ ⟨l, s, m, e, hs, hf, rfl⟩
  have := map_nil_inv e
  subst this
  have hf : m.2 = peakL ds := hf
  simp [hf]
  exact h
end
end DL

/-! EMx: deeds and marks, where what is none is refused; the laws' own words of them. Indices of defs and classes are handed in. -/
namespace DL
namespace MX
open PySem L2
/-- need_deed(deed) -/
def N_need_deed : List Str := ["deed"]
def P_need_deed : List Str := ["deed"]
def b_need_deed (c_BadMark : Nat) : Ss := .cons (.ife (.cmp .notin (.var 0) (.glob "DEEDS")) (.cons (.raise c_BadMark) .nil) (.nil)) .nil
/-- spend(purses, deed) -/
def N_spend : List Str := ["purses", "deed"]
def P_spend : List Str := ["purses", "deed"]
def b_spend (i_spent i_need_deed : Nat) : Ss := .cons (.ex (.call i_need_deed (.cons (.var 1) .nil))) (
  .cons (.ret (.call i_spent (.cons (.var 0) (.cons (.var 1) .nil)))) .nil)
/-- peak(deeds) -/
def N_peak : List Str := ["deeds", "deed", "purses", "found"]
def P_peak : List Str := ["deeds"]
def b_peak (i_spent i_need_deed : Nat) : Ss := .cons (.for (.nm 1) (.seq (.var 0)) (.cons (.ex (.call i_need_deed (.cons (.var 1) .nil))) .nil)) (
  .cons (.set 2 (.tup (.cons (.int 0) (.cons (.int 0) .nil)))) (
  .cons (.set 3 (.int 0)) (
  .cons (.for (.nm 1) (.seq (.var 0)) (.cons (.set 2 (.call i_spent (.cons (.var 2) (.cons (.var 1) .nil)))) (
    .cons (.set 3 (.bi .max3 (.cons (.var 3) (.cons (.ix (.var 2) (.int 0)) (.cons (.ix (.var 2) (.int 1)) .nil))))) .nil))) (
  .cons (.ret (.var 3)) .nil))))
/-- mark_of(deeds) -/
def N_mark_of : List Str := ["deeds", "deed", "found"]
def P_mark_of : List Str := ["deeds"]
def b_mark_of (i_later_mark i_need_deed : Nat) : Ss := .cons (.for (.nm 1) (.seq (.var 0)) (.cons (.ex (.call i_need_deed (.cons (.var 1) .nil))) .nil)) (
  .cons (.set 2 (.str "keep")) (
  .cons (.for (.nm 1) (.seq (.var 0)) (.cons (.set 2 (.call i_later_mark (.cons (.var 2) (.cons (.var 1) .nil)))) .nil)) (
  .cons (.ret (.var 2)) .nil)))
/-- _law_deeds_all() -/
def N_law_deeds_all : List Str := []
def P_law_deeds_all : List Str := []
def b_law_deeds_all : Ss := .cons (.ret (.lst (.cons (.str "keep") (.cons (.str "cent") (.cons (.str "fill") (.cons (.str "coin") (.cons (.str "brim") .nil))))))) .nil
/-- _law_spent(_law_purses, _law_deed) -/
def N_law_spent : List Str := ["_law_purses", "_law_deed", "_law_lesser", "_law_greater"]
def P_law_spent : List Str := ["_law_purses", "_law_deed"]
def b_law_spent : Ss := .cons (.tgt (.tp (.cons (.nm 2) (.cons (.nm 3) .nil))) (.var 0)) (
  .cons (.ife (.cmp .eq (.var 1) (.str "cent")) (.cons (.set 2 (.bin .add (.var 2) (.int 1))) .nil) (.nil)) (
  .cons (.ife (.cmp .isin (.var 1) (.tup (.cons (.str "fill") (.cons (.str "coin") (.cons (.str "brim") .nil))))) (.cons (.set 2 (.int 0)) .nil) (.nil)) (
  .cons (.ife (.cmp .eq (.var 1) (.str "coin")) (.cons (.set 3 (.bin .add (.var 3) (.int 1))) .nil) (.nil)) (
  .cons (.ife (.cmp .eq (.var 1) (.str "brim")) (.cons (.set 3 (.int 0)) .nil) (.nil)) (
  .cons (.ret (.tup (.cons (.var 2) (.cons (.var 3) .nil)))) .nil)))))
/-- _law_peak(_law_deeds) -/
def N_law_peak : List Str := ["_law_deeds", "_law_purses", "_law_top", "_law_deed"]
def P_law_peak : List Str := ["_law_deeds"]
def b_law_peak (i_law_spent : Nat) : Ss := .cons (.tgt (.tp (.cons (.nm 1) (.cons (.nm 2) .nil))) (.tup (.cons (.tup (.cons (.int 0) (.cons (.int 0) .nil))) (.cons (.int 0) .nil)))) (
  .cons (.for (.nm 3) (.seq (.var 0)) (.cons (.set 1 (.call i_law_spent (.cons (.var 1) (.cons (.var 3) .nil)))) (
    .cons (.set 2 (.bi .max2 (.cons (.var 2) (.cons (.bi .max1 (.cons (.var 1) .nil)) .nil)))) .nil))) (
  .cons (.ret (.var 2)) .nil))
/-- _law_two_marks(_law_one, _law_other) -/
def N_law_two_marks : List Str := ["_law_one", "_law_other", "_law_ranks"]
def P_law_two_marks : List Str := ["_law_one", "_law_other"]
def b_law_two_marks : Ss := .cons (.set 2 (.lst (.cons (.str "keep") (.cons (.str "cent") (.cons (.str "fill") (.cons (.str "coin") (.cons (.str "brim") (.cons (.str "dear") (.cons (.str "shut") .nil))))))))) (
  .cons (.ret (.ix (.var 2) (.bi .max2 (.cons (.bm .lindex (.var 2) (.var 0)) (.cons (.bm .lindex (.var 2) (.var 1)) .nil))))) .nil)
/-- _law_row_mark(_law_deeds) -/
def N_law_row_mark : List Str := ["_law_deeds", "_law_found", "_law_deed"]
def P_law_row_mark : List Str := ["_law_deeds"]
def b_law_row_mark (i_law_two_marks : Nat) : Ss := .cons (.set 1 (.str "keep")) (
  .cons (.for (.nm 2) (.seq (.var 0)) (.cons (.set 1 (.call i_law_two_marks (.cons (.var 1) (.cons (.var 2) .nil)))) .nil)) (
  .cons (.ret (.var 1)) .nil))
/-- need_mark(mark) -/
def N_need_mark : List Str := ["mark"]
def P_need_mark : List Str := ["mark"]
def b_need_mark (c_BadMark : Nat) : Ss := .cons (.ife (.cmp .notin (.var 0) (.glob "MARKS")) (.cons (.raise c_BadMark) .nil) (.nil)) .nil
/-- behind(one, other) -/
def N_behind : List Str := ["one", "other"]
def P_behind : List Str := ["one", "other"]
def b_behind (i_later_mark i_need_mark : Nat) : Ss := .cons (.ex (.call i_need_mark (.cons (.var 0) .nil))) (
  .cons (.ex (.call i_need_mark (.cons (.var 1) .nil))) (
  .cons (.ret (.call i_later_mark (.cons (.var 0) (.cons (.var 1) .nil)))) .nil))
/-- best(marks) -/
def N_best : List Str := ["marks", "mark"]
def P_best : List Str := ["marks"]
def b_best (i_best_mark i_need_mark : Nat) : Ss := .cons (.for (.nm 1) (.seq (.var 0)) (.cons (.ex (.call i_need_mark (.cons (.var 1) .nil))) .nil)) (
  .cons (.ret (.call i_best_mark (.cons (.var 0) .nil))) .nil)
/-- again(mark) -/
def N_again : List Str := ["mark"]
def P_again : List Str := ["mark"]
def b_again (i_often_mark i_need_mark : Nat) : Ss := .cons (.ex (.call i_need_mark (.cons (.var 0) .nil))) (
  .cons (.ret (.call i_often_mark (.cons (.var 0) .nil))) .nil)
/-- _law_marks_all() -/
def N_law_marks_all : List Str := []
def P_law_marks_all : List Str := []
def b_law_marks_all : Ss := .cons (.ret (.lst (.cons (.str "brim") (.cons (.str "fill") (.cons (.str "keep") (.cons (.str "cent") (.cons (.str "coin") (.cons (.str "dear") (.cons (.str "shut") .nil))))))))) .nil
/-- _law_best(_law_marks) -/
def N_law_best : List Str := ["_law_marks", "_law_ranks", "_law_mark"]
def P_law_best : List Str := ["_law_marks"]
def b_law_best (i_law_marks_all : Nat) : Ss := .cons (.set 1 (.call i_law_marks_all .nil)) (
  .cons (.ret (.ix (.var 1) (.bi .min1 (.cons (.bin .add (.lst (.cons (.int 6) .nil)) (.comp [("_law_mark", 2)] (.nm 2) (.seq (.var 0)) .nil (.bm .lindex (.var 1) (.var 2)))) .nil)))) .nil)
/-- _law_often(_law_mark) -/
def N_law_often : List Str := ["_law_mark"]
def P_law_often : List Str := ["_law_mark"]
def b_law_often : Ss := .cons (.ret (.dget [("cent", "dear"), ("coin", "dear")] 0 0)) .nil
/-- no deed, no mark -/
def badX (c : Nat) : Xn := ⟨c, [("word", .str "badmark")]⟩
abbrev BadAt (S : Sg) (c : Nat) : Prop := S.cs[c]? = some (("BadMark" : Str), ("badmark" : Str))
def isDeed (z : Str) : Prop := ∃ d : Deed, z = d.s
def isMark (z : Str) : Prop := ∃ d : Mark, z = d.s
def dDEEDS : D := .tup [.str "keep", .str "cent", .str "fill", .str "coin", .str "brim"]
def dMARKS : D := .tup [.str "brim", .str "fill", .str "keep", .str "cent", .str "coin", .str "dear", .str "shut"]
def dsS (ds : List Deed) : List D := ds.map fun d => D.str d.s
def zsS (zs : List Str) : List D := zs.map D.str
/-- a list or a tuple of these -/
def Seq (d : D) (xs : List D) : Prop := d = .lst xs ∨ d = .tup xs
def ct_need_deed (c : Nat) : Ct := ⟨false, 1, fun X _ a K => ∃ z : Str, a = [.str z] ∧ (isDeed z → K (.d .non) []) ∧ (¬ isDeed z → X (badX c) [])⟩
def ct_need_mark (c : Nat) : Ct := ⟨false, 1, fun X _ a K => ∃ z : Str, a = [.str z] ∧ (isMark z → K (.d .non) []) ∧ (¬ isMark z → X (badX c) [])⟩
def ct_spend (c : Nat) : Ct := ⟨false, 2, fun X _ a K => ∃ (p : Int × Int) (z : Str), a = [prD p, .str z] ∧ (∀ d : Deed, z = d.s → K (.d (prD (spentL p d))) []) ∧ (¬ isDeed z → X (badX c) [])⟩
def ct_peak (c : Nat) : Ct := ⟨false, 1, fun X _ a K => ∃ (zs : List Str) (d : D), a = [d] ∧ Seq d (zsS zs) ∧ (∀ ds : List Deed, zs = ds.map Deed.s → K (.d (.int (peakL ds))) []) ∧ ((∃ z, z ∈ zs ∧ ¬ isDeed z) → X (badX c) [])⟩
def ct_mark_of (c : Nat) : Ct := ⟨false, 1, fun X _ a K => ∃ (zs : List Str) (d : D), a = [d] ∧ Seq d (zsS zs) ∧ (∀ ds : List Deed, zs = ds.map Deed.s → K (.d (.str (markL ds).s)) []) ∧ ((∃ z, z ∈ zs ∧ ¬ isDeed z) → X (badX c) [])⟩
def ct_behind (c : Nat) : Ct := ⟨false, 2, fun X _ a K => ∃ y z : Str, a = [.str y, .str z] ∧ (∀ m n : Mark, y = m.s → z = n.s → K (.d (.str (laterM m n).s)) []) ∧ (¬ isMark y ∨ ¬ isMark z → X (badX c) [])⟩
def ct_again (c : Nat) : Ct := ⟨false, 1, fun X _ a K => ∃ z : Str, a = [.str z] ∧ (∀ m : Mark, z = m.s → K (.d (.str (oftenM m).s)) []) ∧ (¬ isMark z → X (badX c) [])⟩
def ct_deeds_all : Ct := ⟨false, 0, fun _ _ _ K => K (.n [.str "keep", .str "cent", .str "fill", .str "coin", .str "brim"]) []⟩
def ct_marks_all : Ct := ⟨false, 0, fun _ _ _ K => K (.n [.str "brim", .str "fill", .str "keep", .str "cent", .str "coin", .str "dear", .str "shut"]) []⟩
def ct_dpeak : Ct := ⟨false, 1, fun _ _ a K => ∃ (ds : List Deed) (d : D), a = [d] ∧ Seq d (dsS ds) ∧ K (.d (.int (peakL ds))) []⟩
def ct_dmark : Ct := ⟨false, 1, fun _ _ a K => ∃ (ds : List Deed) (d : D), a = [d] ∧ Seq d (dsS ds) ∧ K (.d (.str (markL ds).s)) []⟩
section
variable {S : Sg} {X : Xn → Prop} {K : R → Prop} {c : Nat}
theorem cl_need {z : Str} (h1 : isDeed z → K (.v .non)) (h2 : ¬ isDeed z → X (badX c)) : clK (ct_need_deed c) [.str z] X K := ⟨rfl, z, rfl, h1, h2⟩
theorem cl_needm {z : Str} (h1 : isMark z → K (.v .non)) (h2 : ¬ isMark z → X (badX c)) : clK (ct_need_mark c) [.str z] X K := ⟨rfl, z, rfl, h1, h2⟩
theorem cl_spend {p : Int × Int} {z : Str} (h1 : ∀ d : Deed, z = d.s → K (.v (prD (spentL p d)))) (h2 : ¬ isDeed z → X (badX c)) : clK (ct_spend c) [prD p, .str z] X K := ⟨rfl, p, z, rfl, h1, h2⟩
theorem cl_deeds (h : K (.n [.str "keep", .str "cent", .str "fill", .str "coin", .str "brim"])) : clK ct_deeds_all [] X K := ⟨rfl, h⟩
theorem cl_marks (h : K (.n [.str "brim", .str "fill", .str "keep", .str "cent", .str "coin", .str "dear", .str "shut"])) : clK ct_marks_all [] X K := ⟨rfl, h⟩
theorem cl_peakx {zs : List Str} {d : D} (hs : Seq d (zsS zs)) (h1 : ∀ ds : List Deed, zs = ds.map Deed.s → K (.v (.int (peakL ds)))) (h2 : (∃ z, z ∈ zs ∧ ¬ isDeed z) → X (badX c)) : clK (ct_peak c) [d] X K := ⟨rfl, zs, d, rfl, hs, h1, h2⟩
theorem cl_markx {zs : List Str} {d : D} (hs : Seq d (zsS zs)) (h1 : ∀ ds : List Deed, zs = ds.map Deed.s → K (.v (.str (markL ds).s))) (h2 : (∃ z, z ∈ zs ∧ ¬ isDeed z) → X (badX c)) : clK (ct_mark_of c) [d] X K := ⟨rfl, zs, d, rfl, hs, h1, h2⟩
theorem cl_behindx {y z : Str} (h1 : ∀ m n : Mark, y = m.s → z = n.s → K (.v (.str (laterM m n).s))) (h2 : ¬ isMark y ∨ ¬ isMark z → X (badX c)) : clK (ct_behind c) [.str y, .str z] X K := ⟨rfl, y, z, rfl, h1, h2⟩
theorem cl_againx {z : Str} (h1 : ∀ m : Mark, z = m.s → K (.v (.str (oftenM m).s))) (h2 : ¬ isMark z → X (badX c)) : clK (ct_again c) [.str z] X K := ⟨rfl, z, rfl, h1, h2⟩
theorem cl_dpeak {ds : List Deed} {d : D} (hs : Seq d (dsS ds)) (h : K (.v (.int (peakL ds)))) : clK ct_dpeak [d] X K := ⟨rfl, ds, d, rfl, hs, h⟩
theorem cl_dmark {ds : List Deed} {d : D} (hs : Seq d (dsS ds)) (h : K (.v (.str (markL ds).s))) : clK ct_dmark [d] X K := ⟨rfl, ds, d, rfl, hs, h⟩
theorem cl_spent' {a b : Int} {d : Deed} : clK ct_spent [.tup [.int a, .int b], .str d.s] X K = K (.v (prD (spentL (a, b) d))) := cl_spent (p := (a, b))
theorem told_bad {cs : List (Str × Str)} {K : D → Prop} (h : cs[c]? = some (("BadMark" : Str), ("badmark" : Str))) : toldX cs (badX c) K = K (.tup [.str "badmark", .non]) := toldX_n h (by decide +kernel) rfl
theorem odd_deed {z : Str} (h : ((["keep", "cent", "fill", "coin", "brim"] : List Str).contains z) = false) : ¬ isDeed z := by
  rintro ⟨d, rfl⟩
  cases d <;> exact absurd h (by decide +kernel)
theorem odd_mark {z : Str} (h : ((["keep", "cent", "fill", "coin", "brim", "dear", "shut"] : List Str).contains z) = false) : ¬ isMark z := by
  rintro ⟨d, rfl⟩
  cases d <;> exact absurd h (by decide +kernel)
theorem zs_deeds {zs : List Str} (h : ∀ z, z ∈ zs → isDeed z) : ∃ ds : List Deed, zs = ds.map Deed.s := by
  induction zs with
  | nil => exact ⟨[], rfl⟩
  | cons z zs ih =>
    obtain ⟨d, rfl⟩ := h z List.mem_cons_self
    obtain ⟨ds, rfl⟩ := ih fun y hy => h y (List.mem_cons_of_mem _ hy)
    exact ⟨d :: ds, rfl⟩
theorem zs_marks {zs : List Str} (h : ∀ z, z ∈ zs → isMark z) : ∃ ds : List Mark, zs = ds.map Mark.s := by
  induction zs with
  | nil => exact ⟨[], rfl⟩
  | cons z zs ih =>
    obtain ⟨d, rfl⟩ := h z List.mem_cons_self
    obtain ⟨ds, rfl⟩ := ih fun y hy => h y (List.mem_cons_of_mem _ hy)
    exact ⟨d :: ds, rfl⟩
theorem zsS_deeds (ds : List Deed) : zsS (ds.map Deed.s) = dsS ds := by simp [zsS, dsS]
theorem h_need_deed (g : S.gv.lookup ("DEEDS" : Str) = some dDEEDS) (c0 : BadAt S c) : Body S (ct_need_deed c) (b_need_deed c) N_need_deed P_need_deed := by
  rintro Xd bag args Kd hn ⟨z, rfl, h1, h2⟩
  unfold dDEEDS at g
  by_cases q : isDeed z
  · have k := h1 q
    obtain ⟨d, rfl⟩ := q
    cases d <;> simp [b_need_deed, N_need_deed, P_need_deed, ct_need_deed, ↓ ze_globh g, Deed.s, Deed.mark, Mark.s, Mark.t, k]
  · have n1 : ¬ ("keep" : Str) = z := fun e => q ⟨.keep, e.symm⟩
    have n2 : ¬ ("cent" : Str) = z := fun e => q ⟨.cent, e.symm⟩
    have n3 : ¬ ("fill" : Str) = z := fun e => q ⟨.fill, e.symm⟩
    have n4 : ¬ ("coin" : Str) = z := fun e => q ⟨.coin, e.symm⟩
    have n5 : ¬ ("brim" : Str) = z := fun e => q ⟨.brim, e.symm⟩
    simp [b_need_deed, N_need_deed, P_need_deed, ct_need_deed, ↓ ze_globh g, ↓ zs_raiseh c0, n1, n2, n3, n4, n5]
    exact h2 q
theorem h_need_mark (g : S.gv.lookup ("MARKS" : Str) = some dMARKS) (c0 : BadAt S c) : Body S (ct_need_mark c) (b_need_mark c) N_need_mark P_need_mark := by
  rintro Xd bag args Kd hn ⟨z, rfl, h1, h2⟩
  unfold dMARKS at g
  by_cases q : isMark z
  · have k := h1 q
    obtain ⟨d, rfl⟩ := q
    cases d <;> simp [b_need_mark, N_need_mark, P_need_mark, ct_need_mark, ↓ ze_globh g, Mark.s, Mark.t, k]
  · have n1 : ¬ ("keep" : Str) = z := fun e => q ⟨.keep, e.symm⟩
    have n2 : ¬ ("cent" : Str) = z := fun e => q ⟨.cent, e.symm⟩
    have n3 : ¬ ("fill" : Str) = z := fun e => q ⟨.fill, e.symm⟩
    have n4 : ¬ ("coin" : Str) = z := fun e => q ⟨.coin, e.symm⟩
    have n5 : ¬ ("brim" : Str) = z := fun e => q ⟨.brim, e.symm⟩
    have n6 : ¬ ("dear" : Str) = z := fun e => q ⟨.dear, e.symm⟩
    have n7 : ¬ ("shut" : Str) = z := fun e => q ⟨.shut, e.symm⟩
    simp [b_need_mark, N_need_mark, P_need_mark, ct_need_mark, ↓ ze_globh g, ↓ zs_raiseh c0, n1, n2, n3, n4, n5, n6, n7]
    exact h2 q
theorem h_spend {i j : Nat} (h6 : S.fs[i]? = some ⟨"need_deed", ct_need_deed c, []⟩) (h7 : S.fs[j]? = some ⟨"spent", ct_spent, []⟩) : Body S (ct_spend c) (b_spend (i_need_deed := i) (i_spent := j)) N_spend P_spend := by
  rintro Xd bag args Kd hn ⟨p, z, rfl, h1, h2⟩
  simp [b_spend, N_spend, P_spend, ct_spend, ↓ ze_callh h6 rfl, ↓ ze_callh h7 rfl]
  refine cl_need ?_ ?_
  · rintro ⟨d, rfl⟩
    simp [↓ cl_spent]
    exact h1 d rfl
  · exact h2
theorem h_deeds_all : Body S ct_deeds_all b_law_deeds_all N_law_deeds_all P_law_deeds_all := by
  rintro Xd bag args Kd hn h
  have hn : args = [] := List.eq_nil_of_length_eq_zero hn
  subst hn
  simp [b_law_deeds_all, N_law_deeds_all, P_law_deeds_all, ct_deeds_all]
  exact h
theorem h_marks_all : Body S ct_marks_all b_law_marks_all N_law_marks_all P_law_marks_all := by
  rintro Xd bag args Kd hn h
  have hn : args = [] := List.eq_nil_of_length_eq_zero hn
  subst hn
  simp [b_law_marks_all, N_law_marks_all, P_law_marks_all, ct_marks_all]
  exact h
theorem h_law_spent : Body S ct_spent b_law_spent N_law_spent P_law_spent := by
  rintro Xd bag args Kd hn ⟨p, d, rfl, h⟩
  cases d <;> simp [b_law_spent, N_law_spent, P_law_spent, ct_spent, prD, Deed.s, Deed.mark, Mark.s, Mark.t] <;> exact h
/-- for deed in deeds: need_deed(deed) -/
theorem need_loop {i : Nat} (h : S.fs[i]? = some ⟨"need_deed", ct_need_deed c, []⟩) {xp : XP} {s0 : Sl} {r0 : Rho} {zs : List Str} {E : DE} (hx : (∃ z, z ∈ zs ∧ ¬ isDeed z) → ∀ s, xp (badX c) (s0 :: s :: r0))
    (k : ∀ (ds : List Deed) (s : Sl), zs = ds.map Deed.s → opS s = true → E.nx (s0 :: s :: r0)) (s1 : Sl) (hs1 : opS s1 = true) :
    forD (.nm 1) (iSs S xp (.cons (.ex (.call i (.cons (.var 1) .nil))) .nil)) (zsS zs) (s0 :: s1 :: r0) E := by
  refine forD_list (fun r ρ => ∃ (dn : List Deed) (l : List Str) (s : Sl), zs = dn.map Deed.s ++ l ∧ r = zsS l ∧ opS s = true ∧ ρ = s0 :: s :: r0) ?_ ?_ _ _ ⟨[], zs, s1, rfl, rfl, hs1, rfl⟩
  · rintro d r ρ E' ⟨dn, l, s, e1, e, hs, rfl⟩ hn hc hr hb
    obtain ⟨y, l', rfl, rfl, rfl⟩ := map_cons_inv e
    simp [hs, ↓ ze_callh h rfl]
    refine cl_need (fun q => ?_) fun q => hx ⟨y, by rw [e1]; simp, q⟩ _
    obtain ⟨d, rfl⟩ := q
    exact hn _ ⟨dn ++ [d], l', _, by rw [e1]; simp, rfl, rfl, rfl⟩
  · rintro ρ ⟨dn, l, s, e1, e, hs, rfl⟩
    have := map_nil_inv e
    subst this
    exact k dn s (by simpa using e1) hs
theorem itm_seq {d : D} {xs : List D} {K : List D → Prop} (h : Seq d xs) : itemsD d K = K xs := by
  rcases h with rfl | rfl <;> rfl
theorem h_mark_of {i j : Nat} (h3 : S.fs[i]? = some ⟨"need_deed", ct_need_deed c, []⟩) (h6 : S.fs[j]? = some ⟨"later_mark", ct_later_mark, []⟩) : Body S (ct_mark_of c) (b_mark_of (i_need_deed := i) (i_later_mark := j)) N_mark_of P_mark_of := by
  rintro Xd bag args Kd hn ⟨zs, d, rfl, hsq, h1, h2⟩
  simp [b_mark_of, N_mark_of, P_mark_of, ct_mark_of, itm_seq hsq]
  refine need_loop h3 ?_ (fun ds s e hs => ?_) .no rfl
  · exact fun q s => h2 q
  subst e
  simp [hs, itm_seq hsq]
  rw [zsS_deeds]
  refine forD_list (fun r ρ => ∃ (l : List Deed) (s : Sl) (m : Mark), r = dsS l ∧ opS s = true ∧ l.foldl (fun m d => laterM m d.mark) m = markL ds ∧ ρ = [Sl.fz d, s, .fz (.str m.s)]) ?_ ?_ _ _ ⟨ds, s, .keep, rfl, hs, rfl, rfl⟩
  · rintro d r ρ E' ⟨l, s, m, e, hs, hf, rfl⟩ hn hc hr hb
    obtain ⟨y, l', rfl, rfl, rfl⟩ := map_cons_inv e
    simp [hs, ↓ ze_callh h6 rfl, ↓ cl_later, Deed.s]
    exact hn _ ⟨l', _, _, rfl, rfl, hf, rfl⟩
  rintro ρ ⟨l, s, m, e, hs, hf, rfl⟩
  have := map_nil_inv e
  subst this
  have hf : m = markL ds := hf
  subst hf
  simp
  exact h1 ds rfl
theorem h_peak {i j : Nat} (h3 : S.fs[i]? = some ⟨"need_deed", ct_need_deed c, []⟩) (h5 : S.fs[j]? = some ⟨"spent", ct_spent, []⟩) : Body S (ct_peak c) (b_peak (i_need_deed := i) (i_spent := j)) N_peak P_peak := by
  rintro Xd bag args Kd hn ⟨zs, d, rfl, hsq, h1, h2⟩
  simp [b_peak, N_peak, P_peak, ct_peak, itm_seq hsq]
  refine need_loop h3 ?_ (fun ds s e hs => ?_) .no rfl
  · exact fun q s => h2 q
  subst e
  simp [hs, itm_seq hsq]
  rw [zsS_deeds]
  refine forD_list (fun r ρ => ∃ (l : List Deed) (s : Sl) (m : (Int × Int) × Int), r = dsS l ∧ opS s = true ∧ (l.foldl peakS m).2 = peakL ds ∧ ρ = [Sl.fz d, s, .fz (prD m.1), .fz (.int m.2)]) ?_ ?_ _ _ ⟨ds, s, ((0, 0), 0), rfl, hs, rfl, rfl⟩
  · rintro d r ρ E' ⟨l, s, m, e, hs, hf, rfl⟩ hn hc hr hb
    obtain ⟨y, l', rfl, rfl, rfl⟩ := map_cons_inv e
    simp [hs, ↓ ze_callh h5 rfl, ↓ cl_spent]
    simp [prD]
    exact hn _ ⟨l', .fz (.str y.s), peakS m y, rfl, rfl, hf, by simp [peakS, prD, Int.max_assoc]⟩
  rintro ρ ⟨l, s, m, e, hs, hf, rfl⟩
  have := map_nil_inv e
  subst this
  have hf : m.2 = peakL ds := hf
  simp [hf]
  exact h1 ds rfl
theorem h_behind {i j : Nat} (h4 : S.fs[i]? = some ⟨"need_mark", ct_need_mark c, []⟩) (h6 : S.fs[j]? = some ⟨"later_mark", ct_later_mark, []⟩) : Body S (ct_behind c) (b_behind (i_need_mark := i) (i_later_mark := j)) N_behind P_behind := by
  rintro Xd bag args Kd hn ⟨y, z, rfl, h1, h2⟩
  simp [b_behind, N_behind, P_behind, ct_behind, ↓ ze_callh h4 rfl, ↓ ze_callh h6 rfl]
  refine cl_needm ?_ ?_
  · rintro ⟨m, rfl⟩
    refine cl_needm ?_ ?_
    · rintro ⟨n, rfl⟩
      simp [↓ cl_later]
      exact h1 m n rfl rfl
    · exact fun q => h2 (.inr q)
  · exact fun q => h2 (.inl q)
theorem h_again {i j : Nat} (h4 : S.fs[i]? = some ⟨"need_mark", ct_need_mark c, []⟩) (h7 : S.fs[j]? = some ⟨"often_mark", ct_often_mark, []⟩) : Body S (ct_again c) (b_again (i_need_mark := i) (i_often_mark := j)) N_again P_again := by
  rintro Xd bag args Kd hn ⟨z, rfl, h1, h2⟩
  simp [b_again, N_again, P_again, ct_again, ↓ ze_callh h4 rfl, ↓ ze_callh h7 rfl]
  refine cl_needm ?_ ?_
  · rintro ⟨m, rfl⟩
    simp [↓ cl_often]
    exact h1 m rfl
  · exact h2
end
end MX
end DL

/-! EMy: the laws' own words of deeds and marks. -/
namespace DL
namespace MX
open PySem L2
def ranks : List D := [.str "keep", .str "cent", .str "fill", .str "coin", .str "brim", .str "dear", .str "shut"]
def ranksS : List Str := ["keep", "cent", "fill", "coin", "brim", "dear", "shut"]
theorem idx_list {ys : List Str} {m : Str} {j : Nat} {K : R → Prop} (h : ys[j]? = some m ∧ (List.range j).all (fun i => decide (ys[i]? ≠ some m)) = true) (k : K (.v (.int (j : Int)))) : bmR .lindex (.lst (ys.map D.str)) (.str m) K :=
  ⟨ys, j, rfl, h.1, fun i hi e => by
    have := List.all_eq_true.mp h.2 i (List.mem_range.mpr hi)
    exact of_decide_eq_true this e, k⟩
theorem idx_rank (m : Mark) {K : R → Prop} (k : K (.v (.int m.rank))) : bmR .lindex (.lst ranks) (.str m.s) K := by
  have e : ranks = ranksS.map D.str := rfl
  rw [e]
  cases m
  · exact idx_list (j := 4) (by decide +kernel) k
  · exact idx_list (j := 2) (by decide +kernel) k
  · exact idx_list (j := 0) (by decide +kernel) k
  · exact idx_list (j := 1) (by decide +kernel) k
  · exact idx_list (j := 3) (by decide +kernel) k
  · exact idx_list (j := 5) (by decide +kernel) k
  · exact idx_list (j := 6) (by decide +kernel) k
theorem at_rank (x y : Mark) : atI ranks (max x.rank y.rank) = some (.str (laterM x y).s) := by
  cases x <;> cases y <;> rfl
section
variable {S : Sg} {X : Xn → Prop} {K : R → Prop} {c : Nat}
theorem deeds_inj {a b : List Deed} (h : a.map Deed.s = b.map Deed.s) : a = b := (List.map_inj_right (fun x y e => Deed.s_inj e)).mp h
theorem marks_inj {a b : List Mark} (h : a.map Mark.s = b.map Mark.s) : a = b := (List.map_inj_right (fun x y e => Mark.s_inj e)).mp h
theorem not_odd {ds : List Deed} : ¬ ∃ z, z ∈ ds.map Deed.s ∧ ¬ isDeed z := fun ⟨z, hz, n⟩ => by
  obtain ⟨d, _, rfl⟩ := List.mem_map.mp hz
  exact n ⟨d, rfl⟩
theorem cl_peakd {ds : List Deed} {d : D} (hs : Seq d (dsS ds)) (h : K (.v (.int (peakL ds)))) : clK (ct_peak c) [d] X K :=
  cl_peakx (zs := ds.map Deed.s) (by rw [zsS_deeds]; exact hs) (fun ds' e => by have := deeds_inj e; subst this; exact h) (fun q => absurd q not_odd)
theorem cl_markd {ds : List Deed} {d : D} (hs : Seq d (dsS ds)) (h : K (.v (.str (markL ds).s))) : clK (ct_mark_of c) [d] X K :=
  cl_markx (zs := ds.map Deed.s) (by rw [zsS_deeds]; exact hs) (fun ds' e => by have := deeds_inj e; subst this; exact h) (fun q => absurd q not_odd)
theorem cl_peakb {zs : List Str} {d : D} (hs : Seq d (zsS zs)) (hb : ∃ z, z ∈ zs ∧ ¬ isDeed z) (h : X (badX c)) : clK (ct_peak c) [d] X K :=
  cl_peakx hs (fun ds e => by rw [e] at hb; exact absurd hb not_odd) (fun _ => h)
theorem cl_markb {zs : List Str} {d : D} (hs : Seq d (zsS zs)) (hb : ∃ z, z ∈ zs ∧ ¬ isDeed z) (h : X (badX c)) : clK (ct_mark_of c) [d] X K :=
  cl_markx hs (fun ds e => by rw [e] at hb; exact absurd hb not_odd) (fun _ => h)
theorem b_list_seq {d : D} {xs : List D} {K : R → Prop} (h : Seq d xs) : biR .list [d] K = K (.n xs) := by
  rcases h with rfl | rfl <;> rfl
theorem cut_len (xs : List D) (lo hi : Option Int) : (cutD xs lo hi).length ≤ xs.length := by
  unfold cutD
  simp
  omega
theorem cut_ds (ds : List Deed) (lo hi : Option Int) : ∃ es : List Deed, cutD (dsS ds) lo hi = dsS es ∧ es.length ≤ ds.length := by
  obtain ⟨es, e⟩ := cut_map (fun d : Deed => D.str d.s) ds lo hi
  refine ⟨es, e, ?_⟩
  have h1 := cut_len (dsS ds) lo hi
  unfold dsS at h1
  rw [e] at h1
  simpa using h1
theorem h_two_marks : Body S ct_later_mark b_law_two_marks N_law_two_marks P_law_two_marks := by
  rintro Xd bag args Kd hn ⟨x, y, rfl, h⟩
  simp only [b_law_two_marks, N_law_two_marks, P_law_two_marks, ct_later_mark]
  simp
  refine idx_rank x ?_
  simp
  refine idx_rank y ?_
  simp
  have e := at_rank x y
  unfold ranks at e
  simp [e]
  exact h
theorem h_row_mark {i : Nat} (h6 : S.fs[i]? = some ⟨"_law_two_marks", ct_later_mark, []⟩) : Body S ct_dmark (b_law_row_mark (i_law_two_marks := i)) N_law_row_mark P_law_row_mark := by
  rintro Xd bag args Kd hn ⟨ds, d, rfl, hsq, h⟩
  simp [b_law_row_mark, N_law_row_mark, P_law_row_mark, ct_dmark, itm_seq hsq]
  refine forD_list (fun r ρ => ∃ (l : List Deed) (s : Sl) (m : Mark), r = dsS l ∧ opS s = true ∧ l.foldl (fun m d => laterM m d.mark) m = markL ds ∧ ρ = [Sl.fz d, .fz (.str m.s), s]) ?_ ?_ _ _ ⟨ds, .no, .keep, rfl, rfl, rfl, rfl⟩
  · rintro d r ρ E' ⟨l, s, m, e, hs, hf, rfl⟩ hn hc hr hb
    obtain ⟨y, l', rfl, rfl, rfl⟩ := map_cons_inv e
    simp [hs, ↓ ze_callh h6 rfl, ↓ cl_later, Deed.s]
    exact hn _ ⟨l', _, _, rfl, rfl, hf, rfl⟩
  rintro ρ ⟨l, s, m, e, hs, hf, rfl⟩
  have := map_nil_inv e
  subst this
  have hf : m = markL ds := hf
  subst hf
  simp
  exact h
theorem b_max1_pr {q : Int × Int} {K : R → Prop} : biR .max1 [prD q] K = K (.v (.int (max q.1 q.2))) := by
  apply propext
  show (∃ ns : List Int, [D.int q.1, D.int q.2] = ns.map D.int ∧ 0 < ns.length ∧ ∀ m, m ∈ ns → (∀ y, y ∈ ns → y ≤ m) → K (.v (.int m))) ↔ _
  constructor
  · rintro ⟨ns, e, _, h⟩
    have : ns = [q.1, q.2] := ((List.map_inj_right (f := D.int) fun x y e => by injection e).mp (show [q.1, q.2].map D.int = ns.map D.int from e)).symm
    subst this
    refine h _ ?_ ?_
    · by_cases hh : q.1 ≤ q.2
      · rw [show max q.1 q.2 = q.2 by omega]; simp
      · rw [show max q.1 q.2 = q.1 by omega]; simp
    · intro y hy
      simp at hy
      omega
  · intro h
    refine ⟨[q.1, q.2], rfl, by simp, fun m hm hy => ?_⟩
    have h1 := hy q.1 (by simp)
    have h2 := hy q.2 (by simp)
    simp at hm
    have : m = max q.1 q.2 := by omega
    rw [this]
    exact h
theorem h_law_peak {i : Nat} (h5 : S.fs[i]? = some ⟨"_law_spent", ct_spent, []⟩) : Body S ct_dpeak (b_law_peak (i_law_spent := i)) N_law_peak P_law_peak := by
  rintro Xd bag args Kd hn ⟨ds, d, rfl, hsq, h⟩
  simp [b_law_peak, N_law_peak, P_law_peak, ct_dpeak, itm_seq hsq]
  refine forD_list (fun r ρ => ∃ (l : List Deed) (s : Sl) (m : (Int × Int) × Int), r = dsS l ∧ opS s = true ∧ (l.foldl peakS m).2 = peakL ds ∧ ρ = [Sl.fz d, .fz (prD m.1), .fz (.int m.2), s]) ?_ ?_ _ _ ⟨ds, .no, ((0, 0), 0), rfl, rfl, rfl, rfl⟩
  · rintro d r ρ E' ⟨l, s, m, e, hs, hf, rfl⟩ hn hc hr hb
    obtain ⟨y, l', rfl, rfl, rfl⟩ := map_cons_inv e
    simp [hs, ↓ ze_callh h5 rfl, ↓ cl_spent, ↓ b_max1_pr]
    exact hn _ ⟨l', .fz (.str y.s), peakS m y, rfl, rfl, hf, by simp [peakS, Int.max_assoc]⟩
  rintro ρ ⟨l, s, m, e, hs, hf, rfl⟩
  have := map_nil_inv e
  subst this
  have hf : m.2 = peakL ds := hf
  simp [hf]
  exact h
theorem h_law_often : Body S ct_often_mark b_law_often N_law_often P_law_often := by
  rintro Xd bag args Kd hn ⟨x, rfl, h⟩
  simp [b_law_often, N_law_often, P_law_often, ct_often_mark]
  rw [zdget (z := x.s) (d := .str x.s) rfl rfl]
  cases x <;> exact h
end
end MX
end DL

/-! DMn: min(xs, key=f, default=d) of texts, f a lambda: the loop of the built-in over the layer. -/
namespace DH
open PySem PySem.Spec PyProof.Rows HotX L2 L2H LamX

/-- an object of one's own, beside what is tracked -/
structure Aux (X : Cx) (pins : List (Addr × Obj)) (H : Hp) (a : Addr) : Prop where
  new : X.s_0.heap.objs.size ≤ a
  nl : a ≠ X.env.locals
  nc : ∀ x c, X.env.cells.lookup x = some c → c ≠ a
  np : ∀ p ∈ X.pn ++ pins, p.1 ≠ a
  un : H a = none
  nf : a ∉ frs X.stack
section
variable {X : Cx} {pins : List (Addr × Obj)} {σ : L2.St} {H : Hp} {s : Shared} {a : Addr}
theorem aux_new (I : Inv X pins σ H s) (h : s.heap.objs.size ≤ a) : Aux X pins H a where
  new := Nat.le_trans I.sz h
  nl := Nat.ne_of_gt (Nat.lt_of_lt_of_le I.lt h)
  nc := fun x c e z => by
    obtain ⟨v, o, ho, _⟩ := I.cell x c e
    rw [z] at ho
    exact Nat.lt_irrefl _ (Nat.lt_of_lt_of_le (Heap.lt_size ho) h)
  np := fun p hp z => by
    have := Heap.lt_size (I.pin p hp).1
    rw [z] at this
    exact Nat.lt_irrefl _ (Nat.lt_of_lt_of_le this h)
  un := I.hok.fresh h
  nf := fun z => (List.mem_cons.mp (I.stkSub _ z)).elim (fun e => Nat.lt_irrefl _ (Nat.lt_of_lt_of_le (by have := I.lt; rw [← e] at this; exact this) h)) fun e => I.nofs h e
/-- such an object has changed, all else is kept -/
theorem inv_aux {h' : Heap} {t' : Nat} (I : Inv X pins σ H s) (A : Aux X pins H a) (k : ∀ b o, b ≠ a → s.heap.get? b = some o → h'.get? b = some o) : Inv X pins σ H { s with heap := h', toks := t' } := by
  refine I.step (g' := s.gens) (d' := s.drawn) (ch := [a]) (fun b hb => ?_) (fun b o _ _ hb e _ => k b o (fun z => hb (by rw [z]; exact List.mem_cons_self)) e) (fun b o _ _ hb e _ => ⟨o.slots, k b o (fun z => hb (by rw [z]; exact List.mem_cons_self)) e⟩)
    (fun b o _ _ n => n) (fun b o hb e => ⟨o, k b o (fun z => hb (by rw [z]; exact List.mem_cons_self)) e⟩) (fun _ _ e => e) (fun _ _ _ e => e) (fun b ps e => ⟨#[], by simpa using e⟩) (fun m hm => ?_) (fun b u e => ?_) I.bare
  · rw [List.mem_singleton.mp hb]
    exact ⟨.inr A.new, A.nl, A.nc, A.np⟩
  · obtain ⟨ob, es, ep, ho, r⟩ := hm
    exact ⟨ob, es, ep, k _ ob A.nl.symm ho, r⟩
  · have nb : ∀ {b u}, H b = some u → b ≠ a := fun e z => by rw [z, A.un] at e; cases e
    refine (I.hok b u e).stay (fun d v hd q => k d v ?_ q) (fun d q => q) fun d xs q => q
    rcases hd with rfl | z
    · exact nb e
    · exact nb z
/-- what is walked: It tells where the walker at it stands -/
structure Src (X : Cx) (pins : List (Addr × Obj)) (σ : L2.St) (H : Hp) (it : Addr) (xs : List V) (It : Nat → Heap → Prop) : Prop where
  frame : ∀ i (h h' : Heap), It i h → h'.get? it = h.get? it → It i h'
  ob : ∀ i (h : Heap), It i h → ∃ o, h.get? it = some o
  item : ∀ (A : Around) (i : Nat) (s : Shared) (Q : Option Value → Shared → Prop) (E : Value → Shared → Prop), A.handled = none → Inv X pins σ H s → It i s.heap → i < xs.length →
    (∀ v y h' tk, xs[i]? = some y → RelV y v → It (i + 1) h' → (∀ b o, b ≠ it → s.heap.get? b = some o → h'.get? b = some o) → Q (some v) { s with heap := h', toks := tk }) → wpAny (model X.prog X.w) A (pyNext (.ref it)) Q E s
  done : ∀ (A : Around) (s : Shared) (Q : Option Value → Shared → Prop) (E : Value → Shared → Prop), A.handled = none → Inv X pins σ H s → It xs.length s.heap →
    (∀ h' tk, (∀ b o, b ≠ it → s.heap.get? b = some o → h'.get? b = some o) → Q none { s with heap := h', toks := tk }) → wpAny (model X.prog X.w) A (pyNext (.ref it)) Q E s
theorem get_of_it {h h' : Heap} {it l : Addr} {o : Obj} (e : h'.get? it = h.get? it) (g : h.get? it = some o) : h'.get? it = some o := e.trans g
theorem src_list {l it : Addr} {xs : List V} (ne : l ≠ it) (hl : SqL X.K H l xs) : Src X pins σ H it xs (fun i h => h.IsListIter it l i) where
  frame := fun i h h' ⟨o, g, r⟩ e => ⟨o, e.trans g, r⟩
  ob := fun i h ⟨o, g, r⟩ => ⟨o, g⟩
  item := fun A i s Q E hh I hi lt k => by
    obtain ⟨its, rv, pl, _⟩ := I.list hl
    have W := Walks.list (prog := X.prog) (w := X.w) (A := A) hh it l ne its.toArray
    refine W.item i s Q E (by rw [List.size_toArray, ← rv.length]; exact lt) ⟨hi, let ⟨o, n, g, c, _, d⟩ := pl; ⟨o, g, c, n, d⟩⟩ fun v h' tk hP st kk => ?_
    have hv : its[i]? = some v := by simpa using hP
    obtain ⟨y, hy⟩ : ∃ y, xs[i]? = some y := ⟨_, List.getElem?_eq_getElem lt⟩
    obtain ⟨v', hv', ry⟩ := rv.get hy
    rw [hv] at hv'
    cases hv'
    exact k v y h' tk hy ry st.1 fun b o nb e => kk b o (by simpa using nb) e
  done := fun A s Q E hh I hi k => by
    obtain ⟨its, rv, pl, _⟩ := I.list hl
    have W := Walks.list (prog := X.prog) (w := X.w) (A := A) hh it l ne its.toArray
    refine W.done s Q E ⟨by rw [List.size_toArray, ← rv.length]; exact hi, let ⟨o, n, g, c, _, d⟩ := pl; ⟨o, g, c, n, d⟩⟩ fun h' tk kk => ?_
    exact k h' tk fun b o nb e => kk b o (by simpa using nb) e
theorem src_tuple {l it : Addr} {xs : List V} (ne : l ≠ it) (hl : SqT X.K H l xs) : Src X pins σ H it xs (fun i h => h.IsTupleIter it l i) where
  frame := fun i h h' ⟨o, g, r⟩ e => ⟨o, e.trans g, r⟩
  ob := fun i h ⟨o, g, r⟩ => ⟨o, g⟩
  item := fun A i s Q E hh I hi lt k => by
    obtain ⟨its, rv, pl, _⟩ := I.tuple hl
    have W := Walks.tuple (prog := X.prog) (w := X.w) (A := A) hh it l ne its.toArray
    refine W.item i s Q E (by rw [List.size_toArray, ← rv.length]; exact lt) ⟨hi, pl⟩ fun v h' tk hP st kk => ?_
    have hv : its[i]? = some v := by simpa using hP
    obtain ⟨y, hy⟩ : ∃ y, xs[i]? = some y := ⟨_, List.getElem?_eq_getElem lt⟩
    obtain ⟨v', hv', ry⟩ := rv.get hy
    rw [hv] at hv'
    cases hv'
    exact k v y h' tk hy ry st.1 fun b o nb e => kk b o (by simpa using nb) e
  done := fun A s Q E hh I hi k => by
    obtain ⟨its, rv, pl, _⟩ := I.tuple hl
    have W := Walks.tuple (prog := X.prog) (w := X.w) (A := A) hh it l ne its.toArray
    refine W.done s Q E ⟨by rw [List.size_toArray, ← rv.length]; exact hi, pl⟩ fun h' tk kk => ?_
    exact k h' tk fun b o nb e => kk b o (by simpa using nb) e
/-- the best so far -/
def bestS (kf : Str → Int) : Option Str → Str → Option Str
  | none, z => some z
  | some b, z => if kf z < kf b then some z else some b
def CurOf (kf : Str → Int) : Option Str → Array Value → Prop
  | none, cur => cur = #[]
  | some z, cur => ∃ t t2, cur = #[.str z t, .int (kf z) t2]
theorem ints_lt {A : Around} {i j : Int} {t u : Tok} {s : Shared} {P : Program} {w : World} {Q : Value → Shared → Prop} {E : Value → Shared → Prop} (h : Q (.bool (decide (i < j))) s) : wpAny (model P w) A (richCompare .Lt (.int i t) (.int j u)) Q E s :=
  CmpOf.ints_lt (prog := P) (w := w) (A := A) (P := fun n v => ∃ t, v = .int (if n = 0 then i else j) t) (fun n => if n = 0 then i else j) (fun n v h => h) 0 1 _ _ s Q E ⟨t, rfl⟩ ⟨u, rfl⟩ h
theorem min_loop {f S it : Addr} {d : Value} {zs : List Str} {kf : Str → Int} {of : Obj} {It : Nat → Heap → Prop} {R : Result → Shared → Prop} (hh : X.A.handled = none) (src : Src X pins σ H it (zs.map V.str) It) (ai : Aux X pins H it) (aS : Aux X pins H S) (ne : it ≠ S) (uf : H f = none) (nf : f ∉ frs X.stack) (fi : f ≠ it) (fS : f ≠ S)
    (turn : ∀ z t (s' : Shared), z ∈ zs → Inv X pins σ H s' → s'.heap.get? f = some of → wpAny (model X.prog X.w) X.A.in1 (call (.ref f) [.str z t]) (fun r s2 => (∃ t', r = .int (kf z) t') ∧ Inv X pins σ H s2 ∧ ∀ b o, H b = none → b ∉ frs X.stack → s'.heap.get? b = some o → s2.heap.get? b = some o) (fun _ _ => False) s')
    (hR : ∀ v s', Inv X pins σ H s' → (match zs.foldl (bestS kf) none with | some z => ∃ t, v = .str z t | none => v = d) → R (.ok (.ret v)) s') :
    ∀ (r i : Nat) (best : Option Str) (s' : Shared), zs.length - i = r → i ≤ zs.length → (zs.drop i).foldl (bestS kf) best = zs.foldl (bestS kf) none → Inv X pins σ H s' → s'.heap.get? f = some of → It i s'.heap →
      (∃ cur c, s'.heap.get? S = some (seqObj "list" cur c) ∧ CurOf kf best cur) → codeAny (model X.prog X.w) X.A (.builtin "min.loop" ⟨[.ref it, .ref f, .ref S], [(Str.ofString "default", d)]⟩) R s' := by
  have hname : (toString "min" ++ toString ".loop" : String) = "min.loop" := by decide
  have hlen : (zs.map V.str).length = zs.length := List.length_map ..
  intro r
  induction r with
  | zero =>
    intro i best s' hr hi hb I gf gi hc
    obtain ⟨cur, c, gS, cb⟩ := hc
    have ei : i = zs.length := by omega
    subst ei
    rw [List.drop_length] at hb
    have hb : best = zs.foldl (bestS kf) none := hb
    refine codeAny_builtin PySem.F.entry_min_loop ?_
    rw [Around.under_plainId PySem.F.plain_min_loop _]
    show wpAny _ X.A.in1 (seqItems? (.ref S) >>= _) _ _ _
    refine wpAny_bind (wpAny_seqItems gS rfl ?_)
    show wpAny _ X.A.in1 (tryCatch (pyNext (.ref it)) _ >>= _) _ _ _
    refine wpAny_bind (wpAny_tryCatch (src.done _ _ _ _ hh I (by rw [hlen]; exact gi) fun h' tk kk => ?_))
    have I2 : Inv X pins σ H { s' with heap := h', toks := tk } := inv_aux I ai kk
    cases best with
    | none =>
      have cb : cur = #[] := cb
      subst cb
      show wpAny _ X.A.in1 (rule _ >>= _) _ _ _
      refine wpAny_bind (wpAny_rule (wpAny_pure ?_))
      refine hR d _ I2 ?_
      rw [← hb]
    | some z =>
      obtain ⟨t, t2, rfl⟩ := cb
      have gS2 : h'.get? S = some (seqObj "list" #[.str z t, .int (kf z) t2] c) := kk S _ ne.symm gS
      show wpAny _ X.A.in1 (updateSeq S (fun _ => #[]) >>= _) _ _ _
      refine wpAny_bind ?_
      refine wpAny_updateSeq gS2 rfl (wpAny_bind (wpAny_letGo (wpAny_pure ?_)))
      refine hR (.str z t) _ ?_ ?_
      · exact inv_aux (t' := tk) I2 aS (fun b o nb e => ((Heap.SameBut.update h' S _).2 b nb).trans e)
      · rw [← hb]
        exact ⟨t, rfl⟩
  | succ r ih =>
    intro i best s' hr hi hb I gf gi hc
    obtain ⟨cur, c, gS, cb⟩ := hc
    have hlt : i < zs.length := by omega
    obtain ⟨z, hz⟩ : ∃ z, zs[i]? = some z := ⟨_, List.getElem?_eq_getElem hlt⟩
    have hzm : z ∈ zs := List.mem_of_getElem? hz
    have hd : zs.drop i = z :: zs.drop (i + 1) := by rw [List.drop_eq_getElem_cons hlt]; rw [List.getElem?_eq_getElem hlt] at hz; rw [Option.some.inj hz]
    have hb2 : (zs.drop (i + 1)).foldl (bestS kf) (bestS kf best z) = zs.foldl (bestS kf) none := by rw [← hb, hd]; rfl
    refine codeAny_builtin PySem.F.entry_min_loop ?_
    rw [Around.under_plainId PySem.F.plain_min_loop _]
    show wpAny _ X.A.in1 (seqItems? (.ref S) >>= _) _ _ _
    refine wpAny_bind (wpAny_seqItems gS rfl ?_)
    show wpAny _ X.A.in1 (tryCatch (pyNext (.ref it)) _ >>= _) _ _ _
    refine wpAny_bind (wpAny_tryCatch (src.item _ i _ _ _ hh I gi (by rw [hlen]; exact hlt) fun v y h' tk hy ry gi' kk => ?_))
    have ey : y = V.str z := by
      rw [List.getElem?_map, hz] at hy
      exact (Option.some.inj hy).symm
    subst ey
    obtain ⟨t, rfl⟩ : ∃ t, v = .str z t := ry
    have I2 : Inv X pins σ H { s' with heap := h', toks := tk } := inv_aux I ai kk
    have gS2 : h'.get? S = some (seqObj "list" cur c) := kk S _ ne.symm gS
    show wpAny _ X.A.in1 (tryCatch (holding [.str z t] (call (.ref f) [.str z t])) _ >>= _) _ _ _
    refine wpAny_bind (wpAny_tryCatch (wpAny_holding (wpAny_mono (turn z t _ hzm I2 (kk f _ fi gf)) (fun x s2 he => ?_) fun _ _ hF => hF.elim)))
    obtain ⟨⟨t2, rfl⟩, I3, kp⟩ := he
    obtain ⟨oi, goi⟩ := src.ob _ _ gi'
    have gi3 : It (i + 1) s2.heap := src.frame _ _ _ gi' ((kp it oi ai.un ai.nf goi).trans goi.symm)
    have gS3 := kp S _ aS.un aS.nf gS2
    have gf3 := kp f _ uf nf (kk f _ fi gf)
    have keepS : ∀ (g : Array Value → Array Value) (tk3 : Nat), Inv X pins σ H { s2 with heap := s2.heap.update S (Obj.mapSeq g), toks := tk3 } := fun g tk3 => inv_aux I3 aS (fun b o nb e => ((Heap.SameBut.update s2.heap S _).2 b nb).trans e)
    have afterS : ∀ (g : Array Value → Array Value), (s2.heap.update S (Obj.mapSeq g)).get? f = some of ∧ It (i + 1) (s2.heap.update S (Obj.mapSeq g)) := fun g =>
      ⟨((Heap.SameBut.update s2.heap S _).2 f fS).trans gf3, src.frame _ _ _ gi3 ((Heap.SameBut.update s2.heap S _).2 it ne)⟩
    cases best with
    | none =>
      have cb : cur = #[] := cb
      subst cb
      show wpAny _ X.A.in1 (updateSeq S (fun _ => #[.str z t, .int (kf z) t2]) >>= _) _ _ _
      refine wpAny_bind ?_
      refine wpAny_updateSeq gS3 rfl ?_
      rw [hname]
      refine wpAny_pure ⟨plainId_quiet PySem.F.plain_min_loop _, ih (i + 1) _ _ (by omega) hlt hb2 (keepS _ _) (afterS _).1 (afterS _).2 ⟨_, _, get?_update_seq gS3 _, ⟨t, t2, rfl⟩⟩⟩
    | some b =>
      obtain ⟨tb, tb2, rfl⟩ := cb
      show wpAny _ X.A.in1 (tryCatch (holding [.str z t, .int (kf z) t2] (richCompare .Lt (.int (kf z) t2) (.int (kf b) tb2) >>= _)) _ >>= _) _ _ _
      refine wpAny_bind (wpAny_tryCatch (wpAny_holding (wpAny_bind (ints_lt ?_))))
      refine wpAny_bind (wpAny_holding (wpAny_truthy_bool ?_))
      refine wpAny_bind (wpAny_letGo (wpAny_pure ?_))
      by_cases hlt2 : kf z < kf b
      · have eb : bestS kf (some b) z = some z := if_pos hlt2
        rw [eb] at hb2
        simp only [hlt2, decide_true, if_true]
        refine wpAny_bind ?_
        refine wpAny_updateSeq gS3 rfl (wpAny_bind (wpAny_letGo ?_))
        rw [hname]
        exact wpAny_pure ⟨plainId_quiet PySem.F.plain_min_loop _, ih (i + 1) _ _ (by omega) hlt hb2 (keepS _ _) (afterS _).1 (afterS _).2 ⟨_, _, get?_update_seq gS3 _, ⟨t, t2, rfl⟩⟩⟩
      · have eb : bestS kf (some b) z = some b := if_neg hlt2
        rw [eb] at hb2
        simp only [hlt2, decide_false, Bool.false_eq_true, if_false]
        refine wpAny_bind (wpAny_letGo ?_)
        rw [hname]
        exact wpAny_pure ⟨plainId_quiet PySem.F.plain_min_loop _, ih (i + 1) _ _ (by omega) hlt hb2 I3 gf3 gi3 ⟨_, _, gS3, ⟨tb, tb2, rfl⟩⟩⟩
end

/-! ### a lambda with one parameter, called by min -/
def lamP1 : Arguments → Option Str
  | ⟨[], [a], none, [], [], none, []⟩ => if a.arg = ("mark" : Str) then some "mark" else none
  | _ => none
theorem lamP1_d {params : Arguments} {x : Str} {env : Env} (h : lamP1 params = some x) : defaultsOf params env = ([], []) := by
  unfold lamP1 at h
  split at h
  · rfl
  · cases h
theorem lamP1_b {params : Arguments} {x q : Str} {body : Expr} {scope : Scope} {clos : List (Str × Addr)} {doc pm ct v : Value} {c' : Addr} (h : lamP1 params = some x) :
    bindArgs (PySem.W.kdv_fn "<lambda>" q params (.expr body) scope clos .none doc pm (.ref c') ct) ⟨[v], []⟩ = pure [(x, v)] := by
  unfold lamP1 at h
  split at h
  · rename_i a
    split at h
    · rename_i ea
      cases h
      obtain ⟨an, aa, ap⟩ := a
      subst ea
      rfl
    · cases h
  · cases h
theorem no_some (l : List Str) (i : Nat) (v : V) : (l.map fun _ => (none : Option V))[i]? ≠ some (some v) := fun e => by
  rw [List.getElem?_map] at e
  cases h : l[i]? with
  | none => rw [h] at e; cases e
  | some u => rw [h] at e; cases e
/-- the context of such a lambda's body -/
abbrev lamP (X : Cx) (A : Around) (outer : List Env) (s : Shared) (H : Hp) (E : XK) (scope : Scope) (f c' : Addr) (x : Str) : Cx := { lamN X A outer s H E scope f c' with N := [x] }
section
variable {X : Cx} {pins : List (Addr × Obj)} {σ : L2.St} {H : Hp} {s : Shared}
theorem lam_turn {f c' : Addr} {x z : Str} {t : Tok} {params : Arguments} {body : Expr} {scope : Scope} {doc pm ct : Value} {k : Nat} {n : Int} {tb : TE} (I : Inv X pins σ H s) (L : LamD X.env.scope scope [x]) (hp : lamP1 params = some x)
    (at0 : s.heap.get? f = some (PySem.W.kdv_obj "<lambda>" (X.env.qual ++ "<lambda>") params (.expr body) scope (cloFrom X.env.cells scope.names []) .none doc pm c' ct)) (code : H c' = some (CodeO c' (X.env.qual ++ "<lambda>"))) (hr : Room (k + 2) X.A)
    (hbody : ∀ (A : Around) (outer : List Env) (s : Shared) (H : Hp) (E : XK), Room k (A.deeper (lamEnv X scope s.heap.objs.size f c')) → PE (lamP X A outer s H E scope f c' x) body tb)
    (wish : tb [some (.str z)] H (fun y H2 => y = .int n ∧ H2 = H)) :
    wpAny (model X.prog X.w) X.A.in1 (call (.ref f) [.str z t]) (fun r s2 => (∃ t', r = .int n t') ∧ Inv X pins σ H s2 ∧ ∀ b o, H b = none → b ∉ frs X.stack → s.heap.get? b = some o → s2.heap.get? b = some o) (fun _ _ => False) s := by
  let A1 := X.A.in1
  let out1 := X.stack
  have hr1 : Room (k + 1) A1 := Room.in1 hr
  obtain ⟨⟨oc, vs, tq, hoc, hdc, hvc⟩, _, _⟩ := I.hok c' _ code
  have un : Un (frs X.stack) [] H H s.heap s.heap := Un.kept fun _ _ e => e
  have hcell : ∀ y ∈ scope.names, y.2 ≠ .cell := fun y hy => (L.own y hy).1
  have hloc : ∀ y ∈ [(x, Value.str z t)], scope.names.lookup y.1 = some .local := fun y hy => by rw [List.mem_singleton.mp hy]; exact L.par _ List.mem_cons_self
  have called : codeAny (model X.prog X.w) A1 (.call (.ref f) ⟨[.str z t], []⟩) (CR (L2N.CX X.prog X.w) out1 X.prog X.w H s (fun y H2 => y = .int n ∧ H2 = H) noX) s := by
    refine PySem.W.kla_callFunE hr1.depth at0 rfl L.co L.gen rfl ⟨c', oc, vs, tq, rfl, hoc, hdc, hvc⟩ ?_
    show wpAny _ _ (bindArgs (PySem.W.kdv_fn "<lambda>" (X.env.qual ++ "<lambda>") params (.expr body) scope (cloFrom X.env.cells scope.names []) .none doc pm (.ref c') ct) ⟨[.str z t], []⟩) _ _ _
    rw [lamP1_b hp]
    refine wpAny_pure (wpAny_newFunctionEnv hcell hloc (fun h₁ hns hsb => ⟨I.nolimit.fresh _ hsb, ?_⟩) L.kind)
    show codeAny _ _ (.expr body (lamEnv X scope s.heap.objs.size f c')) _ _
    have kp : ∀ b o, s.heap.get? b = some o → h₁.get? b = some o := fun b o e => hsb.extBut b o (Nat.ne_of_lt (Heap.lt_size e)) (Heap.get?_push_of_some _ e)
    have J0 : Inv (lamN X A1 out1 s H noX scope f c') [] (X.N.map fun _ => none) H { s with heap := h₁, toks := s.toks + ([(x, Value.str z t)] : List (Str × Value)).length } := (lam_begin I L ⟨by rw [List.length_map, I.len], fun i v e => absurd e (no_some X.N i v), fun i y v _ _ => no_some X.N i v⟩ I.env0.in1 hr1.hd un hns kp).wish _
    have ok0 := J0.ok
    have J : Inv (lamP X A1 out1 s H noX scope f c' x) [] [some (.str z)] H { s with heap := h₁, toks := s.toks + ([(x, Value.str z t)] : List (Str × Value)).length } :=
      { ok := ⟨ok0.mod, ok0.kind, ok0.glob, ok0.blt, ok0.above, ok0.inj, ok0.has, ok0.cab, ok0.hd, ok0.frames, ok0.stk, ok0.exf, ok0.bs, ok0.bsz, ok0.noex, ok0.exfs, ok0.funs, ok0.frf⟩, os := J0.os, bare := J0.bare, base := J0.base,
        loc := ⟨_, hns, fun i y v e1 e2 e3 => by
          match i, e1, e2 with
          | 0, e1, e2 =>
            cases e1
            cases e2
            exact ⟨.str z t, ⟨t, rfl⟩, .inl ⟨L.par _ List.mem_cons_self, by simp [List.lookup]⟩⟩
          | i + 1, e1, e2 => cases e1⟩
        cell := J0.cell, free := J0.free, freeC := J0.freeC, pin := J0.pin, hok := J0.hok, len := rfl }
    refine PySem.W.kla_codeExpr (wpAny_mono ((hbody A1 out1 s H noX (hr1.deeper _)).run [] _ _ H (fun y H2 => y = .int n ∧ H2 = H) J wish) (fun v s' hq => ?_) fun e s' hq => hq)
    obtain ⟨v', H', J', rv, q⟩ := hq
    exact ⟨v', H', J'.os, J'.bare, J'.base, J'.hok, rv, q⟩
  refine wpAny_call (codeAny_mono called fun r s' hq => ?_)
  match r, hq with
  | .error e, hq =>
    obtain ⟨_, _, _, _, _, _, _, _, _, _, _, _, z⟩ := hq
    exact z.elim
  | .ok (.ret u), hq =>
    have kp : ∀ b o, H b = none → b ∉ frs X.stack → s.heap.get? b = some o → s'.heap.get? b = some o := by
      obtain ⟨v, H', _, _, un, _, _, _⟩ := hq
      exact fun b o n1 n2 e => un.keep b o e n1 n2 (fun z => nomatch z)
    obtain ⟨v, H', I', rv, ev, eH⟩ := I.after hq
    subst ev
    subst eH
    exact ⟨rv, I', kp⟩
  | .ok .next, hq => exact hq.elim
  | .ok .brk, hq => exact hq.elim
  | .ok .cont, hq => exact hq.elim
end

theorem kmn_args (a f d : Value) : argsOk "min" ⟨[a], [(Str.ofString "key", f), (Str.ofString "default", d)]⟩ := by unfold argsOk; kernel_rfl
section
variable {X : Cx} {pins : List (Addr × Obj)} {σ : L2.St} {H : Hp} {s : Shared}
theorem min_run0 {nm : String} {a f : Addr} {of : Obj} {d : Str} {dt : Tok} {zs : List Str} {kf : Str → Int} {E : Value → Shared → Prop} {Q : Value → Shared → Prop} {It : Addr → Nat → Heap → Prop} (I : Inv X pins σ H s) (hh : X.A.handled = none) (uf : H f = none) (nf : f ∉ frs X.stack) (gf : s.heap.get? f = some of)
    (hi : ∀ (Q : Value → Shared → Prop) (E : Value → Shared → Prop), Q (.ref s.heap.objs.size) { s with heap := s.heap.push { cls := .type nm, data := .fields #[.ref a, .int 0 0] } } → wpAny (model X.prog X.w) X.A.in1 (pyIter (.ref a)) Q E s)
    (src : Src X pins σ H s.heap.objs.size (zs.map V.str) (It s.heap.objs.size)) (it0 : ∀ h : Heap, h.get? s.heap.objs.size = some { cls := .type nm, data := .fields #[.ref a, .int 0 0] } → It s.heap.objs.size 0 h)
    (turn : ∀ z t (s' : Shared), z ∈ zs → Inv X pins σ H s' → s'.heap.get? f = some of → wpAny (model X.prog X.w) X.A.in1 (call (.ref f) [.str z t]) (fun r s2 => (∃ t', r = .int (kf z) t') ∧ Inv X pins σ H s2 ∧ ∀ b o, H b = none → b ∉ frs X.stack → s'.heap.get? b = some o → s2.heap.get? b = some o) (fun _ _ => False) s')
    (q : ∀ v s', Inv X pins σ H s' → RelV (V.str ((zs.foldl (bestS kf) none).getD d)) v → Q v s') :
    wpAny (model X.prog X.w) X.A (call (.builtin "min") [.ref a] [(Str.ofString "key", .ref f), (Str.ofString "default", .str d dt)]) Q E s := by
  have hname : (toString "min" ++ toString ".loop" : String) = "min.loop" := by decide
  refine kmk_tree PySem.F.kind_min PySem.F.plain_min PySem.F.entry_min (kmn_args _ _ _) ?_
  show wpAny _ X.A.in1 (Builtin.Builtins.bindParams "min" ["key", "default"] 0 ⟨[], [(Str.ofString "key", .ref f), (Str.ofString "default", .str d dt)]⟩ >>= _) _ _ s
  refine wpAny_bind (wpAny_of_eq (show Builtin.Builtins.bindParams "min" ["key", "default"] 0 ⟨[], [(Str.ofString "key", .ref f), (Str.ofString "default", .str d dt)]⟩ = pure [some (.ref f), some (.str d dt)] from rfl) ?_)
  refine wpAny_bind (wpAny_pure ?_)
  refine wpAny_bind (hi _ _ ?_)
  refine wpAny_bind (wpAny_newList ?_ (Nat.zero_le _))
  rw [hname]
  refine wpAny_pure ⟨plainId_quiet PySem.F.plain_min_loop _, ?_⟩
  let h1 := s.heap.push { cls := .type nm, data := .fields #[.ref a, .int 0 0] }
  let h2 := h1.push (seqObj "list" #[] 0)
  have I1 : Inv X pins σ H { s with heap := h1 } := I.kept fun b o e => Heap.get?_push_of_some _ e
  have sz1 : h1.objs.size = s.heap.objs.size + 1 := Heap.size_push ..
  have I2 : Inv X pins σ H { s with heap := h2 } := I1.kept fun b o e => Heap.get?_push_of_some _ e
  have gI : h2.get? s.heap.objs.size = some { cls := .type nm, data := .fields #[.ref a, .int 0 0] } := Heap.get?_push_of_some _ (Heap.get?_push_size _ rfl)
  have gS : h2.get? h1.objs.size = some (seqObj "list" #[] 0) := Heap.get?_push_size _ rfl
  have lf := Heap.lt_size gf
  exact min_loop (S := h1.objs.size) (it := s.heap.objs.size) (d := .str d dt) (zs := zs) (kf := kf) (of := of) hh src (aux_new I (Nat.le_refl _)) (aux_new I1 (Nat.le_refl _)) (Nat.ne_of_lt (by rw [sz1]; exact Nat.lt_succ_self _)) uf nf (Nat.ne_of_lt lf) (Nat.ne_of_lt (by rw [sz1]; exact Nat.lt_succ_of_lt lf)) turn
    (fun v s' I' hv => q v s' I' (by
      cases hz : zs.foldl (bestS kf) none with
      | none => rw [hz] at hv; exact ⟨dt, hv⟩
      | some z => rw [hz] at hv; exact hv)) _ 0 none { s with heap := h2 } rfl (Nat.zero_le _) rfl I2 (Heap.get?_push_of_some _ (Heap.get?_push_of_some _ gf)) (it0 _ gI) ⟨#[], 0, gS, rfl⟩
theorem min_run {a f : Addr} {of : Obj} {d : Str} {dt : Tok} {zs : List Str} {kf : Str → Int} {E : Value → Shared → Prop} {Q : Value → Shared → Prop} (I : Inv X pins σ H s) (hh : X.A.handled = none) (uf : H f = none) (nf : f ∉ frs X.stack) (gf : s.heap.get? f = some of) (hs : SqL X.K H a (zs.map V.str) ∨ SqT X.K H a (zs.map V.str))
    (turn : ∀ z t (s' : Shared), z ∈ zs → Inv X pins σ H s' → s'.heap.get? f = some of → wpAny (model X.prog X.w) X.A.in1 (call (.ref f) [.str z t]) (fun r s2 => (∃ t', r = .int (kf z) t') ∧ Inv X pins σ H s2 ∧ ∀ b o, H b = none → b ∉ frs X.stack → s'.heap.get? b = some o → s2.heap.get? b = some o) (fun _ _ => False) s')
    (q : ∀ v s', Inv X pins σ H s' → RelV (V.str ((zs.foldl (bestS kf) none).getD d)) v → Q v s') :
    wpAny (model X.prog X.w) X.A (call (.builtin "min") [.ref a] [(Str.ofString "key", .ref f), (Str.ofString "default", .str d dt)]) Q E s := by
  rcases hs with hs | hs
  · obtain ⟨its, rv, pl, hz⟩ := I.list hs
    have il : s.heap.IsList a its.toArray := let ⟨o, n, g, c, _, d⟩ := pl; ⟨o, g, c, n, d⟩
    have la : a < s.heap.objs.size := let ⟨o, g, _⟩ := il; Heap.lt_size g
    exact min_run0 (It := fun it i h => h.IsListIter it a i) I hh uf nf gf (fun Q E h => wpAny_pyIter_list il h) (src_list (Nat.ne_of_lt la) hs) (fun h g => ⟨_, g, rfl, rfl⟩) turn q
  · obtain ⟨its, rv, il, hz⟩ := I.tuple hs
    have la : a < s.heap.objs.size := let ⟨o, g, _⟩ := il; Heap.lt_size g
    exact min_run0 (It := fun it i h => h.IsTupleIter it a i) I hh uf nf gf (fun Q E h => wpAny_pyIter_tuple il h) (src_tuple (Nat.ne_of_lt la) hs) (fun h g => ⟨_, g, rfl, rfl⟩) turn q
theorem sqL_ext {K : PySem.W.Frag} {P : Addr} {H H1 : Hp} {a : Addr} {xs : List V} (e : ExtP P H H1) (t : ∃ ps, H P = some (.tbl ps)) (h : SqL K H a xs) : SqL K H1 a xs := by
  obtain ⟨ps, hP⟩ := t
  rcases h with (h | ⟨o, h⟩) | h
  · exact .inl (.inl (e a _ (fun z => by rw [z, hP] at h; cases h) h))
  · exact .inl (.inr ⟨o, e a _ (fun z => by rw [z, hP] at h; cases h) h⟩)
  · exact .inr h
theorem sqT_ext {K : PySem.W.Frag} {P : Addr} {H H1 : Hp} {a : Addr} {xs : List V} (e : ExtP P H H1) (t : ∃ ps, H P = some (.tbl ps)) (h : SqT K H a xs) : SqT K H1 a xs := by
  obtain ⟨ps, hP⟩ := t
  rcases h with (h | ⟨o, h⟩) | h
  · exact .inl (.inl (e a _ (fun z => by rw [z, hP] at h; cases h) h))
  · exact .inl (.inr ⟨o, e a _ (fun z => by rw [z, hP] at h; cases h) h⟩)
  · exact .inr h
theorem lam_makeP1 {c P : Addr} {params : Arguments} {body : Expr} {scope : Scope} {pos : Pos} {x : Str} {E : Value → Shared → Prop} {Q : Value → Shared → Prop} (I : Inv X pins σ H s) (TB : TabB X.base X.mg c P) (hcode : X.env.code = .ref c)
    (tab : TabS H P (X.env.qual ++ "<lambda>")) (hp : lamP1 params = some x) (hfree : ∀ y ∈ scope.names, y.2 = .free → ∃ c, X.env.cells.lookup y.1 = some c)
    (k : ∀ (f c' : Addr) (doc pm ctv : Value) (H1 : Hp) (s' : Shared), Inv X pins σ H1 s' → ExtP P H H1 → TabS H1 P (X.env.qual ++ "<lambda>") →
      s'.heap.get? f = some (PySem.W.kdv_obj "<lambda>" (X.env.qual ++ "<lambda>") params (.expr body) scope (cloFrom X.env.cells scope.names []) .none doc pm c' ctv) → H1 f = none → f ∉ frs X.stack → H1 c' = some (CodeO c' (X.env.qual ++ "<lambda>")) → Q (.ref f) s') :
    wpAny (model X.prog X.w) X.A (eval (.Lambda params body scope pos) X.env) Q E s := by
  have hd := lamP1_d (env := X.env) hp
  unfold lamP1 at hp
  split at hp
  · refine PySem.W.kla_eval rfl ?_
    rw [makeFunction_eq]
    simp only [List.zip_nil_right, List.filterMap_nil, List.isEmpty_nil, if_true, pure_bind]
    exact lam_tail I TB hcode tab hfree fun f c' doc pm ctv H1 s' I1 e1 t1 _ _ hf hn ho hc => k f c' doc pm ctv H1 s' I1 e1 t1 hf hn ho hc
  · cases hp
/-- min(e1, key=lambda x: body, default=d) of texts -/
theorem pe_minK {k : Nat} {cc P : Addr} {e1 : Expr} {te : TE} {params : Arguments} {body : Expr} {scope : Scope} {x d : Str} {tb : TE} {kd : Nat} {p pos lpos dpos p1 p2 : Pos} (hg : Gl X "min") (hm : X.mg "min" = none) (TB : TabB X.base X.mg cc P) (hcode : X.env.code = .ref cc) (hr : Room (k + 2) X.A)
    (L : LamD X.env.scope scope [x]) (hp : lamP1 params = some x) (he : PE X e1 te)
    (hbody : ∀ (A : Around) (outer : List Env) (s : Shared) (H : Hp) (E : XK) (f c' : Addr), Room k (A.deeper (lamEnv X scope s.heap.objs.size f c')) → PE (lamP X A outer s H E scope f c' x) body tb)
    (hst : starEach [e1] X.env = (false, eval e1 X.env) :: starEach [] X.env := by rfl) :
    PE X (.Call (.Name "min" p) [e1] [⟨some "key", .Lambda params body scope lpos, p1⟩, ⟨some "default", .Constant (.str d) kd dpos, p2⟩] pos)
      (fun σ H Q => te σ H fun v H1 => ∃ (a : Addr) (zs : List Str) (kf : Str → Int), v = .ref a ∧ (SqL X.K H1 a (zs.map V.str) ∨ SqT X.K H1 a (zs.map V.str)) ∧ TabS H1 P (X.env.qual ++ "<lambda>") ∧
        ∀ H2, ExtP P H1 H2 → TabS H2 P (X.env.qual ++ "<lambda>") → (∀ z ∈ zs, tb [some (.str z)] H2 fun y H3 => y = .int (kf z) ∧ H3 = H2) ∧ Q (.str ((zs.foldl (bestS kf) none).getD d)) H2) := ⟨fun pins s σ H Q I h => by
  refine wpAny_Call_Name_kw (ld_blt I hg hm rfl ?_ (by decide) (by decide))
  let REST : V → Hp → Prop := fun v H1 => ∃ (a : Addr) (zs : List Str) (kf : Str → Int), v = .ref a ∧ (SqL X.K H1 a (zs.map V.str) ∨ SqT X.K H1 a (zs.map V.str)) ∧ TabS H1 P (X.env.qual ++ "<lambda>") ∧
        ∀ H2, ExtP P H1 H2 → TabS H2 P (X.env.qual ++ "<lambda>") → (∀ z ∈ zs, tb [some (.str z)] H2 fun y H3 => y = .int (kf z) ∧ H3 = H2) ∧ Q (.str ((zs.foldl (bestS kf) none).getD d)) H2
  refine PyProof.Rows.callWith_kw (thn ((pa_cons he pa_nil hst).run pos pins s σ H (fun vs H1 => match vs with | [v] => REST v H1 | _ => False) I h) fun us s1 ⟨vs, H1, I1, r1, q1⟩ => ?_) (by rw [hst]; rfl) (by rw [hst]; rfl) (by rfl) (by rfl)
  match vs, r1, q1 with
  | [], _, q1 => exact q1.elim
  | _ :: _ :: _, _, q1 => exact q1.elim
  | [v], .cons ru .nil, q1 =>
    obtain ⟨a, zs, kf, rfl, sq, tab, q⟩ := q1
    obtain rfl := ru
    refine PyProof.Rows.kws_cons (lam_makeP1 I1 TB hcode tab hp (L.has I1.ok) fun f c' doc pm ctv H2 s2 I2 e2 t2 hf hn ho hc => ?_)
    refine PyProof.Rows.kws_cons (wpAny_Constant_str (PyProof.Rows.kws_nil ?_))
    obtain ⟨hz, hq⟩ := q H2 e2 t2
    have tP : ∃ ps, H1 P = some (.tbl ps) := let ⟨ps, h, _⟩ := tab; ⟨ps, h⟩
    have sq2 : SqL X.K H2 a (zs.map V.str) ∨ SqT X.K H2 a (zs.map V.str) := sq.imp (sqL_ext e2 tP) (sqT_ext e2 tP)
    exact min_run (I2.tok _) hr.hd hn ho hf sq2 (fun z t s' hm' I' g => lam_turn I' L hp g hc hr (fun A outer s H E hr' => hbody A outer s H E f c' hr') (hz z hm')) fun v s' I' rv => ⟨_, H2, I', rv, hq⟩⟩
end
end DH

/-! EMb: best_mark: the best of some marks by min with a lambda as key. -/
namespace DL
open PySem PySem.Spec PyProof.Rows L2 LamX DH MX
abbrev N_best_mark : List Str := ["marks"]
abbrev P_best_mark : List Str := ["marks"]
def betterL : List (Str × D) := [("brim", .int 0), ("fill", .int 1), ("keep", .int 2), ("cent", .int 3), ("coin", .int 4), ("dear", .int 5), ("shut", .int 6)]
def betterI (z : Str) : Int := match betterL.lookup z with
  | some (.int i) => i
  | _ => 0
def bestT (zs : List Str) : Str := (zs.foldl (bestS betterI) none).getD "shut"
def ct_best_mark : Ct := ⟨false, 1, fun _ _ a K => ∃ (ms : List Mark) (d : D), a = [d] ∧ Seq d (ms.map fun m => .str m.s) ∧ K (.d (.str (bestT (ms.map Mark.s)))) []⟩
theorem better_at (m : Mark) : betterL.lookup m.s = some (.int (betterI m.s)) := by cases m <;> rfl
theorem repL_strs {G : Gd} {F : Hp} : ∀ {zs : List Str} {vs : List V}, RepL G F vs (zs.map D.str) → vs = zs.map V.str
  | [], vs, h => h
  | z :: zs, vs, h => by
    obtain ⟨v, r, rfl, hv, hr⟩ := h
    have hv : v = V.str z := by simpa only [Rep] using hv
    rw [hv, repL_strs hr]
    rfl
theorem ts_uniq {ts : List (Addr × Str)} (h : (ts.map (·.1)).Pairwise (· ≠ ·)) : ∀ p ∈ ts, ∀ q ∈ ts, q.1 = p.1 → q = p := by
  induction ts with
  | nil => intro p hp; cases hp
  | cons t ts ih =>
    rw [List.map_cons, List.pairwise_cons] at h
    obtain ⟨h1, h2⟩ := h
    intro p hp q hq e
    rcases List.mem_cons.mp hp with ep | mp
    · rcases List.mem_cons.mp hq with eq | mq
      · rw [ep, eq]
      · exact absurd (by rw [← ep]; exact e.symm) (h1 _ (List.mem_map.mpr ⟨q, mq, rfl⟩))
    · rcases List.mem_cons.mp hq with eq | mq
      · exact absurd (by rw [← eq]; exact e) (h1 _ (List.mem_map.mpr ⟨p, mp, rfl⟩))
      · exact ih h2 p mp q mq e
theorem TW.mono {S : Sg} {G : Gd} {P : Program} {w : World} {K : PySem.W.Frag} {mg : Str → Option Value} {base : Heap} {k : Nat} (T : TW S G P w K mg base k) {j : Nat} : TW S G P w K mg base (k + j) where
  eK := T.eK
  ew := T.ew
  gv := T.gv
  bn := T.bn
  cs := fun i c hc => let ⟨h3, r⟩ := T.cs i c hc; ⟨Nat.le_trans h3 (Nat.le_add_right _ _), r⟩
  fs := fun i e he => let ⟨k', f, fd, ps, ds, dvs, hk, r⟩ := T.fs i e he; ⟨k', f, fd, ps, ds, dvs, Nat.le_trans hk (Nat.le_add_right _ _), r⟩
theorem best_ok {S : Sg} {G : Gd} {P : Program} {w : World} {K : PySem.W.Frag} {mg : Str → Option Value} {base : Heap} {k : Nat} {st : Stmt} {f cc Pb : Addr} {qt : Str} {oc kV doc pm ct : Value} {od an : Option Addr} {osl : Array (Option Value)}
    {params : Arguments} {scope : Scope} {kd : Nat} {p p2 q1 q2 q3 lpos dpos p1 p3 pos rpos : Pos}
    (T : TW S G P w K mg base k) (lk : K.lookup f = some ⟨oc, od, .func (PySem.W.fnOf "best_mark" "best_mark" (defArgs st) (defBody st) (defScope st) .none kV doc pm an (.ref cc) ct), osl⟩) (hcd : PySem.W.codeIn K (.ref cc) "best_mark" = true) (Sc : FnScope ["marks"] ["marks"] (defScope st))
    (hb : defBody st = [.Return (some (.Call (.Name "min" p) [.Name "marks" p2] [⟨some "key", .Lambda params (.Subscript (.Name "BETTER" q1) (.Name "mark" q2) q3) scope lpos, p1⟩, ⟨some "default", .Constant (.str "shut") kd dpos, p3⟩] pos)) rpos])
    (hL : lamDB (defScope st) scope ["mark"] = true) (hp : lamP1 params = some "mark") (hgl : (defScope st).names.lookup ("min" : Str) = some .globalImplicit) (hgb : scope.names.lookup ("BETTER" : Str) = some .globalImplicit) (hvm : (defScope st).names.lookup ("marks" : Str) = some .local)
    (gB : S.gv.lookup ("BETTER" : Str) = some (.kd betterL)) (TB : TabB base mg cc Pb) (hqt : qt = ((envOfC "best_mark" (defScope st) 0 0 .none).qual ++ "<lambda>")) (ht : (Pb, qt) ∈ G.ts) (hu : ∀ q ∈ G.ts, q.1 = Pb → q = (Pb, qt)) :
    FnOk P w K mg base (L2N.CX P w) (k + 3) f (PySem.W.fnOf "best_mark" "best_mark" (defArgs st) (defBody st) (defScope st) .none kV doc pm an (.ref cc) ct) ["marks"] (ct_best_mark.sp G) := by
  obtain ⟨uB, vB, mB, rB, repB⟩ := T.gv _ _ gB
  have hB : ∃ aB, vB = .ref aB ∧ ∀ x d, betterL.lookup x = some d → KDct G.K G.w aB x (fv d) := by
    have := repB (fun _ => none)
    simp only [Rep] at this
    exact this
  obtain ⟨aB, rfl, kB⟩ := hB
  rw [T.eK, T.ew] at kB
  refine fn_of lk hcd Sc (fun vs H Q E h => by have := Ct.sp_len h; exact this) fun A outer s H vs Q E hr h => ?_
  obtain ⟨F, bag, args, bo, ⟨hle, htb⟩, hn, ha, Kd, Xd, hs, kr, kx⟩ := h
  obtain ⟨ms, d, rfl, sq, hK⟩ := hs
  have ha : bo = none ∧ bag = [] ∧ RepL G F vs [d] := ha
  obtain ⟨rfl, rfl, ra⟩ := ha
  obtain ⟨v, r, rfl, rv, rn⟩ := ra
  have rn : r = [] := rn
  subst rn
  let X := cxOf (L2N.CX P w) P w K mg base ["marks"] "best_mark" (defScope st) f (.ref cc) A outer s H E
  have eq : X.env.qual ++ ("<lambda>" : Str) = qt := hqt.symm
  obtain ⟨tabH, fP⟩ := htb _ ht
  have L : LamD X.env.scope scope ["mark"] := lamD_by hL
  have Sv : ∃ a, v = .ref a ∧ (SqL K H a ((ms.map Mark.s).map V.str) ∨ SqT K H a ((ms.map Mark.s).map V.str)) := by
    have em : (ms.map fun m => D.str m.s) = (ms.map Mark.s).map D.str := by rw [List.map_map]; rfl
    rw [em] at sq
    rcases sq with rfl | rfl
    · simp only [Rep] at rv
      obtain ⟨a, us, rfl, e, rl⟩ := rv
      rw [repL_strs rl] at e
      exact ⟨a, rfl, .inl (.inl (.inl (hle _ _ e)))⟩
    · simp only [Rep] at rv
      obtain ⟨a, us, rfl, e, rl⟩ := rv
      rw [repL_strs rl, T.eK] at e
      exact ⟨a, rfl, .inr (sqT_mono hle e)⟩
  obtain ⟨a, rfl, sv⟩ := Sv
  rw [hb]
  refine ⟨_, pss_one (ps_ret (pe_minK (X := X) (k := k) (tb := tOp (rIxD K w) (tC (.ref aB)) (tVar 0)) hgl (T.bn _ (by decide)) TB rfl hr L hp (pe_var (i := 0) rfl (.inl hvm)) fun A' outer' s' H' E' f' c' hr' => ?_)), ?_⟩
  · refine pe_ix (X := lamP X A' outer' s' H' E' scope f' c' "mark") ix_kdict (pe_glob (v := .ref aB) hgb mB rB) (pe_var (i := 0) rfl (.inl (L.par _ List.mem_cons_self))) ?_
    first | exact fun _ _ => rfl | rfl
  · refine ⟨.ref a, rfl, a, ms.map Mark.s, betterI, rfl, sv, ?_, fun H2 e2 t2 => ⟨fun z hz => ?_, ?_⟩⟩
    · rw [eq]; exact tabH
    · obtain ⟨m, _, rfl⟩ := List.mem_map.mp hz
      exact ⟨.str m.s, rfl, aB, m.s, _, rfl, rfl, kB _ _ (better_at m), rfl, rfl⟩
    · rw [eq] at t2
      refine kr _ (.d (.str (bestT (ms.map Mark.s)))) F H2 [] ?_ ?_ hK
      · refine ⟨fun _ _ e => e, fun b o e => e2 b o (fun z => by rw [z, fP] at e; cases e) (hle _ _ e), fun b o e n _ => e2 b o (n _ ht).symm e, fun q hq => ?_, fun b e => ?_, fun b n e => e, fun b e => by cases e⟩
        · by_cases y : q.1 = Pb
          · rw [hu q hq y]; exact t2
          · obtain ⟨ps, e1, tr, kn⟩ := (htb q hq).1
            refine ⟨ps, e2 _ _ y e1, tr, fun pos cv hc => ?_⟩
            obtain ⟨c, z2, z3⟩ := kn pos cv hc
            refine ⟨c, z2, e2 _ _ (fun x => ?_) z3⟩
            obtain ⟨ps2, e4, _⟩ := tabH
            rw [x, e4] at z3
            exact LamX.codeO_ne ps2 (Option.some.inj z3).symm
        · cases g : H b with
          | none => rfl
          | some o =>
            by_cases y : b = Pb
            · obtain ⟨ps2, e4, _⟩ := t2
              rw [y, e4] at e; cases e
            · rw [e2 _ _ y g] at e; cases e
      · show Rep G F _ (.str (bestT (ms.map Mark.s)))
        simp only [Rep]
        rfl
end DL

/-! EMc: best, and the law's own word of it. -/
namespace DL
namespace MX
open PySem L2 DH
def msS (ms : List Mark) : List D := ms.map fun m => D.str m.s
theorem zsS_marks (ms : List Mark) : zsS (ms.map Mark.s) = msS ms := by simp [zsS, msS]
theorem best_fold : ∀ (ms : List Mark) (o : Option Mark), ∃ r : Option Mark, (ms.map Mark.s).foldl (bestS betterI) (o.map Mark.s) = r.map Mark.s ∧ (r = none → ms = [] ∧ o = none) ∧
    ∀ b, r = some b → (b ∈ ms ∨ o = some b) ∧ (∀ y ∈ ms, betterI b.s ≤ betterI y.s) ∧ ∀ x, o = some x → betterI b.s ≤ betterI x.s
  | [], o => ⟨o, rfl, fun e => ⟨rfl, e⟩, fun b e => ⟨.inr e, fun y hy => (by cases hy), fun x e2 => by rw [e] at e2; cases e2; exact Int.le_refl _⟩⟩
  | m :: ms, o => by
    have step : ∃ q : Mark, bestS betterI (o.map Mark.s) m.s = (some q).map Mark.s ∧ (q = m ∨ o = some q) ∧ betterI q.s ≤ betterI m.s ∧ ∀ x, o = some x → betterI q.s ≤ betterI x.s := by
      cases o with
      | none => exact ⟨m, rfl, .inl rfl, Int.le_refl _, fun x e => by cases e⟩
      | some b =>
        by_cases h : betterI m.s < betterI b.s
        · exact ⟨m, by show (if betterI m.s < betterI b.s then some m.s else some b.s) = some m.s; rw [if_pos h], .inl rfl, Int.le_refl _, fun x e => by cases e; omega⟩
        · exact ⟨b, by show (if betterI m.s < betterI b.s then some m.s else some b.s) = some b.s; rw [if_neg h], .inr rfl, by omega, fun x e => by cases e; exact Int.le_refl _⟩
    obtain ⟨q, e1, h1, h2, h3⟩ := step
    obtain ⟨r, e2, hn, hb⟩ := best_fold ms (some q)
    refine ⟨r, ?_, fun e => ?_, fun b e => ?_⟩
    · rw [List.map_cons, List.foldl_cons, e1, e2]
    · exact absurd (hn e).2 (by simp)
    · obtain ⟨k1, k2, k3⟩ := hb b e
      have k3 := k3 q rfl
      refine ⟨?_, fun y hy => ?_, fun x e => Int.le_trans k3 (h3 x e)⟩
      · rcases k1 with k | k
        · exact .inl (List.mem_cons_of_mem _ k)
        · cases k
          exact h1.imp (fun z => by rw [z]; exact List.mem_cons_self) id
      · rcases List.mem_cons.mp hy with rfl | hy
        · exact Int.le_trans k3 h2
        · exact k2 y hy
/-- the best is one of them, or shut -/
theorem best_is (ms : List Mark) : ∃ b : Mark, bestT (ms.map Mark.s) = b.s ∧ betterI b.s ∈ (6 :: ms.map fun m => betterI m.s) ∧ ∀ y ∈ (6 :: ms.map fun m => betterI m.s), betterI b.s ≤ y := by
  obtain ⟨r, e, hn, hb⟩ := best_fold ms none
  have e : (ms.map Mark.s).foldl (bestS betterI) none = r.map Mark.s := e
  cases r with
  | none =>
    obtain ⟨rfl, _⟩ := hn rfl
    exact ⟨.shut, rfl, by decide +kernel, by decide +kernel⟩
  | some b =>
    obtain ⟨k1, k2, _⟩ := hb b rfl
    have k1 : b ∈ ms := k1.elim id fun z => by cases z
    refine ⟨b, by unfold bestT; rw [e]; rfl, List.mem_cons_of_mem _ (List.mem_map.mpr ⟨b, k1, rfl⟩), fun y hy => ?_⟩
    rcases List.mem_cons.mp hy with rfl | hy
    · cases b <;> decide +kernel
    · obtain ⟨x, hx, rfl⟩ := List.mem_map.mp hy
      exact k2 x hx
def bestM (ms : List Mark) : Mark := (([.brim, .fill, .keep, .cent, .coin, .dear, .shut] : List Mark).find? fun b => decide (b.s = bestT (ms.map Mark.s))).getD .shut
theorem bestM_s (ms : List Mark) : bestT (ms.map Mark.s) = (bestM ms).s := by
  obtain ⟨b, e, _⟩ := best_is ms
  unfold bestM
  rw [e]
  cases b <;> decide +kernel
def mksD : List D := [.str "brim", .str "fill", .str "keep", .str "cent", .str "coin", .str "dear", .str "shut"]
def mksS : List Str := ["brim", "fill", "keep", "cent", "coin", "dear", "shut"]
theorem idx_mk (m : Mark) {K : R → Prop} (k : K (.v (.int (betterI m.s)))) : bmR .lindex (.lst mksD) (.str m.s) K := by
  have e : mksD = mksS.map D.str := rfl
  rw [e]
  cases m
  · exact idx_list (j := 0) (by decide +kernel) k
  · exact idx_list (j := 1) (by decide +kernel) k
  · exact idx_list (j := 2) (by decide +kernel) k
  · exact idx_list (j := 3) (by decide +kernel) k
  · exact idx_list (j := 4) (by decide +kernel) k
  · exact idx_list (j := 5) (by decide +kernel) k
  · exact idx_list (j := 6) (by decide +kernel) k
theorem at_mk (m : Mark) : atI mksD (betterI m.s) = some (.str m.s) := by cases m <;> rfl
def ct_best (c : Nat) : Ct := ⟨false, 1, fun X _ a K => ∃ (zs : List Str) (d : D), a = [d] ∧ Seq d (zsS zs) ∧ (∀ ms : List Mark, zs = ms.map Mark.s → K (.d (.str (bestM ms).s)) []) ∧ ((∃ z, z ∈ zs ∧ ¬ isMark z) → X (badX c) [])⟩
def ct_dbest : Ct := ⟨false, 1, fun _ _ a K => ∃ (ms : List Mark) (d : D), a = [d] ∧ Seq d (msS ms) ∧ ms.length ≤ 1000 ∧ K (.d (.str (bestM ms).s)) []⟩
section
variable {S : Sg} {X : Xn → Prop} {K : R → Prop} {c : Nat}
theorem cl_bestm {ms : List Mark} {d : D} (hs : Seq d (msS ms)) (h : K (.v (.str (bestM ms).s))) : clK ct_best_mark [d] X K := ⟨rfl, ms, d, rfl, hs, by rw [bestM_s]; exact h⟩
theorem cl_bestx {zs : List Str} {d : D} (hs : Seq d (zsS zs)) (h1 : ∀ ms : List Mark, zs = ms.map Mark.s → K (.v (.str (bestM ms).s))) (h2 : (∃ z, z ∈ zs ∧ ¬ isMark z) → X (badX c)) : clK (ct_best c) [d] X K := ⟨rfl, zs, d, rfl, hs, h1, h2⟩
theorem not_oddm {ms : List Mark} : ¬ ∃ z, z ∈ ms.map Mark.s ∧ ¬ isMark z := fun ⟨z, hz, n⟩ => by
  obtain ⟨d, _, rfl⟩ := List.mem_map.mp hz
  exact n ⟨d, rfl⟩
theorem cl_bestd {ms : List Mark} {d : D} (hs : Seq d (msS ms)) (h : K (.v (.str (bestM ms).s))) : clK (ct_best c) [d] X K :=
  cl_bestx (zs := ms.map Mark.s) (by rw [zsS_marks]; exact hs) (fun ms' e => by have := marks_inj e; subst this; exact h) (fun q => absurd q not_oddm)
theorem cl_bestb {zs : List Str} {d : D} (hs : Seq d (zsS zs)) (hb : ∃ z, z ∈ zs ∧ ¬ isMark z) (h : X (badX c)) : clK (ct_best c) [d] X K :=
  cl_bestx hs (fun ms e => by rw [e] at hb; exact absurd hb not_oddm) (fun _ => h)
theorem cl_dbest {ms : List Mark} {d : D} (hs : Seq d (msS ms)) (hl : ms.length ≤ 1000) (h : K (.v (.str (bestM ms).s))) : clK ct_dbest [d] X K := ⟨rfl, ms, d, rfl, hs, hl, h⟩
theorem h_best {i j : Nat} (h4 : S.fs[i]? = some ⟨"need_mark", ct_need_mark c, []⟩) (h7 : S.fs[j]? = some ⟨"best_mark", ct_best_mark, []⟩) : Body S (ct_best c) (b_best (i_need_mark := i) (i_best_mark := j)) N_best P_best := by
  rintro Xd bag args Kd hn ⟨zs, d, rfl, hsq, h1, h2⟩
  simp [b_best, N_best, P_best, ct_best, itm_seq hsq]
  refine forD_list (fun r ρ => ∃ (dn : List Mark) (l : List Str) (s : Sl), zs = dn.map Mark.s ++ l ∧ r = zsS l ∧ opS s = true ∧ ρ = [Sl.fz d, s]) ?_ ?_ _ _ ⟨[], zs, .no, rfl, rfl, rfl, rfl⟩
  · rintro d' r ρ E' ⟨dn, l, s, e1, e, hs, rfl⟩ hn hc hr hb
    obtain ⟨y, l', rfl, rfl, rfl⟩ := map_cons_inv e
    simp [hs, ↓ ze_callh h4 rfl]
    refine cl_needm (fun q => ?_) fun q => h2 ⟨y, by rw [e1]; simp, q⟩
    obtain ⟨m, rfl⟩ := q
    exact hn _ ⟨dn ++ [m], l', _, by rw [e1]; simp, rfl, rfl, rfl⟩
  · rintro ρ ⟨dn, l, s, e1, e, hs, rfl⟩
    have := map_nil_inv e
    subst this
    have e1 : zs = dn.map Mark.s := by simpa using e1
    subst e1
    rw [zsS_marks] at hsq
    simp [↓ ze_callh h7 rfl]
    refine cl_bestm hsq ?_
    exact h1 dn rfl
theorem h_law_best {i : Nat} (h : S.fs[i]? = some ⟨"_law_marks_all", ct_marks_all, []⟩) : Body S ct_dbest (b_law_best (i_law_marks_all := i)) N_law_best P_law_best := by
  rintro Xd bag args Kd hn ⟨ms, d, rfl, hsq, hl, hk⟩
  simp [b_law_best, N_law_best, P_law_best, ct_dbest, ↓ ze_callh h rfl]
  refine cl_marks ?_
  simp [itm_seq hsq]
  refine compD_list (fun r acc ρ => ∃ (dn l : List Mark) (s : Sl), ms = dn ++ l ∧ r = msS l ∧ acc = dn.map (fun m => D.int (betterI m.s)) ∧ ρ = [Sl.fz d, .ow false mksD, .no]) ?_ ?_ _ _ _ ⟨[], ms, .no, rfl, rfl, rfl, rfl⟩
  · rintro x r acc ρ Q ⟨dn, l, s, e1, e, rfl, rfl⟩ hQ
    obtain ⟨y, l', rfl, rfl, rfl⟩ := map_cons_inv e
    simp
    refine idx_mk y ?_
    have e2 : ms.length = dn.length + (l'.length + 1) := by rw [e1]; simp
    exact ⟨Nat.lt_of_lt_of_le (m := 1001) (by omega) (by decide), rfl, hQ _ _ ⟨dn ++ [y], l', s, by rw [e1]; simp, rfl, by simp, rfl⟩⟩
  · rintro acc ρ ⟨dn, l, s, e1, e, rfl, rfl⟩
    have := map_nil_inv e
    subst this
    have e1 : ms = dn := by simpa using e1
    subst e1
    simp
    refine ⟨Nat.le_trans (m := 1001) (by omega) (by decide), 6 :: ms.map (fun m => betterI m.s), by simp, by simp, fun m hm hy => ?_⟩
    obtain ⟨b, e1, e2, e3⟩ := best_is ms
    have : m = betterI b.s := Int.le_antisymm (hy _ e2) (e3 _ hm)
    subst this
    have e4 := at_mk b
    rw [bestM_s] at e1
    rw [e1] at hk
    rw [e4]
    simpa using hk
end
end MX
end DL

/-! EMt: tables of marks: products, steady ones, raised ones. -/
namespace DL
namespace MX
open PySem L2 DH
/-- product(one, other) -/
def N_product : List Str := ["one", "other", "rooms", "row", "to", "mid"]
def P_product : List Str := ["one", "other"]
def b_product (i_best_mark i_later_mark : Nat) : Ss := .cons (.set 2 (.lrg (.bi .len (.cons (.var 0) .nil)))) (
  .cons (.ret (.bi .tuple (.cons (.comp [("row", 3)] (.nm 3) (.seq (.var 0)) .nil (.bi .tuple (.cons (.comp [("to", 4)] (.nm 4) (.seq (.var 2)) .nil (.call i_best_mark (.cons (.comp [("mid", 5)] (.nm 5) (.seq (.var 2)) .nil (.call i_later_mark (.cons (.ix (.var 3) (.var 5)) (.cons (.ix (.ix (.var 1) (.var 5)) (.var 4)) .nil)))) .nil))) .nil))) .nil))) .nil)
/-- times(one, other) -/
def N_times : List Str := ["one", "other"]
def P_times : List Str := ["one", "other"]
def b_times (i_product c_Unlike : Nat) : Ss := .cons (.ife (.cmp .ne (.bi .len (.cons (.var 0) .nil)) (.bi .len (.cons (.var 1) .nil))) (.cons (.raise c_Unlike) .nil) (.nil)) (
  .cons (.ret (.call i_product (.cons (.var 0) (.cons (.var 1) .nil)))) .nil)
/-- _law_best(_law_marks_here) -/
def N_law_best2 : List Str := ["_law_marks_here", "_law_ranks", "_law_mark"]
def P_law_best2 : List Str := ["_law_marks_here"]
def b_law_best2 (i_law_marks_all : Nat) : Ss := .cons (.set 1 (.call i_law_marks_all .nil)) (
  .cons (.ret (.ix (.var 1) (.bi .min1 (.cons (.bin .add (.lst (.cons (.int 6) .nil)) (.comp [("_law_mark", 2)] (.nm 2) (.seq (.var 0)) .nil (.bm .lindex (.var 1) (.var 2)))) .nil)))) .nil)
/-- _law_times(_law_one, _law_other) -/
def N_law_times : List Str := ["_law_one", "_law_other", "_law_rooms", "_law_found", "_law_row", "_law_to", "_law_k"]
def P_law_times : List Str := ["_law_one", "_law_other"]
def b_law_times (i_law_best i_law_two_marks : Nat) : Ss := .cons (.set 2 (.lrg (.bi .len (.cons (.var 0) .nil)))) (
  .cons (.set 3 (.lst .nil)) (
  .cons (.for (.nm 4) (.seq (.var 0)) (.cons (.app 3 (.bi .tuple (.cons (.comp [("_law_to", 5)] (.nm 5) (.seq (.var 2)) .nil (.call i_law_best (.cons (.comp [("_law_k", 6)] (.nm 6) (.seq (.var 2)) .nil (.call i_law_two_marks (.cons (.ix (.var 4) (.var 6)) (.cons (.ix (.ix (.var 1) (.var 6)) (.var 5)) .nil)))) .nil))) .nil))) .nil)) (
  .cons (.ret (.bi .tuple (.cons (.var 3) .nil))) .nil)))
/-- _law_still(_law_rooms) -/
def N_law_still : List Str := ["_law_rooms", "_law_a", "_law_b"]
def P_law_still : List Str := ["_law_rooms"]
def b_law_still : Ss := .cons (.ret (.bi .tuple (.cons (.comp [("_law_a", 1)] (.nm 1) (.rng1 (.var 0)) .nil (.bi .tuple (.cons (.comp [("_law_b", 2)] (.nm 2) (.rng1 (.var 0)) .nil (.ix (.lst (.cons (.str "shut") (.cons (.str "keep") .nil))) (.bi .int (.cons (.cmp .eq (.var 1) (.var 2)) .nil)))) .nil))) .nil))) .nil
/-- _law_marks(_law_bag_here, _law_many) -/
def N_law_marks : List Str := ["_law_bag_here", "_law_many", "_law_kind_here", "_law_some", "_law_a", "_law_b"]
def P_law_marks : List Str := ["_law_bag_here", "_law_many"]
def b_law_marks (i_law_of i_law_deeds_all i_law_marks_all i_law_pull : Nat) : Ss := .cons (.set 2 (.callm i_law_pull 0 (.cons (.int 4) .nil))) (
  .cons (.set 3 (.ix (.lst (.cons (.call i_law_marks_all .nil) (.cons (.lst (.cons (.str "shut") (.cons (.str "cent") (.cons (.str "fill") .nil)))) (.cons (.lst (.cons (.str "shut") (.cons (.str "keep") (.cons (.str "coin") .nil)))) (.cons (.call i_law_deeds_all .nil) .nil))))) (.var 2))) (
  .cons (.ret (.bi .tuple (.cons (.comp [("_law_a", 4)] (.nm 4) (.rng1 (.var 1)) .nil (.bi .tuple (.cons (.comp [("_law_b", 5)] (.nm 5) (.rng1 (.var 1)) .nil (.callm i_law_of 0 (.cons (.var 3) .nil))) .nil))) .nil))) .nil))
/-- steady_raised(table) -/
def N_steady_raised : List Str := ["table", "rooms", "often", "wide", "mid", "row"]
def P_steady_raised : List Str := ["table"]
def b_steady_raised (i_product i_later_mark i_often_mark : Nat) : Ss := .cons (.set 1 (.lrg (.bi .len (.cons (.var 0) .nil)))) (
  .cons (.set 2 (.comp [("mid", 4)] (.nm 4) (.seq (.var 1)) .nil (.call i_often_mark (.cons (.ix (.ix (.var 0) (.var 4)) (.var 4)) .nil)))) (
  .cons (.set 3 (.comp [("row", 5)] (.nm 5) (.seq (.var 0)) .nil (.comp [("mid", 4)] (.nm 4) (.seq (.var 1)) .nil (.call i_later_mark (.cons (.ix (.var 5) (.var 4)) (.cons (.ix (.var 2) (.var 4)) .nil)))))) (
  .cons (.ret (.call i_product (.cons (.var 3) (.cons (.var 0) .nil)))) .nil)))
/-- is_steady(table) -/
def N_is_steady : List Str := ["table"]
def P_is_steady : List Str := ["table"]
def b_is_steady (i_product : Nat) : Ss := .cons (.ret (.cmp .eq (.call i_product (.cons (.var 0) (.cons (.var 0) .nil))) (.var 0))) .nil
/-- raised(table) -/
def N_raised : List Str := ["table"]
def P_raised : List Str := ["table"]
def b_raised (i_steady_raised i_is_steady c_BadTable : Nat) : Ss := .cons (.ife (.not (.call i_is_steady (.cons (.var 0) .nil))) (.cons (.raise c_BadTable) .nil) (.nil)) (
  .cons (.ret (.call i_steady_raised (.cons (.var 0) .nil))) .nil)
/-- _law_raised(_law_table) -/
def N_law_raised : List Str := ["_law_table", "_law_rooms", "_law_wide", "_law_row", "_law_k"]
def P_law_raised : List Str := ["_law_table"]
def b_law_raised (i_law_times i_law_two_marks i_law_often : Nat) : Ss := .cons (.set 1 (.lrg (.bi .len (.cons (.var 0) .nil)))) (
  .cons (.set 2 (.comp [("_law_row", 3)] (.nm 3) (.seq (.var 0)) .nil (.bi .tuple (.cons (.comp [("_law_k", 4)] (.nm 4) (.seq (.var 1)) .nil (.call i_law_two_marks (.cons (.ix (.var 3) (.var 4)) (.cons (.call i_law_often (.cons (.ix (.ix (.var 0) (.var 4)) (.var 4)) .nil)) .nil)))) .nil)))) (
  .cons (.ret (.call i_law_times (.cons (.var 2) (.cons (.var 0) .nil)))) .nil))
/-- a list or tuple of rows of marks, itself a list or a tuple -/
def TabD (d : D) (t : List (List Mark)) : Prop := ∃ l : List (D × List Mark), Seq d (l.map (·.1)) ∧ t = l.map (·.2) ∧ ∀ p ∈ l, Seq p.1 (msS p.2)
/-- n rows of n marks -/
def Sqr (n : Nat) (t : List (List Mark)) : Prop := t.length = n ∧ ∀ r ∈ t, r.length = n
def gM (r : List Mark) (j : Nat) : Mark := (r[j]?).getD .shut
def gR (t : List (List Mark)) (i : Nat) : List Mark := (t[i]?).getD []
def cellM (t : List (List Mark)) (i j : Nat) : Mark := gM (gR t i) j
def prodM (n : Nat) (t u : List (List Mark)) : List (List Mark) := t.map fun r => (List.range n).map fun j => bestM ((List.range n).map fun m => laterM (gM r m) (cellM u m j))
def tabT (t : List (List Mark)) : D := .tup (t.map fun r => .tup (msS r))
theorem tabD_T (t : List (List Mark)) : TabD (tabT t) t := ⟨t.map fun r => (.tup (msS r), r), .inr (by simp [tabT, Function.comp_def]), by simp [Function.comp_def], fun p hp => by
  obtain ⟨r, _, rfl⟩ := List.mem_map.mp hp
  exact .inr rfl⟩
theorem TabD.len {d : D} {t : List (List Mark)} (h : TabD d t) {K : R → Prop} : biR .len [d] K = K (.v (.int t.length)) := by
  obtain ⟨l, h, rfl, _⟩ := h
  rcases h with rfl | rfl
  · show K (.v (.int ((l.map (·.1)).length : Nat))) = _
    simp
  · show K (.v (.int ((l.map (·.1)).length : Nat))) = _
    simp
theorem at_nat {xs : List D} (i : Nat) : atI xs (i : Int) = xs[i]? := by
  unfold atI ixN
  by_cases h : i < xs.length
  · simp [h]
  · have e : xs[i]? = none := List.getElem?_eq_none (by omega)
    have h2 : ¬ ((i : Int) < xs.length) := by omega
    have h3 : ¬ (i : Int) < 0 := by omega
    simp [e, h2, h3]
theorem ix_sq {d : D} {xs : List D} {x : D} {i : Nat} {K : R → Prop} (h : Seq d xs) (e : xs[i]? = some x) : ixR d (.int i) K = K (.v x) := by
  have e2 : atI xs (i : Int) = some x := by rw [at_nat]; exact e
  have : ixR d (.int i) K = exK (atI xs (i : Int)) fun x => K (.v x) := by rcases h with rfl | rfl <;> rfl
  rw [this, e2]
  simp
theorem ms_at {r : List Mark} {i : Nat} (h : i < r.length) : (msS r)[i]? = some (.str (gM r i).s) := by
  unfold msS gM
  rw [List.getElem?_map, List.getElem?_eq_getElem h]
  rfl
theorem ix_row {d : D} {r : List Mark} {i : Nat} {K : R → Prop} (h : Seq d (msS r)) (hi : i < r.length) : ixR d (.int i) K = K (.v (.str (gM r i).s)) := ix_sq h (ms_at hi)
/-- a row of a table -/
theorem TabD.row {d : D} {t : List (List Mark)} (h : TabD d t) {i : Nat} (hi : i < t.length) : ∃ dr, (∀ {K : R → Prop}, ixR d (.int i) K = K (.v dr)) ∧ Seq dr (msS (gR t i)) := by
  obtain ⟨l, h, rfl, hs⟩ := h
  rw [List.length_map] at hi
  refine ⟨(l[i]).1, fun {K} => ix_sq h (by rw [List.getElem?_map, List.getElem?_eq_getElem hi]; rfl), ?_⟩
  unfold gR
  rw [List.getElem?_map, List.getElem?_eq_getElem hi]
  exact hs _ (List.getElem_mem hi)
/-- a comprehension over one name that changes nothing else -/
theorem comp_map {S : Sg} {xp : XP} {α : Type} {i : Nat} {fe : Rho → KR → Prop} {K : List D → Rho → Prop} {ρ0 : Rho} {l : List α} (g h : α → D) (hl : l.length ≤ 1000) (ho : open? ρ0 i = true) (hno : ∀ d, notOw (ρ0.set i (.fz d)) i = true) (h0 : ρ0.set i .no = ρ0)
    (step : ∀ x, x ∈ l → ∀ Q : KR, (∀ r, (r = .v (h x) ∨ ∃ xs, r = .n xs ∧ h x = .lst xs) → Q r (ρ0.set i (.fz (g x)))) → fe (ρ0.set i (.fz (g x))) Q) (k : K (l.map h) ρ0) :
    compD [i] (.nm i) (iTs S xp .nil) fe (l.map g) [] ρ0 K := by
  refine compD_list (fun r acc ρ => ∃ dn l', l = dn ++ l' ∧ r = l'.map g ∧ acc = dn.map h ∧ ρ = ρ0) ?_ ?_ _ _ _ ⟨[], l, rfl, rfl, rfl, rfl⟩
  · rintro x r acc ρ Q ⟨dn, l', e1, e, rfl, rfl⟩ hQ
    obtain ⟨y, l', rfl, rfl, rfl⟩ := map_cons_inv e
    have e2 : l.length = dn.length + (l'.length + 1) := by rw [e1]; simp
    refine ⟨ho, ?_⟩
    simp
    refine step y (by rw [e1]; simp) _ fun r hr => ?_
    have fin : (dn.map h).length < sizeLine ∧ List.all [i] (notOw (ρ.set i (.fz (g y)))) = true ∧ Q (dn.map h ++ [h y]) (wipeR (ρ.set i (.fz (g y))) [i]) := by
      refine ⟨by rw [List.length_map]; exact Nat.lt_of_lt_of_le (m := 1001) (by omega) (by decide), by simp [hno], ?_⟩
      have e3 : wipeR (ρ.set i (.fz (g y))) [i] = ρ := by simp [h0]
      rw [e3]
      exact hQ _ _ ⟨dn ++ [y], l', by rw [e1]; simp, rfl, by simp, rfl⟩
    rcases hr with rfl | ⟨xs, rfl, e4⟩
    · simpa using fin
    · rw [e4] at fin
      simpa using fin
  · rintro acc ρ ⟨dn, l', e1, e, rfl, rfl⟩
    have := map_nil_inv e
    subst this
    have e1 : l = dn := by simpa using e1
    subst e1
    exact k
theorem comp_mapP {S : Sg} {xp : XP} {α : Type} {i : Nat} {fe : Rho → KR → Prop} {K : List D → Rho → Prop} {ρ0 : Rho} {l : List α} (P : Rho → Prop) (g h : α → D) (hl : l.length ≤ 1000) (ho : ∀ ρ, P ρ → open? ρ i = true) (hP : P ρ0)
    (step : ∀ x, x ∈ l → ∀ ρ, P ρ → ∀ Q : KR, (∀ r ρ', (r = .v (h x) ∨ ∃ xs, r = .n xs ∧ h x = .lst xs) → notOw ρ' i = true → P (ρ'.set i .no) → Q r ρ') → fe (ρ.set i (.fz (g x))) Q) (k : ∀ ρ, P ρ → K (l.map h) ρ) :
    compD [i] (.nm i) (iTs S xp .nil) fe (l.map g) [] ρ0 K := by
  refine compD_list (fun r acc ρ => ∃ dn l', l = dn ++ l' ∧ r = l'.map g ∧ acc = dn.map h ∧ P ρ) ?_ ?_ _ _ _ ⟨[], l, rfl, rfl, rfl, hP⟩
  · rintro x r acc ρ Q ⟨dn, l', e1, e, rfl, hp⟩ hQ
    obtain ⟨y, l', rfl, rfl, rfl⟩ := map_cons_inv e
    have e2 : l.length = dn.length + (l'.length + 1) := by rw [e1]; simp
    refine ⟨ho _ hp, ?_⟩
    simp
    refine step y (by rw [e1]; simp) _ hp _ fun r ρ' hr hno hp' => ?_
    have fin : (dn.map h).length < sizeLine ∧ List.all [i] (notOw ρ') = true ∧ Q (dn.map h ++ [h y]) (wipeR ρ' [i]) := by
      refine ⟨by rw [List.length_map]; exact Nat.lt_of_lt_of_le (m := 1001) (by omega) (by decide), by simp [hno], ?_⟩
      have e3 : wipeR ρ' [i] = ρ'.set i .no := by simp
      rw [e3]
      exact hQ _ _ ⟨dn ++ [y], l', by rw [e1]; simp, rfl, by simp, hp'⟩
    rcases hr with rfl | ⟨xs, rfl, e4⟩
    · simpa using fin
    · rw [e4] at fin
      simpa using fin
  · rintro acc ρ ⟨dn, l', e1, e, rfl, hp⟩
    have := map_nil_inv e
    subst this
    have e1 : l = dn := by simpa using e1
    subst e1
    exact k _ hp
def ct_product : Ct := ⟨false, 2, fun _ _ a K => ∃ (n : Nat) (t u : List (List Mark)) (d e : D), a = [d, e] ∧ n ≤ 10 ∧ TabD d t ∧ TabD e u ∧ Sqr n t ∧ Sqr n u ∧ K (.d (tabT (prodM n t u))) []⟩
section
variable {S : Sg} {X : Xn → Prop} {K : R → Prop} {c : Nat}
theorem cl_product {n : Nat} {t u : List (List Mark)} {d e : D} (hn : n ≤ 10) (hd : TabD d t) (he : TabD e u) (ht : Sqr n t) (hu : Sqr n u) (h : K (.v (tabT (prodM n t u)))) : clK ct_product [d, e] X K := ⟨rfl, n, t, u, d, e, rfl, hn, hd, he, ht, hu, h⟩
/-- one row of a product -/
theorem prod_row {i j : Nat} (h6 : S.fs[i]? = some ⟨"later_mark", ct_later_mark, []⟩) (h7 : S.fs[j]? = some ⟨"best_mark", ct_best_mark, []⟩) {n : Nat} {u : List (List Mark)} {d e q : D} {r : List Mark} (h10 : n ≤ 10) (he : TabD e u) (un : u.length = n) (ur : ∀ r ∈ u, r.length = n) (rl : Seq q (msS r)) (rn : r.length = n) {K : List D → Rho → Prop}
    (hK : K (msS ((List.range n).map fun j => bestM ((List.range n).map fun m => laterM (gM r m) (cellM u m j)))) [Sl.fz d, .fz e, .fz (.lst ((List.range n).map fun k => D.int (k : Nat))), .fz q, .no, .no]) :
    compD [4] (Tg.nm 4) (iTs S (fun x x_1 => False) Cs.nil) (iE S (fun x x_1 => False) (C.call j (Cs.cons (C.comp [(Str.ofString "mid", 5)] (Tg.nm 5) (Src.seq (C.var 2)) Cs.nil (C.call i (Cs.cons ((C.var 3).ix (C.var 5)) (Cs.cons (((C.var 1).ix (C.var 5)).ix (C.var 4)) Cs.nil)))) Cs.nil)))
      (List.map (fun i => D.int (i : Nat)) (List.range n)) [] [Sl.fz d, Sl.fz e, .fz (.lst ((List.range n).map fun k => D.int (k : Nat))), Sl.fz q, Sl.no, Sl.no] K := by
  refine comp_map (l := List.range n) (fun k => D.int (k : Nat)) (fun j => D.str (bestM ((List.range n).map fun m => laterM (gM r m) (cellM u m j))).s) (by simp; omega) rfl (fun _ => rfl) rfl (fun j' hj Q2 hQ2 => ?_) ?_
  · have hj := List.mem_range.mp hj
    simp [↓ ze_callh h7 rfl]
    refine comp_map (l := List.range n) (fun k => D.int (k : Nat)) (fun m => D.str (laterM (gM r m) (cellM u m j')).s) (by simp; omega) rfl (fun _ => rfl) rfl (fun m hm Q3 hQ3 => ?_) ?_
    · have hm := List.mem_range.mp hm
      obtain ⟨dr, er, sr⟩ := he.row (i := m) (by omega)
      have eu : (gR u m).length = n := ur _ (by unfold gR; rw [List.getElem?_eq_getElem (by omega)]; exact List.getElem_mem _)
      simp [↓ ze_callh h6 rfl, ↓ ix_row rl (show m < r.length by omega), ↓ er, ↓ ix_row sr (show j' < (gR u m).length by omega)]
      rw [cl_later]
      exact hQ3 _ (.inl rfl)
    · refine cl_bestm (ms := (List.range n).map fun m => laterM (gM r m) (cellM u m j')) (.inl (by simp [msS, Function.comp_def])) ?_
      exact hQ2 _ (.inl rfl)
  · simpa [msS, Function.comp_def] using hK
theorem h_product {i j : Nat} (h6 : S.fs[i]? = some ⟨"later_mark", ct_later_mark, []⟩) (h7 : S.fs[j]? = some ⟨"best_mark", ct_best_mark, []⟩) : Body S ct_product (b_product (i_later_mark := i) (i_best_mark := j)) N_product P_product := by
  rintro Xd bag args Kd hn ⟨n, t, u, d, e, rfl, h10, hd, he, ⟨tn, tr⟩, ⟨un, ur⟩, hk⟩
  simp [b_product, N_product, P_product, ct_product, ↓ hd.len]
  have hd' := hd
  obtain ⟨l, hs, rfl, hl⟩ := hd'
  simp [itm_seq hs, tn]
  have ln : l.length = n := by simpa using tn
  refine ⟨by omega, comp_mapP (l := l) (fun ρ => ∃ s2, (s2 = Sl.ow false ((List.range n).map fun k => D.int (k : Nat)) ∨ s2 = .fz (.lst ((List.range n).map fun k => D.int (k : Nat)))) ∧ ρ = [Sl.fz d, .fz e, s2, .no, .no, .no]) (·.1)
    (fun p => D.tup (msS ((List.range n).map fun j => bestM ((List.range n).map fun m => laterM (gM p.2 m) (cellM u m j))))) (by omega) (fun ρ ⟨s2, _, h⟩ => by rw [h]; rfl) ⟨_, .inl rfl, rfl⟩ (fun p hp ρ ⟨s2, h2, hρ⟩ Q hQ => ?_) (fun ρ ⟨s2, h2, hρ⟩ => ?_)⟩
  · have rl := hl p hp
    have rn : p.2.length = n := tr _ (List.mem_map.mpr ⟨p, hp, rfl⟩)
    subst hρ
    rcases h2 with rfl | rfl
    all_goals
      simp
      refine prod_row h6 h7 h10 he un ur rl rn ?_
      simp
      exact hQ _ _ (.inl rfl) rfl ⟨_, .inr rfl, rfl⟩
  · subst hρ
    have e : tabT (prodM n (l.map (·.2)) u) = D.tup (l.map fun p => D.tup (msS ((List.range n).map fun j => bestM ((List.range n).map fun m => laterM (gM p.2 m) (cellM u m j))))) := by simp [tabT, prodM, Function.comp_def]
    rw [e] at hk
    exact hk
theorem h_law_best2 {i : Nat} (h : S.fs[i]? = some ⟨"_law_marks_all", ct_marks_all, []⟩) : Body S ct_dbest (b_law_best2 (i_law_marks_all := i)) N_law_best2 P_law_best2 := h_law_best h
def unlX (c : Nat) : Xn := ⟨c, [("word", .str "unlike")]⟩
abbrev UnlAt (S : Sg) (c : Nat) : Prop := S.cs[c]? = some (("Unlike" : Str), ("unlike" : Str))
theorem told_unl {cs : List (Str × Str)} {K : D → Prop} (h : cs[c]? = some (("Unlike" : Str), ("unlike" : Str))) : toldX cs (unlX c) K = K (.tup [.str "unlike", .non]) := toldX_n h (by decide +kernel) rfl
def ct_times (c : Nat) : Ct := ⟨false, 2, fun X _ a K => ∃ (n m : Nat) (t u : List (List Mark)) (d e : D), a = [d, e] ∧ n ≤ 10 ∧ m ≤ 10 ∧ TabD d t ∧ TabD e u ∧ Sqr n t ∧ Sqr m u ∧ (n = m → K (.d (tabT (prodM n t u))) []) ∧ (n ≠ m → X (unlX c) [])⟩
theorem cl_times {n : Nat} {t u : List (List Mark)} {d e : D} (hn : n ≤ 10) (hd : TabD d t) (he : TabD e u) (ht : Sqr n t) (hu : Sqr n u) (h : K (.v (tabT (prodM n t u)))) : clK (ct_times c) [d, e] X K := ⟨rfl, n, n, t, u, d, e, rfl, hn, hn, hd, he, ht, hu, fun _ => h, fun q => absurd rfl q⟩
theorem cl_timesb {n m : Nat} {t u : List (List Mark)} {d e : D} (hn : n ≤ 10) (hm : m ≤ 10) (hd : TabD d t) (he : TabD e u) (ht : Sqr n t) (hu : Sqr m u) (ne : n ≠ m) (h : X (unlX c)) : clK (ct_times c) [d, e] X K := ⟨rfl, n, m, t, u, d, e, rfl, hn, hm, hd, he, ht, hu, fun q => absurd q ne, fun _ => h⟩
theorem h_times {i : Nat} (h8 : S.fs[i]? = some ⟨"product", ct_product, []⟩) (c0 : UnlAt S c) : Body S (ct_times c) (b_times (i_product := i) (c_Unlike := c)) N_times P_times := by
  rintro Xd bag args Kd hn ⟨n, m, t, u, d, e, rfl, h10, m10, hd, he, ht, hu, h1, h2⟩
  simp [b_times, N_times, P_times, ct_times, ↓ hd.len, ↓ he.len, ↓ ze_callh h8 rfl, ↓ zs_raiseh c0]
  by_cases q : n = m
  · subst q
    have e1 : t.length = u.length := by rw [ht.1, hu.1]
    rw [if_pos (by rw [e1])]
    exact cl_product h10 hd he ht hu (h1 rfl)
  · have e1 : ¬ t.length = u.length := by rw [ht.1, hu.1]; exact q
    rw [if_neg (by omega)]
    exact h2 q
/-- one row, the law's own way -/
theorem prod_row2 {i j : Nat} (h6 : S.fs[i]? = some ⟨"_law_two_marks", ct_later_mark, []⟩) (h7 : S.fs[j]? = some ⟨"_law_best", ct_dbest, []⟩) {n : Nat} {u : List (List Mark)} {d e q : D} {s3 : Sl} {r : List Mark} (h10 : n ≤ 10) (he : TabD e u) (un : u.length = n) (ur : ∀ r ∈ u, r.length = n) (rl : Seq q (msS r)) (rn : r.length = n) {K : List D → Rho → Prop}
    (hK : K (msS ((List.range n).map fun j => bestM ((List.range n).map fun m => laterM (gM r m) (cellM u m j)))) [Sl.fz d, .fz e, .fz (.lst ((List.range n).map fun k => D.int (k : Nat))), s3, .fz q, .no, .no]) :
    compD [5] (Tg.nm 5) (iTs S (fun x x_1 => False) Cs.nil) (iE S (fun x x_1 => False) (C.call j (Cs.cons (C.comp [(Str.ofString "_law_k", 6)] (Tg.nm 6) (Src.seq (C.var 2)) Cs.nil (C.call i (Cs.cons ((C.var 4).ix (C.var 6)) (Cs.cons (((C.var 1).ix (C.var 6)).ix (C.var 5)) Cs.nil)))) Cs.nil)))
      (List.map (fun i => D.int (i : Nat)) (List.range n)) [] [Sl.fz d, Sl.fz e, .fz (.lst ((List.range n).map fun k => D.int (k : Nat))), s3, Sl.fz q, Sl.no, Sl.no] K := by
  refine comp_map (l := List.range n) (fun k => D.int (k : Nat)) (fun j => D.str (bestM ((List.range n).map fun m => laterM (gM r m) (cellM u m j))).s) (by simp; omega) rfl (fun _ => rfl) rfl (fun j' hj Q2 hQ2 => ?_) ?_
  · have hj := List.mem_range.mp hj
    simp [↓ ze_callh h7 rfl]
    refine comp_map (l := List.range n) (fun k => D.int (k : Nat)) (fun m => D.str (laterM (gM r m) (cellM u m j')).s) (by simp; omega) rfl (fun _ => rfl) rfl (fun m hm Q3 hQ3 => ?_) ?_
    · have hm := List.mem_range.mp hm
      obtain ⟨dr, er, sr⟩ := he.row (i := m) (by omega)
      have eu : (gR u m).length = n := ur _ (by unfold gR; rw [List.getElem?_eq_getElem (by omega)]; exact List.getElem_mem _)
      simp [↓ ze_callh h6 rfl, ↓ ix_row rl (show m < r.length by omega), ↓ er, ↓ ix_row sr (show j' < (gR u m).length by omega)]
      rw [cl_later]
      exact hQ3 _ (.inl rfl)
    · refine cl_dbest (ms := (List.range n).map fun m => laterM (gM r m) (cellM u m j')) (.inl (by simp [msS, Function.comp_def])) (by simp; omega) ?_
      exact hQ2 _ (.inl rfl)
  · simpa [msS, Function.comp_def] using hK
theorem h_law_times {i j : Nat} (h6 : S.fs[i]? = some ⟨"_law_two_marks", ct_later_mark, []⟩) (h7 : S.fs[j]? = some ⟨"_law_best", ct_dbest, []⟩) : Body S ct_product (b_law_times (i_law_two_marks := i) (i_law_best := j)) N_law_times P_law_times := by
  rintro Xd bag args Kd hn ⟨n, t, u, d, e, rfl, h10, hd, he, ⟨tn, tr⟩, ⟨un, ur⟩, hk⟩
  simp [b_law_times, N_law_times, P_law_times, ct_product, ↓ hd.len]
  have hd' := hd
  obtain ⟨l, hs, rfl, hl⟩ := hd'
  simp [itm_seq hs, tn]
  have ln : l.length = n := by simpa using tn
  refine ⟨by omega, ?_⟩
  let rw1 : D × List Mark → D := fun p => D.tup (msS ((List.range n).map fun j => bestM ((List.range n).map fun m => laterM (gM p.2 m) (cellM u m j))))
  refine forD_list (fun r ρ => ∃ (dn l' : List (D × List Mark)) (s2 s4 : Sl), l = dn ++ l' ∧ r = l'.map (·.1) ∧ (s2 = Sl.ow false ((List.range n).map fun k => D.int (k : Nat)) ∨ s2 = .fz (.lst ((List.range n).map fun k => D.int (k : Nat)))) ∧ opS s4 = true ∧ ρ = [Sl.fz d, .fz e, s2, .ow false (dn.map rw1), s4, .no, .no]) ?_ ?_ _ _ ⟨[], l, _, .no, rfl, rfl, .inl rfl, rfl, rfl⟩
  · rintro x r ρ E' ⟨dn, l', s2, s4, e1, e2, h2, o4, rfl⟩ hn hc hr hb
    obtain ⟨p, l', rfl, rfl, rfl⟩ := map_cons_inv e2
    have hp : p ∈ l := by rw [e1]; simp
    have rl := hl p hp
    have rn : p.2.length = n := tr _ (List.mem_map.mpr ⟨p, hp, rfl⟩)
    have e3 : l.length = dn.length + (l'.length + 1) := by rw [e1]; simp
    rcases h2 with rfl | rfl
    all_goals
      simp [o4]
      refine prod_row2 h6 h7 h10 he un ur rl rn ?_
      simp
      exact ⟨Nat.lt_of_lt_of_le (m := 1001) (by omega) (by decide), hn _ ⟨dn ++ [p], l', _, .fz p.1, by rw [e1]; simp, rfl, .inr rfl, rfl, by simp [rw1]⟩⟩
  · rintro ρ ⟨dn, l', s2, s4, e1, e2, h2, o4, rfl⟩
    have := map_nil_inv e2
    subst this
    have e1 : l = dn := by simpa using e1
    subst e1
    simp
    have e : tabT (prodM n (l.map (·.2)) u) = D.tup (l.map rw1) := by simp [tabT, prodM, Function.comp_def, rw1]
    rw [e] at hk
    exact hk
def stillM (n : Nat) : List (List Mark) := (List.range n).map fun a => (List.range n).map fun b => if a = b then .keep else .shut
def ct_still : Ct := ⟨false, 1, fun _ _ a K => ∃ n : Nat, a = [.int n] ∧ n ≤ 10 ∧ K (.d (tabT (stillM n))) []⟩
theorem cl_still {n : Nat} (hn : n ≤ 10) (h : K (.v (tabT (stillM n)))) : clK ct_still [.int n] X K := ⟨rfl, n, rfl, hn, h⟩
theorem h_law_still : Body S ct_still b_law_still N_law_still P_law_still := by
  rintro Xd bag args Kd hn ⟨n, rfl, h10, hk⟩
  simp [b_law_still, N_law_still, P_law_still, ct_still]
  refine ⟨by omega, comp_map (l := List.range n) (fun k => D.int (k : Nat)) (fun a => D.tup (msS ((List.range n).map fun b => if a = b then .keep else .shut))) (by simp; omega) rfl (fun _ => rfl) rfl (fun a ha Q hQ => ?_) ?_⟩
  · simp
    refine ⟨by omega, comp_map (l := List.range n) (fun k => D.int (k : Nat)) (fun b => D.str (if a = b then Mark.keep else .shut).s) (by simp; omega) rfl (fun _ => rfl) rfl (fun b hb Q2 hQ2 => ?_) ?_⟩
    · simp
      by_cases q : a = b
      · subst q
        have e0 : atI [D.str (Str.ofString "shut"), D.str (Str.ofString "keep")] 1 = some (.str "keep") := rfl
        simp [e0]
        exact hQ2 _ (.inl (by simp [Mark.s, Mark.t]))
      · have q2 : ¬ (a : Int) = (b : Int) := by omega
        have e0 : atI [D.str (Str.ofString "shut"), D.str (Str.ofString "keep")] 0 = some (.str "shut") := rfl
        simp [q2, e0]
        exact hQ2 _ (.inl (by simp [q, Mark.s, Mark.t]))
    · refine hQ _ (.inl ?_)
      simp [msS, Function.comp_def]
  · have e : tabT (stillM n) = .tup ((List.range n).map fun a => .tup (msS ((List.range n).map fun b => if a = b then .keep else .shut))) := by simp [tabT, stillM, Function.comp_def]
    rw [e] at hk
    exact hk
def ct_law_marks : Ct := ⟨true, 1, fun _ bag a K => ∃ n : Nat, a = [.int n] ∧ n ≤ 10 ∧ BagOk bag ∧ ∀ t bag', Sqr n t → BagOk bag' → K (.d (tabT t)) bag'⟩
def msL (ms : List Mark) : D := .lst (msS ms)
theorem comp_bag {of : Nat} (h2 : S.fs[of]? = some ⟨"_law_of", ct_law_of, []⟩) {xp : XP} {m : Nat} (hm : m ≤ 1000) {bag : List D} (hb : BagOk bag) {s1 s2 s4 : Sl} {some : List Mark} (h0 : 0 < some.length) (h9 : some.length < 10) {K : List D → Rho → Prop} (ds0 : List D) (hl : ds0.length = m)
    (k : ∀ (ds : List Mark) bag', ds.length = m → BagOk bag' → K (msS ds) [.ow true bag', s1, s2, .fz (msL some), s4, .no]) :
    compD [5] (Tg.nm 5) (iTs S xp Cs.nil) (iE S xp (C.callm of 0 (Cs.cons (C.var 3) Cs.nil))) ds0 [] [.ow true bag, s1, s2, .fz (msL some), s4, .no] K := by
  refine compD_list (fun r acc ρ => ∃ (ds : List Mark) (bag' : List D), acc = msS ds ∧ ds.length + r.length = m ∧ BagOk bag' ∧ ρ = [.ow true bag', s1, s2, .fz (msL some), s4, .no]) ?_ ?_ _ _ _ ⟨[], bag, rfl, by simpa using hl, hb, rfl⟩
  · rintro d r acc ρ Q ⟨ds, bag', rfl, hm', hb', rfl⟩ hQ
    simp [↓ ze_callmh h2 rfl]
    refine clM_of (by simpa [msS] using h0) (by simp [msS]; omega) hb' (.inl rfl) fun x bag'' hx hb'' => ?_
    obtain ⟨d', _, rfl⟩ := List.mem_map.mp hx
    simp at hm' ⊢
    refine ⟨?_, hQ _ _ ⟨ds ++ [d'], bag'', by simp [msS], by simp; omega, hb'', rfl⟩⟩
    simp only [msS, List.length_map]
    exact Nat.lt_of_lt_of_le (show ds.length < 1000 by omega) (sz 1000 (Nat.le_refl _))
  · rintro acc ρ ⟨ds, bag', rfl, hm', hb', rfl⟩
    exact k ds bag' (by simpa using hm') hb'
theorem h_law_marks {a1 a2 a3 a4 : Nat} (h1 : S.fs[a1]? = some ⟨"_law_pull", ct_law_pull, []⟩) (h2 : S.fs[a2]? = some ⟨"_law_of", ct_law_of, []⟩) (h3 : S.fs[a3]? = some ⟨"_law_marks_all", ct_marks_all, []⟩) (h4 : S.fs[a4]? = some ⟨"_law_deeds_all", ct_deeds_all, []⟩) :
    Body S ct_law_marks (b_law_marks (i_law_pull := a1) (i_law_of := a2) (i_law_marks_all := a3) (i_law_deeds_all := a4)) N_law_marks P_law_marks := by
  rintro Xd bag args Kd hn ⟨n, rfl, h10, hb, hk⟩
  simp [b_law_marks, N_law_marks, P_law_marks, ct_law_marks, ↓ ze_callmh h1 rfl, ↓ ze_callmh h2 rfl, ↓ ze_callh h3 rfl, ↓ ze_callh h4 rfl, ↓ clM_pull (show (0 : Int) < 4 by decide) (show (4 : Int) < 2 ^ 127 by decide) hb]
  intro r1 bag1 r1a r1b hb1
  refine cl_marks ?_
  simp
  refine cl_deeds ?_
  simp
  obtain ⟨x, e, hx⟩ := at_in [msL [.brim, .fill, .keep, .cent, .coin, .dear, .shut], msL [.shut, .cent, .fill], msL [.shut, .keep, .coin], msL [.keep, .cent, .fill, .coin, .brim]] r1a r1b
  have hx : ∃ some : List Mark, x = msL some ∧ 0 < some.length ∧ some.length < 10 := by
    simp only [List.mem_cons, List.not_mem_nil, or_false] at hx
    rcases hx with rfl | rfl | rfl | rfl <;> exact ⟨_, rfl, by decide, by decide⟩
  obtain ⟨some, rfl, s0, s9⟩ := hx
  refine ⟨_, e, ?_⟩
  simp
  refine ⟨by omega, compD_list (fun r acc ρ => ∃ (dn : List (List Mark)) (bag' : List D), acc = dn.map (fun r => D.tup (msS r)) ∧ (∀ r ∈ dn, r.length = n) ∧ dn.length + r.length = n ∧ BagOk bag' ∧ ρ = [Sl.ow true bag', .fz (.int n), .fz (.int r1), .fz (msL some), .no, .no]) ?_ ?_ _ _ _ ⟨[], bag1, rfl, (fun r hr => by cases hr), by simp, hb1, rfl⟩⟩
  · rintro d r acc ρ Q ⟨dn, bag', rfl, hr, hl, hb', rfl⟩ hQ
    simp
    refine ⟨by omega, comp_bag h2 (m := n) (by omega) hb' s0 s9 _ (by simp) fun row bag2 rl hb2 => ?_⟩
    simp at hl ⊢
    refine ⟨Nat.lt_of_lt_of_le (m := 1001) (by omega) (by decide), hQ _ _ ⟨dn ++ [row], bag2, by simp, fun r hm => ?_, by simp; omega, hb2, rfl⟩⟩
    rcases List.mem_append.mp hm with hm | hm
    · exact hr r hm
    · rw [List.mem_singleton.mp hm]; exact rl
  · rintro acc ρ ⟨dn, bag', rfl, hr, hl, hb', rfl⟩
    simp
    exact hk dn bag' ⟨by simpa using hl, hr⟩ hb'
end
end MX
end DL

/-! EMs: steady tables, raised ones. -/
namespace DL
namespace MX
open PySem L2 DH
theorem okE_tab (t : List (List Mark)) : okE 2 (tabT t) = true := by
  simp only [okE, tabT, List.all_map, List.all_eq_true]
  intro r _
  simp only [Function.comp, okE, msS, List.all_map, List.all_eq_true]
  intro m _
  cases m <;> decide +kernel
theorem eqv_ms : ∀ a b : List Mark, PyData.eqvAll (pys (msS a)) (pys (msS b)) = decide (a = b)
  | [], [] => rfl
  | [], _ :: _ => rfl
  | _ :: _, [] => rfl
  | x :: a, y :: b => by
    have ih := eqv_ms a b
    show (PyData.eqv (py (.str x.s)) (py (.str y.s)) && PyData.eqvAll (pys (msS a)) (pys (msS b))) = _
    rw [ih]
    have e : PyData.eqv (py (.str x.s)) (py (.str y.s)) = decide (x = y) := by
      show (x.s == y.s) = decide (x = y)
      by_cases h : x = y
      · subst h; simp
      · have : ¬ x.s = y.s := fun q => h (Mark.s_inj q)
        simp [h, this]
    rw [e]
    by_cases h : x = y <;> by_cases h2 : a = b <;> simp [h, h2]
theorem eqv_tabs : ∀ a b : List (List Mark), PyData.eqvAll (pys (a.map fun r => .tup (msS r))) (pys (b.map fun r => .tup (msS r))) = decide (a = b)
  | [], [] => rfl
  | [], _ :: _ => rfl
  | _ :: _, [] => rfl
  | x :: a, y :: b => by
    have ih := eqv_tabs a b
    show (PyData.eqvAll (pys (msS x)) (pys (msS y)) && PyData.eqvAll (pys (a.map fun r => .tup (msS r))) (pys (b.map fun r => .tup (msS r)))) = _
    rw [ih, eqv_ms]
    by_cases h : x = y <;> by_cases h2 : a = b <;> simp [h, h2]
theorem eqD_tab {t u : List (List Mark)} {K : Bool → Prop} : eqD (tabT t) (tabT u) K = K (decide (t = u)) := by
  obtain ⟨a1, a2, a3, _⟩ := okE_of 2 _ (okE_tab t)
  obtain ⟨b1, b2, b3, _⟩ := okE_of 2 _ (okE_tab u)
  have s1 : SeqAt.shaped (py (tabT t)) = true := by unfold SeqAt.shaped; rw [a2]; simpa using Nat.le_trans a3 (by decide)
  have s2 : SeqAt.shaped (py (tabT u)) = true := by unfold SeqAt.shaped; rw [b2]; simpa using Nat.le_trans b3 (by decide)
  have e : PyData.eqv (py (tabT t)) (py (tabT u)) = decide (t = u) := eqv_tabs t u
  show ((bare (tabT t) = true ∧ bare (tabT u) = true ∧ SeqAt.shaped (py (tabT t)) = true ∧ SeqAt.shaped (py (tabT u)) = true) ∧ K (PyData.eqv (py (tabT t)) (py (tabT u)))) = _
  rw [e]
  exact propext ⟨fun h => h.2, fun h => ⟨⟨a1, b1, s1, s2⟩, h⟩⟩
def wideM (n : Nat) (t : List (List Mark)) : List (List Mark) := t.map fun r => (List.range n).map fun m => laterM (gM r m) (oftenM (cellM t m m))
def raisedM (n : Nat) (t : List (List Mark)) : List (List Mark) := prodM n (wideM n t) t
theorem sqr_wide {n : Nat} {t : List (List Mark)} (h : Sqr n t) : Sqr n (wideM n t) := ⟨by simp [wideM, h.1], fun r hr => by
  obtain ⟨q, _, rfl⟩ := List.mem_map.mp hr
  simp⟩
def btabX (c : Nat) : Xn := ⟨c, [("word", .str "badtable")]⟩
abbrev BtabAt (S : Sg) (c : Nat) : Prop := S.cs[c]? = some (("BadTable" : Str), ("badtable" : Str))
theorem told_btab {c : Nat} {cs : List (Str × Str)} {K : D → Prop} (h : cs[c]? = some (("BadTable" : Str), ("badtable" : Str))) : toldX cs (btabX c) K = K (.tup [.str "badtable", .non]) := toldX_n h (by decide +kernel) rfl
def ct_is_steady : Ct := ⟨false, 1, fun _ _ a K => ∃ (n : Nat) (t : List (List Mark)), a = [tabT t] ∧ n ≤ 10 ∧ Sqr n t ∧ K (.d (.bl (decide (prodM n t t = t)))) []⟩
def ct_steady_raised : Ct := ⟨false, 1, fun _ _ a K => ∃ (n : Nat) (t : List (List Mark)), a = [tabT t] ∧ n ≤ 10 ∧ Sqr n t ∧ K (.d (tabT (raisedM n t))) []⟩
def ct_raised (c : Nat) : Ct := ⟨false, 1, fun X _ a K => ∃ (n : Nat) (t : List (List Mark)), a = [tabT t] ∧ n ≤ 10 ∧ Sqr n t ∧ (prodM n t t = t → K (.d (tabT (raisedM n t))) []) ∧ (prodM n t t ≠ t → X (btabX c) [])⟩
section
variable {S : Sg} {X : Xn → Prop} {K : R → Prop} {c : Nat}
theorem cl_is_steady {n : Nat} {t : List (List Mark)} (hn : n ≤ 10) (ht : Sqr n t) (h : K (.v (.bl (decide (prodM n t t = t))))) : clK ct_is_steady [tabT t] X K := ⟨rfl, n, t, rfl, hn, ht, h⟩
theorem tcl_is_steady {n : Nat} {t : List (List Mark)} {K : Bool → Prop} (hn : n ≤ 10) (ht : Sqr n t) (h : K (decide (prodM n t t = t))) : tclK ct_is_steady [tabT t] X K := ⟨rfl, n, t, rfl, hn, ht, h⟩
theorem cl_steady_raised {n : Nat} {t : List (List Mark)} (hn : n ≤ 10) (ht : Sqr n t) (h : K (.v (tabT (raisedM n t)))) : clK ct_steady_raised [tabT t] X K := ⟨rfl, n, t, rfl, hn, ht, h⟩
theorem cl_raised {n : Nat} {t : List (List Mark)} (hn : n ≤ 10) (ht : Sqr n t) (h1 : prodM n t t = t → K (.v (tabT (raisedM n t)))) (h2 : prodM n t t ≠ t → X (btabX c)) : clK (ct_raised c) [tabT t] X K := ⟨rfl, n, t, rfl, hn, ht, h1, h2⟩
theorem h_is_steady {i : Nat} (h8 : S.fs[i]? = some ⟨"product", ct_product, []⟩) : Body S ct_is_steady (b_is_steady (i_product := i)) N_is_steady P_is_steady := by
  rintro Xd bag args Kd hn ⟨n, t, rfl, h10, ht, hk⟩
  simp [b_is_steady, N_is_steady, P_is_steady, ct_is_steady, ↓ ze_callh h8 rfl]
  refine cl_product h10 (tabD_T t) (tabD_T t) ht ht ?_
  simp
  rw [eqD_tab]
  exact hk
theorem h_raised {i j : Nat} (h8 : S.fs[i]? = some ⟨"steady_raised", ct_steady_raised, []⟩) (h9 : S.fs[j]? = some ⟨"is_steady", ct_is_steady, []⟩) (c0 : BtabAt S c) : Body S (ct_raised c) (b_raised (i_steady_raised := i) (i_is_steady := j) (c_BadTable := c)) N_raised P_raised := by
  rintro Xd bag args Kd hn ⟨n, t, rfl, h10, ht, h1, h2⟩
  simp [b_raised, N_raised, P_raised, ct_raised, ↓ zt_callh h9 rfl, ↓ ze_callh h8 rfl, ↓ zs_raiseh c0]
  refine tcl_is_steady h10 ht ?_
  by_cases q : prodM n t t = t
  · rw [if_pos (by simpa using q)]
    exact cl_steady_raised h10 ht (h1 q)
  · rw [if_neg (by simpa using q)]
    exact h2 q
theorem h_steady_raised {i j k : Nat} (h6 : S.fs[i]? = some ⟨"later_mark", ct_later_mark, []⟩) (h7 : S.fs[j]? = some ⟨"often_mark", ct_often_mark, []⟩) (h8 : S.fs[k]? = some ⟨"product", ct_product, []⟩) : Body S ct_steady_raised (b_steady_raised (i_later_mark := i) (i_often_mark := j) (i_product := k)) N_steady_raised P_steady_raised := by
  rintro Xd bag args Kd hn ⟨n, t, rfl, h10, ht, hk⟩
  have hd := tabD_T t
  obtain ⟨tn, tr⟩ := ht
  simp [b_steady_raised, N_steady_raised, P_steady_raised, ct_steady_raised, ↓ hd.len, tn]
  have hd' := hd
  obtain ⟨l, hs, el, hl⟩ := hd'
  have ln : l.length = n := by rw [← tn, el, List.length_map]
  have tk : ∀ m, m < n → ∀ {K : R → Prop}, ∃ dr, (∀ {K : R → Prop}, ixR (tabT t) (.int (m : Nat)) K = K (.v dr)) ∧ Seq dr (msS (gR t m)) ∧ (gR t m).length = n := fun m hm K => by
    obtain ⟨dr, er, sr⟩ := hd.row (i := m) (by omega)
    exact ⟨dr, er, sr, tr _ (by unfold gR; rw [List.getElem?_eq_getElem (by omega)]; exact List.getElem_mem _)⟩
  refine ⟨by omega, comp_map (l := List.range n) (fun k => D.int (k : Nat)) (fun m => D.str (oftenM (cellM t m m)).s) (by simp; omega) rfl (fun _ => rfl) rfl (fun m hm Q hQ => ?_) ?_⟩
  · have hm := List.mem_range.mp hm
    obtain ⟨dr, er, sr, lr⟩ := tk m hm (K := fun _ => True)
    simp [↓ er, ↓ ix_row sr (show m < (gR t m).length by omega), ↓ ze_callh h7 rfl]
    rw [cl_often]
    exact hQ _ (.inl rfl)
  · simp [itm_seq hs]
    refine comp_map (l := l) (·.1) (fun p => D.lst (msS ((List.range n).map fun m => laterM (gM p.2 m) (oftenM (cellM t m m))))) (by omega) rfl (fun _ => rfl) rfl (fun p hp Q hQ => ?_) ?_
    · have rl := hl p hp
      have rn : p.2.length = n := tr _ (by rw [el]; exact List.mem_map.mpr ⟨p, hp, rfl⟩)
      simp
      refine comp_map (l := List.range n) (fun k => D.int (k : Nat)) (fun m => D.str (laterM (gM p.2 m) (oftenM (cellM t m m))).s) (by simp; omega) rfl (fun _ => rfl) rfl (fun m hm Q2 hQ2 => ?_) ?_
      · have hm := List.mem_range.mp hm
        have e1 : ((List.range n).map fun m => D.str (oftenM (cellM t m m)).s)[m]? = some (.str (oftenM (cellM t m m)).s) := by simp [hm]
        simp [↓ ix_row rl (show m < p.2.length by omega), ↓ ix_sq (.inl rfl) e1, ↓ ze_callh h6 rfl]
        rw [cl_later]
        exact hQ2 _ (.inl rfl)
      · exact hQ _ (.inr ⟨_, rfl, by simp [msS, Function.comp_def]⟩)
    · simp [↓ ze_callh h8 rfl]
      refine cl_product (t := wideM n t) (u := t) h10 ⟨l.map fun p => (D.lst (msS ((List.range n).map fun m => laterM (gM p.2 m) (oftenM (cellM t m m)))), (List.range n).map fun m => laterM (gM p.2 m) (oftenM (cellM t m m))), .inl (by simp [Function.comp_def]), by rw [wideM]; simp only [List.map_map]; rw [el, List.map_map]; rfl, fun p hp => ?_⟩ hd (sqr_wide ⟨tn, tr⟩) ⟨tn, tr⟩ hk
      obtain ⟨q, _, rfl⟩ := List.mem_map.mp hp
      exact .inl rfl
theorem h_law_raised {i j k : Nat} (h6 : S.fs[i]? = some ⟨"_law_two_marks", ct_later_mark, []⟩) (h7 : S.fs[j]? = some ⟨"_law_often", ct_often_mark, []⟩) (h8 : S.fs[k]? = some ⟨"_law_times", ct_product, []⟩) : Body S ct_steady_raised (b_law_raised (i_law_two_marks := i) (i_law_often := j) (i_law_times := k)) N_law_raised P_law_raised := by
  rintro Xd bag args Kd hn ⟨n, t, rfl, h10, ht, hk⟩
  have hd := tabD_T t
  obtain ⟨tn, tr⟩ := ht
  simp [b_law_raised, N_law_raised, P_law_raised, ct_steady_raised, ↓ hd.len, tn]
  have hd' := hd
  obtain ⟨l, hs, el, hl⟩ := hd'
  have ln : l.length = n := by rw [← tn, el, List.length_map]
  have tk : ∀ m, m < n → ∃ dr, (∀ {K : R → Prop}, ixR (tabT t) (.int (m : Nat)) K = K (.v dr)) ∧ Seq dr (msS (gR t m)) ∧ (gR t m).length = n := fun m hm => by
    obtain ⟨dr, er, sr⟩ := hd.row (i := m) (by omega)
    exact ⟨dr, er, sr, tr _ (by unfold gR; rw [List.getElem?_eq_getElem (by omega)]; exact List.getElem_mem _)⟩
  simp [itm_seq hs]
  refine ⟨by omega, comp_mapP (l := l) (fun ρ => ∃ s1, (s1 = Sl.ow false ((List.range n).map fun k => D.int (k : Nat)) ∨ s1 = .fz (.lst ((List.range n).map fun k => D.int (k : Nat)))) ∧ ρ = [Sl.fz (tabT t), s1, .no, .no, .no]) (·.1)
    (fun p => D.tup (msS ((List.range n).map fun m => laterM (gM p.2 m) (oftenM (cellM t m m))))) (by omega) (fun ρ ⟨s2, _, h⟩ => by rw [h]; rfl) ⟨_, .inl rfl, rfl⟩ (fun p hp ρ ⟨s1, h1, hρ⟩ Q hQ => ?_) (fun ρ ⟨s1, h1, hρ⟩ => ?_)⟩
  · have rl := hl p hp
    have rn : p.2.length = n := tr _ (by rw [el]; exact List.mem_map.mpr ⟨p, hp, rfl⟩)
    subst hρ
    rcases h1 with rfl | rfl
    all_goals
      simp
      refine comp_map (l := List.range n) (fun k => D.int (k : Nat)) (fun m => D.str (laterM (gM p.2 m) (oftenM (cellM t m m))).s) (by simp; omega) rfl (fun _ => rfl) rfl (fun m hm Q2 hQ2 => ?_) ?_
      · have hm := List.mem_range.mp hm
        obtain ⟨dr, er, sr, lr⟩ := tk m hm
        simp [↓ ix_row rl (show m < p.2.length by omega), ↓ er, ↓ ix_row sr (show m < (gR t m).length by omega), ↓ ze_callh h6 rfl, ↓ ze_callh h7 rfl]
        rw [cl_often]
        simp
        rw [cl_later]
        exact hQ2 _ (.inl rfl)
      · simp
        exact hQ _ _ (.inl (by simp [msS, Function.comp_def])) rfl ⟨_, .inr rfl, rfl⟩
  · subst hρ
    simp [↓ ze_callh h8 rfl]
    refine cl_product (t := wideM n t) (u := t) h10 ⟨l.map fun p => (D.tup (msS ((List.range n).map fun m => laterM (gM p.2 m) (oftenM (cellM t m m)))), (List.range n).map fun m => laterM (gM p.2 m) (oftenM (cellM t m m))), .inl (by simp [Function.comp_def]), by rw [wideM]; simp only [List.map_map]; rw [el, List.map_map]; rfl, fun p hp => ?_⟩ hd (sqr_wide ⟨tn, tr⟩) ⟨tn, tr⟩ hk
    obtain ⟨q, _, rfl⟩ := List.mem_map.mp hp
    exact .inr rfl
end
end MX
end DL

/-! EMr: plain laws of tables: a raised steady table is steady, and raised it is itself. -/
namespace DL
namespace MX
open PySem L2 DH
theorem bestM_is (ms : List Mark) : betterI (bestM ms).s ∈ (6 :: ms.map fun m => betterI m.s) ∧ ∀ y ∈ (6 :: ms.map fun m => betterI m.s), betterI (bestM ms).s ≤ y := by
  obtain ⟨b, e, h1, h2⟩ := best_is ms
  rw [bestM_s] at e
  rw [e]
  exact ⟨h1, h2⟩
/-- the rank in which the best is the least -/
def brk : Mark → Nat
  | .brim => 0 | .fill => 1 | .keep => 2 | .cent => 3 | .coin => 4 | .dear => 5 | .shut => 6
theorem brk_is (m : Mark) : betterI m.s = (brk m : Int) := by cases m <;> rfl
theorem brk_inj {a b : Mark} (h : brk a = brk b) : a = b := by
  revert h
  cases a <;> cases b <;> first | exact fun _ => rfl | (intro h; exact absurd h (by decide))
abbrev ble (a b : Mark) : Prop := brk a ≤ brk b
theorem bst_le {n : Nat} (f : Nat → Mark) {m : Nat} (h : m < n) : ble (bestM ((List.range n).map f)) (f m) := by
  have k := (bestM_is ((List.range n).map f)).2 (betterI (f m).s) (List.mem_cons_of_mem _ (List.mem_map.mpr ⟨f m, List.mem_map.mpr ⟨m, List.mem_range.mpr h, rfl⟩, rfl⟩))
  rw [brk_is, brk_is] at k
  exact Int.ofNat_le.mp k
theorem bst_mem {n : Nat} (f : Nat → Mark) (h : 0 < n) : ∃ m, m < n ∧ bestM ((List.range n).map f) = f m := by
  rcases List.mem_cons.mp (bestM_is ((List.range n).map f)).1 with e | e
  · refine ⟨0, h, brk_inj ?_⟩
    have k := bst_le f h
    rw [brk_is] at e
    have e : brk (bestM ((List.range n).map f)) = 6 := by omega
    have : brk (f 0) ≤ 6 := by cases f 0 <;> decide
    have k : brk (bestM ((List.range n).map f)) ≤ brk (f 0) := k
    omega
  · obtain ⟨y, hy, e⟩ := List.mem_map.mp e
    obtain ⟨m, hm, rfl⟩ := List.mem_map.mp hy
    refine ⟨m, List.mem_range.mp hm, brk_inj ?_⟩
    have e : betterI (f m).s = betterI (bestM ((List.range n).map f)).s := e
    rw [brk_is, brk_is] at e
    omega
theorem bst_glb {n : Nat} (f : Nat → Mark) (x : Mark) (h : ∀ m, m < n → ble x (f m)) (h0 : 0 < n) : ble x (bestM ((List.range n).map f)) := by
  obtain ⟨m, hm, e⟩ := bst_mem f h0
  rw [e]
  exact h m hm
theorem lat_mono {a a' b b' : Mark} (h1 : ble a a') (h2 : ble b b') : ble (laterM a b) (laterM a' b') := by
  have s1 : ble (laterM a b) (laterM a' b) := by
    revert h1
    cases a <;> cases a' <;> cases b <;> first | exact fun _ => by decide | (intro h; exact absurd h (by decide))
  have s2 : ble (laterM a' b) (laterM a' b') := by
    revert h2
    cases a' <;> cases b <;> cases b' <;> first | exact fun _ => by decide | (intro h; exact absurd h (by decide))
  exact Nat.le_trans s1 s2
theorem oft_mono {a b : Mark} (h : ble a b) : ble (oftenM a) (oftenM b) := by
  revert h
  cases a <;> cases b <;> first | exact fun _ => by decide | (intro h; exact absurd h (by decide))
theorem oft_ge (a : Mark) : ble a (oftenM a) := by cases a <;> decide
theorem ble_refl (a : Mark) : ble a a := Nat.le_refl _
theorem alg1 (a b x : Mark) : laterM (laterM (laterM a (oftenM x)) x) (laterM (laterM x (oftenM x)) b) = laterM (laterM a (oftenM x)) b := by cases a <;> cases b <;> cases x <;> rfl
theorem alg2 (a b x : Mark) : laterM (laterM (laterM (laterM a (oftenM x)) x) (oftenM (laterM (laterM x (oftenM x)) x))) (laterM (laterM x (oftenM x)) b) = laterM (laterM a (oftenM x)) b := by cases a <;> cases b <;> cases x <;> rfl
theorem alg3 (a b c d : Mark) : laterM (laterM a (laterM b c)) d = laterM a (laterM b (laterM c d)) := by cases a <;> cases b <;> cases c <;> cases d <;> rfl
theorem lat_assoc (a b c : Mark) : laterM (laterM a b) c = laterM a (laterM b c) := by cases a <;> cases b <;> cases c <;> rfl
section
variable {n : Nat} {t u : List (List Mark)}
theorem gR_at (h : Sqr n t) {i : Nat} (hi : i < n) : (gR t i).length = n := h.2 _ (by unfold gR; rw [List.getElem?_eq_getElem (by rw [h.1]; exact hi)]; exact List.getElem_mem _)
theorem cell_prod (h : Sqr n t) {i j : Nat} (hi : i < n) (hj : j < n) : cellM (prodM n t u) i j = bestM ((List.range n).map fun m => laterM (cellM t i m) (cellM u m j)) := by
  have hi' : i < t.length := by rw [h.1]; exact hi
  simp [cellM, gR, prodM, gM, hi', hj]
theorem cell_wide (h : Sqr n t) {i j : Nat} (hi : i < n) (hj : j < n) : cellM (wideM n t) i j = laterM (cellM t i j) (oftenM (cellM t j j)) := by
  have hi' : i < t.length := by rw [h.1]; exact hi
  simp [cellM, gR, wideM, gM, hi', hj]
theorem ext_tab (ht : Sqr n t) (hu : Sqr n u) (h : ∀ i j, i < n → j < n → cellM t i j = cellM u i j) : t = u := by
  refine List.ext_getElem (by rw [ht.1, hu.1]) fun i h1 h2 => ?_
  have hi : i < n := by rw [← ht.1]; exact h1
  have l1 : (t[i]).length = n := ht.2 _ (List.getElem_mem _)
  have l2 : (u[i]).length = n := hu.2 _ (List.getElem_mem _)
  refine List.ext_getElem (by rw [l1, l2]) fun j k1 k2 => ?_
  have hj : j < n := by rw [← l1]; exact k1
  have := h i j hi hj
  simpa [cellM, gR, gM, h1, h2, k1, k2] using this
theorem sqr_prod (h : Sqr n t) : Sqr n (prodM n t u) := ⟨by simp [prodM, h.1], fun r hr => by
  obtain ⟨q, _, rfl⟩ := List.mem_map.mp hr
  simp⟩
/-- the raised one's cells -/
theorem cell_raised (h : Sqr n t) {i j : Nat} (hi : i < n) (hj : j < n) : cellM (raisedM n t) i j = bestM ((List.range n).map fun k => laterM (laterM (cellM t i k) (oftenM (cellM t k k))) (cellM t k j)) := by
  unfold raisedM
  rw [cell_prod (sqr_wide h) hi hj]
  congr 1
  refine List.map_congr_left fun m hm => ?_
  rw [cell_wide h hi (List.mem_range.mp hm)]
theorem sqr_raised (h : Sqr n t) : Sqr n (raisedM n t) := sqr_prod (sqr_wide h)
theorem raised_le (h : Sqr n t) {i j k : Nat} (hi : i < n) (hj : j < n) (hk : k < n) : ble (cellM (raisedM n t) i j) (laterM (laterM (cellM t i k) (oftenM (cellM t k k))) (cellM t k j)) := by
  rw [cell_raised h hi hj]
  exact bst_le (fun k => laterM (laterM (cellM t i k) (oftenM (cellM t k k))) (cellM t k j)) hk
theorem steady_le (h : Sqr n t) (hs : prodM n t t = t) {i j k : Nat} (hi : i < n) (hj : j < n) (hk : k < n) : ble (cellM t i j) (laterM (cellM t i k) (cellM t k j)) := by
  have e := cell_prod (u := t) h hi hj
  rw [hs] at e
  rw [e]
  exact bst_le (fun k => laterM (cellM t i k) (cellM t k j)) hk
/-- E_mj is no worse than a raised way's part -/
theorem steady_oft (h : Sqr n t) (hs : prodM n t t = t) {m j l : Nat} (hm : m < n) (hj : j < n) (hl : l < n) : ble (cellM t m j) (laterM (laterM (cellM t m l) (oftenM (cellM t l l))) (cellM t l j)) :=
  Nat.le_trans (steady_le h hs hm hj hl) (lat_mono (Nat.le_trans (steady_le h hs hm hl hl) (lat_mono (ble_refl _) (oft_ge _))) (ble_refl _))
theorem raised_steady (h : Sqr n t) (hs : prodM n t t = t) : prodM n (raisedM n t) (raisedM n t) = raisedM n t := by
  have hr := sqr_raised h
  refine ext_tab (sqr_prod hr) hr fun i j hi hj => brk_inj (Nat.le_antisymm ?_ ?_)
  · rw [cell_raised h hi hj]
    refine bst_glb _ _ (fun k hk => ?_) (by omega)
    rw [cell_prod hr hi hj]
    refine Nat.le_trans (bst_le (fun m => laterM (cellM (raisedM n t) i m) (cellM (raisedM n t) m j)) hk) ?_
    refine Nat.le_trans (lat_mono (raised_le h hi hk hk) (raised_le h hk hj hk)) ?_
    rw [alg1]
    exact Nat.le_refl _
  · rw [cell_prod hr hi hj]
    refine bst_glb _ _ (fun m hm => ?_) (by omega)
    rw [cell_raised h hi hm, cell_raised h hm hj]
    obtain ⟨k, hk, e1⟩ := bst_mem (fun k => laterM (laterM (cellM t i k) (oftenM (cellM t k k))) (cellM t k m)) (show 0 < n by omega)
    obtain ⟨l, hl, e2⟩ := bst_mem (fun l => laterM (laterM (cellM t m l) (oftenM (cellM t l l))) (cellM t l j)) (show 0 < n by omega)
    rw [e1, e2]
    refine Nat.le_trans (raised_le h hi hj hk) ?_
    rw [lat_assoc (laterM (cellM t i k) (oftenM (cellM t k k))) (cellM t k m)]
    exact lat_mono (ble_refl _) (Nat.le_trans (steady_le h hs hk hj hm) (lat_mono (ble_refl _) (steady_oft h hs hm hj hl)))
theorem raised_twice (h : Sqr n t) (hs : prodM n t t = t) : raisedM n (raisedM n t) = raisedM n t := by
  have hr := sqr_raised h
  have rs := raised_steady h hs
  refine ext_tab (sqr_raised hr) hr fun i j hi hj => brk_inj (Nat.le_antisymm ?_ ?_)
  · rw [cell_raised h hi hj]
    refine bst_glb _ _ (fun k hk => ?_) (by omega)
    refine Nat.le_trans (raised_le hr hi hj hk) ?_
    refine Nat.le_trans (lat_mono (lat_mono (raised_le h hi hk hk) (oft_mono (raised_le h hk hk hk))) (raised_le h hk hj hk)) ?_
    rw [alg2]
    exact Nat.le_refl _
  · rw [cell_raised hr hi hj]
    refine bst_glb _ _ (fun k hk => ?_) (by omega)
    exact steady_oft hr rs hi hj hk
end
end MX
end DL

/-! E21: law k21. -/
namespace DL
namespace L21
open PySem L2 MX
def top (i : Nat) : Stmt := PySem.Challenge.pw_onepurse_k21_steady_tables_raised.main.body.getD i (.Pass ⟨0, 0, 0, 0⟩)
/-- law(_law_script) -/
def N_law : List Str := ["_law_script", "_law_bag_here", "_law_turn", "_law_table", "_law_powers", "_law_k", "_law_one", "_law_steady", "_law_found"]
def P_law : List Str := ["_law_script"]
def b_law (i_raised i_is_steady i_same2 i_law_raised i_law_times i_law_marks i_law_pull i_law_bag : Nat) : Ss := .cons (.set 1 (.call i_law_bag (.cons (.var 0) .nil))) (
  .cons (.for (.nm 2) (.rng1 (.int 6)) (.cons (.set 3 (.callm i_law_marks 1 (.cons (.bin .add (.int 1) (.callm i_law_pull 1 (.cons (.int 5) .nil))) .nil))) (
    .cons (.set 4 (.lst (.cons (.var 3) .nil))) (
    .cons (.for (.nm 5) (.rng1 (.int 12)) (.cons (.app 4 (.call i_law_times (.cons (.ix (.var 4) (.neg (.int 1))) (.cons (.var 3) .nil)))) .nil)) (
    .cons (.for (.nm 6) (.seq (.bin .add (.bin .add (.sl (.var 4) .no (.so (.int 2))) (.sl (.var 4) (.so (.int 5)) (.so (.int 7)))) (.lst (.cons (.ix (.var 4) (.int 11)) .nil)))) (.cons (.set 7 (.cmp .eq (.call i_law_times (.cons (.var 6) (.cons (.var 6) .nil))) (.var 6))) (
      .cons (.ife (.not (.call i_same2 (.cons (.call i_is_steady (.cons (.var 6) .nil)) (.cons (.var 7) .nil)))) (.cons (.ret (.bl false)) .nil) (.nil)) (
      .cons (.ife (.not (.var 7)) (.cons (.ife (.cmp .ne (.told [6] [] (.call i_raised (.cons (.var 6) .nil))) (.tup (.cons (.str "badtable") (.cons .non .nil)))) (.cons (.ret (.bl false)) .nil) (.nil)) .nil) (.cons (.set 8 (.call i_raised (.cons (.var 6) .nil))) (
        .cons (.ife (.not (.call i_same2 (.cons (.var 8) (.cons (.call i_law_raised (.cons (.var 6) .nil)) .nil)))) (.cons (.ret (.bl false)) .nil) (.nil)) (
        .cons (.ife (.or (.cmp .isnot (.call i_is_steady (.cons (.var 8) .nil)) (.bl true)) (.one (.cmp .ne (.call i_raised (.cons (.var 8) .nil)) (.var 8)))) (.cons (.ret (.bl false)) .nil) (.nil)) .nil)))) .nil)))) .nil))))) (
  .cons (.ret (.bl true)) .nil))
def gv1 : List (Str × D) := [("LATER", .kd [("keep", .int 0), ("cent", .int 1), ("fill", .int 2), ("coin", .int 3), ("brim", .int 4), ("dear", .int 5), ("shut", .int 6)]), ("BETTER", .kd [("brim", .int 0), ("fill", .int 1), ("keep", .int 2), ("cent", .int 3), ("coin", .int 4), ("dear", .int 5), ("shut", .int 6)])]
def cs1 : List (Str × Str) := [("BadTable", "badtable")]
section
variable {S : Sg} {X : Xn → List D → Prop} {K : R → List D → Prop}
structure Law21 (S : Sg) (bag pull same steady raised lraised ltimes marks : Nat) : Prop where
  c : BtabAt S 0
  h0 : S.fs[bag]? = some ⟨"_law_bag", ct_law_bag, []⟩
  h1 : S.fs[pull]? = some ⟨"_law_pull", ct_law_pull, []⟩
  hs : S.fs[same]? = some ⟨"_law_same", ct_same 2, []⟩
  hi : S.fs[steady]? = some ⟨"is_steady", ct_is_steady, []⟩
  hr : S.fs[raised]? = some ⟨"raised", ct_raised 0, []⟩
  hlr : S.fs[lraised]? = some ⟨"_law_raised", ct_steady_raised, []⟩
  hlt : S.fs[ltimes]? = some ⟨"_law_times", ct_product, []⟩
  hm : S.fs[marks]? = some ⟨"_law_marks", ct_law_marks, []⟩
theorem clM_marks {n : Nat} {bag : List D} (hn : n ≤ 10) (hb : BagOk bag) (h : ∀ t bag', Sqr n t → BagOk bag' → K (.v (tabT t)) bag') : clM ct_law_marks bag [.int n] X K := ⟨rfl, n, rfl, hn, hb, h⟩
theorem okD_tab {n : Nat} {t : List (List Mark)} (hn : n ≤ 10) (h : Sqr n t) : okD 2 (tabT t) = true := by
  have l1 : t.length ≤ sizeLine := Nat.le_trans (m := 10) (by rw [h.1]; exact hn) (by decide)
  simp only [okD, tabT, List.length_map, List.all_map, Bool.and_eq_true, decide_eq_true_eq, List.all_eq_true]
  refine ⟨l1, fun r hr => ?_⟩
  simp only [Function.comp, okD, msS, List.length_map, List.all_map, Bool.and_eq_true, decide_eq_true_eq, List.all_eq_true]
  exact ⟨Nat.le_trans (m := 10) (by rw [h.2 r hr]; exact hn) (by decide), fun m _ => by cases m <;> decide +kernel⟩
theorem cut_tabs (ts : List (List (List Mark))) (lo hi : Option Int) : ∃ us : List (List (List Mark)), cutD (ts.map tabT) lo hi = us.map tabT ∧ (∀ t, t ∈ us → t ∈ ts) ∧ us.length ≤ ts.length := by
  unfold cutD
  rw [List.length_map, ← List.map_drop, ← List.map_take]
  exact ⟨_, rfl, fun t ht => List.mem_of_mem_drop (List.mem_of_mem_take ht), by simp; omega⟩
theorem at_last {α : Type} {xs : List α} (h : 0 < xs.length) : ∃ x, atI xs (-1) = some x ∧ x ∈ xs := by
  refine ⟨xs[xs.length - 1], ?_, List.getElem_mem _⟩
  have e : ixN xs.length (-1) = some (xs.length - 1) := by
    unfold ixN
    rw [if_neg (by decide), if_pos (by omega)]
    congr 1
    omega
  unfold atI
  rw [e]
  exact List.getElem?_eq_getElem _
def Fr (ns : List Int) (ρ : Rho) : Prop := ∃ bag s2 s3 s4 s5 s6 s7 s8, ρ = [Sl.fz (.scr ns), .ow false bag, s2, s3, s4, s5, s6, s7, s8] ∧ BagOk bag ∧ opS s2 = true ∧ opS s3 = true ∧ opS s4 = true ∧ opS s5 = true ∧ opS s6 = true ∧ opS s7 = true ∧ opS s8 = true
theorem h_law {bag pull same steady raised lraised ltimes marks : Nat} (L : Law21 S bag pull same steady raised lraised ltimes marks) (ns : List Int) :
    iSs S (fun _ _ => False) (b_law (i_raised := raised) (i_is_steady := steady) (i_same2 := same) (i_law_raised := lraised) (i_law_times := ltimes) (i_law_marks := marks) (i_law_pull := pull) (i_law_bag := bag))
      (.fz (.scr ns) :: List.replicate (N_law.length - 1) Sl.no) { nx := fun _ => False, rt := fun r _ => r = .v (.bl true) } := by
  simp [b_law, N_law, ↓ ze_callh L.h0 rfl]
  refine cl_law_bag fun bag hb => ?_
  simp
  refine forD_list (fun r ρ => Fr ns ρ) ?_ ?_ _ _ ⟨bag, .no, .no, .no, .no, .no, .no, .no, rfl, hb, rfl, rfl, rfl, rfl, rfl, rfl, rfl⟩
  · rintro d r ρ E' ⟨bag, s2, s3, s4, s5, s6, s7, s8, rfl, hb, o2, o3, o4, o5, o6, o7, o8⟩ hn hc hr hbk
    simp [o2, ↓ ze_callmh L.h1 rfl, ↓ ze_callmh L.hm rfl, ↓ clM_pull (show (0 : Int) < 5 by decide) (show (5 : Int) < 2 ^ 127 by decide) hb]
    intro r1 bag1 r1a r1b hb1
    obtain ⟨n, e, n1, n5⟩ : ∃ n : Nat, 1 + r1 = (n : Int) ∧ 1 ≤ n ∧ n ≤ 5 := ⟨(1 + r1).toNat, by omega, by omega, by omega⟩
    have n10 : n ≤ 10 := by omega
    simp [e, o3]
    refine clM_marks n10 hb1 fun t bag2 ht hb2 => ?_
    simp [o3, o4]
    -- the powers
    refine forD_list (fun r ρ => ∃ (ps : List (List (List Mark))) (s5 : Sl), ps.length + r.length = 13 ∧ ps ≠ [] ∧ (∀ u ∈ ps, Sqr n u) ∧ opS s5 = true ∧ ρ = [Sl.fz (.scr ns), .ow false bag2, .fz d, .fz (tabT t), .ow false (ps.map tabT), s5, s6, s7, s8]) ?_ ?_ _ _ ⟨[t], s5, by simp, by simp, by simpa using ht, o5, rfl⟩
    · rintro d1 r1' ρ E1 ⟨ps, s5, hl, hne, hq, o5, rfl⟩ hn1 hc1 hr1 hbk1
      simp [o5, ↓ ze_callh L.hlt rfl]
      obtain ⟨u, e1, hu⟩ := at_last (xs := ps) (List.length_pos_iff.mpr hne)
      have e2 : atI (ps.map tabT) (-1) = some (tabT u) := by
        obtain ⟨x, e3, hx⟩ := at_last (xs := ps.map tabT) (by simpa using List.length_pos_iff.mpr hne)
        have e4 : atI (ps.map tabT) (-1) = (atI ps (-1)).map tabT := by unfold atI; rw [List.length_map]; cases ixN ps.length (-1) <;> simp
        rw [e4, e1]
        rfl
      refine ⟨_, e2, cl_product n10 (tabD_T u) (tabD_T t) (hq u hu) ht ?_⟩
      simp at hl
      simp
      exact ⟨Nat.lt_of_lt_of_le (m := 1001) (by omega) (by decide), hn1 _ ⟨ps ++ [prodM n u t], .fz d1, by simp; omega, by simp, fun x hx => (List.mem_append.mp hx).elim (hq x) (fun hx => by rw [List.mem_singleton.mp hx]; exact sqr_prod (hq u hu)), rfl, by simp⟩⟩
    · rintro ρ ⟨ps, s5, hl, hne, hq, o5, rfl⟩
      simp at hl
      simp
      obtain ⟨p1, c1, m1, l1⟩ := cut_tabs ps none (Option.some 2)
      obtain ⟨p2, c2, m2, l2⟩ := cut_tabs ps (Option.some 5) (Option.some 7)
      obtain ⟨x, e1, hx⟩ := at_in (ps.map tabT) (i := 11) (by decide) (by simp; omega)
      obtain ⟨u, hu, rfl⟩ := List.mem_map.mp hx
      have s1 : ∀ n, n ≤ 1000 → n ≤ sizeLine := fun n h => Nat.le_trans h (by decide)
      refine ⟨s1 _ (by rw [c1, c2]; simp; omega), _, e1, s1 _ (by rw [c1, c2]; simp; omega), ?_⟩
      have ec : cutD (ps.map tabT) none (some 2) ++ (cutD (ps.map tabT) (some 5) (some 7) ++ [tabT u]) = (p1 ++ (p2 ++ [u])).map tabT := by rw [c1, c2]; simp
      rw [ec]
      refine forD_list (fun r ρ => ∃ (l : List (List (List Mark))) (s6 s7 s8 : Sl), r = l.map tabT ∧ (∀ u ∈ l, Sqr n u) ∧ opS s6 = true ∧ opS s7 = true ∧ opS s8 = true ∧ ρ = [Sl.fz (.scr ns), .ow false bag2, .fz d, .fz (tabT t), .ow false (ps.map tabT), s5, s6, s7, s8]) ?_ ?_ _ _ ⟨_, s6, s7, s8, rfl, fun y hy => ?_, o6, o7, o8, rfl⟩
      · rintro d2 r2 ρ E2 ⟨l, s6, s7, s8, e2, hq2, o6, o7, o8, rfl⟩ hn2 hc2 hr2 hbk2
        obtain ⟨v, l', rfl, rfl, rfl⟩ := map_cons_inv e2
        have hv := hq2 v List.mem_cons_self
        simp [o6, ↓ ze_callh L.hlt rfl]
        refine cl_product n10 (tabD_T v) (tabD_T v) hv hv ?_
        simp
        rw [eqD_tab]
        simp [o7, ↓ zt_callh L.hs rfl, ↓ ze_callh L.hi rfl]
        refine cl_is_steady n10 hv ?_
        simp [↓ tcl_same (n := 2) (d := .bl (decide (prodM n v v = v))) rfl]
        by_cases q : prodM n v v = v
        · rw [if_pos q]
          simp [↓ ze_callh L.hr rfl]
          refine cl_raised n10 hv (fun _ => ?_) (fun z => absurd q z)
          have hw := sqr_raised hv
          simp [o8, ↓ ze_callh L.hlr rfl]
          refine cl_steady_raised n10 hv ?_
          simp [↓ tcl_same (okD_tab n10 hw), ↓ ze_callh L.hi rfl]
          refine cl_is_steady n10 hw ?_
          simp [raised_steady hv q, ↓ ze_callh L.hr rfl]
          refine cl_raised n10 hw (fun _ => ?_) (fun z => absurd (raised_steady hv q) z)
          rw [raised_twice hv q]
          simp
          rw [eqD_tab]
          simp
          exact hn2 _ ⟨l', _, _, _, rfl, fun x hx => hq2 x (List.mem_cons_of_mem _ hx), rfl, rfl, rfl, rfl⟩
        · rw [if_neg q]
          simp [↓ ze_callh L.hr rfl]
          refine cl_raised n10 hv (fun z => absurd z q) (fun _ => ?_)
          rw [told_btab L.c]
          have e3 : ∀ {K : Bool → Prop}, eqD (D.tup [D.str "badtable", D.non]) (D.tup [D.str "badtable", D.non]) K = K true := fun {K} => eqD_ok (n := 1) (by decide) (by decide +kernel)
          rw [e3]
          simp
          exact hn2 _ ⟨l', _, _, s8, rfl, fun x hx => hq2 x (List.mem_cons_of_mem _ hx), rfl, rfl, o8, rfl⟩
      · rintro ρ ⟨l, s6, s7, s8, e2, hq2, o6, o7, o8, rfl⟩
        exact hn _ ⟨bag2, _, _, _, s5, s6, s7, s8, rfl, hb2, rfl, rfl, rfl, o5, o6, o7, o8⟩
      · rcases List.mem_append.mp hy with hy | hy
        · exact hq y (m1 y hy)
        · rcases List.mem_append.mp hy with hy | hy
          · exact hq y (m2 y hy)
          · rw [List.mem_singleton.mp hy]; exact hq u hu
  · rintro ρ ⟨bag, s2, s3, s4, s5, s6, s7, s8, rfl, hb, o2, o3, o4, o5, o6, o7, o8⟩
    simp
end
end L21
end DL

namespace DL
namespace L21
open MX
open PySem PySem.Spec PyProof.Rows L2 LamX DH
def meth (s : Stmt) : Stmt := match s with | .ClassDef _ _ _ b _ _ _ _ _ _ _ => b.getD 0 (.Pass ⟨0, 0, 0, 0⟩) | _ => .Pass ⟨0, 0, 0, 0⟩
abbrev st_PE : Stmt := meth (top 1)
theorem sc_PE : FnScope ["self", "word"] ["self", "word"] (defScope st_PE) := ⟨rfl, rfl, rfl, by decide +kernel, rfl, by decide +kernel, by decide +kernel⟩
abbrev st_c0 : Stmt := meth (top 9)
theorem sc_c0 : FnScope ["self"] ["self"] (defScope st_c0) := ⟨rfl, rfl, rfl, by decide +kernel, rfl, by decide +kernel, by decide +kernel⟩
abbrev st_told : Stmt := top 43
abbrev st_kind : Stmt := top 42
abbrev F0 : List FnE := []
abbrev F1 : List FnE := F0 ++ [⟨"_law_bag", ct_law_bag, []⟩]
abbrev F2 : List FnE := F1 ++ [⟨"_law_pull", ct_law_pull, []⟩]
abbrev F3 : List FnE := F2 ++ [⟨"_law_of", ct_law_of, []⟩]
abbrev F4 : List FnE := F3 ++ [⟨"_law_same", ct_nil, []⟩]
abbrev F5 : List FnE := F4 ++ [⟨"_law_same", ct_same 0, []⟩]
abbrev F6 : List FnE := F5 ++ [⟨"_law_same", ct_same 1, []⟩]
abbrev F7 : List FnE := F6 ++ [⟨"_law_same", ct_same 2, []⟩]
abbrev F8 : List FnE := F7 ++ [⟨"later_mark", ct_later_mark, []⟩]
abbrev F9 : List FnE := F8 ++ [⟨"best_mark", ct_best_mark, []⟩]
abbrev F10 : List FnE := F9 ++ [⟨"often_mark", ct_often_mark, []⟩]
abbrev F11 : List FnE := F10 ++ [⟨"product", ct_product, []⟩]
abbrev F12 : List FnE := F11 ++ [⟨"steady_raised", ct_steady_raised, []⟩]
abbrev F13 : List FnE := F12 ++ [⟨"is_steady", ct_is_steady, []⟩]
abbrev F14 : List FnE := F13 ++ [⟨"raised", ct_raised 0, []⟩]
abbrev F15 : List FnE := F14 ++ [⟨"_law_deeds_all", ct_deeds_all, []⟩]
abbrev F16 : List FnE := F15 ++ [⟨"_law_marks_all", ct_marks_all, []⟩]
abbrev F17 : List FnE := F16 ++ [⟨"_law_two_marks", ct_later_mark, []⟩]
abbrev F18 : List FnE := F17 ++ [⟨"_law_best", ct_dbest, []⟩]
abbrev F19 : List FnE := F18 ++ [⟨"_law_often", ct_often_mark, []⟩]
abbrev F20 : List FnE := F19 ++ [⟨"_law_times", ct_product, []⟩]
abbrev F21 : List FnE := F20 ++ [⟨"_law_raised", ct_steady_raised, []⟩]
abbrev F22 : List FnE := F21 ++ [⟨"_law_marks", ct_law_marks, []⟩]
abbrev F23 : List FnE := F22 ++ [⟨"law", ct_nil, []⟩]
abbrev sT_law_bag : Stmt := top 38
theorem sc_law_bag : FnScope N_law_bag P_law_bag (defScope sT_law_bag) := ⟨rfl, rfl, rfl, by decide +kernel, rfl, by decide +kernel, by decide +kernel⟩
theorem q_law_bag : (defScope sT_law_bag).names.lookup ("_law_told" : Str) ≠ some .globalImplicit := by decide +kernel
theorem m0 : mSs ⟨gv1, F0, cs1⟩ N_law_bag (defScope sT_law_bag) (b_law_bag) (defBody sT_law_bag) = true := by decide +kernel
abbrev sT_law_pull : Stmt := top 39
theorem sc_law_pull : FnScope N_law_pull P_law_pull (defScope sT_law_pull) := ⟨rfl, rfl, rfl, by decide +kernel, rfl, by decide +kernel, by decide +kernel⟩
theorem q_law_pull : (defScope sT_law_pull).names.lookup ("_law_told" : Str) ≠ some .globalImplicit := by decide +kernel
theorem m1 : mSs ⟨gv1, F1, cs1⟩ N_law_pull (defScope sT_law_pull) (b_law_pull) (defBody sT_law_pull) = true := by decide +kernel
abbrev sT_law_of : Stmt := top 40
theorem sc_law_of : FnScope N_law_of P_law_of (defScope sT_law_of) := ⟨rfl, rfl, rfl, by decide +kernel, rfl, by decide +kernel, by decide +kernel⟩
theorem q_law_of : (defScope sT_law_of).names.lookup ("_law_told" : Str) ≠ some .globalImplicit := by decide +kernel
theorem m2 : mSs ⟨gv1, F2, cs1⟩ N_law_of (defScope sT_law_of) (b_law_of) (defBody sT_law_of) = true := by decide +kernel
abbrev sT_law_same : Stmt := top 41
theorem sc_law_same : FnScope N_law_same P_law_same (defScope sT_law_same) := ⟨rfl, rfl, rfl, by decide +kernel, rfl, by decide +kernel, by decide +kernel⟩
theorem q_law_same : (defScope sT_law_same).names.lookup ("_law_told" : Str) ≠ some .globalImplicit := by decide +kernel
theorem m4 : mSs ⟨gv1, F4, cs1⟩ N_law_same (defScope sT_law_same) (b_law_same 3) (defBody sT_law_same) = true := by decide +kernel
theorem m5 : mSs ⟨gv1, F5, cs1⟩ N_law_same (defScope sT_law_same) (b_law_same 4) (defBody sT_law_same) = true := by decide +kernel
theorem m6 : mSs ⟨gv1, F6, cs1⟩ N_law_same (defScope sT_law_same) (b_law_same 5) (defBody sT_law_same) = true := by decide +kernel
abbrev sT_later_mark : Stmt := top 29
theorem sc_later_mark : FnScope N_later_mark P_later_mark (defScope sT_later_mark) := ⟨rfl, rfl, rfl, by decide +kernel, rfl, by decide +kernel, by decide +kernel⟩
theorem q_later_mark : (defScope sT_later_mark).names.lookup ("_law_told" : Str) ≠ some .globalImplicit := by decide +kernel
theorem m7 : mSs ⟨gv1, F7, cs1⟩ N_later_mark (defScope sT_later_mark) (b_later_mark) (defBody sT_later_mark) = true := by decide +kernel
abbrev sT_best_mark : Stmt := top 30
theorem sc_best_mark : FnScope N_best_mark P_best_mark (defScope sT_best_mark) := ⟨rfl, rfl, rfl, by decide +kernel, rfl, by decide +kernel, by decide +kernel⟩
theorem q_best_mark : (defScope sT_best_mark).names.lookup ("_law_told" : Str) ≠ some .globalImplicit := by decide +kernel
abbrev sT_often_mark : Stmt := top 31
theorem sc_often_mark : FnScope N_often_mark P_often_mark (defScope sT_often_mark) := ⟨rfl, rfl, rfl, by decide +kernel, rfl, by decide +kernel, by decide +kernel⟩
theorem q_often_mark : (defScope sT_often_mark).names.lookup ("_law_told" : Str) ≠ some .globalImplicit := by decide +kernel
theorem m9 : mSs ⟨gv1, F9, cs1⟩ N_often_mark (defScope sT_often_mark) (b_often_mark) (defBody sT_often_mark) = true := by decide +kernel
abbrev sT_product : Stmt := top 33
theorem sc_product : FnScope MX.N_product MX.P_product (defScope sT_product) := ⟨rfl, rfl, rfl, by decide +kernel, rfl, by decide +kernel, by decide +kernel⟩
theorem q_product : (defScope sT_product).names.lookup ("_law_told" : Str) ≠ some .globalImplicit := by decide +kernel
theorem m10 : mSs ⟨gv1, F10, cs1⟩ MX.N_product (defScope sT_product) (MX.b_product (i_best_mark := 8) (i_later_mark := 7)) (defBody sT_product) = true := by decide +kernel
abbrev sT_steady_raised : Stmt := top 34
theorem sc_steady_raised : FnScope MX.N_steady_raised MX.P_steady_raised (defScope sT_steady_raised) := ⟨rfl, rfl, rfl, by decide +kernel, rfl, by decide +kernel, by decide +kernel⟩
theorem q_steady_raised : (defScope sT_steady_raised).names.lookup ("_law_told" : Str) ≠ some .globalImplicit := by decide +kernel
theorem m11 : mSs ⟨gv1, F11, cs1⟩ MX.N_steady_raised (defScope sT_steady_raised) (MX.b_steady_raised (i_product := 10) (i_later_mark := 7) (i_often_mark := 9)) (defBody sT_steady_raised) = true := by decide +kernel
abbrev sT_is_steady : Stmt := top 35
theorem sc_is_steady : FnScope MX.N_is_steady MX.P_is_steady (defScope sT_is_steady) := ⟨rfl, rfl, rfl, by decide +kernel, rfl, by decide +kernel, by decide +kernel⟩
theorem q_is_steady : (defScope sT_is_steady).names.lookup ("_law_told" : Str) ≠ some .globalImplicit := by decide +kernel
theorem m12 : mSs ⟨gv1, F12, cs1⟩ MX.N_is_steady (defScope sT_is_steady) (MX.b_is_steady (i_product := 10)) (defBody sT_is_steady) = true := by decide +kernel
abbrev sT_raised : Stmt := top 36
theorem sc_raised : FnScope MX.N_raised MX.P_raised (defScope sT_raised) := ⟨rfl, rfl, rfl, by decide +kernel, rfl, by decide +kernel, by decide +kernel⟩
theorem q_raised : (defScope sT_raised).names.lookup ("_law_told" : Str) ≠ some .globalImplicit := by decide +kernel
theorem m13 : mSs ⟨gv1, F13, cs1⟩ MX.N_raised (defScope sT_raised) (MX.b_raised (i_steady_raised := 11) (i_is_steady := 12) (c_BadTable := 0)) (defBody sT_raised) = true := by decide +kernel
abbrev sT_law_deeds_all : Stmt := top 44
theorem sc_law_deeds_all : FnScope MX.N_law_deeds_all MX.P_law_deeds_all (defScope sT_law_deeds_all) := ⟨rfl, rfl, rfl, by decide +kernel, rfl, by decide +kernel, by decide +kernel⟩
theorem q_law_deeds_all : (defScope sT_law_deeds_all).names.lookup ("_law_told" : Str) ≠ some .globalImplicit := by decide +kernel
theorem m14 : mSs ⟨gv1, F14, cs1⟩ MX.N_law_deeds_all (defScope sT_law_deeds_all) (MX.b_law_deeds_all ) (defBody sT_law_deeds_all) = true := by decide +kernel
abbrev sT_law_marks_all : Stmt := top 45
theorem sc_law_marks_all : FnScope MX.N_law_marks_all MX.P_law_marks_all (defScope sT_law_marks_all) := ⟨rfl, rfl, rfl, by decide +kernel, rfl, by decide +kernel, by decide +kernel⟩
theorem q_law_marks_all : (defScope sT_law_marks_all).names.lookup ("_law_told" : Str) ≠ some .globalImplicit := by decide +kernel
theorem m15 : mSs ⟨gv1, F15, cs1⟩ MX.N_law_marks_all (defScope sT_law_marks_all) (MX.b_law_marks_all ) (defBody sT_law_marks_all) = true := by decide +kernel
abbrev sT_law_two_marks : Stmt := top 46
theorem sc_law_two_marks : FnScope MX.N_law_two_marks MX.P_law_two_marks (defScope sT_law_two_marks) := ⟨rfl, rfl, rfl, by decide +kernel, rfl, by decide +kernel, by decide +kernel⟩
theorem q_law_two_marks : (defScope sT_law_two_marks).names.lookup ("_law_told" : Str) ≠ some .globalImplicit := by decide +kernel
theorem m16 : mSs ⟨gv1, F16, cs1⟩ MX.N_law_two_marks (defScope sT_law_two_marks) (MX.b_law_two_marks ) (defBody sT_law_two_marks) = true := by decide +kernel
abbrev sT_law_best2 : Stmt := top 47
theorem sc_law_best2 : FnScope MX.N_law_best2 MX.P_law_best2 (defScope sT_law_best2) := ⟨rfl, rfl, rfl, by decide +kernel, rfl, by decide +kernel, by decide +kernel⟩
theorem q_law_best2 : (defScope sT_law_best2).names.lookup ("_law_told" : Str) ≠ some .globalImplicit := by decide +kernel
theorem m17 : mSs ⟨gv1, F17, cs1⟩ MX.N_law_best2 (defScope sT_law_best2) (MX.b_law_best2 (i_law_marks_all := 15)) (defBody sT_law_best2) = true := by decide +kernel
abbrev sT_law_often : Stmt := top 48
theorem sc_law_often : FnScope MX.N_law_often MX.P_law_often (defScope sT_law_often) := ⟨rfl, rfl, rfl, by decide +kernel, rfl, by decide +kernel, by decide +kernel⟩
theorem q_law_often : (defScope sT_law_often).names.lookup ("_law_told" : Str) ≠ some .globalImplicit := by decide +kernel
theorem m18 : mSs ⟨gv1, F18, cs1⟩ MX.N_law_often (defScope sT_law_often) (MX.b_law_often ) (defBody sT_law_often) = true := by decide +kernel
abbrev sT_law_times : Stmt := top 49
theorem sc_law_times : FnScope MX.N_law_times MX.P_law_times (defScope sT_law_times) := ⟨rfl, rfl, rfl, by decide +kernel, rfl, by decide +kernel, by decide +kernel⟩
theorem q_law_times : (defScope sT_law_times).names.lookup ("_law_told" : Str) ≠ some .globalImplicit := by decide +kernel
theorem m19 : mSs ⟨gv1, F19, cs1⟩ MX.N_law_times (defScope sT_law_times) (MX.b_law_times (i_law_best := 17) (i_law_two_marks := 16)) (defBody sT_law_times) = true := by decide +kernel
abbrev sT_law_raised : Stmt := top 50
theorem sc_law_raised : FnScope MX.N_law_raised MX.P_law_raised (defScope sT_law_raised) := ⟨rfl, rfl, rfl, by decide +kernel, rfl, by decide +kernel, by decide +kernel⟩
theorem q_law_raised : (defScope sT_law_raised).names.lookup ("_law_told" : Str) ≠ some .globalImplicit := by decide +kernel
theorem m20 : mSs ⟨gv1, F20, cs1⟩ MX.N_law_raised (defScope sT_law_raised) (MX.b_law_raised (i_law_times := 19) (i_law_two_marks := 16) (i_law_often := 18)) (defBody sT_law_raised) = true := by decide +kernel
abbrev sT_law_marks : Stmt := top 51
theorem sc_law_marks : FnScope MX.N_law_marks MX.P_law_marks (defScope sT_law_marks) := ⟨rfl, rfl, rfl, by decide +kernel, rfl, by decide +kernel, by decide +kernel⟩
theorem q_law_marks : (defScope sT_law_marks).names.lookup ("_law_told" : Str) ≠ some .globalImplicit := by decide +kernel
theorem m21 : mSs ⟨gv1, F21, cs1⟩ MX.N_law_marks (defScope sT_law_marks) (MX.b_law_marks (i_law_of := 2) (i_law_deeds_all := 14) (i_law_marks_all := 15) (i_law_pull := 1)) (defBody sT_law_marks) = true := by decide +kernel
abbrev sT_law : Stmt := top 52
theorem sc_law : FnScope N_law P_law (defScope sT_law) := ⟨rfl, rfl, rfl, by decide +kernel, rfl, by decide +kernel, by decide +kernel⟩
theorem m22 : mSs ⟨gv1, F22, cs1⟩ N_law (defScope sT_law) (b_law (i_raised := 13) (i_is_steady := 12) (i_same2 := 6) (i_law_raised := 20) (i_law_times := 19) (i_law_marks := 21) (i_law_pull := 1) (i_law_bag := 0)) (defBody sT_law) = true := by decide +kernel
theorem all_mk {l : PySem.W.OpenLaw} {w : World} {K : PySem.W.Frag} {h : Heap} {mg : Str → Option Value} {fa : Addr} (X : K.In h) (G : h.Ns mainGlobals mg) (hfa : mg "law" = some (.ref fa))
    {f0 f1 f2 f3 f4 f5 f6 f7 f8 f9 f10 f11 f12 f13 f14 f15 f16 f17 f18 f19 d0 d1 e0 e1 e2 e3 e4 e5 e6 e7 e8 e9 e10 e11 e12 e13 e14 e15 e16 e17 e18 e19 e20 e21 e22 e23 e24 gT gK gB cc Pt cb1 Pb1 i0 : Addr}
    {od0 an0 : Option Addr} {sl0 : Array (Option Value)} {oc0 kV0 dc0 pm0 cd0 ct0 : Value}
    {od1 an1 : Option Addr} {sl1 : Array (Option Value)} {oc1 kV1 dc1 pm1 cd1 ct1 : Value}
    {od2 an2 : Option Addr} {sl2 : Array (Option Value)} {oc2 kV2 dc2 pm2 cd2 ct2 : Value}
    {od3 an3 : Option Addr} {sl3 : Array (Option Value)} {oc3 kV3 dc3 pm3 cd3 ct3 : Value}
    {od4 an4 : Option Addr} {sl4 : Array (Option Value)} {oc4 kV4 dc4 pm4 cd4 ct4 : Value}
    {od5 an5 : Option Addr} {sl5 : Array (Option Value)} {oc5 kV5 dc5 pm5 ct5 : Value}
    {od6 an6 : Option Addr} {sl6 : Array (Option Value)} {oc6 kV6 dc6 pm6 cd6 ct6 : Value}
    {od7 an7 : Option Addr} {sl7 : Array (Option Value)} {oc7 kV7 dc7 pm7 cd7 ct7 : Value}
    {od8 an8 : Option Addr} {sl8 : Array (Option Value)} {oc8 kV8 dc8 pm8 cd8 ct8 : Value}
    {od9 an9 : Option Addr} {sl9 : Array (Option Value)} {oc9 kV9 dc9 pm9 cd9 ct9 : Value}
    {od10 an10 : Option Addr} {sl10 : Array (Option Value)} {oc10 kV10 dc10 pm10 cd10 ct10 : Value}
    {od11 an11 : Option Addr} {sl11 : Array (Option Value)} {oc11 kV11 dc11 pm11 cd11 ct11 : Value}
    {od12 an12 : Option Addr} {sl12 : Array (Option Value)} {oc12 kV12 dc12 pm12 cd12 ct12 : Value}
    {od13 an13 : Option Addr} {sl13 : Array (Option Value)} {oc13 kV13 dc13 pm13 cd13 ct13 : Value}
    {od14 an14 : Option Addr} {sl14 : Array (Option Value)} {oc14 kV14 dc14 pm14 cd14 ct14 : Value}
    {od15 an15 : Option Addr} {sl15 : Array (Option Value)} {oc15 kV15 dc15 pm15 cd15 ct15 : Value}
    {od16 an16 : Option Addr} {sl16 : Array (Option Value)} {oc16 kV16 dc16 pm16 cd16 ct16 : Value}
    {od17 an17 : Option Addr} {sl17 : Array (Option Value)} {oc17 kV17 dc17 pm17 cd17 ct17 : Value}
    {od18 an18 : Option Addr} {sl18 : Array (Option Value)} {oc18 kV18 dc18 pm18 cd18 ct18 : Value}
    {od19 an19 : Option Addr} {sl19 : Array (Option Value)} {oc19 kV19 dc19 pm19 ct19 : Value}
    {odT anT : Option Addr} {slT : Array (Option Value)} {ocT kVT dcT pmT cdT ctT : Value}
    {odK anK : Option Addr} {slK : Array (Option Value)} {ocK kVK dcK pmK cdK ctK : Value}
    {odB anB : Option Addr} {slB : Array (Option Value)} {ocB kVB dcB pmB cdB ctB : Value}
    {nm0 q0 : Str} {N0 : Addr} {bs0 bm0 : List Value} {sn0 : List Str} {sub0 : List Value} {ab0 : Bool} {col0 : Option Bool} {dd0 : Option Addr} {k0_0 k0_1 k0_2 k0_3 k0_5 : Option Value}
    {odI0 anI0 : Option Addr} {slI0 : Array (Option Value)} {ocI0 kVI0 dcI0 pmI0 cdI0 ctI0 : Value}
    {dE0 : Array DictEntry} {dN0 : Nat}
    {dt0_0 dt0_1 dt0_2 dt0_3 dt0_4 dt0_5 dt0_6 : Tok}
    {dE1 : Array DictEntry} {dN1 : Nat}
    {dt1_0 dt1_1 dt1_2 dt1_3 dt1_4 dt1_5 dt1_6 : Tok}
    (a0 : PySem.W.nsIn K mainGlobals "_law_bag" = some (some (.ref f0)))
    (l0 : K.lookup f0 = some ⟨oc0, od0, .func (PySem.W.fnOf "_law_bag" "_law_bag" (defArgs sT_law_bag) (defBody sT_law_bag) (defScope sT_law_bag) .none kV0 dc0 pm0 an0 cd0 ct0), sl0⟩)
    (c0 : PySem.W.codeIn K cd0 "_law_bag" = true)
    (k0 : PySem.W.keepIn K (.ref f0) = true)
    (a1 : PySem.W.nsIn K mainGlobals "_law_pull" = some (some (.ref f1)))
    (l1 : K.lookup f1 = some ⟨oc1, od1, .func (PySem.W.fnOf "_law_pull" "_law_pull" (defArgs sT_law_pull) (defBody sT_law_pull) (defScope sT_law_pull) .none kV1 dc1 pm1 an1 cd1 ct1), sl1⟩)
    (c1 : PySem.W.codeIn K cd1 "_law_pull" = true)
    (k1 : PySem.W.keepIn K (.ref f1) = true)
    (a2 : PySem.W.nsIn K mainGlobals "_law_of" = some (some (.ref f2)))
    (l2 : K.lookup f2 = some ⟨oc2, od2, .func (PySem.W.fnOf "_law_of" "_law_of" (defArgs sT_law_of) (defBody sT_law_of) (defScope sT_law_of) .none kV2 dc2 pm2 an2 cd2 ct2), sl2⟩)
    (c2 : PySem.W.codeIn K cd2 "_law_of" = true)
    (k2 : PySem.W.keepIn K (.ref f2) = true)
    (a3 : PySem.W.nsIn K mainGlobals "_law_same" = some (some (.ref f3)))
    (l3 : K.lookup f3 = some ⟨oc3, od3, .func (PySem.W.fnOf "_law_same" "_law_same" (defArgs sT_law_same) (defBody sT_law_same) (defScope sT_law_same) .none kV3 dc3 pm3 an3 cd3 ct3), sl3⟩)
    (c3 : PySem.W.codeIn K cd3 "_law_same" = true)
    (k3 : PySem.W.keepIn K (.ref f3) = true)
    (a4 : PySem.W.nsIn K mainGlobals "later_mark" = some (some (.ref f4)))
    (l4 : K.lookup f4 = some ⟨oc4, od4, .func (PySem.W.fnOf "later_mark" "later_mark" (defArgs sT_later_mark) (defBody sT_later_mark) (defScope sT_later_mark) .none kV4 dc4 pm4 an4 cd4 ct4), sl4⟩)
    (c4 : PySem.W.codeIn K cd4 "later_mark" = true)
    (k4 : PySem.W.keepIn K (.ref f4) = true)
    (a5 : PySem.W.nsIn K mainGlobals "best_mark" = some (some (.ref f5)))
    (l5 : K.lookup f5 = some ⟨oc5, od5, .func (PySem.W.fnOf "best_mark" "best_mark" (defArgs sT_best_mark) (defBody sT_best_mark) (defScope sT_best_mark) .none kV5 dc5 pm5 an5 (.ref cb1) ct5), sl5⟩)
    (c5 : PySem.W.codeIn K (.ref cb1) "best_mark" = true)
    (k5 : PySem.W.keepIn K (.ref f5) = true)
    (a6 : PySem.W.nsIn K mainGlobals "often_mark" = some (some (.ref f6)))
    (l6 : K.lookup f6 = some ⟨oc6, od6, .func (PySem.W.fnOf "often_mark" "often_mark" (defArgs sT_often_mark) (defBody sT_often_mark) (defScope sT_often_mark) .none kV6 dc6 pm6 an6 cd6 ct6), sl6⟩)
    (c6 : PySem.W.codeIn K cd6 "often_mark" = true)
    (k6 : PySem.W.keepIn K (.ref f6) = true)
    (a7 : PySem.W.nsIn K mainGlobals "product" = some (some (.ref f7)))
    (l7 : K.lookup f7 = some ⟨oc7, od7, .func (PySem.W.fnOf "product" "product" (defArgs sT_product) (defBody sT_product) (defScope sT_product) .none kV7 dc7 pm7 an7 cd7 ct7), sl7⟩)
    (c7 : PySem.W.codeIn K cd7 "product" = true)
    (k7 : PySem.W.keepIn K (.ref f7) = true)
    (a8 : PySem.W.nsIn K mainGlobals "steady_raised" = some (some (.ref f8)))
    (l8 : K.lookup f8 = some ⟨oc8, od8, .func (PySem.W.fnOf "steady_raised" "steady_raised" (defArgs sT_steady_raised) (defBody sT_steady_raised) (defScope sT_steady_raised) .none kV8 dc8 pm8 an8 cd8 ct8), sl8⟩)
    (c8 : PySem.W.codeIn K cd8 "steady_raised" = true)
    (k8 : PySem.W.keepIn K (.ref f8) = true)
    (a9 : PySem.W.nsIn K mainGlobals "is_steady" = some (some (.ref f9)))
    (l9 : K.lookup f9 = some ⟨oc9, od9, .func (PySem.W.fnOf "is_steady" "is_steady" (defArgs sT_is_steady) (defBody sT_is_steady) (defScope sT_is_steady) .none kV9 dc9 pm9 an9 cd9 ct9), sl9⟩)
    (c9 : PySem.W.codeIn K cd9 "is_steady" = true)
    (k9 : PySem.W.keepIn K (.ref f9) = true)
    (a10 : PySem.W.nsIn K mainGlobals "raised" = some (some (.ref f10)))
    (l10 : K.lookup f10 = some ⟨oc10, od10, .func (PySem.W.fnOf "raised" "raised" (defArgs sT_raised) (defBody sT_raised) (defScope sT_raised) .none kV10 dc10 pm10 an10 cd10 ct10), sl10⟩)
    (c10 : PySem.W.codeIn K cd10 "raised" = true)
    (k10 : PySem.W.keepIn K (.ref f10) = true)
    (a11 : PySem.W.nsIn K mainGlobals "_law_deeds_all" = some (some (.ref f11)))
    (l11 : K.lookup f11 = some ⟨oc11, od11, .func (PySem.W.fnOf "_law_deeds_all" "_law_deeds_all" (defArgs sT_law_deeds_all) (defBody sT_law_deeds_all) (defScope sT_law_deeds_all) .none kV11 dc11 pm11 an11 cd11 ct11), sl11⟩)
    (c11 : PySem.W.codeIn K cd11 "_law_deeds_all" = true)
    (k11 : PySem.W.keepIn K (.ref f11) = true)
    (a12 : PySem.W.nsIn K mainGlobals "_law_marks_all" = some (some (.ref f12)))
    (l12 : K.lookup f12 = some ⟨oc12, od12, .func (PySem.W.fnOf "_law_marks_all" "_law_marks_all" (defArgs sT_law_marks_all) (defBody sT_law_marks_all) (defScope sT_law_marks_all) .none kV12 dc12 pm12 an12 cd12 ct12), sl12⟩)
    (c12 : PySem.W.codeIn K cd12 "_law_marks_all" = true)
    (k12 : PySem.W.keepIn K (.ref f12) = true)
    (a13 : PySem.W.nsIn K mainGlobals "_law_two_marks" = some (some (.ref f13)))
    (l13 : K.lookup f13 = some ⟨oc13, od13, .func (PySem.W.fnOf "_law_two_marks" "_law_two_marks" (defArgs sT_law_two_marks) (defBody sT_law_two_marks) (defScope sT_law_two_marks) .none kV13 dc13 pm13 an13 cd13 ct13), sl13⟩)
    (c13 : PySem.W.codeIn K cd13 "_law_two_marks" = true)
    (k13 : PySem.W.keepIn K (.ref f13) = true)
    (a14 : PySem.W.nsIn K mainGlobals "_law_best" = some (some (.ref f14)))
    (l14 : K.lookup f14 = some ⟨oc14, od14, .func (PySem.W.fnOf "_law_best" "_law_best" (defArgs sT_law_best2) (defBody sT_law_best2) (defScope sT_law_best2) .none kV14 dc14 pm14 an14 cd14 ct14), sl14⟩)
    (c14 : PySem.W.codeIn K cd14 "_law_best" = true)
    (k14 : PySem.W.keepIn K (.ref f14) = true)
    (a15 : PySem.W.nsIn K mainGlobals "_law_often" = some (some (.ref f15)))
    (l15 : K.lookup f15 = some ⟨oc15, od15, .func (PySem.W.fnOf "_law_often" "_law_often" (defArgs sT_law_often) (defBody sT_law_often) (defScope sT_law_often) .none kV15 dc15 pm15 an15 cd15 ct15), sl15⟩)
    (c15 : PySem.W.codeIn K cd15 "_law_often" = true)
    (k15 : PySem.W.keepIn K (.ref f15) = true)
    (a16 : PySem.W.nsIn K mainGlobals "_law_times" = some (some (.ref f16)))
    (l16 : K.lookup f16 = some ⟨oc16, od16, .func (PySem.W.fnOf "_law_times" "_law_times" (defArgs sT_law_times) (defBody sT_law_times) (defScope sT_law_times) .none kV16 dc16 pm16 an16 cd16 ct16), sl16⟩)
    (c16 : PySem.W.codeIn K cd16 "_law_times" = true)
    (k16 : PySem.W.keepIn K (.ref f16) = true)
    (a17 : PySem.W.nsIn K mainGlobals "_law_raised" = some (some (.ref f17)))
    (l17 : K.lookup f17 = some ⟨oc17, od17, .func (PySem.W.fnOf "_law_raised" "_law_raised" (defArgs sT_law_raised) (defBody sT_law_raised) (defScope sT_law_raised) .none kV17 dc17 pm17 an17 cd17 ct17), sl17⟩)
    (c17 : PySem.W.codeIn K cd17 "_law_raised" = true)
    (k17 : PySem.W.keepIn K (.ref f17) = true)
    (a18 : PySem.W.nsIn K mainGlobals "_law_marks" = some (some (.ref f18)))
    (l18 : K.lookup f18 = some ⟨oc18, od18, .func (PySem.W.fnOf "_law_marks" "_law_marks" (defArgs sT_law_marks) (defBody sT_law_marks) (defScope sT_law_marks) .none kV18 dc18 pm18 an18 cd18 ct18), sl18⟩)
    (c18 : PySem.W.codeIn K cd18 "_law_marks" = true)
    (k18 : PySem.W.keepIn K (.ref f18) = true)
    (a19 : PySem.W.nsIn K mainGlobals "law" = some (some (.ref f19)))
    (l19 : K.lookup f19 = some ⟨oc19, od19, .func (PySem.W.fnOf "law" "law" (defArgs sT_law) (defBody sT_law) (defScope sT_law) .none kV19 dc19 pm19 an19 (.ref cc) ct19), sl19⟩)
    (c19 : PySem.W.codeIn K (.ref cc) "law" = true)
    (k19 : PySem.W.keepIn K (.ref f19) = true)
    (aT : PySem.W.nsIn K mainGlobals "_law_told" = some (some (.ref gT)))
    (lT : K.lookup gT = some ⟨ocT, odT, .func (PySem.W.fnOf "_law_told" "_law_told" (defArgs st_told) (defBody st_told) (defScope st_told) .none kVT dcT pmT anT cdT ctT), slT⟩)
    (cT : PySem.W.codeIn K cdT "_law_told" = true)
    (kT : PySem.W.keepIn K (.ref gT) = true)
    (aK : PySem.W.nsIn K mainGlobals "_law_kind" = some (some (.ref gK)))
    (lK : K.lookup gK = some ⟨ocK, odK, .func (PySem.W.fnOf "_law_kind" "_law_kind" (defArgs st_kind) (defBody st_kind) (defScope st_kind) .none kVK dcK pmK anK cdK ctK), slK⟩)
    (cK : PySem.W.codeIn K cdK "_law_kind" = true)
    (kK : PySem.W.keepIn K (.ref gK) = true)
    (ae0 : PySem.W.nsIn K mainGlobals "BadMark" = some (some (.ref e0)))
    (ae1 : PySem.W.nsIn K mainGlobals "BadLetters" = some (some (.ref e1)))
    (ae2 : PySem.W.nsIn K mainGlobals "BadRoom" = some (some (.ref e2)))
    (ae3 : PySem.W.nsIn K mainGlobals "BadArrow" = some (some (.ref e3)))
    (ae4 : PySem.W.nsIn K mainGlobals "BadWord" = some (some (.ref e4)))
    (ae5 : PySem.W.nsIn K mainGlobals "BadSize" = some (some (.ref e5)))
    (ae6 : PySem.W.nsIn K mainGlobals "BadPattern" = some (some (.ref e6)))
    (ae7 : PySem.W.nsIn K mainGlobals "BadTable" = some (some (.ref e7)))
    (ae8 : PySem.W.nsIn K mainGlobals "BadTree" = some (some (.ref e8)))
    (ae9 : PySem.W.nsIn K mainGlobals "BadText" = some (some (.ref e9)))
    (ae10 : PySem.W.nsIn K mainGlobals "BadName" = some (some (.ref e10)))
    (ae11 : PySem.W.nsIn K mainGlobals "BadDeed" = some (some (.ref e11)))
    (ae12 : PySem.W.nsIn K mainGlobals "BadPage" = some (some (.ref e12)))
    (ae13 : PySem.W.nsIn K mainGlobals "Taken" = some (some (.ref e13)))
    (ae14 : PySem.W.nsIn K mainGlobals "Full" = some (some (.ref e14)))
    (ae15 : PySem.W.nsIn K mainGlobals "Unlike" = some (some (.ref e15)))
    (ae16 : PySem.W.nsIn K mainGlobals "NotDear" = some (some (.ref e16)))
    (ae17 : PySem.W.nsIn K mainGlobals "InUse" = some (some (.ref e17)))
    (ae18 : PySem.W.nsIn K mainGlobals "TooWide" = some (some (.ref e18)))
    (ae19 : PySem.W.nsIn K mainGlobals "NoArrow" = some (some (.ref e19)))
    (ae20 : PySem.W.nsIn K mainGlobals "NoName" = some (some (.ref e20)))
    (ae21 : PySem.W.nsIn K mainGlobals "NoTraveller" = some (some (.ref e21)))
    (ae22 : PySem.W.nsIn K mainGlobals "NothingLeft" = some (some (.ref e22)))
    (ae23 : PySem.W.nsIn K mainGlobals "PurseError" = some (some (.ref e23)))
    (ae24 : PySem.W.nsIn K mainGlobals "Missing" = some (some (.ref e24)))
    (fc : PySem.W.findCls K (.ref e23) (.type "type") "__init__" = some (.val (.ref gB)))
    (lB : K.lookup gB = some ⟨ocB, odB, .func (PySem.W.fnOf "__init__" "PurseError.__init__" (defArgs st_PE) (defBody st_PE) (defScope st_PE) .none kVB dcB pmB anB cdB ctB), slB⟩)
    (cB : PySem.W.codeIn K cdB "PurseError.__init__" = true)
    (kB : PySem.W.keepIn K (.ref gB) = true)
    (gs : PySem.W.specialIn K (.ref e23) "__getattribute__" = some (some (.builtin "type.__getattribute__")))
    (tm : PySem.W.typeIn K (.ref e23) = some (.type "type"))
    (rd : PySem.W.readsIn K e23 (.type "type") = true)
    (vV : PySem.W.findCls K (.type "ValueError") (.type "type") "__init__" = some (.val (.builtin "ValueError.__init__")))
    (zV : PySem.W.nsIn K mainGlobals "ValueError" = some none)
    (xC0 : K.lookup e7 = some (excClassObj nm0 q0 e7 N0 bs0 bm0 true sn0 sub0 ab0 col0 dd0 k0_0 k0_1 k0_2 k0_3 k0_5 "ValueError.__new__"))
    (rv0 : PySem.HandSPX.refsVE bm0 = true)
    (b0 : clsB K e7 = true)
    (kt0 : kitB K e7 "BadTable" [("BadMark", e0), ("BadLetters", e1), ("BadRoom", e2), ("BadArrow", e3), ("BadWord", e4), ("BadSize", e5), ("BadPattern", e6), ("BadTable", e7), ("BadTree", e8), ("BadText", e9), ("BadName", e10), ("BadDeed", e11), ("BadPage", e12), ("Taken", e13), ("Full", e14), ("Unlike", e15), ("NotDear", e16), ("InUse", e17), ("TooWide", e18), ("NoArrow", e19), ("NoName", e20), ("NoTraveller", e21), ("NothingLeft", e22), ("PurseError", e23), ("Missing", e24)] = true)
    (em0 : exmB K e7 "BadTable" (tcOf [("BadMark", e0), ("BadLetters", e1), ("BadRoom", e2), ("BadArrow", e3), ("BadWord", e4), ("BadSize", e5), ("BadPattern", e6), ("BadTable", e7), ("BadTree", e8), ("BadText", e9), ("BadName", e10), ("BadDeed", e11), ("BadPage", e12), ("Taken", e13), ("Full", e14), ("Unlike", e15), ("NotDear", e16), ("InUse", e17), ("TooWide", e18), ("NoArrow", e19), ("NoName", e20), ("NoTraveller", e21), ("NothingLeft", e22), ("PurseError", e23), ("Missing", e24)]) = true)
    (i10 : PySem.W.findIn K (.ref e7) "__init__" = some (some (.ref i0)))
    (i20 : PySem.W.typeIn K (.ref i0) = some (.type "function"))
    (lI0 : K.lookup i0 = some ⟨ocI0, odI0, .func (PySem.W.fnOf "__init__" "BadTable.__init__" (defArgs st_c0) (defBody st_c0) (defScope st_c0) .none kVI0 dcI0 pmI0 anI0 cdI0 ctI0), slI0⟩)
    (cI0 : PySem.W.codeIn K cdI0 "BadTable.__init__" = true)
    (kI0 : PySem.W.keepIn K (.ref i0) = true)
    (da0 : PySem.W.nsIn K mainGlobals "LATER" = some (some (.ref d0)))
    (dl0 : K.lookup d0 = some ⟨.type "dict", none, .dict dE0 dN0, #[]⟩)
    (dk0 : PySem.W.KeysLit w.params dE0.toList)
    (dv0_0 : PySem.W.nsIn K d0 "keep" = some (some (.int 0 dt0_0)))
    (dv0_1 : PySem.W.nsIn K d0 "cent" = some (some (.int 1 dt0_1)))
    (dv0_2 : PySem.W.nsIn K d0 "fill" = some (some (.int 2 dt0_2)))
    (dv0_3 : PySem.W.nsIn K d0 "coin" = some (some (.int 3 dt0_3)))
    (dv0_4 : PySem.W.nsIn K d0 "brim" = some (some (.int 4 dt0_4)))
    (dv0_5 : PySem.W.nsIn K d0 "dear" = some (some (.int 5 dt0_5)))
    (dv0_6 : PySem.W.nsIn K d0 "shut" = some (some (.int 6 dt0_6)))
    (da1 : PySem.W.nsIn K mainGlobals "BETTER" = some (some (.ref d1)))
    (dl1 : K.lookup d1 = some ⟨.type "dict", none, .dict dE1 dN1, #[]⟩)
    (dk1 : PySem.W.KeysLit w.params dE1.toList)
    (dv1_0 : PySem.W.nsIn K d1 "brim" = some (some (.int 0 dt1_0)))
    (dv1_1 : PySem.W.nsIn K d1 "fill" = some (some (.int 1 dt1_1)))
    (dv1_2 : PySem.W.nsIn K d1 "keep" = some (some (.int 2 dt1_2)))
    (dv1_3 : PySem.W.nsIn K d1 "cent" = some (some (.int 3 dt1_3)))
    (dv1_4 : PySem.W.nsIn K d1 "coin" = some (some (.int 4 dt1_4)))
    (dv1_5 : PySem.W.nsIn K d1 "dear" = some (some (.int 5 dt1_5)))
    (dv1_6 : PySem.W.nsIn K d1 "shut" = some (some (.int 6 dt1_6)))
    (z0 : PySem.W.nsIn K mainGlobals "len" = some none)
    (z1 : PySem.W.nsIn K mainGlobals "max" = some none)
    (z2 : PySem.W.nsIn K mainGlobals "min" = some none)
    (z3 : PySem.W.nsIn K mainGlobals "list" = some none)
    (z4 : PySem.W.nsIn K mainGlobals "tuple" = some none)
    (z5 : PySem.W.nsIn K mainGlobals "sum" = some none)
    (z6 : PySem.W.nsIn K mainGlobals "any" = some none)
    (z7 : PySem.W.nsIn K mainGlobals "all" = some none)
    (z8 : PySem.W.nsIn K mainGlobals "int" = some none)
    (z9 : PySem.W.nsIn K mainGlobals "range" = some none)
    (z10 : PySem.W.nsIn K mainGlobals "zip" = some none)
    (z11 : PySem.W.nsIn K mainGlobals "isinstance" = some none)
    (z12 : PySem.W.nsIn K mainGlobals "bool" = some none)
    (z13 : PySem.W.nsIn K mainGlobals "str" = some none)
    (hP : h.get? Pt = some (PySem.W.tabObj #[]))
    (hC : PySem.W.codeHdIn K cc Pt = true)
    (hN : K.lookup Pt = none)
    (hPPb1 : h.get? Pb1 = some (PySem.W.tabObj #[]))
    (hCPb1 : PySem.W.codeHdIn K cb1 Pb1 = true)
    (hNPb1 : K.lookup Pb1 = none)
    (hD : [Pt, Pb1].Pairwise (· ≠ ·)) :
    LawAtS l w K (L2N.CX l.prog w) 30 63 "_law_script" mg fa h := by
  have e := hfa.symm.trans (PySem.W.mg_of X G a19)
  cases e
  have CL : CAOk mg [("BadMark", e0), ("BadLetters", e1), ("BadRoom", e2), ("BadArrow", e3), ("BadWord", e4), ("BadSize", e5), ("BadPattern", e6), ("BadTable", e7), ("BadTree", e8), ("BadText", e9), ("BadName", e10), ("BadDeed", e11), ("BadPage", e12), ("Taken", e13), ("Full", e14), ("Unlike", e15), ("NotDear", e16), ("InUse", e17), ("TooWide", e18), ("NoArrow", e19), ("NoName", e20), ("NoTraveller", e21), ("NothingLeft", e22), ("PurseError", e23), ("Missing", e24)] := ⟨fun p hp => by
    simp only [List.mem_cons, List.not_mem_nil, or_false] at hp
    rcases hp with rfl | rfl | rfl | rfl | rfl | rfl | rfl | rfl | rfl | rfl | rfl | rfl | rfl | rfl | rfl | rfl | rfl | rfl | rfl | rfl | rfl | rfl | rfl | rfl | rfl
    · exact PySem.W.mg_of X G ae0
    · exact PySem.W.mg_of X G ae1
    · exact PySem.W.mg_of X G ae2
    · exact PySem.W.mg_of X G ae3
    · exact PySem.W.mg_of X G ae4
    · exact PySem.W.mg_of X G ae5
    · exact PySem.W.mg_of X G ae6
    · exact PySem.W.mg_of X G ae7
    · exact PySem.W.mg_of X G ae8
    · exact PySem.W.mg_of X G ae9
    · exact PySem.W.mg_of X G ae10
    · exact PySem.W.mg_of X G ae11
    · exact PySem.W.mg_of X G ae12
    · exact PySem.W.mg_of X G ae13
    · exact PySem.W.mg_of X G ae14
    · exact PySem.W.mg_of X G ae15
    · exact PySem.W.mg_of X G ae16
    · exact PySem.W.mg_of X G ae17
    · exact PySem.W.mg_of X G ae18
    · exact PySem.W.mg_of X G ae19
    · exact PySem.W.mg_of X G ae20
    · exact PySem.W.mg_of X G ae21
    · exact PySem.W.mg_of X G ae22
    · exact PySem.W.mg_of X G ae23
    · exact PySem.W.mg_of X G ae24
    , rfl⟩
  refine ⟨PySem.W.fnOf "law" "law" (defArgs sT_law) (defBody sT_law) (defScope sT_law) .none kV19 dc19 pm19 an19 (.ref cc) ct19, [(cc, Pt), (cb1, Pb1)], spLawT K [Pt, Pb1], fun p hp => ?_, fun p hp => ?_, fun p hp => ?_, fun s u => .of_eq rfl, fun H a ns hl hb ht hS => ⟨a, ns, rfl, hl, hb, hS, fun P hP => ?_, fun H' => rfl⟩, fun base _ _ TB => ?_⟩
  · simp only [List.mem_cons, List.not_mem_nil, or_false] at hp
    rcases hp with rfl | rfl
    · exact hP
    · exact hPPb1
  · simp only [List.mem_cons, List.not_mem_nil, or_false] at hp
    rcases hp with rfl | rfl
    · exact hN
    · exact hNPb1
  · simp only [List.mem_cons, List.not_mem_nil, or_false] at hp
    rcases hp with rfl | rfl
    · exact PySem.W.codeHd_of_K X hC
    · exact PySem.W.codeHd_of_K X hCPb1
  · simp only [List.mem_cons, List.not_mem_nil, or_false] at hP
    rcases hP with rfl | rfl
    · exact ht _ List.mem_cons_self
    · exact ht _ (List.mem_cons_of_mem _ List.mem_cons_self)
  have gvs : ∀ x d, gv1.lookup x = some d → ∃ u v, mg x = some u ∧ RelV v u ∧ ∀ F, Rep (⟨K, w, fun j => ([e7] : List Addr).getD j 0, [(Pt, (envOfC "law" (defScope sT_law) 0 0 .none).qual ++ "<lambda>"), (Pb1, (envOfC "best_mark" (defScope sT_best_mark) 0 0 .none).qual ++ "<lambda>")]⟩ : Gd) F v d := by
    intro x d hx
    unfold gv1 at hx
    simp only [List.lookup_cons] at hx
    split at hx
    · rename_i e
      cases hx
      have e := eq_of_beq e
      subst e
      refine ⟨_, .ref d0, PySem.W.mg_of X G da0, rfl, fun F => ?_⟩
      simp only [Rep]
      refine ⟨d0, rfl, fun x d hx => ?_⟩
      simp only [List.lookup_cons] at hx
      split at hx
      · rename_i e; cases hx; have e := eq_of_beq e; subst e; exact ⟨dE0, dN0, _, dl0, dk0, dv0_0, ⟨_, rfl⟩⟩
      split at hx
      · rename_i e; cases hx; have e := eq_of_beq e; subst e; exact ⟨dE0, dN0, _, dl0, dk0, dv0_1, ⟨_, rfl⟩⟩
      split at hx
      · rename_i e; cases hx; have e := eq_of_beq e; subst e; exact ⟨dE0, dN0, _, dl0, dk0, dv0_2, ⟨_, rfl⟩⟩
      split at hx
      · rename_i e; cases hx; have e := eq_of_beq e; subst e; exact ⟨dE0, dN0, _, dl0, dk0, dv0_3, ⟨_, rfl⟩⟩
      split at hx
      · rename_i e; cases hx; have e := eq_of_beq e; subst e; exact ⟨dE0, dN0, _, dl0, dk0, dv0_4, ⟨_, rfl⟩⟩
      split at hx
      · rename_i e; cases hx; have e := eq_of_beq e; subst e; exact ⟨dE0, dN0, _, dl0, dk0, dv0_5, ⟨_, rfl⟩⟩
      split at hx
      · rename_i e; cases hx; have e := eq_of_beq e; subst e; exact ⟨dE0, dN0, _, dl0, dk0, dv0_6, ⟨_, rfl⟩⟩
      simp at hx
    split at hx
    · rename_i e
      cases hx
      have e := eq_of_beq e
      subst e
      refine ⟨_, .ref d1, PySem.W.mg_of X G da1, rfl, fun F => ?_⟩
      simp only [Rep]
      refine ⟨d1, rfl, fun x d hx => ?_⟩
      simp only [List.lookup_cons] at hx
      split at hx
      · rename_i e; cases hx; have e := eq_of_beq e; subst e; exact ⟨dE1, dN1, _, dl1, dk1, dv1_0, ⟨_, rfl⟩⟩
      split at hx
      · rename_i e; cases hx; have e := eq_of_beq e; subst e; exact ⟨dE1, dN1, _, dl1, dk1, dv1_1, ⟨_, rfl⟩⟩
      split at hx
      · rename_i e; cases hx; have e := eq_of_beq e; subst e; exact ⟨dE1, dN1, _, dl1, dk1, dv1_2, ⟨_, rfl⟩⟩
      split at hx
      · rename_i e; cases hx; have e := eq_of_beq e; subst e; exact ⟨dE1, dN1, _, dl1, dk1, dv1_3, ⟨_, rfl⟩⟩
      split at hx
      · rename_i e; cases hx; have e := eq_of_beq e; subst e; exact ⟨dE1, dN1, _, dl1, dk1, dv1_4, ⟨_, rfl⟩⟩
      split at hx
      · rename_i e; cases hx; have e := eq_of_beq e; subst e; exact ⟨dE1, dN1, _, dl1, dk1, dv1_5, ⟨_, rfl⟩⟩
      split at hx
      · rename_i e; cases hx; have e := eq_of_beq e; subst e; exact ⟨dE1, dN1, _, dl1, dk1, dv1_6, ⟨_, rfl⟩⟩
      simp at hx
    simp at hx
  have FB := fun_mk (st := st_PE) lB cB kB
  have bB := FB.binds (ps := ["self", "word"]) fun _ _ _ _ _ _ us hl => match us, hl with | [_, _], _ => rfl
  have PB : FnOk l.prog w K mg base (L2N.CX l.prog w) 1 gB _ ["self", "word"] _ := init_base FB sc_PE (by decide +kernel) (by decide +kernel) rfl (by decide +kernel) (fun env => rfl) (PySem.W.mg_none_of X G zV) vV
  have FI0 := fun_mk (st := st_c0) lI0 cI0 kI0
  have bI0 := FI0.binds (ps := ["self"]) fun _ _ _ _ _ _ us hl => match us, hl with | [_], _ => rfl
  have PI0 : FnOk l.prog w K mg base (L2N.CX l.prog w) 2 i0 _ ["self"] (spInit K 0 fun _ => [("word", .str "badtable")]) := init_word FI0 sc_c0 (by decide +kernel) rfl (by decide +kernel) (fun env => rfl) (PySem.W.mg_of X G ae23) (by decide) gs tm rd fc rfl kB PB bB
  have CO0 : CsOk l.prog w K mg base e7 ("BadTable", "badtable") := cs_of b0 xC0 rv0 (PySem.W.mg_of X G ae7) i10 i20 bI0 PI0
  have bns : ∀ x : Str, x ∈ (["len", "max", "min", "list", "tuple", "sum", "any", "all", "int", "range", "zip", "isinstance", "bool", "str"] : List Str) → mg x = none := by
    intro x hx
    simp only [List.mem_cons, List.not_mem_nil, or_false] at hx
    rcases hx with rfl | rfl | rfl | rfl | rfl | rfl | rfl | rfl | rfl | rfl | rfl | rfl | rfl | rfl
    · exact PySem.W.mg_none_of X G z0
    · exact PySem.W.mg_none_of X G z1
    · exact PySem.W.mg_none_of X G z2
    · exact PySem.W.mg_none_of X G z3
    · exact PySem.W.mg_none_of X G z4
    · exact PySem.W.mg_none_of X G z5
    · exact PySem.W.mg_none_of X G z6
    · exact PySem.W.mg_none_of X G z7
    · exact PySem.W.mg_none_of X G z8
    · exact PySem.W.mg_none_of X G z9
    · exact PySem.W.mg_none_of X G z10
    · exact PySem.W.mg_none_of X G z11
    · exact PySem.W.mg_none_of X G z12
    · exact PySem.W.mg_none_of X G z13
  have T0 : TW ⟨gv1, F0, cs1⟩ (⟨K, w, fun j => ([e7] : List Addr).getD j 0, [(Pt, (envOfC "law" (defScope sT_law) 0 0 .none).qual ++ "<lambda>"), (Pb1, (envOfC "best_mark" (defScope sT_best_mark) 0 0 .none).qual ++ "<lambda>")]⟩ : Gd) l.prog w K mg base 3 := { eK := rfl, ew := rfl, gv := gvs, bn := bns, cs := ?cs, fs := fun i e he => by cases i <;> cases he }
  have tsu : ∀ (p : Addr × Str), p ∈ ([(Pt, (envOfC "law" (defScope sT_law) 0 0 .none).qual ++ "<lambda>"), (Pb1, (envOfC "best_mark" (defScope sT_best_mark) 0 0 .none).qual ++ "<lambda>")] : List (Addr × Str)) → ∀ q, q ∈ ([(Pt, (envOfC "law" (defScope sT_law) 0 0 .none).qual ++ "<lambda>"), (Pb1, (envOfC "best_mark" (defScope sT_best_mark) 0 0 .none).qual ++ "<lambda>")] : List (Addr × Str)) → q.1 = p.1 → q = p := ts_uniq hD
  case cs =>
    intro j c hj
    unfold cs1 at hj
    match j, hj with
    | 0, hj => cases hj; exact ⟨Nat.le_refl _, CO0⟩
    | j + 1, hj => simp at hj
  have T1 := T0.def (b_law_bag) (fun_mk (st := sT_law_bag) l0 c0 k0) (PySem.W.mg_of X G a0) (ps := P_law_bag) (fun _ _ _ _ _ _ us hl => match us, hl with | [_], _ => rfl) sc_law_bag q_law_bag (c := ct_law_bag) rfl m0 (h_law_bag)
  have T2 := T1.def (b_law_pull) (fun_mk (st := sT_law_pull) l1 c1 k1) (PySem.W.mg_of X G a1) (ps := P_law_pull) (fun _ _ _ _ _ _ us hl => match us, hl with | [_, _], _ => rfl) sc_law_pull q_law_pull (c := ct_law_pull) rfl m1 (h_law_pull)
  have T3 := T2.def (b_law_of) (fun_mk (st := sT_law_of) l2 c2 k2) (PySem.W.mg_of X G a2) (ps := P_law_of) (fun _ _ _ _ _ _ us hl => match us, hl with | [_, _], _ => rfl) sc_law_of q_law_of (c := ct_law_of) rfl m2 (h_law_of rfl)
  have T4 := T3.push (e := ⟨"_law_same", ct_nil, []⟩) fn_nil (PySem.W.mg_of X G a3) k3 ((fun_mk (st := sT_law_same) l3 c3 k3).binds (ps := P_law_same) fun _ _ _ _ _ _ us hl => match us, hl with | [_, _], _ => rfl) (dvs := []) .nil fun _ => RepL.nil
  have T5 := T4.def (b_law_same 3) (fun_mk (st := sT_law_same) l3 c3 k3) (PySem.W.mg_of X G a3) (ps := P_law_same) (fun _ _ _ _ _ _ us hl => match us, hl with | [_, _], _ => rfl) sc_law_same q_law_same (c := ct_same 0) rfl m4 (h_law_same0)
  have T6 := T5.def (b_law_same 4) (fun_mk (st := sT_law_same) l3 c3 k3) (PySem.W.mg_of X G a3) (ps := P_law_same) (fun _ _ _ _ _ _ us hl => match us, hl with | [_, _], _ => rfl) sc_law_same q_law_same (c := ct_same 1) rfl m5 (h_law_same rfl)
  have T7 := T6.def (b_law_same 5) (fun_mk (st := sT_law_same) l3 c3 k3) (PySem.W.mg_of X G a3) (ps := P_law_same) (fun _ _ _ _ _ _ us hl => match us, hl with | [_, _], _ => rfl) sc_law_same q_law_same (c := ct_same 2) rfl m6 (h_law_same rfl)
  have T8 := T7.def (b_later_mark) (fun_mk (st := sT_later_mark) l4 c4 k4) (PySem.W.mg_of X G a4) (ps := P_later_mark) (fun _ _ _ _ _ _ us hl => match us, hl with | [_, _], _ => rfl) sc_later_mark q_later_mark (c := ct_later_mark) rfl m7 (h_later_mark rfl)
  have B8 := best_ok T8 l5 c5 sc_best_mark rfl (by decide +kernel) rfl (by decide +kernel) (by decide +kernel) (by decide +kernel) rfl (TB _ (List.mem_cons_of_mem _ List.mem_cons_self)) rfl (List.mem_cons_of_mem _ List.mem_cons_self) (fun q hq e => tsu _ (List.mem_cons_of_mem _ List.mem_cons_self) q hq e)
  have T9 := (T8.mono (j := 2)).push (e := ⟨"best_mark", ct_best_mark, []⟩) B8 (PySem.W.mg_of X G a5) k5 ((fun_mk (st := sT_best_mark) l5 c5 k5).binds (ps := P_best_mark) fun _ _ _ _ _ _ us hl => match us, hl with | [_], _ => rfl) (dvs := []) .nil fun _ => RepL.nil
  have T10 := T9.def (b_often_mark) (fun_mk (st := sT_often_mark) l6 c6 k6) (PySem.W.mg_of X G a6) (ps := P_often_mark) (fun _ _ _ _ _ _ us hl => match us, hl with | [_], _ => rfl) sc_often_mark q_often_mark (c := ct_often_mark) rfl m9 (h_often_mark)
  have T11 := T10.def (MX.b_product (i_best_mark := 8) (i_later_mark := 7)) (fun_mk (st := sT_product) l7 c7 k7) (PySem.W.mg_of X G a7) (ps := MX.P_product) (fun _ _ _ _ _ _ us hl => match us, hl with | [_, _], _ => rfl) sc_product q_product (c := ct_product) rfl m10 (h_product rfl rfl)
  have T12 := T11.def (MX.b_steady_raised (i_product := 10) (i_later_mark := 7) (i_often_mark := 9)) (fun_mk (st := sT_steady_raised) l8 c8 k8) (PySem.W.mg_of X G a8) (ps := MX.P_steady_raised) (fun _ _ _ _ _ _ us hl => match us, hl with | [_], _ => rfl) sc_steady_raised q_steady_raised (c := ct_steady_raised) rfl m11 (h_steady_raised rfl rfl rfl)
  have T13 := T12.def (MX.b_is_steady (i_product := 10)) (fun_mk (st := sT_is_steady) l9 c9 k9) (PySem.W.mg_of X G a9) (ps := MX.P_is_steady) (fun _ _ _ _ _ _ us hl => match us, hl with | [_], _ => rfl) sc_is_steady q_is_steady (c := ct_is_steady) rfl m12 (h_is_steady rfl)
  have T14 := T13.def (MX.b_raised (i_steady_raised := 11) (i_is_steady := 12) (c_BadTable := 0)) (fun_mk (st := sT_raised) l10 c10 k10) (PySem.W.mg_of X G a10) (ps := MX.P_raised) (fun _ _ _ _ _ _ us hl => match us, hl with | [_], _ => rfl) sc_raised q_raised (c := ct_raised 0) rfl m13 (h_raised rfl rfl rfl)
  have T15 := T14.def (MX.b_law_deeds_all ) (fun_mk (st := sT_law_deeds_all) l11 c11 k11) (PySem.W.mg_of X G a11) (ps := MX.P_law_deeds_all) (fun _ _ _ _ _ _ us hl => match us, hl with | [], _ => rfl) sc_law_deeds_all q_law_deeds_all (c := ct_deeds_all) rfl m14 (h_deeds_all)
  have T16 := T15.def (MX.b_law_marks_all ) (fun_mk (st := sT_law_marks_all) l12 c12 k12) (PySem.W.mg_of X G a12) (ps := MX.P_law_marks_all) (fun _ _ _ _ _ _ us hl => match us, hl with | [], _ => rfl) sc_law_marks_all q_law_marks_all (c := ct_marks_all) rfl m15 (h_marks_all)
  have T17 := T16.def (MX.b_law_two_marks ) (fun_mk (st := sT_law_two_marks) l13 c13 k13) (PySem.W.mg_of X G a13) (ps := MX.P_law_two_marks) (fun _ _ _ _ _ _ us hl => match us, hl with | [_, _], _ => rfl) sc_law_two_marks q_law_two_marks (c := ct_later_mark) rfl m16 (h_two_marks)
  have T18 := T17.def (MX.b_law_best2 (i_law_marks_all := 15)) (fun_mk (st := sT_law_best2) l14 c14 k14) (PySem.W.mg_of X G a14) (ps := MX.P_law_best2) (fun _ _ _ _ _ _ us hl => match us, hl with | [_], _ => rfl) sc_law_best2 q_law_best2 (c := ct_dbest) rfl m17 (h_law_best2 rfl)
  have T19 := T18.def (MX.b_law_often ) (fun_mk (st := sT_law_often) l15 c15 k15) (PySem.W.mg_of X G a15) (ps := MX.P_law_often) (fun _ _ _ _ _ _ us hl => match us, hl with | [_], _ => rfl) sc_law_often q_law_often (c := ct_often_mark) rfl m18 (h_law_often)
  have T20 := T19.def (MX.b_law_times (i_law_best := 17) (i_law_two_marks := 16)) (fun_mk (st := sT_law_times) l16 c16 k16) (PySem.W.mg_of X G a16) (ps := MX.P_law_times) (fun _ _ _ _ _ _ us hl => match us, hl with | [_, _], _ => rfl) sc_law_times q_law_times (c := ct_product) rfl m19 (h_law_times rfl rfl)
  have T21 := T20.def (MX.b_law_raised (i_law_times := 19) (i_law_two_marks := 16) (i_law_often := 18)) (fun_mk (st := sT_law_raised) l17 c17 k17) (PySem.W.mg_of X G a17) (ps := MX.P_law_raised) (fun _ _ _ _ _ _ us hl => match us, hl with | [_], _ => rfl) sc_law_raised q_law_raised (c := ct_steady_raised) rfl m20 (h_law_raised rfl rfl rfl)
  have T22 := T21.def (MX.b_law_marks (i_law_of := 2) (i_law_deeds_all := 14) (i_law_marks_all := 15) (i_law_pull := 1)) (fun_mk (st := sT_law_marks) l18 c18 k18) (PySem.W.mg_of X G a18) (ps := MX.P_law_marks) (fun _ _ _ _ _ _ us hl => match us, hl with | [_, _], _ => rfl) sc_law_marks q_law_marks (c := ct_law_marks) rfl m21 (h_law_marks rfl rfl rfl rfl)
  have FT := fun_mk (st := st_told) lT cT kT
  have FK := fun_mk (st := st_kind) lK cK kK
  have TK0 : ToldK l.prog w K mg base 27 st_told gT _ (tcOf [("BadMark", e0), ("BadLetters", e1), ("BadRoom", e2), ("BadArrow", e3), ("BadWord", e4), ("BadSize", e5), ("BadPattern", e6), ("BadTable", e7), ("BadTree", e8), ("BadText", e9), ("BadName", e10), ("BadDeed", e11), ("BadPage", e12), ("Taken", e13), ("Full", e14), ("Unlike", e15), ("NotDear", e16), ("InUse", e17), ("TooWide", e18), ("NoArrow", e19), ("NoName", e20), ("NoTraveller", e21), ("NothingLeft", e22), ("PurseError", e23), ("Missing", e24)]) := toldK_mk FT FK (FT.binds fun _ _ _ _ _ _ us hl => match us, hl with | [_], _ => rfl) (FK.binds fun _ _ _ _ _ _ us hl => match us, hl with | [_], _ => rfl) (PySem.W.mg_of X G aT) (PySem.W.mg_of X G aK) CL (bns _ (by simp)) (bns _ (by simp))
    ⟨rfl, rfl, rfl, by decide +kernel, rfl, by decide +kernel, by decide +kernel⟩ (by decide +kernel) (by decide +kernel) (by decide +kernel) ⟨rfl, rfl, rfl, by decide +kernel, rfl, by decide +kernel, by decide +kernel⟩ (by decide +kernel) (by decide +kernel) (by decide +kernel)
  refine law_ok (b_law (i_raised := 13) (i_is_steady := 12) (i_same2 := 6) (i_law_raised := 20) (i_law_times := 19) (i_law_marks := 21) (i_law_pull := 1) (i_law_bag := 0)) T22 l19 c19 sc_law m22 (TB _ List.mem_cons_self) TK0 ?hc rfl List.mem_cons_self (fun q hq e => tsu _ List.mem_cons_self q hq e) (by simp) (fun ns _ _ => h_law ⟨rfl, rfl, rfl, rfl, rfl, rfl, rfl, rfl, rfl⟩ ns)
  intro j q hq
  unfold cs1 at hq
  match j, hq with
  | 0, hq => cases hq; exact tlc_of (nm := "BadTable") (z := "badtable") b0 kt0 em0 CL (by decide +kernel) (by decide)
  | j + 1, hq => simp at hq
end L21
end DL

open PySem PySem.W PyProof.Rows
set_option maxRecDepth 100000 in
set_option maxHeartbeats 0 in
theorem PySem.Challenge.cw_onepurse_k21_steady_tables_raised_holds : PySem.Challenge.rw_onepurse_k21_steady_tables_raised.Holds := by
  w_on; o_law; k_head; (case hw => w_witness2)
  k_fill
  refine LamX.walk_ofTs (l := PySem.Challenge.rw_onepurse_k21_steady_tables_raised) (n := 63) (k := 30) (x := "_law_script") (CX := fun w => L2N.CX (PySem.Challenge.rw_onepurse_k21_steady_tables_raised).prog w) rfl (by decide) rfl ⟨rfl, by decide, by decide⟩ (fun w h Y => PySem.W.km_in_of Y) ?F (fun w H s e s' z => by
    obtain ⟨_, _, _, _, _, _, _, _, _, _, _, _, z⟩ := z
    exact z)
  case F =>
    intro w mg fa h Y KX G hmg
    refine' DL.L21.all_mk KX G hmg ?a0 ?l0 ?c0 ?k0 ?a1 ?l1 ?c1 ?k1 ?a2 ?l2 ?c2 ?k2 ?a3 ?l3 ?c3 ?k3 ?a4 ?l4 ?c4 ?k4 ?a5 ?l5 ?c5 ?k5 ?a6 ?l6 ?c6 ?k6 ?a7 ?l7 ?c7 ?k7 ?a8 ?l8 ?c8 ?k8 ?a9 ?l9 ?c9 ?k9 ?a10 ?l10 ?c10 ?k10 ?a11 ?l11 ?c11 ?k11 ?a12 ?l12 ?c12 ?k12 ?a13 ?l13 ?c13 ?k13 ?a14 ?l14 ?c14 ?k14 ?a15 ?l15 ?c15 ?k15 ?a16 ?l16 ?c16 ?k16 ?a17 ?l17 ?c17 ?k17 ?a18 ?l18 ?c18 ?k18 ?a19 ?l19 ?c19 ?k19 ?aT ?lT ?cT ?kT ?aK ?lK ?cK ?kK ?ae0 ?ae1 ?ae2 ?ae3 ?ae4 ?ae5 ?ae6 ?ae7 ?ae8 ?ae9 ?ae10 ?ae11 ?ae12 ?ae13 ?ae14 ?ae15 ?ae16 ?ae17 ?ae18 ?ae19 ?ae20 ?ae21 ?ae22 ?ae23 ?ae24 ?fc ?lB ?cB ?kB ?gs ?tm ?rd ?vV ?zV ?xC0 ?rv0 ?b0 ?kt0 ?em0 ?i10 ?i20 ?lI0 ?cI0 ?kI0 ?da0 ?dl0 ?dk0 ?dv0_0 ?dv0_1 ?dv0_2 ?dv0_3 ?dv0_4 ?dv0_5 ?dv0_6 ?da1 ?dl1 ?dk1 ?dv1_0 ?dv1_1 ?dv1_2 ?dv1_3 ?dv1_4 ?dv1_5 ?dv1_6 ?z0 ?z1 ?z2 ?z3 ?z4 ?z5 ?z6 ?z7 ?z8 ?z9 ?z10 ?z11 ?z12 ?z13 ?hP ?hC ?hN ?hPPb1 ?hCPb1 ?hNPb1 ?hD
    (case a0 => k_is)
    (case l0 => k_is)
    (case c0 => k_is)
    (case k0 => k_is)
    (case a1 => k_is)
    (case l1 => k_is)
    (case c1 => k_is)
    (case k1 => k_is)
    (case a2 => k_is)
    (case l2 => k_is)
    (case c2 => k_is)
    (case k2 => k_is)
    (case a3 => k_is)
    (case l3 => k_is)
    (case c3 => k_is)
    (case k3 => k_is)
    (case a4 => k_is)
    (case l4 => k_is)
    (case c4 => k_is)
    (case k4 => k_is)
    (case a5 => k_is)
    (case l5 => k_is)
    (case c5 => k_is)
    (case k5 => k_is)
    (case a6 => k_is)
    (case l6 => k_is)
    (case c6 => k_is)
    (case k6 => k_is)
    (case a7 => k_is)
    (case l7 => k_is)
    (case c7 => k_is)
    (case k7 => k_is)
    (case a8 => k_is)
    (case l8 => k_is)
    (case c8 => k_is)
    (case k8 => k_is)
    (case a9 => k_is)
    (case l9 => k_is)
    (case c9 => k_is)
    (case k9 => k_is)
    (case a10 => k_is)
    (case l10 => k_is)
    (case c10 => k_is)
    (case k10 => k_is)
    (case a11 => k_is)
    (case l11 => k_is)
    (case c11 => k_is)
    (case k11 => k_is)
    (case a12 => k_is)
    (case l12 => k_is)
    (case c12 => k_is)
    (case k12 => k_is)
    (case a13 => k_is)
    (case l13 => k_is)
    (case c13 => k_is)
    (case k13 => k_is)
    (case a14 => k_is)
    (case l14 => k_is)
    (case c14 => k_is)
    (case k14 => k_is)
    (case a15 => k_is)
    (case l15 => k_is)
    (case c15 => k_is)
    (case k15 => k_is)
    (case a16 => k_is)
    (case l16 => k_is)
    (case c16 => k_is)
    (case k16 => k_is)
    (case a17 => k_is)
    (case l17 => k_is)
    (case c17 => k_is)
    (case k17 => k_is)
    (case a18 => k_is)
    (case l18 => k_is)
    (case c18 => k_is)
    (case k18 => k_is)
    (case a19 => k_is)
    (case l19 => k_is)
    (case c19 => k_is)
    (case k19 => k_is)
    (case aT => k_is)
    (case lT => k_is)
    (case cT => k_is)
    (case kT => k_is)
    (case aK => k_is)
    (case lK => k_is)
    (case cK => k_is)
    (case kK => k_is)
    (case ae0 => k_is)
    (case ae1 => k_is)
    (case ae2 => k_is)
    (case ae3 => k_is)
    (case ae4 => k_is)
    (case ae5 => k_is)
    (case ae6 => k_is)
    (case ae7 => k_is)
    (case ae8 => k_is)
    (case ae9 => k_is)
    (case ae10 => k_is)
    (case ae11 => k_is)
    (case ae12 => k_is)
    (case ae13 => k_is)
    (case ae14 => k_is)
    (case ae15 => k_is)
    (case ae16 => k_is)
    (case ae17 => k_is)
    (case ae18 => k_is)
    (case ae19 => k_is)
    (case ae20 => k_is)
    (case ae21 => k_is)
    (case ae22 => k_is)
    (case ae23 => k_is)
    (case ae24 => k_is)
    (case fc => k_is)
    (case lB => k_is)
    (case cB => k_is)
    (case kB => k_is)
    (case gs => k_is)
    (case tm => k_is)
    (case rd => k_is)
    (case vV => k_is)
    (case zV => k_is)
    (case xC0 => k_is)
    (case rv0 => decide +kernel)
    (case b0 => kernel_rfl)
    (case kt0 => kernel_rfl)
    (case em0 => kernel_rfl)
    (case i10 => k_is)
    (case i20 => k_is)
    (case lI0 => k_is)
    (case cI0 => k_is)
    (case kI0 => k_is)
    (case da0 => k_is)
    (case dl0 => k_is)
    (case dk0 => repeat first | exact trivial | refine ⟨⟨_, _, rfl, rfl⟩, ?_⟩)
    (case dv0_0 => k_is)
    (case dv0_1 => k_is)
    (case dv0_2 => k_is)
    (case dv0_3 => k_is)
    (case dv0_4 => k_is)
    (case dv0_5 => k_is)
    (case dv0_6 => k_is)
    (case da1 => k_is)
    (case dl1 => k_is)
    (case dk1 => repeat first | exact trivial | refine ⟨⟨_, _, rfl, rfl⟩, ?_⟩)
    (case dv1_0 => k_is)
    (case dv1_1 => k_is)
    (case dv1_2 => k_is)
    (case dv1_3 => k_is)
    (case dv1_4 => k_is)
    (case dv1_5 => k_is)
    (case dv1_6 => k_is)
    (case z0 => k_is)
    (case z1 => k_is)
    (case z2 => k_is)
    (case z3 => k_is)
    (case z4 => k_is)
    (case z5 => k_is)
    (case z6 => k_is)
    (case z7 => k_is)
    (case z8 => k_is)
    (case z9 => k_is)
    (case z10 => k_is)
    (case z11 => k_is)
    (case z12 => k_is)
    (case z13 => k_is)
    (case hP => exact PySem.W.km_tabs_of Y _ (List.mem_cons_of_mem _ List.mem_cons_self))
    (case hC => kernel_rfl)
    (case hN => kernel_rfl)
    (case hPPb1 => exact PySem.W.km_tabs_of Y _ List.mem_cons_self)
    (case hCPb1 => kernel_rfl)
    (case hNPb1 => kernel_rfl)
    (case hD => decide)

