import PyProof.Rows.All
import Wide.All
import OpenK.AllK
import Wide.FinOn
import HandS.ForMost
import HandS.ForExc
import HandS.IsInst
import HandS.Style
import HandS.CallSlots
import HandS.Conv
import HandS.Wide
import HandS.WideBits
import HandS.Zip
import HandS.TupAny
import HandS.SortInts
import HandS.Walk
import HandS.WordsExc
import HandS.Defaults
import HandS.HeadEnd
import KE.KRevSl
import PySem.Challenge.RW_talkgrowth_k56_talks_judged
import HandS.More
import HandS.Head0
import HandS.Head1
import HandS.Head2
import HandS.HeadHook1
import HandS.HeadHook2
import KE.KStateDown
set_option Elab.async false
set_option linter.all false
set_option maxRecDepth 100000
set_option maxHeartbeats 4000000
/-! TD: plain data over the hand layer -/
namespace TD
open PySem PySem.Spec PyProof.Rows L2

inductive D where
  | non | bl (b : Bool) | int (i : Int) | str (x : Str) | tup (l : List D) | lst (l : List D) | src

mutual
inductive Rp (K : PySem.W.Frag) (a0 : Addr) (F : Hp) : V → D → Prop
  | non : Rp K a0 F .non .non
  | bl (b : Bool) : Rp K a0 F (.bl b) (.bl b)
  | int (i : Int) : Rp K a0 F (.int i) (.int i)
  | str (x : Str) : Rp K a0 F (.str x) (.str x)
  | tup {a : Addr} {vs : List V} {ds : List D} : SqT K F a vs → RpAll K a0 F vs ds → Rp K a0 F (.ref a) (.tup ds)
  | lst {a : Addr} {vs : List V} {ds : List D} : F a = some (.lst vs) → RpAll K a0 F vs ds → Rp K a0 F (.ref a) (.lst ds)
  | src : Rp K a0 F (.ref a0) .src
inductive RpAll (K : PySem.W.Frag) (a0 : Addr) (F : Hp) : List V → List D → Prop
  | nil : RpAll K a0 F [] []
  | cons {v : V} {vs : List V} {d : D} {ds : List D} : Rp K a0 F v d → RpAll K a0 F vs ds → RpAll K a0 F (v :: vs) (d :: ds)
end

def Ex (H H' : Hp) : Prop := ∀ a o, H a = some o → H' a = some o
theorem Ex.refl (H : Hp) : Ex H H := fun _ _ h => h
theorem Ex.trans {H H1 H2 : Hp} (a : Ex H H1) (b : Ex H1 H2) : Ex H H2 := fun x o h => b x o (a x o h)
theorem Ex.new {H : Hp} {p : Addr} {o : HO} (h : H p = none) : Ex H (upd H p o) := fun a u e => by
  rw [upd_ne (ne_of_none e h)]
  exact e
theorem ex_rd {H H' : Hp} {a : Addr} {u : HO} (e : Ex H H') (h : Rd H a u) : Rd H' a u := by
  rcases h with h | ⟨o, h⟩
  · exact Or.inl (e a _ h)
  · exact Or.inr ⟨o, e a _ h⟩
theorem ex_l {K : PySem.W.Frag} {H H' : Hp} {a : Addr} {xs : List V} (e : Ex H H') (h : SqL K H a xs) : SqL K H' a xs := by
  rcases h with h | h
  · exact Or.inl (ex_rd e h)
  · exact Or.inr h
theorem ex_t {K : PySem.W.Frag} {H H' : Hp} {a : Addr} {xs : List V} (e : Ex H H') (h : SqT K H a xs) : SqT K H' a xs := by
  rcases h with h | h
  · exact Or.inl (ex_rd e h)
  · exact Or.inr h

mutual
theorem Rp.mono {K : PySem.W.Frag} {a0 : Addr} {F F' : Hp} (e : Ex F F') : ∀ (d : D) (v : V), Rp K a0 F v d → Rp K a0 F' v d
  | .non, _, h => by cases h; exact .non
  | .bl _, _, h => by cases h; exact .bl _
  | .int _, _, h => by cases h; exact .int _
  | .str _, _, h => by cases h; exact .str _
  | .src, _, h => by cases h; exact .src
  | .tup ds, _, h => by
    cases h with
    | tup hs ha => exact .tup (ex_t e hs) (RpAll.mono e ds _ ha)
  | .lst ds, _, h => by
    cases h with
    | lst hs ha => exact .lst (e _ _ hs) (RpAll.mono e ds _ ha)
theorem RpAll.mono {K : PySem.W.Frag} {a0 : Addr} {F F' : Hp} (e : Ex F F') : ∀ (ds : List D) (vs : List V), RpAll K a0 F vs ds → RpAll K a0 F' vs ds
  | [], _, h => by cases h; exact .nil
  | d :: ds, _, h => by
    cases h with
    | cons h1 h2 => exact .cons (Rp.mono e d _ h1) (RpAll.mono e ds _ h2)
end
theorem Rp.ex {K : PySem.W.Frag} {a0 : Addr} {F F' : Hp} {v : V} {d : D} (h : Rp K a0 F v d) (e : Ex F F') : Rp K a0 F' v d := Rp.mono e d v h
theorem RpAll.ex {K : PySem.W.Frag} {a0 : Addr} {F F' : Hp} {vs : List V} {ds : List D} (h : RpAll K a0 F vs ds) (e : Ex F F') : RpAll K a0 F' vs ds := RpAll.mono e ds vs h
section
variable {K : PySem.W.Frag} {a0 : Addr} {F : Hp}
theorem RpAll.len : ∀ {vs : List V} {ds : List D}, RpAll K a0 F vs ds → vs.length = ds.length
  | _, [], h => by cases h; rfl
  | _, d :: ds, h => by
    cases h with
    | cons h1 h2 => simp [h2.len]
theorem RpAll.app : ∀ {vs ws : List V} {ds es : List D}, RpAll K a0 F vs ds → RpAll K a0 F ws es → RpAll K a0 F (vs ++ ws) (ds ++ es)
  | _, _, [], _, h, g => by cases h; exact g
  | _, _, d :: ds, _, h, g => by
    cases h with
    | cons h1 h2 => exact .cons h1 (h2.app g)
theorem RpAll.one {v : V} {d : D} (h : Rp K a0 F v d) : RpAll K a0 F [v] [d] := .cons h .nil
theorem RpAll.take : ∀ (n : Nat) {vs : List V} {ds : List D}, RpAll K a0 F vs ds → RpAll K a0 F (vs.take n) (ds.take n)
  | 0, _, _, _ => .nil
  | n + 1, _, _, .nil => .nil
  | n + 1, _, _, .cons h1 h2 => .cons h1 (h2.take n)
theorem RpAll.drop : ∀ (n : Nat) {vs : List V} {ds : List D}, RpAll K a0 F vs ds → RpAll K a0 F (vs.drop n) (ds.drop n)
  | 0, _, _, h => h
  | n + 1, _, _, .nil => .nil
  | n + 1, _, _, .cons h1 h2 => h2.drop n
theorem RpAll.rev : ∀ {vs : List V} {ds : List D}, RpAll K a0 F vs ds → RpAll K a0 F vs.reverse ds.reverse
  | _, [], h => by cases h; exact .nil
  | _, d :: ds, h => by
    cases h with
    | cons h1 h2 =>
      rw [List.reverse_cons, List.reverse_cons]
      exact h2.rev.app (.one h1)
theorem RpAll.get : ∀ {vs : List V} {ds : List D} {i : Nat} {d : D}, RpAll K a0 F vs ds → ds[i]? = some d → ∃ v, vs[i]? = some v ∧ Rp K a0 F v d
  | _, [], _, _, _, e => by simp at e
  | _, x :: ds, 0, d, h, e => by
    cases h with
    | cons h1 h2 => simp at e; subst e; exact ⟨_, rfl, h1⟩
  | _, x :: ds, i + 1, d, h, e => by
    cases h with
    | cons h1 h2 =>
      obtain ⟨v, a, b⟩ := h2.get (i := i) (d := d) (by simpa using e)
      exact ⟨v, by simpa using a, b⟩
theorem RpAll.getv : ∀ {vs : List V} {ds : List D} {i : Nat} {v : V}, RpAll K a0 F vs ds → vs[i]? = some v → ∃ d, ds[i]? = some d ∧ Rp K a0 F v d
  | _, [], _, _, h, e => by cases h; simp at e
  | _, x :: ds, 0, v, h, e => by
    cases h with
    | cons h1 h2 => simp at e; subst e; exact ⟨_, rfl, h1⟩
  | _, x :: ds, i + 1, v, h, e => by
    cases h with
    | cons h1 h2 =>
      obtain ⟨d, a, b⟩ := h2.getv (i := i) (v := v) (by simpa using e)
      exact ⟨d, by simpa using a, b⟩
theorem RpAll.setv : ∀ {vs : List V} {ds : List D} (i : Nat) {v : V} {d : D}, RpAll K a0 F vs ds → Rp K a0 F v d → RpAll K a0 F (vs.set i v) (ds.set i d)
  | _, [], _, _, _, h, _ => by cases h; exact .nil
  | _, x :: ds, 0, v, d, h, g => by
    cases h with
    | cons h1 h2 => exact .cons g h2
  | _, x :: ds, i + 1, v, d, h, g => by
    cases h with
    | cons h1 h2 => exact .cons h1 (h2.setv i g)
theorem RpAll.dropLast {vs : List V} {ds : List D} (h : RpAll K a0 F vs ds) : RpAll K a0 F vs.dropLast ds.dropLast := by
  rw [List.dropLast_eq_take, List.dropLast_eq_take, h.len]
  exact h.take _
theorem RpAll.ints : ∀ {vs : List V} {ns : List Int}, RpAll K a0 F vs (ns.map D.int) → vs = ns.map V.int
  | _, [], h => by cases h; rfl
  | _, n :: ns, h => by
    cases h with
    | cons h1 h2 => cases h1; rw [h2.ints]; rfl
theorem RpAll.of_ints : ∀ (ns : List Int), RpAll K a0 F (ns.map V.int) (ns.map D.int)
  | [] => .nil
  | n :: ns => .cons (.int n) (RpAll.of_ints ns)
end

/-! ### the source of draws, what a def's names hold -/
structure SS where
  cells : List Int
  left : Int
  turn : Int
inductive Slot where
  | val (d : D)
  | own (xs : List D)
abbrev Env := List (Option Slot)
structure W where
  env : Env
  ss : SS
structure Exn where
  c : Str
  f : Str
  d : D
inductive R (α : Type) where
  | ok (a : α) (w : W)
  | exc (c : Exn) (w : W)
  | stuck
inductive RS where
  | nx (w : W)
  | ret (d : D) (w : W)
  | brk (w : W)
  | cnt (w : W)
  | exc (c : Exn) (w : W)
  | stuck

/-- what is fixed while a def runs -/
structure Fm where
  a0 : Addr
  c0 : Addr
  G : Hp
  F0 : Hp

structure SrcOk (a0 c0 : Addr) (F H : Hp) (ss : SS) : Prop where
  fr : F a0 = none
  at0 : H a0 = some (.lst [.ref c0, .int ss.left, .int ss.turn])
  cells : F c0 = some (.lst (ss.cells.map .int))
  ne : ss.cells ≠ []
  nn : ∀ c ∈ ss.cells, 0 ≤ c
  left : 0 ≤ ss.left
  turn : 0 ≤ ss.turn

def Own (K : PySem.W.Frag) (fm : Fm) (F H : Hp) (p : Addr) (xs : List D) : Prop :=
  p ≠ fm.a0 ∧ F p = none ∧ fm.G p = none ∧ ∃ vs, H p = some (.lst vs) ∧ RpAll K fm.a0 F vs xs
def SlotOk (K : PySem.W.Frag) (fm : Fm) (F H : Hp) (v : V) : Slot → Prop
  | .val d => Rp K fm.a0 F v d
  | .own xs => ∃ p, v = .ref p ∧ Own K fm F H p xs
abbrev Exs := List (Addr × List D)

structure Rel (K : PySem.W.Frag) (fm : Fm) (ex : Exs) (σ : L2.St) (H F : Hp) (w : W) : Prop where
  f0 : Ex fm.F0 F
  fh : Ex F H
  gh : ∀ b o, b ≠ fm.a0 → fm.G b = some o → H b = some o
  fg : ∀ b o, F b = some o → fm.F0 b = some o ∨ fm.G b = none
  src : SrcOk fm.a0 fm.c0 F H w.ss
  len : w.env.length = σ.length
  slot : ∀ (i : Nat) (s : Slot), w.env[i]? = some (some s) → ∃ v : V, σ[i]? = some (some v) ∧ SlotOk K fm F H v s
  ap : ∀ (i j : Nat) (xs ys : List D) (p : Addr), w.env[i]? = some (some (.own xs)) → w.env[j]? = some (some (.own ys)) → σ[i]? = some (some (.ref p)) → σ[j]? = some (some (.ref p)) → i = j
  exo : ∀ q ∈ ex, Own K fm F H q.1 q.2
  exn : (ex.map (·.1)).Nodup
  exs : ∀ q ∈ ex, ∀ (i : Nat) (xs : List D), w.env[i]? = some (some (.own xs)) → σ[i]? ≠ some (some (.ref q.1))

/-- what stood stands (the source's list may have changed) -/
def Kp (a0 : Addr) (H H' : Hp) : Prop := ∀ b o, b ≠ a0 → H b = some o → H' b = some o
theorem Kp.refl {a0 : Addr} {H : Hp} : Kp a0 H H := fun _ _ _ h => h
theorem Kp.trans {a0 : Addr} {H H1 H2 : Hp} (a : Kp a0 H H1) (b : Kp a0 H1 H2) : Kp a0 H H2 := fun x o n h => b x o n (a x o n h)

/-- growth: what stood stands, but the source's list -/
structure Gk (a0 : Addr) (H F H' F' : Hp) : Prop where
  hh : Kp a0 H H'
  ff : Ex F F'
  fh : Ex F' H'
  fn : ∀ b o, F' b = some o → F b = some o ∨ H b = none
/-- pure growth -/
structure Gr (H F H' F' : Hp) : Prop where
  hh : Ex H H'
  ff : Ex F F'
  fh : Ex F' H'
  fn : ∀ b o, F' b = some o → F b = some o ∨ H b = none
theorem Gr.refl {H F : Hp} (h : Ex F H) : Gr H F H F := ⟨Ex.refl _, Ex.refl _, h, fun _ _ e => .inl e⟩
theorem Gr.gk {fm : Fm} {H F H' F' : Hp} (g : Gr H F H' F') : Gk fm.a0 H F H' F' := ⟨fun b o _ h => g.hh b o h, g.ff, g.fh, g.fn⟩
theorem Gr.kp {fm : Fm} {H F H' F' : Hp} (g : Gr H F H' F') : Kp fm.a0 H H' := fun b o _ h => g.hh b o h
theorem Gr.trans {H F H1 F1 H2 F2 : Hp} (a : Gr H F H1 F1) (b : Gr H1 F1 H2 F2) : Gr H F H2 F2 := ⟨a.hh.trans b.hh, a.ff.trans b.ff, b.fh, fun x o e => by
  rcases b.fn x o e with z | z
  · exact a.fn x o z
  · refine .inr ?_
    cases q : H x with
    | none => rfl
    | some u => rw [a.hh x u q] at z; cases z⟩
theorem none_of_ex {F H : Hp} {p : Addr} (h : Ex F H) (hp : H p = none) : F p = none := by
  cases e : F p with
  | none => rfl
  | some u => rw [h p u e] at hp; cases hp
/-- one new object, never to be changed -/
theorem Gr.new {H F : Hp} {p : Addr} {o : HO} (h : Ex F H) (hp : H p = none) : Gr H F (upd H p o) (upd F p o) := by
  have fp : F p = none := none_of_ex h hp
  refine ⟨Ex.new hp, Ex.new fp, fun b u e => ?_, fun b u e => ?_⟩
  · by_cases hb : b = p
    · subst hb; rw [upd_same] at e ⊢; exact e
    · rw [upd_ne hb] at e ⊢; exact h b u e
  · by_cases hb : b = p
    · subst hb; exact .inr hp
    · rw [upd_ne hb] at e; exact .inl e
/-- one new object that is not known -/
theorem Gr.dark {H F : Hp} {p : Addr} {o : HO} (h : Ex F H) (hp : H p = none) : Gr H F (upd H p o) F :=
  ⟨Ex.new hp, Ex.refl _, h.trans (Ex.new hp), fun _ _ e => .inl e⟩
section
variable {K : PySem.W.Frag} {fm : Fm} {ex : Exs} {σ : L2.St} {H F H' F' : Hp} {w : W} {ss' : SS}
theorem Own.gk {p : Addr} {xs : List D} (o : Own K fm F H p xs) (g : Gk fm.a0 H F H' F') : Own K fm F' H' p xs := by
  obtain ⟨h1, h2, h3, vs, h4, h5⟩ := o
  refine ⟨h1, ?_, h3, vs, g.hh _ _ h1 h4, h5.ex g.ff⟩
  cases e : F' p with
  | none => rfl
  | some u =>
    rcases g.fn p u e with z | z
    · rw [h2] at z; cases z
    · rw [h4] at z; cases z
theorem Rel.step (r : Rel K fm ex σ H F w) (g : Gk fm.a0 H F H' F') (s : SrcOk fm.a0 fm.c0 F' H' ss') : Rel K fm ex σ H' F' { w with ss := ss' } where
  f0 := r.f0.trans g.ff
  fh := g.fh
  gh := fun b o n h => g.hh b o n (r.gh b o n h)
  fg := fun b o h => by
    rcases g.fn b o h with z | z
    · exact r.fg b o z
    · refine .inr ?_
      cases e : fm.G b with
      | none => rfl
      | some u =>
        by_cases hb : b = fm.a0
        · subst hb; rw [r.src.at0] at z; cases z
        · have := r.gh b u hb e
          rw [z] at this; cases this
  src := s
  len := r.len
  slot := fun i s h => by
    obtain ⟨v, e, k⟩ := r.slot i s h
    refine ⟨v, e, ?_⟩
    cases s with
    | val d => exact Rp.ex k g.ff
    | own xs => obtain ⟨p, e, o⟩ := k; exact ⟨p, e, o.gk g⟩
  ap := r.ap
  exo := fun q hq => (r.exo q hq).gk g
  exn := r.exn
  exs := r.exs
theorem SrcOk.gr {ss : SS} (s : SrcOk fm.a0 fm.c0 F H ss) (g : Gr H F H' F') : SrcOk fm.a0 fm.c0 F' H' ss := by
  refine ⟨?_, g.hh _ _ s.at0, g.ff _ _ s.cells, s.ne, s.nn, s.left, s.turn⟩
  cases e : F' fm.a0 with
  | none => rfl
  | some u =>
    rcases g.fn _ u e with z | z
    · rw [s.fr] at z; cases z
    · rw [s.at0] at z; cases z
theorem Rel.gr (r : Rel K fm ex σ H F w) (g : Gr H F H' F') : Rel K fm ex σ H' F' w := r.step g.gk (r.src.gr g)

theorem slot_set {i j : Nat} {s : Slot} {t : Option Slot} {env : Env} (h : (env.set i t)[j]? = some (some s)) : (j = i ∧ i < env.length ∧ t = some s) ∨ (j ≠ i ∧ env[j]? = some (some s)) := by
  by_cases hj : j = i
  · subst hj
    by_cases hl : j < env.length
    · rw [List.getElem?_set_self hl] at h
      exact .inl ⟨rfl, hl, Option.some.inj h⟩
    · rw [List.getElem?_eq_none (by simpa using hl)] at h; cases h
  · rw [List.getElem?_set_ne (Ne.symm hj)] at h
    exact .inr ⟨hj, h⟩
/-- a name is given a value -/
theorem Rel.setVal (r : Rel K fm ex σ H F w) (i : Nat) {v : V} {d : D} (hv : Rp K fm.a0 F v d) : Rel K fm ex (σ.set i (some v)) H F { w with env := w.env.set i (some (.val d)) } where
  f0 := r.f0
  fh := r.fh
  gh := r.gh
  fg := r.fg
  src := r.src
  len := by simp [r.len]
  slot := fun j s h => by
    rcases slot_set h with ⟨rfl, hl, e⟩ | ⟨hj, h⟩
    · cases e
      exact ⟨v, List.getElem?_set_self (by rw [← r.len]; exact hl), hv⟩
    · obtain ⟨u, e, k⟩ := r.slot j s h
      exact ⟨u, by rw [List.getElem?_set_ne (Ne.symm hj)]; exact e, k⟩
  ap := fun j k xs ys p h1 h2 h3 h4 => by
    rcases slot_set h1 with ⟨_, _, e⟩ | ⟨hj, h1⟩
    · cases e
    · rcases slot_set h2 with ⟨_, _, e⟩ | ⟨hk, h2⟩
      · cases e
      · rw [List.getElem?_set_ne (Ne.symm hj)] at h3
        rw [List.getElem?_set_ne (Ne.symm hk)] at h4
        exact r.ap j k xs ys p h1 h2 h3 h4
  exo := r.exo
  exn := r.exn
  exs := fun q hq j xs h1 h2 => by
    rcases slot_set h1 with ⟨_, _, e⟩ | ⟨hj, h1⟩
    · cases e
    · rw [List.getElem?_set_ne (Ne.symm hj)] at h2
      exact r.exs q hq j xs h1 h2
/-- a name is given a new list -/
theorem Rel.setOwn {p : Addr} {xs : List D} (r : Rel K fm ((p, xs) :: ex) σ H F w) (i : Nat) : Rel K fm ex (σ.set i (some (.ref p))) H F { w with env := w.env.set i (some (.own xs)) } where
  f0 := r.f0
  fh := r.fh
  gh := r.gh
  fg := r.fg
  src := r.src
  len := by simp [r.len]
  slot := fun j s h => by
    rcases slot_set h with ⟨rfl, hl, e⟩ | ⟨hj, h⟩
    · cases e
      exact ⟨.ref p, List.getElem?_set_self (by rw [← r.len]; exact hl), p, rfl, r.exo _ (List.mem_cons_self ..)⟩
    · obtain ⟨u, e, k⟩ := r.slot j s h
      exact ⟨u, by rw [List.getElem?_set_ne (Ne.symm hj)]; exact e, k⟩
  ap := fun j k ys zs q h1 h2 h3 h4 => by
    rcases slot_set h1 with ⟨rfl, hl, e⟩ | ⟨hj, h1⟩
    · rcases slot_set h2 with ⟨rfl, _, _⟩ | ⟨hk, h2⟩
      · rfl
      · rw [List.getElem?_set_self (by rw [← r.len]; exact hl)] at h3
        rw [List.getElem?_set_ne (Ne.symm hk)] at h4
        cases h3
        exact absurd h4 (r.exs _ (List.mem_cons_self ..) k zs h2)
    · have h1o := h1
      rcases slot_set h2 with ⟨rfl, hl, _⟩ | ⟨hk, h2⟩
      · rw [List.getElem?_set_self (by rw [← r.len]; exact hl)] at h4
        rw [List.getElem?_set_ne (Ne.symm hj)] at h3
        cases h4
        exact absurd h3 (r.exs _ (List.mem_cons_self ..) j ys h1o)
      · rw [List.getElem?_set_ne (Ne.symm hj)] at h3
        rw [List.getElem?_set_ne (Ne.symm hk)] at h4
        exact r.ap j k ys zs q h1 h2 h3 h4
  exo := fun q hq => r.exo q (List.mem_cons_of_mem _ hq)
  exn := (List.nodup_cons.mp r.exn).2
  exs := fun q hq j ys h1 h2 => by
    rcases slot_set h1 with ⟨rfl, hl, e⟩ | ⟨hj, h1⟩
    · rw [List.getElem?_set_self (by rw [← r.len]; exact hl)] at h2
      have e2 : p = q.1 := by cases h2; rfl
      exact (List.nodup_cons.mp r.exn).1 (List.mem_map.mpr ⟨q, hq, e2.symm⟩)
    · rw [List.getElem?_set_ne (Ne.symm hj)] at h2
      exact r.exs q (List.mem_cons_of_mem _ hq) j ys h1 h2
theorem Rel.drop1 {q : Addr × List D} (r : Rel K fm (q :: ex) σ H F w) : Rel K fm ex σ H F w :=
  ⟨r.f0, r.fh, r.gh, r.fg, r.src, r.len, r.slot, r.ap, fun q hq => r.exo q (List.mem_cons_of_mem _ hq), (List.nodup_cons.mp r.exn).2, fun q hq => r.exs q (List.mem_cons_of_mem _ hq)⟩
/-- a name is forgotten -/
theorem Rel.setNone (r : Rel K fm ex σ H F w) (i : Nat) (o : Option V) : Rel K fm ex (σ.set i o) H F { w with env := w.env.set i none } where
  f0 := r.f0
  fh := r.fh
  gh := r.gh
  fg := r.fg
  src := r.src
  len := by simp [r.len]
  slot := fun j s h => by
    rcases slot_set h with ⟨rfl, hl, e⟩ | ⟨hj, h⟩
    · cases e
    · obtain ⟨u, e, k⟩ := r.slot j s h
      exact ⟨u, by rw [List.getElem?_set_ne (Ne.symm hj)]; exact e, k⟩
  ap := fun j k xs ys p h1 h2 h3 h4 => by
    rcases slot_set h1 with ⟨_, _, e⟩ | ⟨hj, h1⟩
    · cases e
    · rcases slot_set h2 with ⟨_, _, e⟩ | ⟨hk, h2⟩
      · cases e
      · rw [List.getElem?_set_ne (Ne.symm hj)] at h3
        rw [List.getElem?_set_ne (Ne.symm hk)] at h4
        exact r.ap j k xs ys p h1 h2 h3 h4
  exo := r.exo
  exn := r.exn
  exs := fun q hq j xs h1 h2 => by
    rcases slot_set h1 with ⟨_, _, e⟩ | ⟨hj, h1⟩
    · cases e
    · rw [List.getElem?_set_ne (Ne.symm hj)] at h2
      exact r.exs q hq j xs h1 h2
/-- freezing at p -/
theorem Own.frz {p q : Addr} {xs : List D} {o : HO} (h : Own K fm F H q xs) (n : q ≠ p) (fp : F p = none) : Own K fm (upd F p o) H q xs := by
  obtain ⟨h1, h2, h3, vs, h4, h5⟩ := h
  exact ⟨h1, by rw [upd_ne n]; exact h2, h3, vs, h4, h5.ex (Ex.new fp)⟩
/-- a new list is never to be changed from here on -/
theorem Rel.frz {p : Addr} {xs : List D} (r : Rel K fm ((p, xs) :: ex) σ H F w) : ∃ F', Ex F F' ∧ Rel K fm ex σ H F' w ∧ Rp K fm.a0 F' (.ref p) (.lst xs) := by
  obtain ⟨h1, h2, h3, vs, h4, h5⟩ := r.exo _ (List.mem_cons_self ..)
  have h1 : p ≠ fm.a0 := h1
  have h2 : F p = none := h2
  have h3 : fm.G p = none := h3
  have h4 : H p = some (.lst vs) := h4
  have e : Ex F (upd F p (.lst vs)) := Ex.new h2
  refine ⟨upd F p (.lst vs), e, ?_, .lst upd_same (h5.ex e)⟩
  have r := r
  refine ⟨r.f0.trans e, fun b o q => ?_, r.gh, fun b o q => ?_, ⟨by rw [upd_ne (Ne.symm h1)]; exact r.src.fr, r.src.at0, e _ _ r.src.cells, r.src.ne, r.src.nn, r.src.left, r.src.turn⟩, r.len, fun i s q => ?_, r.ap, fun q hq => ?_, (List.nodup_cons.mp r.exn).2, fun q hq => r.exs q (List.mem_cons_of_mem _ hq)⟩
  · by_cases hb : b = p
    · subst hb; rw [upd_same] at q; cases q; exact h4
    · rw [upd_ne hb] at q; exact r.fh b o q
  · by_cases hb : b = p
    · subst hb; exact .inr h3
    · rw [upd_ne hb] at q; exact r.fg b o q
  · obtain ⟨v, e1, k⟩ := r.slot i s q
    refine ⟨v, e1, ?_⟩
    cases s with
    | val d => exact Rp.ex k e
    | own ys =>
      obtain ⟨p', rfl, o⟩ := k
      exact ⟨p', rfl, o.frz (fun z => r.exs _ (List.mem_cons_self ..) i ys q (by rw [e1, z])) h2⟩
  · exact (r.exo q (List.mem_cons_of_mem _ hq)).frz (fun z => (List.nodup_cons.mp r.exn).1 (List.mem_map.mpr ⟨q, hq, z⟩)) h2
/-- the list of a name is taken out of the name -/
theorem Rel.takeOwn {i : Nat} {xs : List D} (r : Rel K fm ex σ H F w) (h : w.env[i]? = some (some (.own xs))) : ∃ p, σ[i]? = some (some (.ref p)) ∧ Rel K fm ((p, xs) :: ex) σ H F { w with env := w.env.set i none } := by
  obtain ⟨v, e, p, rfl, o⟩ := r.slot i _ h
  refine ⟨p, e, ?_⟩
  have r2 : Rel K fm ex σ H F { w with env := w.env.set i none } := by
    have z := r.setNone i (some (.ref p))
    have hl : i < σ.length := (List.getElem?_eq_some_iff.mp e).1
    have e2 : σ.set i (some (.ref p)) = σ := by
      have := (List.getElem?_eq_some_iff.mp e).2
      rw [← this]; exact List.set_getElem_self hl
    rw [e2] at z
    exact z
  refine ⟨r2.f0, r2.fh, r2.gh, r2.fg, r2.src, r2.len, r2.slot, r2.ap, fun q hq => ?_, ?_, fun q hq j ys h1 h2 => ?_⟩
  · rcases List.mem_cons.mp hq with rfl | hq
    · exact o
    · exact r.exo q hq
  · refine List.nodup_cons.mpr ⟨fun z => ?_, r.exn⟩
    obtain ⟨q, hq, z⟩ := List.mem_map.mp z
    exact r.exs q hq i xs h (by rw [e, z])
  · rcases List.mem_cons.mp hq with rfl | hq
    · rcases slot_set h1 with ⟨_, _, e⟩ | ⟨hj, h1⟩
      · cases e
      · exact hj (r.ap j i ys xs p h1 h h2 e)
    · exact r2.exs q hq j ys h1 h2
/-- a name's list is read as a value: it is never to be changed from here on -/
theorem Rel.frzSlot {i : Nat} {xs : List D} (r : Rel K fm ex σ H F w) (h : w.env[i]? = some (some (.own xs))) :
    ∃ p F', σ[i]? = some (some (.ref p)) ∧ Ex F F' ∧ Rel K fm ex σ H F' { w with env := w.env.set i (some (.val (.lst xs))) } ∧ Rp K fm.a0 F' (.ref p) (.lst xs) := by
  obtain ⟨p, e, r1⟩ := r.takeOwn h
  obtain ⟨F', ef, r2, k⟩ := r1.frz
  refine ⟨p, F', e, ef, ?_, k⟩
  have z := r2.setVal i k
  have hl : i < σ.length := (List.getElem?_eq_some_iff.mp e).1
  have e2 : σ.set i (some (.ref p)) = σ := by
    have := (List.getElem?_eq_some_iff.mp e).2
    rw [← this]; exact List.set_getElem_self hl
  rw [e2] at z
  simpa using z
/-- a new list is laid -/
theorem Rel.lay {p : Addr} {vs : List V} {xs : List D} (r : Rel K fm ex σ H F w) (hp : H p = none) (hv : RpAll K fm.a0 F vs xs) : Rel K fm ((p, xs) :: ex) σ (upd H p (.lst vs)) F w := by
  have r2 := r.gr (Gr.dark (o := .lst vs) r.fh hp)
  have n0 : p ≠ fm.a0 := fun z => by subst z; rw [r.src.at0] at hp; cases hp
  have ng : fm.G p = none := by
    cases e : fm.G p with
    | none => rfl
    | some u => rw [r.gh p u n0 e] at hp; cases hp
  refine ⟨r2.f0, r2.fh, r2.gh, r2.fg, r2.src, r2.len, r2.slot, r2.ap, fun q hq => ?_, ?_, fun q hq j ys h1 h2 => ?_⟩
  · rcases List.mem_cons.mp hq with rfl | hq
    · exact ⟨n0, none_of_ex r.fh hp, ng, vs, upd_same, hv⟩
    · exact r2.exo q hq
  · refine List.nodup_cons.mpr ⟨fun z => ?_, r.exn⟩
    obtain ⟨q, hq, z⟩ := List.mem_map.mp z
    obtain ⟨_, _, _, us, h4, _⟩ := r.exo q hq
    rw [z, hp] at h4; cases h4
  · rcases List.mem_cons.mp hq with rfl | hq
    · obtain ⟨v, e, p', e2, _, _, _, us, h4, _⟩ := r.slot j _ h1
      rw [h2] at e
      cases e
      cases e2
      rw [hp] at h4; cases h4
    · exact r2.exs q hq j ys h1 h2
/-- the first new list is changed -/
theorem Rel.mut {p : Addr} {vs : List V} {xs ys : List D} (r : Rel K fm ((p, xs) :: ex) σ H F w) (hv : RpAll K fm.a0 F vs ys) : Rel K fm ((p, ys) :: ex) σ (upd H p (.lst vs)) F w := by
  obtain ⟨h1, h2, h3, us, h4, h5⟩ := r.exo _ (List.mem_cons_self ..)
  have h1 : p ≠ fm.a0 := h1
  have h2 : F p = none := h2
  have h3 : fm.G p = none := h3
  have nf : ∀ b o, F b = some o → b ≠ p := fun b o e z => by subst z; rw [h2] at e; cases e
  have ow : ∀ {q : Addr} {zs : List D}, q ≠ p → Own K fm F H q zs → Own K fm F (upd H p (.lst vs)) q zs := fun n ⟨a, b, c, u, d, e⟩ => ⟨a, b, c, u, by rw [upd_ne n]; exact d, e⟩
  refine ⟨r.f0, fun b o e => by rw [upd_ne (nf b o e)]; exact r.fh b o e, fun b o n e => by rw [upd_ne (fun z => by subst z; rw [h3] at e; cases e)]; exact r.gh b o n e, r.fg,
    ⟨r.src.fr, by rw [upd_ne (Ne.symm h1)]; exact r.src.at0, r.src.cells, r.src.ne, r.src.nn, r.src.left, r.src.turn⟩, r.len, fun i s q => ?_, r.ap, fun q hq => ?_, r.exn, fun q hq j zs q1 q2 => ?_⟩
  · obtain ⟨v, e1, k⟩ := r.slot i s q
    refine ⟨v, e1, ?_⟩
    cases s with
    | val d => exact k
    | own zs =>
      obtain ⟨p', rfl, o⟩ := k
      exact ⟨p', rfl, ow (fun z => r.exs _ (List.mem_cons_self ..) i zs q (by rw [e1, z])) o⟩
  · rcases List.mem_cons.mp hq with rfl | hq
    · exact ⟨h1, h2, h3, vs, upd_same, hv⟩
    · exact ow (fun z => (List.nodup_cons.mp r.exn).1 (List.mem_map.mpr ⟨q, hq, z⟩)) (r.exo q (List.mem_cons_of_mem _ hq))
  · rcases List.mem_cons.mp hq with rfl | hq
    · exact r.exs _ (List.mem_cons_self ..) j zs q1 q2
    · exact r.exs q (List.mem_cons_of_mem _ hq) j zs q1 q2
/-- the new list goes back to its name -/
theorem Rel.putOwn {p : Addr} {i : Nat} {xs : List D} (r : Rel K fm ((p, xs) :: ex) σ H F w) (e : σ[i]? = some (some (.ref p))) : Rel K fm ex σ H F { w with env := w.env.set i (some (.own xs)) } := by
  have z := r.setOwn i
  have hl : i < σ.length := (List.getElem?_eq_some_iff.mp e).1
  have e2 : σ.set i (some (.ref p)) = σ := by
    have := (List.getElem?_eq_some_iff.mp e).2
    rw [← this]; exact List.set_getElem_self hl
  rw [e2] at z
  exact z
/-- behind an expression whose value bears no address the names hold what they held -/
theorem Rel.unf {w' : W} (r : Rel K fm ex σ H F w) (k : Kp fm.a0 H H') (f : Ex F F') (r' : Rel K fm ex σ H' F' w') : Rel K fm ex σ H' F { env := w.env, ss := w'.ss } := by
  have ow : ∀ {q : Addr} {zs : List D}, Own K fm F H q zs → Own K fm F H' q zs := fun ⟨a, b, c, u, d, e⟩ => ⟨a, b, c, u, k _ _ a d, e⟩
  refine ⟨r.f0, f.trans r'.fh, r'.gh, r.fg, ⟨r.src.fr, r'.src.at0, ?_, r'.src.ne, r'.src.nn, r'.src.left, r'.src.turn⟩, r.len, fun i s q => ?_, r.ap, fun q hq => ow (r.exo q hq), r.exn, r.exs⟩
  · have h1 := f _ _ r.src.cells
    rw [r'.src.cells] at h1
    rw [r.src.cells, ← h1]
  · obtain ⟨v, e1, kk⟩ := r.slot i s q
    refine ⟨v, e1, ?_⟩
    cases s with
    | val d => exact kk
    | own zs => obtain ⟨p', rfl, o⟩ := kk; exact ⟨p', rfl, ow o⟩
end
end TD

set_option Elab.async false
set_option linter.all false
set_option maxRecDepth 100000
set_option maxHeartbeats 4000000
namespace TD
open PySem PySem.Spec PyProof.Rows L2

/-! ### the strongest readings -/
def WE (X : Cx) (e : Expr) : TE := fun σ H Q => ∀ (pins : List (Addr × Obj)) (s : Shared), Inv X pins σ H s → wpAny (model X.prog X.w) X.A (eval e X.env) (EP X pins σ Q) X.xe s
def WT (X : Cx) (e : Expr) : TT := fun σ H Q => ∀ (pins : List (Addr × Obj)) (s : Shared), Inv X pins σ H s → wpAny (model X.prog X.w) X.A (isTrue e X.env (eval e X.env)) (TP X pins σ Q) X.xe s
def WA (X : Cx) (es : List Expr) : TA := fun σ H Q => ∀ (pos : Pos) (pins : List (Addr × Obj)) (s : Shared), Inv X pins σ H s → wpAny (model X.prog X.w) X.A (spliced (backTo pos (starEach es X.env))) (AP X pins σ Q) X.xe s
def WS (X : Cx) (st : Stmt) : TS := fun D σ H => ∀ (pins : List (Addr × Obj)) (s : Shared), Inv X pins σ H s → wpAny (model X.prog X.w) X.A (exec st X.env) (SP X pins D) X.xe s
def WSs (X : Cx) (st : List Stmt) : TS := fun D σ H => ∀ (pins : List (Addr × Obj)) (s : Shared), Inv X pins σ H s → wpAny (model X.prog X.w) X.A (execs st X.env) (SP X pins D) X.xe s
section
variable {X : Cx} {e : Expr} {es : List Expr} {st : Stmt} {sts : List Stmt} {σ : L2.St} {H : Hp}
theorem pe_we : PE X e (WE X e) := ⟨fun pins s _ _ _ I h => h pins s I⟩
theorem pt_wt : PT X e (WT X e) := ⟨fun pins s _ _ _ I h => h pins s I⟩
theorem pa_wa : PA X es (WA X es) := ⟨fun pos pins s _ _ _ I h => h pos pins s I⟩
theorem ps_ws : PS X st (WS X st) := ⟨fun pins s _ _ _ I h => h pins s I⟩
theorem pss_wss : PSs X sts (WSs X sts) := ⟨fun pins s _ _ _ I h => h pins s I⟩
theorem WE.of {t : TE} {Q : VK} (h : PE X e t) (q : t σ H Q) : WE X e σ H Q := fun pins s I => h.run pins s σ H Q I q
theorem WT.of {t : TT} {Q : Bool → Hp → Prop} (h : PT X e t) (q : t σ H Q) : WT X e σ H Q := fun pins s I => h.run pins s σ H Q I q
theorem WA.of {t : TA} {Q : List V → Hp → Prop} (h : PA X es t) (q : t σ H Q) : WA X es σ H Q := fun pos pins s I => h.run pos pins s σ H Q I q
theorem WS.of {t : TS} {D : Ends} (h : PS X st t) (q : t D σ H) : WS X st D σ H := fun pins s I => h.run pins s σ H D I q
theorem WSs.of {t : TS} {D : Ends} (h : PSs X sts t) (q : t D σ H) : WSs X sts D σ H := fun pins s I => h.run pins s σ H D I q
end
/-- an operation upon two values, as strong as it can be said -/
def W2 (X : Cx) (f : Value → Value → Sem Value) : R2 := fun x y H Q => ∀ (pins : List (Addr × Obj)) (s : Shared) (σ : L2.St) (v u : Value), Inv X pins σ H s → RelV x v → RelV y u → wpAny (model X.prog X.w) X.A (f v u) (EP X pins σ Q) X.xe s
theorem opr_w2 {X : Cx} {f : Value → Value → Sem Value} : OpR X f (W2 X f) := fun pins s σ H x y v u Q I rx ry h => h pins s σ v u I rx ry
theorem W2.of {X : Cx} {f : Value → Value → Sem Value} {r : R2} {x y : V} {H : Hp} {Q : VK} (h : OpR X f r) (q : r x y H Q) : W2 X f x y H Q := fun pins s σ v u I rx ry => h pins s σ H x y v u Q I rx ry q
def W1 (X : Cx) (f : Value → Sem Value) : V → Hp → VK → Prop := fun x H Q => ∀ (pins : List (Addr × Obj)) (s : Shared) (σ : L2.St) (v : Value), Inv X pins σ H s → RelV x v → wpAny (model X.prog X.w) X.A (f v) (EP X pins σ Q) X.xe s
theorem unr_w1 {X : Cx} {f : Value → Sem Value} : UnR X f (W1 X f) := fun pins s σ H x v Q I rx h => h pins s σ v I rx
theorem W1.of {X : Cx} {f : Value → Sem Value} {r : V → Hp → VK → Prop} {x : V} {H : Hp} {Q : VK} (h : UnR X f r) (q : r x H Q) : W1 X f x H Q := fun pins s σ v I rx => h pins s σ H x v Q I rx q
/-- a call of a value -/
def WC (X : Cx) (f : Value) : List V → Hp → VK → Prop := fun xs H Q => ∀ (pins : List (Addr × Obj)) (s : Shared) (σ : L2.St) (us : List Value), Inv X pins σ H s → Vals xs us → wpAny (model X.prog X.w) X.A (call f us) (EP X pins σ Q) X.xe s
theorem callr_wc {X : Cx} {f : Value} : CallR X f (WC X f) := fun pins s σ H xs us Q I r h => h pins s σ us I r
theorem WC.of {X : Cx} {f : Value} {r : List V → Hp → VK → Prop} {xs : List V} {H : Hp} {Q : VK} (h : CallR X f r) (q : r xs H Q) : WC X f xs H Q := fun pins s σ us I rr => h pins s σ H xs us Q I rr q

/-! ### outcomes -/
def R.bind {α β : Type} (r : R α) (k : α → W → R β) : R β := match r with
  | .ok a w => k a w
  | .exc c w => .exc c w
  | .stuck => .stuck
def R.lift {α : Type} (o : Option α) (w : W) : R α := match o with
  | some a => .ok a w
  | none => .stuck
@[simp] theorem R.bind_ok {α β : Type} (a : α) (w : W) (k : α → W → R β) : (R.ok a w).bind k = k a w := rfl
@[simp] theorem R.bind_exc {α β : Type} (c : Exn) (w : W) (k : α → W → R β) : (R.exc c w : R α).bind k = .exc c w := rfl
@[simp] theorem R.bind_stuck {α β : Type} (k : α → W → R β) : (R.stuck : R α).bind k = .stuck := rfl
@[simp] theorem R.lift_some {α : Type} (a : α) (w : W) : R.lift (some a) w = .ok a w := rfl
@[simp] theorem R.lift_none {α : Type} (w : W) : R.lift (none : Option α) w = .stuck := rfl

def ExcIs (K : PySem.W.Frag) (mg : Str → Option Value) (a0 : Addr) (c : Exn) (cls : Value) (dd : Option Addr) (F H : Hp) : Prop :=
  ∃ (C d : Addr) (v : V), mg c.c = some (.ref C) ∧ cls = .ref C ∧ dd = some d ∧ H d = some (.xd [(c.f, v)]) ∧ Rp K a0 F v c.d

def Fin (X : Cx) (Wx : WX) (fm : Fm) (ex : Exs) (σ : L2.St) (H F : Hp) {α : Type} (k : α → W → Hp → Hp → Prop) : R α → Prop
  | .ok a w' => ∀ H' F', Kp fm.a0 H H' → Ex F F' → Rel X.K fm ex σ H' F' w' → k a w' H' F'
  | .exc c w' => ∀ H' F' cls dd, Kp fm.a0 H H' → Ex F F' → Rel X.K fm ex σ H' F' w' → ExcIs X.K X.mg fm.a0 c cls dd F' H' → Wx cls dd σ H'
  | .stuck => False
section
variable {X : Cx} {Wx : WX} {fm : Fm} {ex : Exs} {σ : L2.St} {H F H' F' : Hp} {α β : Type} {k : α → W → Hp → Hp → Prop}
theorem Fin.from (h : Fin X Wx fm ex σ H F k r) (kp : Kp fm.a0 H H') (e : Ex F F') : Fin X Wx fm ex σ H' F' k r := by
  cases r with
  | ok a w' => exact fun H2 F2 k2 e2 => h H2 F2 (kp.trans k2) (e.trans e2)
  | exc c w' => exact fun H2 F2 cls dd k2 e2 => h H2 F2 cls dd (kp.trans k2) (e.trans e2)
  | stuck => exact h
theorem Fin.bind {r : R α} {q : α → W → R β} {k : β → W → Hp → Hp → Prop} (h : Fin X Wx fm ex σ H F k (r.bind q)) :
    Fin X Wx fm ex σ H F (fun a w' H' F' => Rel X.K fm ex σ H' F' w' ∧ Kp fm.a0 H H' ∧ Ex F F' ∧ Fin X Wx fm ex σ H' F' k (q a w')) r := by
  cases r with
  | ok a w' => exact fun H' F' kp e r => ⟨r, kp, e, Fin.from (r := q a w') h kp e⟩
  | exc c w' => exact h
  | stuck => exact h
theorem Fin.imp {k k' : α → W → Hp → Hp → Prop} {r : R α} (h : Fin X Wx fm ex σ H F k r) (hi : ∀ a w H' F', k a w H' F' → k' a w H' F') : Fin X Wx fm ex σ H F k' r := by
  cases r with
  | ok a w' => exact fun H' F' kp e r => hi _ _ _ _ (h H' F' kp e r)
  | exc c w' => exact h
  | stuck => exact h
theorem Fin.lift {o : Option α} {w : W} (h : Fin X Wx fm ex σ H F k (R.lift o w)) : ∃ a, o = some a ∧ ∀ H' F', Kp fm.a0 H H' → Ex F F' → Rel X.K fm ex σ H' F' w → k a w H' F' := by
  cases o with
  | some a => exact ⟨a, rfl, h⟩
  | none => exact h.elim
end

/-! ### the judgements over plain data -/
abbrev SEr (X : Cx) (Wx : WX) (fm : Fm) (e : Expr) (m : W → R D) : Prop := ∀ (ex : Exs) (σ : L2.St) (H F : Hp) (w : W) (Q : VK), Rel X.K fm ex σ H F w →
  Fin X Wx fm ex σ H F (fun d _ H' F' => ∀ v, Rp X.K fm.a0 F' v d → Q v H') (m w) → WE X e σ H Q
structure SE (X : Cx) (Wx : WX) (fm : Fm) (e : Expr) (m : W → R D) : Prop where
  run : SEr X Wx fm e m
instance {X : Cx} {Wx : WX} {fm : Fm} {e : Expr} {m : W → R D} : CoeFun (SE X Wx fm e m) (fun _ => SEr X Wx fm e m) := ⟨SE.run⟩
abbrev STtr (X : Cx) (Wx : WX) (fm : Fm) (e : Expr) (m : W → R Bool) : Prop := ∀ (ex : Exs) (σ : L2.St) (H F : Hp) (w : W) (Q : Bool → Hp → Prop), Rel X.K fm ex σ H F w →
  Fin X Wx fm ex σ H F (fun b _ H' _ => Q b H') (m w) → WT X e σ H Q
structure STt (X : Cx) (Wx : WX) (fm : Fm) (e : Expr) (m : W → R Bool) : Prop where
  run : STtr X Wx fm e m
instance {X : Cx} {Wx : WX} {fm : Fm} {e : Expr} {m : W → R Bool} : CoeFun (STt X Wx fm e m) (fun _ => STtr X Wx fm e m) := ⟨STt.run⟩
abbrev SAsr (X : Cx) (Wx : WX) (fm : Fm) (es : List Expr) (m : W → R (List D)) : Prop := ∀ (ex : Exs) (σ : L2.St) (H F : Hp) (w : W) (Q : List V → Hp → Prop), Rel X.K fm ex σ H F w →
  Fin X Wx fm ex σ H F (fun ds _ H' F' => ∀ vs, RpAll X.K fm.a0 F' vs ds → Q vs H') (m w) → WA X es σ H Q
structure SAs (X : Cx) (Wx : WX) (fm : Fm) (es : List Expr) (m : W → R (List D)) : Prop where
  run : SAsr X Wx fm es m
instance {X : Cx} {Wx : WX} {fm : Fm} {es : List Expr} {m : W → R (List D)} : CoeFun (SAs X Wx fm es m) (fun _ => SAsr X Wx fm es m) := ⟨SAs.run⟩
/-- a new list -/
def FinF (X : Cx) (Wx : WX) (fm : Fm) (ex : Exs) (σ : L2.St) (H F : Hp) (Q : VK) : R (List D) → Prop
  | .ok xs w' => ∀ p H' F', Kp fm.a0 H H' → Ex F F' → Rel X.K fm ((p, xs) :: ex) σ H' F' w' → Q (.ref p) H'
  | .exc c w' => ∀ H' F' cls dd, Kp fm.a0 H H' → Ex F F' → Rel X.K fm ex σ H' F' w' → ExcIs X.K X.mg fm.a0 c cls dd F' H' → Wx cls dd σ H'
  | .stuck => False
abbrev SFr (X : Cx) (Wx : WX) (fm : Fm) (e : Expr) (m : W → R (List D)) : Prop := ∀ (ex : Exs) (σ : L2.St) (H F : Hp) (w : W) (Q : VK), Rel X.K fm ex σ H F w →
  FinF X Wx fm ex σ H F Q (m w) → WE X e σ H Q
structure SF (X : Cx) (Wx : WX) (fm : Fm) (e : Expr) (m : W → R (List D)) : Prop where
  run : SFr X Wx fm e m
instance {X : Cx} {Wx : WX} {fm : Fm} {e : Expr} {m : W → R (List D)} : CoeFun (SF X Wx fm e m) (fun _ => SFr X Wx fm e m) := ⟨SF.run⟩

section
variable {X : Cx} {Wx : WX} {fm : Fm}
/-- a new list as a value -/
def mFrz (m : W → R (List D)) : W → R D := fun w => (m w).bind fun xs w' => .ok (.lst xs) w'
theorem se_frz {e : Expr} {m : W → R (List D)} (h : SF X Wx fm e m) : SE X Wx fm e (mFrz m) := by
  refine ⟨?_⟩
  intro ex σ H F w Q r q
  refine h ex σ H F w Q r ?_
  revert q
  unfold mFrz
  cases m w with
  | ok xs w' =>
    intro q p H' F' kp e r'
    obtain ⟨F2, e2, r2, k2⟩ := r'.frz
    exact q H' F2 kp (e.trans e2) r2 _ k2
  | exc c w' => exact fun q => q
  | stuck => exact fun q => q
def D.flat : D → Bool
  | .non | .bl _ | .int _ | .str _ => true
  | _ => false
theorem Rp.flat {K : PySem.W.Frag} {a0 : Addr} {F F' : Hp} {v : V} {d : D} (h : Rp K a0 F v d) (f : d.flat = true) : Rp K a0 F' v d := by
  cases h with
  | non => exact .non
  | bl b => exact .bl b
  | int i => exact .int i
  | str x => exact .str x
  | tup _ _ => cases f
  | lst _ _ => cases f
  | src => cases f
/-- behind an expression whose value is no object, the names hold what they held -/
def mSc (m : W → R D) : W → R D := fun w => (m w).bind fun d w' => .ok d (if d.flat = true then { env := w.env, ss := w'.ss } else w')
theorem se_sc {e : Expr} {m : W → R D} (h : SE X Wx fm e m) : SE X Wx fm e (mSc m) := by
  refine ⟨?_⟩
  intro ex σ H F w Q r q
  refine h ex σ H F w Q r ?_
  revert q
  unfold mSc
  cases m w with
  | ok d w' =>
    intro q H' F' kp e r' v hv
    cases f : d.flat with
    | true =>
      have q' : Fin X Wx fm ex σ H F (fun d _ H' F' => ∀ v, Rp X.K fm.a0 F' v d → Q v H') (.ok d { env := w.env, ss := w'.ss }) := by
        simpa [f] using q
      exact q' H' F kp (Ex.refl _) (r.unf kp e r') v (hv.flat f)
    | false =>
      have q' : Fin X Wx fm ex σ H F (fun d _ H' F' => ∀ v, Rp X.K fm.a0 F' v d → Q v H') (.ok d w') := by
        simpa [f] using q
      exact q' H' F' kp e r' v hv
  | exc c w' => exact fun q => q
  | stuck => exact fun q => q
def mScT (m : W → R Bool) : W → R Bool := fun w => (m w).bind fun b w' => .ok b { env := w.env, ss := w'.ss }
theorem st_sc {e : Expr} {m : W → R Bool} (h : STt X Wx fm e m) : STt X Wx fm e (mScT m) := by
  refine ⟨?_⟩
  intro ex σ H F w Q r q
  refine h ex σ H F w Q r ?_
  revert q
  unfold mScT
  cases m w with
  | ok d w' => exact fun q H' F' kp e r' => q H' F kp (Ex.refl _) (r.unf kp e r')
  | exc c w' => exact fun q => q
  | stuck => exact fun q => q

/-! ### names, constants -/
def mVar (i : Nat) : W → R D := fun w => match w.env[i]? with
  | some (some (.val d)) => .ok d w
  | some (some (.own xs)) => .ok (.lst xs) { w with env := w.env.set i (some (.val (.lst xs))) }
  | _ => .stuck
theorem se_var {i : Nat} {x : Str} {pos : Pos} (hN : X.N[i]? = some x := by rfl) (hv : Vis X.env.scope x := by first | exact Or.inl rfl | exact Or.inr (Or.inl rfl) | exact Or.inr (Or.inr rfl)) (hd : (x == ("__debug__" : Str)) = false := by decide)
    (hcd : (x == ("__classdict__" : Str)) = false := by decide) : SE X Wx fm (.Name x pos) (mVar i) := by
  refine ⟨?_⟩
  intro ex σ H F w Q r q
  refine WE.of (pe_var hN hv hd hcd) ?_
  revert q
  unfold mVar
  split
  · rename_i d h
    intro q
    obtain ⟨v, e, k⟩ := r.slot i _ h
    exact ⟨v, e, q H F Kp.refl (Ex.refl _) r v k⟩
  · rename_i xs h
    intro q
    obtain ⟨p, F', e, ef, r', k⟩ := r.frzSlot h
    exact ⟨_, e, q H F' Kp.refl ef r' _ k⟩
  · exact fun q => q.elim
def mC (d : D) : W → R D := fun w => .ok d w
theorem se_int {i : Int} {j pos} : SE X Wx fm (.Constant (.int i) j pos) (mC (.int i)) := ⟨fun ex σ H F w Q r q => WE.of pe_int (q H F Kp.refl (Ex.refl _) r _ (.int i))⟩
theorem se_bl {b : Bool} {j pos} : SE X Wx fm (.Constant (.bool b) j pos) (mC (.bl b)) := ⟨fun ex σ H F w Q r q => WE.of pe_bl (q H F Kp.refl (Ex.refl _) r _ (.bl b))⟩
theorem se_non {j pos} : SE X Wx fm (.Constant .none j pos) (mC .non) := ⟨fun ex σ H F w Q r q => WE.of pe_non (q H F Kp.refl (Ex.refl _) r _ .non)⟩
theorem se_str {x : Str} {j pos} : SE X Wx fm (.Constant (.str x) j pos) (mC (.str x)) := ⟨fun ex σ H F w Q r q => WE.of pe_str (q H F Kp.refl (Ex.refl _) r _ (.str x))⟩
/-- a module's constant -/
theorem se_glob {x : Str} {v : V} {d : D} {u : Value} {pos : Pos} (hg : Gl X x) (hm : X.mg x = some u) (rv : RelV v u) (hr : ∀ F, Rp X.K fm.a0 F v d) (hd : (x == ("__debug__" : Str)) = false := by decide) : SE X Wx fm (.Name x pos) (mC d) :=
  ⟨fun ex σ H F w Q r q => WE.of (pe_glob hg hm rv hd) (q H F Kp.refl (Ex.refl _) r _ (hr F))⟩

/-! ### operators -/
/-- an operation on data: by values, the heap at most growing -/
def DOp (X : Cx) (a0 : Addr) (f : Value → Value → Sem Value) (g : D → D → Option D) : Prop :=
  ∀ (x y : V) (d e r : D) (H F : Hp) (Q : VK), Ex F H → Rp X.K a0 F x d → Rp X.K a0 F y e → g d e = some r → (∀ v H' F', Gr H F H' F' → Rp X.K a0 F' v r → Q v H') → W2 X f x y H Q
def mBin (g : D → D → Option D) (ma mb : W → R D) : W → R D := fun w => (ma w).bind fun x w1 => (mb w1).bind fun y w2 => R.lift (g x y) w2
theorem se2 {a b : Expr} {ma mb : W → R D} {f : Value → Value → Sem Value} {g : D → D → Option D} {ex : Exs} {σ : L2.St} {H F : Hp} {w : W} {Q : VK} (ho : DOp X fm.a0 f g) (ha : SE X Wx fm a ma) (hb : SE X Wx fm b mb) (r : Rel X.K fm ex σ H F w)
    (q : Fin X Wx fm ex σ H F (fun d _ H' F' => ∀ v, Rp X.K fm.a0 F' v d → Q v H') (mBin g ma mb w)) : tOp (W2 X f) (WE X a) (WE X b) σ H Q := by
  show WE X a σ H fun x H1 => WE X b σ H1 fun y H2 => W2 X f x y H2 Q
  refine ha ex σ H F w _ r ((Fin.bind q).imp fun x w1 H1 F1 ⟨r1, k1, e1, q1⟩ v hv => ?_)
  refine hb ex σ H1 F1 w1 _ r1 ((Fin.bind q1).imp fun y w2 H2 F2 ⟨r2, k2, e2, q2⟩ u hu => ?_)
  obtain ⟨z, hz, q3⟩ := q2.lift
  exact ho v u x y z H2 F2 Q r2.fh (hv.ex e2) hu hz fun t H' F' g hr => q3 H' F' g.kp g.ff (r2.gr g) t hr
theorem se_bin {a b : Expr} {op : Operator} {pos : Pos} {ma mb : W → R D} {g : D → D → Option D} (ho : DOp X fm.a0 (binaryOp op) g) (ha : SE X Wx fm a ma) (hb : SE X Wx fm b mb) : SE X Wx fm (.BinOp a op b pos) (mBin g ma mb) :=
  ⟨fun ex σ H F w Q r q => WE.of (pe_op opr_w2 pe_we pe_we) (se2 ho ha hb r q)⟩
/-- a comparison as a value, as a test -/
theorem se_cmp {a b : Expr} {op : CmpOp} {pos : Pos} {ma mb : W → R D} {g : D → D → Option D} (ho : DOp X fm.a0 (compareOp op) g) (ha : SE X Wx fm a ma) (hb : SE X Wx fm b mb) (hm : behindInMarks op b = false := by first | exact nomark _ | rfl) :
    SE X Wx fm (.Compare a [op] [b] pos) (mBin g ma mb) :=
  ⟨fun ex σ H F w Q r q => WE.of (pe_cmpR opr_w2 pe_we pe_we hm) (se2 ho ha hb r q)⟩
def D.b? : D → Option Bool
  | .bl b => some b
  | _ => none
theorem Rp.b {K : PySem.W.Frag} {a0 : Addr} {F : Hp} {v : V} {d : D} {b : Bool} (h : Rp K a0 F v d) (e : d.b? = some b) : v = .bl b := by
  cases h <;> cases e
  rfl
def mB (m : W → R D) : W → R Bool := fun w => (m w).bind fun d w' => R.lift d.b? w'
theorem fin_b {r : R D} {ex : Exs} {σ : L2.St} {H F : Hp} {Q : Bool → Hp → Prop} (q : Fin X Wx fm ex σ H F (fun b _ H' _ => Q b H') (r.bind fun d w' => R.lift d.b? w')) :
    Fin X Wx fm ex σ H F (fun d _ H' F' => ∀ v, Rp X.K fm.a0 F' v d → ∃ k, v = .bl k ∧ Q k H') r := by
  cases r with
  | ok d w' =>
    intro H' F' kp e r' v hv
    obtain ⟨b, hb, q⟩ := Fin.lift (o := d.b?) (w := w') q
    exact ⟨b, hv.b hb, q H' F' kp e r'⟩
  | exc c w' => exact q
  | stuck => exact q
theorem st_cmp {a b : Expr} {op : CmpOp} {pos : Pos} {ma mb : W → R D} {g : D → D → Option D} (ho : DOp X fm.a0 (compareOp op) g) (ha : SE X Wx fm a ma) (hb : SE X Wx fm b mb) (hm : behindInMarks op b = false := by first | exact nomark _ | rfl) :
    STt X Wx fm (.Compare a [op] [b] pos) (mB (mBin g ma mb)) :=
  ⟨fun ex σ H F w Q r q => WT.of (pt_cmpR opr_w2 pe_we pe_we hm) (se2 ho ha hb r (fin_b q))⟩
/-- two comparisons in a row -/
def mChain (g g' : D → D → Option D) (ma mb mc : W → R D) : W → R D := fun w => (ma w).bind fun x w1 => (mb w1).bind fun y w2 => (R.lift ((g x y).bind D.b?) w2).bind fun k w3 =>
  if k = true then (mc w3).bind fun z w4 => R.lift (g' y z) w4 else .ok (.bl false) w3
theorem se_chain0 {a b c : Expr} {op op' : CmpOp} {ma mb mc : W → R D} {g g' : D → D → Option D} {ex : Exs} {σ : L2.St} {H F : Hp} {w : W} {Q : VK} (ho : DOp X fm.a0 (compareOp op) g) (ho' : DOp X fm.a0 (compareOp op') g') (ha : SE X Wx fm a ma) (hb : SE X Wx fm b mb) (hc : SE X Wx fm c mc)
    (r : Rel X.K fm ex σ H F w) (q : Fin X Wx fm ex σ H F (fun d _ H' F' => ∀ v, Rp X.K fm.a0 F' v d → Q v H') (mChain g g' ma mb mc w)) :
    tChain (W2 X (compareOp op)) (W2 X (compareOp op')) (WE X a) (WE X b) (WE X c) σ H Q := by
  show WE X a σ H fun x H1 => WE X b σ H1 fun y H2 => W2 X (compareOp op) x y H2 fun z H3 => ∃ k, z = .bl k ∧ if k = true then WE X c σ H3 fun w' H4 => W2 X (compareOp op') y w' H4 Q else Q (.bl false) H3
  refine ha ex σ H F w _ r ((Fin.bind q).imp fun x w1 H1 F1 ⟨r1, k1, e1, q1⟩ v hv => ?_)
  refine hb ex σ H1 F1 w1 _ r1 ((Fin.bind q1).imp fun y w2 H2 F2 ⟨r2, k2, e2, q2⟩ u hu => ?_)
  cases hz : g x y with
  | none => rw [hz] at q2; exact (show False from q2).elim
  | some z =>
    rw [hz] at q2
    cases hb : z.b? with
    | none =>
      have q2 : Fin X Wx fm ex σ H2 F2 (fun d _ H' F' => ∀ v, Rp X.K fm.a0 F' v d → Q v H') ((R.lift (z.b?) w2).bind _) := q2
      rw [hb] at q2; exact (show False from q2).elim
    | some k =>
      have q2 : Fin X Wx fm ex σ H2 F2 (fun d _ H' F' => ∀ v, Rp X.K fm.a0 F' v d → Q v H') ((R.lift (z.b?) w2).bind _) := q2
      rw [hb] at q2
      refine ho v u x y z H2 F2 _ r2.fh (hv.ex e2) hu hz fun t H3 F3 g hr => ⟨k, hr.b hb, ?_⟩
      have r3 := r2.gr g
      cases k with
      | false => exact (show Q (.bl false) H3 from q2 H3 F3 g.kp g.ff r3 _ (.bl false))
      | true =>
        have q3 : Fin X Wx fm ex σ H2 F2 (fun d _ H' F' => ∀ v, Rp X.K fm.a0 F' v d → Q v H') ((mc w2).bind fun z w4 => R.lift (g' y z) w4) := q2
        show WE X c σ H3 fun w' H4 => W2 X (compareOp op') u w' H4 Q
        refine hc ex σ H3 F3 w2 _ r3 ((Fin.bind (q3.from g.kp g.ff)).imp fun z' w4 H4 F4 ⟨r4, k4, e4, q4⟩ t' ht' => ?_)
        obtain ⟨z2, hz2, q5⟩ := q4.lift
        exact ho' u t' y z' z2 H4 F4 Q r4.fh ((hu.ex g.ff).ex e4) ht' hz2 fun t H' F' g hr => q5 H' F' g.kp g.ff (r4.gr g) t hr
theorem se_chain {a b c : Expr} {op op' : CmpOp} {pos : Pos} {ma mb mc : W → R D} {g g' : D → D → Option D} (ho : DOp X fm.a0 (compareOp op) g) (ho' : DOp X fm.a0 (compareOp op') g') (ha : SE X Wx fm a ma) (hb : SE X Wx fm b mb) (hc : SE X Wx fm c mc)
    (hm : lastMarks [op, op'] [b, c] = false := by with_unfolding_all rfl) : SE X Wx fm (.Compare a [op, op'] [b, c] pos) (mChain g g' ma mb mc) :=
  ⟨fun ex σ H F w Q r q => WE.of (pe_chain opr_w2 opr_w2 pe_we pe_we pe_we hm) (se_chain0 ho ho' ha hb hc r q)⟩
theorem st_chain {a b c : Expr} {op op' : CmpOp} {pos : Pos} {ma mb mc : W → R D} {g g' : D → D → Option D} (ho : DOp X fm.a0 (compareOp op) g) (ho' : DOp X fm.a0 (compareOp op') g') (ha : SE X Wx fm a ma) (hb : SE X Wx fm b mb) (hc : SE X Wx fm c mc)
    (hm : lastMarks [op, op'] [b, c] = false := by with_unfolding_all rfl) : STt X Wx fm (.Compare a [op, op'] [b, c] pos) (mB (mChain g g' ma mb mc)) :=
  ⟨fun ex σ H F w Q r q => WT.of (pt_chain opr_w2 opr_w2 pe_we pe_we pe_we hm) (se_chain0 ho ho' ha hb hc r (fin_b q))⟩

/-! ### tests -/
def D.tru : D → Option Bool
  | .non => some false
  | .bl b => some b
  | .int i => some (i != 0)
  | .tup l => some (!l.isEmpty)
  | .lst l => some (!l.isEmpty)
  | _ => none
theorem RpAll.emp {K : PySem.W.Frag} {a0 : Addr} {F : Hp} {vs : List V} {ds : List D} (h : RpAll K a0 F vs ds) : vs.isEmpty = ds.isEmpty := by
  cases h <;> rfl
theorem Rp.tru {K : PySem.W.Frag} {a0 : Addr} {F H : Hp} {v : V} {d : D} {b : Bool} (h : Rp K a0 F v d) (hf : Ex F H) (e : d.tru = some b) : TruV K v H b := by
  cases h with
  | non => cases e; rfl
  | bl b => cases e; rfl
  | int i => cases e; rfl
  | str x => cases e
  | src => cases e
  | tup hs ha =>
    cases e
    exact Or.inr (Or.inl ⟨_, ex_t hf hs, by rw [ha.emp]⟩)
  | lst hs ha =>
    cases e
    exact Or.inl ⟨_, .inl (.inl (hf _ _ hs)), by rw [ha.emp]⟩
def mTru (m : W → R D) : W → R Bool := fun w => (m w).bind fun d w' => R.lift d.tru w'
theorem st_tru {e : Expr} {m : W → R D} (h : SE X Wx fm e m) (he : ∀ whole, isTrue e X.env whole = (do let v ← whole; standAt e.pos; holding [v] (truthy v)) := by intro _; rfl) : STt X Wx fm e (mTru m) := by
  refine ⟨?_⟩
  intro ex σ H F w Q r q
  refine WT.of (pt_truth pe_we he) ?_
  refine h ex σ H F w _ r ((Fin.bind q).imp fun d w1 H1 F1 ⟨r1, k1, e1, q1⟩ v hv => ?_)
  obtain ⟨b, hb, q2⟩ := q1.lift
  exact ⟨b, hv.tru r1.fh hb, q2 H1 F1 Kp.refl (Ex.refl _) r1⟩
def mNotT (m : W → R Bool) : W → R Bool := fun w => (m w).bind fun b w' => .ok (!b) w'
theorem st_not {a : Expr} {pos : Pos} {m : W → R Bool} (h : STt X Wx fm a m) : STt X Wx fm (.UnaryOp .Not a pos) (mNotT m) := by
  refine ⟨?_⟩
  intro ex σ H F w Q r q
  refine WT.of (pt_not pt_wt) ?_
  exact h ex σ H F w _ r ((Fin.bind q).imp fun b w1 H1 F1 ⟨r1, k1, e1, q1⟩ => q1 H1 F1 Kp.refl (Ex.refl _) r1)
def mAndT (m n : W → R Bool) : W → R Bool := fun w => (m w).bind fun b w' => if b = true then n w' else .ok false w'
def mOrT (m n : W → R Bool) : W → R Bool := fun w => (m w).bind fun b w' => if b = true then .ok true w' else n w'
/-- a chain of and, or: whatever its whole is -/
def SW (X : Cx) (Wx : WX) (fm : Fm) (e : Expr) (m : W → R Bool) : Prop := ∃ t, PW X e t ∧ ∀ (ex : Exs) (σ : L2.St) (H F : Hp) (w : W) (Q : Bool → Hp → Prop), Rel X.K fm ex σ H F w → Fin X Wx fm ex σ H F (fun b _ H' _ => Q b H') (m w) → t σ H Q
theorem SW.st {e : Expr} {m : W → R Bool} (h : SW X Wx fm e m) : STt X Wx fm e m := by
  refine ⟨fun ex σ H F w Q r q => ?_⟩
  obtain ⟨t, p, g⟩ := h
  exact WT.of p.pt (g ex σ H F w Q r q)
theorem sw_and1 {a : Expr} {pos : Pos} {m : W → R Bool} (h : STt X Wx fm a m) : SW X Wx fm (.BoolOp .And [a] pos) m := ⟨_, pw_and1 pt_wt, h⟩
theorem sw_or1 {a : Expr} {pos : Pos} {m : W → R Bool} (h : STt X Wx fm a m) : SW X Wx fm (.BoolOp .Or [a] pos) m := ⟨_, pw_or1 pt_wt, h⟩
theorem sw_and {a b : Expr} {rest : List Expr} {pos : Pos} {m n : W → R Bool} (h : STt X Wx fm a m) (g : SW X Wx fm (.BoolOp .And (b :: rest) pos) n) : SW X Wx fm (.BoolOp .And (a :: b :: rest) pos) (mAndT m n) := by
  obtain ⟨t, p, g⟩ := g
  refine ⟨_, pw_and pt_wt p, fun ex σ H F w Q r q => ?_⟩
  refine h ex σ H F w _ r ((Fin.bind q).imp fun b w1 H1 F1 ⟨r1, k1, e1, q1⟩ => ?_)
  cases b with
  | true => exact g ex σ H1 F1 w1 Q r1 q1
  | false => exact q1 H1 F1 Kp.refl (Ex.refl _) r1
theorem sw_or {a b : Expr} {rest : List Expr} {pos : Pos} {m n : W → R Bool} (h : STt X Wx fm a m) (g : SW X Wx fm (.BoolOp .Or (b :: rest) pos) n) : SW X Wx fm (.BoolOp .Or (a :: b :: rest) pos) (mOrT m n) := by
  obtain ⟨t, p, g⟩ := g
  refine ⟨_, pw_or pt_wt p, fun ex σ H F w Q r q => ?_⟩
  refine h ex σ H F w _ r ((Fin.bind q).imp fun b w1 H1 F1 ⟨r1, k1, e1, q1⟩ => ?_)
  cases b with
  | true => exact q1 H1 F1 Kp.refl (Ex.refl _) r1
  | false => exact g ex σ H1 F1 w1 Q r1 q1
/-- and, or as values: all but the last True or False -/
def mAndV (m n : W → R D) : W → R D := fun w => (m w).bind fun d w' => (R.lift d.b? w').bind fun b w2 => if b = true then n w2 else .ok (.bl false) w2
def mOrV (m n : W → R D) : W → R D := fun w => (m w).bind fun d w' => (R.lift d.b? w').bind fun b w2 => if b = true then .ok (.bl true) w2 else n w2
theorem se_one {op : BoolOp} {a : Expr} {pos : Pos} {m : W → R D} (h : SE X Wx fm a m) : SE X Wx fm (.BoolOp op [a] pos) m := ⟨fun ex σ H F w Q r q => WE.of (pe_one pe_we) (h ex σ H F w Q r q)⟩
theorem se_and {a b : Expr} {rest : List Expr} {pos : Pos} {m n : W → R D} (h : SE X Wx fm a m) (g : SE X Wx fm (.BoolOp .And (b :: rest) pos) n) : SE X Wx fm (.BoolOp .And (a :: b :: rest) pos) (mAndV m n) := by
  refine ⟨?_⟩
  intro ex σ H F w Q r q
  refine WE.of (pe_and pe_we pe_we) ?_
  refine h ex σ H F w _ r ((Fin.bind q).imp fun d w1 H1 F1 ⟨r1, k1, e1, q1⟩ v hv => ?_)
  cases hb : d.b? with
  | none => rw [hb] at q1; exact (show False from q1).elim
  | some b =>
    rw [hb] at q1
    refine ⟨b, hv.b hb, ?_⟩
    cases b with
    | true => exact g ex σ H1 F1 w1 Q r1 q1
    | false => exact q1 H1 F1 Kp.refl (Ex.refl _) r1 _ (.bl false)
theorem se_or {a b : Expr} {rest : List Expr} {pos : Pos} {m n : W → R D} (h : SE X Wx fm a m) (g : SE X Wx fm (.BoolOp .Or (b :: rest) pos) n) : SE X Wx fm (.BoolOp .Or (a :: b :: rest) pos) (mOrV m n) := by
  refine ⟨?_⟩
  intro ex σ H F w Q r q
  refine WE.of (pe_or pe_we pe_we) ?_
  refine h ex σ H F w _ r ((Fin.bind q).imp fun d w1 H1 F1 ⟨r1, k1, e1, q1⟩ v hv => ?_)
  cases hb : d.b? with
  | none => rw [hb] at q1; exact (show False from q1).elim
  | some b =>
    rw [hb] at q1
    refine ⟨b, hv.b hb, ?_⟩
    cases b with
    | true => exact q1 H1 F1 Kp.refl (Ex.refl _) r1 _ (.bl true)
    | false => exact g ex σ H1 F1 w1 Q r1 q1
def mNotV (m : W → R D) : W → R D := fun w => (m w).bind fun d w' => (R.lift d.b? w').bind fun b w2 => .ok (.bl (!b)) w2
theorem se_not {a : Expr} {pos : Pos} {m : W → R D} (h : SE X Wx fm a m) : SE X Wx fm (.UnaryOp .Not a pos) (mNotV m) := by
  refine ⟨?_⟩
  intro ex σ H F w Q r q
  refine WE.of (pe_not pe_we) ?_
  refine h ex σ H F w _ r ((Fin.bind q).imp fun d w1 H1 F1 ⟨r1, k1, e1, q1⟩ v hv => ?_)
  cases hb : d.b? with
  | none => rw [hb] at q1; exact (show False from q1).elim
  | some b =>
    rw [hb] at q1
    exact ⟨b, hv.b hb, q1 H1 F1 Kp.refl (Ex.refl _) r1 _ (.bl _)⟩
def mIfE (t : W → R Bool) (m n : W → R D) : W → R D := fun w => (t w).bind fun b w' => if b = true then m w' else n w'
theorem se_if {c a b : Expr} {pos : Pos} {t : W → R Bool} {m n : W → R D} (hc : STt X Wx fm c t) (ha : SE X Wx fm a m) (hb : SE X Wx fm b n) : SE X Wx fm (.IfExp c a b pos) (mIfE t m n) := by
  refine ⟨?_⟩
  intro ex σ H F w Q r q
  refine WE.of (pe_ifExp pt_wt pe_we pe_we) ?_
  refine hc ex σ H F w _ r ((Fin.bind q).imp fun b w1 H1 F1 ⟨r1, k1, e1, q1⟩ => ?_)
  cases b with
  | true => exact ha ex σ H1 F1 w1 Q r1 q1
  | false => exact hb ex σ H1 F1 w1 Q r1 q1
/-- -a, ~a -/
def DUn (X : Cx) (a0 : Addr) (f : Value → Sem Value) (g : D → Option D) : Prop :=
  ∀ (x : V) (d r : D) (H F : Hp) (Q : VK), Ex F H → Rp X.K a0 F x d → g d = some r → (∀ v H' F', Gr H F H' F' → Rp X.K a0 F' v r → Q v H') → W1 X f x H Q
def mUn (g : D → Option D) (m : W → R D) : W → R D := fun w => (m w).bind fun d w' => R.lift (g d) w'
theorem se_un {a : Expr} {op : UnaryOp} {pos : Pos} {m : W → R D} {g : D → Option D} (ho : DUn X fm.a0 (unaryOp op) g) (h : SE X Wx fm a m) : SE X Wx fm (.UnaryOp op a pos) (mUn g m) := by
  refine ⟨?_⟩
  intro ex σ H F w Q r q
  refine WE.of (pe_un unr_w1 pe_we) ?_
  refine h ex σ H F w _ r ((Fin.bind q).imp fun d w1 H1 F1 ⟨r1, k1, e1, q1⟩ v hv => ?_)
  obtain ⟨z, hz, q2⟩ := q1.lift
  exact ho v d z H1 F1 Q r1.fh hv hz fun t H' F' g hr => q2 H' F' g.kp g.ff (r1.gr g) t hr
def gNeg : D → Option D
  | .int i => some (.int (-i))
  | _ => none
theorem dun_neg {a0 : Addr} : DUn X a0 (unaryOp .USub) gNeg := by
  intro x d r H F Q hf hx hg k
  cases hx <;> cases hg
  exact W1.of un_neg ⟨_, rfl, k _ _ _ (Gr.refl hf) (.int _)⟩

/-! ### argument lists, tuples, lists -/
def mNil : W → R (List D) := fun w => .ok [] w
def mCons (m : W → R D) (n : W → R (List D)) : W → R (List D) := fun w => (m w).bind fun d w1 => (n w1).bind fun ds w2 => .ok (d :: ds) w2
theorem sa_nil : SAs X Wx fm [] mNil := ⟨fun ex σ H F w Q r q => WA.of pa_nil (q H F Kp.refl (Ex.refl _) r _ .nil)⟩
def noStar : Expr → Bool
  | .Starred .. => false
  | _ => true
theorem star_cons {e : Expr} {es : List Expr} {env : PySem.Env} (h : noStar e = true) : starEach (e :: es) env = (false, eval e env) :: starEach es env := by
  cases e <;> first | rfl | cases h
theorem sa_cons {e : Expr} {es : List Expr} {m : W → R D} {n : W → R (List D)} (h : SE X Wx fm e m) (g : SAs X Wx fm es n) (hn : noStar e = true := by rfl) : SAs X Wx fm (e :: es) (mCons m n) := by
  have hs : starEach (e :: es) X.env = (false, eval e X.env) :: starEach es X.env := star_cons hn
  refine ⟨?_⟩
  intro ex σ H F w Q r q
  refine WA.of (pa_cons pe_we pa_wa hs) ?_
  show WE X e σ H fun x H1 => WA X es σ H1 fun xs H2 => Q (x :: xs) H2
  refine h ex σ H F w _ r ((Fin.bind q).imp fun d w1 H1 F1 ⟨r1, k1, e1, q1⟩ v hv => ?_)
  refine g ex σ H1 F1 w1 _ r1 ((Fin.bind q1).imp fun ds w2 H2 F2 ⟨r2, k2, e2, q2⟩ vs hvs => ?_)
  exact q2 H2 F2 Kp.refl (Ex.refl _) r2 _ (.cons (hv.ex e2) hvs)
def mTup (m : W → R (List D)) : W → R D := fun w => (m w).bind fun ds w' => R.lift (if ds.length ≤ 1000000 then some (.tup ds) else none) w'
theorem line_of {n : Nat} (h : n ≤ 1000000) : n ≤ sizeLine := Nat.le_trans h (by rw [sizeLine_eq]; decide)
theorem line_lt {n : Nat} (h : n ≤ 1000000) : n < sizeLine := Nat.lt_of_le_of_lt h (by rw [sizeLine_eq]; decide)
theorem se_tup {es : List Expr} {x1} {pos : Pos} {m : W → R (List D)} (h : SAs X Wx fm es m) : SE X Wx fm (.Tuple es x1 pos) (mTup m) := by
  refine ⟨?_⟩
  intro ex σ H F w Q r q
  refine WE.of (pe_tup pa_wa) ?_
  refine h ex σ H F w _ r ((Fin.bind q).imp fun ds w1 H1 F1 ⟨r1, k1, e1, q1⟩ vs hvs => ?_)
  by_cases hl : ds.length ≤ 1000000
  · rw [if_pos hl] at q1
    refine ⟨line_of (by rw [hvs.len]; exact hl), fun p hp => ?_⟩
    have g : Gr H1 F1 (upd H1 p (.tup vs)) (upd F1 p (.tup vs)) := Gr.new r1.fh hp
    exact q1 _ _ g.kp g.ff (r1.gr g) _ (.tup (.inl (.inl upd_same)) (hvs.ex g.ff))
  · rw [if_neg hl] at q1
    exact (show False from q1).elim
def mLst (m : W → R (List D)) : W → R (List D) := fun w => (m w).bind fun ds w' => R.lift (if ds.length ≤ 1000000 then some ds else none) w'
theorem FinF.bind {r : R (List D)} {q : List D → W → R (List D)} {ex : Exs} {σ : L2.St} {H F : Hp} {Q : VK} (h : FinF X Wx fm ex σ H F Q (r.bind q)) :
    Fin X Wx fm ex σ H F (fun a w' H' F' => Rel X.K fm ex σ H' F' w' ∧ Kp fm.a0 H H' ∧ Ex F F' ∧ FinF X Wx fm ex σ H' F' Q (q a w')) r := by
  cases r with
  | ok a w' =>
    intro H' F' kp e r
    refine ⟨r, kp, e, ?_⟩
    have h : FinF X Wx fm ex σ H F Q (q a w') := h
    revert h
    cases q a w' with
    | ok b w2 => exact fun h p H2 F2 k2 e2 => h p H2 F2 (kp.trans k2) (e.trans e2)
    | exc c w2 => exact fun h H2 F2 cls dd k2 e2 => h H2 F2 cls dd (kp.trans k2) (e.trans e2)
    | stuck => exact fun h => h
  | exc c w' => exact h
  | stuck => exact h
theorem FinF.bindD {r : R D} {q : D → W → R (List D)} {ex : Exs} {σ : L2.St} {H F : Hp} {Q : VK} (h : FinF X Wx fm ex σ H F Q (r.bind q)) :
    Fin X Wx fm ex σ H F (fun a w' H' F' => Rel X.K fm ex σ H' F' w' ∧ Kp fm.a0 H H' ∧ Ex F F' ∧ FinF X Wx fm ex σ H' F' Q (q a w')) r := by
  cases r with
  | ok a w' =>
    intro H' F' kp e r
    refine ⟨r, kp, e, ?_⟩
    have h : FinF X Wx fm ex σ H F Q (q a w') := h
    revert h
    cases q a w' with
    | ok b w2 => exact fun h p H2 F2 k2 e2 => h p H2 F2 (kp.trans k2) (e.trans e2)
    | exc c w2 => exact fun h H2 F2 cls dd k2 e2 => h H2 F2 cls dd (kp.trans k2) (e.trans e2)
    | stuck => exact fun h => h
  | exc c w' => exact h
  | stuck => exact h
theorem sf_lst {es : List Expr} {pos : Pos} {m : W → R (List D)} (h : SAs X Wx fm es m) : SF X Wx fm (.List es pos) (mLst m) := by
  refine ⟨?_⟩
  intro ex σ H F w Q r q
  refine WE.of (pe_lst pa_wa) ?_
  refine h ex σ H F w _ r ((FinF.bind q).imp fun ds w1 H1 F1 ⟨r1, k1, e1, q1⟩ vs hvs => ?_)
  by_cases hl : ds.length ≤ 1000000
  · rw [if_pos hl] at q1
    refine ⟨line_of (by rw [hvs.len]; exact hl), fun p hp => ?_⟩
    exact q1 p _ F1 (Gr.dark r1.fh hp).kp (Ex.refl _) (r1.lay hp hvs)
  · rw [if_neg hl] at q1
    exact (show False from q1).elim
end
end TD

set_option Elab.async false
set_option linter.all false
set_option maxRecDepth 100000
set_option maxHeartbeats 4000000
namespace TD
open PySem PySem.Spec PyProof.Rows L2

/-! ### operations on data -/
def gAdd : D → D → Option D
  | .int a, .int b => some (.int (a + b))
  | .str a, .str b => if a.length + b.length ≤ 1000000 then some (.str (a ++ b)) else none
  | .tup a, .tup b => if a.length + b.length ≤ 1000000 then some (.tup (a ++ b)) else none
  | _, _ => none
def gSub : D → D → Option D
  | .int a, .int b => some (.int (a - b))
  | _, _ => none
def mulOk (i j : Int) : Bool := decide (i.natAbs < 2 ^ 64) || decide (j.natAbs < 2 ^ 64) || decide (i.natAbs.log2 + j.natAbs.log2 < 1000000)
def gMul : D → D → Option D
  | .int a, .int b => if mulOk a b = true then some (.int (a * b)) else none
  | _, _ => none
def divOk (j : Int) : Bool := decide (0 < j) && decide (j.natAbs.log2 < 9000)
def gDiv : D → D → Option D
  | .int a, .int b => if divOk b = true then some (.int (a / b)) else none
  | _, _ => none
def gMod : D → D → Option D
  | .int a, .int b => if 0 < b then some (.int (a % b)) else none
  | _, _ => none
def gPow : D → D → Option D
  | .int a, .int b => if 0 ≤ b ∧ b ≤ 1000000 ∧ a.natAbs < 2 ^ 64 then some (.int (a ^ b.toNat)) else none
  | _, _ => none
def gShl : D → D → Option D
  | .int a, .int b => if 0 ≤ b ∧ (Builtin.Int.intBits a : Int) + b ≤ 2 ^ 27 then some (.int (a * 2 ^ b.toNat)) else none
  | _, _ => none
def gShr : D → D → Option D
  | .int a, .int b => if 0 ≤ b then some (.int (a / 2 ^ b.toNat)) else none
  | _, _ => none
def gAnd : D → D → Option D
  | .int a, .int b => some (.int (Builtin.bitAnd a b))
  | _, _ => none
def gOr : D → D → Option D
  | .int a, .int b => some (.int (Builtin.bitOr a b))
  | _, _ => none
def gXor : D → D → Option D
  | .int a, .int b => some (.int (Builtin.bitXor a b))
  | _, _ => none
def gLt : D → D → Option D
  | .int a, .int b => some (.bl (decide (a < b)))
  | .str a, .str b => some (.bl (decide (a.cps.toList < b.cps.toList)))
  | _, _ => none
def gLe : D → D → Option D
  | .int a, .int b => some (.bl (decide (a ≤ b)))
  | _, _ => none
def gGt : D → D → Option D
  | .int a, .int b => some (.bl (decide (b < a)))
  | _, _ => none
def gGe : D → D → Option D
  | .int a, .int b => some (.bl (decide (b ≤ a)))
  | _, _ => none
mutual
def D.py : D → PyData
  | .non => .none
  | .bl b => .bool b
  | .int i => .int i
  | .str x => .str x
  | .tup l => .tuple (D.pys l)
  | .lst l => .list (D.pys l)
  | .src => .dict []
def D.pys : List D → List PyData
  | [] => []
  | d :: ds => d.py :: D.pys ds
end
mutual
def D.eqv : D → D → Bool
  | .non, .non => true
  | .bl a, .bl b => a == b
  | .bl a, .int j => (if a then 1 else 0) == j
  | .int i, .bl b => i == (if b then 1 else 0)
  | .int i, .int j => i == j
  | .str x, .str y => x == y
  | .lst xs, .lst ys => D.eqvs xs ys
  | .tup xs, .tup ys => D.eqvs xs ys
  | _, _ => false
def D.eqvs : List D → List D → Bool
  | [], [] => true
  | x :: xs, y :: ys => D.eqv x y && D.eqvs xs ys
  | _, _ => false
end
mutual
theorem eqv_py : ∀ d e : D, PyData.eqv d.py e.py = D.eqv d e
  | .non, e => by cases e <;> simp [D.py, PyData.eqv, D.eqv]
  | .bl _, e => by cases e <;> simp [D.py, PyData.eqv, D.eqv]
  | .int _, e => by cases e <;> simp [D.py, PyData.eqv, D.eqv]
  | .str _, e => by cases e <;> simp [D.py, PyData.eqv, D.eqv]
  | .src, e => by cases e <;> simp [D.py, PyData.eqv, D.eqv]
  | .tup l, e => by
    cases e with
    | tup m => simp only [D.py, PyData.eqv, D.eqv]; exact eqvs_py l m
    | _ => simp [D.py, PyData.eqv, D.eqv]
  | .lst l, e => by
    cases e with
    | lst m => simp only [D.py, PyData.eqv, D.eqv]; exact eqvs_py l m
    | _ => simp [D.py, PyData.eqv, D.eqv]
theorem eqvs_py : ∀ l m : List D, PyData.eqvAll (D.pys l) (D.pys m) = D.eqvs l m
  | [], [] => by simp [D.pys, PyData.eqvAll, D.eqvs]
  | [], _ :: _ => by simp [D.pys, PyData.eqvAll, D.eqvs]
  | _ :: _, [] => by simp [D.pys, PyData.eqvAll, D.eqvs]
  | x :: xs, y :: ys => by
    simp only [D.pys, PyData.eqvAll, D.eqvs]
    rw [eqv_py x y, eqvs_py xs ys]
end
mutual
/-- may be compared: no source, signs that are signs, not too deep -/
def D.okb : Nat → D → Bool
  | _, .non | _, .bl _ | _, .int _ => true
  | _, .str x => PyData.strOk x
  | 0, .tup _ | 0, .lst _ => false
  | n + 1, .tup l | n + 1, .lst l => D.oks n l
  | _, .src => false
def D.oks : Nat → List D → Bool
  | _, [] => true
  | n, d :: ds => d.okb n && D.oks n ds
end
mutual
theorem okb_py : ∀ (d : D) (n : Nat), d.okb n = true → d.py.canLay0 = true ∧ d.py.depth ≤ n
  | .non, n, _ => by simp [D.py, PyData.canLay0, PyData.depth]
  | .bl _, n, _ => by simp [D.py, PyData.canLay0, PyData.depth]
  | .int _, n, _ => by simp [D.py, PyData.canLay0, PyData.depth]
  | .str x, n, h => by
    have h' : PyData.strOk x = true := by cases n <;> simpa [D.okb] using h
    simp [D.py, PyData.canLay0, PyData.depth, h']
  | .src, n, h => by cases n <;> simp [D.okb] at h
  | .tup l, 0, h => by simp [D.okb] at h
  | .tup l, n + 1, h => by
    have := oks_py l n (by simpa [D.okb] using h)
    simp only [D.py, PyData.canLay0, PyData.depth]
    exact ⟨this.1, by omega⟩
  | .lst l, 0, h => by simp [D.okb] at h
  | .lst l, n + 1, h => by
    have := oks_py l n (by simpa [D.okb] using h)
    simp only [D.py, PyData.canLay0, PyData.depth]
    exact ⟨this.1, by omega⟩
theorem oks_py : ∀ (l : List D) (n : Nat), D.oks n l = true → PyData.canLayAll0 (D.pys l) = true ∧ PyData.depthAll (D.pys l) ≤ n
  | [], n, _ => by simp [D.pys, PyData.canLayAll0, PyData.depthAll]
  | d :: ds, n, h => by
    have h' : d.okb n = true ∧ D.oks n ds = true := by simpa [D.oks] using h
    have h1 := okb_py d n h'.1
    have h2 := oks_py ds n h'.2
    simp only [D.pys, PyData.canLayAll0, PyData.depthAll, h1.1, h2.1, Bool.and_self, true_and]
    omega
end
theorem shaped_of {d : D} (h : d.okb 64 = true) : SeqAt.shaped d.py = true := by
  have := okb_py d 64 h
  unfold SeqAt.shaped
  rw [this.1, decide_eq_true this.2]
  rfl
mutual
theorem Rp.dp {K : PySem.W.Frag} {a0 : Addr} {F : Hp} : ∀ (d : D) (v : V) (n : Nat), d.okb n = true → Rp K a0 F v d → Dp K F v d.py
  | .non, _, _, _, h => by cases h; exact .non
  | .bl _, _, _, _, h => by cases h; exact .bl _
  | .int _, _, _, _, h => by cases h; exact .int _
  | .str _, _, _, _, h => by cases h; exact .str _
  | .src, _, n, o, _ => by cases n <;> simp [D.okb] at o
  | .tup l, _, 0, o, _ => by simp [D.okb] at o
  | .tup l, _, n + 1, o, h => by
    cases h with
    | tup hs ha => exact .tup hs (RpAll.dp l _ n (by simpa [D.okb] using o) ha)
  | .lst l, _, 0, o, _ => by simp [D.okb] at o
  | .lst l, _, n + 1, o, h => by
    cases h with
    | lst hs ha => exact .lst (.inl (.inl hs)) (RpAll.dp l _ n (by simpa [D.okb] using o) ha)
theorem RpAll.dp {K : PySem.W.Frag} {a0 : Addr} {F : Hp} : ∀ (ds : List D) (vs : List V) (n : Nat), D.oks n ds = true → RpAll K a0 F vs ds → DpAll K F vs (D.pys ds)
  | [], _, _, _, h => by cases h; exact .nil
  | d :: ds, _, n, o, h => by
    have h' : d.okb n = true ∧ D.oks n ds = true := by simpa [D.oks] using o
    cases h with
    | cons h1 h2 => exact .cons (Rp.dp d _ n h'.1 h1) (RpAll.dp ds _ n h'.2 h2)
end
def gEq (d e : D) : Option D := if (d.okb 64 && e.okb 64) = true then some (.bl (D.eqv d e)) else none
def gNe (d e : D) : Option D := if (d.okb 64 && e.okb 64) = true then some (.bl (!D.eqv d e)) else none
def gIs : D → D → Option D
  | .bl a, .bl b => some (.bl (decide (a = b)))
  | .non, .non => some (.bl true)
  | .bl _, .non | .int _, .non | .str _, .non | .tup _, .non | .lst _, .non => some (.bl false)
  | _, _ => none
def gIsNot : D → D → Option D
  | .bl a, .bl b => some (.bl (!decide (a = b)))
  | .non, .non => some (.bl false)
  | .bl _, .non | .int _, .non | .str _, .non | .tup _, .non | .lst _, .non => some (.bl true)
  | _, _ => none
def D.any (d : D) (l : List D) : Bool := l.any fun y => D.eqv y d
def gIn : D → D → Option D
  | d, .tup l | d, .lst l => if (d.flat && l.all D.flat) = true then some (.bl (d.any l)) else none
  | _, _ => none
def gNotIn : D → D → Option D
  | d, .tup l | d, .lst l => if (d.flat && l.all D.flat) = true then some (.bl (!d.any l)) else none
  | _, _ => none
section
variable {X : Cx} {a0 : Addr}
theorem dop_add : DOp X a0 (binaryOp .Add) gAdd := by
  intro x y d e r H F Q hf hx hy hg k
  cases hx with
  | int a =>
    cases hy with
    | int b => cases hg; exact W2.of op_add ⟨_, _, rfl, rfl, k _ _ _ (Gr.refl hf) (.int _)⟩
    | _ => cases hg
  | str a =>
    cases hy with
    | str b =>
      by_cases hl : a.length + b.length ≤ 1000000
      · rw [gAdd, if_pos hl] at hg
        cases hg
        exact W2.of op_add_str ⟨_, _, rfl, rfl, line_of hl, k _ _ _ (Gr.refl hf) (.str _)⟩
      · rw [gAdd, if_neg hl] at hg; cases hg
    | _ => cases hg
  | tup hs ha =>
    cases hy with
    | tup hs2 ha2 =>
      rename_i p vs l p2 vs2 l2
      by_cases hl : l.length + l2.length ≤ 1000000
      · rw [gAdd, if_pos hl] at hg
        cases hg
        refine W2.of op_catA ⟨_, _, _, _, rfl, rfl, ex_t hf hs, ex_t hf hs2, line_of (by rw [ha.len, ha2.len]; exact hl), fun z => ?_, fun _ z => ?_, fun _ _ q hq => ?_⟩
        · subst z
          have : l = [] := List.length_eq_zero_iff.mp (by rw [← ha.len]; rfl)
          subst this
          exact k _ _ _ (Gr.refl hf) (.tup hs2 ha2)
        · subst z
          have : l2 = [] := List.length_eq_zero_iff.mp (by rw [← ha2.len]; rfl)
          subst this
          rw [List.append_nil] at k
          exact k _ _ _ (Gr.refl hf) (.tup hs ha)
        · exact k _ _ _ (Gr.new hf hq) (.tup (.inl (.inl upd_same)) ((ha.app ha2).ex (Gr.new (o := .tup (vs ++ vs2)) hf hq).ff))
      · rw [gAdd, if_neg hl] at hg; cases hg
    | _ => cases hg
  | _ => cases hy <;> cases hg
theorem dop_int0 {f : Value → Value → Sem Value} {g : D → D → Option D} {h : Int → Int → V} {h' : Int → Int → D} (ho : OpR X f (rI0 h)) (hr : ∀ F i j, Rp X.K a0 F (h i j) (h' i j)) (hg : ∀ d e r, g d e = some r → ∃ i j, d = .int i ∧ e = .int j ∧ r = h' i j) : DOp X a0 f g := by
  intro x y d e r H F Q hf hx hy hz k
  obtain ⟨i, j, rfl, rfl, rfl⟩ := hg d e r hz
  cases hx
  cases hy
  exact W2.of ho ⟨_, _, rfl, rfl, k _ _ _ (Gr.refl hf) (hr _ _ _)⟩
theorem dop_intC {f : Value → Value → Sem Value} {g : D → D → Option D} {C : Int → Int → Prop} {h : Int → Int → V} {h' : Int → Int → D} (ho : OpR X f (rI C h)) (hr : ∀ F i j, Rp X.K a0 F (h i j) (h' i j)) (hg : ∀ d e r, g d e = some r → ∃ i j, d = .int i ∧ e = .int j ∧ C i j ∧ r = h' i j) : DOp X a0 f g := by
  intro x y d e r H F Q hf hx hy hz k
  obtain ⟨i, j, rfl, rfl, hc, rfl⟩ := hg d e r hz
  cases hx
  cases hy
  exact W2.of ho ⟨_, _, rfl, rfl, hc, k _ _ _ (Gr.refl hf) (hr _ _ _)⟩
theorem dop_sub : DOp X a0 (binaryOp .Sub) gSub := dop_int0 (h' := fun i j => .int (i - j)) op_sub (fun _ _ _ => .int _) fun d e r h => by
  cases d <;> cases e <;> cases h; exact ⟨_, _, rfl, rfl, rfl⟩
theorem dop_mul : DOp X a0 (binaryOp .Mult) gMul := by
  intro x y d e r H F Q hf hx hy hg k
  cases hx with
  | int a =>
    cases hy with
    | int b =>
      by_cases hl : mulOk a b = true
      · rw [gMul, if_pos hl] at hg
        cases hg
        have kk : Q (.int (a * b)) H := k _ _ _ (Gr.refl hf) (.int _)
        unfold mulOk at hl
        simp only [Bool.or_eq_true, decide_eq_true_eq] at hl
        rcases hl with (hl | hl) | hl
        · exact W2.of op_mul ⟨_, _, rfl, rfl, .inl (by omega), kk⟩
        · exact W2.of op_mul ⟨_, _, rfl, rfl, .inr (by omega), kk⟩
        · exact W2.of op_mulW ⟨_, _, rfl, rfl, hl, kk⟩
      · rw [gMul, if_neg hl] at hg; cases hg
    | _ => cases hg
  | _ => cases hy <;> cases hg
theorem dop_div : DOp X a0 (binaryOp .FloorDiv) gDiv := dop_intC (C := CDivW) (h' := fun i j => .int (i / j)) op_fdivW (fun _ _ _ => .int _) fun d e r h => by
  cases d <;> cases e <;> try cases h
  rename_i i j
  by_cases hl : divOk j = true
  · rw [gDiv, if_pos hl] at h
    cases h
    unfold divOk at hl
    simp only [Bool.and_eq_true, decide_eq_true_eq] at hl
    exact ⟨_, _, rfl, rfl, hl, rfl⟩
  · rw [gDiv, if_neg hl] at h; cases h
theorem dop_mod : DOp X a0 (binaryOp .Mod) gMod := dop_intC (C := fun _ j => 0 < j) (h' := fun i j => .int (i % j)) op_mod (fun _ _ _ => .int _) fun d e r h => by
  cases d <;> cases e <;> try cases h
  rename_i i j
  by_cases hl : 0 < j
  · rw [gMod, if_pos hl] at h
    cases h
    exact ⟨_, _, rfl, rfl, hl, rfl⟩
  · rw [gMod, if_neg hl] at h; cases h
theorem dop_pow : DOp X a0 (binaryOp .Pow) gPow := dop_intC (C := CPow) (h' := fun i j => .int (i ^ j.toNat)) op_pow (fun _ _ _ => .int _) fun d e r h => by
  cases d <;> cases e <;> try cases h
  rename_i i j
  by_cases hl : 0 ≤ j ∧ j ≤ 1000000 ∧ i.natAbs < 2 ^ 64
  · rw [gPow, if_pos hl] at h
    cases h
    exact ⟨_, _, rfl, rfl, hl, rfl⟩
  · rw [gPow, if_neg hl] at h; cases h
theorem dop_shl : DOp X a0 (binaryOp .LShift) gShl := dop_intC (C := CShl) (h' := fun i j => .int (i * 2 ^ j.toNat)) op_shlW (fun _ _ _ => .int _) fun d e r h => by
  cases d <;> cases e <;> try cases h
  rename_i i j
  by_cases hl : 0 ≤ j ∧ (Builtin.Int.intBits i : Int) + j ≤ 2 ^ 27
  · rw [gShl, if_pos hl] at h
    cases h
    exact ⟨_, _, rfl, rfl, hl, rfl⟩
  · rw [gShl, if_neg hl] at h; cases h
theorem dop_shr : DOp X a0 (binaryOp .RShift) gShr := dop_intC (C := fun _ j => 0 ≤ j) (h' := fun i j => .int (i / 2 ^ j.toNat)) op_shr (fun _ _ _ => .int _) fun d e r h => by
  cases d <;> cases e <;> try cases h
  rename_i i j
  by_cases hl : 0 ≤ j
  · rw [gShr, if_pos hl] at h
    cases h
    exact ⟨_, _, rfl, rfl, hl, rfl⟩
  · rw [gShr, if_neg hl] at h; cases h
theorem dop_and : DOp X a0 (binaryOp .BitAnd) gAnd := dop_int0 (h' := fun i j => .int (Builtin.bitAnd i j)) op_and (fun _ _ _ => .int _) fun d e r h => by
  cases d <;> cases e <;> cases h; exact ⟨_, _, rfl, rfl, rfl⟩
theorem dop_or : DOp X a0 (binaryOp .BitOr) gOr := dop_int0 (h' := fun i j => .int (Builtin.bitOr i j)) op_or (fun _ _ _ => .int _) fun d e r h => by
  cases d <;> cases e <;> cases h; exact ⟨_, _, rfl, rfl, rfl⟩
theorem dop_xor : DOp X a0 (binaryOp .BitXor) gXor := dop_int0 (h' := fun i j => .int (Builtin.bitXor i j)) op_xor (fun _ _ _ => .int _) fun d e r h => by
  cases d <;> cases e <;> cases h; exact ⟨_, _, rfl, rfl, rfl⟩
theorem dop_lt : DOp X a0 (compareOp .Lt) gLt := by
  intro x y d e r H F Q hf hx hy hg k
  cases hx with
  | int a =>
    cases hy with
    | int b => cases hg; exact W2.of op_lt ⟨_, _, rfl, rfl, k _ _ _ (Gr.refl hf) (.bl _)⟩
    | _ => cases hg
  | str a =>
    cases hy with
    | str b => cases hg; exact W2.of op_lt_str ⟨_, _, rfl, rfl, k _ _ _ (Gr.refl hf) (.bl _)⟩
    | _ => cases hg
  | _ => cases hy <;> cases hg
theorem dop_le : DOp X a0 (compareOp .LtE) gLe := dop_int0 (h' := fun i j => .bl (decide (i ≤ j))) op_le (fun _ _ _ => .bl _) fun d e r h => by
  cases d <;> cases e <;> cases h; exact ⟨_, _, rfl, rfl, rfl⟩
theorem dop_gt : DOp X a0 (compareOp .Gt) gGt := dop_int0 (h' := fun i j => .bl (decide (j < i))) op_gt (fun _ _ _ => .bl _) fun d e r h => by
  cases d <;> cases e <;> cases h; exact ⟨_, _, rfl, rfl, rfl⟩
theorem dop_ge : DOp X a0 (compareOp .GtE) gGe := dop_int0 (h' := fun i j => .bl (decide (j ≤ i))) op_ge (fun _ _ _ => .bl _) fun d e r h => by
  cases d <;> cases e <;> cases h; exact ⟨_, _, rfl, rfl, rfl⟩
theorem dop_eq (hu : X.A.units + 64 < cLine) : DOp X a0 (compareOp .Eq) gEq := by
  intro x y d e r H F Q hf hx hy hg k
  unfold gEq at hg
  by_cases hl : (d.okb 64 && e.okb 64) = true
  · rw [if_pos hl] at hg
    cases hg
    have h' : d.okb 64 = true ∧ e.okb 64 = true := by simpa using hl
    refine W2.of (op_eqD hu) ⟨d.py, e.py, (Rp.dp d _ 64 h'.1 (hx.ex hf)), (Rp.dp e _ 64 h'.2 (hy.ex hf)), shaped_of h'.1, shaped_of h'.2, ?_⟩
    rw [eqv_py]
    exact k _ _ _ (Gr.refl hf) (.bl _)
  · rw [if_neg hl] at hg; cases hg
theorem dop_ne (hu : X.A.units + 64 < cLine) : DOp X a0 (compareOp .NotEq) gNe := by
  intro x y d e r H F Q hf hx hy hg k
  unfold gNe at hg
  by_cases hl : (d.okb 64 && e.okb 64) = true
  · rw [if_pos hl] at hg
    cases hg
    have h' : d.okb 64 = true ∧ e.okb 64 = true := by simpa using hl
    refine W2.of (op_neD hu) ⟨d.py, e.py, (Rp.dp d _ 64 h'.1 (hx.ex hf)), (Rp.dp e _ 64 h'.2 (hy.ex hf)), shaped_of h'.1, shaped_of h'.2, ?_⟩
    rw [eqv_py]
    exact k _ _ _ (Gr.refl hf) (.bl _)
  · rw [if_neg hl] at hg; cases hg
theorem dop_is : DOp X a0 (compareOp .Is) gIs := by
  intro x y d e r H F Q hf hx hy hg k
  cases hy with
  | non =>
    cases hx <;> cases hg
    all_goals exact W2.of op_isN ⟨rfl, k _ _ _ (Gr.refl hf) (.bl _)⟩
  | bl b =>
    cases hx <;> cases hg
    exact W2.of op_isBl ⟨_, _, rfl, rfl, k _ _ _ (Gr.refl hf) (.bl _)⟩
  | _ => cases hx <;> cases hg
theorem dop_isNot : DOp X a0 (compareOp .IsNot) gIsNot := by
  intro x y d e r H F Q hf hx hy hg k
  cases hy with
  | non =>
    cases hx <;> cases hg
    all_goals exact W2.of op_notN ⟨rfl, k _ _ _ (Gr.refl hf) (.bl _)⟩
  | bl b =>
    cases hx <;> cases hg
    exact W2.of op_notBl ⟨_, _, rfl, rfl, k _ _ _ (Gr.refl hf) (.bl _)⟩
  | _ => cases hx <;> cases hg
theorem Rp.flatV {F : Hp} {v : V} {d : D} (h : Rp X.K a0 F v d) (f : d.flat = true) : L2.flatV v = true := by
  cases h <;> first | rfl | cases f
theorem eqV_eqv {F : Hp} {v u : V} {d e : D} (h : Rp X.K a0 F v d) (g : Rp X.K a0 F u e) (f : d.flat = true) (f2 : e.flat = true) : L2.eqV v u = D.eqv d e := by
  cases h <;> first | (cases f; done) | (cases g <;> first | (cases f2; done) | simp [L2.eqV, D.eqv])
theorem inV_any {F : Hp} {v : V} {d : D} (h : Rp X.K a0 F v d) (f : d.flat = true) : ∀ {vs : List V} {l : List D}, RpAll X.K a0 F vs l → l.all D.flat = true → L2.inV v vs = d.any l ∧ vs.all L2.flatV = true
  | _, [], g, _ => by cases g; exact ⟨rfl, rfl⟩
  | _, e :: l, g, f2 => by
    cases g with
    | cons g1 g2 =>
      have f3 : e.flat = true ∧ l.all D.flat = true := by simpa using f2
      obtain ⟨i1, i2⟩ := inV_any h f g2 f3.2
      unfold L2.inV D.any at *
      rw [List.any_cons, List.any_cons, i1, eqV_eqv g1 h f3.1 f, List.all_cons, g1.flatV f3.1, i2]
      exact ⟨rfl, rfl⟩
theorem dop_in : DOp X a0 (compareOp .In) gIn := by
  intro x y d e r H F Q hf hx hy hg k
  cases hy with
  | tup hs ha =>
    rename_i p vs l
    have hg : (if (d.flat && l.all D.flat) = true then some (D.bl (d.any l)) else none) = some r := by cases d <;> exact hg
    by_cases hl : (d.flat && l.all D.flat) = true
    · rw [if_pos hl] at hg
      cases hg
      have h' : d.flat = true ∧ l.all D.flat = true := by simpa using hl
      obtain ⟨i1, i2⟩ := inV_any hx h'.1 ha h'.2
      refine W2.of op_in_seq ⟨_, _, rfl, .inr (ex_t hf hs), hx.flatV h'.1, i2, ?_⟩
      rw [i1]
      exact k _ _ _ (Gr.refl hf) (.bl _)
    · rw [if_neg hl] at hg; cases hg
  | lst hs ha =>
    rename_i p vs l
    have hg : (if (d.flat && l.all D.flat) = true then some (D.bl (d.any l)) else none) = some r := by cases d <;> exact hg
    by_cases hl : (d.flat && l.all D.flat) = true
    · rw [if_pos hl] at hg
      cases hg
      have h' : d.flat = true ∧ l.all D.flat = true := by simpa using hl
      obtain ⟨i1, i2⟩ := inV_any hx h'.1 ha h'.2
      refine W2.of op_in_seq ⟨_, _, rfl, .inl (.inl (.inl (hf _ _ hs))), hx.flatV h'.1, i2, ?_⟩
      rw [i1]
      exact k _ _ _ (Gr.refl hf) (.bl _)
    · rw [if_neg hl] at hg; cases hg
  | _ => cases d <;> cases hg
theorem dop_notIn : DOp X a0 (compareOp .NotIn) gNotIn := by
  intro x y d e r H F Q hf hx hy hg k
  cases hy with
  | tup hs ha =>
    rename_i p vs l
    have hg : (if (d.flat && l.all D.flat) = true then some (D.bl (!d.any l)) else none) = some r := by cases d <;> exact hg
    by_cases hl : (d.flat && l.all D.flat) = true
    · rw [if_pos hl] at hg
      cases hg
      have h' : d.flat = true ∧ l.all D.flat = true := by simpa using hl
      obtain ⟨i1, i2⟩ := inV_any hx h'.1 ha h'.2
      refine W2.of op_notIn_seq ⟨_, _, rfl, .inr (ex_t hf hs), hx.flatV h'.1, i2, ?_⟩
      rw [i1]
      exact k _ _ _ (Gr.refl hf) (.bl _)
    · rw [if_neg hl] at hg; cases hg
  | lst hs ha =>
    rename_i p vs l
    have hg : (if (d.flat && l.all D.flat) = true then some (D.bl (!d.any l)) else none) = some r := by cases d <;> exact hg
    by_cases hl : (d.flat && l.all D.flat) = true
    · rw [if_pos hl] at hg
      cases hg
      have h' : d.flat = true ∧ l.all D.flat = true := by simpa using hl
      obtain ⟨i1, i2⟩ := inV_any hx h'.1 ha h'.2
      refine W2.of op_notIn_seq ⟨_, _, rfl, .inl (.inl (.inl (hf _ _ hs))), hx.flatV h'.1, i2, ?_⟩
      rw [i1]
      exact k _ _ _ (Gr.refl hf) (.bl _)
    · rw [if_neg hl] at hg; cases hg
  | _ => cases d <;> cases hg
end

/-! ### subscripts -/
section
variable {X : Cx} {Wx : WX} {fm : Fm}
def gIx : D → D → Option D
  | .tup l, .int i => atI l i
  | .lst l, .int i => atI l i
  | .str z, .int i => if z.length ≤ 1000000 then (atI z.cps.toList i).map fun c => .str ⟨#[c]⟩ else none
  | _, _ => none
theorem rp_atI {K : PySem.W.Frag} {a0 : Addr} {F : Hp} {vs : List V} {l : List D} {i : Int} {d : D} (h : RpAll K a0 F vs l) (e : atI l i = some d) : ∃ v, atI vs i = some v ∧ Rp K a0 F v d := by
  unfold atI at e ⊢
  rw [h.len]
  cases hj : ixN l.length i with
  | none => rw [hj] at e; cases e
  | some j =>
    rw [hj] at e
    exact h.get (i := j) e
def W2i (X : Cx) : R2 := fun x y H Q => ∀ (pins : List (Addr × Obj)) (s : Shared) (σ : L2.St) (v u : Value), Inv X pins σ H s → RelV x v → RelV y u → wpAny (model X.prog X.w) X.A (getItem v u) (EP X pins σ Q) X.xe s
/-- the strongest rule for o[i] -/
def WIx (X : Cx) : R2 := fun x y H Q => rIx X.K x y H Q
theorem se_ix {a b : Expr} {pos : Pos} {ma mb : W → R D} (ha : SE X Wx fm a ma) (hb : SE X Wx fm b mb) (hs : PlainIx b := by exact fun _ _ => rfl) : SE X Wx fm (.Subscript a b pos) (mBin gIx ma mb) := by
  refine ⟨?_⟩
  intro ex σ H F w Q r q
  refine WE.of (pe_ix ix_seq pe_we pe_we hs) ?_
  show WE X a σ H fun x H1 => WE X b σ H1 fun y H2 => rIx X.K x y H2 Q
  refine ha ex σ H F w _ r ((Fin.bind q).imp fun x w1 H1 F1 ⟨r1, k1, e1, q1⟩ v hv => ?_)
  refine hb ex σ H1 F1 w1 _ r1 ((Fin.bind q1).imp fun y w2 H2 F2 ⟨r2, k2, e2, q2⟩ u hu => ?_)
  obtain ⟨z, hz, q3⟩ := q2.lift
  have hv := hv.ex e2
  cases hu with
  | int i =>
    cases hv with
    | tup h1 h2 =>
      obtain ⟨t, ht, rt⟩ := rp_atI h2 (show atI _ i = some z from hz)
      exact .inr (.inl ⟨_, _, _, _, rfl, rfl, ex_t r2.fh h1, ht, q3 H2 F2 Kp.refl (Ex.refl _) r2 t rt⟩)
    | lst h1 h2 =>
      obtain ⟨t, ht, rt⟩ := rp_atI h2 (show atI _ i = some z from hz)
      exact .inl ⟨_, _, _, _, rfl, rfl, .inl (.inl (r2.fh _ _ h1)), ht, q3 H2 F2 Kp.refl (Ex.refl _) r2 t rt⟩
    | str x =>
      have hz : (if x.length ≤ 1000000 then (atI x.cps.toList i).map fun c => D.str ⟨#[c]⟩ else none) = some z := hz
      by_cases hl : x.length ≤ 1000000
      · rw [if_pos hl] at hz
        cases hc : atI x.cps.toList i with
        | none => rw [hc] at hz; cases hz
        | some c =>
          rw [hc] at hz
          cases hz
          exact .inr (.inr ⟨_, _, _, rfl, rfl, line_of hl, hc, q3 H2 F2 Kp.refl (Ex.refl _) r2 _ (.str _)⟩)
      · rw [if_neg hl] at hz; cases hz
    | _ => cases hz
  | _ => cases hv <;> cases hz
/-- a part of a slice -/
def SO (X : Cx) (Wx : WX) (fm : Fm) (e : Option Expr) (m : W → R (Option Int)) : Prop := ∃ t, PO X e t ∧ ∀ (ex : Exs) (σ : L2.St) (H F : Hp) (w : W) (Q : Option Int → Hp → Prop), Rel X.K fm ex σ H F w → Fin X Wx fm ex σ H F (fun o _ H' _ => Q o H') (m w) → t σ H Q
def mNoP : W → R (Option Int) := fun w => .ok none w
def D.i? : D → Option Int
  | .int i => some i
  | _ => none
theorem Rp.i {K : PySem.W.Frag} {a0 : Addr} {F : Hp} {v : V} {d : D} {i : Int} (h : Rp K a0 F v d) (e : d.i? = some i) : v = .int i := by
  cases h <;> cases e
  rfl
def mP (m : W → R D) : W → R (Option Int) := fun w => (m w).bind fun d w' => R.lift (d.i?.map some) w'
theorem so_none : SO X Wx fm none mNoP := ⟨_, po_none, fun ex σ H F w Q r q => q H F Kp.refl (Ex.refl _) r⟩
theorem so_some {e : Expr} {m : W → R D} (h : SE X Wx fm e m) : SO X Wx fm (some e) (mP m) := by
  refine ⟨_, po_some pe_we, fun ex σ H F w Q r q => ?_⟩
  refine h ex σ H F w _ r ((Fin.bind q).imp fun d w1 H1 F1 ⟨r1, k1, e1, q1⟩ v hv => ?_)
  obtain ⟨z, hz, q2⟩ := q1.lift
  cases hi : d.i? with
  | none => rw [hi] at hz; cases hz
  | some i =>
    rw [hi] at hz
    cases hz
    exact ⟨i, hv.i hi, q2 H1 F1 Kp.refl (Ex.refl _) r1⟩
def cutD (xs : List D) (lo hi : Option Int) : List D := (xs.drop (HT.sIx xs.length 0 lo)).take (HT.sIx xs.length xs.length hi - HT.sIx xs.length 0 lo)
theorem rp_cut {K : PySem.W.Frag} {a0 : Addr} {F : Hp} {vs : List V} {l : List D} (h : RpAll K a0 F vs l) (lo hi : Option Int) : RpAll K a0 F (cutV vs lo hi) (cutD l lo hi) := by
  unfold cutV cutD
  rw [h.len]
  exact (h.drop _).take _
def D.t? : D → Option (List D)
  | .tup l => some l
  | _ => none
def D.l? : D → Option (List D)
  | .lst l => some l
  | _ => none
/-- t[a:b] of a tuple -/
def mSlT (m : W → R D) (lo hi : W → R (Option Int)) : W → R D := fun w => (m w).bind fun d w1 => (lo w1).bind fun a w2 => (hi w2).bind fun b w3 => R.lift (d.t?.map fun l => .tup (cutD l a b)) w3
theorem se_slT {e : Expr} {lo hi : Option Expr} {p2 pos : Pos} {m : W → R D} {ml mh : W → R (Option Int)} (h : SE X Wx fm e m) (hl : SO X Wx fm lo ml) (hh : SO X Wx fm hi mh) : SE X Wx fm (.Subscript e (.Slice lo hi none p2) pos) (mSlT m ml mh) := by
  refine ⟨?_⟩
  intro ex σ H F w Q r q
  obtain ⟨tl, pl, gl⟩ := hl
  obtain ⟨th, ph, gh⟩ := hh
  refine WE.of (pe_slice sl_tupA pe_we pl ph) ?_
  show WE X e σ H fun x H1 => tl σ H1 fun l H2 => th σ H2 fun u H3 => rSlA X.K x l u H3 Q
  refine h ex σ H F w _ r ((Fin.bind q).imp fun d w1 H1 F1 ⟨r1, k1, e1, q1⟩ v hv => ?_)
  refine gl ex σ H1 F1 w1 _ r1 ((Fin.bind q1).imp fun a w2 H2 F2 ⟨r2, k2, e2, q2⟩ => ?_)
  refine gh ex σ H2 F2 w2 _ r2 ((Fin.bind q2).imp fun b w3 H3 F3 ⟨r3, k3, e3, q3⟩ => ?_)
  obtain ⟨z, hz, q4⟩ := q3.lift
  have hv := (hv.ex e2).ex e3
  cases hv with
  | @tup p vs l h1 h2 =>
    cases hz
    refine ⟨_, _, rfl, ex_t r3.fh h1, fun hw => ?_, fun _ p' hp => ?_⟩
    · have ec : cutD l a b = l := by
        have hw' : HT.sIx l.length 0 a = 0 ∧ HT.sIx l.length l.length b = l.length := by rw [← h2.len]; exact hw
        unfold cutD
        rw [hw'.1, hw'.2]
        simp
      refine q4 H3 F3 Kp.refl (Ex.refl _) r3 _ ?_
      show Rp X.K fm.a0 F3 (V.ref p) (.tup (cutD l a b))
      rw [ec]
      exact .tup h1 h2
    · have g : Gr H3 F3 (upd H3 p' (.tup (cutV vs a b))) (upd F3 p' (.tup (cutV vs a b))) := Gr.new r3.fh hp
      exact q4 _ _ g.kp g.ff (r3.gr g) _ (.tup (.inl (.inl upd_same)) ((rp_cut h2 a b).ex g.ff))
  | _ => cases hz
/-- xs[a:b] of a list -/
def mSlL (m : W → R D) (lo hi : W → R (Option Int)) : W → R (List D) := fun w => (m w).bind fun d w1 => (lo w1).bind fun a w2 => (hi w2).bind fun b w3 => R.lift (d.l?.map fun l => cutD l a b) w3
theorem FinF.bindO {r : R (Option Int)} {q : Option Int → W → R (List D)} {ex : Exs} {σ : L2.St} {H F : Hp} {Q : VK} (h : FinF X Wx fm ex σ H F Q (r.bind q)) :
    Fin X Wx fm ex σ H F (fun a w' H' F' => Rel X.K fm ex σ H' F' w' ∧ Kp fm.a0 H H' ∧ Ex F F' ∧ FinF X Wx fm ex σ H' F' Q (q a w')) r := by
  cases r with
  | ok a w' =>
    intro H' F' kp e r
    refine ⟨r, kp, e, ?_⟩
    have h : FinF X Wx fm ex σ H F Q (q a w') := h
    revert h
    cases q a w' with
    | ok b w2 => exact fun h p H2 F2 k2 e2 => h p H2 F2 (kp.trans k2) (e.trans e2)
    | exc c w2 => exact fun h H2 F2 cls dd k2 e2 => h H2 F2 cls dd (kp.trans k2) (e.trans e2)
    | stuck => exact fun h => h
  | exc c w' => exact h
  | stuck => exact h
theorem sf_slL {e : Expr} {lo hi : Option Expr} {p2 pos : Pos} {m : W → R D} {ml mh : W → R (Option Int)} (h : SE X Wx fm e m) (hl : SO X Wx fm lo ml) (hh : SO X Wx fm hi mh) : SF X Wx fm (.Subscript e (.Slice lo hi none p2) pos) (mSlL m ml mh) := by
  refine ⟨?_⟩
  intro ex σ H F w Q r q
  obtain ⟨tl, pl, gl⟩ := hl
  obtain ⟨th, ph, gh⟩ := hh
  refine WE.of (pe_slice sl_list pe_we pl ph) ?_
  show WE X e σ H fun x H1 => tl σ H1 fun l H2 => th σ H2 fun u H3 => rSlL X.K x l u H3 Q
  refine h ex σ H F w _ r ((FinF.bindD q).imp fun d w1 H1 F1 ⟨r1, k1, e1, q1⟩ v hv => ?_)
  refine gl ex σ H1 F1 w1 _ r1 ((FinF.bindO q1).imp fun a w2 H2 F2 ⟨r2, k2, e2, q2⟩ => ?_)
  refine gh ex σ H2 F2 w2 _ r2 ((FinF.bindO q2).imp fun b w3 H3 F3 ⟨r3, k3, e3, q3⟩ => ?_)
  have hv := (hv.ex e2).ex e3
  cases hv with
  | @lst p0 vs l h1 h2 =>
    refine ⟨_, _, rfl, .inl (.inl (r3.fh _ _ h1)), fun p hp => ?_⟩
    have q3 : FinF X Wx fm ex σ H3 F3 Q (.ok (cutD l a b) w3) := q3
    exact q3 p _ F3 (Gr.dark r3.fh hp).kp (Ex.refl _) (r3.lay hp (rp_cut h2 a b))
  | _ => exact (show False from q3).elim
/-- xs[::-1] of a list -/
def mRevL (m : W → R D) : W → R (List D) := fun w => (m w).bind fun d w1 => R.lift (d.l?.map List.reverse) w1
theorem sf_revL {e : Expr} {k : Nat} {p1 p2 p3 pos : Pos} {m : W → R D} (h : SE X Wx fm e m) : SF X Wx fm (.Subscript e (.Slice none none (some (.UnaryOp .USub (.Constant (.int 1) k p1) p2)) p3) pos) (mRevL m) := by
  refine ⟨?_⟩
  intro ex σ H F w Q r q
  refine WE.of (pe_revL pe_we) ?_
  refine h ex σ H F w _ r ((FinF.bindD q).imp fun d w1 H1 F1 ⟨r1, k1, e1, q1⟩ v hv => ?_)
  cases hv with
  | @lst p0 vs l h1 h2 =>
    refine ⟨_, _, rfl, .inl (.inl (r1.fh _ _ h1)), fun p hp => ?_⟩
    have q1 : FinF X Wx fm ex σ H1 F1 Q (.ok l.reverse w1) := q1
    exact q1 p _ F1 (Gr.dark r1.fh hp).kp (Ex.refl _) (r1.lay hp h2.rev)
  | _ => exact (show False from q1).elim
/-- xs + ys, lists -/
def mCat (ma mb : W → R D) : W → R (List D) := fun w => (ma w).bind fun x w1 => (mb w1).bind fun y w2 => R.lift (match x, y with | .lst a, .lst b => if a.length + b.length ≤ 1000000 then some (a ++ b) else none | _, _ => none) w2
theorem sf_cat {a b : Expr} {pos : Pos} {ma mb : W → R D} (ha : SE X Wx fm a ma) (hb : SE X Wx fm b mb) : SF X Wx fm (.BinOp a .Add b pos) (mCat ma mb) := by
  refine ⟨?_⟩
  intro ex σ H F w Q r q
  refine WE.of (pe_op op_cat pe_we pe_we) ?_
  show WE X a σ H fun x H1 => WE X b σ H1 fun y H2 => rCat x y H2 Q
  refine ha ex σ H F w _ r ((FinF.bindD q).imp fun x w1 H1 F1 ⟨r1, k1, e1, q1⟩ v hv => ?_)
  refine hb ex σ H1 F1 w1 _ r1 ((FinF.bindD q1).imp fun y w2 H2 F2 ⟨r2, k2, e2, q2⟩ u hu => ?_)
  have hv := hv.ex e2
  cases hv with
  | @lst p0 vs l h1 h2 =>
    cases hu with
    | @lst p2 us l2 h3 h4 =>
      by_cases hl : l.length + l2.length ≤ 1000000
      · have q2 : FinF X Wx fm ex σ H2 F2 Q (R.lift (if l.length + l2.length ≤ 1000000 then some (l ++ l2) else none) w2) := q2
        rw [if_pos hl] at q2
        exact ⟨_, _, _, _, rfl, rfl, r2.fh _ _ h1, r2.fh _ _ h3, line_of (by rw [h2.len, h4.len]; exact hl), fun p hp => q2 p _ F2 (Gr.dark r2.fh hp).kp (Ex.refl _) (r2.lay hp (h2.app h4))⟩
      · have q2 : FinF X Wx fm ex σ H2 F2 Q (R.lift (if l.length + l2.length ≤ 1000000 then some (l ++ l2) else none) w2) := q2
        rw [if_neg hl] at q2
        exact (show False from q2).elim
    | _ => exact (show False from q2).elim
  | _ => exact (show False from (by cases y <;> exact q2)).elim
end
end TD

set_option Elab.async false
set_option linter.all false
set_option maxRecDepth 100000
set_option maxHeartbeats 4000000
namespace TD
open PySem PySem.Spec PyProof.Rows L2

section
variable {X : Cx} {Wx : WX} {fm : Fm}
/-! ### built-in calls -/
def DCall (X : Cx) (a0 : Addr) (f : Value) (g : List D → Option D) : Prop :=
  ∀ (vs : List V) (ds : List D) (r : D) (H F : Hp) (Q : VK), Ex F H → RpAll X.K a0 F vs ds → g ds = some r → (∀ v H' F', Gr H F H' F' → Rp X.K a0 F' v r → Q v H') → WC X f vs H Q
def mBlt (g : List D → Option D) (m : W → R (List D)) : W → R D := fun w => (m w).bind fun ds w' => R.lift (g ds) w'
theorem se_blt0 {es : List Expr} {m : W → R (List D)} {f : Value} {g : List D → Option D} {ex : Exs} {σ : L2.St} {H F : Hp} {w : W} {Q : VK} (hc : DCall X fm.a0 f g) (ha : SAs X Wx fm es m) (r : Rel X.K fm ex σ H F w)
    (q : Fin X Wx fm ex σ H F (fun d _ H' F' => ∀ v, Rp X.K fm.a0 F' v d → Q v H') (mBlt g m w)) : tCB (WC X f) (WA X es) σ H Q := by
  show WA X es σ H fun vs H1 => WC X f vs H1 Q
  refine ha ex σ H F w _ r ((Fin.bind q).imp fun ds w1 H1 F1 ⟨r1, k1, e1, q1⟩ vs hv => ?_)
  obtain ⟨z, hz, q2⟩ := q1.lift
  exact hc vs ds z H1 F1 Q r1.fh hv hz fun t H' F' g hr => q2 H' F' g.kp g.ff (r1.gr g) t hr
theorem se_callB {e : Expr} {es : List Expr} {x : Str} {p pos : Pos} {id : String} {m : W → R (List D)} {g : List D → Option D} (hc : DCall X fm.a0 (.builtin id) g) (hm : X.mg x = none) (hv : bootBuiltins x = some (.builtin id)) (ha : SAs X Wx fm (e :: es) m) (hg : Gl X x := by rfl)
    (hn : x ≠ "__name__" := by decide) (hdb : (x == ("__debug__" : Str)) = false := by decide)
    (he : starEach (e :: es) X.env = (false, eval e X.env) :: starEach es X.env := by rfl) (hpl : (backTo pos (starEach es X.env)).any (·.1) = false := by rfl) : SE X Wx fm (.Call (.Name x p) (e :: es) [] pos) (mBlt g m) :=
  ⟨fun ex σ H F w Q r q => WE.of (pe_callB callr_wc hg hm hv pa_wa hn hdb he hpl) (se_blt0 hc ha r q)⟩
theorem se_callTy {e : Expr} {es : List Expr} {x : Str} {p pos : Pos} {T : String} {m : W → R (List D)} {g : List D → Option D} (hc : DCall X fm.a0 (.type T) g) (hm : X.mg x = none) (hv : bootBuiltins x = some (.type T)) (ha : SAs X Wx fm (e :: es) m) (hg : Gl X x := by rfl)
    (hn : x ≠ "__name__" := by decide) (hdb : (x == ("__debug__" : Str)) = false := by decide)
    (he : starEach (e :: es) X.env = (false, eval e X.env) :: starEach es X.env := by rfl) (hpl : (backTo pos (starEach es X.env)).any (·.1) = false := by rfl) : SE X Wx fm (.Call (.Name x p) (e :: es) [] pos) (mBlt g m) :=
  ⟨fun ex σ H F w Q r q => WE.of (pe_callTy callr_wc hg hm hv pa_wa hn hdb he hpl) (se_blt0 hc ha r q)⟩
def gLen : List D → Option D
  | [.tup l] => some (.int l.length)
  | [.lst l] => some (.int l.length)
  | [.str z] => if z.length ≤ 1000000 then some (.int z.length) else none
  | _ => none
theorem dc_len {a0 : Addr} : DCall X a0 (.builtin "len") gLen := by
  intro vs ds r H F Q hf hv hg k
  cases hv with
  | nil => cases hg
  | cons h1 h2 =>
    cases h2 with
    | cons _ _ => cases h1 <;> cases hg
    | nil =>
      cases h1 with
      | tup hs ha =>
        cases hg
        have kk := k _ _ _ (Gr.refl hf) (.int _)
        rw [← ha.len] at kk
        exact WC.of call_len_seq ⟨_, _, rfl, .inr (ex_t hf hs), kk⟩
      | lst hs ha =>
        cases hg
        have kk := k _ _ _ (Gr.refl hf) (.int _)
        rw [← ha.len] at kk
        exact WC.of call_len_seq ⟨_, _, rfl, .inl (.inl (.inl (hf _ _ hs))), kk⟩
      | str z =>
        have hg : (if z.length ≤ 1000000 then some (D.int z.length) else none) = some r := hg
        by_cases hl : z.length ≤ 1000000
        · rw [if_pos hl] at hg
          cases hg
          exact WC.of call_len_str ⟨_, rfl, line_of hl, k _ _ _ (Gr.refl hf) (.int _)⟩
        · rw [if_neg hl] at hg; cases hg
      | _ => cases hg
def gAbs : List D → Option D
  | [.int i] => some (.int (if i < 0 then -i else i))
  | _ => none
theorem dc_abs {a0 : Addr} : DCall X a0 (.builtin "abs") gAbs := by
  intro vs ds r H F Q hf hv hg k
  cases hv with
  | nil => cases hg
  | cons h1 h2 =>
    cases h2 with
    | cons _ _ => cases h1 <;> cases hg
    | nil =>
      cases h1 <;> cases hg
      exact WC.of call_abs ⟨_, rfl, k _ _ _ (Gr.refl hf) (.int _)⟩
def gInt : List D → Option D
  | [.int i] => some (.int i)
  | [.bl b] => some (.int (if b then 1 else 0))
  | _ => none
theorem dc_int {a0 : Addr} : DCall X a0 (.type "int") gInt := by
  intro vs ds r H F Q hf hv hg k
  cases hv with
  | nil => cases hg
  | cons h1 h2 =>
    cases h2 with
    | cons _ _ => cases h1 <;> cases hg
    | nil =>
      cases h1 with
      | int i => cases hg; exact WC.of call_int1 (.inl ⟨_, rfl, k _ _ _ (Gr.refl hf) (.int _)⟩)
      | bl b => cases hg; exact WC.of call_int1 (.inr ⟨_, rfl, k _ _ _ (Gr.refl hf) (.int _)⟩)
      | _ => cases hg
def gTuple : List D → Option D
  | [.tup l] => some (.tup l)
  | [.lst l] => some (.tup l)
  | _ => none
theorem dc_tuple {a0 : Addr} : DCall X a0 (.type "tuple") gTuple := by
  intro vs ds r H F Q hf hv hg k
  cases hv with
  | nil => cases hg
  | cons h1 h2 =>
    cases h2 with
    | cons _ _ => cases h1 <;> cases hg
    | nil =>
      cases h1 with
      | tup hs ha => cases hg; exact WC.of call_tuple_of ⟨_, _, rfl, .inr ⟨ex_t hf hs, k _ _ _ (Gr.refl hf) (.tup hs ha)⟩⟩
      | lst hs ha => cases hg; exact WC.of call_tuple_of ⟨_, _, rfl, .inl ⟨.inl (.inl (hf _ _ hs)), fun p hp => k _ _ _ (Gr.new hf hp) (.tup (.inl (.inl upd_same)) (ha.ex (Gr.new hf hp).ff))⟩⟩
      | _ => cases hg
def ints? : List D → Option (List Int)
  | [] => some []
  | .int i :: l => (ints? l).map (i :: ·)
  | _ => none
theorem ints_rp {K : PySem.W.Frag} {a0 : Addr} {F : Hp} : ∀ {l : List D} {ns : List Int} {vs : List V}, ints? l = some ns → RpAll K a0 F vs l → vs = ns.map V.int
  | [], ns, _, e, h => by cases e; cases h; rfl
  | .int i :: l, ns, _, e, h => by
    unfold ints? at e
    cases q : ints? l with
    | none => rw [q] at e; cases e
    | some ms =>
      rw [q] at e
      cases e
      cases h with
      | cons h1 h2 =>
        cases h1
        rw [ints_rp q h2]
        rfl
  | .non :: _, _, _, e, _ => by cases e
  | .bl _ :: _, _, _, e, _ => by cases e
  | .str _ :: _, _, _, e, _ => by cases e
  | .tup _ :: _, _, _, e, _ => by cases e
  | .lst _ :: _, _, _, e, _ => by cases e
  | .src :: _, _, _, e, _ => by cases e
theorem ints_map (ns : List Int) : ints? (ns.map D.int) = some ns := by
  induction ns with
  | nil => rfl
  | cons n r ih => rw [List.map_cons, ints?, ih]; rfl
def maxL (ns : List Int) : Int := ns.foldl max (ns.headD 0)
def minL (ns : List Int) : Int := ns.foldl min (ns.headD 0)
theorem foldl_max_ge : ∀ (ns : List Int) (a : Int), a ≤ ns.foldl max a ∧ ∀ y ∈ ns, y ≤ ns.foldl max a
  | [], a => ⟨Int.le_refl _, fun _ h => nomatch h⟩
  | n :: r, a => by
    have := foldl_max_ge r (max a n)
    rw [List.foldl_cons]
    refine ⟨by omega, fun y hy => ?_⟩
    rcases List.mem_cons.mp hy with rfl | hy
    · omega
    · exact this.2 y hy
theorem foldl_max_mem : ∀ (ns : List Int) (a : Int), ns.foldl max a = a ∨ ns.foldl max a ∈ ns
  | [], a => .inl rfl
  | n :: r, a => by
    rw [List.foldl_cons]
    rcases foldl_max_mem r (max a n) with h | h
    · rw [h]
      by_cases c : a ≤ n
      · right; rw [Int.max_eq_right c]; exact List.mem_cons_self ..
      · left; exact Int.max_eq_left (by omega)
    · exact .inr (List.mem_cons_of_mem _ h)
theorem maxL_spec {ns : List Int} (h : ns ≠ []) : maxL ns ∈ ns ∧ ∀ y ∈ ns, y ≤ maxL ns := by
  cases ns with
  | nil => exact absurd rfl h
  | cons n r =>
    refine ⟨?_, (foldl_max_ge _ _).2⟩
    rcases foldl_max_mem (n :: r) n with e | e
    · show (n :: r).foldl max n ∈ _
      rw [e]; exact List.mem_cons_self ..
    · exact e
theorem maxL_eq {ns : List Int} {m : Int} (h : m ∈ ns) (hm : ∀ y ∈ ns, y ≤ m) : m = maxL ns := by
  have := maxL_spec (List.ne_nil_of_mem h)
  have h1 := this.2 m h
  have h2 := hm _ this.1
  omega
def gMax : List D → Option D
  | [.int i, .int j] => some (.int (if j > i then j else i))
  | [.lst l] => match ints? l with
    | some (n :: r) => some (.int (maxL (n :: r)))
    | _ => none
  | _ => none
theorem dc_max {a0 : Addr} (hc : X.calm = true) : DCall X a0 (.builtin "max") gMax := by
  intro vs ds r H F Q hf hv hg k
  cases hv with
  | nil => cases hg
  | cons h1 h2 =>
    cases h2 with
    | cons h3 h4 =>
      cases h4 with
      | cons _ _ => cases h1 <;> cases h3 <;> cases hg
      | nil =>
        cases h1 <;> cases h3 <;> cases hg
        exact WC.of (call_max2 hc) ⟨_, _, rfl, k _ _ _ (Gr.refl hf) (.int _)⟩
    | nil =>
      cases h1 with
      | @lst p us l hs ha =>
        have hg : (match ints? l with | some (n :: r) => some (D.int (maxL (n :: r))) | _ => none) = some r := hg
        cases q : ints? l with
        | none => rw [q] at hg; cases hg
        | some ns =>
          rw [q] at hg
          cases ns with
          | nil => cases hg
          | cons n ns =>
            cases hg
            have e := ints_rp q ha
            subst e
            exact WC.of (cr_max hc) ⟨_, _, rfl, .inl (.inl (hf _ _ hs)), by simp, fun m hm hle => by
              rw [maxL_eq hm hle]
              exact k _ _ _ (Gr.refl hf) (.int _)⟩
      | _ => cases hg
def gMin : List D → Option D
  | [.int i, .int j] => some (.int (if j < i then j else i))
  | _ => none
theorem dc_min {a0 : Addr} (hc : X.calm = true) : DCall X a0 (.builtin "min") gMin := by
  intro vs ds r H F Q hf hv hg k
  cases hv with
  | nil => cases hg
  | cons h1 h2 =>
    cases h2 with
    | cons h3 h4 =>
      cases h4 with
      | cons _ _ => cases h1 <;> cases h3 <;> cases hg
      | nil =>
        cases h1 <;> cases h3 <;> cases hg
        exact WC.of (call_min2 hc) ⟨_, _, rfl, k _ _ _ (Gr.refl hf) (.int _)⟩
    | nil => cases h1 <;> cases hg
def gSum : List D → Option D
  | [.lst l] => (ints? l).map fun ns => .int ns.sum
  | _ => none
theorem dc_sum {a0 : Addr} (hc : X.calm = true) : DCall X a0 (.builtin "sum") gSum := by
  intro vs ds r H F Q hf hv hg k
  cases hv with
  | nil => cases hg
  | cons h1 h2 =>
    cases h2 with
    | cons _ _ => cases h1 <;> cases hg
    | nil =>
      cases h1 with
      | @lst p us l hs ha =>
        have hg : ((ints? l).map fun ns => D.int ns.sum) = some r := hg
        cases q : ints? l with
        | none => rw [q] at hg; cases hg
        | some ns =>
          rw [q] at hg
          cases hg
          have e := ints_rp q ha
          subst e
          exact WC.of (cr_sum hc) ⟨_, _, rfl, .inl (.inl (hf _ _ hs)), k _ _ _ (Gr.refl hf) (.int _)⟩
      | _ => cases hg
/-- list(x): a new list -/
def D.seq? : D → Option (List D)
  | .tup l => some l
  | .lst l => some l
  | _ => none
def mListOf (m : W → R D) : W → R (List D) := fun w => (m w).bind fun d w' => R.lift d.seq? w'
theorem sf_listOf {e : Expr} {p pos : Pos} {m : W → R D} (h : SE X Wx fm e m) (hm : X.mg "list" = none) (hg : Gl X "list" := by rfl) (he : starEach [e] X.env = (false, eval e X.env) :: starEach [] X.env := by rfl) (hpl : (backTo pos (starEach [] X.env)).any (·.1) = false := by rfl) :
    SF X Wx fm (.Call (.Name "list" p) [e] [] pos) (mListOf m) := by
  refine ⟨?_⟩
  intro ex σ H F w Q r q
  refine WE.of (pe_callTy call_list_of hg hm (by decide +kernel) (pa_cons pe_we pa_nil he) (by decide) (by decide) he hpl) ?_
  show WE X e σ H fun x H1 => ∃ p ys, [x] = [.ref p] ∧ (SqL X.K H1 p ys ∨ SqT X.K H1 p ys) ∧ ∀ l, H1 l = none → Q (.ref l) (upd H1 l (.lst ys))
  refine h ex σ H F w _ r ((FinF.bindD q).imp fun d w1 H1 F1 ⟨r1, k1, e1, q1⟩ v hv => ?_)
  cases hv with
  | @tup p us l hs ha =>
    have q1 : FinF X Wx fm ex σ H1 F1 Q (.ok l w1) := q1
    exact ⟨_, _, rfl, .inr (ex_t r1.fh hs), fun p hp => q1 p _ F1 (Gr.dark r1.fh hp).kp (Ex.refl _) (r1.lay hp ha)⟩
  | @lst p us l hs ha =>
    have q1 : FinF X Wx fm ex σ H1 F1 Q (.ok l w1) := q1
    exact ⟨_, _, rfl, .inl (.inl (.inl (r1.fh _ _ hs))), fun p hp => q1 p _ F1 (Gr.dark r1.fh hp).kp (Ex.refl _) (r1.lay hp ha)⟩
  | _ => exact (show False from q1).elim
/-- isinstance(x, T), T a built-in type -/
def D.ty : D → Option String
  | .non => some "NoneType"
  | .bl _ => some "bool"
  | .int _ => some "int"
  | .str _ => some "str"
  | .tup _ => some "tuple"
  | .lst _ => some "list"
  | .src => none
def D.isi (T : String) (d : D) : Option Bool := d.ty.bind fun t => kitB t T
theorem Rp.tyx {F H : Hp} {v : V} {d : D} {t : String} (h : Rp X.K fm.a0 F v d) (hf : Ex F H) (e : d.ty = some t) : TyX X.K H v (.type t) := by
  cases h with
  | non => cases e; exact .base .non
  | bl b => cases e; exact .base (.bl b)
  | int i => cases e; exact .base (.int i)
  | str x => cases e; exact .base (.str x)
  | src => cases e
  | lst hs ha => cases e; exact .base (.lst (hf _ _ hs))
  | tup hs ha =>
    cases e
    rcases hs with (hs | ⟨o, hs⟩) | ⟨o, its, n, h1, h2, _⟩
    · exact .base (.tup (hf _ _ hs))
    · exact .fTuple (hf _ _ hs)
    · exact .kTuple h1 h2
def mIsi (T : String) (m : W → R D) : W → R D := fun w => (m w).bind fun d w' => R.lift ((d.isi T).map D.bl) w'
theorem se_isi {e : Expr} {x : Str} {T : String} {p p2 pos : Pos} {m : W → R D} (h : SE X Wx fm e m) (hm : X.mg "isinstance" = none) (hmT : X.mg x = none) (hT : bootBuiltins x = some (.type T)) (hg : Gl X "isinstance" := by rfl) (hgT : Gl X x := by rfl) (hn : x ≠ "__name__" := by decide) (hdb : (x == ("__debug__" : Str)) = false := by decide)
    (he : starEach [e, .Name x p2] X.env = (false, eval e X.env) :: starEach [.Name x p2] X.env := by rfl) (he2 : starEach [.Name x p2] X.env = (false, eval (.Name x p2) X.env) :: starEach [] X.env := by rfl) (hpl : (backTo pos (starEach [.Name x p2] X.env)).any (·.1) = false := by rfl) :
    SE X Wx fm (.Call (.Name "isinstance" p) [e, .Name x p2] [] pos) (mIsi T m) := by
  refine ⟨?_⟩
  intro ex σ H F w Q r q
  refine WE.of (pe_callB call_isi hg hm (by decide +kernel) (pa_cons pe_we (pa_cons (pe_bltn (v := .ty T) hgT hmT hT rfl hn hdb) pa_nil he2) he) (by decide) (by decide) he hpl) ?_
  show WE X e σ H fun y H1 => rIsi X.K [y, .ty T] H1 Q
  refine h ex σ H F w _ r ((Fin.bind q).imp fun d w1 H1 F1 ⟨r1, k1, e1, q1⟩ v hv => ?_)
  obtain ⟨z, hz, q2⟩ := q1.lift
  unfold D.isi at hz
  cases ht : d.ty with
  | none => rw [ht] at hz; cases hz
  | some t =>
    rw [ht] at hz
    cases hb : kitB t T with
    | none =>
      have hz : (kitB t T).map D.bl = some z := hz
      rw [hb] at hz; cases hz
    | some b =>
      have hz : (kitB t T).map D.bl = some z := hz
      rw [hb] at hz
      cases hz
      exact ⟨v, .ty T, .type t, .type T, b, rfl, .ty T, hv.tyx r1.fh ht, kit_ty hb, q2 H1 F1 Kp.refl (Ex.refl _) r1 _ (.bl b)⟩

/-! ### defs: the promise, the call -/
end
inductive RF where
  | ok (d : D) (ss : SS)
  | exc (c : Exn) (ss : SS)
  | stuck
def FinM (K : PySem.W.Frag) (mg : Str → Option Value) (a0 c0 : Addr) (F H : Hp) (Q : VK) (E : XK) : RF → Prop
  | .ok d ss' => ∀ v H' F', Gk a0 H F H' F' → SrcOk a0 c0 F' H' ss' → Rp K a0 F' v d → Q v H'
  | .exc c ss' => ∀ H' F' cls dd, Gk a0 H F H' F' → SrcOk a0 c0 F' H' ss' → ExcIs K mg a0 c cls dd F' H' → E cls dd H'
  | .stuck => False
def spM (K : PySem.W.Frag) (mg : Str → Option Value) (n : Nat) (m : List D → SS → RF) : Sp := fun vs H Q E =>
  ∃ (a0 c0 : Addr) (F : Hp) (ds : List D) (ss : SS), vs.length = n ∧ Ex F H ∧ SrcOk a0 c0 F H ss ∧ RpAll K a0 F vs ds ∧ FinM K mg a0 c0 F H Q E (m ds ss)
/-- the module's def of the name x computes m of its n arguments, by at most level k -/
structure Cal (P : Program) (w : World) (K : PySem.W.Frag) (mg : Str → Option Value) (base : Heap) (k : Nat) (x : Str) (n : Nat) (m : List D → SS → RF) : Prop where
  ex : ∃ (f : Addr) (fd : FuncData) (ps : List Str), FnOk P w K mg base (L2.CX P w) k f fd ps (spM K mg n m) ∧ mg x = some (.ref f) ∧ PySem.W.keepIn K (.ref f) = true ∧ Binds K fd ps []
def mCall (n : Nat) (f : List D → SS → RF) (m : W → R (List D)) : W → R D := fun w => (m w).bind fun ds w1 => if ds.length = n then match f ds w1.ss with
  | .ok d ss' => .ok d { w1 with ss := ss' }
  | .exc c ss' => .exc c { w1 with ss := ss' }
  | .stuck => .stuck
  else .stuck
section
variable {X : Cx} {Wx : WX} {fm : Fm}
theorem se_call {e : Expr} {es : List Expr} {x : Str} {p pos : Pos} {k n : Nat} {f : List D → SS → RF} {m : W → R (List D)} (c : Cal X.prog X.w X.K X.mg X.base k x n f) (tk : Takes X Wx) (hr : Room k X.A) (ha : SAs X Wx fm (e :: es) m) (hg : Gl X x := by rfl)
    (hdb : (x == ("__debug__" : Str)) = false := by decide) (he : starEach (e :: es) X.env = (false, eval e X.env) :: starEach es X.env := by rfl) (hpl : (backTo pos (starEach es X.env)).any (·.1) = false := by rfl) :
    SE X Wx fm (.Call (.Name x p) (e :: es) [] pos) (mCall n f m) := by
  obtain ⟨fa, fd, ps, Fo, hm, hk, hb⟩ := c.ex
  refine ⟨?_⟩
  intro ex σ H F w Q r q
  refine WE.of (pe_callS Fo hr hg hm hk hb (fun σ => passAt tk σ) pa_wa hdb he hpl) ?_
  show WA X (e :: es) σ H fun vs H1 => spM X.K X.mg n f vs H1 Q (L2.WE Wx σ)
  refine ha ex σ H F w _ r ((Fin.bind q).imp fun ds w1 H1 F1 ⟨r1, k1, e1, q1⟩ vs hv => ?_)
  by_cases hl : ds.length = n
  · rw [if_pos hl] at q1
    refine ⟨fm.a0, fm.c0, F1, ds, w1.ss, hv.len.trans hl, r1.fh, r1.src, hv, ?_⟩
    revert q1
    cases f ds w1.ss with
    | ok d ss' => exact fun q1 v H' F' g s rv => q1 H' F' g.hh g.ff (r1.step g s) v rv
    | exc c ss' => exact fun q1 H' F' cls dd g s xc => q1 H' F' cls dd g.hh g.ff (r1.step g s) xc
    | stuck => exact fun q1 => q1
  · rw [if_neg hl] at q1
    exact (show False from q1).elim
/-- f(), no argument; it raises nothing -/
def mCall0 (f : List D → SS → RF) : W → R D := fun w1 => match f [] w1.ss with
  | .ok d ss' => .ok d { w1 with ss := ss' }
  | _ => .stuck
theorem se_call0 {x : Str} {p pos : Pos} {k : Nat} {f : List D → SS → RF} (c : Cal X.prog X.w X.K X.mg X.base k x 0 f) (hr : Room k X.A) (hg : Gl X x := by rfl)
    (hdb : (x == ("__debug__" : Str)) = false := by decide) : SE X Wx fm (.Call (.Name x p) [] [] pos) (mCall0 f) := by
  obtain ⟨fa, fd, ps, Fo, hm, hk, hb⟩ := c.ex
  refine ⟨?_⟩
  intro ex σ H F w Q r q
  refine WE.of (pe_call0 (dvs := []) Fo hr hg hm hk hb .nil passL hdb) ?_
  refine ⟨fm.a0, fm.c0, F, [], w.ss, rfl, r.fh, r.src, .nil, ?_⟩
  revert q
  unfold mCall0
  cases f [] w.ss with
  | ok d ss' => exact fun q1 v H' F' g s rv => q1 H' F' g.hh g.ff (r.step g s) v rv
  | exc c ss' => exact fun q1 => q1.elim
  | stuck => exact fun q1 => q1

/-! ### what a for walks -/
def WI (X : Cx) (tg iter : Expr) : TI := fun σ H R => ∀ (pins : List (Addr × Obj)) (s : Shared), Inv X pins σ H s →
  wpAny (model X.prog X.w) X.A (eval iter X.env) (fun v s1 => wpAny (model X.prog X.w) X.A (pyIter v) (PIE X pins σ tg R) X.xe s1) X.xe s
theorem pi_wi {tg iter : Expr} : PI X tg iter (WI X tg iter) := ⟨fun pins s _ _ _ I h => h pins s I⟩
theorem WI.of {tg iter : Expr} {t : TI} {σ : L2.St} {H : Hp} {R : It → Hp → Prop} (h : PI X tg iter t) (q : t σ H R) : WI X tg iter σ H R := fun pins s I => h.run pins s σ H R I q
structure Wk (K : PySem.W.Frag) (a0 : Addr) (J : It) (ds : List D) (F : Hp) : Prop where
  ex : ∃ (G : Hp → Prop) (Y : Nat → Hp → V → Hp → Prop), Walk J ds.length G Y ∧ (∀ H, Ex F H → G H) ∧
    ∀ i H F1 x H', i < ds.length → Ex F F1 → Ex F1 H → Y i H x H' → ∃ F2 d, ds[i]? = some d ∧ Gr H F1 H' F2 ∧ Rp K a0 F2 x d
abbrev SItr (X : Cx) (Wx : WX) (fm : Fm) (tg iter : Expr) (m : W → R (List D)) : Prop := ∀ (ex : Exs) (σ : L2.St) (H F : Hp) (w : W) (R : It → Hp → Prop), Rel X.K fm ex σ H F w →
  Fin X Wx fm ex σ H F (fun ds _ H' F' => ∀ J, Wk X.K fm.a0 J ds F' → R J H') (m w) → WI X tg iter σ H R
structure SIt (X : Cx) (Wx : WX) (fm : Fm) (tg iter : Expr) (m : W → R (List D)) : Prop where
  run : SItr X Wx fm tg iter m
instance {X : Cx} {Wx : WX} {fm : Fm} {tg iter : Expr} {m : W → R (List D)} : CoeFun (SIt X Wx fm tg iter m) (fun _ => SItr X Wx fm tg iter m) := ⟨SIt.run⟩
def signs (z : Str) : List D := z.cps.toList.map fun c => .str ⟨#[c]⟩
def D.items : D → Option (List D)
  | .tup l => some l
  | .lst l => some l
  | .str z => some (signs z)
  | _ => none
def mItems (m : W → R D) : W → R (List D) := fun w => (m w).bind fun d w' => R.lift d.items w'
theorem wk_at {K : PySem.W.Frag} {a0 : Addr} {J : It} {G : Hp → Prop} {vs : List V} {ds : List D} {F : Hp} (w : Walk J vs.length G (YAt vs)) (hG : ∀ H, Ex F H → G H) (ha : RpAll K a0 F vs ds) : Wk K a0 J ds F := by
  refine ⟨G, YAt vs, by rw [← ha.len]; exact w, hG, fun i H F1 x H' hi e1 e2 y => ?_⟩
  obtain ⟨rfl, y⟩ := y
  obtain ⟨d, h1, h2⟩ := ha.getv y
  exact ⟨F1, d, h1, Gr.refl e2, h2.ex e1⟩
/-- the iterator of a value that is there -/
def ItrOk (X : Cx) (tg : Expr) (R : It → Hp → Prop) (x : V) (H : Hp) : Prop := ∀ (pins : List (Addr × Obj)) (s : Shared) (σ : L2.St) (u : Value), Inv X pins σ H s → RelV x u → wpAny (model X.prog X.w) X.A (pyIter u) (PIE X pins σ tg R) X.xe s
theorem iter_list {tg : Expr} {R : It → Hp → Prop} {a : Addr} {H : Hp} {vs : List V} (hq : SqL X.K H a vs) (q : R (Itl X.K a) H) : ItrOk X tg R (.ref a) H := by
  intro pins s σ u I r
  cases r
  obtain ⟨its, rv, p, hz⟩ := I.list hq
  refine wpAny_pyIter_list p.isList ?_
  refine ⟨s.heap.objs.size, [s.heap.objs.size], _, _, H, rfl, I.kept (t' := s.toks) fun b o e => Heap.get?_push_of_some _ e, turn_list a _, ⟨_, Heap.get?_push_size _ rfl, rfl, rfl⟩, fun b hb => ?_, q⟩
  have e : b = s.heap.objs.size := by simpa using hb
  subst e
  exact I.fpOk (Nat.le_refl _) (I.hok.fresh (Nat.le_refl _))
theorem iter_tup {tg : Expr} {R : It → Hp → Prop} {a : Addr} {H : Hp} {vs : List V} (hq : SqT X.K H a vs) (q : R (Itt X.K a) H) : ItrOk X tg R (.ref a) H := by
  intro pins s σ u I r
  cases r
  obtain ⟨its, rv, p, hz⟩ := I.tuple hq
  refine wpAny_pyIter_tuple (show s.heap.IsTuple a its.toArray from p) ?_
  refine ⟨s.heap.objs.size, [s.heap.objs.size], _, _, H, rfl, I.kept (t' := s.toks) fun b o e => Heap.get?_push_of_some _ e, turn_tuple a _, ⟨_, Heap.get?_push_size _ rfl, rfl, rfl⟩, fun b hb => ?_, q⟩
  have e : b = s.heap.objs.size := by simpa using hb
  subst e
  exact I.fpOk (Nat.le_refl _) (I.hok.fresh (Nat.le_refl _))
theorem iter_str {tg : Expr} {R : It → Hp → Prop} {x : Str} {H : Hp} (q : R (Its x) H) : ItrOk X tg R (.str x) H := by
  intro pins s σ u I r
  obtain ⟨t, rfl⟩ := r
  cases ha : x.cps.all (· < 128)
  · exact wpAny_pyIter_wide ha (pi_one (tk := s.toks) I _ (turn_str _ x t "str_iterator" (.inr rfl)) ⟨_, Heap.get?_push_size _ rfl, rfl, rfl⟩ q)
  · exact wpAny_pyIter_ascii ha (pi_one (tk := s.toks) I _ (turn_str _ x t "str_ascii_iterator" (.inl rfl)) ⟨_, Heap.get?_push_size _ rfl, rfl, rfl⟩ q)
theorem si_seq {tg e : Expr} {m : W → R D} (h : SE X Wx fm e m) : SIt X Wx fm tg e (mItems m) := by
  refine ⟨?_⟩
  intro ex σ H F w R r q
  intro pins s I
  have key : WE X e σ H fun v H1 => ItrOk X tg R v H1 := by
    refine h ex σ H F w _ r ((Fin.bind q).imp fun d w1 H1 F1 ⟨r1, k1, e1, q1⟩ v hv => ?_)
    cases hv with
    | @lst p us l hs ha =>
      have q1 : ∀ H' F', Kp fm.a0 H1 H' → Ex F1 F' → Rel X.K fm ex σ H' F' w1 → ∀ J, Wk X.K fm.a0 J l F' → R J H' := q1
      exact iter_list (.inl (.inl (r1.fh _ _ hs))) (q1 H1 F1 Kp.refl (Ex.refl _) r1 _ (wk_at walk_list (fun H' e => .inl (.inl (e _ _ hs))) ha))
    | @tup p us l hs ha =>
      have q1 : ∀ H' F', Kp fm.a0 H1 H' → Ex F1 F' → Rel X.K fm ex σ H' F' w1 → ∀ J, Wk X.K fm.a0 J l F' → R J H' := q1
      exact iter_tup (ex_t r1.fh hs) (q1 H1 F1 Kp.refl (Ex.refl _) r1 _ (wk_at walk_tup (fun H' e => ex_t e hs) ha))
    | str z =>
      have q1 : ∀ H' F', Kp fm.a0 H1 H' → Ex F1 F' → Rel X.K fm ex σ H' F' w1 → ∀ J, Wk X.K fm.a0 J (signs z) F' → R J H' := q1
      refine iter_str (q1 H1 F1 Kp.refl (Ex.refl _) r1 _ ⟨fun _ => True, (fun i H v H' => H' = H ∧ ∃ c, z.cps[i]? = some c ∧ v = .str ⟨#[c]⟩), ?_, fun _ _ => trivial, fun i H F1 x H' hi e1 e2 y => ?_⟩)
      · have e : (signs z).length = z.cps.size := by simp [signs]
        rw [e]
        exact walk_str
      · obtain ⟨rfl, c, hc, rfl⟩ := y
        refine ⟨F1, .str ⟨#[c]⟩, ?_, Gr.refl e2, .str _⟩
        have hc' : z.cps.toList[i]? = some c := by simpa using hc
        unfold signs
        rw [List.getElem?_map, hc']
        rfl
    | _ => exact (show False from q1).elim
  exact thn (key pins s I) fun u s1 ⟨v, H1, I1, rv, hv⟩ => hv pins s1 σ u I1 rv
/-- range(n), range(a, b) -/
def rngD (a b : Int) : List D := (List.range (b - a).toNat).map fun (i : Nat) => D.int (a + (i : Int))
def small (i : Int) : Bool := decide (-(2 ^ 62) ≤ i) && decide (i < 2 ^ 62)
theorem small_b {i : Int} (h : small i = true) : -(2 ^ 62) ≤ i ∧ i < 2 ^ 62 := by
  unfold small at h
  simpa using h
def mRng1 (m : W → R (List D)) : W → R (List D) := fun w => (m w).bind fun ds w' => R.lift (match ds with | [.int b] => if small b = true then some (rngD 0 b) else none | _ => none) w'
def mRng2 (m : W → R (List D)) : W → R (List D) := fun w => (m w).bind fun ds w' => R.lift (match ds with | [.int a, .int b] => if (small a && small b) = true then some (rngD a b) else none | _ => none) w'
theorem wk_rng {K : PySem.W.Frag} {a0 : Addr} {a b : Int} {F : Hp} : Wk K a0 (Itr a (b - a).toNat) (rngD a b) F := by
  have e : (rngD a b).length = (b - a).toNat := by simp [rngD]
  refine ⟨fun _ => True, (YFn fun i => .int (a + i)), by rw [e]; exact walk_range, fun _ _ => trivial, fun i H F1 x H' hi e1 e2 y => ?_⟩
  obtain ⟨rfl, rfl⟩ := y
  refine ⟨F1, .int (a + i), ?_, Gr.refl e2, .int _⟩
  unfold rngD
  rw [List.getElem?_map, List.getElem?_range (by omega)]
  rfl
theorem si_rng1 {tg a : Expr} {p pos : Pos} {m : W → R (List D)} (ha : SAs X Wx fm [a] m) (hm : X.mg "range" = none) (hg : Gl X "range" := by rfl) (hs : starEach [a] X.env = [(false, eval a X.env)] := by rfl) : SIt X Wx fm tg (.Call (.Name "range" p) [a] [] pos) (mRng1 m) := by
  refine ⟨?_⟩
  intro ex σ H F w R r q
  refine WI.of (pi_range1 hg hm pa_wa hs) ?_
  show WA X [a] σ H fun vs H1 => ∃ j : Int, vs = [.int j] ∧ -(2 ^ 62) ≤ j ∧ j < 2 ^ 62 ∧ R (Itr 0 j.toNat) H1
  refine ha ex σ H F w _ r ((Fin.bind q).imp fun ds w1 H1 F1 ⟨r1, k1, e1, q1⟩ vs hv => ?_)
  obtain ⟨z, hz, q2⟩ := q1.lift
  split at hz
  · rename_i b _
    by_cases hb : small b = true
    · rw [if_pos hb] at hz
      cases hz
      cases hv with
      | cons h1 h2 =>
        cases h1
        cases h2
        have k := wk_rng (K := X.K) (a0 := fm.a0) (a := 0) (b := b) (F := F1)
        rw [Int.sub_zero] at k
        exact ⟨b, rfl, (small_b hb).1, (small_b hb).2, q2 H1 F1 Kp.refl (Ex.refl _) r1 _ k⟩
    · rw [if_neg hb] at hz; cases hz
  · cases hz
theorem si_rng2 {tg a b : Expr} {p pos : Pos} {m : W → R (List D)} (ha : SAs X Wx fm [a, b] m) (hm : X.mg "range" = none) (hg : Gl X "range" := by rfl) (hs : starEach [a, b] X.env = [(false, eval a X.env), (false, eval b X.env)] := by rfl) (hs2 : starEach [b] X.env = [(false, eval b X.env)] := by rfl) :
    SIt X Wx fm tg (.Call (.Name "range" p) [a, b] [] pos) (mRng2 m) := by
  refine ⟨?_⟩
  intro ex σ H F w R r q
  refine WI.of (pi_range2 hg hm pa_wa hs hs2) ?_
  show WA X [a, b] σ H fun vs H1 => ∃ i j : Int, vs = [.int i, .int j] ∧ (-(2 ^ 62) ≤ i ∧ i < 2 ^ 62 ∧ -(2 ^ 62) ≤ j ∧ j < 2 ^ 62) ∧ R (Itr i (j - i).toNat) H1
  refine ha ex σ H F w _ r ((Fin.bind q).imp fun ds w1 H1 F1 ⟨r1, k1, e1, q1⟩ vs hv => ?_)
  obtain ⟨z, hz, q2⟩ := q1.lift
  split at hz
  · rename_i a b _
    by_cases hb : (small a && small b) = true
    · rw [if_pos hb] at hz
      cases hz
      have hb' : small a = true ∧ small b = true := by simpa using hb
      cases hv with
      | cons h1 h2 =>
        cases h1
        cases h2 with
        | cons h3 h4 =>
          cases h3
          cases h4
          exact ⟨a, b, rfl, ⟨(small_b hb'.1).1, (small_b hb'.1).2, (small_b hb'.2).1, (small_b hb'.2).2⟩, q2 H1 F1 Kp.refl (Ex.refl _) r1 _ wk_rng⟩
    · rw [if_neg hb] at hz; cases hz
  · cases hz
end
end TD

set_option Elab.async false
set_option linter.all false
set_option maxRecDepth 100000
set_option maxHeartbeats 4000000
namespace TD
open PySem PySem.Spec PyProof.Rows L2

/-! ### names wiped, given back -/
def wipeE (env : Env) : List Nat → Env
  | [] => env
  | v :: vs => (wipeE env vs).set v none
theorem Rel.wipe {K : PySem.W.Frag} {fm : Fm} {ex : Exs} {σ : L2.St} {H F : Hp} {w : W} (r : Rel K fm ex σ H F w) : ∀ vs : List Nat, Rel K fm ex (L2.wipe σ vs) H F { w with env := wipeE w.env vs }
  | [] => r
  | v :: vs => (r.wipe vs).setNone v none
def resE (env0 env : Env) : List Nat → Env
  | [] => env
  | v :: vs => (resE env0 env vs).set v (match env0[v]? with | some (some (.val d)) => some (.val d) | _ => none)
def resS (σ τ : L2.St) : List Nat → L2.St
  | [] => τ
  | v :: vs => (resS σ τ vs).set v (σ[v]?.getD none)
theorem Rel.restore {K : PySem.W.Frag} {fm : Fm} {ex ex' : Exs} {σ τ : L2.St} {H F H' F' : Hp} {w w' : W} (r : Rel K fm ex σ H F w) (e : Ex F F') (r' : Rel K fm ex' τ H' F' w') : ∀ vs : List Nat, Rel K fm ex' (resS σ τ vs) H' F' { w' with env := resE w.env w'.env vs }
  | [] => r'
  | v :: vs => by
    have ih := r.restore e r' vs
    unfold resS resE
    split
    · rename_i d h
      obtain ⟨u, e1, k⟩ := r.slot v _ h
      rw [e1]
      exact ih.setVal v (Rp.ex k e)
    · exact ih.setNone v _
theorem resS_get {σ τ : L2.St} (hl : τ.length = σ.length) : ∀ (vs : List Nat) (i : Nat), (resS σ τ vs)[i]? = if i ∈ vs then σ[i]? else τ[i]?
  | [], i => by simp [resS]
  | v :: vs, i => by
    have ih := resS_get hl vs i
    have len : ∀ us : List Nat, (resS σ τ us).length = σ.length := fun us => by
      induction us with
      | nil => exact hl
      | cons u us ih => unfold resS; rw [List.length_set]; exact ih
    unfold resS
    by_cases hi : i = v
    · subst hi
      rw [if_pos (List.mem_cons_self ..)]
      by_cases hv : i < σ.length
      · rw [List.getElem?_set_self (by rw [len]; exact hv), List.getElem?_eq_getElem hv]
        rfl
      · rw [List.getElem?_eq_none (by rw [List.length_set, len]; omega), List.getElem?_eq_none (by omega)]
    · rw [List.getElem?_set_ne (Ne.symm hi), ih]
      by_cases hm : i ∈ vs
      · rw [if_pos hm, if_pos (List.mem_cons_of_mem _ hm)]
      · rw [if_neg hm, if_neg (by simp [hi, hm])]
theorem wipe_get {σ : L2.St} : ∀ (vs : List Nat) (i : Nat), (L2.wipe σ vs)[i]? = if i ∈ vs then σ[i]?.map fun _ => none else σ[i]?
  | [], i => by simp [L2.wipe]
  | v :: vs, i => by
    have ih := wipe_get (σ := σ) vs i
    unfold L2.wipe
    by_cases hi : i = v
    · subst hi
      rw [if_pos (List.mem_cons_self ..)]
      by_cases hv : i < σ.length
      · rw [List.getElem?_set_self (by rw [wipe_length]; exact hv), List.getElem?_eq_getElem hv]
        rfl
      · rw [List.getElem?_eq_none (by rw [List.length_set, wipe_length]; omega), List.getElem?_eq_none (by omega)]
        rfl
    · rw [List.getElem?_set_ne (Ne.symm hi), ih]
      by_cases hm : i ∈ vs
      · rw [if_pos hm, if_pos (List.mem_cons_of_mem _ hm)]
      · rw [if_neg hm, if_neg (by simp [hi, hm])]
theorem resS_wipe (σ : L2.St) (vs : List Nat) : resS σ (L2.wipe σ vs) vs = σ := by
  refine List.ext_getElem? fun i => ?_
  rw [resS_get (wipe_length σ vs), wipe_get]
  split <;> rfl
theorem wipe_same {σ σ' : L2.St} {vs js : List Nat} (hl : σ'.length = σ.length) (h : ∀ i, i ∉ js → σ'[i]? = (L2.wipe σ vs)[i]?) (hj : ∀ j ∈ js, j ∈ vs) : L2.wipe σ' vs = L2.wipe σ vs := by
  refine List.ext_getElem? fun i => ?_
  rw [wipe_get, wipe_get]
  by_cases hm : i ∈ vs
  · rw [if_pos hm, if_pos hm]
    by_cases hi : i < σ.length
    · rw [List.getElem?_eq_getElem hi, List.getElem?_eq_getElem (by omega)]
      rfl
    · rw [List.getElem?_eq_none (by omega), List.getElem?_eq_none (by omega)]
  · rw [if_neg hm, if_neg hm, h i (fun z => hm (hj i z)), wipe_get, if_neg hm]

section
variable {X : Cx} {Wx : WX} {fm : Fm}
/-! ### targets -/
def WG (X : Cx) (tg : Expr) : TG := fun v σ H Q => ∀ (pins : List (Addr × Obj)) (s : Shared) (u : Value), Inv X pins σ H s → RelV v u → wpAny (model X.prog X.w) X.A (assign tg X.env u) (fun _ s' => ∃ σ' H', Inv X pins σ' H' s' ∧ Q σ' H') X.xe s
theorem pg_wg {tg : Expr} : PG X tg (WG X tg) := ⟨fun pins s _ _ _ u _ I r h => h pins s u I r⟩
theorem WG.of {tg : Expr} {t : TG} {v : V} {σ : L2.St} {H : Hp} {Q : L2.St → Hp → Prop} (h : PG X tg t) (q : t v σ H Q) : WG X tg v σ H Q := fun pins s u I r => h.run pins s σ H v u Q I r q
abbrev SGr (X : Cx) (fm : Fm) (js : List Nat) (tg : Expr) (set : D → W → Option W) : Prop := ∀ (ex : Exs) (σ : L2.St) (H F : Hp) (w : W) (v : V) (d : D) (w' : W) (Q : L2.St → Hp → Prop), Rel X.K fm ex σ H F w → Rp X.K fm.a0 F v d → set d w = some w' →
  (∀ σ', σ'.length = σ.length → (∀ i, i ∉ js → σ'[i]? = σ[i]?) → Rel X.K fm ex σ' H F w' → Q σ' H) → WG X tg v σ H Q
structure SG (X : Cx) (fm : Fm) (js : List Nat) (tg : Expr) (set : D → W → Option W) : Prop where
  run : SGr X fm js tg set
instance {X : Cx} {fm : Fm} {js : List Nat} {tg : Expr} {set : D → W → Option W} : CoeFun (SG X fm js tg set) (fun _ => SGr X fm js tg set) := ⟨SG.run⟩
def gsName (i : Nat) : D → W → Option W := fun d w => some { w with env := w.env.set i (some (.val d)) }
theorem sg_name {i : Nat} {x : Str} {pos : Pos} (hN : X.N.Nodup) (hi : X.N[i]? = some x := by rfl) (hx : Loc X.env.scope x := by first | exact Or.inl rfl | exact Or.inr rfl) (hf : X.fn x = true ∨ X.env.scope.names.lookup x = some .local := by first | exact .inl rfl | exact .inr rfl | assumption) :
    SG X fm [i] (.Name x pos) (gsName i) := by
  refine ⟨?_⟩
  intro ex σ H F w v d w' Q r rv e k
  cases e
  refine WG.of (pg_name hN hi hx hf) ?_
  exact k _ (List.length_set ..) (fun j hj => by
    have : j ≠ i := by simpa using hj
    rw [List.getElem?_set_ne (Ne.symm this)]) (r.setVal i rv)
def WGs (X : Cx) (ts : List Expr) : TGs := fun vs σ H Q => ∃ t, PGs X ts t ∧ t vs σ H Q
def SGs (X : Cx) (fm : Fm) (js : List Nat) (ts : List Expr) (set : List D → W → Option W) : Prop := ∃ t, PGs X ts t ∧ ∀ (ex : Exs) (σ : L2.St) (H F : Hp) (w : W) (vs : List V) (ds : List D) (w' : W) (Q : L2.St → Hp → Prop), Rel X.K fm ex σ H F w → RpAll X.K fm.a0 F vs ds → set ds w = some w' →
  (∀ σ', σ'.length = σ.length → (∀ i, i ∉ js → σ'[i]? = σ[i]?) → Rel X.K fm ex σ' H F w' → Q σ' H) → t vs σ H Q
def gsNil : List D → W → Option W
  | [], w => some w
  | _, _ => none
def gsCons (s : D → W → Option W) (t : List D → W → Option W) : List D → W → Option W
  | d :: ds, w => (s d w).bind (t ds)
  | [], _ => none
theorem sgs_nil : SGs X fm [] [] gsNil := ⟨_, pgs_nil, fun ex σ H F w vs ds w' Q r rv e k => by
  cases rv with
  | nil => cases e; exact ⟨rfl, k σ rfl (fun _ _ => rfl) r⟩
  | cons _ _ => cases e⟩
theorem sgs_cons {e : Expr} {es : List Expr} {js ks : List Nat} {s : D → W → Option W} {t : List D → W → Option W} (h : SG X fm js e s) (g : SGs X fm ks es t) (hs : (assignEach (e :: es) X.env).map (·.2) = assign e X.env :: (assignEach es X.env).map (·.2) := by rfl) : SGs X fm (js ++ ks) (e :: es) (gsCons s t) := by
  obtain ⟨u, pu, gu⟩ := g
  refine ⟨_, pgs_cons pg_wg pu hs, fun ex σ H F w vs ds w' Q r rv eq k => ?_⟩
  cases rv with
  | nil => cases eq
  | @cons v vs d ds h1 h2 =>
    have eq : (s d w).bind (t ds) = some w' := eq
    cases hs : s d w with
    | none => rw [hs] at eq; cases eq
    | some w1 =>
      rw [hs] at eq
      refine ⟨v, vs, rfl, h ex σ H F w v d w1 _ r h1 hs fun σ1 l1 a1 r1 => ?_⟩
      exact gu ex σ1 H F w1 vs ds w' Q r1 h2 eq fun σ2 l2 a2 r2 => k σ2 (l2.trans l1) (fun i hi => (a2 i (fun z => hi (List.mem_append_right _ z))).trans (a1 i fun z => hi (List.mem_append_left _ z))) r2
def gsTup (n : Nat) (t : List D → W → Option W) : D → W → Option W
  | .tup ds, w => if ds.length = n then t ds w else none
  | _, _ => none
theorem sg_tup {es : List Expr} {k n : Nat} {pos : Pos} {js : List Nat} {t : List D → W → Option W} (hc : X.calm = true) (h : SGs X fm js es t) (hn : (assignEach es X.env).length = n := by rfl) (hst : (assignEach es X.env).findIdx? (·.1) = none := by rfl) : SG X fm js (.Tuple es k pos) (gsTup n t) := by
  obtain ⟨u, pu, gu⟩ := h
  refine ⟨?_⟩
  intro ex σ H F w v d w' Q r rv eq kk
  refine WG.of (pg_tup hc pu hn hst) ?_
  cases rv with
  | @tup a vs ds h1 h2 =>
    have eq : (if ds.length = n then t ds w else none) = some w' := eq
    by_cases hl : ds.length = n
    · rw [if_pos hl] at eq
      exact ⟨a, vs, rfl, ex_t r.fh h1, h2.len.trans hl, gu ex σ H F w vs ds w' Q r h2 eq kk⟩
    · rw [if_neg hl] at eq; cases eq
  | _ => cases eq

/-! ### list comprehensions -/
def W0 : WX := fun _ _ _ _ => False
def R.nox {α : Type} : R α → R α
  | .ok a w => .ok a w
  | _ => .stuck
def WTs (X : Cx) (ifs : List Expr) : TT := fun σ H Q => ∀ (pins : List (Addr × Obj)) (s : Shared), Inv X pins σ H s →
  wpAny (model X.prog X.w) X.A (forIn ifs true fun c r => if r = true then do let ok ← isTrue c X.env (eval c X.env); pure (ForInStep.yield ok) else pure (ForInStep.yield r)) (TP X pins σ Q) X.xe s
abbrev STsr (X : Cx) (Wx : WX) (fm : Fm) (ifs : List Expr) (m : W → R Bool) : Prop := ∀ (ex : Exs) (σ : L2.St) (H F : Hp) (w : W) (Q : Bool → Hp → Prop), Rel X.K fm ex σ H F w →
  Fin X Wx fm ex σ H F (fun b _ H' _ => Q b H') (m w) → WTs X ifs σ H Q
structure STs (X : Cx) (Wx : WX) (fm : Fm) (ifs : List Expr) (m : W → R Bool) : Prop where
  run : STsr X Wx fm ifs m
instance {X : Cx} {Wx : WX} {fm : Fm} {ifs : List Expr} {m : W → R Bool} : CoeFun (STs X Wx fm ifs m) (fun _ => STsr X Wx fm ifs m) := ⟨STs.run⟩
def mYes : W → R Bool := fun w => .ok true w
theorem sts_nil : STs X Wx fm [] mYes := ⟨fun ex σ H F w Q r q pins s I => pts_nil.run pins s σ H Q I (q H F Kp.refl (Ex.refl _) r)⟩
theorem sts_one {c : Expr} {m : W → R Bool} (h : STt X Wx fm c m) : STs X Wx fm [c] m := ⟨fun ex σ H F w Q r q pins s I => (pts_one (pt_wt (X := X) (e := c))).run pins s σ H Q I (h ex σ H F w Q r q)⟩
def lcGo (vs : List Nat) (set : D → W → Option W) (mt : W → R Bool) (me : W → R D) : List D → List D → W → R (List D)
  | [], acc, w => .ok acc w
  | d :: ds, acc, w => match set d w with
    | none => .stuck
    | some w1 => (mt w1).nox.bind fun b w2 => if b = true then (me w2).nox.bind fun y w3 => if acc.length < 1000000 then lcGo vs set mt me ds (acc ++ [y]) { w3 with env := wipeE w3.env vs } else .stuck
      else lcGo vs set mt me ds acc { w2 with env := wipeE w2.env vs }
def mLc (vs : List Nat) (mi : W → R (List D)) (set : D → W → Option W) (mt : W → R Bool) (me : W → R D) : W → R (List D) := fun w => (mi w).bind fun ds w1 =>
  (lcGo vs set mt me ds [] { w1 with env := wipeE w1.env vs }).bind fun acc w2 => .ok acc { w2 with env := resE w1.env w2.env vs }
theorem FinF.bindL {r : R (List D)} {q : List D → W → R (List D)} {ex : Exs} {σ : L2.St} {H F : Hp} {Q : VK} (h : FinF X Wx fm ex σ H F Q (r.bind q)) :
    Fin X Wx fm ex σ H F (fun a w' H' F' => Rel X.K fm ex σ H' F' w' ∧ Kp fm.a0 H H' ∧ Ex F F' ∧ FinF X Wx fm ex σ H' F' Q (q a w')) r := FinF.bind h
theorem nox_ok {α : Type} {r : R α} {k : α → W → R (List D)} {P : R (List D) → Prop} (hs : ¬ P .stuck) (h : P (r.nox.bind k)) : ∃ a w, r = .ok a w ∧ P (k a w) := by
  cases r with
  | ok a w => exact ⟨a, w, rfl, h⟩
  | exc c w => exact absurd h hs
  | stuck => exact absurd h hs
def bG (X : Cx) (scope : Scope) (tg : Expr) : TG := fun v σ H Q => ∀ (s : Shared) (H0 : Hp) (C : Addr) (cl : List (Str × Addr)) (fp : List Addr), WG (X.blk s H0 scope (compEnvC scope cl C X.env) fp) tg v σ H Q
def bT (X : Cx) (scope : Scope) (ifs : List Expr) : TT := fun σ H Q => ∀ (s : Shared) (H0 : Hp) (C : Addr) (cl : List (Str × Addr)) (fp : List Addr), WTs (X.blk s H0 scope (compEnvC scope cl C X.env) fp) ifs σ H Q
def bE (X : Cx) (scope : Scope) (elt : Expr) : TE := fun σ H Q => ∀ (s : Shared) (H0 : Hp) (C : Addr) (cl : List (Str × Addr)) (fp : List Addr), WE (X.blk s H0 scope (compEnvC scope cl C X.env) fp) elt σ H Q
theorem tlc_ok {elt tg iter : Expr} {ifs : List Expr} {scope : Scope} {vs : List Nat} {js : List Nat} {mi : W → R (List D)} {set : D → W → Option W} {mt : W → R Bool} {me : W → R D} (hi : SIt X Wx fm tg iter mi)
    (hg : ∀ (s : Shared) (H : Hp) (C : Addr) (cl : List (Str × Addr)) (fp : List Addr), SG (X.blk s H scope (compEnvC scope cl C X.env) fp) fm js tg set) (hj : ∀ j ∈ js, j ∈ vs)
    (ht : ∀ (s : Shared) (H : Hp) (C : Addr) (cl : List (Str × Addr)) (fp : List Addr), STs (X.blk s H scope (compEnvC scope cl C X.env) fp) W0 fm ifs mt)
    (he : ∀ (s : Shared) (H : Hp) (C : Addr) (cl : List (Str × Addr)) (fp : List Addr), SE (X.blk s H scope (compEnvC scope cl C X.env) fp) W0 fm elt me)
    {ex : Exs} {σ : L2.St} {H F : Hp} {w : W} {Q : VK} (r : Rel X.K fm ex σ H F w) (q : FinF X Wx fm ex σ H F Q (mLc vs mi set mt me w)) : tLc (WI X tg iter) (bG X scope tg) (bT X scope ifs) (bE X scope elt) vs σ H Q := by
  refine hi ex σ H F w _ r ((FinF.bind q).imp fun ds w1 H1 F1 ⟨r1, k1, e1, q1⟩ J wk Dl hD => ?_)
  obtain ⟨G, Y, walk, hG, hY⟩ := wk.ex
  have rw1 := r1.wipe vs
  refine lc_it (g := bG X scope tg) (tt := bT X scope ifs) (te := bE X scope elt) (vs := vs) (σ := σ) walk (fun i H' => ∃ F' w' acc, Kp fm.a0 H1 H' ∧ Ex F1 F' ∧ Rel X.K fm ((Dl, acc) :: ex) (L2.wipe σ vs) H' F' w' ∧
      FinF X Wx fm ex σ H1 F1 Q ((lcGo vs set mt me (ds.drop i) acc w').bind fun acc w2 => .ok acc { w2 with env := resE w1.env w2.env vs }))
    ⟨F1, _, [], (Gr.dark r1.fh hD).kp, Ex.refl _, rw1.lay hD .nil, q1⟩ (fun i H' hi' ⟨F', w', acc, a, b, c, d⟩ => hG H' (b.trans c.fh)) (fun i x Ha Hb hi' ⟨F', w', acc, kp, ef, rr, fin⟩ y => ?_) (fun H' ⟨F', w', acc, kp, ef, rr, fin⟩ => ?_)
  · -- one turn
    obtain ⟨F2, d, hd, gr, rv⟩ := hY i Ha F' x Hb hi' ef rr.fh y
    have hdrop : ds.drop i = d :: ds.drop (i + 1) := by
      obtain ⟨hlt, e⟩ := List.getElem?_eq_some_iff.mp hd
      rw [List.drop_eq_getElem_cons hlt, e]
    rw [hdrop] at fin
    unfold lcGo at fin
    cases hset : set d w' with
    | none => rw [hset] at fin; exact (show False from fin).elim
    | some wa =>
      rw [hset] at fin
      have r2 := rr.gr gr
      intro s H0 C cl fp
      refine hg s H0 C cl fp _ _ _ _ _ _ _ _ _ r2 rv hset fun σ2 hl2 ha2 ra => ?_
      have ew : L2.wipe σ2 vs = L2.wipe σ vs := wipe_same (by rw [hl2, wipe_length]) ha2 hj
      refine ⟨ew, ?_⟩
      have fin : FinF X Wx fm ex σ H1 F1 Q (((mt wa).nox.bind fun b w2 => if b = true then (me w2).nox.bind fun y w3 => if acc.length < 1000000 then lcGo vs set mt me (ds.drop (i + 1)) (acc ++ [y]) { w3 with env := wipeE w3.env vs } else .stuck
        else lcGo vs set mt me (ds.drop (i + 1)) acc { w2 with env := wipeE w2.env vs }).bind fun acc w2 => .ok acc { w2 with env := resE w1.env w2.env vs }) := fin
      obtain ⟨b, wb, hmt, fin⟩ := nox_ok (P := fun r => FinF X Wx fm ex σ H1 F1 Q (r.bind fun acc w2 => .ok acc { w2 with env := resE w1.env w2.env vs })) (fun z => z) fin
      intro s2 H02 C2 cl2 fp2
      refine ht s2 H02 C2 cl2 fp2 _ σ2 Hb F2 wa _ ra ?_
      rw [hmt]
      intro Hc Fc kc ec rc
      have kp2 : Kp fm.a0 H1 Hc := (kp.trans gr.kp).trans kc
      have ef2 : Ex F1 Fc := (ef.trans gr.ff).trans ec
      cases b with
      | false =>
        have rn := rc.wipe vs
        rw [ew] at rn
        exact ⟨Fc, _, acc, kp2, ef2, rn, fin⟩
      | true =>
        have fin : FinF X Wx fm ex σ H1 F1 Q (((me wb).nox.bind fun y w3 => if acc.length < 1000000 then lcGo vs set mt me (ds.drop (i + 1)) (acc ++ [y]) { w3 with env := wipeE w3.env vs } else .stuck).bind fun acc w2 => .ok acc { w2 with env := resE w1.env w2.env vs }) := fin
        obtain ⟨z, wc, hme, fin⟩ := nox_ok (P := fun r => FinF X Wx fm ex σ H1 F1 Q (r.bind fun acc w2 => .ok acc { w2 with env := resE w1.env w2.env vs })) (fun z => z) fin
        show bE X scope elt σ2 Hc _
        intro s3 H03 C3 cl3 fp3
        refine he s3 H03 C3 cl3 fp3 _ σ2 Hc Fc wb _ rc ?_
        rw [hme]
        intro Hd Fd kd ed rd v hv
        by_cases hz : acc.length < 1000000
        · rw [if_pos hz] at fin
          obtain ⟨h1, h2, h3, us, h4, h5⟩ := rd.exo _ (List.mem_cons_self ..)
          have h4 : Hd Dl = some (.lst us) := h4
          have h5 : RpAll X.K fm.a0 Fd us acc := h5
          refine ⟨us, h4, line_lt (by rw [h5.len]; omega), ?_⟩
          have rm := rd.mut (h5.app (.one hv))
          have rn := rm.wipe vs
          rw [ew] at rn
          have nd : ∀ b o, H1 b = some o → b ≠ Dl := fun b o e z => by subst z; rw [hD] at e; cases e
          exact ⟨Fd, _, acc ++ [z], fun b o n e => by rw [upd_ne (nd b o e)]; exact kd b o n (kp2 b o n e), ef2.trans ed, rn, fin⟩
        · rw [if_neg hz] at fin
          exact (show False from fin).elim
  · -- the end
    rw [List.drop_eq_nil_of_le (Nat.le_refl _)] at fin
    have rr2 := r1.restore ef rr vs
    rw [resS_wipe] at rr2
    exact fin Dl H' F' kp ef rr2

theorem sf_lc {elt tg iter : Expr} {ifs : List Expr} {scope : Scope} {own : List (Str × Nat)} {pos : Pos} {js : List Nat} {mi : W → R (List D)} {set : D → W → Option W} {mt : W → R Bool} {me : W → R D} (hc : X.calm = true) (hN : X.N.Nodup) (hi : SIt X Wx fm tg iter mi) (ok : BlkOk X.N X.env.scope scope own)
    (hg : ∀ (s : Shared) (H : Hp) (C : Addr) (cl : List (Str × Addr)) (fp : List Addr), SG (X.blk s H scope (compEnvC scope cl C X.env) fp) fm js tg set) (hj : ∀ j ∈ js, j ∈ own.map (·.2))
    (ht : ∀ (s : Shared) (H : Hp) (C : Addr) (cl : List (Str × Addr)) (fp : List Addr), STs (X.blk s H scope (compEnvC scope cl C X.env) fp) W0 fm ifs mt)
    (he : ∀ (s : Shared) (H : Hp) (C : Addr) (cl : List (Str × Addr)) (fp : List Addr), SE (X.blk s H scope (compEnvC scope cl C X.env) fp) W0 fm elt me)
    (hs : ∀ x, foldedSetIterable iter X.env x = pure x := by intro _; rfl) : SF X Wx fm (.ListComp elt [⟨tg, iter, ifs, 0⟩] scope pos) (mLc (own.map (·.2)) mi set mt me) := by
  refine ⟨?_⟩
  intro ex σ H F w Q r q
  exact WE.of (pe_lc (wi := WI X tg iter) (g := bG X scope tg) (tt := bT X scope ifs) (te := bE X scope elt)
    hc hN pi_wi ok (fun s H C cl fp => ⟨fun pins s' σ' H' v u Q' I rv h => h s H C cl fp pins s' u I rv⟩) (fun s H C cl fp => ⟨fun pins s' σ' H' Q' I h => h s H C cl fp pins s' I⟩) (fun s H C cl fp => ⟨fun pins s' σ' H' Q' I h => h s H C cl fp pins s' I⟩) hs) (tlc_ok hi hg hj ht he r q)

/-! ### statements -/
def FinS (X : Cx) (Wx : WX) (fm : Fm) (ex : Exs) (F : Hp) (D : Ends) : RS → Prop
  | .nx w' => ∀ σ' H' F', Ex F F' → Rel X.K fm ex σ' H' F' w' → D.nx σ' H'
  | .brk w' => ∀ σ' H' F', Ex F F' → Rel X.K fm ex σ' H' F' w' → D.bk σ' H'
  | .cnt w' => ∀ σ' H' F', Ex F F' → Rel X.K fm ex σ' H' F' w' → D.ct σ' H'
  | .ret d w' => ∀ v σ' H' F', Ex F F' → Rel X.K fm ex σ' H' F' w' → Rp X.K fm.a0 F' v d → D.rt v H'
  | .exc c w' => ∀ σ' H' F' cls dd, Ex F F' → Rel X.K fm ex σ' H' F' w' → ExcIs X.K X.mg fm.a0 c cls dd F' H' → Wx cls dd σ' H'
  | .stuck => False
abbrev SStr (X : Cx) (Wx : WX) (fm : Fm) (st : Stmt) (m : W → RS) : Prop := ∀ (ex : Exs) (σ : L2.St) (H F : Hp) (w : W) (D : Ends), Rel X.K fm ex σ H F w → FinS X Wx fm ex F D (m w) → WS X st D σ H
structure SSt (X : Cx) (Wx : WX) (fm : Fm) (st : Stmt) (m : W → RS) : Prop where
  run : SStr X Wx fm st m
instance {X : Cx} {Wx : WX} {fm : Fm} {st : Stmt} {m : W → RS} : CoeFun (SSt X Wx fm st m) (fun _ => SStr X Wx fm st m) := ⟨SSt.run⟩
abbrev SSsr (X : Cx) (Wx : WX) (fm : Fm) (sts : List Stmt) (m : W → RS) : Prop := ∀ (ex : Exs) (σ : L2.St) (H F : Hp) (w : W) (D : Ends), Rel X.K fm ex σ H F w → FinS X Wx fm ex F D (m w) → WSs X sts D σ H
structure SSs (X : Cx) (Wx : WX) (fm : Fm) (sts : List Stmt) (m : W → RS) : Prop where
  run : SSsr X Wx fm sts m
instance {X : Cx} {Wx : WX} {fm : Fm} {sts : List Stmt} {m : W → RS} : CoeFun (SSs X Wx fm sts m) (fun _ => SSsr X Wx fm sts m) := ⟨SSs.run⟩
def RS.bind (r : RS) (k : W → RS) : RS := match r with
  | .nx w => k w
  | r => r
def R.toS {α : Type} (r : R α) (k : α → W → RS) : RS := match r with
  | .ok a w => k a w
  | .exc c w => .exc c w
  | .stuck => .stuck
def oS {α : Type} (o : Option α) (k : α → RS) : RS := match o with
  | some a => k a
  | none => .stuck
@[simp] theorem RS.bind_nx (w : W) (k : W → RS) : (RS.nx w).bind k = k w := rfl
@[simp] theorem RS.bind_ret (d : D) (w : W) (k : W → RS) : (RS.ret d w).bind k = .ret d w := rfl
@[simp] theorem RS.bind_brk (w : W) (k : W → RS) : (RS.brk w).bind k = .brk w := rfl
@[simp] theorem RS.bind_cnt (w : W) (k : W → RS) : (RS.cnt w).bind k = .cnt w := rfl
@[simp] theorem RS.bind_exc (c : Exn) (w : W) (k : W → RS) : (RS.exc c w).bind k = .exc c w := rfl
@[simp] theorem RS.bind_stuck (k : W → RS) : RS.stuck.bind k = .stuck := rfl
@[simp] theorem R.toS_ok {α : Type} (a : α) (w : W) (k : α → W → RS) : (R.ok a w).toS k = k a w := rfl
@[simp] theorem R.toS_exc {α : Type} (c : Exn) (w : W) (k : α → W → RS) : (R.exc c w : R α).toS k = .exc c w := rfl
@[simp] theorem R.toS_stuck {α : Type} (k : α → W → RS) : (R.stuck : R α).toS k = .stuck := rfl
theorem FinS.from {F F' : Hp} {ex : Exs} {D : Ends} {r : RS} (h : FinS X Wx fm ex F D r) (e : Ex F F') : FinS X Wx fm ex F' D r := by
  cases r with
  | nx w => exact fun σ' H' F2 e2 => h σ' H' F2 (e.trans e2)
  | brk w => exact fun σ' H' F2 e2 => h σ' H' F2 (e.trans e2)
  | cnt w => exact fun σ' H' F2 e2 => h σ' H' F2 (e.trans e2)
  | ret d w => exact fun v σ' H' F2 e2 => h v σ' H' F2 (e.trans e2)
  | exc c w => exact fun σ' H' F2 cls dd e2 => h σ' H' F2 cls dd (e.trans e2)
  | stuck => exact h
theorem FinS.ofR {α : Type} {r : R α} {k : α → W → RS} {ex : Exs} {σ : L2.St} {H F : Hp} {D : Ends} (h : FinS X Wx fm ex F D (r.toS k)) :
    Fin X Wx fm ex σ H F (fun a w' H' F' => Rel X.K fm ex σ H' F' w' ∧ Ex F F' ∧ FinS X Wx fm ex F' D (k a w')) r := by
  cases r with
  | ok a w' => exact fun H' F' kp e r => ⟨r, e, FinS.from (r := k a w') h e⟩
  | exc c w' => exact fun H' F' cls dd kp e r x => h σ H' F' cls dd e r x
  | stuck => exact h
theorem FinS.ofF {r : R (List D)} {k : List D → W → RS} {ex : Exs} {σ : L2.St} {H F : Hp} {D : Ends} {Q : VK} (h : FinS X Wx fm ex F D (r.toS k)) (hq : ∀ xs w' p H' F', r = .ok xs w' → Ex F F' → Rel X.K fm ((p, xs) :: ex) σ H' F' w' → FinS X Wx fm ex F' D (k xs w') → Q (.ref p) H') :
    FinF X Wx fm ex σ H F Q r := by
  cases r with
  | ok a w' => exact fun p H' F' kp e r => hq a w' p H' F' rfl e r (FinS.from (r := k a w') h e)
  | exc c w' => exact fun H' F' cls dd kp e r x => h σ H' F' cls dd e r x
  | stuck => exact h
def sNil : W → RS := fun w => .nx w
def sCons (a b : W → RS) : W → RS := fun w => (a w).bind b
theorem sss_nil : SSs X Wx fm [] sNil := ⟨fun ex σ H F w D r q => WSs.of pss_nil (q σ H F (Ex.refl _) r)⟩
theorem sss_cons {st : Stmt} {rest : List Stmt} {a b : W → RS} (h : SSt X Wx fm st a) (g : SSs X Wx fm rest b) : SSs X Wx fm (st :: rest) (sCons a b) := by
  refine ⟨?_⟩
  intro ex σ H F w D r q
  refine WSs.of (pss_cons ps_ws pss_wss) ?_
  show WS X st { D with nx := WSs X rest D } σ H
  refine h ex σ H F w _ r ?_
  revert q
  unfold sCons
  cases a w with
  | nx w1 => exact fun q σ' H' F' e r' => g ex σ' H' F' w1 D r' (FinS.from q e)
  | brk w1 => exact fun q => q
  | cnt w1 => exact fun q => q
  | ret d w1 => exact fun q => q
  | exc c w1 => exact fun q => q
  | stuck => exact fun q => q
theorem ss_pass {pos : Pos} : SSt X Wx fm (.Pass pos) sNil := ⟨fun ex σ H F w D r q => WS.of ps_pass (q σ H F (Ex.refl _) r)⟩
theorem ss_brk {pos : Pos} : SSt X Wx fm (.Break pos) RS.brk := ⟨fun ex σ H F w D r q => WS.of ps_break (q σ H F (Ex.refl _) r)⟩
theorem ss_cnt {pos : Pos} : SSt X Wx fm (.Continue pos) RS.cnt := ⟨fun ex σ H F w D r q => WS.of ps_continue (q σ H F (Ex.refl _) r)⟩
def sSet (i : Nat) (m : W → R D) : W → RS := fun w => (m w).toS fun d w' => .nx { w' with env := w'.env.set i (some (.val d)) }
theorem ss_set {i : Nat} {x : Str} {e : Expr} {pos pos' : Pos} {m : W → R D} (hN : X.N.Nodup) (h : SE X Wx fm e m) (hi : X.N[i]? = some x := by rfl) (hx : Loc X.env.scope x := by first | exact Or.inl rfl | exact Or.inr rfl) (hs : swapsWith e (some (.Name x pos')) pos.line X.env = pure false := by rfl)
    (hf : X.fn x = true ∨ X.env.scope.names.lookup x = some .local := by first | exact .inl rfl | exact .inr rfl | assumption) : SSt X Wx fm (.Assign [.Name x pos'] e pos) (sSet i m) := by
  refine ⟨?_⟩
  intro ex σ H F w D r q
  refine WS.of (ps_set hN hi hx pe_we hs hf) ?_
  show WE X e σ H fun v H1 => D.nx (σ.set i (some v)) H1
  exact h ex σ H F w _ r ((FinS.ofR q).imp fun d w1 H1 F1 ⟨r1, e1, q1⟩ v hv => q1 _ H1 F1 (Ex.refl _) (r1.setVal i hv))
/-- a name is given a new list -/
def sSetF (i : Nat) (m : W → R (List D)) : W → RS := fun w => (m w).toS fun xs w' => .nx { w' with env := w'.env.set i (some (.own xs)) }
theorem ss_setF {i : Nat} {x : Str} {e : Expr} {pos pos' : Pos} {m : W → R (List D)} (hN : X.N.Nodup) (h : SF X Wx fm e m) (hi : X.N[i]? = some x := by rfl) (hx : Loc X.env.scope x := by first | exact Or.inl rfl | exact Or.inr rfl) (hs : swapsWith e (some (.Name x pos')) pos.line X.env = pure false := by rfl)
    (hf : X.fn x = true ∨ X.env.scope.names.lookup x = some .local := by first | exact .inl rfl | exact .inr rfl | assumption) : SSt X Wx fm (.Assign [.Name x pos'] e pos) (sSetF i m) := by
  refine ⟨?_⟩
  intro ex σ H F w D r q
  refine WS.of (ps_set hN hi hx pe_we hs hf) ?_
  show WE X e σ H fun v H1 => D.nx (σ.set i (some v)) H1
  exact h ex σ H F w _ r (FinS.ofF q fun xs w1 p H1 F1 _ e1 r1 q1 => q1 _ H1 F1 (Ex.refl _) (r1.setOwn i))
theorem ss_setLcF {i : Nat} {y : Str} {py : Pos} {elt tg iter : Expr} {ifs : List Expr} {scope : Scope} {own : List (Str × Nat)} {pos spos : Pos} {js : List Nat} {mi : W → R (List D)} {set : D → W → Option W} {mt : W → R Bool} {me : W → R D} (hc : X.calm = true) (hN : X.N.Nodup) (hi : SIt X Wx fm tg iter mi) (ok : BlkOk X.N X.env.scope scope own)
    (hg : ∀ (s : Shared) (H : Hp) (C : Addr) (cl : List (Str × Addr)) (fp : List Addr), SG (X.blk s H scope (compEnvC scope cl C X.env) fp) fm js tg set) (hj : ∀ j ∈ js, j ∈ own.map (·.2))
    (ht : ∀ (s : Shared) (H : Hp) (C : Addr) (cl : List (Str × Addr)) (fp : List Addr), STs (X.blk s H scope (compEnvC scope cl C X.env) fp) W0 fm ifs mt)
    (he : ∀ (s : Shared) (H : Hp) (C : Addr) (cl : List (Str × Addr)) (fp : List Addr), SE (X.blk s H scope (compEnvC scope cl C X.env) fp) W0 fm elt me)
    (hy : X.N[i]? = some y := by rfl) (hyl : X.env.scope.names.lookup y = some .local := by rfl)
    (hsw : swapsWith (.ListComp elt [⟨tg, iter, ifs, 0⟩] scope pos) (some (.Name y py)) spos.line X.env = pure true := by exact sw_true rfl rfl rfl (by decide +kernel))
    (hs : ∀ x, foldedSetIterable iter X.env x = pure x := by intro _; rfl) : SSt X Wx fm (.Assign [.Name y py] (.ListComp elt [⟨tg, iter, ifs, 0⟩] scope pos) spos) (sSetF i (mLc (own.map (·.2)) mi set mt me)) := by
  refine ⟨?_⟩
  intro ex σ H F w D r q
  refine WS.of (ps_setLc (wi := WI X tg iter) (g := bG X scope tg) (tt := bT X scope ifs) (te := bE X scope elt)
    hc hN hy hyl hsw pi_wi ok (fun s H C cl fp => ⟨fun pins s' σ' H' v u Q' I rv h => h s H C cl fp pins s' u I rv⟩) (fun s H C cl fp => ⟨fun pins s' σ' H' Q' I h => h s H C cl fp pins s' I⟩) (fun s H C cl fp => ⟨fun pins s' σ' H' Q' I h => h s H C cl fp pins s' I⟩) hs) ?_
  exact tlc_ok (Q := fun x H1 => gName i x σ H1 D.nx) hi hg hj ht he r (FinS.ofF q fun xs w1 p H1 F1 _ e1 r1 q1 => q1 _ H1 F1 (Ex.refl _) (r1.setOwn i))
/-- a target of any form -/
def sAsg (set : D → W → Option W) (m : W → R D) : W → RS := fun w => (m w).toS fun d w' => oS (set d w') .nx
theorem finS_o {o : Option W} {ex : Exs} {F : Hp} {D : Ends} (h : FinS X Wx fm ex F D (oS o .nx)) : ∃ w', o = some w' ∧ ∀ σ' H' F', Ex F F' → Rel X.K fm ex σ' H' F' w' → D.nx σ' H' := by
  cases o with
  | none => exact (show False from h).elim
  | some w => exact ⟨w, rfl, h⟩
theorem ss_asg {tg e : Expr} {pos : Pos} {js : List Nat} {set : D → W → Option W} {m : W → R D} (hg : SG X fm js tg set) (h : SE X Wx fm e m) (hs : swapsWithSole [tg] e pos.line X.env = pure false := by rfl) (hw : swappedStores [tg] e X.env = pure none := by rfl)
    (h1 : (assignEach [tg] X.env).map (·.2) = [assign tg X.env] := by rfl) : SSt X Wx fm (.Assign [tg] e pos) (sAsg set m) := by
  refine ⟨?_⟩
  intro ex σ H F w D r q
  refine WS.of (ps_asg pe_we pg_wg hs hw h1) ?_
  show WE X e σ H fun v H1 => WG X tg v σ H1 D.nx
  refine h ex σ H F w _ r ((FinS.ofR q).imp fun d w1 H1 F1 ⟨r1, e1, q1⟩ v hv => ?_)
  obtain ⟨w2, hw2, q2⟩ := finS_o q1
  exact hg ex σ H1 F1 w1 v d w2 _ r1 hv hw2 fun σ' _ _ r2 => q2 σ' H1 F1 (Ex.refl _) r2
/-- a, b = x, y -/
def sPar (i j : Nat) (m : W → R (List D)) : W → RS := fun w => (m w).toS fun ds w' => match ds with
  | [d, e] => .nx { w' with env := (w'.env.set i (some (.val d))).set j (some (.val e)) }
  | _ => .stuck
theorem ss_par {i j : Nat} {x y : Str} {a b : Expr} {px py pt pos : Pos} {kt k2 pt2} {m : W → R (List D)} (hc : X.calm = true) (hN : X.N.Nodup) (ha : SAs X Wx fm [a, b] m) (hi : X.N[i]? = some x := by rfl) (hj : X.N[j]? = some y := by rfl) (hij : i ≠ j := by decide)
    (hx : X.env.scope.names.lookup x = some .local := by rfl) (hy : X.env.scope.names.lookup y = some .local := by rfl)
    (hw : swappedStores [.Tuple [.Name x px, .Name y py] kt pt] (.Tuple [a, b] k2 pt2) X.env = pure (some [x, y]) := by rfl)
    (hs : swapsWithSole [.Tuple [.Name x px, .Name y py] kt pt] (.Tuple [a, b] k2 pt2) pos.line X.env = pure false := by rfl) :
    SSt X Wx fm (.Assign [.Tuple [.Name x px, .Name y py] kt pt] (.Tuple [a, b] k2 pt2) pos) (sPar i j m) := by
  refine ⟨?_⟩
  intro ex σ H F w D r q
  refine WS.of (ps_par hc hN hi hj hij hx hy pa_wa hw hs) ?_
  show WA X [a, b] σ H fun vs H1 => ∃ v w, vs = [v, w] ∧ D.nx ((σ.set i (some v)).set j (some w)) H1
  refine ha ex σ H F w _ r ((FinS.ofR q).imp fun ds w1 H1 F1 ⟨r1, e1, q1⟩ vs hv => ?_)
  cases hv with
  | nil => exact (show False from q1).elim
  | @cons v vs d ds h1 h2 =>
    cases h2 with
    | nil => exact (show False from q1).elim
    | @cons u vs e ds h3 h4 =>
      cases h4 with
      | cons _ _ => exact (show False from q1).elim
      | nil => exact ⟨v, u, rfl, q1 _ H1 F1 (Ex.refl _) ((r1.setVal i h1).setVal j h3)⟩
/-- x op= e -/
def sAug (i : Nat) (g : D → D → Option D) (m : W → R D) : W → RS := fun w => match w.env[i]? with
  | some (some (.val x)) => (m w).toS fun y w' => oS (g x y) fun z => .nx { w' with env := w'.env.set i (some (.val z)) }
  | _ => .stuck
theorem ss_aug {i : Nat} {x : Str} {e : Expr} {op : Operator} {pos pos' : Pos} {g : D → D → Option D} {m : W → R D} (hN : X.N.Nodup) (ho : DOp X fm.a0 (inplaceOp op) g) (h : SE X Wx fm e m) (hi : X.N[i]? = some x := by rfl) (hx : Loc X.env.scope x := by first | exact Or.inl rfl | exact Or.inr rfl)
    (hf : X.fn x = true ∨ X.env.scope.names.lookup x = some .local := by first | exact .inl rfl | exact .inr rfl | assumption) : SSt X Wx fm (.AugAssign (.Name x pos') op e pos) (sAug i g m) := by
  refine ⟨?_⟩
  intro ex σ H F w D r q
  refine WS.of (ps_aug hN hi hx pe_we opr_w2 hf) ?_
  revert q
  unfold sAug
  split
  · rename_i d hd
    intro q
    obtain ⟨v, e1, k⟩ := r.slot i _ hd
    refine ⟨v, e1, ?_⟩
    refine h ex σ H F w _ r ((FinS.ofR q).imp fun y w1 H1 F1 ⟨r1, e1, q1⟩ u hu => ?_)
    cases hz : g d y with
    | none => rw [hz] at q1; exact (show False from q1).elim
    | some z =>
      rw [hz] at q1
      exact ho v u d y z H1 F1 _ r1.fh (Rp.ex k e1) hu hz fun t H' F' gr hr => q1 _ H' F' gr.ff ((r1.gr gr).setVal i hr)
  · exact fun q => q.elim
def sExpr (m : W → R D) : W → RS := fun w => (m w).toS fun _ w' => .nx w'
theorem ss_expr {e : Expr} {pos : Pos} {m : W → R D} (h : SE X Wx fm e m) (hs : swapsWith e none pos.line X.env = pure false := by rfl) : SSt X Wx fm (.Expr e pos) (sExpr m) := by
  refine ⟨?_⟩
  intro ex σ H F w D r q
  refine WS.of (ps_expr pe_we hs) ?_
  show WE X e σ H fun _ H1 => D.nx σ H1
  exact h ex σ H F w _ r ((FinS.ofR q).imp fun d w1 H1 F1 ⟨r1, e1, q1⟩ v hv => q1 σ H1 F1 (Ex.refl _) r1)
/-- xs.append(e) -/
def sApp (i : Nat) (m : W → R D) : W → RS := fun w => match w.env[i]? with
  | some (some (.own _)) => (m w).toS fun d w' => match w'.env[i]? with
    | some (some (.own xs)) => if xs.length < 1000000 then .nx { w' with env := w'.env.set i (some (.own (xs ++ [d]))) } else .stuck
    | _ => .stuck
  | _ => .stuck
theorem ss_append {i : Nat} {x : Str} {e : Expr} {p apos cpos pos : Pos} {m : W → R D} (h : SE X Wx fm e m) (hN : X.N[i]? = some x := by rfl) (hv : Vis X.env.scope x := by first | exact Or.inl rfl | exact Or.inr (Or.inl rfl) | exact Or.inr (Or.inr rfl)) (hd : (x == ("__debug__" : Str)) = false := by decide)
    (hcd : (x == ("__classdict__" : Str)) = false := by decide) (hbase : attributeBase (.Name x p) "append" X.env (eval (.Name x p) X.env) = eval (.Name x p) X.env := by rfl)
    (hfew : ((backTo cpos (starEach [e] X.env)).all (fun x => !x.1) && (backToKw cpos (keywordEach [] X.env)).all (fun x => x.1.isSome)
      && decide ([e].length + ([] : List Keyword).length + (if ([] : List Keyword).isEmpty then 0 else 1) < 30)) = true := by rfl)
    (hline : (apos.endLine == cpos.line) = true := by rfl) (hs : starEach [e] X.env = (false, eval e X.env) :: starEach [] X.env := by rfl) (hplain : (backTo cpos (starEach [] X.env)).any (·.1) = false := by rfl)
    (hsw : swapsWith (.Call (.Attribute (.Name x p) "append" apos) [e] [] cpos) none pos.line X.env = pure false := by rfl) :
    SSt X Wx fm (.Expr (.Call (.Attribute (.Name x p) "append" apos) [e] [] cpos) pos) (sApp i m) := by
  refine ⟨?_⟩
  intro ex σ H F w D r q
  refine WS.of (ps_expr (pe_bm PySem.F.plainAttrs_list PySem.F.slot_list_append PySem.F.type_list_append mt_append (pe_var hN hv hd hcd) (pa_cons pe_we pa_nil hs) hbase hfew hline hs hplain) hsw) ?_
  revert q
  unfold sApp
  split
  · rename_i xs0 hx0
    intro q
    obtain ⟨p0, e0, r0⟩ := r.takeOwn hx0
    obtain ⟨a1, a2, a3, vs0, a4, a5⟩ := r0.exo _ (List.mem_cons_self ..)
    refine ⟨.ref p0, e0, .inl ⟨rfl, _, .inl (.inl a4)⟩, ?_⟩
    refine h ex σ H F w _ r ((FinS.ofR q).imp fun d w1 H1 F1 ⟨r1, e1, q1⟩ v hv => ?_)
    split at q1
    · rename_i xs hx
      obtain ⟨p1, e1', r2⟩ := r1.takeOwn hx
      rw [e0] at e1'
      cases e1'
      obtain ⟨b1, b2, b3, vs, b4, b5⟩ := r2.exo _ (List.mem_cons_self ..)
      have b5 : RpAll X.K fm.a0 F1 vs xs := b5
      by_cases hl : xs.length < 1000000
      · rw [if_pos hl] at q1
        refine ⟨p0, vs, v, rfl, rfl, b4, line_lt (by rw [b5.len]; omega), ?_⟩
        have r3 := (r2.mut (b5.app (.one hv))).putOwn e0
        refine q1 σ _ F1 (Ex.refl _) ?_
        simpa using r3
      · rw [if_neg hl] at q1
        exact (show False from q1).elim
    · exact (show False from q1).elim
  · exact fun q => q.elim
/-- target = xs.pop() -/
def sPop (i : Nat) (set : D → W → Option W) : W → RS := fun w => match w.env[i]? with
  | some (some (.own xs)) => oS (xs[xs.length - 1]?) fun d => oS (set d { w with env := w.env.set i (some (.own xs.dropLast)) }) .nx
  | _ => .stuck
theorem ss_pop {i : Nat} {x : Str} {tg : Expr} {p apos cpos pos : Pos} {js : List Nat} {set : D → W → Option W} (hg : SG X fm js tg set) (hN : X.N[i]? = some x := by rfl) (hv : Vis X.env.scope x := by first | exact Or.inl rfl | exact Or.inr (Or.inl rfl) | exact Or.inr (Or.inr rfl)) (hd : (x == ("__debug__" : Str)) = false := by decide)
    (hcd : (x == ("__classdict__" : Str)) = false := by decide) (hbase : attributeBase (.Name x p) "pop" X.env (eval (.Name x p) X.env) = eval (.Name x p) X.env := by rfl) (hline : (apos.endLine == cpos.line) = true := by rfl)
    (hs : swapsWithSole [tg] (.Call (.Attribute (.Name x p) "pop" apos) [] [] cpos) pos.line X.env = pure false := by rfl) (hw : swappedStores [tg] (.Call (.Attribute (.Name x p) "pop" apos) [] [] cpos) X.env = pure none := by rfl)
    (h1 : (assignEach [tg] X.env).map (·.2) = [assign tg X.env] := by rfl) : SSt X Wx fm (.Assign [tg] (.Call (.Attribute (.Name x p) "pop" apos) [] [] cpos) pos) (sPop i set) := by
  refine ⟨?_⟩
  intro ex σ H F w D r q
  refine WS.of (ps_asg (pe_bm0 PySem.F.plainAttrs_list PySem.F.slot_list_pop PySem.F.type_list_pop mt_pop (pe_var hN hv hd hcd) hbase hline) pg_wg hs hw h1) ?_
  revert q
  unfold sPop
  split
  · rename_i xs hx
    intro q
    obtain ⟨p0, e0, r0⟩ := r.takeOwn hx
    obtain ⟨a1, a2, a3, vs, a4, a5⟩ := r0.exo _ (List.mem_cons_self ..)
    have a4 : H p0 = some (.lst vs) := a4
    have a5 : RpAll X.K fm.a0 F vs xs := a5
    cases hd : xs[xs.length - 1]? with
    | none => rw [hd] at q; exact (show False from q).elim
    | some d =>
      rw [hd] at q
      obtain ⟨v, hv, rv⟩ := a5.get hd
      obtain ⟨w2, hw2, q2⟩ := finS_o q
      refine ⟨.ref p0, e0, .inl ⟨rfl, _, .inl (.inl a4)⟩, p0, vs, v, rfl, rfl, a4, by rw [a5.len]; exact hv, ?_⟩
      have r3 := (r0.mut a5.dropLast).putOwn e0
      have r3' : Rel X.K fm ex σ (upd H p0 (.lst vs.dropLast)) F { w with env := w.env.set i (some (.own xs.dropLast)) } := by simpa using r3
      exact hg ex σ _ F _ v d w2 _ r3' rv hw2 fun σ' _ _ r4 => q2 σ' _ F (Ex.refl _) r4
  · exact fun q => q.elim
def sIf (t : W → R Bool) (a b : W → RS) : W → RS := fun w => (t w).toS fun c w' => if c = true then a w' else b w'
theorem ss_if {c : Expr} {as bs : List Stmt} {pos : Pos} {t : W → R Bool} {a b : W → RS} (hc : STt X Wx fm c t) (ha : SSs X Wx fm as a) (hb : SSs X Wx fm bs b) : SSt X Wx fm (.If c as bs pos) (sIf t a b) := by
  refine ⟨?_⟩
  intro ex σ H F w D r q
  refine WS.of (ps_if pt_wt pss_wss pss_wss) ?_
  refine hc ex σ H F w _ r ((FinS.ofR q).imp fun b w1 H1 F1 ⟨r1, e1, q1⟩ => ?_)
  cases b with
  | true => exact ha ex σ H1 F1 w1 D r1 q1
  | false => exact hb ex σ H1 F1 w1 D r1 q1
def sRet (m : W → R D) : W → RS := fun w => (m w).toS fun d w' => .ret d w'
theorem ss_ret {e : Expr} {pos : Pos} {m : W → R D} (h : SE X Wx fm e m) : SSt X Wx fm (.Return (some e) pos) (sRet m) := by
  refine ⟨?_⟩
  intro ex σ H F w D r q
  refine WS.of (ps_ret pe_we) ?_
  exact h ex σ H F w _ r ((FinS.ofR q).imp fun d w1 H1 F1 ⟨r1, e1, q1⟩ v hv => q1 v σ H1 F1 (Ex.refl _) r1 hv)
def sRetN : W → RS := fun w => .ret .non w
theorem ss_retN {pos : Pos} : SSt X Wx fm (.Return none pos) sRetN := ⟨fun ex σ H F w D r q => WS.of ps_retN (q .non σ H F (Ex.refl _) r .non)⟩
/-- for -/
def sForGo (set : D → W → Option W) (body : W → RS) : List D → W → RS
  | [], w => .nx w
  | d :: ds, w => oS (set d w) fun w1 => match body w1 with
    | .nx w2 => sForGo set body ds w2
    | .cnt w2 => sForGo set body ds w2
    | .brk w2 => .nx w2
    | r => r
def sFor (mi : W → R (List D)) (set : D → W → Option W) (body : W → RS) : W → RS := fun w => (mi w).toS fun ds w1 => sForGo set body ds w1
theorem ss_for {tg iter : Expr} {body : List Stmt} {pos : Pos} {js : List Nat} {mi : W → R (List D)} {set : D → W → Option W} {m : W → RS} (hp : PassesOwn (model X.prog X.w) X.A X.env X.xe) (hc : X.calm = true) (hi : SIt X Wx fm tg iter mi) (hg : SG X fm js tg set) (hb : SSs X Wx fm body m)
    (hs : ∀ x, foldedSetIterable iter X.env x = pure x := by intro _; rfl) : SSt X Wx fm (.For tg iter body [] pos) (sFor mi set m) := by
  refine ⟨?_⟩
  intro ex σ H F w D r q
  refine WS.of (ps_for hp hc pi_wi pg_wg pss_wss hs) ?_
  refine hi ex σ H F w _ r ((FinS.ofR q).imp fun ds w1 H1 F1 ⟨r1, e1, q1⟩ J wk => ?_)
  obtain ⟨G, Y, walk, hG, hY⟩ := wk.ex
  refine for_it walk (fun i σ' H' => ∃ F' w', Ex F1 F' ∧ Rel X.K fm ex σ' H' F' w' ∧ FinS X Wx fm ex F1 D (sForGo set m (ds.drop i) w')) ⟨F1, w1, Ex.refl _, r1, q1⟩ (fun i σ' H' _ ⟨F', w', a, b, _⟩ => hG H' (a.trans b.fh)) (fun i x σa Ha Hb hi' ⟨F', w', ef, rr, fin⟩ y => ?_) (fun σ' H' ⟨F', w', ef, rr, fin⟩ => ?_)
  · obtain ⟨F2, d, hd, gr, rv⟩ := hY i Ha F' x Hb hi' ef rr.fh y
    have hdrop : ds.drop i = d :: ds.drop (i + 1) := by
      obtain ⟨hlt, e⟩ := List.getElem?_eq_some_iff.mp hd
      rw [List.drop_eq_getElem_cons hlt, e]
    rw [hdrop] at fin
    unfold sForGo at fin
    cases hset : set d w' with
    | none => rw [hset] at fin; exact (show False from fin).elim
    | some wa =>
      rw [hset] at fin
      have fin : FinS X Wx fm ex F1 D (match m wa with
        | .nx w2 => sForGo set m (ds.drop (i + 1)) w2
        | .cnt w2 => sForGo set m (ds.drop (i + 1)) w2
        | .brk w2 => .nx w2
        | r => r) := fin
      have ef2 : Ex F1 F2 := ef.trans gr.ff
      refine hg ex σa Hb F2 w' x d wa _ (rr.gr gr) rv hset fun σ2 _ _ ra => ?_
      refine hb ex σ2 Hb F2 wa _ ra ?_
      revert fin
      cases m wa with
      | nx w2 => exact fun fin σ' H' F' e r' => ⟨F', w2, ef2.trans e, r', fin⟩
      | cnt w2 => exact fun fin σ' H' F' e r' => ⟨F', w2, ef2.trans e, r', fin⟩
      | brk w2 => exact fun fin => FinS.from (r := .nx w2) fin ef2
      | ret d w2 => exact fun fin => FinS.from (r := .ret d w2) fin ef2
      | exc c w2 => exact fun fin => FinS.from (r := .exc c w2) fin ef2
      | stuck => exact fun fin => fin
  · rw [List.drop_eq_nil_of_le (Nat.le_refl _)] at fin
    exact fin σ' H' F' ef rr
/-- while -/
def sWhGo (t : W → R Bool) (body : W → RS) : Nat → W → RS
  | 0, _ => .stuck
  | n + 1, w => (t w).toS fun c w1 => if c = true then (match body w1 with
    | .nx w2 => sWhGo t body n w2
    | .cnt w2 => sWhGo t body n w2
    | .brk w2 => .nx w2
    | r => r) else .nx w1
def fuel : Nat := 1000000000
def sWhile (t : W → R Bool) (body : W → RS) : W → RS := sWhGo t body fuel
theorem ss_while {c : Expr} {body : List Stmt} {pos : Pos} {t : W → R Bool} {m : W → RS} (hp : PassesOwn (model X.prog X.w) X.A X.env X.xe) (hc : STt X Wx fm c t) (hb : SSs X Wx fm body m) : SSt X Wx fm (.While c body [] pos) (sWhile t m) := by
  refine ⟨?_⟩
  intro ex σ H F w D r q
  refine WS.of (ps_while hp pt_wt pss_wss) ?_
  refine ⟨fun n σ' H' => ∃ F' w', Rel X.K fm ex σ' H' F' w' ∧ FinS X Wx fm ex F' D (sWhGo t m n w'), ⟨fuel, F, w, r, q⟩, ?_⟩
  rintro n σ1 H1 ⟨F1, w1, r1, fin⟩
  cases n with
  | zero => exact (show False from fin).elim
  | succ n =>
    unfold sWhGo at fin
    refine hc ex σ1 H1 F1 w1 _ r1 ((FinS.ofR fin).imp fun b w2 H2 F2 ⟨r2, e2, q2⟩ => ?_)
    cases b with
    | false => exact q2 σ1 H2 F2 (Ex.refl _) r2
    | true =>
      refine ⟨fun σ' H' => ∃ F' w', Rel X.K fm ex σ' H' F' w' ∧ FinS X Wx fm ex F' D (sWhGo t m n w'), fun σ' H' z => ⟨n, Nat.lt_succ_self n, z⟩, ?_⟩
      refine hb ex σ1 H2 F2 w2 _ r2 ?_
      have q2 : FinS X Wx fm ex F2 D (match m w2 with
        | .nx w2 => sWhGo t m n w2
        | .cnt w2 => sWhGo t m n w2
        | .brk w2 => .nx w2
        | r => r) := q2
      revert q2
      cases m w2 with
      | nx w3 => exact fun q2 σ' H' F' e r' => ⟨F', w3, r', FinS.from q2 e⟩
      | cnt w3 => exact fun q2 σ' H' F' e r' => ⟨F', w3, r', FinS.from q2 e⟩
      | brk w3 => exact fun q2 => q2
      | ret d w3 => exact fun q2 => q2
      | exc c w3 => exact fun q2 => q2
      | stuck => exact fun q2 => q2
/-! ### a def -/
def startE (n : Nat) (ds : List D) : Env := ds.map (fun d => some (.val d)) ++ List.replicate (n - ds.length) none
def RS.fin : RS → RF
  | .ret d w => .ok d w.ss
  | .nx w => .ok .non w.ss
  | .exc c w => .exc c w.ss
  | _ => .stuck
def fnM (n : Nat) (m : W → RS) : List D → SS → RF := fun ds ss => (m ⟨startE n ds, ss⟩).fin
theorem rel_start {K : PySem.W.Frag} {a0 c0 : Addr} {F H : Hp} {vs : List V} {ds : List D} {ss : SS} {N : List Str} (hf : Ex F H) (hs : SrcOk a0 c0 F H ss) (hv : RpAll K a0 F vs ds) :
    Rel K ⟨a0, c0, H, F⟩ [] (start N vs) H F ⟨startE N.length ds, ss⟩ := by
  have hl := hv.len
  refine ⟨Ex.refl _, hf, fun _ _ _ h => h, fun _ _ h => .inl h, hs, ?_, fun i s h => ?_, fun i j xs ys p h => ?_, (fun q hq => nomatch hq), List.nodup_nil, (fun q hq => nomatch hq)⟩
  · show (startE N.length ds).length = (start N vs).length
    unfold startE L2.start
    simp [hl]
  · have h : (startE N.length ds)[i]? = some (some s) := h
    unfold startE at h
    by_cases hi : i < ds.length
    · rw [List.getElem?_append_left (by simpa using hi), List.getElem?_map, List.getElem?_eq_getElem hi] at h
      cases h
      obtain ⟨v, e, k⟩ := hv.get (List.getElem?_eq_getElem hi)
      refine ⟨v, ?_, k⟩
      unfold L2.start
      rw [List.getElem?_append_left (by simpa [hl] using hi), List.getElem?_map, e]
      rfl
    · rw [List.getElem?_append_right (by simpa using hi)] at h
      have := List.mem_of_getElem? h
      rw [List.mem_replicate] at this
      cases this.2
  · have h : (startE N.length ds)[i]? = some (some (.own xs)) := h
    unfold startE at h
    by_cases hi : i < ds.length
    · rw [List.getElem?_append_left (by simpa using hi), List.getElem?_map, List.getElem?_eq_getElem hi] at h
      cases h
    · rw [List.getElem?_append_right (by simpa using hi)] at h
      have := List.mem_of_getElem? h
      rw [List.mem_replicate] at this
      cases this.2
end
section
variable {P : Program} {w : World} {K : PySem.W.Frag} {mg : Str → Option Value} {base : Heap}
theorem Rel.gk {fm : Fm} {ex : Exs} {σ : L2.St} {H F : Hp} {w : W} (r : Rel K fm ex σ H F w) : Gk fm.a0 fm.G fm.F0 H F := ⟨r.gh, r.f0, r.fh, r.fg⟩
end
end TD

set_option Elab.async false
set_option linter.all false
set_option maxRecDepth 100000
set_option maxHeartbeats 4000000
namespace TD
open PySem PySem.Spec PyProof.Rows L2

section
variable {X : Cx} {Wx : WX} {fm : Fm} {a0 : Addr}
/-! ### more rules -/
theorem se_gint {x : Str} {i : Int} {pos : Pos} (hm : ∃ t, X.mg x = some (.int i t)) (hg : Gl X x := by rfl) (hd : (x == ("__debug__" : Str)) = false := by decide) : SE X Wx fm (.Name x pos) (mC (.int i)) := by
  obtain ⟨t, hm⟩ := hm
  exact se_glob (v := .int i) hg hm ⟨t, rfl⟩ (fun _ => .int i) hd
def gAddI : D → D → Option D
  | .int a, .int b => some (.int (a + b))
  | _, _ => none
theorem dop_iadd : DOp X a0 (inplaceOp .Add) gAddI := dop_int0 (h' := fun i j => .int (i + j)) iop_add (fun _ _ _ => .int _) fun d e r h => by
  cases d <;> cases e <;> cases h; exact ⟨_, _, rfl, rfl, rfl⟩
theorem dop_isub : DOp X a0 (inplaceOp .Sub) gSub := dop_int0 (h' := fun i j => .int (i - j)) iop_sub (fun _ _ _ => .int _) fun d e r h => by
  cases d <;> cases e <;> cases h; exact ⟨_, _, rfl, rfl, rfl⟩
/-- the parts of the source -/
def mSrc (i j : Nat) : W → R D := fun w => match w.env[i]? with
  | some (some (.val .src)) => match j with
    | 0 => .ok (.lst (w.ss.cells.map .int)) w
    | 1 => .ok (.int w.ss.left) w
    | 2 => .ok (.int w.ss.turn) w
    | _ => .stuck
  | _ => .stuck
theorem se_src {i j : Nat} {x : Str} {p q pos : Pos} {c : Nat} (hN : X.N[i]? = some x := by rfl) (hv : Vis X.env.scope x := by first | exact Or.inl rfl | exact Or.inr (Or.inl rfl) | exact Or.inr (Or.inr rfl)) (hd : (x == ("__debug__" : Str)) = false := by decide)
    (hcd : (x == ("__classdict__" : Str)) = false := by decide) (hs : PlainIx (.Constant (.int (j : Int)) c q) := by exact fun _ _ => rfl) : SE X Wx fm (.Subscript (.Name x p) (.Constant (.int (j : Int)) c q) pos) (mSrc i j) := by
  refine ⟨?_⟩
  intro ex σ H F w Q r fin
  refine WE.of (pe_ix ix_list (pe_var hN hv hd hcd) pe_int hs) ?_
  revert fin
  unfold mSrc
  split
  · rename_i h
    obtain ⟨v, e, k⟩ := r.slot i _ h
    cases k
    have hl : SqL X.K H fm.a0 [.ref fm.c0, .int w.ss.left, .int w.ss.turn] := .inl (.inl r.src.at0)
    split
    · exact fun fin => ⟨_, e, fm.a0, _, _, _, rfl, rfl, hl, atI_nat (j := 0) rfl, fin H F Kp.refl (Ex.refl _) r _ (.lst r.src.cells (.of_ints _))⟩
    · exact fun fin => ⟨_, e, fm.a0, _, _, _, rfl, rfl, hl, atI_nat (j := 1) rfl, fin H F Kp.refl (Ex.refl _) r _ (.int _)⟩
    · exact fun fin => ⟨_, e, fm.a0, _, _, _, rfl, rfl, hl, atI_nat (j := 2) rfl, fin H F Kp.refl (Ex.refl _) r _ (.int _)⟩
    · exact fun fin => fin.elim
  · exact fun fin => fin.elim
def sSrc (i j : Nat) (m : W → R D) : W → RS := fun w => (m w).toS fun d w' => match w'.env[i]?, d, j with
  | some (some (.val .src)), .int v, 1 => if 0 ≤ v then .nx { w' with ss := { w'.ss with left := v } } else .stuck
  | some (some (.val .src)), .int v, 2 => if 0 ≤ v then .nx { w' with ss := { w'.ss with turn := v } } else .stuck
  | _, _, _ => .stuck
theorem Rel.srcSet {K : PySem.W.Frag} {ex : Exs} {σ : L2.St} {H F : Hp} {w : W} (r : Rel K fm ex σ H F w) {l t : Int} (hl : 0 ≤ l) (ht : 0 ≤ t) : Rel K fm ex σ (upd H fm.a0 (.lst [.ref fm.c0, .int l, .int t])) F { w with ss := { w.ss with left := l, turn := t } } := by
  refine r.step (ss' := { w.ss with left := l, turn := t }) ⟨fun b o n e => by rw [upd_ne n]; exact e, Ex.refl _, fun b o e => ?_, fun b o e => .inl e⟩ ⟨r.src.fr, upd_same, r.src.cells, r.src.ne, r.src.nn, hl, ht⟩
  rw [upd_ne (fun z => by subst z; rw [r.src.fr] at e; cases e)]
  exact r.fh b o e
theorem ss_src {i j : Nat} {x : Str} {p q tp pos : Pos} {c : Nat} {e : Expr} {m : W → R D} (h : SE X Wx fm e m) (hN : X.N[i]? = some x := by rfl) (hv : Vis X.env.scope x := by first | exact Or.inl rfl | exact Or.inr (Or.inl rfl) | exact Or.inr (Or.inr rfl)) (hd : (x == ("__debug__" : Str)) = false := by decide)
    (hcd : (x == ("__classdict__" : Str)) = false := by decide)
    (hpg : ∀ {to ti : TE}, PE X (.Name x p) to → PE X (.Constant (.int (j : Int)) c q) ti → PG X (.Subscript (.Name x p) (.Constant (.int (j : Int)) c q) tp) (L2.gSub to ti rSetL) := by exact fun a b => pg_sub a b set_list)
    (hs : swapsWithSole [.Subscript (.Name x p) (.Constant (.int (j : Int)) c q) tp] e pos.line X.env = pure false := by rfl) (hw : swappedStores [.Subscript (.Name x p) (.Constant (.int (j : Int)) c q) tp] e X.env = pure none := by rfl)
    (h1 : (assignEach [.Subscript (.Name x p) (.Constant (.int (j : Int)) c q) tp] X.env).map (·.2) = [assign (.Subscript (.Name x p) (.Constant (.int (j : Int)) c q) tp) X.env] := by rfl) :
    SSt X Wx fm (.Assign [.Subscript (.Name x p) (.Constant (.int (j : Int)) c q) tp] e pos) (sSrc i j m) := by
  refine ⟨?_⟩
  intro ex σ H F w D r fin
  refine WS.of (ps_asg pe_we (hpg (pe_var hN hv hd hcd) pe_int) hs hw h1) ?_
  refine h ex σ H F w _ r ((FinS.ofR fin).imp fun d w1 H1 F1 ⟨r1, e1, q1⟩ v hv => ?_)
  revert q1
  split
  · rename_i k hi _
    intro q1
    obtain ⟨u, e, kk⟩ := r1.slot i _ hi
    cases kk
    cases hv
    by_cases h0 : 0 ≤ k
    · rw [if_pos h0] at q1
      exact ⟨_, e, _, [.ref fm.c0, .int w1.ss.left, .int w1.ss.turn], _, 1, rfl, rfl, r1.src.at0, rfl, q1 σ _ F1 (Ex.refl _) (r1.srcSet h0 r1.src.turn)⟩
    · rw [if_neg h0] at q1
      exact (show False from q1).elim
  · rename_i k hi _
    intro q1
    obtain ⟨u, e, kk⟩ := r1.slot i _ hi
    cases kk
    cases hv
    by_cases h0 : 0 ≤ k
    · rw [if_pos h0] at q1
      exact ⟨_, e, _, [.ref fm.c0, .int w1.ss.left, .int w1.ss.turn], _, 2, rfl, rfl, r1.src.at0, rfl, q1 σ _ F1 (Ex.refl _) (r1.srcSet r1.src.left h0)⟩
    · rw [if_neg h0] at q1
      exact (show False from q1).elim
  · exact fun q1 => q1.elim
/-- xs.extend(t) -/
theorem list_extend_tuple (l : Addr) (items : Array Value) (n : Nat) (b : Addr) (items2 : Array Value) (n2 : Nat) (dd : Option Addr) (sl : Array (Option Value)) (hs0 : ¬(!items.isEmpty && Builtin.List.listTooLong (items.size + items2.size)) = true) (hs1 : items.size ≤ sizeLine) (hs2 : items.size + items2.size ≤ sizeLine + 1) :
    Meets (Builtin.«list.extend» ⟨[.ref l, .ref b], []⟩) (fun _ R s => s.heap.get? l = some { cls := .type "list", dict := none, data := .seq items n, slots := #[] } ∧ s.heap.get? b = some { cls := .type "tuple", dict := dd, data := .seq items2 n2, slots := sl } ∧ R (.ok (.ret Value.none)) { s with heap := s.heap.update l (Obj.mapSeq fun x => x ++ items2), toks := s.toks }) :=
  .of_wp fun prog w A R s h => by
    obtain ⟨hp, g, d, tk, os⟩ := s; obtain ⟨hl, hb, h⟩ := h; have f1 := PySem.AutoSeq1.idx_int; have f2 := PySem.AutoSeq1.sub_tuple_tuple; have f3 := PySem.AutoSeq1.sub_list_list; have f4 := PySem.AutoSeq1.sub_tuple_list; have f5 := PySem.AutoSeq1.sub_list_tuple;
    have hz' : (items ++ items2).size ≤ sizeLine + 1 := by rw [Array.size_append]; exact hs2
    wp_walk using (wpAny_updateSeq hl rfl (hz := hs1) (_hz' := hz')), wpAny_loadPart' hl, wpAny_loadPart' hb; exact ⟨_, rfl, h⟩
def rExtendT (K : PySem.W.Frag) : V → List V → Hp → VK → Prop := fun x vs H Q => ∃ l b xs zs, x = .ref l ∧ vs = [.ref b] ∧ H l = some (.lst xs) ∧ (SqT K H b zs ∨ H b = some (.lst zs)) ∧ xs.length + zs.length ≤ sizeLine ∧ Q .non (upd H l (.lst (xs ++ zs)))
theorem mt_extendT : MtR X "list.extend" (rExtendT X.K) := by
  intro pins s σ H x vs v us Q I rx rv h
  obtain ⟨l, b, xs, zs, rfl, rfl, hH, hB, hz, q⟩ := h
  rcases hB with hB | hB
  · cases rx
    obtain ⟨u, rfl, ru⟩ := rv.one
    cases ru
    obtain ⟨z, its, n, r, hl, e⟩ := I.lstM hH
    obtain ⟨its2, r2, ⟨o, e2, hc, n2, hd⟩, hz2⟩ := I.tuple hB
    obtain ⟨cls, dd, dt, sl⟩ := o
    simp only at hc hd
    subst hc hd
    have l2 : zs.length = its2.length := r2.length
    have hsz : its.toArray.size + its2.toArray.size ≤ sizeLine := by rw [List.size_toArray, List.size_toArray]; omega
    have hlong : ¬ (!its.toArray.isEmpty && Builtin.List.listTooLong (its.toArray.size + its2.toArray.size)) = true := by
      rw [notLongL hsz, Bool.and_false]
      exact Bool.false_ne_true
    refine call_meets F.slot_list_extend ⟨_, e, rfl⟩ F.entry_list_extend (F.args_list_extend_2 _ _)
      (list_extend_tuple l its.toArray n b its2.toArray n2 dd sl hlong (by rw [List.size_toArray]; omega) (by omega)) ⟨e, e2, ?_⟩
    refine ⟨.non, _, I.lset (its' := its ++ its2) hH e (by simp) (r.append r2) ?_, rfl, q⟩
    rw [List.length_append]
    omega
  · exact mt_extend pins s σ H _ _ v us Q I rx rv ⟨l, b, xs, zs, rfl, rfl, hH, hB, hz, q⟩
def sExt (i : Nat) (m : W → R D) : W → RS := fun w => match w.env[i]? with
  | some (some (.own _)) => (m w).toS fun d w' => match w'.env[i]?, d.seq? with
    | some (some (.own xs)), some ys => if xs.length + ys.length ≤ 1000000 then .nx { w' with env := w'.env.set i (some (.own (xs ++ ys))) } else .stuck
    | _, _ => .stuck
  | _ => .stuck
theorem ss_extend {i : Nat} {x : Str} {e : Expr} {p apos cpos pos : Pos} {m : W → R D} (h : SE X Wx fm e m) (hN : X.N[i]? = some x := by rfl) (hv : Vis X.env.scope x := by first | exact Or.inl rfl | exact Or.inr (Or.inl rfl) | exact Or.inr (Or.inr rfl)) (hd : (x == ("__debug__" : Str)) = false := by decide)
    (hcd : (x == ("__classdict__" : Str)) = false := by decide) (hbase : attributeBase (.Name x p) "extend" X.env (eval (.Name x p) X.env) = eval (.Name x p) X.env := by rfl)
    (hfew : ((backTo cpos (starEach [e] X.env)).all (fun x => !x.1) && (backToKw cpos (keywordEach [] X.env)).all (fun x => x.1.isSome)
      && decide ([e].length + ([] : List Keyword).length + (if ([] : List Keyword).isEmpty then 0 else 1) < 30)) = true := by rfl)
    (hline : (apos.endLine == cpos.line) = true := by rfl) (hs : starEach [e] X.env = (false, eval e X.env) :: starEach [] X.env := by rfl) (hplain : (backTo cpos (starEach [] X.env)).any (·.1) = false := by rfl)
    (hsw : swapsWith (.Call (.Attribute (.Name x p) "extend" apos) [e] [] cpos) none pos.line X.env = pure false := by rfl) :
    SSt X Wx fm (.Expr (.Call (.Attribute (.Name x p) "extend" apos) [e] [] cpos) pos) (sExt i m) := by
  refine ⟨?_⟩
  intro ex σ H F w D r q
  refine WS.of (ps_expr (pe_bm PySem.F.plainAttrs_list PySem.F.slot_list_extend PySem.F.type_list_extend mt_extendT (pe_var hN hv hd hcd) (pa_cons pe_we pa_nil hs) hbase hfew hline hs hplain) hsw) ?_
  revert q
  unfold sExt
  split
  · rename_i xs0 hx0
    intro q
    obtain ⟨p0, e0, r0⟩ := r.takeOwn hx0
    obtain ⟨a1, a2, a3, vs0, a4, a5⟩ := r0.exo _ (List.mem_cons_self ..)
    refine ⟨.ref p0, e0, .inl ⟨rfl, _, .inl (.inl a4)⟩, ?_⟩
    refine h ex σ H F w _ r ((FinS.ofR q).imp fun d w1 H1 F1 ⟨r1, e1, q1⟩ v hv => ?_)
    split at q1
    · rename_i xs ys hx hy
      obtain ⟨p1, e1', r2⟩ := r1.takeOwn hx
      rw [e0] at e1'
      cases e1'
      obtain ⟨b1, b2, b3, vs, b4, b5⟩ := r2.exo _ (List.mem_cons_self ..)
      have b5 : RpAll X.K fm.a0 F1 vs xs := b5
      by_cases hl : xs.length + ys.length ≤ 1000000
      · rw [if_pos hl] at q1
        cases hv with
        | @tup pb us l h1 h2 =>
          cases hy
          refine ⟨p0, pb, vs, us, rfl, rfl, b4, .inl (ex_t r1.fh h1), line_of (by rw [b5.len, h2.len]; exact hl), ?_⟩
          have r3 := (r2.mut (b5.app h2)).putOwn e0
          exact q1 σ _ F1 (Ex.refl _) (by simpa using r3)
        | @lst pb us l h1 h2 =>
          cases hy
          refine ⟨p0, pb, vs, us, rfl, rfl, b4, .inr (r1.fh _ _ h1), line_of (by rw [b5.len, h2.len]; exact hl), ?_⟩
          have r3 := (r2.mut (b5.app h2)).putOwn e0
          exact q1 σ _ F1 (Ex.refl _) (by simpa using r3)
        | _ => cases hy
      · rw [if_neg hl] at q1
        exact (show False from q1).elim
    · exact (show False from q1).elim
  · exact fun q => q.elim
end
section
variable {P : Program} {w : World} {K : PySem.W.Frag} {mg : Str → Option Value} {base : Heap}
theorem tk_of {N : List Str} {qual : Str} {scope : Scope} {f : Addr} {cd : Value} {A : Around} {outer : List PySem.Env} {s : Shared} {H : Hp} {E : XK} : Takes (cxOf (L2.CX P w) P w K mg base N qual scope f cd A outer s H E) (fun c d _ H => E c d H) := takes_of rfl rfl rfl rfl
theorem po_of {N : List Str} {qual : Str} {scope : Scope} {f : Addr} {cd : Value} {A : Around} {outer : List PySem.Env} {s : Shared} {H : Hp} {E : XK} :
    PassesOwn (model (cxOf (L2.CX P w) P w K mg base N qual scope f cd A outer s H E).prog (cxOf (L2.CX P w) P w K mg base N qual scope f cd A outer s H E).w) (cxOf (L2.CX P w) P w K mg base N qual scope f cd A outer s H E).A (cxOf (L2.CX P w) P w K mg base N qual scope f cd A outer s H E).env (cxOf (L2.CX P w) P w K mg base N qual scope f cd A outer s H E).xe := passes_of rfl
/-- THE RULE for a def -/
theorem fn_td {x qual : Str} {params : Arguments} {body : List Stmt} {scope : Scope} {f : Addr} {fd : FuncData} {N ps : List Str} {k : Nat} {m : W → RS} (F : FunD K x qual params body scope [] [] f fd) (S : FnScope N ps scope)
    (hb : ∀ (cdv : Value) (A : Around) (outer : List PySem.Env) (s : Shared) (H : Hp) (E : XK) (fm : Fm), Room k (A.deeper (envOfC qual scope s.heap.objs.size f cdv)) → SSs (cxOf (L2.CX P w) P w K mg base N qual scope f cdv A outer s H E) (fun c d _ H => E c d H) fm body m) :
    FnOk P w K mg base (L2.CX P w) (k + 1) f fd ps (spM K mg ps.length (fnM N.length m)) := by
  refine F.ok S (fun vs H Q E h => h.choose_spec.choose_spec.choose_spec.choose_spec.choose_spec.1) (fun cdv A outer s H vs Q E hr h => ?_)
  obtain ⟨a0, c0, F0, ds, ss, hl, hf, hs, hv, q⟩ := h
  refine ⟨_, pss_wss, ?_⟩
  refine hb cdv A outer s H E ⟨a0, c0, H, F0⟩ hr [] _ H F0 ⟨startE N.length ds, ss⟩ _ (rel_start hf hs hv) ?_
  revert q
  unfold fnM
  cases m ⟨startE N.length ds, ss⟩ with
  | nx w1 => exact fun q σ' H' F' e r => q .non H' F' r.gk r.src .non
  | ret d w1 => exact fun q v σ' H' F' e r k => q v H' F' r.gk r.src k
  | exc c w1 => exact fun q σ' H' F' cls dd e r k => q H' F' cls dd r.gk r.src k
  | brk w1 => exact fun q => q.elim
  | cnt w1 => exact fun q => q.elim
  | stuck => exact fun q => q
theorem fn_stuck {x qual : Str} {params : Arguments} {body : List Stmt} {scope : Scope} {f : Addr} {fd : FuncData} {N ps : List Str} {k : Nat} (F : FunD K x qual params body scope [] [] f fd) (S : FnScope N ps scope) :
    FnOk P w K mg base (L2.CX P w) (k + 1) f fd ps (spM K mg ps.length (fun _ _ => .stuck)) :=
  F.ok S (fun vs H Q E h => h.choose_spec.choose_spec.choose_spec.choose_spec.choose_spec.1) (fun cdv A outer s H vs Q E hr h => by
    obtain ⟨a0, c0, F0, ds, ss, hl, hf, hs, hv, q⟩ := h
    exact (show False from q).elim)
end
end TD
namespace TD
open PySem PySem.Spec PySem.Calls PyProof.Rows L2
section
variable {prog : Program} {w : World} {A : Around} {s : Shared}
theorem adjust_rev (n : Nat) : Builtin.Slice.sliceAdjust none none (-1) (n : Int) = ((n : Int) - 1, -1) := by
  simp [Builtin.Slice.sliceAdjust]
theorem places_rev (n : Nat) : Builtin.Slice.slicePlaces ((n : Int) - 1) (-1) (-1) = n := by
  unfold Builtin.Slice.slicePlaces
  have h1 : ¬ ((-1 : Int) > 0) := by omega
  simp only [h1, if_false]
  rw [show (- -1 : Int) = 1 by decide, Int.ediv_one]
  split <;> omega
theorem pick_rev {α : Type} (xs : Array α) : ((List.range xs.size).filterMap fun (m : Nat) => xs[((((xs.size : Nat) : Int) - 1) + (m : Int) * (-1)).toNat]?).toArray = xs.toList.reverse.toArray := by
  have e : (List.range xs.size).filterMap (fun (m : Nat) => xs[((((xs.size : Nat) : Int) - 1) + (m : Int) * (-1)).toNat]?) = ((List.range xs.size).map fun k => xs.size - 1 - k).filterMap (xs[·]?) := by
    rw [List.filterMap_map]
    congr 1
    funext m
    show _ = xs[xs.size - 1 - m]?
    rw [show ((((xs.size : Nat) : Int) - 1) + (m : Int) * (-1)).toNat = xs.size - 1 - m by omega]
  rw [e, PySem.W.krv_range, List.filterMap_reverse, PySem.W.krv_all]
theorem sliceApplied_rev {sl : Addr} {vl vu vs : Value} {n : Nat} {Q : Int × Int × Nat → Shared → Prop} (hs : s.heap.IsSliceOf sl vl vu vs) (pl : IsPart vl none) (pu : IsPart vu none) (ps : IsPart vs (some (-1)))
    (h : Q ((n : Int) - 1, -1, n) s) : wpAny (model prog w) A (Builtin.Slice.sliceApplied (.ref sl) (pure (n : Int))) Q E s := by
  obtain ⟨os, hos, hcs, hds⟩ := id hs
  unfold Builtin.Slice.sliceApplied Builtin.Slice.sliceFields
  refine wpAny_bind (wpAny_bind (wpAny_field hos hds (x := vl) rfl (wpAny_bind (wpAny_field hos hds (x := vu) rfl (wpAny_bind (wpAny_field hos hds (x := vs) rfl (wpAny_pure ?_)))))))
  refine wpAny_bind (HT.slicePart_ ps ?_)
  show wpAny _ _ (if ((-1 : Int) == 0) = true then _ else _) _ _ s
  rw [if_neg (by decide)]
  refine wpAny_bind (HT.slicePart_ pl (wpAny_bind (HT.slicePart_ pu (wpAny_bind (wpAny_pure ?_)))))
  show wpAny _ _ (match Builtin.Slice.sliceAdjust none none (-1) (n : Int) with | (lo, hi) => pure (lo, (-1 : Int), Builtin.Slice.slicePlaces lo hi (-1))) _ _ s
  rw [adjust_rev n]
  show wpAny _ _ (pure ((n : Int) - 1, (-1 : Int), Builtin.Slice.slicePlaces ((n : Int) - 1) (-1) (-1))) _ _ s
  rw [places_rev]
  exact wpAny_pure h
theorem getItem_tuple_rev {t sl : Addr} {items : Array Value} {vl vu vs : Value} {Q : Value → Shared → Prop} (ht : IsTup s.heap t items) (hs : s.heap.IsSliceOf sl vl vu vs) (pl : IsPart vl none) (pu : IsPart vu none) (ps : IsPart vs (some (-1)))
    (h : Q (.ref s.heap.objs.size) { s with heap := s.heap.push { cls := .type "tuple", data := .seq items.toList.reverse.toArray } })
    (hsz : items.size ≤ sizeLine) : wpAny (model prog w) A (getItem (.ref t) (.ref sl)) Q E s := by
  have htake : sizeOk (.seq items.toList.reverse.toArray) := by
    show items.toList.reverse.toArray.size ≤ sizeLine
    rw [List.size_toArray, List.length_reverse, Array.length_toList]
    exact hsz
  obtain ⟨os, hos, hcs, hds⟩ := id hs
  have hTs : s.TypeIs (.ref sl) "slice" := ⟨os, hos, hcs⟩
  unfold getItem
  try with_reducible refine wpAny_holding ?_
  first | refine wpAny_bind (wpAny_pure ?_) | skip
  refine wpAny_bind (wpAny_sequenceKey ht.typeIs (by decide) ?_)
  refine wpAny_bind (wpAny_callSpecial?_slot (name := Str.ofString "__getitem__") ht.typeIs PyProof.Rows.slot_tuple_getitem
    (wpAny_call_entry PyProof.Rows.slot_tuple_getitem ht.typeIs entry_tuple_getitem ?_ (args_tuple_getitem _ _)))
  show wpAny _ _ (Builtin.Tuple.tupleItemsOf (.ref t) >>= _) _ _ s
  refine wpAny_bind (tupleItemsOf_ ht ?_)
  refine wpAny_bind (wpAny_typeOf hTs ?_)
  rw [if_pos (by decide)]
  refine wpAny_bind (sliceApplied_rev hs pl pu ps ?_)
  have hno : ¬ ((((items.size : Nat) : Int) - 1 == 0 && (-1 : Int) == 1 && items.size == items.size) = true) := by
    intro q
    rw [Bool.and_eq_true, Bool.and_eq_true] at q
    exact absurd q.1.2 (by decide)
  show wpAny _ _ (if (((items.size : Nat) : Int) - 1 == 0 && (-1 : Int) == 1 && items.size == items.size) = true then _ else _) _ _ s
  rw [if_neg hno, pick_rev]
  first
    | exact wpAny_bind (m := Builtin.Tuple.tupleExact _) (wpAny_newObj_type (wpAny_pure ⟨_, rfl, wpAny_pure h⟩) htake)
    | exact wpAny_bind (m := Builtin.Tuple.tupleExact _) (wpAny_newObj_type (wpAny_bind (wpAny_pure (wpAny_pure ⟨_, rfl, wpAny_pure h⟩))) htake)
    | exact wpAny_bind (wpAny_bind (m := Builtin.Tuple.tupleExact _) (wpAny_newObj_type (wpAny_pure (wpAny_pure ⟨_, rfl, wpAny_pure h⟩)) htake))
    | exact wpAny_bind (wpAny_bind (m := Builtin.Tuple.tupleExact _) (wpAny_newObj_type (wpAny_pure ⟨_, rfl, wpAny_pure h⟩) htake))
end
section
variable {X : Cx} {Wx : WX} {fm : Fm}
def tRevT (K : PySem.W.Frag) (te : TE) : TE := fun σ H Q => te σ H fun x H1 => ∃ a xs, x = .ref a ∧ SqT K H1 a xs ∧ ∀ p, H1 p = none → Q (.ref p) (upd H1 p (.tup xs.reverse))
theorem pe_revT {e : Expr} {te : TE} {k : Nat} {p1 p2 p3 pos : Pos} (he : PE X e te) : PE X (.Subscript e (.Slice none none (some (.UnaryOp .USub (.Constant (.int 1) k p1) p2)) p3) pos) (tRevT X.K te) := by
  refine ⟨fun pins s σ H Q I h => ?_⟩
  refine Subscript_ (thn (he.run pins s σ H _ I h) fun v s1 ⟨x, H1, I1, r1, q1⟩ => ?_)
  obtain ⟨a, xs, ex, hx, q⟩ := q1
  subst ex
  cases r1
  have hst : PO X (some (.UnaryOp .USub (.Constant (.int 1) k p1) p2)) (tPart (tUn (rU fun i => .int (-i)) (tC (.int 1)))) := po_some (pe_un un_neg pe_int)
  refine wpAny_Slice (thn (po_none.run pins s1 σ H1 (fun o H2 => o = none ∧ H2 = H1) I1 ⟨rfl, rfl⟩) fun vl s2 ⟨l, H2, I2, pl, el, e2⟩ => ?_)
  subst el e2
  refine thn (po_none.run pins s2 σ H2 (fun o H3 => o = none ∧ H3 = H2) I2 ⟨rfl, rfl⟩) fun vu s3 ⟨u, H3, I3, pu, eu, e3⟩ => ?_
  subst eu e3
  refine thn (hst.run pins s3 σ H3 (fun o H4 => o = some (-1) ∧ H4 = H3) I3 ⟨1, rfl, -1, rfl, rfl, rfl⟩) fun vs s4 ⟨o, H4, I4, ps, eo, e4⟩ => ?_
  subst eo e4
  have I5 : Inv X pins σ H4 { s4 with heap := s4.heap.push { cls := .type "slice", data := .fields #[vl, vu, vs] } } := I4.kept (t' := s4.toks) fun b ob q => Heap.get?_push_of_some _ q
  obtain ⟨its, r, ht, hz⟩ := I5.tuple hx
  have hlen : its.toArray.size = xs.length := by rw [List.size_toArray]; exact r.length.symm
  show wpAny (model X.prog X.w) X.A (subscriptTail e (.Slice none none (some (.UnaryOp .USub (.Constant (.int 1) k p1) p2)) p3) (.ref a) (.ref s4.heap.objs.size)) (EP X pins σ Q) X.xe { s4 with heap := s4.heap.push { cls := .type "slice", data := .fields #[vl, vu, vs] } }
  refine tail_any (ops := [.ref a, .ref s4.heap.objs.size]) ht.typeIs (PyProof.Rows.slot_tuple_getitem.lookup) ?_ (by with_unfolding_all rfl)
  refine getItem_tuple_rev ht (Heap.IsSliceOf.new _ vl vu vs) pl pu ps ?_ (by rw [hlen]; exact hz)
  refine ⟨.ref _, _, I5.laid (t' := s4.toks) (o := .tup xs.reverse) (fun b ob q => Heap.get?_push_of_some _ q) (Nat.le_refl _) ?_, rfl, q _ (I5.hok.fresh (Nat.le_refl _))⟩
  exact ⟨by rw [List.length_reverse]; exact hz, _, r.reverse, IsTup.new _ _⟩
def mRevT (m : W → R D) : W → R D := fun w => (m w).bind fun d w1 => R.lift (d.t?.map fun l => .tup l.reverse) w1
theorem se_revT {e : Expr} {k : Nat} {p1 p2 p3 pos : Pos} {m : W → R D} (h : SE X Wx fm e m) : SE X Wx fm (.Subscript e (.Slice none none (some (.UnaryOp .USub (.Constant (.int 1) k p1) p2)) p3) pos) (mRevT m) := by
  refine ⟨?_⟩
  intro ex σ H F w Q r q
  refine WE.of (pe_revT pe_we) ?_
  refine h ex σ H F w _ r ((Fin.bind q).imp fun d w1 H1 F1 ⟨r1, k1, e1, q1⟩ v hv => ?_)
  cases hv with
  | @tup p0 vs l h1 h2 =>
    refine ⟨_, _, rfl, ex_t r1.fh h1, fun p' hp => ?_⟩
    have g : Gr H1 F1 (upd H1 p' (.tup vs.reverse)) (upd F1 p' (.tup vs.reverse)) := Gr.new r1.fh hp
    exact q1 _ _ g.kp g.ff (r1.gr g) _ (.tup (.inl (.inl upd_same)) (h2.rev.ex g.ff))
  | _ => exact (show False from q1).elim
end
section
variable {X : Cx} {Wx : WX} {fm : Fm}
/-- x[k] of a list that is being built: it stays so -/
def mIxO (i : Nat) (m : W → R D) : W → R D := fun w => match w.env[i]? with
  | some (some (.own _)) => (m w).bind fun k w1 => match w1.env[i]? with
    | some (some (.own xs)) => R.lift (gIx (.lst xs) k) w1
    | _ => .stuck
  | _ => mBin gIx (mVar i) m w
theorem se_ixO {i : Nat} {x : Str} {b : Expr} {p pos : Pos} {m : W → R D} (hb : SE X Wx fm b m) (hN : X.N[i]? = some x := by rfl) (hv : Vis X.env.scope x := by first | exact Or.inl rfl | exact Or.inr (Or.inl rfl) | exact Or.inr (Or.inr rfl)) (hd : (x == ("__debug__" : Str)) = false := by decide)
    (hcd : (x == ("__classdict__" : Str)) = false := by decide) (hs : PlainIx b := by exact fun _ _ => rfl) : SE X Wx fm (.Subscript (.Name x p) b pos) (mIxO i m) := by
  refine ⟨?_⟩
  intro ex σ H F w Q r fin
  revert fin
  unfold mIxO
  split
  · rename_i xs0 hx0
    intro fin
    refine WE.of (pe_ix ix_list (pe_var hN hv hd hcd) pe_we hs) ?_
    obtain ⟨p0, e0, r0⟩ := r.takeOwn hx0
    refine ⟨.ref p0, e0, ?_⟩
    refine hb ex σ H F w _ r ((Fin.bind fin).imp fun k w1 H1 F1 ⟨r1, k1, e1, q1⟩ u hu => ?_)
    split at q1
    · rename_i xs hx
      obtain ⟨p1, e1', r2⟩ := r1.takeOwn hx
      rw [e0] at e1'
      cases e1'
      obtain ⟨b1, b2, b3, vs, b4, b5⟩ := r2.exo _ (List.mem_cons_self ..)
      have b5 : RpAll X.K fm.a0 F1 vs xs := b5
      obtain ⟨z, hz, q3⟩ := q1.lift
      cases hu with
      | int j =>
        obtain ⟨t, ht, rt⟩ := rp_atI b5 (show atI xs j = some z from hz)
        exact ⟨_, _, _, _, rfl, rfl, .inl (.inl b4), ht, q3 H1 F1 Kp.refl (Ex.refl _) r1 t rt⟩
      | _ => cases hz
    · exact (show False from q1).elim
  · intro fin
    exact se_ix (se_var hN hv hd hcd) hb hs ex σ H F w Q r fin
end
end TD

set_option Elab.async false
set_option linter.all false
set_option maxRecDepth 100000
set_option maxHeartbeats 4000000
namespace TD
open PySem PySem.Spec PyProof.Rows L2
/-! ### how the mirrors are reckoned -/
section
variable {env : Env} {ss : SS} {w : W}
@[simp] theorem mVar_ap (i : Nat) : mVar i ⟨env, ss⟩ = match env[i]? with
  | some (some (.val d)) => .ok d ⟨env, ss⟩
  | some (some (.own xs)) => .ok (.lst xs) ⟨env.set i (some (.val (.lst xs))), ss⟩
  | _ => .stuck := rfl
@[simp] theorem mC_ap (d : D) : mC d w = .ok d w := rfl
@[simp] theorem mBin_ap (g : D → D → Option D) (a b : W → R D) : mBin g a b w = (a w).bind fun x w1 => (b w1).bind fun y w2 => R.lift (g x y) w2 := rfl
@[simp] theorem mChain_ap (g g' : D → D → Option D) (a b c : W → R D) : mChain g g' a b c w = (a w).bind fun x w1 => (b w1).bind fun y w2 => (R.lift ((g x y).bind D.b?) w2).bind fun k w3 => if k = true then (c w3).bind fun z w4 => R.lift (g' y z) w4 else .ok (.bl false) w3 := rfl
@[simp] theorem mUn_ap (g : D → Option D) (a : W → R D) : mUn g a w = (a w).bind fun x w1 => R.lift (g x) w1 := rfl
@[simp] theorem mIxO_ap (i : Nat) (m : W → R D) : mIxO i m ⟨env, ss⟩ = match env[i]? with
  | some (some (.own _)) => (m ⟨env, ss⟩).bind fun k w1 => match w1.env[i]? with
    | some (some (.own xs)) => R.lift (gIx (.lst xs) k) w1
    | _ => .stuck
  | _ => mBin gIx (mVar i) m ⟨env, ss⟩ := rfl
@[simp] theorem mTru_ap (a : W → R D) : mTru a w = (a w).bind fun x w1 => R.lift x.tru w1 := rfl
@[simp] theorem mB_ap (a : W → R D) : mB a w = (a w).bind fun x w1 => R.lift x.b? w1 := rfl
@[simp] theorem mNotT_ap (a : W → R Bool) : mNotT a w = (a w).bind fun b w1 => .ok (!b) w1 := rfl
@[simp] theorem mAndT_ap (a b : W → R Bool) : mAndT a b w = (a w).bind fun c w1 => if c = true then b w1 else .ok false w1 := rfl
@[simp] theorem mOrT_ap (a b : W → R Bool) : mOrT a b w = (a w).bind fun c w1 => if c = true then .ok true w1 else b w1 := rfl
@[simp] theorem mAndV_ap (a b : W → R D) : mAndV a b w = (a w).bind fun d w1 => (R.lift d.b? w1).bind fun c w2 => if c = true then b w2 else .ok (.bl false) w2 := rfl
@[simp] theorem mOrV_ap (a b : W → R D) : mOrV a b w = (a w).bind fun d w1 => (R.lift d.b? w1).bind fun c w2 => if c = true then .ok (.bl true) w2 else b w2 := rfl
@[simp] theorem mNotV_ap (a : W → R D) : mNotV a w = (a w).bind fun d w1 => (R.lift d.b? w1).bind fun c w2 => .ok (.bl (!c)) w2 := rfl
@[simp] theorem mIfE_ap (t : W → R Bool) (a b : W → R D) : mIfE t a b w = (t w).bind fun c w1 => if c = true then a w1 else b w1 := rfl
@[simp] theorem mNil_ap : mNil w = .ok [] w := rfl
@[simp] theorem mCons_ap (a : W → R D) (b : W → R (List D)) : mCons a b w = (a w).bind fun d w1 => (b w1).bind fun ds w2 => .ok (d :: ds) w2 := rfl
@[simp] theorem mTup_ap (a : W → R (List D)) : mTup a w = (a w).bind fun ds w1 => R.lift (if ds.length ≤ 1000000 then some (.tup ds) else none) w1 := rfl
@[simp] theorem mLst_ap (a : W → R (List D)) : mLst a w = (a w).bind fun ds w1 => R.lift (if ds.length ≤ 1000000 then some ds else none) w1 := rfl
@[simp] theorem mFrz_ap (a : W → R (List D)) : mFrz a w = (a w).bind fun xs w1 => .ok (.lst xs) w1 := rfl
@[simp] theorem mSc_ap (a : W → R D) : mSc a w = (a w).bind fun d w1 => .ok d (if d.flat = true then { env := w.env, ss := w1.ss } else w1) := rfl
@[simp] theorem mScT_ap (a : W → R Bool) : mScT a w = (a w).bind fun b w1 => .ok b { env := w.env, ss := w1.ss } := rfl
@[simp] theorem mBlt_ap (g : List D → Option D) (a : W → R (List D)) : mBlt g a w = (a w).bind fun ds w1 => R.lift (g ds) w1 := rfl
@[simp] theorem mIsi_ap (T : String) (a : W → R D) : mIsi T a w = (a w).bind fun d w1 => R.lift ((d.isi T).map D.bl) w1 := rfl
def RF.toR (r : RF) (w : W) : R D := match r with
  | .ok d ss' => .ok d { w with ss := ss' }
  | .exc c ss' => .exc c { w with ss := ss' }
  | .stuck => .stuck
@[simp] theorem RF.toR_ok (d : D) (s : SS) : (RF.ok d s).toR w = .ok d { w with ss := s } := rfl
@[simp] theorem RF.toR_exc (c : Exn) (s : SS) : (RF.exc c s).toR w = .exc c { w with ss := s } := rfl
@[simp] theorem RF.toR_stuck : RF.stuck.toR w = .stuck := rfl
@[simp] theorem mCall_ap (n : Nat) (f : List D → SS → RF) (a : W → R (List D)) : mCall n f a w = (a w).bind fun ds w1 => if ds.length = n then (f ds w1.ss).toR w1 else .stuck := rfl
@[simp] theorem mCall0_ap (f : List D → SS → RF) : mCall0 f w = match f [] w.ss with | .ok d ss' => .ok d { w with ss := ss' } | _ => .stuck := rfl
@[simp] theorem mSlT_ap (a : W → R D) (lo hi : W → R (Option Int)) : mSlT a lo hi w = (a w).bind fun d w1 => (lo w1).bind fun x w2 => (hi w2).bind fun y w3 => R.lift (d.t?.map fun l => .tup (cutD l x y)) w3 := rfl
@[simp] theorem mSlL_ap (a : W → R D) (lo hi : W → R (Option Int)) : mSlL a lo hi w = (a w).bind fun d w1 => (lo w1).bind fun x w2 => (hi w2).bind fun y w3 => R.lift (d.l?.map fun l => cutD l x y) w3 := rfl
@[simp] theorem mRevL_ap (a : W → R D) : mRevL a w = (a w).bind fun d w1 => R.lift (d.l?.map List.reverse) w1 := rfl
@[simp] theorem mRevT_ap (a : W → R D) : mRevT a w = (a w).bind fun d w1 => R.lift (d.t?.map fun l => .tup l.reverse) w1 := rfl
@[simp] theorem mCat_ap (a b : W → R D) : mCat a b w = (a w).bind fun x w1 => (b w1).bind fun y w2 => R.lift (match x, y with | .lst a, .lst b => if a.length + b.length ≤ 1000000 then some (a ++ b) else none | _, _ => none) w2 := rfl
@[simp] theorem mP_ap (a : W → R D) : mP a w = (a w).bind fun d w1 => R.lift (d.i?.map some) w1 := rfl
@[simp] theorem mNoP_ap : mNoP w = .ok none w := rfl
@[simp] theorem mItems_ap (a : W → R D) : mItems a w = (a w).bind fun d w1 => R.lift d.items w1 := rfl
@[simp] theorem mListOf_ap (a : W → R D) : mListOf a w = (a w).bind fun d w1 => R.lift d.seq? w1 := rfl
@[simp] theorem mRng1_ap (a : W → R (List D)) : mRng1 a w = (a w).bind fun ds w1 => R.lift (match ds with | [.int b] => if small b = true then some (rngD 0 b) else none | _ => none) w1 := rfl
@[simp] theorem mRng2_ap (a : W → R (List D)) : mRng2 a w = (a w).bind fun ds w1 => R.lift (match ds with | [.int a, .int b] => if (small a && small b) = true then some (rngD a b) else none | _ => none) w1 := rfl
@[simp] theorem mLc_ap (vs : List Nat) (mi : W → R (List D)) (set : D → W → Option W) (mt : W → R Bool) (me : W → R D) : mLc vs mi set mt me w = (mi w).bind fun ds w1 =>
  (lcGo vs set mt me ds [] { w1 with env := wipeE w1.env vs }).bind fun acc w2 => .ok acc { w2 with env := resE w1.env w2.env vs } := rfl
@[simp] theorem lcGo_nil (vs : List Nat) (set : D → W → Option W) (mt : W → R Bool) (me : W → R D) (acc : List D) : lcGo vs set mt me [] acc w = .ok acc w := rfl
theorem lcGo_cons (vs : List Nat) (set : D → W → Option W) (mt : W → R Bool) (me : W → R D) (d : D) (ds acc : List D) : lcGo vs set mt me (d :: ds) acc w = match set d w with
    | none => .stuck
    | some w1 => (mt w1).nox.bind fun b w2 => if b = true then (me w2).nox.bind fun y w3 => if acc.length < 1000000 then lcGo vs set mt me ds (acc ++ [y]) { w3 with env := wipeE w3.env vs } else .stuck
      else lcGo vs set mt me ds acc { w2 with env := wipeE w2.env vs } := rfl
@[simp] theorem nox_okk {α : Type} (a : α) : (R.ok a w).nox = .ok a w := rfl
@[simp] theorem mYes_ap : mYes w = .ok true w := rfl
@[simp] theorem gsName_ap (i : Nat) (d : D) : gsName i d ⟨env, ss⟩ = some ⟨env.set i (some (.val d)), ss⟩ := rfl
@[simp] theorem gsTup_ap (n : Nat) (t : List D → W → Option W) (ds : List D) : gsTup n t (.tup ds) w = if ds.length = n then t ds w else none := rfl
@[simp] theorem gsCons_ap (s : D → W → Option W) (t : List D → W → Option W) (d : D) (ds : List D) : gsCons s t (d :: ds) w = (s d w).bind (t ds) := rfl
@[simp] theorem gsNil_ap : gsNil [] w = some w := rfl
@[simp] theorem wipeE_nil : wipeE env [] = env := rfl
@[simp] theorem wipeE_cons (v : Nat) (vs : List Nat) : wipeE env (v :: vs) = (wipeE env vs).set v none := rfl
@[simp] theorem resE_nil (e0 : Env) : resE e0 env [] = env := rfl
@[simp] theorem resE_cons (e0 : Env) (v : Nat) (vs : List Nat) : resE e0 env (v :: vs) = (resE e0 env vs).set v (match e0[v]? with | some (some (.val d)) => some (.val d) | _ => none) := rfl
@[simp] theorem sNil_ap : sNil w = .nx w := rfl
@[simp] theorem sCons_ap (a b : W → RS) : sCons a b w = (a w).bind b := rfl
@[simp] theorem sSet_ap (i : Nat) (m : W → R D) : sSet i m w = (m w).toS fun d w' => .nx { w' with env := w'.env.set i (some (.val d)) } := rfl
@[simp] theorem sSetF_ap (i : Nat) (m : W → R (List D)) : sSetF i m w = (m w).toS fun xs w' => .nx { w' with env := w'.env.set i (some (.own xs)) } := rfl
@[simp] theorem sAsg_ap (set : D → W → Option W) (m : W → R D) : sAsg set m w = (m w).toS fun d w' => oS (set d w') .nx := rfl
@[simp] theorem oS_some {α : Type} (a : α) (k : α → RS) : oS (some a) k = k a := rfl
@[simp] theorem oS_none {α : Type} (k : α → RS) : oS (none : Option α) k = .stuck := rfl
@[simp] theorem sPar_ap (i j : Nat) (m : W → R (List D)) : sPar i j m w = (m w).toS fun ds w' => match ds with
  | [d, e] => .nx { w' with env := (w'.env.set i (some (.val d))).set j (some (.val e)) }
  | _ => .stuck := rfl
@[simp] theorem sAug_ap (i : Nat) (g : D → D → Option D) (m : W → R D) : sAug i g m w = match w.env[i]? with
  | some (some (.val x)) => (m w).toS fun y w' => oS (g x y) fun z => .nx { w' with env := w'.env.set i (some (.val z)) }
  | _ => .stuck := rfl
@[simp] theorem sExpr_ap (m : W → R D) : sExpr m w = (m w).toS fun _ w' => .nx w' := rfl
@[simp] theorem sApp_ap (i : Nat) (m : W → R D) : sApp i m w = match w.env[i]? with
  | some (some (.own _)) => (m w).toS fun d w' => match w'.env[i]? with
    | some (some (.own xs)) => if xs.length < 1000000 then .nx { w' with env := w'.env.set i (some (.own (xs ++ [d]))) } else .stuck
    | _ => .stuck
  | _ => .stuck := rfl
@[simp] theorem sExt_ap (i : Nat) (m : W → R D) : sExt i m w = match w.env[i]? with
  | some (some (.own _)) => (m w).toS fun d w' => match w'.env[i]?, d.seq? with
    | some (some (.own xs)), some ys => if xs.length + ys.length ≤ 1000000 then .nx { w' with env := w'.env.set i (some (.own (xs ++ ys))) } else .stuck
    | _, _ => .stuck
  | _ => .stuck := rfl
@[simp] theorem sPop_ap (i : Nat) (set : D → W → Option W) : sPop i set w = match w.env[i]? with
  | some (some (.own xs)) => oS (xs[xs.length - 1]?) fun d => oS (set d { w with env := w.env.set i (some (.own xs.dropLast)) }) .nx
  | _ => .stuck := rfl
@[simp] theorem sIf_ap (t : W → R Bool) (a b : W → RS) : sIf t a b w = (t w).toS fun c w' => if c = true then a w' else b w' := rfl
@[simp] theorem sRet_ap (m : W → R D) : sRet m w = (m w).toS fun d w' => .ret d w' := rfl
@[simp] theorem sRetN_ap : sRetN w = .ret .non w := rfl
@[simp] theorem sFor_ap (mi : W → R (List D)) (set : D → W → Option W) (body : W → RS) : sFor mi set body w = (mi w).toS fun ds w1 => sForGo set body ds w1 := rfl
@[simp] theorem sForGo_nil (set : D → W → Option W) (body : W → RS) : sForGo set body [] w = .nx w := rfl
/-- one turn's outcome handed on -/
def RS.loop (r : RS) (k : W → RS) : RS := match r with
  | .nx w2 => k w2
  | .cnt w2 => k w2
  | .brk w2 => .nx w2
  | r => r
@[simp] theorem RS.loop_nx (k : W → RS) : (RS.nx w).loop k = k w := rfl
@[simp] theorem RS.loop_cnt (k : W → RS) : (RS.cnt w).loop k = k w := rfl
@[simp] theorem RS.loop_brk (k : W → RS) : (RS.brk w).loop k = .nx w := rfl
@[simp] theorem RS.loop_ret (d : D) (k : W → RS) : (RS.ret d w).loop k = .ret d w := rfl
@[simp] theorem RS.loop_exc (c : Exn) (k : W → RS) : (RS.exc c w).loop k = .exc c w := rfl
@[simp] theorem RS.loop_stuck (k : W → RS) : RS.stuck.loop k = .stuck := rfl
theorem sForGo_cons (set : D → W → Option W) (body : W → RS) (d : D) (ds : List D) : sForGo set body (d :: ds) w = oS (set d w) fun w1 => (body w1).loop (sForGo set body ds) := by
  show oS _ _ = _
  congr 1
theorem sWhGo_succ (t : W → R Bool) (body : W → RS) (n : Nat) : sWhGo t body (n + 1) w = (t w).toS fun c w1 => if c = true then (body w1).loop (sWhGo t body n) else .nx w1 := by
  show R.toS _ _ = _
  congr 1
@[simp] theorem fnM_ap (n : Nat) (m : W → RS) (ds : List D) : fnM n m ds ss = (m ⟨startE n ds, ss⟩).fin := rfl
@[simp] theorem fin_ret (d : D) : (RS.ret d w).fin = .ok d w.ss := rfl
@[simp] theorem fin_nx : (RS.nx w).fin = .ok .non w.ss := rfl
@[simp] theorem fin_exc (c : Exn) : (RS.exc c w).fin = .exc c w.ss := rfl
@[simp] theorem startE_ap (n : Nat) (ds : List D) : startE n ds = ds.map (fun d => some (.val d)) ++ List.replicate (n - ds.length) none := rfl
@[simp] theorem gAdd_int (a b : Int) : gAdd (.int a) (.int b) = some (.int (a + b)) := rfl
@[simp] theorem gAdd_tup (a b : List D) : gAdd (.tup a) (.tup b) = if a.length + b.length ≤ 1000000 then some (.tup (a ++ b)) else none := rfl
@[simp] theorem gAddI_int (a b : Int) : gAddI (.int a) (.int b) = some (.int (a + b)) := rfl
@[simp] theorem gSub_int (a b : Int) : TD.gSub (.int a) (.int b) = some (.int (a - b)) := rfl
@[simp] theorem gMul_int (a b : Int) : gMul (.int a) (.int b) = if mulOk a b = true then some (.int (a * b)) else none := rfl
@[simp] theorem gDiv_int (a b : Int) : gDiv (.int a) (.int b) = if divOk b = true then some (.int (a / b)) else none := rfl
@[simp] theorem gMod_int (a b : Int) : gMod (.int a) (.int b) = if 0 < b then some (.int (a % b)) else none := rfl
@[simp] theorem gNeg_int (a : Int) : gNeg (.int a) = some (.int (-a)) := rfl
@[simp] theorem gLt_int (a b : Int) : gLt (.int a) (.int b) = some (.bl (decide (a < b))) := rfl
@[simp] theorem gLe_int (a b : Int) : gLe (.int a) (.int b) = some (.bl (decide (a ≤ b))) := rfl
@[simp] theorem gGt_int (a b : Int) : gGt (.int a) (.int b) = some (.bl (decide (b < a))) := rfl
@[simp] theorem gGe_int (a b : Int) : gGe (.int a) (.int b) = some (.bl (decide (b ≤ a))) := rfl
@[simp] theorem gIx_tup (l : List D) (i : Int) : gIx (.tup l) (.int i) = atI l i := rfl
@[simp] theorem gIx_lst (l : List D) (i : Int) : gIx (.lst l) (.int i) = atI l i := rfl
@[simp] theorem b_bl (b : Bool) : (D.bl b).b? = some b := rfl
@[simp] theorem tru_bl (b : Bool) : (D.bl b).tru = some b := rfl
@[simp] theorem tru_int (i : Int) : (D.int i).tru = some (i != 0) := rfl
@[simp] theorem tru_tup (l : List D) : (D.tup l).tru = some (!l.isEmpty) := rfl
@[simp] theorem tru_lst (l : List D) : (D.lst l).tru = some (!l.isEmpty) := rfl
@[simp] theorem tru_non : D.non.tru = some false := rfl
@[simp] theorem items_tup (l : List D) : (D.tup l).items = some l := rfl
@[simp] theorem items_lst (l : List D) : (D.lst l).items = some l := rfl
@[simp] theorem seq_tup (l : List D) : (D.tup l).seq? = some l := rfl
@[simp] theorem seq_lst (l : List D) : (D.lst l).seq? = some l := rfl
@[simp] theorem t_tup (l : List D) : (D.tup l).t? = some l := rfl
@[simp] theorem l_lst (l : List D) : (D.lst l).l? = some l := rfl
@[simp] theorem i_int (i : Int) : (D.int i).i? = some i := rfl
@[simp] theorem flat_int (i : Int) : (D.int i).flat = true := rfl
@[simp] theorem flat_bl (b : Bool) : (D.bl b).flat = true := rfl
@[simp] theorem flat_str (x : Str) : (D.str x).flat = true := rfl
@[simp] theorem flat_non : D.non.flat = true := rfl
@[simp] theorem flat_tup (l : List D) : (D.tup l).flat = false := rfl
@[simp] theorem flat_lst (l : List D) : (D.lst l).flat = false := rfl
@[simp] theorem gLen_tup (l : List D) : gLen [.tup l] = some (.int l.length) := rfl
@[simp] theorem gLen_lst (l : List D) : gLen [.lst l] = some (.int l.length) := rfl
@[simp] theorem gTuple_tup (l : List D) : gTuple [.tup l] = some (.tup l) := rfl
@[simp] theorem gTuple_lst (l : List D) : gTuple [.lst l] = some (.tup l) := rfl
@[simp] theorem gInt_int (i : Int) : gInt [.int i] = some (.int i) := rfl
@[simp] theorem gAbs_int (i : Int) : gAbs [.int i] = some (.int (if i < 0 then -i else i)) := rfl
@[simp] theorem gMax_2 (i j : Int) : gMax [.int i, .int j] = some (.int (if j > i then j else i)) := rfl
@[simp] theorem small_eq (i : Int) : (small i = true) = (-(2 ^ 62) ≤ i ∧ i < 2 ^ 62) := by simp [small]
end
section
open D
@[simp] theorem isi_int_int (i : Int) : (D.int i).isi "int" = some true := by show kitB "int" "int" = _; decide +kernel
@[simp] theorem isi_bl_int (b : Bool) : (D.bl b).isi "int" = some true := by show kitB "bool" "int" = _; decide +kernel
@[simp] theorem isi_str_int (x : Str) : (D.str x).isi "int" = some false := by show kitB "str" "int" = _; decide +kernel
@[simp] theorem isi_non_int : D.non.isi "int" = some false := by show kitB "NoneType" "int" = _; decide +kernel
@[simp] theorem isi_tup_int (l : List D) : (D.tup l).isi "int" = some false := by show kitB "tuple" "int" = _; decide +kernel
@[simp] theorem isi_lst_int (l : List D) : (D.lst l).isi "int" = some false := by show kitB "list" "int" = _; decide +kernel
@[simp] theorem isi_int_bool (i : Int) : (D.int i).isi "bool" = some false := by show kitB "int" "bool" = _; decide +kernel
@[simp] theorem isi_bl_bool (b : Bool) : (D.bl b).isi "bool" = some true := by show kitB "bool" "bool" = _; decide +kernel
@[simp] theorem isi_str_bool (x : Str) : (D.str x).isi "bool" = some false := by show kitB "str" "bool" = _; decide +kernel
@[simp] theorem isi_non_bool : D.non.isi "bool" = some false := by show kitB "NoneType" "bool" = _; decide +kernel
@[simp] theorem isi_tup_bool (l : List D) : (D.tup l).isi "bool" = some false := by show kitB "tuple" "bool" = _; decide +kernel
@[simp] theorem isi_lst_bool (l : List D) : (D.lst l).isi "bool" = some false := by show kitB "list" "bool" = _; decide +kernel
@[simp] theorem isi_int_tuple (i : Int) : (D.int i).isi "tuple" = some false := by show kitB "int" "tuple" = _; decide +kernel
@[simp] theorem isi_bl_tuple (b : Bool) : (D.bl b).isi "tuple" = some false := by show kitB "bool" "tuple" = _; decide +kernel
@[simp] theorem isi_str_tuple (x : Str) : (D.str x).isi "tuple" = some false := by show kitB "str" "tuple" = _; decide +kernel
@[simp] theorem isi_non_tuple : D.non.isi "tuple" = some false := by show kitB "NoneType" "tuple" = _; decide +kernel
@[simp] theorem isi_tup_tuple (l : List D) : (D.tup l).isi "tuple" = some true := by show kitB "tuple" "tuple" = _; decide +kernel
@[simp] theorem isi_lst_tuple (l : List D) : (D.lst l).isi "tuple" = some false := by show kitB "list" "tuple" = _; decide +kernel
@[simp] theorem isi_int_list (i : Int) : (D.int i).isi "list" = some false := by show kitB "int" "list" = _; decide +kernel
@[simp] theorem isi_bl_list (b : Bool) : (D.bl b).isi "list" = some false := by show kitB "bool" "list" = _; decide +kernel
@[simp] theorem isi_str_list (x : Str) : (D.str x).isi "list" = some false := by show kitB "str" "list" = _; decide +kernel
@[simp] theorem isi_non_list : D.non.isi "list" = some false := by show kitB "NoneType" "list" = _; decide +kernel
@[simp] theorem isi_tup_list (l : List D) : (D.tup l).isi "list" = some false := by show kitB "tuple" "list" = _; decide +kernel
@[simp] theorem isi_lst_list (l : List D) : (D.lst l).isi "list" = some true := by show kitB "list" "list" = _; decide +kernel
@[simp] theorem isi_str_str (x : Str) : (D.str x).isi "str" = some true := by show kitB "str" "str" = _; decide +kernel
end
end TD


set_option Elab.async false
set_option linter.all false
set_option maxRecDepth 100000
set_option maxHeartbeats 4000000
namespace K56
open PySem PySem.Spec PyProof.Rows L2 TD
def e_is_count : W → RS := 
  sCons (sRet (mAndV (mIsi "int" (mVar 0)) (mAndV (mNotV (mIsi "bool" (mVar 0))) (mChain gLe gLe (mVar 1) (mVar 0) (mVar 2))))) (sNil)
def m_is_count : List D → SS → RF := fnM 3 e_is_count
def g_is_rising_0 : D → W → Option W := gsName 3
def b_is_rising_0 : W → RS := 
    sCons (sIf (mNotT (mTru (mCall 3 m_is_count (mCons (mVar 3) (mCons (mBin gAdd (mVar 2) (mC (.int 1))) (mCons (mVar 1) (mNil))))))) (
      sCons (sRet (mC (.bl false))) (sNil)) (sNil)) (
    sCons (sSet 2 (mVar 3)) (sNil))
def e_is_rising : W → RS := 
  sCons (sIf (mNotT (mTru (mIsi "tuple" (mVar 0)))) (
    sCons (sRet (mC (.bl false))) (sNil)) (sNil)) (
  sCons (sSet 2 (mUn gNeg (mC (.int 1)))) (
  sCons (sFor (mItems (mVar 0)) (g_is_rising_0) (b_is_rising_0)) (
  sCons (sRet (mC (.bl true))) (sNil))))
def m_is_rising : List D → SS → RF := fnM 4 e_is_rising
def t_is_talk_0 : W → R Bool := mScT (mTru (mVar 3))
def b_is_talk_0 : W → RS := 
    sCons (sPop 3 (gsTup 2 (gsCons (gsName 5) (gsCons (gsName 6) (gsNil))))) (
    sCons (sAug 4 gAddI (mC (.int 1))) (
    sCons (sIf (mB (mBin gGt (mVar 4) (mC (.int 20000)))) (
      sCons (sRet (mC (.bl false))) (sNil)) (sNil)) (
    sCons (sIf (mOrT (mNotT (mTru (mIsi "tuple" (mVar 5)))) (mOrT (mB (mBin gNotIn (mBlt gLen (mCons (mVar 5) (mNil))) (mTup (mCons (mC (.int 2)) (mCons (mC (.int 4)) (mNil)))))) (mB (mBin gGt (mVar 6) (mC (.int 60)))))) (
      sCons (sRet (mC (.bl false))) (sNil)) (sNil)) (
    sCons (sIf (mB (mBin gEq (mBlt gLen (mCons (mVar 5) (mNil))) (mC (.int 2)))) (
      sCons (sIf (mOrT (mB (mBin gNe (mBin gIx (mVar 5) (mC (.int 0))) (mC (.str "tell")))) (mNotT (mTru (mCall 3 m_is_count (mCons (mBin gIx (mVar 5) (mC (.int 1))) (mCons (mC (.int 0)) (mCons (mC (.int 99)) (mNil)))))))) (
        sCons (sRet (mC (.bl false))) (sNil)) (sNil)) (sNil)) (
      sCons (sIf (mB (mBin gNotIn (mBin gIx (mVar 5) (mC (.int 0))) (mTup (mCons (mC (.str "row")) (mCons (mC (.str "column")) (mNil)))))) (
        sCons (sRet (mC (.bl false))) (sNil)) (sNil)) (
      sCons (sIf (mNotT (mTru (mCall 2 m_is_rising (mCons (mBin gIx (mVar 5) (mC (.int 1))) (mCons (mBin gSub (mIfE (mB (mBin gEq (mBin gIx (mVar 5) (mC (.int 0))) (mC (.str "row")))) (mVar 1) (mVar 2)) (mC (.int 1))) (mNil)))))) (
        sCons (sRet (mC (.bl false))) (sNil)) (sNil)) (
      sCons (sApp 3 (mTup (mCons (mBin gIx (mVar 5) (mC (.int 2))) (mCons (mBin gAdd (mVar 6) (mC (.int 1))) (mNil))))) (
      sCons (sApp 3 (mTup (mCons (mBin gIx (mVar 5) (mC (.int 3))) (mCons (mBin gAdd (mVar 6) (mC (.int 1))) (mNil))))) (sNil)))))) (sNil)))))
def e_is_talk : W → RS := 
  sCons (sSetF 3 (mLst (mCons (mTup (mCons (mVar 0) (mCons (mC (.int 0)) (mNil)))) (mNil)))) (
  sCons (sSet 4 (mC (.int 0))) (
  sCons (sWhile (t_is_talk_0) (b_is_talk_0)) (
  sCons (sRet (mC (.bl true))) (sNil))))
def m_is_talk : List D → SS → RF := fnM 7 e_is_talk
def t_heard_in_0 : W → R Bool := mB (mBin gNe (mBin gIx (mVar 0) (mC (.int 0))) (mC (.str "tell")))
def b_heard_in_0 : W → RS := 
    sCons (sSet 4 (mIfE (mB (mBin gEq (mBin gIx (mVar 0) (mC (.int 0))) (mC (.str "row")))) (mVar 1) (mVar 2))) (
    sCons (sSet 5 (mIfE (mB (mBin gIn (mVar 4) (mBin gIx (mVar 0) (mC (.int 1))))) (mC (.int 1)) (mC (.int 0)))) (
    sCons (sApp 3 (mVar 5)) (
    sCons (sSet 0 (mIfE (mB (mBin gEq (mVar 5) (mC (.int 1)))) (mBin gIx (mVar 0) (mC (.int 2))) (mBin gIx (mVar 0) (mC (.int 3))))) (sNil))))
def e_heard_in : W → RS := 
  sCons (sSetF 3 (mLst (mNil))) (
  sCons (sWhile (t_heard_in_0) (b_heard_in_0)) (
  sCons (sRet (mTup (mCons (mBin gIx (mVar 0) (mC (.int 1))) (mCons (mBlt gTuple (mCons (mVar 3) (mNil))) (mNil))))) (sNil)))
def m_heard_in : List D → SS → RF := fnM 6 e_heard_in
def t_depth_of_0 : W → R Bool := mScT (mTru (mVar 2))
def b_depth_of_0 : W → RS := 
    sCons (sPop 2 (gsTup 2 (gsCons (gsName 3) (gsCons (gsName 4) (gsNil))))) (
    sCons (sSet 1 (mBlt gMax (mCons (mVar 1) (mCons (mVar 4) (mNil))))) (
    sCons (sIf (mB (mBin gNe (mBin gIx (mVar 3) (mC (.int 0))) (mC (.str "tell")))) (
      sCons (sApp 2 (mTup (mCons (mBin gIx (mVar 3) (mC (.int 2))) (mCons (mBin gAdd (mVar 4) (mC (.int 1))) (mNil))))) (
      sCons (sApp 2 (mTup (mCons (mBin gIx (mVar 3) (mC (.int 3))) (mCons (mBin gAdd (mVar 4) (mC (.int 1))) (mNil))))) (sNil))) (sNil)) (sNil)))
def e_depth_of : W → RS := 
  sCons (sSet 1 (mC (.int 0))) (
  sCons (sSetF 2 (mLst (mCons (mTup (mCons (mVar 0) (mCons (mC (.int 0)) (mNil)))) (mNil)))) (
  sCons (sWhile (t_depth_of_0) (b_depth_of_0)) (
  sCons (sRet (mVar 1)) (sNil))))
def m_depth_of : List D → SS → RF := fnM 5 e_depth_of
def t_leaves_of_0 : W → R Bool := mScT (mTru (mVar 2))
def b_leaves_of_0 : W → RS := 
    sCons (sPop 2 (gsName 3)) (
    sCons (sIf (mB (mBin gEq (mBin gIx (mVar 3) (mC (.int 0))) (mC (.str "tell")))) (
      sCons (sAug 1 gAddI (mC (.int 1))) (sNil)) (
      sCons (sApp 2 (mBin gIx (mVar 3) (mC (.int 2)))) (
      sCons (sApp 2 (mBin gIx (mVar 3) (mC (.int 3)))) (sNil)))) (sNil))
def e_leaves_of : W → RS := 
  sCons (sSet 1 (mC (.int 0))) (
  sCons (sSetF 2 (mLst (mCons (mVar 0) (mNil)))) (
  sCons (sWhile (t_leaves_of_0) (b_leaves_of_0)) (
  sCons (sRet (mVar 1)) (sNil))))
def m_leaves_of : List D → SS → RF := fnM 4 e_leaves_of
def t_rounds_of_0 : W → R Bool := mScT (mTru (mVar 2))
def b_rounds_of_0 : W → RS := 
    sCons (sPop 2 (gsTup 3 (gsCons (gsName 3) (gsCons (gsName 4) (gsCons (gsName 5) (gsNil)))))) (
    sCons (sSet 1 (mBlt gMax (mCons (mVar 1) (mCons (mVar 5) (mNil))))) (
    sCons (sIf (mB (mBin gNe (mBin gIx (mVar 3) (mC (.int 0))) (mC (.str "tell")))) (
      sCons (sSet 6 (mIfE (mB (mBin gEq (mBin gIx (mVar 3) (mC (.int 0))) (mVar 4))) (mVar 5) (mBin gAdd (mVar 5) (mC (.int 1))))) (
      sCons (sApp 2 (mTup (mCons (mBin gIx (mVar 3) (mC (.int 2))) (mCons (mBin gIx (mVar 3) (mC (.int 0))) (mCons (mVar 6) (mNil)))))) (
      sCons (sApp 2 (mTup (mCons (mBin gIx (mVar 3) (mC (.int 3))) (mCons (mBin gIx (mVar 3) (mC (.int 0))) (mCons (mVar 6) (mNil)))))) (sNil)))) (sNil)) (sNil)))
def e_rounds_of : W → RS := 
  sCons (sSet 1 (mC (.int 0))) (
  sCons (sSetF 2 (mLst (mCons (mTup (mCons (mVar 0) (mCons (mC (.str "")) (mCons (mC (.int 0)) (mNil))))) (mNil)))) (
  sCons (sWhile (t_rounds_of_0) (b_rounds_of_0)) (
  sCons (sRet (mVar 1)) (sNil))))
def m_rounds_of : List D → SS → RF := fnM 7 e_rounds_of
def e__law_pick : W → RS := 
  sCons (sIf (mB (mBin gGt (mSrc 0 1) (mC (.int 0)))) (
    sCons (sSet 2 (mSrc 0 1)) (
    sCons (sSrc 0 1 (mBin gDiv (mVar 2) (mVar 1))) (
    sCons (sRet (mBin gMod (mBlt gInt (mCons (mVar 2) (mNil))) (mVar 1))) (sNil)))) (sNil)) (
  sCons (sSet 3 (mSrc 0 2)) (
  sCons (sSrc 0 2 (mBin gAdd (mVar 3) (mC (.int 1)))) (
  sCons (sSet 4 (mSrc 0 0)) (
  sCons (sSet 5 (mBin gIx (mVar 4) (mBin gMod (mBlt gInt (mCons (mVar 3) (mNil))) (mBlt gLen (mCons (mVar 4) (mNil)))))) (
  sCons (sIf (mAndT (mB (mBin gGe (mVar 5) (mBin gPow (mC (.int 10)) (mC (.int 18))))) (mB (mBin gLt (mVar 3) (mBlt gLen (mCons (mVar 4) (mNil)))))) (
    sCons (sSrc 0 1 (mBin gDiv (mVar 5) (mVar 1))) (
    sCons (sRet (mBin gMod (mBlt gInt (mCons (mVar 5) (mNil))) (mVar 1))) (sNil))) (sNil)) (
  sCons (sSet 6 (mBin gMod (mBlt gInt (mCons (mBin gAdd (mBin gAdd (mBin gMul (mBin gMod (mBlt gInt (mCons (mVar 5) (mNil))) (mC (.int 2147483647))) (mC (.int 48271))) (mBin gMul (mVar 3) (mC (.int 69621)))) (mC (.int 40692))) (mNil))) (mC (.int 2147483399)))) (
  sCons (sSet 7 (mBin gMod (mBlt gInt (mCons (mBin gAdd (mBin gAdd (mBin gMul (mVar 6) (mBin gAdd (mBin gMod (mBlt gInt (mCons (mVar 6) (mNil))) (mC (.int 65537))) (mC (.int 3)))) (mBin gMul (mVar 3) (mC (.int 7919)))) (mC (.int 17))) (mNil))) (mC (.int 2147483647)))) (
  sCons (sRet (mBin gMod (mBlt gInt (mCons (mBin gDiv (mVar 7) (mC (.int 5))) (mNil))) (mVar 1))) (sNil)))))))))
def m__law_pick : List D → SS → RF := fnM 8 e__law_pick
def g__law_heard_0 : D → W → Option W := gsName 4
def b__law_heard_0 : W → RS := 
    sCons (sIf (mB (mBin gEq (mBin gIx (mVar 0) (mC (.int 0))) (mC (.str "tell")))) (
      sCons (RS.brk) (sNil)) (sNil)) (
    sCons (sSet 5 (mIfE (mB (mBin gEq (mBin gIx (mVar 0) (mC (.int 0))) (mC (.str "row")))) (mVar 1) (mVar 2))) (
    sCons (sApp 3 (mIfE (mB (mBin gIn (mVar 5) (mBin gIx (mVar 0) (mC (.int 1))))) (mC (.int 1)) (mC (.int 0)))) (
    sCons (sSet 0 (mIfE (mB (mBin gIn (mVar 5) (mBin gIx (mVar 0) (mC (.int 1))))) (mBin gIx (mVar 0) (mC (.int 2))) (mBin gIx (mVar 0) (mC (.int 3))))) (sNil))))
def e__law_heard : W → RS := 
  sCons (sSetF 3 (mLst (mNil))) (
  sCons (sFor (mRng1 (mCons (mC (.int 100)) (mNil))) (g__law_heard_0) (b__law_heard_0)) (
  sCons (sRet (mTup (mCons (mBin gIx (mVar 0) (mC (.int 1))) (mCons (mVar 3) (mNil))))) (sNil)))
def m__law_heard : List D → SS → RF := fnM 6 e__law_heard
def e__law_is_int : W → RS := 
  sCons (sRet (mAndV (mIsi "int" (mVar 0)) (mNotV (mIsi "bool" (mVar 0))))) (sNil)
def m__law_is_int : List D → SS → RF := fnM 1 e__law_is_int
def t__law_plain_0 : W → R Bool := mScT (mB (mBin gLt (mVar 2) (mBlt gLen (mCons (mVar 1) (mNil)))))
def b__law_plain_0 : W → RS := 
    sCons (sIf (mScT (mTru (mIsi "tuple" (mIxO 1 (mVar 2))))) (
      sCons (sExt 1 (mIxO 1 (mVar 2))) (sNil)) (
      sCons (sIf (mScT (mNotT (mTru (mCall 1 m__law_is_int (mCons (mIxO 1 (mVar 2)) (mNil)))))) (
        sCons (sRet (mC (.bl false))) (sNil)) (sNil)) (sNil))) (
    sCons (sAug 2 gAddI (mC (.int 1))) (sNil))
def e__law_plain : W → RS := 
  sCons (sSetF 1 (mLst (mCons (mVar 0) (mNil)))) (
  sCons (sSet 2 (mC (.int 0))) (
  sCons (sWhile (t__law_plain_0) (b__law_plain_0)) (
  sCons (sRet (mC (.bl true))) (sNil))))
def m__law_plain : List D → SS → RF := fnM 3 e__law_plain
def e__law_same : W → RS := 
  sCons (sRet (mAndV (mBin gEq (mVar 0) (mVar 1)) (mCall 1 m__law_plain (mCons (mVar 0) (mNil))))) (sNil)
def m__law_same : List D → SS → RF := fnM 2 e__law_same
def e__law_says : W → RS := 
  sCons (sRet (mAndV (mIsi "bool" (mVar 0)) (mBin gEq (mVar 0) (mVar 1)))) (sNil)
def m__law_says : List D → SS → RF := fnM 2 e__law_says
def e__law_members : W → RS := 
  sCons (sRet (mBlt gTuple (mCons (mFrz (mLc [2] (mRng1 (mCons (mVar 1) (mNil))) (gsName 2) (mB (mBin gEq (mCall 2 m__law_pick (mCons (mVar 0) (mCons (mC (.int 2)) (mNil)))) (mC (.int 0)))) (mVar 2))) (mNil)))) (sNil)
def m__law_members : List D → SS → RF := fnM 3 e__law_members
def e__law_talk (self : List D → SS → RF) : W → RS := 
  sCons (sIf (mOrT (mB (mBin gEq (mVar 3) (mC (.int 0)))) (mB (mBin gEq (mCall 2 m__law_pick (mCons (mVar 0) (mCons (mC (.int 4)) (mNil)))) (mC (.int 0))))) (
    sCons (sRet (mTup (mCons (mC (.str "tell")) (mCons (mCall 2 m__law_pick (mCons (mVar 0) (mCons (mVar 4) (mNil)))) (mNil))))) (sNil)) (sNil)) (
  sCons (sSet 5 (mCall 2 m__law_pick (mCons (mVar 0) (mCons (mC (.int 2)) (mNil))))) (
  sCons (sSet 6 (mCall 2 m__law_members (mCons (mVar 0) (mCons (mIfE (mB (mBin gEq (mVar 5) (mC (.int 1)))) (mVar 2) (mVar 1)) (mNil))))) (
  sCons (sSet 7 (mCall 5 self (mCons (mVar 0) (mCons (mVar 1) (mCons (mVar 2) (mCons (mBin gSub (mVar 3) (mC (.int 1))) (mCons (mVar 4) (mNil)))))))) (
  sCons (sSet 8 (mCall 5 self (mCons (mVar 0) (mCons (mVar 1) (mCons (mVar 2) (mCons (mBin gSub (mVar 3) (mC (.int 1))) (mCons (mVar 4) (mNil)))))))) (
  sCons (sRet (mTup (mCons (mBin gIx (mFrz (mLst (mCons (mC (.str "row")) (mCons (mC (.str "column")) (mNil))))) (mVar 5)) (mCons (mVar 6) (mCons (mVar 7) (mCons (mVar 8) (mNil))))))) (sNil))))))
def m__law_talk : Nat → List D → SS → RF
  | 0 => fun _ _ => .stuck
  | n + 1 => fnM 9 (e__law_talk (m__law_talk n))
def g__law_chain_0 : D → W → Option W := gsName 6
def b__law_chain_0 : W → RS := 
    sCons (sSet 7 (mCall 2 m__law_pick (mCons (mVar 0) (mCons (mC (.int 2)) (mNil))))) (
    sCons (sSet 8 (mCall 2 m__law_members (mCons (mVar 0) (mCons (mIfE (mB (mBin gEq (mVar 7) (mC (.int 1)))) (mVar 2) (mVar 1)) (mNil))))) (
    sCons (sSet 9 (mTup (mCons (mC (.str "tell")) (mCons (mCall 2 m__law_pick (mCons (mVar 0) (mCons (mVar 5) (mNil)))) (mNil))))) (
    sCons (sIf (mB (mBin gEq (mCall 2 m__law_pick (mCons (mVar 0) (mCons (mC (.int 2)) (mNil)))) (mC (.int 0)))) (
      sCons (sSet 4 (mTup (mCons (mBin gIx (mFrz (mLst (mCons (mC (.str "row")) (mCons (mC (.str "column")) (mNil))))) (mVar 7)) (mCons (mVar 8) (mCons (mVar 4) (mCons (mVar 9) (mNil))))))) (sNil)) (
      sCons (sSet 4 (mTup (mCons (mBin gIx (mFrz (mLst (mCons (mC (.str "row")) (mCons (mC (.str "column")) (mNil))))) (mVar 7)) (mCons (mVar 8) (mCons (mVar 9) (mCons (mVar 4) (mNil))))))) (sNil))) (sNil))))
def e__law_chain : W → RS := 
  sCons (sFor (mRng1 (mCons (mVar 3) (mNil))) (g__law_chain_0) (b__law_chain_0)) (
  sCons (sRet (mVar 4)) (sNil))
def m__law_chain : List D → SS → RF := fnM 10 e__law_chain
def g__law_broad_0 : D → W → Option W := gsName 4
def b__law_broad_0 : W → RS := 
    sCons (sIf (mB (mBin gEq (mBin gMod (mBlt gInt (mCons (mVar 3) (mNil))) (mC (.int 2))) (mC (.int 1)))) (
      sCons (sSet 2 (mIfE (mB (mBin gIs (mVar 2) (mC .non))) (mVar 1) (mTup (mCons (mC (.str "row")) (mCons (mTup (mCons (mC (.int 0)) (mNil))) (mCons (mVar 1) (mCons (mVar 2) (mNil)))))))) (sNil)) (sNil)) (
    sCons (sSet 1 (mTup (mCons (mC (.str "column")) (mCons (mTup (mNil)) (mCons (mVar 1) (mCons (mVar 1) (mNil))))))) (
    sCons (sSet 3 (mBin gDiv (mVar 3) (mC (.int 2)))) (sNil)))
def e__law_broad : W → RS := 
  sCons (sSet 1 (mTup (mCons (mC (.str "tell")) (mCons (mC (.int 7)) (mNil))))) (
  sCons (sSet 2 (mC .non)) (
  sCons (sSet 3 (mVar 0)) (
  sCons (sFor (mRng1 (mCons (mC (.int 20)) (mNil))) (g__law_broad_0) (b__law_broad_0)) (
  sCons (sRet (mVar 2)) (sNil)))))
def m__law_broad : List D → SS → RF := fnM 5 e__law_broad
def g__law_is_talk_0 : D → W → Option W := gsName 8
def b__law_is_talk_0 : W → RS := 
          sCons (sIf (mOrT (mNotT (mTru (mCall 1 m__law_is_int (mCons (mVar 8) (mNil))))) (mOrT (mB (mBin gLe (mVar 8) (mVar 7))) (mB (mBin gGe (mVar 8) (mIfE (mB (mBin gEq (mBin gIx (mVar 5) (mC (.int 0))) (mC (.str "row")))) (mVar 1) (mVar 2)))))) (
            sCons (sRet (mC (.bl false))) (sNil)) (sNil)) (
          sCons (sSet 7 (mVar 8)) (sNil))
def t__law_is_talk_1 : W → R Bool := mScT (mB (mBin gGt (mBlt gLen (mCons (mVar 3) (mNil))) (mC (.int 0))))
def b__law_is_talk_1 : W → RS := 
    sCons (sPop 3 (gsTup 2 (gsCons (gsName 5) (gsCons (gsName 6) (gsNil))))) (
    sCons (sAug 4 gAddI (mC (.int 1))) (
    sCons (sIf (mOrT (mB (mBin gGt (mVar 4) (mC (.int 20000)))) (mOrT (mB (mBin gGt (mVar 6) (mC (.int 60)))) (mNotT (mTru (mIsi "tuple" (mVar 5)))))) (
      sCons (sRet (mC (.bl false))) (sNil)) (sNil)) (
    sCons (sIf (mAndT (mB (mBin gEq (mBlt gLen (mCons (mVar 5) (mNil))) (mC (.int 2)))) (mB (mBin gEq (mBin gIx (mVar 5) (mC (.int 0))) (mC (.str "tell"))))) (
      sCons (sIf (mOrT (mNotT (mTru (mCall 1 m__law_is_int (mCons (mBin gIx (mVar 5) (mC (.int 1))) (mNil))))) (mOrT (mB (mBin gLt (mBin gIx (mVar 5) (mC (.int 1))) (mC (.int 0)))) (mB (mBin gGt (mBin gIx (mVar 5) (mC (.int 1))) (mC (.int 99)))))) (
        sCons (sRet (mC (.bl false))) (sNil)) (sNil)) (sNil)) (
      sCons (sIf (mAndT (mB (mBin gEq (mBlt gLen (mCons (mVar 5) (mNil))) (mC (.int 4)))) (mAndT (mB (mBin gIn (mBin gIx (mVar 5) (mC (.int 0))) (mTup (mCons (mC (.str "row")) (mCons (mC (.str "column")) (mNil)))))) (mTru (mIsi "tuple" (mBin gIx (mVar 5) (mC (.int 1))))))) (
        sCons (sSet 7 (mBin gSub (mC (.int 0)) (mC (.int 1)))) (
        sCons (sFor (mItems (mBin gIx (mVar 5) (mC (.int 1)))) (g__law_is_talk_0) (b__law_is_talk_0)) (
        sCons (sApp 3 (mTup (mCons (mBin gIx (mVar 5) (mC (.int 2))) (mCons (mBin gAdd (mVar 6) (mC (.int 1))) (mNil))))) (
        sCons (sApp 3 (mTup (mCons (mBin gIx (mVar 5) (mC (.int 3))) (mCons (mBin gAdd (mVar 6) (mC (.int 1))) (mNil))))) (sNil))))) (
        sCons (sRet (mC (.bl false))) (sNil))) (sNil))) (sNil))))
def e__law_is_talk : W → RS := 
  sCons (sSetF 3 (mLst (mCons (mTup (mCons (mVar 0) (mCons (mC (.int 0)) (mNil)))) (mNil)))) (
  sCons (sSet 4 (mC (.int 0))) (
  sCons (sWhile (t__law_is_talk_1) (b__law_is_talk_1)) (
  sCons (sRet (mC (.bl true))) (sNil))))
def m__law_is_talk : List D → SS → RF := fnM 9 e__law_is_talk
def t__law_ways_0 : W → R Bool := mScT (mB (mBin gGt (mBlt gLen (mCons (mVar 2) (mNil))) (mC (.int 0))))
def b__law_ways_0 : W → RS := 
    sCons (sPop 2 (gsTup 2 (gsCons (gsName 3) (gsCons (gsName 4) (gsNil))))) (
    sCons (sIf (mB (mBin gEq (mBin gIx (mVar 3) (mC (.int 0))) (mC (.str "tell")))) (
      sCons (sApp 1 (mVar 4)) (sNil)) (
      sCons (sApp 2 (mTup (mCons (mBin gIx (mVar 3) (mC (.int 2))) (mCons (mBin gAdd (mVar 4) (mTup (mCons (mBin gIx (mVar 3) (mC (.int 0))) (mNil)))) (mNil))))) (
      sCons (sApp 2 (mTup (mCons (mBin gIx (mVar 3) (mC (.int 3))) (mCons (mBin gAdd (mVar 4) (mTup (mCons (mBin gIx (mVar 3) (mC (.int 0))) (mNil)))) (mNil))))) (sNil)))) (sNil))
def e__law_ways : W → RS := 
  sCons (sSetF 1 (mLst (mNil))) (
  sCons (sSetF 2 (mLst (mCons (mTup (mCons (mVar 0) (mCons (mTup (mNil)) (mNil)))) (mNil)))) (
  sCons (sWhile (t__law_ways_0) (b__law_ways_0)) (
  sCons (sRet (mVar 1)) (sNil))))
def m__law_ways : List D → SS → RF := fnM 5 e__law_ways
def g__law_stretches_0 : D → W → Option W := gsName 2
def b__law_stretches_0 : W → RS := 
    sCons (sIf (mOrT (mB (mBin gEq (mVar 2) (mC (.int 0)))) (mB (mBin gNe (mBin gIx (mVar 0) (mVar 2)) (mBin gIx (mVar 0) (mBin gSub (mVar 2) (mC (.int 1))))))) (
      sCons (sAug 1 gAddI (mC (.int 1))) (sNil)) (sNil)) (sNil)
def e__law_stretches : W → RS := 
  sCons (sSet 1 (mC (.int 0))) (
  sCons (sFor (mRng1 (mCons (mBlt gLen (mCons (mVar 0) (mNil))) (mNil))) (g__law_stretches_0) (b__law_stretches_0)) (
  sCons (sRet (mVar 1)) (sNil)))
def m__law_stretches : List D → SS → RF := fnM 3 e__law_stretches
def g__law_measured_0 : D → W → Option W := gsName 6
def b__law_measured_0 : W → RS := 
      sCons (sAsg (gsTup 2 (gsCons (gsName 7) (gsCons (gsName 8) (gsNil)))) (mCall 3 m__law_heard (mCons (mVar 0) (mCons (mVar 5) (mCons (mVar 6) (mNil)))))) (
      sCons (sIf (mNotT (mTru (mCall 2 m__law_same (mCons (mCall 3 m_heard_in (mCons (mVar 0) (mCons (mVar 5) (mCons (mVar 6) (mNil))))) (mCons (mTup (mCons (mVar 7) (mCons (mBlt gTuple (mCons (mVar 8) (mNil))) (mNil)))) (mNil)))))) (
        sCons (sRet (mC (.bl false))) (sNil)) (sNil)) (sNil))
def g__law_measured_1 : D → W → Option W := gsName 5
def b__law_measured_1 : W → RS := 
    sCons (sFor (mRng1 (mCons (mVar 2) (mNil))) (g__law_measured_0) (b__law_measured_0)) (sNil)
def e__law_measured : W → RS := 
  sCons (sSet 3 (mCall 1 m__law_ways (mCons (mVar 0) (mNil)))) (
  sCons (sIf (mOrT (mNotT (mTru (mCall 2 m__law_says (mCons (mCall 3 m_is_talk (mCons (mVar 0) (mCons (mVar 1) (mCons (mVar 2) (mNil))))) (mCons (mC (.bl true)) (mNil)))))) (mNotT (mTru (mCall 2 m__law_same (mCons (mCall 1 m_leaves_of (mCons (mVar 0) (mNil))) (mCons (mBlt gLen (mCons (mVar 3) (mNil))) (mNil))))))) (
    sCons (sRet (mC (.bl false))) (sNil)) (sNil)) (
  sCons (sIf (mNotT (mTru (mCall 2 m__law_same (mCons (mCall 1 m_depth_of (mCons (mVar 0) (mNil))) (mCons (mBlt gMax (mCons (mFrz (mLc [4] (mItems (mVar 3)) (gsName 4) (mYes) (mBlt gLen (mCons (mVar 4) (mNil))))) (mNil))) (mNil)))))) (
    sCons (sRet (mC (.bl false))) (sNil)) (sNil)) (
  sCons (sIf (mNotT (mTru (mCall 2 m__law_same (mCons (mCall 1 m_rounds_of (mCons (mVar 0) (mNil))) (mCons (mBlt gMax (mCons (mFrz (mLc [4] (mItems (mVar 3)) (gsName 4) (mYes) (mCall 1 m__law_stretches (mCons (mVar 4) (mNil))))) (mNil))) (mNil)))))) (
    sCons (sRet (mC (.bl false))) (sNil)) (sNil)) (
  sCons (sFor (mRng1 (mCons (mVar 1) (mNil))) (g__law_measured_1) (b__law_measured_1)) (
  sCons (sRet (mC (.bl true))) (sNil))))))
def m__law_measured : List D → SS → RF := fnM 9 e__law_measured
def e__law_judged : W → RS := 
  sCons (sRet (mCall 2 m__law_says (mCons (mCall 3 m_is_talk (mCons (mVar 0) (mCons (mVar 1) (mCons (mVar 2) (mNil))))) (mCons (mCall 3 m__law_is_talk (mCons (mVar 0) (mCons (mVar 1) (mCons (mVar 2) (mNil))))) (mNil))))) (sNil)
def m__law_judged : List D → SS → RF := fnM 3 e__law_judged
def g__law_pieces_0 : D → W → Option W := gsName 9
def b__law_pieces_0 : W → RS := 
      sCons (sApp 3 (mTup (mCons (mVar 4) (mCons (mVar 9) (mCons (mVar 2) (mCons (mVar 2) (mNil))))))) (sNil)
def g__law_pieces_1 : D → W → Option W := gsTup 2 (gsCons (gsName 4) (gsCons (gsName 5) (gsNil)))
def b__law_pieces_1 : W → RS := 
    sCons (sSet 6 (mBlt gTuple (mCons (mFrz (mLc [7] (mRng1 (mCons (mVar 5) (mNil))) (gsName 7) (mYes) (mVar 7))) (mNil)))) (
    sCons (sSetF 8 (mLst (mCons (mTup (mNil)) (mCons (mVar 6) (mCons (mSlT (mVar 6) (mP (mC (.int 1))) (mNoP)) (mCons (mRevT (mVar 6)) (mCons (mTup (mCons (mBin gSub (mVar 5) (mC (.int 1))) (mNil))) (mCons (mTup (mCons (mVar 5) (mNil))) (mCons (mBin gAdd (mVar 6) (mTup (mCons (mVar 5) (mNil)))) (mCons (mTup (mCons (mBin gSub (mC (.int 0)) (mC (.int 1))) (mNil))) (mCons (mTup (mCons (mC (.int 0)) (mCons (mC (.int 0)) (mNil)))) (mNil)))))))))))) (
    sCons (sSetF 8 (mCat (mVar 8) (mFrz (mLst (mCons (mBin gAdd (mVar 6) (mTup (mCons (mC (.int 0)) (mNil)))) (mCons (mTup (mCons (mC (.bl false)) (mNil))) (mCons (mTup (mCons (mC (.bl true)) (mNil))) (mCons (mTup (mCons (mC .non) (mNil))) (mCons (mTup (mCons (mC (.str "0")) (mNil))) (mCons (mC .non) (mCons (mC (.int 0)) (mCons (mC (.str "0")) (mNil))))))))))))) (
    sCons (sFor (mItems (mVar 8)) (g__law_pieces_0) (b__law_pieces_0)) (
    sCons (sSetF 3 (mCat (mVar 3) (mFrz (mLst (mCons (mTup (mCons (mVar 4) (mCons (mTup (mNil)) (mCons (mVar 2) (mNil))))) (mCons (mTup (mCons (mVar 4) (mCons (mTup (mNil)) (mCons (mVar 2) (mCons (mVar 2) (mCons (mVar 2) (mNil))))))) (mCons (mTup (mCons (mVar 4) (mCons (mTup (mNil)) (mCons (mC .non) (mCons (mVar 2) (mNil)))))) (mCons (mTup (mCons (mVar 4) (mCons (mTup (mNil)) (mCons (mVar 2) (mCons (mTup (mNil)) (mNil)))))) (mNil))))))))) (
    sCons (sSetF 3 (mCat (mVar 3) (mFrz (mLst (mCons (mTup (mCons (mVar 4) (mCons (mTup (mNil)) (mNil)))) (mCons (mTup (mCons (mVar 4) (mCons (mTup (mNil)) (mCons (mVar 2) (mCons (mTup (mCons (mC (.str "tell")) (mCons (mC (.int 100)) (mNil)))) (mNil)))))) (mCons (mTup (mCons (mVar 4) (mCons (mTup (mNil)) (mCons (mTup (mCons (mC (.str "tell")) (mCons (mBin gSub (mC (.int 0)) (mC (.int 1))) (mNil)))) (mCons (mVar 2) (mNil)))))) (mNil)))))))) (sNil))))))
def e__law_pieces : W → RS := 
  sCons (sSet 2 (mTup (mCons (mC (.str "tell")) (mCons (mC (.int 0)) (mNil))))) (
  sCons (sSetF 3 (mLst (mCons (mTup (mCons (mC (.str "tell")) (mCons (mC (.int 99)) (mNil)))) (mCons (mTup (mCons (mC (.str "tell")) (mCons (mC (.int 100)) (mNil)))) (mCons (mTup (mCons (mC (.str "tell")) (mCons (mC (.int 0)) (mNil)))) (mCons (mTup (mCons (mC (.str "tell")) (mCons (mBin gSub (mC (.int 0)) (mC (.int 1))) (mNil)))) (mCons (mTup (mCons (mC (.str "tell")) (mCons (mC (.bl true)) (mNil)))) (mCons (mTup (mCons (mC (.str "tell")) (mCons (mC .non) (mNil)))) (mCons (mTup (mCons (mC (.str "tell")) (mCons (mC (.str "1")) (mNil)))) (mNil)))))))))) (
  sCons (sSetF 3 (mCat (mVar 3) (mFrz (mLst (mCons (mTup (mCons (mC (.str "tell")) (mNil))) (mCons (mTup (mCons (mC (.str "tell")) (mCons (mC (.int 1)) (mCons (mC (.int 1)) (mNil))))) (mCons (mTup (mCons (mC (.str "told")) (mCons (mC (.int 1)) (mNil)))) (mCons (mTup (mCons (mC (.str "tell")) (mCons (mTup (mNil)) (mCons (mVar 2) (mCons (mVar 2) (mNil)))))) (mCons (mTup (mCons (mC (.str "rows")) (mCons (mTup (mNil)) (mCons (mVar 2) (mCons (mVar 2) (mNil)))))) (mNil)))))))))) (
  sCons (sSetF 3 (mCat (mVar 3) (mFrz (mLst (mCons (mTup (mCons (mC (.int 0)) (mCons (mTup (mNil)) (mCons (mVar 2) (mCons (mVar 2) (mNil)))))) (mCons (mTup (mCons (mC .non) (mCons (mTup (mNil)) (mCons (mVar 2) (mCons (mVar 2) (mNil)))))) (mCons (mC .non) (mCons (mC (.int 0)) (mCons (mC (.str "tell")) (mCons (mTup (mNil)) (mCons (mC (.bl true)) (mCons (mTup (mCons (mVar 2) (mNil))) (mCons (mTup (mCons (mVar 2) (mCons (mVar 2) (mNil)))) (mNil)))))))))))))) (
  sCons (sFor (mItems (mTup (mCons (mTup (mCons (mC (.str "row")) (mCons (mVar 0) (mNil)))) (mCons (mTup (mCons (mC (.str "column")) (mCons (mVar 1) (mNil)))) (mNil))))) (g__law_pieces_1) (b__law_pieces_1)) (
  sCons (sRet (mVar 3)) (sNil))))))
def m__law_pieces : List D → SS → RF := fnM 10 e__law_pieces
def t__law_way_down_0 : W → R Bool := mAndT (mB (mBin gNe (mBin gIx (mVar 1) (mC (.int 0))) (mC (.str "tell")))) (mB (mBin gGt (mCall 2 m__law_pick (mCons (mVar 0) (mCons (mC (.int 4)) (mNil)))) (mC (.int 0))))
def b__law_way_down_0 : W → RS := 
    sCons (sSet 3 (mBin gAdd (mC (.int 2)) (mCall 2 m__law_pick (mCons (mVar 0) (mCons (mC (.int 2)) (mNil)))))) (
    sCons (sApp 2 (mTup (mCons (mVar 1) (mCons (mVar 3) (mNil))))) (
    sCons (sSet 1 (mBin gIx (mVar 1) (mVar 3))) (sNil)))
def e__law_way_down : W → RS := 
  sCons (sSetF 2 (mLst (mNil))) (
  sCons (sWhile (t__law_way_down_0) (b__law_way_down_0)) (
  sCons (sRet (mVar 2)) (sNil)))
def m__law_way_down : List D → SS → RF := fnM 4 e__law_way_down
def g__law_put_0 : D → W → Option W := gsTup 2 (gsCons (gsName 2) (gsCons (gsName 3) (gsNil)))
def b__law_put_0 : W → RS := 
    sCons (sSet 1 (mBin gAdd (mBin gAdd (mSlT (mVar 2) (mNoP) (mP (mVar 3))) (mTup (mCons (mVar 1) (mNil)))) (mSlT (mVar 2) (mP (mBin gAdd (mVar 3) (mC (.int 1)))) (mNoP)))) (sNil)
def e__law_put : W → RS := 
  sCons (sFor (mItems (mFrz (mRevL (mVar 0)))) (g__law_put_0) (b__law_put_0)) (
  sCons (sRet (mVar 1)) (sNil))
def m__law_put : List D → SS → RF := fnM 4 e__law_put
def g_law_0 : D → W → Option W := gsName 8
def b_law_0 : W → RS := 
    sCons (sIf (mNotT (mTru (mCall 3 m__law_measured (mCons (mVar 8) (mCons (mVar 2) (mCons (mVar 3) (mNil))))))) (
      sCons (sRet (mC (.bl false))) (sNil)) (sNil)) (sNil)
def g_law_1 : D → W → Option W := gsName 9
def b_law_1 : W → RS := 
    sCons (sIf (mOrT (mNotT (mTru (mCall 3 m__law_judged (mCons (mVar 5) (mCons (mVar 9) (mCons (mVar 3) (mNil))))))) (mNotT (mTru (mCall 3 m__law_judged (mCons (mVar 7) (mCons (mVar 9) (mCons (mVar 3) (mNil)))))))) (
      sCons (sRet (mC (.bl false))) (sNil)) (sNil)) (sNil)
def g_law_2 : D → W → Option W := gsName 9
def b_law_2 : W → RS := 
    sCons (sIf (mOrT (mNotT (mTru (mCall 3 m__law_judged (mCons (mVar 5) (mCons (mVar 2) (mCons (mVar 9) (mNil))))))) (mNotT (mTru (mCall 3 m__law_judged (mCons (mVar 5) (mCons (mVar 9) (mCons (mVar 2) (mNil)))))))) (
      sCons (sRet (mC (.bl false))) (sNil)) (sNil)) (sNil)
def g_law_3 : D → W → Option W := gsName 12
def b_law_3 : W → RS := 
    sCons (sIf (mNotT (mTru (mCall 3 m__law_judged (mCons (mCall 2 m__law_put (mCons (mVar 11) (mCons (mVar 12) (mNil)))) (mCons (mVar 2) (mCons (mVar 3) (mNil))))))) (
      sCons (sRet (mC (.bl false))) (sNil)) (sNil)) (sNil)
def g_law_4 : D → W → Option W := gsName 14
def b_law_4 : W → RS := 
    sCons (sIf (mNotT (mTru (mCall 2 m__law_says (mCons (mCall 3 m_is_talk (mCons (mVar 14) (mCons (mVar 2) (mCons (mVar 3) (mNil))))) (mCons (mC (.bl false)) (mNil)))))) (
      sCons (sRet (mC (.bl false))) (sNil)) (sNil)) (sNil)
def e_law : W → RS := 
  sCons (sPar 2 3 (mCons (mBin gAdd (mC (.int 1)) (mCall 2 m__law_pick (mCons (mVar 1) (mCons (mC (.int 6)) (mNil))))) (mCons (mBin gAdd (mC (.int 1)) (mCall 2 m__law_pick (mCons (mVar 1) (mCons (mC (.int 6)) (mNil))))) (mNil)))) (
  sCons (sSet 4 (mBin gIx (mFrz (mLst (mCons (mC (.int 4)) (mCons (mC (.int 100)) (mCons (mC (.int 2)) (mNil)))))) (mCall 2 m__law_pick (mCons (mVar 1) (mCons (mC (.int 3)) (mNil)))))) (
  sCons (sSet 5 (mCall 5 (m__law_talk 8) (mCons (mVar 1) (mCons (mVar 2) (mCons (mVar 3) (mCons (mC (.int 5)) (mCons (mVar 4) (mNil)))))))) (
  sCons (sSet 6 (mCall 2 m__law_pick (mCons (mVar 1) (mCons (mC (.int 61)) (mNil))))) (
  sCons (sSet 7 (mCall 6 m__law_chain (mCons (mVar 1) (mCons (mVar 2) (mCons (mVar 3) (mCons (mVar 6) (mCons (mTup (mCons (mC (.str "tell")) (mCons (mCall 2 m__law_pick (mCons (mVar 1) (mCons (mVar 4) (mNil)))) (mNil)))) (mCons (mVar 4) (mNil))))))))) (
  sCons (sFor (mItems (mTup (mCons (mVar 5) (mCons (mVar 7) (mCons (mVar 5) (mNil)))))) (g_law_0) (b_law_0)) (
  sCons (sFor (mRng2 (mCons (mC (.int 1)) (mCons (mBin gAdd (mVar 2) (mC (.int 1))) (mNil)))) (g_law_1) (b_law_1)) (
  sCons (sFor (mRng2 (mCons (mC (.int 1)) (mCons (mBin gAdd (mVar 3) (mC (.int 1))) (mNil)))) (g_law_2) (b_law_2)) (
  sCons (sSet 10 (mCall 2 m__law_pieces (mCons (mVar 2) (mCons (mVar 3) (mNil))))) (
  sCons (sSet 11 (mCall 2 m__law_way_down (mCons (mVar 1) (mCons (mVar 5) (mNil))))) (
  sCons (sFor (mItems (mVar 10)) (g_law_3) (b_law_3)) (
  sCons (sSet 12 (mBin gIx (mVar 10) (mCall 2 m__law_pick (mCons (mVar 1) (mCons (mBlt gLen (mCons (mVar 10) (mNil))) (mNil)))))) (
  sCons (sIf (mNotT (mTru (mCall 3 m__law_judged (mCons (mCall 6 m__law_chain (mCons (mVar 1) (mCons (mVar 2) (mCons (mVar 3) (mCons (mVar 6) (mCons (mVar 12) (mCons (mVar 4) (mNil)))))))) (mCons (mVar 2) (mCons (mVar 3) (mNil))))))) (
    sCons (sRet (mC (.bl false))) (sNil)) (sNil)) (
  sCons (sSet 13 (mCall 6 m__law_chain (mCons (mVar 1) (mCons (mVar 2) (mCons (mVar 3) (mCons (mBin gSub (mC (.int 60)) (mVar 6)) (mCons (mVar 7) (mCons (mVar 4) (mNil))))))))) (
  sCons (sIf (mOrT (mNotT (mTru (mCall 2 m__law_says (mCons (mCall 3 m_is_talk (mCons (mVar 13) (mCons (mVar 2) (mCons (mVar 3) (mNil))))) (mCons (mC (.bl true)) (mNil)))))) (mNotT (mTru (mCall 2 m__law_same (mCons (mCall 1 m_depth_of (mCons (mVar 13) (mNil))) (mCons (mC (.int 60)) (mNil))))))) (
    sCons (sRet (mC (.bl false))) (sNil)) (sNil)) (
  sCons (sFor (mItems (mTup (mCons (mTup (mCons (mC (.str "row")) (mCons (mTup (mNil)) (mCons (mVar 13) (mCons (mTup (mCons (mC (.str "tell")) (mCons (mC (.int 0)) (mNil)))) (mNil)))))) (mCons (mTup (mCons (mC (.str "column")) (mCons (mTup (mCons (mC (.int 0)) (mNil))) (mCons (mTup (mCons (mC (.str "tell")) (mCons (mC (.int 0)) (mNil)))) (mCons (mVar 13) (mNil)))))) (mNil))))) (g_law_4) (b_law_4)) (
  sCons (sIf (mB (mBin gGt (mCall 2 m__law_pick (mCons (mVar 1) (mCons (mC (.int 16)) (mNil)))) (mC (.int 0)))) (
    sCons (sRet (mC (.bl true))) (sNil)) (sNil)) (
  sCons (sIf (mNotT (mTru (mCall 2 m__law_same (mCons (mCall 1 m_leaves_of (mCons (mCall 1 m__law_broad (mCons (mC (.int 10000)) (mNil))) (mNil))) (mCons (mC (.int 10000)) (mNil)))))) (
    sCons (sRet (mC (.bl false))) (sNil)) (sNil)) (
  sCons (sRet (mAndV (mCall 2 m__law_says (mCons (mCall 3 m_is_talk (mCons (mCall 1 m__law_broad (mCons (mC (.int 10000)) (mNil))) (mCons (mVar 2) (mCons (mVar 3) (mNil))))) (mCons (mC (.bl true)) (mNil)))) (mNotV (mCall 3 m_is_talk (mCons (mCall 1 m__law_broad (mCons (mC (.int 10001)) (mNil))) (mCons (mVar 2) (mCons (mVar 3) (mNil)))))))) (sNil)))))))))))))))))))
def envL : TD.Env := none :: some (.val .src) :: List.replicate 13 none
def LawTrue : Prop := ∀ cells : List Int, cells ≠ [] → (∀ c ∈ cells, (0 : Int) ≤ c) → ∃ w', e_law ⟨envL, ⟨cells, 0, 0⟩⟩ = .ret (.bl true) w'

end K56

set_option Elab.async false
set_option linter.all false
set_option maxRecDepth 100000
set_option maxHeartbeats 4000000
namespace K56
open PySem PySem.Spec PyProof.Rows L2 TD
def top (i : Nat) : Stmt := PySem.Challenge.pw_talkgrowth_k56_talks_judged.main.body.getD i (.Pass ⟨0, 0, 0, 0⟩)
abbrev s_is_count : Stmt := top 1
abbrev s_is_rising : Stmt := top 2
abbrev s_is_talk : Stmt := top 6
abbrev s_heard_in : Stmt := top 7
abbrev s_depth_of : Stmt := top 8
abbrev s_leaves_of : Stmt := top 9
abbrev s_rounds_of : Stmt := top 10
abbrev s__law_source : Stmt := top 12
abbrev s__law_pick : Stmt := top 13
abbrev s__law_heard : Stmt := top 14
abbrev s__law_is_int : Stmt := top 15
abbrev s__law_plain : Stmt := top 16
abbrev s__law_same : Stmt := top 17
abbrev s__law_says : Stmt := top 18
abbrev s__law_members : Stmt := top 19
abbrev s__law_talk : Stmt := top 20
abbrev s__law_chain : Stmt := top 21
abbrev s__law_broad : Stmt := top 22
abbrev s__law_is_talk : Stmt := top 23
abbrev s__law_ways : Stmt := top 24
abbrev s__law_stretches : Stmt := top 25
abbrev s__law_measured : Stmt := top 26
abbrev s__law_judged : Stmt := top 27
abbrev s__law_pieces : Stmt := top 28
abbrev s__law_way_down : Stmt := top 29
abbrev s__law_put : Stmt := top 30
abbrev s_law : Stmt := top 31
structure Txt (K : PySem.W.Frag) (mg : Str → Option Value) : Prop where
  f_is_count : ∃ (f : Addr) (fd : FuncData), FunD K "is_count" "is_count" (defArgs s_is_count) (defBody s_is_count) (defScope s_is_count) [] [] f fd ∧ mg "is_count" = some (.ref f)
  f_is_rising : ∃ (f : Addr) (fd : FuncData), FunD K "is_rising" "is_rising" (defArgs s_is_rising) (defBody s_is_rising) (defScope s_is_rising) [] [] f fd ∧ mg "is_rising" = some (.ref f)
  f_is_talk : ∃ (f : Addr) (fd : FuncData), FunD K "is_talk" "is_talk" (defArgs s_is_talk) (defBody s_is_talk) (defScope s_is_talk) [] [] f fd ∧ mg "is_talk" = some (.ref f)
  f_heard_in : ∃ (f : Addr) (fd : FuncData), FunD K "heard_in" "heard_in" (defArgs s_heard_in) (defBody s_heard_in) (defScope s_heard_in) [] [] f fd ∧ mg "heard_in" = some (.ref f)
  f_depth_of : ∃ (f : Addr) (fd : FuncData), FunD K "depth_of" "depth_of" (defArgs s_depth_of) (defBody s_depth_of) (defScope s_depth_of) [] [] f fd ∧ mg "depth_of" = some (.ref f)
  f_leaves_of : ∃ (f : Addr) (fd : FuncData), FunD K "leaves_of" "leaves_of" (defArgs s_leaves_of) (defBody s_leaves_of) (defScope s_leaves_of) [] [] f fd ∧ mg "leaves_of" = some (.ref f)
  f_rounds_of : ∃ (f : Addr) (fd : FuncData), FunD K "rounds_of" "rounds_of" (defArgs s_rounds_of) (defBody s_rounds_of) (defScope s_rounds_of) [] [] f fd ∧ mg "rounds_of" = some (.ref f)
  f__law_source : ∃ (f : Addr) (fd : FuncData), FunD K "_law_source" "_law_source" (defArgs s__law_source) (defBody s__law_source) (defScope s__law_source) [] [] f fd ∧ mg "_law_source" = some (.ref f)
  f__law_pick : ∃ (f : Addr) (fd : FuncData), FunD K "_law_pick" "_law_pick" (defArgs s__law_pick) (defBody s__law_pick) (defScope s__law_pick) [] [] f fd ∧ mg "_law_pick" = some (.ref f)
  f__law_heard : ∃ (f : Addr) (fd : FuncData), FunD K "_law_heard" "_law_heard" (defArgs s__law_heard) (defBody s__law_heard) (defScope s__law_heard) [] [] f fd ∧ mg "_law_heard" = some (.ref f)
  f__law_is_int : ∃ (f : Addr) (fd : FuncData), FunD K "_law_is_int" "_law_is_int" (defArgs s__law_is_int) (defBody s__law_is_int) (defScope s__law_is_int) [] [] f fd ∧ mg "_law_is_int" = some (.ref f)
  f__law_plain : ∃ (f : Addr) (fd : FuncData), FunD K "_law_plain" "_law_plain" (defArgs s__law_plain) (defBody s__law_plain) (defScope s__law_plain) [] [] f fd ∧ mg "_law_plain" = some (.ref f)
  f__law_same : ∃ (f : Addr) (fd : FuncData), FunD K "_law_same" "_law_same" (defArgs s__law_same) (defBody s__law_same) (defScope s__law_same) [] [] f fd ∧ mg "_law_same" = some (.ref f)
  f__law_says : ∃ (f : Addr) (fd : FuncData), FunD K "_law_says" "_law_says" (defArgs s__law_says) (defBody s__law_says) (defScope s__law_says) [] [] f fd ∧ mg "_law_says" = some (.ref f)
  f__law_members : ∃ (f : Addr) (fd : FuncData), FunD K "_law_members" "_law_members" (defArgs s__law_members) (defBody s__law_members) (defScope s__law_members) [] [] f fd ∧ mg "_law_members" = some (.ref f)
  f__law_talk : ∃ (f : Addr) (fd : FuncData), FunD K "_law_talk" "_law_talk" (defArgs s__law_talk) (defBody s__law_talk) (defScope s__law_talk) [] [] f fd ∧ mg "_law_talk" = some (.ref f)
  f__law_chain : ∃ (f : Addr) (fd : FuncData), FunD K "_law_chain" "_law_chain" (defArgs s__law_chain) (defBody s__law_chain) (defScope s__law_chain) [] [] f fd ∧ mg "_law_chain" = some (.ref f)
  f__law_broad : ∃ (f : Addr) (fd : FuncData), FunD K "_law_broad" "_law_broad" (defArgs s__law_broad) (defBody s__law_broad) (defScope s__law_broad) [] [] f fd ∧ mg "_law_broad" = some (.ref f)
  f__law_is_talk : ∃ (f : Addr) (fd : FuncData), FunD K "_law_is_talk" "_law_is_talk" (defArgs s__law_is_talk) (defBody s__law_is_talk) (defScope s__law_is_talk) [] [] f fd ∧ mg "_law_is_talk" = some (.ref f)
  f__law_ways : ∃ (f : Addr) (fd : FuncData), FunD K "_law_ways" "_law_ways" (defArgs s__law_ways) (defBody s__law_ways) (defScope s__law_ways) [] [] f fd ∧ mg "_law_ways" = some (.ref f)
  f__law_stretches : ∃ (f : Addr) (fd : FuncData), FunD K "_law_stretches" "_law_stretches" (defArgs s__law_stretches) (defBody s__law_stretches) (defScope s__law_stretches) [] [] f fd ∧ mg "_law_stretches" = some (.ref f)
  f__law_measured : ∃ (f : Addr) (fd : FuncData), FunD K "_law_measured" "_law_measured" (defArgs s__law_measured) (defBody s__law_measured) (defScope s__law_measured) [] [] f fd ∧ mg "_law_measured" = some (.ref f)
  f__law_judged : ∃ (f : Addr) (fd : FuncData), FunD K "_law_judged" "_law_judged" (defArgs s__law_judged) (defBody s__law_judged) (defScope s__law_judged) [] [] f fd ∧ mg "_law_judged" = some (.ref f)
  f__law_pieces : ∃ (f : Addr) (fd : FuncData), FunD K "_law_pieces" "_law_pieces" (defArgs s__law_pieces) (defBody s__law_pieces) (defScope s__law_pieces) [] [] f fd ∧ mg "_law_pieces" = some (.ref f)
  f__law_way_down : ∃ (f : Addr) (fd : FuncData), FunD K "_law_way_down" "_law_way_down" (defArgs s__law_way_down) (defBody s__law_way_down) (defScope s__law_way_down) [] [] f fd ∧ mg "_law_way_down" = some (.ref f)
  f__law_put : ∃ (f : Addr) (fd : FuncData), FunD K "_law_put" "_law_put" (defArgs s__law_put) (defBody s__law_put) (defScope s__law_put) [] [] f fd ∧ mg "_law_put" = some (.ref f)
  f_law : ∃ (f : Addr) (fd : FuncData), FunD K "law" "law" (defArgs s_law) (defBody s_law) (defScope s_law) [] [] f fd ∧ mg "law" = some (.ref f)
  b_abs : mg "abs" = none
  b_bool : mg "bool" = none
  b_int : mg "int" = none
  b_isinstance : mg "isinstance" = none
  b_len : mg "len" = none
  b_max : mg "max" = none
  b_range : mg "range" = none
  b_tuple : mg "tuple" = none
  k_MOST_DEPTH : ∃ t, mg "MOST_DEPTH" = some (.int 60 t)
  k_MOST_NODES : ∃ t, mg "MOST_NODES" = some (.int 20000 t)
section
variable {P : Program} {w : World} {K : PySem.W.Frag} {mg : Str → Option Value} {base : Heap}
abbrev n_is_count : List Str := ["value", "least", "most"]
theorem sc_is_count : FnScope n_is_count ["value", "least", "most"] (defScope s_is_count) := ⟨rfl, rfl, rfl, by decide +kernel, rfl, by decide +kernel, by decide +kernel⟩
theorem c_is_count (T : Txt K mg) : Cal P w K mg base 1 "is_count" 3 m_is_count := by
  obtain ⟨f, fd, F, g⟩ := T.f_is_count
  refine ⟨f, fd, ["value", "least", "most"], fn_td F sc_is_count fun cdv A outer s H E fm hr => ?_, g, F.kp, F.bindsN fun _ _ _ _ _ _ us hl => match us, hl with | [_, _, _], _ => rfl⟩
  have hN : n_is_count.Nodup := sc_is_count.nd
  have tk := tk_of (P := P) (w := w) (K := K) (mg := mg) (base := base) (N := n_is_count) (qual := "is_count") (scope := defScope s_is_count) (f := f) (cd := cdv) (A := A) (outer := outer) (s := s) (H := H) (E := E)
  have po := po_of (P := P) (w := w) (K := K) (mg := mg) (base := base) (N := n_is_count) (qual := "is_count") (scope := defScope s_is_count) (f := f) (cd := cdv) (A := A) (outer := outer) (s := s) (H := H) (E := E)
  exact 
  sss_cons (ss_ret (se_and (se_isi (T := "int") (se_var (i := 0)) T.b_isinstance T.b_int (by decide +kernel)) (se_and (se_not (se_isi (T := "bool") (se_var (i := 0)) T.b_isinstance T.b_bool (by decide +kernel))) (se_one (se_chain dop_le dop_le (se_var (i := 1)) (se_var (i := 0)) (se_var (i := 2))))))) (sss_nil)
abbrev n_is_rising : List Str := ["numbers", "most", "last", "number"]
theorem sc_is_rising : FnScope n_is_rising ["numbers", "most"] (defScope s_is_rising) := ⟨rfl, rfl, rfl, by decide +kernel, rfl, by decide +kernel, by decide +kernel⟩
theorem c_is_rising (T : Txt K mg) : Cal P w K mg base 2 "is_rising" 2 m_is_rising := by
  obtain ⟨f, fd, F, g⟩ := T.f_is_rising
  refine ⟨f, fd, ["numbers", "most"], fn_td F sc_is_rising fun cdv A outer s H E fm hr => ?_, g, F.kp, F.bindsN fun _ _ _ _ _ _ us hl => match us, hl with | [_, _], _ => rfl⟩
  have hN : n_is_rising.Nodup := sc_is_rising.nd
  have tk := tk_of (P := P) (w := w) (K := K) (mg := mg) (base := base) (N := n_is_rising) (qual := "is_rising") (scope := defScope s_is_rising) (f := f) (cd := cdv) (A := A) (outer := outer) (s := s) (H := H) (E := E)
  have po := po_of (P := P) (w := w) (K := K) (mg := mg) (base := base) (N := n_is_rising) (qual := "is_rising") (scope := defScope s_is_rising) (f := f) (cd := cdv) (A := A) (outer := outer) (s := s) (H := H) (E := E)
  exact 
  sss_cons (ss_if (st_not (st_tru (se_isi (T := "tuple") (se_var (i := 0)) T.b_isinstance T.b_tuple (by decide +kernel)))) (
    sss_cons (ss_ret (se_bl)) (sss_nil)) (sss_nil)) (
  sss_cons (ss_set (i := 2) hN (se_un dun_neg (se_int))) (
  sss_cons (ss_for po rfl (si_seq (se_var (i := 0))) (sg_name (i := 3) hN) (
    sss_cons (ss_if (st_not (st_tru (se_call (c_is_count T) tk (hr.mono (by decide)) (sa_cons (se_var (i := 3)) (sa_cons (se_bin dop_add (se_var (i := 2)) (se_int)) (sa_cons (se_var (i := 1)) (sa_nil))))))) (
      sss_cons (ss_ret (se_bl)) (sss_nil)) (sss_nil)) (
    sss_cons (ss_set (i := 2) hN (se_var (i := 3))) (sss_nil)))) (
  sss_cons (ss_ret (se_bl)) (sss_nil))))
abbrev n_is_talk : List Str := ["value", "rows", "columns", "line", "many", "talk", "depth"]
theorem sc_is_talk : FnScope n_is_talk ["value", "rows", "columns"] (defScope s_is_talk) := ⟨rfl, rfl, rfl, by decide +kernel, rfl, by decide +kernel, by decide +kernel⟩
theorem c_is_talk (T : Txt K mg) : Cal P w K mg base 3 "is_talk" 3 m_is_talk := by
  obtain ⟨f, fd, F, g⟩ := T.f_is_talk
  refine ⟨f, fd, ["value", "rows", "columns"], fn_td F sc_is_talk fun cdv A outer s H E fm hr => ?_, g, F.kp, F.bindsN fun _ _ _ _ _ _ us hl => match us, hl with | [_, _, _], _ => rfl⟩
  have hN : n_is_talk.Nodup := sc_is_talk.nd
  have tk := tk_of (P := P) (w := w) (K := K) (mg := mg) (base := base) (N := n_is_talk) (qual := "is_talk") (scope := defScope s_is_talk) (f := f) (cd := cdv) (A := A) (outer := outer) (s := s) (H := H) (E := E)
  have po := po_of (P := P) (w := w) (K := K) (mg := mg) (base := base) (N := n_is_talk) (qual := "is_talk") (scope := defScope s_is_talk) (f := f) (cd := cdv) (A := A) (outer := outer) (s := s) (H := H) (E := E)
  exact 
  sss_cons (ss_setF (i := 3) hN (sf_lst (sa_cons (se_tup (sa_cons (se_var (i := 0)) (sa_cons (se_int) (sa_nil)))) (sa_nil)))) (
  sss_cons (ss_set (i := 4) hN (se_int)) (
  sss_cons (ss_while po (st_sc (st_tru (se_var (i := 3)))) (
    sss_cons (ss_pop (i := 3) (sg_tup (n := 2) rfl (sgs_cons (sg_name (i := 5) hN) (sgs_cons (sg_name (i := 6) hN) (sgs_nil))))) (
    sss_cons (ss_aug (i := 4) hN dop_iadd (se_int)) (
    sss_cons (ss_if (st_cmp dop_gt (se_var (i := 4)) (se_gint T.k_MOST_NODES)) (
      sss_cons (ss_ret (se_bl)) (sss_nil)) (sss_nil)) (
    sss_cons (ss_if (SW.st (sw_or (st_not (st_tru (se_isi (T := "tuple") (se_var (i := 5)) T.b_isinstance T.b_tuple (by decide +kernel)))) (sw_or (st_cmp dop_notIn (se_callB dc_len T.b_len (by decide +kernel) (sa_cons (se_var (i := 5)) (sa_nil))) (se_tup (sa_cons (se_int) (sa_cons (se_int) (sa_nil))))) (sw_or1 (st_cmp dop_gt (se_var (i := 6)) (se_gint T.k_MOST_DEPTH)))))) (
      sss_cons (ss_ret (se_bl)) (sss_nil)) (sss_nil)) (
    sss_cons (ss_if (st_cmp (dop_eq hr.units) (se_callB dc_len T.b_len (by decide +kernel) (sa_cons (se_var (i := 5)) (sa_nil))) (se_int)) (
      sss_cons (ss_if (SW.st (sw_or (st_cmp (dop_ne hr.units) (se_ix (se_var (i := 5)) (se_int)) (se_str)) (sw_or1 (st_not (st_tru (se_call (c_is_count T) tk (hr.mono (by decide)) (sa_cons (se_ix (se_var (i := 5)) (se_int)) (sa_cons (se_int) (sa_cons (se_int) (sa_nil)))))))))) (
        sss_cons (ss_ret (se_bl)) (sss_nil)) (sss_nil)) (sss_nil)) (
      sss_cons (ss_if (st_cmp dop_notIn (se_ix (se_var (i := 5)) (se_int)) (se_tup (sa_cons (se_str) (sa_cons (se_str) (sa_nil))))) (
        sss_cons (ss_ret (se_bl)) (sss_nil)) (sss_nil)) (
      sss_cons (ss_if (st_not (st_tru (se_call (c_is_rising T) tk (hr.mono (by decide)) (sa_cons (se_ix (se_var (i := 5)) (se_int)) (sa_cons (se_bin dop_sub (se_if (st_cmp (dop_eq hr.units) (se_ix (se_var (i := 5)) (se_int)) (se_str)) (se_var (i := 1)) (se_var (i := 2))) (se_int)) (sa_nil)))))) (
        sss_cons (ss_ret (se_bl)) (sss_nil)) (sss_nil)) (
      sss_cons (ss_append (i := 3) (se_tup (sa_cons (se_ix (se_var (i := 5)) (se_int)) (sa_cons (se_bin dop_add (se_var (i := 6)) (se_int)) (sa_nil))))) (
      sss_cons (ss_append (i := 3) (se_tup (sa_cons (se_ix (se_var (i := 5)) (se_int)) (sa_cons (se_bin dop_add (se_var (i := 6)) (se_int)) (sa_nil))))) (sss_nil)))))) (sss_nil))))))) (
  sss_cons (ss_ret (se_bl)) (sss_nil))))
abbrev n_heard_in : List Str := ["talk", "row", "column", "bits", "own", "bit"]
theorem sc_heard_in : FnScope n_heard_in ["talk", "row", "column"] (defScope s_heard_in) := ⟨rfl, rfl, rfl, by decide +kernel, rfl, by decide +kernel, by decide +kernel⟩
theorem c_heard_in (T : Txt K mg) : Cal P w K mg base 1 "heard_in" 3 m_heard_in := by
  obtain ⟨f, fd, F, g⟩ := T.f_heard_in
  refine ⟨f, fd, ["talk", "row", "column"], fn_td F sc_heard_in fun cdv A outer s H E fm hr => ?_, g, F.kp, F.bindsN fun _ _ _ _ _ _ us hl => match us, hl with | [_, _, _], _ => rfl⟩
  have hN : n_heard_in.Nodup := sc_heard_in.nd
  have tk := tk_of (P := P) (w := w) (K := K) (mg := mg) (base := base) (N := n_heard_in) (qual := "heard_in") (scope := defScope s_heard_in) (f := f) (cd := cdv) (A := A) (outer := outer) (s := s) (H := H) (E := E)
  have po := po_of (P := P) (w := w) (K := K) (mg := mg) (base := base) (N := n_heard_in) (qual := "heard_in") (scope := defScope s_heard_in) (f := f) (cd := cdv) (A := A) (outer := outer) (s := s) (H := H) (E := E)
  exact 
  sss_cons (ss_setF (i := 3) hN (sf_lst (sa_nil))) (
  sss_cons (ss_while po (st_cmp (dop_ne hr.units) (se_ix (se_var (i := 0)) (se_int)) (se_str)) (
    sss_cons (ss_set (i := 4) hN (se_if (st_cmp (dop_eq hr.units) (se_ix (se_var (i := 0)) (se_int)) (se_str)) (se_var (i := 1)) (se_var (i := 2)))) (
    sss_cons (ss_set (i := 5) hN (se_if (st_cmp dop_in (se_var (i := 4)) (se_ix (se_var (i := 0)) (se_int))) (se_int) (se_int))) (
    sss_cons (ss_append (i := 3) (se_var (i := 5))) (
    sss_cons (ss_set (i := 0) hN (se_if (st_cmp (dop_eq hr.units) (se_var (i := 5)) (se_int)) (se_ix (se_var (i := 0)) (se_int)) (se_ix (se_var (i := 0)) (se_int)))) (sss_nil)))))) (
  sss_cons (ss_ret (se_tup (sa_cons (se_ix (se_var (i := 0)) (se_int)) (sa_cons (se_callTy dc_tuple T.b_tuple (by decide +kernel) (sa_cons (se_var (i := 3)) (sa_nil))) (sa_nil))))) (sss_nil)))
abbrev n_depth_of : List Str := ["talk", "deepest", "line", "branch", "depth"]
theorem sc_depth_of : FnScope n_depth_of ["talk"] (defScope s_depth_of) := ⟨rfl, rfl, rfl, by decide +kernel, rfl, by decide +kernel, by decide +kernel⟩
theorem c_depth_of (T : Txt K mg) : Cal P w K mg base 1 "depth_of" 1 m_depth_of := by
  obtain ⟨f, fd, F, g⟩ := T.f_depth_of
  refine ⟨f, fd, ["talk"], fn_td F sc_depth_of fun cdv A outer s H E fm hr => ?_, g, F.kp, F.bindsN fun _ _ _ _ _ _ us hl => match us, hl with | [_], _ => rfl⟩
  have hN : n_depth_of.Nodup := sc_depth_of.nd
  have tk := tk_of (P := P) (w := w) (K := K) (mg := mg) (base := base) (N := n_depth_of) (qual := "depth_of") (scope := defScope s_depth_of) (f := f) (cd := cdv) (A := A) (outer := outer) (s := s) (H := H) (E := E)
  have po := po_of (P := P) (w := w) (K := K) (mg := mg) (base := base) (N := n_depth_of) (qual := "depth_of") (scope := defScope s_depth_of) (f := f) (cd := cdv) (A := A) (outer := outer) (s := s) (H := H) (E := E)
  exact 
  sss_cons (ss_set (i := 1) hN (se_int)) (
  sss_cons (ss_setF (i := 2) hN (sf_lst (sa_cons (se_tup (sa_cons (se_var (i := 0)) (sa_cons (se_int) (sa_nil)))) (sa_nil)))) (
  sss_cons (ss_while po (st_sc (st_tru (se_var (i := 2)))) (
    sss_cons (ss_pop (i := 2) (sg_tup (n := 2) rfl (sgs_cons (sg_name (i := 3) hN) (sgs_cons (sg_name (i := 4) hN) (sgs_nil))))) (
    sss_cons (ss_set (i := 1) hN (se_callB (dc_max rfl) T.b_max (by decide +kernel) (sa_cons (se_var (i := 1)) (sa_cons (se_var (i := 4)) (sa_nil))))) (
    sss_cons (ss_if (st_cmp (dop_ne hr.units) (se_ix (se_var (i := 3)) (se_int)) (se_str)) (
      sss_cons (ss_append (i := 2) (se_tup (sa_cons (se_ix (se_var (i := 3)) (se_int)) (sa_cons (se_bin dop_add (se_var (i := 4)) (se_int)) (sa_nil))))) (
      sss_cons (ss_append (i := 2) (se_tup (sa_cons (se_ix (se_var (i := 3)) (se_int)) (sa_cons (se_bin dop_add (se_var (i := 4)) (se_int)) (sa_nil))))) (sss_nil))) (sss_nil)) (sss_nil))))) (
  sss_cons (ss_ret (se_var (i := 1))) (sss_nil))))
abbrev n_leaves_of : List Str := ["talk", "many", "line", "branch"]
theorem sc_leaves_of : FnScope n_leaves_of ["talk"] (defScope s_leaves_of) := ⟨rfl, rfl, rfl, by decide +kernel, rfl, by decide +kernel, by decide +kernel⟩
theorem c_leaves_of (T : Txt K mg) : Cal P w K mg base 1 "leaves_of" 1 m_leaves_of := by
  obtain ⟨f, fd, F, g⟩ := T.f_leaves_of
  refine ⟨f, fd, ["talk"], fn_td F sc_leaves_of fun cdv A outer s H E fm hr => ?_, g, F.kp, F.bindsN fun _ _ _ _ _ _ us hl => match us, hl with | [_], _ => rfl⟩
  have hN : n_leaves_of.Nodup := sc_leaves_of.nd
  have tk := tk_of (P := P) (w := w) (K := K) (mg := mg) (base := base) (N := n_leaves_of) (qual := "leaves_of") (scope := defScope s_leaves_of) (f := f) (cd := cdv) (A := A) (outer := outer) (s := s) (H := H) (E := E)
  have po := po_of (P := P) (w := w) (K := K) (mg := mg) (base := base) (N := n_leaves_of) (qual := "leaves_of") (scope := defScope s_leaves_of) (f := f) (cd := cdv) (A := A) (outer := outer) (s := s) (H := H) (E := E)
  exact 
  sss_cons (ss_set (i := 1) hN (se_int)) (
  sss_cons (ss_setF (i := 2) hN (sf_lst (sa_cons (se_var (i := 0)) (sa_nil)))) (
  sss_cons (ss_while po (st_sc (st_tru (se_var (i := 2)))) (
    sss_cons (ss_pop (i := 2) (sg_name (i := 3) hN)) (
    sss_cons (ss_if (st_cmp (dop_eq hr.units) (se_ix (se_var (i := 3)) (se_int)) (se_str)) (
      sss_cons (ss_aug (i := 1) hN dop_iadd (se_int)) (sss_nil)) (
      sss_cons (ss_append (i := 2) (se_ix (se_var (i := 3)) (se_int))) (
      sss_cons (ss_append (i := 2) (se_ix (se_var (i := 3)) (se_int))) (sss_nil)))) (sss_nil)))) (
  sss_cons (ss_ret (se_var (i := 1))) (sss_nil))))
abbrev n_rounds_of : List Str := ["talk", "most", "line", "branch", "speaker", "rounds", "more"]
theorem sc_rounds_of : FnScope n_rounds_of ["talk"] (defScope s_rounds_of) := ⟨rfl, rfl, rfl, by decide +kernel, rfl, by decide +kernel, by decide +kernel⟩
theorem c_rounds_of (T : Txt K mg) : Cal P w K mg base 1 "rounds_of" 1 m_rounds_of := by
  obtain ⟨f, fd, F, g⟩ := T.f_rounds_of
  refine ⟨f, fd, ["talk"], fn_td F sc_rounds_of fun cdv A outer s H E fm hr => ?_, g, F.kp, F.bindsN fun _ _ _ _ _ _ us hl => match us, hl with | [_], _ => rfl⟩
  have hN : n_rounds_of.Nodup := sc_rounds_of.nd
  have tk := tk_of (P := P) (w := w) (K := K) (mg := mg) (base := base) (N := n_rounds_of) (qual := "rounds_of") (scope := defScope s_rounds_of) (f := f) (cd := cdv) (A := A) (outer := outer) (s := s) (H := H) (E := E)
  have po := po_of (P := P) (w := w) (K := K) (mg := mg) (base := base) (N := n_rounds_of) (qual := "rounds_of") (scope := defScope s_rounds_of) (f := f) (cd := cdv) (A := A) (outer := outer) (s := s) (H := H) (E := E)
  exact 
  sss_cons (ss_set (i := 1) hN (se_int)) (
  sss_cons (ss_setF (i := 2) hN (sf_lst (sa_cons (se_tup (sa_cons (se_var (i := 0)) (sa_cons (se_str) (sa_cons (se_int) (sa_nil))))) (sa_nil)))) (
  sss_cons (ss_while po (st_sc (st_tru (se_var (i := 2)))) (
    sss_cons (ss_pop (i := 2) (sg_tup (n := 3) rfl (sgs_cons (sg_name (i := 3) hN) (sgs_cons (sg_name (i := 4) hN) (sgs_cons (sg_name (i := 5) hN) (sgs_nil)))))) (
    sss_cons (ss_set (i := 1) hN (se_callB (dc_max rfl) T.b_max (by decide +kernel) (sa_cons (se_var (i := 1)) (sa_cons (se_var (i := 5)) (sa_nil))))) (
    sss_cons (ss_if (st_cmp (dop_ne hr.units) (se_ix (se_var (i := 3)) (se_int)) (se_str)) (
      sss_cons (ss_set (i := 6) hN (se_if (st_cmp (dop_eq hr.units) (se_ix (se_var (i := 3)) (se_int)) (se_var (i := 4))) (se_var (i := 5)) (se_bin dop_add (se_var (i := 5)) (se_int)))) (
      sss_cons (ss_append (i := 2) (se_tup (sa_cons (se_ix (se_var (i := 3)) (se_int)) (sa_cons (se_ix (se_var (i := 3)) (se_int)) (sa_cons (se_var (i := 6)) (sa_nil)))))) (
      sss_cons (ss_append (i := 2) (se_tup (sa_cons (se_ix (se_var (i := 3)) (se_int)) (sa_cons (se_ix (se_var (i := 3)) (se_int)) (sa_cons (se_var (i := 6)) (sa_nil)))))) (sss_nil)))) (sss_nil)) (sss_nil))))) (
  sss_cons (ss_ret (se_var (i := 1))) (sss_nil))))
abbrev n__law_source : List Str := ["script", "cells", "cell"]
theorem sc__law_source : FnScope n__law_source ["script"] (defScope s__law_source) := ⟨rfl, rfl, rfl, by decide +kernel, rfl, by decide +kernel, by decide +kernel⟩
abbrev n__law_pick : List Str := ["source", "many", "left", "turn", "cells", "cell", "first", "second"]
theorem sc__law_pick : FnScope n__law_pick ["source", "many"] (defScope s__law_pick) := ⟨rfl, rfl, rfl, by decide +kernel, rfl, by decide +kernel, by decide +kernel⟩
theorem c__law_pick (T : Txt K mg) : Cal P w K mg base 1 "_law_pick" 2 m__law_pick := by
  obtain ⟨f, fd, F, g⟩ := T.f__law_pick
  refine ⟨f, fd, ["source", "many"], fn_td F sc__law_pick fun cdv A outer s H E fm hr => ?_, g, F.kp, F.bindsN fun _ _ _ _ _ _ us hl => match us, hl with | [_, _], _ => rfl⟩
  have hN : n__law_pick.Nodup := sc__law_pick.nd
  have tk := tk_of (P := P) (w := w) (K := K) (mg := mg) (base := base) (N := n__law_pick) (qual := "_law_pick") (scope := defScope s__law_pick) (f := f) (cd := cdv) (A := A) (outer := outer) (s := s) (H := H) (E := E)
  have po := po_of (P := P) (w := w) (K := K) (mg := mg) (base := base) (N := n__law_pick) (qual := "_law_pick") (scope := defScope s__law_pick) (f := f) (cd := cdv) (A := A) (outer := outer) (s := s) (H := H) (E := E)
  exact 
  sss_cons (ss_if (st_cmp dop_gt (se_src (i := 0)) (se_int)) (
    sss_cons (ss_set (i := 2) hN (se_src (i := 0))) (
    sss_cons (ss_src (i := 0) (se_bin dop_div (se_var (i := 2)) (se_var (i := 1)))) (
    sss_cons (ss_ret (se_bin dop_mod (se_callTy dc_int T.b_int (by decide +kernel) (sa_cons (se_var (i := 2)) (sa_nil))) (se_var (i := 1)))) (sss_nil)))) (sss_nil)) (
  sss_cons (ss_set (i := 3) hN (se_src (i := 0))) (
  sss_cons (ss_src (i := 0) (se_bin dop_add (se_var (i := 3)) (se_int))) (
  sss_cons (ss_set (i := 4) hN (se_src (i := 0))) (
  sss_cons (ss_set (i := 5) hN (se_ix (se_var (i := 4)) (se_bin dop_mod (se_callTy dc_int T.b_int (by decide +kernel) (sa_cons (se_var (i := 3)) (sa_nil))) (se_callB dc_len T.b_len (by decide +kernel) (sa_cons (se_var (i := 4)) (sa_nil)))))) (
  sss_cons (ss_if (SW.st (sw_and (st_cmp dop_ge (se_var (i := 5)) (se_bin dop_pow (se_int) (se_int))) (sw_and1 (st_cmp dop_lt (se_var (i := 3)) (se_callB dc_len T.b_len (by decide +kernel) (sa_cons (se_var (i := 4)) (sa_nil))))))) (
    sss_cons (ss_src (i := 0) (se_bin dop_div (se_var (i := 5)) (se_var (i := 1)))) (
    sss_cons (ss_ret (se_bin dop_mod (se_callTy dc_int T.b_int (by decide +kernel) (sa_cons (se_var (i := 5)) (sa_nil))) (se_var (i := 1)))) (sss_nil))) (sss_nil)) (
  sss_cons (ss_set (i := 6) hN (se_bin dop_mod (se_callTy dc_int T.b_int (by decide +kernel) (sa_cons (se_bin dop_add (se_bin dop_add (se_bin dop_mul (se_bin dop_mod (se_callTy dc_int T.b_int (by decide +kernel) (sa_cons (se_var (i := 5)) (sa_nil))) (se_int)) (se_int)) (se_bin dop_mul (se_var (i := 3)) (se_int))) (se_int)) (sa_nil))) (se_int))) (
  sss_cons (ss_set (i := 7) hN (se_bin dop_mod (se_callTy dc_int T.b_int (by decide +kernel) (sa_cons (se_bin dop_add (se_bin dop_add (se_bin dop_mul (se_var (i := 6)) (se_bin dop_add (se_bin dop_mod (se_callTy dc_int T.b_int (by decide +kernel) (sa_cons (se_var (i := 6)) (sa_nil))) (se_int)) (se_int))) (se_bin dop_mul (se_var (i := 3)) (se_int))) (se_int)) (sa_nil))) (se_int))) (
  sss_cons (ss_ret (se_bin dop_mod (se_callTy dc_int T.b_int (by decide +kernel) (sa_cons (se_bin dop_div (se_var (i := 7)) (se_int)) (sa_nil))) (se_var (i := 1)))) (sss_nil)))))))))
abbrev n__law_heard : List Str := ["talk", "row", "column", "bits", "turn", "own"]
theorem sc__law_heard : FnScope n__law_heard ["talk", "row", "column"] (defScope s__law_heard) := ⟨rfl, rfl, rfl, by decide +kernel, rfl, by decide +kernel, by decide +kernel⟩
theorem c__law_heard (T : Txt K mg) : Cal P w K mg base 1 "_law_heard" 3 m__law_heard := by
  obtain ⟨f, fd, F, g⟩ := T.f__law_heard
  refine ⟨f, fd, ["talk", "row", "column"], fn_td F sc__law_heard fun cdv A outer s H E fm hr => ?_, g, F.kp, F.bindsN fun _ _ _ _ _ _ us hl => match us, hl with | [_, _, _], _ => rfl⟩
  have hN : n__law_heard.Nodup := sc__law_heard.nd
  have tk := tk_of (P := P) (w := w) (K := K) (mg := mg) (base := base) (N := n__law_heard) (qual := "_law_heard") (scope := defScope s__law_heard) (f := f) (cd := cdv) (A := A) (outer := outer) (s := s) (H := H) (E := E)
  have po := po_of (P := P) (w := w) (K := K) (mg := mg) (base := base) (N := n__law_heard) (qual := "_law_heard") (scope := defScope s__law_heard) (f := f) (cd := cdv) (A := A) (outer := outer) (s := s) (H := H) (E := E)
  exact 
  sss_cons (ss_setF (i := 3) hN (sf_lst (sa_nil))) (
  sss_cons (ss_for po rfl (si_rng1 (sa_cons (se_int) (sa_nil)) T.b_range) (sg_name (i := 4) hN) (
    sss_cons (ss_if (st_cmp (dop_eq hr.units) (se_ix (se_var (i := 0)) (se_int)) (se_str)) (
      sss_cons (ss_brk) (sss_nil)) (sss_nil)) (
    sss_cons (ss_set (i := 5) hN (se_if (st_cmp (dop_eq hr.units) (se_ix (se_var (i := 0)) (se_int)) (se_str)) (se_var (i := 1)) (se_var (i := 2)))) (
    sss_cons (ss_append (i := 3) (se_if (st_cmp dop_in (se_var (i := 5)) (se_ix (se_var (i := 0)) (se_int))) (se_int) (se_int))) (
    sss_cons (ss_set (i := 0) hN (se_if (st_cmp dop_in (se_var (i := 5)) (se_ix (se_var (i := 0)) (se_int))) (se_ix (se_var (i := 0)) (se_int)) (se_ix (se_var (i := 0)) (se_int)))) (sss_nil)))))) (
  sss_cons (ss_ret (se_tup (sa_cons (se_ix (se_var (i := 0)) (se_int)) (sa_cons (se_var (i := 3)) (sa_nil))))) (sss_nil)))
abbrev n__law_is_int : List Str := ["value"]
theorem sc__law_is_int : FnScope n__law_is_int ["value"] (defScope s__law_is_int) := ⟨rfl, rfl, rfl, by decide +kernel, rfl, by decide +kernel, by decide +kernel⟩
theorem c__law_is_int (T : Txt K mg) : Cal P w K mg base 1 "_law_is_int" 1 m__law_is_int := by
  obtain ⟨f, fd, F, g⟩ := T.f__law_is_int
  refine ⟨f, fd, ["value"], fn_td F sc__law_is_int fun cdv A outer s H E fm hr => ?_, g, F.kp, F.bindsN fun _ _ _ _ _ _ us hl => match us, hl with | [_], _ => rfl⟩
  have hN : n__law_is_int.Nodup := sc__law_is_int.nd
  have tk := tk_of (P := P) (w := w) (K := K) (mg := mg) (base := base) (N := n__law_is_int) (qual := "_law_is_int") (scope := defScope s__law_is_int) (f := f) (cd := cdv) (A := A) (outer := outer) (s := s) (H := H) (E := E)
  have po := po_of (P := P) (w := w) (K := K) (mg := mg) (base := base) (N := n__law_is_int) (qual := "_law_is_int") (scope := defScope s__law_is_int) (f := f) (cd := cdv) (A := A) (outer := outer) (s := s) (H := H) (E := E)
  exact 
  sss_cons (ss_ret (se_and (se_isi (T := "int") (se_var (i := 0)) T.b_isinstance T.b_int (by decide +kernel)) (se_one (se_not (se_isi (T := "bool") (se_var (i := 0)) T.b_isinstance T.b_bool (by decide +kernel)))))) (sss_nil)
abbrev n__law_plain : List Str := ["value", "line", "at"]
theorem sc__law_plain : FnScope n__law_plain ["value"] (defScope s__law_plain) := ⟨rfl, rfl, rfl, by decide +kernel, rfl, by decide +kernel, by decide +kernel⟩
theorem c__law_plain (T : Txt K mg) : Cal P w K mg base 2 "_law_plain" 1 m__law_plain := by
  obtain ⟨f, fd, F, g⟩ := T.f__law_plain
  refine ⟨f, fd, ["value"], fn_td F sc__law_plain fun cdv A outer s H E fm hr => ?_, g, F.kp, F.bindsN fun _ _ _ _ _ _ us hl => match us, hl with | [_], _ => rfl⟩
  have hN : n__law_plain.Nodup := sc__law_plain.nd
  have tk := tk_of (P := P) (w := w) (K := K) (mg := mg) (base := base) (N := n__law_plain) (qual := "_law_plain") (scope := defScope s__law_plain) (f := f) (cd := cdv) (A := A) (outer := outer) (s := s) (H := H) (E := E)
  have po := po_of (P := P) (w := w) (K := K) (mg := mg) (base := base) (N := n__law_plain) (qual := "_law_plain") (scope := defScope s__law_plain) (f := f) (cd := cdv) (A := A) (outer := outer) (s := s) (H := H) (E := E)
  exact 
  sss_cons (ss_setF (i := 1) hN (sf_lst (sa_cons (se_var (i := 0)) (sa_nil)))) (
  sss_cons (ss_set (i := 2) hN (se_int)) (
  sss_cons (ss_while po (st_sc (st_cmp dop_lt (se_var (i := 2)) (se_callB dc_len T.b_len (by decide +kernel) (sa_cons (se_var (i := 1)) (sa_nil))))) (
    sss_cons (ss_if (st_sc (st_tru (se_isi (T := "tuple") (se_ixO (i := 1) (se_var (i := 2))) T.b_isinstance T.b_tuple (by decide +kernel)))) (
      sss_cons (ss_extend (i := 1) (se_ixO (i := 1) (se_var (i := 2)))) (sss_nil)) (
      sss_cons (ss_if (st_sc (st_not (st_tru (se_call (c__law_is_int T) tk (hr.mono (by decide)) (sa_cons (se_ixO (i := 1) (se_var (i := 2))) (sa_nil)))))) (
        sss_cons (ss_ret (se_bl)) (sss_nil)) (sss_nil)) (sss_nil))) (
    sss_cons (ss_aug (i := 2) hN dop_iadd (se_int)) (sss_nil)))) (
  sss_cons (ss_ret (se_bl)) (sss_nil))))
abbrev n__law_same : List Str := ["told", "due"]
theorem sc__law_same : FnScope n__law_same ["told", "due"] (defScope s__law_same) := ⟨rfl, rfl, rfl, by decide +kernel, rfl, by decide +kernel, by decide +kernel⟩
theorem c__law_same (T : Txt K mg) : Cal P w K mg base 3 "_law_same" 2 m__law_same := by
  obtain ⟨f, fd, F, g⟩ := T.f__law_same
  refine ⟨f, fd, ["told", "due"], fn_td F sc__law_same fun cdv A outer s H E fm hr => ?_, g, F.kp, F.bindsN fun _ _ _ _ _ _ us hl => match us, hl with | [_, _], _ => rfl⟩
  have hN : n__law_same.Nodup := sc__law_same.nd
  have tk := tk_of (P := P) (w := w) (K := K) (mg := mg) (base := base) (N := n__law_same) (qual := "_law_same") (scope := defScope s__law_same) (f := f) (cd := cdv) (A := A) (outer := outer) (s := s) (H := H) (E := E)
  have po := po_of (P := P) (w := w) (K := K) (mg := mg) (base := base) (N := n__law_same) (qual := "_law_same") (scope := defScope s__law_same) (f := f) (cd := cdv) (A := A) (outer := outer) (s := s) (H := H) (E := E)
  exact 
  sss_cons (ss_ret (se_and (se_cmp (dop_eq hr.units) (se_var (i := 0)) (se_var (i := 1))) (se_one (se_call (c__law_plain T) tk (hr.mono (by decide)) (sa_cons (se_var (i := 0)) (sa_nil)))))) (sss_nil)
abbrev n__law_says : List Str := ["told", "due"]
theorem sc__law_says : FnScope n__law_says ["told", "due"] (defScope s__law_says) := ⟨rfl, rfl, rfl, by decide +kernel, rfl, by decide +kernel, by decide +kernel⟩
theorem c__law_says (T : Txt K mg) : Cal P w K mg base 1 "_law_says" 2 m__law_says := by
  obtain ⟨f, fd, F, g⟩ := T.f__law_says
  refine ⟨f, fd, ["told", "due"], fn_td F sc__law_says fun cdv A outer s H E fm hr => ?_, g, F.kp, F.bindsN fun _ _ _ _ _ _ us hl => match us, hl with | [_, _], _ => rfl⟩
  have hN : n__law_says.Nodup := sc__law_says.nd
  have tk := tk_of (P := P) (w := w) (K := K) (mg := mg) (base := base) (N := n__law_says) (qual := "_law_says") (scope := defScope s__law_says) (f := f) (cd := cdv) (A := A) (outer := outer) (s := s) (H := H) (E := E)
  have po := po_of (P := P) (w := w) (K := K) (mg := mg) (base := base) (N := n__law_says) (qual := "_law_says") (scope := defScope s__law_says) (f := f) (cd := cdv) (A := A) (outer := outer) (s := s) (H := H) (E := E)
  exact 
  sss_cons (ss_ret (se_and (se_isi (T := "bool") (se_var (i := 0)) T.b_isinstance T.b_bool (by decide +kernel)) (se_one (se_cmp (dop_eq hr.units) (se_var (i := 0)) (se_var (i := 1)))))) (sss_nil)
abbrev n__law_members : List Str := ["source", "lines", "at"]
theorem sc__law_members : FnScope n__law_members ["source", "lines"] (defScope s__law_members) := ⟨rfl, rfl, rfl, by decide +kernel, rfl, by decide +kernel, by decide +kernel⟩
theorem c__law_members (T : Txt K mg) : Cal P w K mg base 2 "_law_members" 2 m__law_members := by
  obtain ⟨f, fd, F, g⟩ := T.f__law_members
  refine ⟨f, fd, ["source", "lines"], fn_td F sc__law_members fun cdv A outer s H E fm hr => ?_, g, F.kp, F.bindsN fun _ _ _ _ _ _ us hl => match us, hl with | [_, _], _ => rfl⟩
  have hN : n__law_members.Nodup := sc__law_members.nd
  have tk := tk_of (P := P) (w := w) (K := K) (mg := mg) (base := base) (N := n__law_members) (qual := "_law_members") (scope := defScope s__law_members) (f := f) (cd := cdv) (A := A) (outer := outer) (s := s) (H := H) (E := E)
  have po := po_of (P := P) (w := w) (K := K) (mg := mg) (base := base) (N := n__law_members) (qual := "_law_members") (scope := defScope s__law_members) (f := f) (cd := cdv) (A := A) (outer := outer) (s := s) (H := H) (E := E)
  exact 
  sss_cons (ss_ret (se_callTy dc_tuple T.b_tuple (by decide +kernel) (sa_cons (se_frz (sf_lc (own := [("at", 2)]) rfl hN (si_rng1 (sa_cons (se_var (i := 1)) (sa_nil)) T.b_range) (blkOk_by (by kernel_rfl)) (fun _ _ _ _ _ => sg_name (i := 2) hN) (by decide) (fun _ _ _ _ _ => sts_one (st_cmp (dop_eq hr.units) (se_call (c__law_pick T) takes0 (hr.mono (by decide)) (sa_cons (se_var (i := 0)) (sa_cons (se_int) (sa_nil)))) (se_int))) (fun _ _ _ _ _ => se_var (i := 2)))) (sa_nil)))) (sss_nil)
abbrev n__law_talk : List Str := ["source", "rows", "columns", "depth", "many", "side", "members", "yes", "no"]
theorem sc__law_talk : FnScope n__law_talk ["source", "rows", "columns", "depth", "many"] (defScope s__law_talk) := ⟨rfl, rfl, rfl, by decide +kernel, rfl, by decide +kernel, by decide +kernel⟩
theorem c__law_talk (T : Txt K mg) : ∀ n : Nat, Cal P w K mg base (2 + n) "_law_talk" 5 (m__law_talk n)
  | 0 => by
    obtain ⟨f, fd, F, g⟩ := T.f__law_talk
    exact ⟨f, fd, ["source", "rows", "columns", "depth", "many"], fn_stuck F sc__law_talk, g, F.kp, F.bindsN fun _ _ _ _ _ _ us hl => match us, hl with | [_, _, _, _, _], _ => rfl⟩
  | n + 1 => by
    have cs := c__law_talk T n
    obtain ⟨f, fd, F, g⟩ := T.f__law_talk
    refine ⟨f, fd, ["source", "rows", "columns", "depth", "many"], fn_td F sc__law_talk fun cdv A outer s H E fm hr => ?_, g, F.kp, F.bindsN fun _ _ _ _ _ _ us hl => match us, hl with | [_, _, _, _, _], _ => rfl⟩
    have hN : n__law_talk.Nodup := sc__law_talk.nd
    have tk := tk_of (P := P) (w := w) (K := K) (mg := mg) (base := base) (N := n__law_talk) (qual := "_law_talk") (scope := defScope s__law_talk) (f := f) (cd := cdv) (A := A) (outer := outer) (s := s) (H := H) (E := E)
    have po := po_of (P := P) (w := w) (K := K) (mg := mg) (base := base) (N := n__law_talk) (qual := "_law_talk") (scope := defScope s__law_talk) (f := f) (cd := cdv) (A := A) (outer := outer) (s := s) (H := H) (E := E)
    exact 
  sss_cons (ss_if (SW.st (sw_or (st_cmp (dop_eq hr.units) (se_var (i := 3)) (se_int)) (sw_or1 (st_cmp (dop_eq hr.units) (se_call (c__law_pick T) tk (hr.mono (j := 1) (show 1 ≤ 2 + n by omega)) (sa_cons (se_var (i := 0)) (sa_cons (se_int) (sa_nil)))) (se_int))))) (
    sss_cons (ss_ret (se_tup (sa_cons (se_str) (sa_cons (se_call (c__law_pick T) tk (hr.mono (j := 1) (show 1 ≤ 2 + n by omega)) (sa_cons (se_var (i := 0)) (sa_cons (se_var (i := 4)) (sa_nil)))) (sa_nil))))) (sss_nil)) (sss_nil)) (
  sss_cons (ss_set (i := 5) hN (se_call (c__law_pick T) tk (hr.mono (j := 1) (show 1 ≤ 2 + n by omega)) (sa_cons (se_var (i := 0)) (sa_cons (se_int) (sa_nil))))) (
  sss_cons (ss_set (i := 6) hN (se_call (c__law_members T) tk (hr.mono (j := 2) (show 2 ≤ 2 + n by omega)) (sa_cons (se_var (i := 0)) (sa_cons (se_if (st_cmp (dop_eq hr.units) (se_var (i := 5)) (se_int)) (se_var (i := 2)) (se_var (i := 1))) (sa_nil))))) (
  sss_cons (ss_set (i := 7) hN (se_call cs tk hr (sa_cons (se_var (i := 0)) (sa_cons (se_var (i := 1)) (sa_cons (se_var (i := 2)) (sa_cons (se_bin dop_sub (se_var (i := 3)) (se_int)) (sa_cons (se_var (i := 4)) (sa_nil)))))))) (
  sss_cons (ss_set (i := 8) hN (se_call cs tk hr (sa_cons (se_var (i := 0)) (sa_cons (se_var (i := 1)) (sa_cons (se_var (i := 2)) (sa_cons (se_bin dop_sub (se_var (i := 3)) (se_int)) (sa_cons (se_var (i := 4)) (sa_nil)))))))) (
  sss_cons (ss_ret (se_tup (sa_cons (se_ix (se_frz (sf_lst (sa_cons (se_str) (sa_cons (se_str) (sa_nil))))) (se_var (i := 5))) (sa_cons (se_var (i := 6)) (sa_cons (se_var (i := 7)) (sa_cons (se_var (i := 8)) (sa_nil))))))) (sss_nil))))))
abbrev n__law_chain : List Str := ["source", "rows", "columns", "depth", "talk", "many", "turn", "side", "members", "leaf"]
theorem sc__law_chain : FnScope n__law_chain ["source", "rows", "columns", "depth", "talk", "many"] (defScope s__law_chain) := ⟨rfl, rfl, rfl, by decide +kernel, rfl, by decide +kernel, by decide +kernel⟩
theorem c__law_chain (T : Txt K mg) : Cal P w K mg base 3 "_law_chain" 6 m__law_chain := by
  obtain ⟨f, fd, F, g⟩ := T.f__law_chain
  refine ⟨f, fd, ["source", "rows", "columns", "depth", "talk", "many"], fn_td F sc__law_chain fun cdv A outer s H E fm hr => ?_, g, F.kp, F.bindsN fun _ _ _ _ _ _ us hl => match us, hl with | [_, _, _, _, _, _], _ => rfl⟩
  have hN : n__law_chain.Nodup := sc__law_chain.nd
  have tk := tk_of (P := P) (w := w) (K := K) (mg := mg) (base := base) (N := n__law_chain) (qual := "_law_chain") (scope := defScope s__law_chain) (f := f) (cd := cdv) (A := A) (outer := outer) (s := s) (H := H) (E := E)
  have po := po_of (P := P) (w := w) (K := K) (mg := mg) (base := base) (N := n__law_chain) (qual := "_law_chain") (scope := defScope s__law_chain) (f := f) (cd := cdv) (A := A) (outer := outer) (s := s) (H := H) (E := E)
  exact 
  sss_cons (ss_for po rfl (si_rng1 (sa_cons (se_var (i := 3)) (sa_nil)) T.b_range) (sg_name (i := 6) hN) (
    sss_cons (ss_set (i := 7) hN (se_call (c__law_pick T) tk (hr.mono (by decide)) (sa_cons (se_var (i := 0)) (sa_cons (se_int) (sa_nil))))) (
    sss_cons (ss_set (i := 8) hN (se_call (c__law_members T) tk (hr.mono (by decide)) (sa_cons (se_var (i := 0)) (sa_cons (se_if (st_cmp (dop_eq hr.units) (se_var (i := 7)) (se_int)) (se_var (i := 2)) (se_var (i := 1))) (sa_nil))))) (
    sss_cons (ss_set (i := 9) hN (se_tup (sa_cons (se_str) (sa_cons (se_call (c__law_pick T) tk (hr.mono (by decide)) (sa_cons (se_var (i := 0)) (sa_cons (se_var (i := 5)) (sa_nil)))) (sa_nil))))) (
    sss_cons (ss_if (st_cmp (dop_eq hr.units) (se_call (c__law_pick T) tk (hr.mono (by decide)) (sa_cons (se_var (i := 0)) (sa_cons (se_int) (sa_nil)))) (se_int)) (
      sss_cons (ss_set (i := 4) hN (se_tup (sa_cons (se_ix (se_frz (sf_lst (sa_cons (se_str) (sa_cons (se_str) (sa_nil))))) (se_var (i := 7))) (sa_cons (se_var (i := 8)) (sa_cons (se_var (i := 4)) (sa_cons (se_var (i := 9)) (sa_nil))))))) (sss_nil)) (
      sss_cons (ss_set (i := 4) hN (se_tup (sa_cons (se_ix (se_frz (sf_lst (sa_cons (se_str) (sa_cons (se_str) (sa_nil))))) (se_var (i := 7))) (sa_cons (se_var (i := 8)) (sa_cons (se_var (i := 9)) (sa_cons (se_var (i := 4)) (sa_nil))))))) (sss_nil))) (sss_nil)))))) (
  sss_cons (ss_ret (se_var (i := 4))) (sss_nil))
abbrev n__law_broad : List Str := ["leaves", "full", "talk", "left", "turn"]
theorem sc__law_broad : FnScope n__law_broad ["leaves"] (defScope s__law_broad) := ⟨rfl, rfl, rfl, by decide +kernel, rfl, by decide +kernel, by decide +kernel⟩
theorem c__law_broad (T : Txt K mg) : Cal P w K mg base 1 "_law_broad" 1 m__law_broad := by
  obtain ⟨f, fd, F, g⟩ := T.f__law_broad
  refine ⟨f, fd, ["leaves"], fn_td F sc__law_broad fun cdv A outer s H E fm hr => ?_, g, F.kp, F.bindsN fun _ _ _ _ _ _ us hl => match us, hl with | [_], _ => rfl⟩
  have hN : n__law_broad.Nodup := sc__law_broad.nd
  have tk := tk_of (P := P) (w := w) (K := K) (mg := mg) (base := base) (N := n__law_broad) (qual := "_law_broad") (scope := defScope s__law_broad) (f := f) (cd := cdv) (A := A) (outer := outer) (s := s) (H := H) (E := E)
  have po := po_of (P := P) (w := w) (K := K) (mg := mg) (base := base) (N := n__law_broad) (qual := "_law_broad") (scope := defScope s__law_broad) (f := f) (cd := cdv) (A := A) (outer := outer) (s := s) (H := H) (E := E)
  exact 
  sss_cons (ss_set (i := 1) hN (se_tup (sa_cons (se_str) (sa_cons (se_int) (sa_nil))))) (
  sss_cons (ss_set (i := 2) hN (se_non)) (
  sss_cons (ss_set (i := 3) hN (se_var (i := 0))) (
  sss_cons (ss_for po rfl (si_rng1 (sa_cons (se_int) (sa_nil)) T.b_range) (sg_name (i := 4) hN) (
    sss_cons (ss_if (st_cmp (dop_eq hr.units) (se_bin dop_mod (se_callTy dc_int T.b_int (by decide +kernel) (sa_cons (se_var (i := 3)) (sa_nil))) (se_int)) (se_int)) (
      sss_cons (ss_set (i := 2) hN (se_if (st_cmp dop_is (se_var (i := 2)) (se_non)) (se_var (i := 1)) (se_tup (sa_cons (se_str) (sa_cons (se_tup (sa_cons (se_int) (sa_nil))) (sa_cons (se_var (i := 1)) (sa_cons (se_var (i := 2)) (sa_nil)))))))) (sss_nil)) (sss_nil)) (
    sss_cons (ss_set (i := 1) hN (se_tup (sa_cons (se_str) (sa_cons (se_tup (sa_nil)) (sa_cons (se_var (i := 1)) (sa_cons (se_var (i := 1)) (sa_nil))))))) (
    sss_cons (ss_set (i := 3) hN (se_bin dop_div (se_var (i := 3)) (se_int))) (sss_nil))))) (
  sss_cons (ss_ret (se_var (i := 2))) (sss_nil)))))
abbrev n__law_is_talk : List Str := ["value", "rows", "columns", "line", "many", "talk", "depth", "last", "member"]
theorem sc__law_is_talk : FnScope n__law_is_talk ["value", "rows", "columns"] (defScope s__law_is_talk) := ⟨rfl, rfl, rfl, by decide +kernel, rfl, by decide +kernel, by decide +kernel⟩
theorem c__law_is_talk (T : Txt K mg) : Cal P w K mg base 2 "_law_is_talk" 3 m__law_is_talk := by
  obtain ⟨f, fd, F, g⟩ := T.f__law_is_talk
  refine ⟨f, fd, ["value", "rows", "columns"], fn_td F sc__law_is_talk fun cdv A outer s H E fm hr => ?_, g, F.kp, F.bindsN fun _ _ _ _ _ _ us hl => match us, hl with | [_, _, _], _ => rfl⟩
  have hN : n__law_is_talk.Nodup := sc__law_is_talk.nd
  have tk := tk_of (P := P) (w := w) (K := K) (mg := mg) (base := base) (N := n__law_is_talk) (qual := "_law_is_talk") (scope := defScope s__law_is_talk) (f := f) (cd := cdv) (A := A) (outer := outer) (s := s) (H := H) (E := E)
  have po := po_of (P := P) (w := w) (K := K) (mg := mg) (base := base) (N := n__law_is_talk) (qual := "_law_is_talk") (scope := defScope s__law_is_talk) (f := f) (cd := cdv) (A := A) (outer := outer) (s := s) (H := H) (E := E)
  exact 
  sss_cons (ss_setF (i := 3) hN (sf_lst (sa_cons (se_tup (sa_cons (se_var (i := 0)) (sa_cons (se_int) (sa_nil)))) (sa_nil)))) (
  sss_cons (ss_set (i := 4) hN (se_int)) (
  sss_cons (ss_while po (st_sc (st_cmp dop_gt (se_callB dc_len T.b_len (by decide +kernel) (sa_cons (se_var (i := 3)) (sa_nil))) (se_int))) (
    sss_cons (ss_pop (i := 3) (sg_tup (n := 2) rfl (sgs_cons (sg_name (i := 5) hN) (sgs_cons (sg_name (i := 6) hN) (sgs_nil))))) (
    sss_cons (ss_aug (i := 4) hN dop_iadd (se_int)) (
    sss_cons (ss_if (SW.st (sw_or (st_cmp dop_gt (se_var (i := 4)) (se_int)) (sw_or (st_cmp dop_gt (se_var (i := 6)) (se_int)) (sw_or1 (st_not (st_tru (se_isi (T := "tuple") (se_var (i := 5)) T.b_isinstance T.b_tuple (by decide +kernel)))))))) (
      sss_cons (ss_ret (se_bl)) (sss_nil)) (sss_nil)) (
    sss_cons (ss_if (SW.st (sw_and (st_cmp (dop_eq hr.units) (se_callB dc_len T.b_len (by decide +kernel) (sa_cons (se_var (i := 5)) (sa_nil))) (se_int)) (sw_and1 (st_cmp (dop_eq hr.units) (se_ix (se_var (i := 5)) (se_int)) (se_str))))) (
      sss_cons (ss_if (SW.st (sw_or (st_not (st_tru (se_call (c__law_is_int T) tk (hr.mono (by decide)) (sa_cons (se_ix (se_var (i := 5)) (se_int)) (sa_nil))))) (sw_or (st_cmp dop_lt (se_ix (se_var (i := 5)) (se_int)) (se_int)) (sw_or1 (st_cmp dop_gt (se_ix (se_var (i := 5)) (se_int)) (se_int)))))) (
        sss_cons (ss_ret (se_bl)) (sss_nil)) (sss_nil)) (sss_nil)) (
      sss_cons (ss_if (SW.st (sw_and (st_cmp (dop_eq hr.units) (se_callB dc_len T.b_len (by decide +kernel) (sa_cons (se_var (i := 5)) (sa_nil))) (se_int)) (sw_and (st_cmp dop_in (se_ix (se_var (i := 5)) (se_int)) (se_tup (sa_cons (se_str) (sa_cons (se_str) (sa_nil))))) (sw_and1 (st_tru (se_isi (T := "tuple") (se_ix (se_var (i := 5)) (se_int)) T.b_isinstance T.b_tuple (by decide +kernel))))))) (
        sss_cons (ss_set (i := 7) hN (se_bin dop_sub (se_int) (se_int))) (
        sss_cons (ss_for po rfl (si_seq (se_ix (se_var (i := 5)) (se_int))) (sg_name (i := 8) hN) (
          sss_cons (ss_if (SW.st (sw_or (st_not (st_tru (se_call (c__law_is_int T) tk (hr.mono (by decide)) (sa_cons (se_var (i := 8)) (sa_nil))))) (sw_or (st_cmp dop_le (se_var (i := 8)) (se_var (i := 7))) (sw_or1 (st_cmp dop_ge (se_var (i := 8)) (se_if (st_cmp (dop_eq hr.units) (se_ix (se_var (i := 5)) (se_int)) (se_str)) (se_var (i := 1)) (se_var (i := 2)))))))) (
            sss_cons (ss_ret (se_bl)) (sss_nil)) (sss_nil)) (
          sss_cons (ss_set (i := 7) hN (se_var (i := 8))) (sss_nil)))) (
        sss_cons (ss_append (i := 3) (se_tup (sa_cons (se_ix (se_var (i := 5)) (se_int)) (sa_cons (se_bin dop_add (se_var (i := 6)) (se_int)) (sa_nil))))) (
        sss_cons (ss_append (i := 3) (se_tup (sa_cons (se_ix (se_var (i := 5)) (se_int)) (sa_cons (se_bin dop_add (se_var (i := 6)) (se_int)) (sa_nil))))) (sss_nil))))) (
        sss_cons (ss_ret (se_bl)) (sss_nil))) (sss_nil))) (sss_nil)))))) (
  sss_cons (ss_ret (se_bl)) (sss_nil))))
abbrev n__law_ways : List Str := ["talk", "told", "line", "branch", "way"]
theorem sc__law_ways : FnScope n__law_ways ["talk"] (defScope s__law_ways) := ⟨rfl, rfl, rfl, by decide +kernel, rfl, by decide +kernel, by decide +kernel⟩
theorem c__law_ways (T : Txt K mg) : Cal P w K mg base 1 "_law_ways" 1 m__law_ways := by
  obtain ⟨f, fd, F, g⟩ := T.f__law_ways
  refine ⟨f, fd, ["talk"], fn_td F sc__law_ways fun cdv A outer s H E fm hr => ?_, g, F.kp, F.bindsN fun _ _ _ _ _ _ us hl => match us, hl with | [_], _ => rfl⟩
  have hN : n__law_ways.Nodup := sc__law_ways.nd
  have tk := tk_of (P := P) (w := w) (K := K) (mg := mg) (base := base) (N := n__law_ways) (qual := "_law_ways") (scope := defScope s__law_ways) (f := f) (cd := cdv) (A := A) (outer := outer) (s := s) (H := H) (E := E)
  have po := po_of (P := P) (w := w) (K := K) (mg := mg) (base := base) (N := n__law_ways) (qual := "_law_ways") (scope := defScope s__law_ways) (f := f) (cd := cdv) (A := A) (outer := outer) (s := s) (H := H) (E := E)
  exact 
  sss_cons (ss_setF (i := 1) hN (sf_lst (sa_nil))) (
  sss_cons (ss_setF (i := 2) hN (sf_lst (sa_cons (se_tup (sa_cons (se_var (i := 0)) (sa_cons (se_tup (sa_nil)) (sa_nil)))) (sa_nil)))) (
  sss_cons (ss_while po (st_sc (st_cmp dop_gt (se_callB dc_len T.b_len (by decide +kernel) (sa_cons (se_var (i := 2)) (sa_nil))) (se_int))) (
    sss_cons (ss_pop (i := 2) (sg_tup (n := 2) rfl (sgs_cons (sg_name (i := 3) hN) (sgs_cons (sg_name (i := 4) hN) (sgs_nil))))) (
    sss_cons (ss_if (st_cmp (dop_eq hr.units) (se_ix (se_var (i := 3)) (se_int)) (se_str)) (
      sss_cons (ss_append (i := 1) (se_var (i := 4))) (sss_nil)) (
      sss_cons (ss_append (i := 2) (se_tup (sa_cons (se_ix (se_var (i := 3)) (se_int)) (sa_cons (se_bin dop_add (se_var (i := 4)) (se_tup (sa_cons (se_ix (se_var (i := 3)) (se_int)) (sa_nil)))) (sa_nil))))) (
      sss_cons (ss_append (i := 2) (se_tup (sa_cons (se_ix (se_var (i := 3)) (se_int)) (sa_cons (se_bin dop_add (se_var (i := 4)) (se_tup (sa_cons (se_ix (se_var (i := 3)) (se_int)) (sa_nil)))) (sa_nil))))) (sss_nil)))) (sss_nil)))) (
  sss_cons (ss_ret (se_var (i := 1))) (sss_nil))))
abbrev n__law_stretches : List Str := ["way", "many", "at"]
theorem sc__law_stretches : FnScope n__law_stretches ["way"] (defScope s__law_stretches) := ⟨rfl, rfl, rfl, by decide +kernel, rfl, by decide +kernel, by decide +kernel⟩
theorem c__law_stretches (T : Txt K mg) : Cal P w K mg base 1 "_law_stretches" 1 m__law_stretches := by
  obtain ⟨f, fd, F, g⟩ := T.f__law_stretches
  refine ⟨f, fd, ["way"], fn_td F sc__law_stretches fun cdv A outer s H E fm hr => ?_, g, F.kp, F.bindsN fun _ _ _ _ _ _ us hl => match us, hl with | [_], _ => rfl⟩
  have hN : n__law_stretches.Nodup := sc__law_stretches.nd
  have tk := tk_of (P := P) (w := w) (K := K) (mg := mg) (base := base) (N := n__law_stretches) (qual := "_law_stretches") (scope := defScope s__law_stretches) (f := f) (cd := cdv) (A := A) (outer := outer) (s := s) (H := H) (E := E)
  have po := po_of (P := P) (w := w) (K := K) (mg := mg) (base := base) (N := n__law_stretches) (qual := "_law_stretches") (scope := defScope s__law_stretches) (f := f) (cd := cdv) (A := A) (outer := outer) (s := s) (H := H) (E := E)
  exact 
  sss_cons (ss_set (i := 1) hN (se_int)) (
  sss_cons (ss_for po rfl (si_rng1 (sa_cons (se_callB dc_len T.b_len (by decide +kernel) (sa_cons (se_var (i := 0)) (sa_nil))) (sa_nil)) T.b_range) (sg_name (i := 2) hN) (
    sss_cons (ss_if (SW.st (sw_or (st_cmp (dop_eq hr.units) (se_var (i := 2)) (se_int)) (sw_or1 (st_cmp (dop_ne hr.units) (se_ix (se_var (i := 0)) (se_var (i := 2))) (se_ix (se_var (i := 0)) (se_bin dop_sub (se_var (i := 2)) (se_int))))))) (
      sss_cons (ss_aug (i := 1) hN dop_iadd (se_int)) (sss_nil)) (sss_nil)) (sss_nil))) (
  sss_cons (ss_ret (se_var (i := 1))) (sss_nil)))
abbrev n__law_measured : List Str := ["talk", "rows", "columns", "ways", "way", "row", "column", "own", "bits"]
theorem sc__law_measured : FnScope n__law_measured ["talk", "rows", "columns"] (defScope s__law_measured) := ⟨rfl, rfl, rfl, by decide +kernel, rfl, by decide +kernel, by decide +kernel⟩
theorem c__law_measured (T : Txt K mg) : Cal P w K mg base 4 "_law_measured" 3 m__law_measured := by
  obtain ⟨f, fd, F, g⟩ := T.f__law_measured
  refine ⟨f, fd, ["talk", "rows", "columns"], fn_td F sc__law_measured fun cdv A outer s H E fm hr => ?_, g, F.kp, F.bindsN fun _ _ _ _ _ _ us hl => match us, hl with | [_, _, _], _ => rfl⟩
  have hN : n__law_measured.Nodup := sc__law_measured.nd
  have tk := tk_of (P := P) (w := w) (K := K) (mg := mg) (base := base) (N := n__law_measured) (qual := "_law_measured") (scope := defScope s__law_measured) (f := f) (cd := cdv) (A := A) (outer := outer) (s := s) (H := H) (E := E)
  have po := po_of (P := P) (w := w) (K := K) (mg := mg) (base := base) (N := n__law_measured) (qual := "_law_measured") (scope := defScope s__law_measured) (f := f) (cd := cdv) (A := A) (outer := outer) (s := s) (H := H) (E := E)
  exact 
  sss_cons (ss_set (i := 3) hN (se_call (c__law_ways T) tk (hr.mono (by decide)) (sa_cons (se_var (i := 0)) (sa_nil)))) (
  sss_cons (ss_if (SW.st (sw_or (st_not (st_tru (se_call (c__law_says T) tk (hr.mono (by decide)) (sa_cons (se_call (c_is_talk T) tk (hr.mono (by decide)) (sa_cons (se_var (i := 0)) (sa_cons (se_var (i := 1)) (sa_cons (se_var (i := 2)) (sa_nil))))) (sa_cons (se_bl) (sa_nil)))))) (sw_or1 (st_not (st_tru (se_call (c__law_same T) tk (hr.mono (by decide)) (sa_cons (se_call (c_leaves_of T) tk (hr.mono (by decide)) (sa_cons (se_var (i := 0)) (sa_nil))) (sa_cons (se_callB dc_len T.b_len (by decide +kernel) (sa_cons (se_var (i := 3)) (sa_nil))) (sa_nil))))))))) (
    sss_cons (ss_ret (se_bl)) (sss_nil)) (sss_nil)) (
  sss_cons (ss_if (st_not (st_tru (se_call (c__law_same T) tk (hr.mono (by decide)) (sa_cons (se_call (c_depth_of T) tk (hr.mono (by decide)) (sa_cons (se_var (i := 0)) (sa_nil))) (sa_cons (se_callB (dc_max rfl) T.b_max (by decide +kernel) (sa_cons (se_frz (sf_lc (own := [("way", 4)]) rfl hN (si_seq (se_var (i := 3))) (blkOk_by (by kernel_rfl)) (fun _ _ _ _ _ => sg_name (i := 4) hN) (by decide) (fun _ _ _ _ _ => sts_nil) (fun _ _ _ _ _ => se_callB dc_len T.b_len (by decide +kernel) (sa_cons (se_var (i := 4)) (sa_nil))))) (sa_nil))) (sa_nil)))))) (
    sss_cons (ss_ret (se_bl)) (sss_nil)) (sss_nil)) (
  sss_cons (ss_if (st_not (st_tru (se_call (c__law_same T) tk (hr.mono (by decide)) (sa_cons (se_call (c_rounds_of T) tk (hr.mono (by decide)) (sa_cons (se_var (i := 0)) (sa_nil))) (sa_cons (se_callB (dc_max rfl) T.b_max (by decide +kernel) (sa_cons (se_frz (sf_lc (own := [("way", 4)]) rfl hN (si_seq (se_var (i := 3))) (blkOk_by (by kernel_rfl)) (fun _ _ _ _ _ => sg_name (i := 4) hN) (by decide) (fun _ _ _ _ _ => sts_nil) (fun _ _ _ _ _ => se_call (c__law_stretches T) takes0 (hr.mono (by decide)) (sa_cons (se_var (i := 4)) (sa_nil))))) (sa_nil))) (sa_nil)))))) (
    sss_cons (ss_ret (se_bl)) (sss_nil)) (sss_nil)) (
  sss_cons (ss_for po rfl (si_rng1 (sa_cons (se_var (i := 1)) (sa_nil)) T.b_range) (sg_name (i := 5) hN) (
    sss_cons (ss_for po rfl (si_rng1 (sa_cons (se_var (i := 2)) (sa_nil)) T.b_range) (sg_name (i := 6) hN) (
      sss_cons (ss_asg (sg_tup (n := 2) rfl (sgs_cons (sg_name (i := 7) hN) (sgs_cons (sg_name (i := 8) hN) (sgs_nil)))) (se_call (c__law_heard T) tk (hr.mono (by decide)) (sa_cons (se_var (i := 0)) (sa_cons (se_var (i := 5)) (sa_cons (se_var (i := 6)) (sa_nil)))))) (
      sss_cons (ss_if (st_not (st_tru (se_call (c__law_same T) tk (hr.mono (by decide)) (sa_cons (se_call (c_heard_in T) tk (hr.mono (by decide)) (sa_cons (se_var (i := 0)) (sa_cons (se_var (i := 5)) (sa_cons (se_var (i := 6)) (sa_nil))))) (sa_cons (se_tup (sa_cons (se_var (i := 7)) (sa_cons (se_callTy dc_tuple T.b_tuple (by decide +kernel) (sa_cons (se_var (i := 8)) (sa_nil))) (sa_nil)))) (sa_nil)))))) (
        sss_cons (ss_ret (se_bl)) (sss_nil)) (sss_nil)) (sss_nil)))) (sss_nil))) (
  sss_cons (ss_ret (se_bl)) (sss_nil))))))
abbrev n__law_judged : List Str := ["value", "rows", "columns"]
theorem sc__law_judged : FnScope n__law_judged ["value", "rows", "columns"] (defScope s__law_judged) := ⟨rfl, rfl, rfl, by decide +kernel, rfl, by decide +kernel, by decide +kernel⟩
theorem c__law_judged (T : Txt K mg) : Cal P w K mg base 4 "_law_judged" 3 m__law_judged := by
  obtain ⟨f, fd, F, g⟩ := T.f__law_judged
  refine ⟨f, fd, ["value", "rows", "columns"], fn_td F sc__law_judged fun cdv A outer s H E fm hr => ?_, g, F.kp, F.bindsN fun _ _ _ _ _ _ us hl => match us, hl with | [_, _, _], _ => rfl⟩
  have hN : n__law_judged.Nodup := sc__law_judged.nd
  have tk := tk_of (P := P) (w := w) (K := K) (mg := mg) (base := base) (N := n__law_judged) (qual := "_law_judged") (scope := defScope s__law_judged) (f := f) (cd := cdv) (A := A) (outer := outer) (s := s) (H := H) (E := E)
  have po := po_of (P := P) (w := w) (K := K) (mg := mg) (base := base) (N := n__law_judged) (qual := "_law_judged") (scope := defScope s__law_judged) (f := f) (cd := cdv) (A := A) (outer := outer) (s := s) (H := H) (E := E)
  exact 
  sss_cons (ss_ret (se_call (c__law_says T) tk (hr.mono (by decide)) (sa_cons (se_call (c_is_talk T) tk (hr.mono (by decide)) (sa_cons (se_var (i := 0)) (sa_cons (se_var (i := 1)) (sa_cons (se_var (i := 2)) (sa_nil))))) (sa_cons (se_call (c__law_is_talk T) tk (hr.mono (by decide)) (sa_cons (se_var (i := 0)) (sa_cons (se_var (i := 1)) (sa_cons (se_var (i := 2)) (sa_nil))))) (sa_nil))))) (sss_nil)
abbrev n__law_pieces : List Str := ["rows", "columns", "leaf", "told", "side", "lines", "every", "at", "lots", "members"]
theorem sc__law_pieces : FnScope n__law_pieces ["rows", "columns"] (defScope s__law_pieces) := ⟨rfl, rfl, rfl, by decide +kernel, rfl, by decide +kernel, by decide +kernel⟩
theorem c__law_pieces (T : Txt K mg) : Cal P w K mg base 1 "_law_pieces" 2 m__law_pieces := by
  obtain ⟨f, fd, F, g⟩ := T.f__law_pieces
  refine ⟨f, fd, ["rows", "columns"], fn_td F sc__law_pieces fun cdv A outer s H E fm hr => ?_, g, F.kp, F.bindsN fun _ _ _ _ _ _ us hl => match us, hl with | [_, _], _ => rfl⟩
  have hN : n__law_pieces.Nodup := sc__law_pieces.nd
  have tk := tk_of (P := P) (w := w) (K := K) (mg := mg) (base := base) (N := n__law_pieces) (qual := "_law_pieces") (scope := defScope s__law_pieces) (f := f) (cd := cdv) (A := A) (outer := outer) (s := s) (H := H) (E := E)
  have po := po_of (P := P) (w := w) (K := K) (mg := mg) (base := base) (N := n__law_pieces) (qual := "_law_pieces") (scope := defScope s__law_pieces) (f := f) (cd := cdv) (A := A) (outer := outer) (s := s) (H := H) (E := E)
  exact 
  sss_cons (ss_set (i := 2) hN (se_tup (sa_cons (se_str) (sa_cons (se_int) (sa_nil))))) (
  sss_cons (ss_setF (i := 3) hN (sf_lst (sa_cons (se_tup (sa_cons (se_str) (sa_cons (se_int) (sa_nil)))) (sa_cons (se_tup (sa_cons (se_str) (sa_cons (se_int) (sa_nil)))) (sa_cons (se_tup (sa_cons (se_str) (sa_cons (se_int) (sa_nil)))) (sa_cons (se_tup (sa_cons (se_str) (sa_cons (se_bin dop_sub (se_int) (se_int)) (sa_nil)))) (sa_cons (se_tup (sa_cons (se_str) (sa_cons (se_bl) (sa_nil)))) (sa_cons (se_tup (sa_cons (se_str) (sa_cons (se_non) (sa_nil)))) (sa_cons (se_tup (sa_cons (se_str) (sa_cons (se_str) (sa_nil)))) (sa_nil)))))))))) (
  sss_cons (ss_setF (i := 3) hN (sf_cat (se_var (i := 3)) (se_frz (sf_lst (sa_cons (se_tup (sa_cons (se_str) (sa_nil))) (sa_cons (se_tup (sa_cons (se_str) (sa_cons (se_int) (sa_cons (se_int) (sa_nil))))) (sa_cons (se_tup (sa_cons (se_str) (sa_cons (se_int) (sa_nil)))) (sa_cons (se_tup (sa_cons (se_str) (sa_cons (se_tup (sa_nil)) (sa_cons (se_var (i := 2)) (sa_cons (se_var (i := 2)) (sa_nil)))))) (sa_cons (se_tup (sa_cons (se_str) (sa_cons (se_tup (sa_nil)) (sa_cons (se_var (i := 2)) (sa_cons (se_var (i := 2)) (sa_nil)))))) (sa_nil)))))))))) (
  sss_cons (ss_setF (i := 3) hN (sf_cat (se_var (i := 3)) (se_frz (sf_lst (sa_cons (se_tup (sa_cons (se_int) (sa_cons (se_tup (sa_nil)) (sa_cons (se_var (i := 2)) (sa_cons (se_var (i := 2)) (sa_nil)))))) (sa_cons (se_tup (sa_cons (se_non) (sa_cons (se_tup (sa_nil)) (sa_cons (se_var (i := 2)) (sa_cons (se_var (i := 2)) (sa_nil)))))) (sa_cons (se_non) (sa_cons (se_int) (sa_cons (se_str) (sa_cons (se_tup (sa_nil)) (sa_cons (se_bl) (sa_cons (se_tup (sa_cons (se_var (i := 2)) (sa_nil))) (sa_cons (se_tup (sa_cons (se_var (i := 2)) (sa_cons (se_var (i := 2)) (sa_nil)))) (sa_nil)))))))))))))) (
  sss_cons (ss_for po rfl (si_seq (se_tup (sa_cons (se_tup (sa_cons (se_str) (sa_cons (se_var (i := 0)) (sa_nil)))) (sa_cons (se_tup (sa_cons (se_str) (sa_cons (se_var (i := 1)) (sa_nil)))) (sa_nil))))) (sg_tup (n := 2) rfl (sgs_cons (sg_name (i := 4) hN) (sgs_cons (sg_name (i := 5) hN) (sgs_nil)))) (
    sss_cons (ss_set (i := 6) hN (se_callTy dc_tuple T.b_tuple (by decide +kernel) (sa_cons (se_frz (sf_lc (own := [("at", 7)]) rfl hN (si_rng1 (sa_cons (se_var (i := 5)) (sa_nil)) T.b_range) (blkOk_by (by kernel_rfl)) (fun _ _ _ _ _ => sg_name (i := 7) hN) (by decide) (fun _ _ _ _ _ => sts_nil) (fun _ _ _ _ _ => se_var (i := 7)))) (sa_nil)))) (
    sss_cons (ss_setF (i := 8) hN (sf_lst (sa_cons (se_tup (sa_nil)) (sa_cons (se_var (i := 6)) (sa_cons (se_slT (se_var (i := 6)) (so_some (se_int)) (so_none)) (sa_cons (se_revT (se_var (i := 6))) (sa_cons (se_tup (sa_cons (se_bin dop_sub (se_var (i := 5)) (se_int)) (sa_nil))) (sa_cons (se_tup (sa_cons (se_var (i := 5)) (sa_nil))) (sa_cons (se_bin dop_add (se_var (i := 6)) (se_tup (sa_cons (se_var (i := 5)) (sa_nil)))) (sa_cons (se_tup (sa_cons (se_bin dop_sub (se_int) (se_int)) (sa_nil))) (sa_cons (se_tup (sa_cons (se_int) (sa_cons (se_int) (sa_nil)))) (sa_nil)))))))))))) (
    sss_cons (ss_setF (i := 8) hN (sf_cat (se_var (i := 8)) (se_frz (sf_lst (sa_cons (se_bin dop_add (se_var (i := 6)) (se_tup (sa_cons (se_int) (sa_nil)))) (sa_cons (se_tup (sa_cons (se_bl) (sa_nil))) (sa_cons (se_tup (sa_cons (se_bl) (sa_nil))) (sa_cons (se_tup (sa_cons (se_non) (sa_nil))) (sa_cons (se_tup (sa_cons (se_str) (sa_nil))) (sa_cons (se_non) (sa_cons (se_int) (sa_cons (se_str) (sa_nil))))))))))))) (
    sss_cons (ss_for po rfl (si_seq (se_var (i := 8))) (sg_name (i := 9) hN) (
      sss_cons (ss_append (i := 3) (se_tup (sa_cons (se_var (i := 4)) (sa_cons (se_var (i := 9)) (sa_cons (se_var (i := 2)) (sa_cons (se_var (i := 2)) (sa_nil))))))) (sss_nil))) (
    sss_cons (ss_setF (i := 3) hN (sf_cat (se_var (i := 3)) (se_frz (sf_lst (sa_cons (se_tup (sa_cons (se_var (i := 4)) (sa_cons (se_tup (sa_nil)) (sa_cons (se_var (i := 2)) (sa_nil))))) (sa_cons (se_tup (sa_cons (se_var (i := 4)) (sa_cons (se_tup (sa_nil)) (sa_cons (se_var (i := 2)) (sa_cons (se_var (i := 2)) (sa_cons (se_var (i := 2)) (sa_nil))))))) (sa_cons (se_tup (sa_cons (se_var (i := 4)) (sa_cons (se_tup (sa_nil)) (sa_cons (se_non) (sa_cons (se_var (i := 2)) (sa_nil)))))) (sa_cons (se_tup (sa_cons (se_var (i := 4)) (sa_cons (se_tup (sa_nil)) (sa_cons (se_var (i := 2)) (sa_cons (se_tup (sa_nil)) (sa_nil)))))) (sa_nil))))))))) (
    sss_cons (ss_setF (i := 3) hN (sf_cat (se_var (i := 3)) (se_frz (sf_lst (sa_cons (se_tup (sa_cons (se_var (i := 4)) (sa_cons (se_tup (sa_nil)) (sa_nil)))) (sa_cons (se_tup (sa_cons (se_var (i := 4)) (sa_cons (se_tup (sa_nil)) (sa_cons (se_var (i := 2)) (sa_cons (se_tup (sa_cons (se_str) (sa_cons (se_int) (sa_nil)))) (sa_nil)))))) (sa_cons (se_tup (sa_cons (se_var (i := 4)) (sa_cons (se_tup (sa_nil)) (sa_cons (se_tup (sa_cons (se_str) (sa_cons (se_bin dop_sub (se_int) (se_int)) (sa_nil)))) (sa_cons (se_var (i := 2)) (sa_nil)))))) (sa_nil)))))))) (sss_nil)))))))) (
  sss_cons (ss_ret (se_var (i := 3))) (sss_nil))))))
abbrev n__law_way_down : List Str := ["source", "talk", "told", "side"]
theorem sc__law_way_down : FnScope n__law_way_down ["source", "talk"] (defScope s__law_way_down) := ⟨rfl, rfl, rfl, by decide +kernel, rfl, by decide +kernel, by decide +kernel⟩
theorem c__law_way_down (T : Txt K mg) : Cal P w K mg base 2 "_law_way_down" 2 m__law_way_down := by
  obtain ⟨f, fd, F, g⟩ := T.f__law_way_down
  refine ⟨f, fd, ["source", "talk"], fn_td F sc__law_way_down fun cdv A outer s H E fm hr => ?_, g, F.kp, F.bindsN fun _ _ _ _ _ _ us hl => match us, hl with | [_, _], _ => rfl⟩
  have hN : n__law_way_down.Nodup := sc__law_way_down.nd
  have tk := tk_of (P := P) (w := w) (K := K) (mg := mg) (base := base) (N := n__law_way_down) (qual := "_law_way_down") (scope := defScope s__law_way_down) (f := f) (cd := cdv) (A := A) (outer := outer) (s := s) (H := H) (E := E)
  have po := po_of (P := P) (w := w) (K := K) (mg := mg) (base := base) (N := n__law_way_down) (qual := "_law_way_down") (scope := defScope s__law_way_down) (f := f) (cd := cdv) (A := A) (outer := outer) (s := s) (H := H) (E := E)
  exact 
  sss_cons (ss_setF (i := 2) hN (sf_lst (sa_nil))) (
  sss_cons (ss_while po (SW.st (sw_and (st_cmp (dop_ne hr.units) (se_ix (se_var (i := 1)) (se_int)) (se_str)) (sw_and1 (st_cmp dop_gt (se_call (c__law_pick T) tk (hr.mono (by decide)) (sa_cons (se_var (i := 0)) (sa_cons (se_int) (sa_nil)))) (se_int))))) (
    sss_cons (ss_set (i := 3) hN (se_bin dop_add (se_int) (se_call (c__law_pick T) tk (hr.mono (by decide)) (sa_cons (se_var (i := 0)) (sa_cons (se_int) (sa_nil)))))) (
    sss_cons (ss_append (i := 2) (se_tup (sa_cons (se_var (i := 1)) (sa_cons (se_var (i := 3)) (sa_nil))))) (
    sss_cons (ss_set (i := 1) hN (se_ix (se_var (i := 1)) (se_var (i := 3)))) (sss_nil))))) (
  sss_cons (ss_ret (se_var (i := 2))) (sss_nil)))
abbrev n__law_put : List Str := ["above", "piece", "node", "side"]
theorem sc__law_put : FnScope n__law_put ["above", "piece"] (defScope s__law_put) := ⟨rfl, rfl, rfl, by decide +kernel, rfl, by decide +kernel, by decide +kernel⟩
theorem c__law_put (T : Txt K mg) : Cal P w K mg base 1 "_law_put" 2 m__law_put := by
  obtain ⟨f, fd, F, g⟩ := T.f__law_put
  refine ⟨f, fd, ["above", "piece"], fn_td F sc__law_put fun cdv A outer s H E fm hr => ?_, g, F.kp, F.bindsN fun _ _ _ _ _ _ us hl => match us, hl with | [_, _], _ => rfl⟩
  have hN : n__law_put.Nodup := sc__law_put.nd
  have tk := tk_of (P := P) (w := w) (K := K) (mg := mg) (base := base) (N := n__law_put) (qual := "_law_put") (scope := defScope s__law_put) (f := f) (cd := cdv) (A := A) (outer := outer) (s := s) (H := H) (E := E)
  have po := po_of (P := P) (w := w) (K := K) (mg := mg) (base := base) (N := n__law_put) (qual := "_law_put") (scope := defScope s__law_put) (f := f) (cd := cdv) (A := A) (outer := outer) (s := s) (H := H) (E := E)
  exact 
  sss_cons (ss_for po rfl (si_seq (se_frz (sf_revL (se_var (i := 0))))) (sg_tup (n := 2) rfl (sgs_cons (sg_name (i := 2) hN) (sgs_cons (sg_name (i := 3) hN) (sgs_nil)))) (
    sss_cons (ss_set (i := 1) hN (se_bin dop_add (se_bin dop_add (se_slT (se_var (i := 2)) (so_none) (so_some (se_var (i := 3)))) (se_tup (sa_cons (se_var (i := 1)) (sa_nil)))) (se_slT (se_var (i := 2)) (so_some (se_bin dop_add (se_var (i := 3)) (se_int))) (so_none)))) (sss_nil))) (
  sss_cons (ss_ret (se_var (i := 1))) (sss_nil))
abbrev n_law : List Str := ["script", "source", "rows", "columns", "many", "talk", "deep", "chain", "one", "lines", "pieces", "above", "piece", "sixty", "more"]
theorem sc_law : FnScope n_law ["script"] (defScope s_law) := ⟨rfl, rfl, rfl, by decide +kernel, rfl, by decide +kernel, by decide +kernel⟩
theorem w_law (T : Txt K mg) {f : Addr} {cdv : Value} {A : Around} {outer : List PySem.Env} {s : Shared} {H : Hp} {E : XK} {fm : Fm} (hr : Room 11 (A.deeper (envOfC "law" (defScope s_law) s.heap.objs.size f cdv))) :
    SSs (cxOf (L2.CX P w) P w K mg base n_law "law" (defScope s_law) f cdv A outer s H E) (fun c d _ H => E c d H) fm ((defBody s_law).drop 1) e_law := by
  have hN : n_law.Nodup := sc_law.nd
  have tk := tk_of (P := P) (w := w) (K := K) (mg := mg) (base := base) (N := n_law) (qual := "law") (scope := defScope s_law) (f := f) (cd := cdv) (A := A) (outer := outer) (s := s) (H := H) (E := E)
  have po := po_of (P := P) (w := w) (K := K) (mg := mg) (base := base) (N := n_law) (qual := "law") (scope := defScope s_law) (f := f) (cd := cdv) (A := A) (outer := outer) (s := s) (H := H) (E := E)
  exact 
  sss_cons (ss_par (i := 2) (j := 3) rfl hN (sa_cons (se_bin dop_add (se_int) (se_call (c__law_pick T) tk (hr.mono (by decide)) (sa_cons (se_var (i := 1)) (sa_cons (se_int) (sa_nil))))) (sa_cons (se_bin dop_add (se_int) (se_call (c__law_pick T) tk (hr.mono (by decide)) (sa_cons (se_var (i := 1)) (sa_cons (se_int) (sa_nil))))) (sa_nil)))) (
  sss_cons (ss_set (i := 4) hN (se_ix (se_frz (sf_lst (sa_cons (se_int) (sa_cons (se_int) (sa_cons (se_int) (sa_nil)))))) (se_call (c__law_pick T) tk (hr.mono (by decide)) (sa_cons (se_var (i := 1)) (sa_cons (se_int) (sa_nil)))))) (
  sss_cons (ss_set (i := 5) hN (se_call (c__law_talk T 8) tk (hr.mono (by decide)) (sa_cons (se_var (i := 1)) (sa_cons (se_var (i := 2)) (sa_cons (se_var (i := 3)) (sa_cons (se_int) (sa_cons (se_var (i := 4)) (sa_nil)))))))) (
  sss_cons (ss_set (i := 6) hN (se_call (c__law_pick T) tk (hr.mono (by decide)) (sa_cons (se_var (i := 1)) (sa_cons (se_int) (sa_nil))))) (
  sss_cons (ss_set (i := 7) hN (se_call (c__law_chain T) tk (hr.mono (by decide)) (sa_cons (se_var (i := 1)) (sa_cons (se_var (i := 2)) (sa_cons (se_var (i := 3)) (sa_cons (se_var (i := 6)) (sa_cons (se_tup (sa_cons (se_str) (sa_cons (se_call (c__law_pick T) tk (hr.mono (by decide)) (sa_cons (se_var (i := 1)) (sa_cons (se_var (i := 4)) (sa_nil)))) (sa_nil)))) (sa_cons (se_var (i := 4)) (sa_nil))))))))) (
  sss_cons (ss_for po rfl (si_seq (se_tup (sa_cons (se_var (i := 5)) (sa_cons (se_var (i := 7)) (sa_cons (se_var (i := 5)) (sa_nil)))))) (sg_name (i := 8) hN) (
    sss_cons (ss_if (st_not (st_tru (se_call (c__law_measured T) tk (hr.mono (by decide)) (sa_cons (se_var (i := 8)) (sa_cons (se_var (i := 2)) (sa_cons (se_var (i := 3)) (sa_nil))))))) (
      sss_cons (ss_ret (se_bl)) (sss_nil)) (sss_nil)) (sss_nil))) (
  sss_cons (ss_for po rfl (si_rng2 (sa_cons (se_int) (sa_cons (se_bin dop_add (se_var (i := 2)) (se_int)) (sa_nil))) T.b_range) (sg_name (i := 9) hN) (
    sss_cons (ss_if (SW.st (sw_or (st_not (st_tru (se_call (c__law_judged T) tk (hr.mono (by decide)) (sa_cons (se_var (i := 5)) (sa_cons (se_var (i := 9)) (sa_cons (se_var (i := 3)) (sa_nil))))))) (sw_or1 (st_not (st_tru (se_call (c__law_judged T) tk (hr.mono (by decide)) (sa_cons (se_var (i := 7)) (sa_cons (se_var (i := 9)) (sa_cons (se_var (i := 3)) (sa_nil)))))))))) (
      sss_cons (ss_ret (se_bl)) (sss_nil)) (sss_nil)) (sss_nil))) (
  sss_cons (ss_for po rfl (si_rng2 (sa_cons (se_int) (sa_cons (se_bin dop_add (se_var (i := 3)) (se_int)) (sa_nil))) T.b_range) (sg_name (i := 9) hN) (
    sss_cons (ss_if (SW.st (sw_or (st_not (st_tru (se_call (c__law_judged T) tk (hr.mono (by decide)) (sa_cons (se_var (i := 5)) (sa_cons (se_var (i := 2)) (sa_cons (se_var (i := 9)) (sa_nil))))))) (sw_or1 (st_not (st_tru (se_call (c__law_judged T) tk (hr.mono (by decide)) (sa_cons (se_var (i := 5)) (sa_cons (se_var (i := 9)) (sa_cons (se_var (i := 2)) (sa_nil)))))))))) (
      sss_cons (ss_ret (se_bl)) (sss_nil)) (sss_nil)) (sss_nil))) (
  sss_cons (ss_set (i := 10) hN (se_call (c__law_pieces T) tk (hr.mono (by decide)) (sa_cons (se_var (i := 2)) (sa_cons (se_var (i := 3)) (sa_nil))))) (
  sss_cons (ss_set (i := 11) hN (se_call (c__law_way_down T) tk (hr.mono (by decide)) (sa_cons (se_var (i := 1)) (sa_cons (se_var (i := 5)) (sa_nil))))) (
  sss_cons (ss_for po rfl (si_seq (se_var (i := 10))) (sg_name (i := 12) hN) (
    sss_cons (ss_if (st_not (st_tru (se_call (c__law_judged T) tk (hr.mono (by decide)) (sa_cons (se_call (c__law_put T) tk (hr.mono (by decide)) (sa_cons (se_var (i := 11)) (sa_cons (se_var (i := 12)) (sa_nil)))) (sa_cons (se_var (i := 2)) (sa_cons (se_var (i := 3)) (sa_nil))))))) (
      sss_cons (ss_ret (se_bl)) (sss_nil)) (sss_nil)) (sss_nil))) (
  sss_cons (ss_set (i := 12) hN (se_ix (se_var (i := 10)) (se_call (c__law_pick T) tk (hr.mono (by decide)) (sa_cons (se_var (i := 1)) (sa_cons (se_callB dc_len T.b_len (by decide +kernel) (sa_cons (se_var (i := 10)) (sa_nil))) (sa_nil)))))) (
  sss_cons (ss_if (st_not (st_tru (se_call (c__law_judged T) tk (hr.mono (by decide)) (sa_cons (se_call (c__law_chain T) tk (hr.mono (by decide)) (sa_cons (se_var (i := 1)) (sa_cons (se_var (i := 2)) (sa_cons (se_var (i := 3)) (sa_cons (se_var (i := 6)) (sa_cons (se_var (i := 12)) (sa_cons (se_var (i := 4)) (sa_nil)))))))) (sa_cons (se_var (i := 2)) (sa_cons (se_var (i := 3)) (sa_nil))))))) (
    sss_cons (ss_ret (se_bl)) (sss_nil)) (sss_nil)) (
  sss_cons (ss_set (i := 13) hN (se_call (c__law_chain T) tk (hr.mono (by decide)) (sa_cons (se_var (i := 1)) (sa_cons (se_var (i := 2)) (sa_cons (se_var (i := 3)) (sa_cons (se_bin dop_sub (se_int) (se_var (i := 6))) (sa_cons (se_var (i := 7)) (sa_cons (se_var (i := 4)) (sa_nil))))))))) (
  sss_cons (ss_if (SW.st (sw_or (st_not (st_tru (se_call (c__law_says T) tk (hr.mono (by decide)) (sa_cons (se_call (c_is_talk T) tk (hr.mono (by decide)) (sa_cons (se_var (i := 13)) (sa_cons (se_var (i := 2)) (sa_cons (se_var (i := 3)) (sa_nil))))) (sa_cons (se_bl) (sa_nil)))))) (sw_or1 (st_not (st_tru (se_call (c__law_same T) tk (hr.mono (by decide)) (sa_cons (se_call (c_depth_of T) tk (hr.mono (by decide)) (sa_cons (se_var (i := 13)) (sa_nil))) (sa_cons (se_int) (sa_nil))))))))) (
    sss_cons (ss_ret (se_bl)) (sss_nil)) (sss_nil)) (
  sss_cons (ss_for po rfl (si_seq (se_tup (sa_cons (se_tup (sa_cons (se_str) (sa_cons (se_tup (sa_nil)) (sa_cons (se_var (i := 13)) (sa_cons (se_tup (sa_cons (se_str) (sa_cons (se_int) (sa_nil)))) (sa_nil)))))) (sa_cons (se_tup (sa_cons (se_str) (sa_cons (se_tup (sa_cons (se_int) (sa_nil))) (sa_cons (se_tup (sa_cons (se_str) (sa_cons (se_int) (sa_nil)))) (sa_cons (se_var (i := 13)) (sa_nil)))))) (sa_nil))))) (sg_name (i := 14) hN) (
    sss_cons (ss_if (st_not (st_tru (se_call (c__law_says T) tk (hr.mono (by decide)) (sa_cons (se_call (c_is_talk T) tk (hr.mono (by decide)) (sa_cons (se_var (i := 14)) (sa_cons (se_var (i := 2)) (sa_cons (se_var (i := 3)) (sa_nil))))) (sa_cons (se_bl) (sa_nil)))))) (
      sss_cons (ss_ret (se_bl)) (sss_nil)) (sss_nil)) (sss_nil))) (
  sss_cons (ss_if (st_cmp dop_gt (se_call (c__law_pick T) tk (hr.mono (by decide)) (sa_cons (se_var (i := 1)) (sa_cons (se_int) (sa_nil)))) (se_int)) (
    sss_cons (ss_ret (se_bl)) (sss_nil)) (sss_nil)) (
  sss_cons (ss_if (st_not (st_tru (se_call (c__law_same T) tk (hr.mono (by decide)) (sa_cons (se_call (c_leaves_of T) tk (hr.mono (by decide)) (sa_cons (se_call (c__law_broad T) tk (hr.mono (by decide)) (sa_cons (se_int) (sa_nil))) (sa_nil))) (sa_cons (se_int) (sa_nil)))))) (
    sss_cons (ss_ret (se_bl)) (sss_nil)) (sss_nil)) (
  sss_cons (ss_ret (se_and (se_call (c__law_says T) tk (hr.mono (by decide)) (sa_cons (se_call (c_is_talk T) tk (hr.mono (by decide)) (sa_cons (se_call (c__law_broad T) tk (hr.mono (by decide)) (sa_cons (se_int) (sa_nil))) (sa_cons (se_var (i := 2)) (sa_cons (se_var (i := 3)) (sa_nil))))) (sa_cons (se_bl) (sa_nil)))) (se_one (se_not (se_call (c_is_talk T) tk (hr.mono (by decide)) (sa_cons (se_call (c__law_broad T) tk (hr.mono (by decide)) (sa_cons (se_int) (sa_nil))) (sa_cons (se_var (i := 2)) (sa_cons (se_var (i := 3)) (sa_nil))))))))) (sss_nil)))))))))))))))))))
end
end K56

set_option Elab.async false
set_option linter.all false
set_option maxRecDepth 100000
set_option maxHeartbeats 4000000
namespace K56
open PySem PySem.Spec PyProof.Rows L2 TD
def isCnt (d : D) (a b : Int) : Bool := match d with
  | .int i => decide (a ≤ i) && decide (i ≤ b)
  | _ => false
theorem is_count_eq (d : D) (hd : d ≠ .src) (a b : Int) (ss : SS) : m_is_count [d, .int a, .int b] ss = .ok (.bl (isCnt d a b)) ss := by
  cases d with
  | src => exact absurd rfl hd
  | int i =>
    simp [m_is_count, e_is_count, isCnt]
    by_cases h : a ≤ i <;> simp [h]
  | _ => simp [m_is_count, e_is_count, isCnt]
def rising (most : Int) : Int → List D → Bool
  | _, [] => true
  | last, d :: ds => match d with
    | .int i => decide (last + 1 ≤ i) && decide (i ≤ most) && rising most i ds
    | _ => false
/-- a loop that goes through (b) or returns False -/
def Out (ss : SS) (b : Bool) : RS → Prop
  | .nx w => b = true ∧ w.ss = ss
  | .ret d w => b = false ∧ d = .bl false ∧ w.ss = ss
  | _ => False
@[simp] theorem Out_nx (ss : SS) (b : Bool) (w : W) : Out ss b (.nx w) = (b = true ∧ w.ss = ss) := rfl
@[simp] theorem Out_ret (ss : SS) (b : Bool) (d : D) (w : W) : Out ss b (.ret d w) = (b = false ∧ d = .bl false ∧ w.ss = ss) := rfl
theorem Out.fin {ss : SS} {b : Bool} {r : RS} {k : W → RS} (h : Out ss b r) (hk : ∀ w, k w = .ret (.bl true) w) : (r.bind k).fin = .ok (.bl b) ss := by
  cases r with
  | nx w => obtain ⟨rfl, rfl⟩ := h; show (k w).fin = _; rw [hk]; rfl
  | ret d w => obtain ⟨rfl, rfl, rfl⟩ := h; rfl
  | _ => exact h.elim
theorem rising_loop (V : Option TD.Slot) (most : Int) (ss : SS) : ∀ (ds : List D) (last : Int) (x : Option TD.Slot), (∀ d ∈ ds, d ≠ .src) →
    Out ss (rising most last ds) (sForGo g_is_rising_0 b_is_rising_0 ds ⟨[V, some (.val (.int most)), some (.val (.int last)), x], ss⟩)
  | [], last, x, _ => by simp [rising]
  | d :: ds, last, x, h => by
    have hd := h d (List.mem_cons_self ..)
    rw [sForGo_cons]
    have ih := fun i => rising_loop V most ss ds i (some (.val (.int i))) fun e he => h e (List.mem_cons_of_mem _ he)
    generalize sForGo g_is_rising_0 b_is_rising_0 ds = kk at ih
    simp [g_is_rising_0, b_is_rising_0, is_count_eq d hd]
    cases d with
    | int i =>
      by_cases h1 : last + 1 ≤ i <;> by_cases h2 : i ≤ most
      · simpa [isCnt, h1, h2, rising] using ih i
      · have h3 : most < i := by omega
        simp [isCnt, h1, h2, h3, rising]
      · simp [isCnt, h1, h2, rising]
      · simp [isCnt, h1, h2, rising]
    | _ => simp [isCnt, rising]
def isRis (d : D) (most : Int) : Bool := match d with
  | .tup l => rising most (-1) l
  | _ => false
def nosrc : D → Prop
  | .src => False
  | .tup l => ∀ d ∈ l, d ≠ .src
  | _ => True
theorem is_rising_eq (d : D) (hd : nosrc d) (most : Int) (ss : SS) : m_is_rising [d, .int most] ss = .ok (.bl (isRis d most)) ss := by
  cases d with
  | src => exact absurd hd id
  | tup l =>
    have h := (rising_loop (some (.val (.tup l))) most ss l (-1) none hd).fin (k := sCons (sRet (mC (.bl true))) sNil) fun _ => by simp [RS.bind]
    simpa [m_is_rising, e_is_rising, isRis] using h
  | _ => simp [m_is_rising, e_is_rising, isRis]

/-! ### is_talk -/
def nodeOk (r c : Int) : D → Option (Option (D × D))
  | .tup [.str x, v] => if (x == ("tell" : Str)) = true then (if isCnt v 0 99 = true then some none else none) else none
  | .tup [.str x, m, a, b] => if (x == ("row" : Str) || x == ("column" : Str)) = true then (if isRis m ((if (x == ("row" : Str)) = true then r else c) - 1) = true then some (some (a, b)) else none) else none
  | _ => none
def jg (r c : Int) : Nat → List (D × Int) → Bool
  | _, [] => true
  | 0, _ :: _ => false
  | k + 1, (t, dep) :: st => if 60 < dep then false else match nodeOk r c t with
    | none => false
    | some none => jg r c k st
    | some (some (a, b)) => jg r c k ((b, dep + 1) :: (a, dep + 1) :: st)
def hdOk : List D → Bool
  | [h, _] => h.okb 64
  | [h, _, _, _] => h.flat && h.okb 64
  | _ => true
mutual
def nd : D → Bool
  | .src => false
  | .lst _ => false
  | .tup l => hdOk l && nds l
  | .str x => PyData.strOk x
  | _ => true
def nds : List D → Bool
  | [] => true
  | d :: ds => nd d && nds ds
end
theorem nd_nosrc {d : D} (h : nd d = true) : d ≠ .src := by
  intro e; subst e; simp [nd] at h
theorem nds_nosrc : ∀ {l : List D}, nds l = true → ∀ d ∈ l, d ≠ .src
  | [], _, d, h => nomatch h
  | x :: l, q, d, h => by
    have q' : nd x = true ∧ nds l = true := by simpa [nds] using q
    cases h with
    | head => exact nd_nosrc q'.1
    | tail _ h => exact nds_nosrc q'.2 d h
theorem nd_src {d : D} (h : nd d = true) : nosrc d := by
  cases d with
  | src => simp [nd] at h
  | tup l => exact nds_nosrc (by simp [nd] at h; exact h.2)
  | _ => exact trivial
@[simp] theorem ok_tell : PyData.strOk ("tell" : Str) = true := by decide +kernel
@[simp] theorem ok_row : PyData.strOk ("row" : Str) = true := by decide +kernel
@[simp] theorem ok_col : PyData.strOk ("column" : Str) = true := by decide +kernel
@[simp] theorem okb_str (n : Nat) (x : Str) : (D.str x).okb n = PyData.strOk x := by cases n <;> rfl
@[simp] theorem okb_int (n : Nat) (x : Int) : (D.int x).okb n = true := by cases n <;> rfl
@[simp] theorem okb_bl (n : Nat) (x : Bool) : (D.bl x).okb n = true := by cases n <;> rfl
@[simp] theorem okb_non (n : Nat) : D.non.okb n = true := by cases n <;> rfl
def encP (p : D × Int) : D := .tup [p.1, .int p.2]
@[simp] theorem gNotIn_tup (d : D) (l : List D) : gNotIn d (.tup l) = if (d.flat && l.all D.flat) = true then some (.bl (!d.any l)) else none := by cases d <;> rfl
@[simp] theorem gIn_tup (d : D) (l : List D) : gIn d (.tup l) = if (d.flat && l.all D.flat) = true then some (.bl (d.any l)) else none := by cases d <;> rfl
@[simp] theorem gEq_def (d e : D) : gEq d e = if (d.okb 64 && e.okb 64) = true then some (.bl (D.eqv d e)) else none := rfl
@[simp] theorem gNe_def (d e : D) : gNe d e = if (d.okb 64 && e.okb 64) = true then some (.bl (!D.eqv d e)) else none := rfl
@[simp] theorem atI_0 {α : Type} (a : α) (l : List α) : atI (a :: l) 0 = some a := atI_nat (j := 0) rfl
@[simp] theorem atI_1 {α : Type} (a b : α) (l : List α) : atI (a :: b :: l) 1 = some b := atI_nat (j := 1) rfl
@[simp] theorem atI_2 {α : Type} (a b c : α) (l : List α) : atI (a :: b :: c :: l) 2 = some c := atI_nat (j := 2) rfl
@[simp] theorem atI_3 {α : Type} (a b c d : α) (l : List α) : atI (a :: b :: c :: d :: l) 3 = some d := atI_nat (j := 3) rfl
@[simp] theorem eqv_non_non   : D.eqv (.non) (.non) = true := by rw [D.eqv]
@[simp] theorem eqv_non_bl  (b : Bool) : D.eqv (.non) (.bl b) = false := by rw [D.eqv] <;> simp
@[simp] theorem eqv_non_int  (b : Int) : D.eqv (.non) (.int b) = false := by rw [D.eqv] <;> simp
@[simp] theorem eqv_non_str  (b : Str) : D.eqv (.non) (.str b) = false := by rw [D.eqv] <;> simp
@[simp] theorem eqv_non_tup  (b : List D) : D.eqv (.non) (.tup b) = false := by rw [D.eqv] <;> simp
@[simp] theorem eqv_bl_non (a : Bool)  : D.eqv (.bl a) (.non) = false := by rw [D.eqv] <;> simp
@[simp] theorem eqv_bl_bl (a : Bool) (b : Bool) : D.eqv (.bl a) (.bl b) = (a == b) := by rw [D.eqv]
@[simp] theorem eqv_bl_int (a : Bool) (b : Int) : D.eqv (.bl a) (.int b) = ((if a then 1 else 0) == b) := by rw [D.eqv]
@[simp] theorem eqv_bl_str (a : Bool) (b : Str) : D.eqv (.bl a) (.str b) = false := by rw [D.eqv] <;> simp
@[simp] theorem eqv_bl_tup (a : Bool) (b : List D) : D.eqv (.bl a) (.tup b) = false := by rw [D.eqv] <;> simp
@[simp] theorem eqv_int_non (a : Int)  : D.eqv (.int a) (.non) = false := by rw [D.eqv] <;> simp
@[simp] theorem eqv_int_bl (a : Int) (b : Bool) : D.eqv (.int a) (.bl b) = (a == (if b then 1 else 0)) := by rw [D.eqv]
@[simp] theorem eqv_int_int (a : Int) (b : Int) : D.eqv (.int a) (.int b) = (a == b) := by rw [D.eqv]
@[simp] theorem eqv_int_str (a : Int) (b : Str) : D.eqv (.int a) (.str b) = false := by rw [D.eqv] <;> simp
@[simp] theorem eqv_int_tup (a : Int) (b : List D) : D.eqv (.int a) (.tup b) = false := by rw [D.eqv] <;> simp
@[simp] theorem eqv_str_non (a : Str)  : D.eqv (.str a) (.non) = false := by rw [D.eqv] <;> simp
@[simp] theorem eqv_str_bl (a : Str) (b : Bool) : D.eqv (.str a) (.bl b) = false := by rw [D.eqv] <;> simp
@[simp] theorem eqv_str_int (a : Str) (b : Int) : D.eqv (.str a) (.int b) = false := by rw [D.eqv] <;> simp
@[simp] theorem eqv_str_str (a : Str) (b : Str) : D.eqv (.str a) (.str b) = (a == b) := by rw [D.eqv]
@[simp] theorem eqv_str_tup (a : Str) (b : List D) : D.eqv (.str a) (.tup b) = false := by rw [D.eqv] <;> simp
@[simp] theorem eqv_tup_non (a : List D)  : D.eqv (.tup a) (.non) = false := by rw [D.eqv] <;> simp
@[simp] theorem eqv_tup_bl (a : List D) (b : Bool) : D.eqv (.tup a) (.bl b) = false := by rw [D.eqv] <;> simp
@[simp] theorem eqv_tup_int (a : List D) (b : Int) : D.eqv (.tup a) (.int b) = false := by rw [D.eqv] <;> simp
@[simp] theorem eqv_tup_str (a : List D) (b : Str) : D.eqv (.tup a) (.str b) = false := by rw [D.eqv] <;> simp
@[simp] theorem eqv_tup_tup (a : List D) (b : List D) : D.eqv (.tup a) (.tup b) = D.eqvs a b := by rw [D.eqv]
@[simp] theorem eqvs_nil : D.eqvs [] [] = true := by rw [D.eqvs]
@[simp] theorem eqvs_cons (a b : D) (l m : List D) : D.eqvs (a :: l) (b :: m) = (D.eqv a b && D.eqvs l m) := by rw [D.eqvs]
@[simp] theorem eqvs_nc (b : D) (m : List D) : D.eqvs [] (b :: m) = false := by rw [D.eqvs] <;> simp
@[simp] theorem eqvs_cn (b : D) (m : List D) : D.eqvs (b :: m) [] = false := by rw [D.eqvs] <;> simp
@[simp] theorem any_def (d : D) (l : List D) : d.any l = l.any fun y => D.eqv y d := rfl
theorem row_col : (("row" : Str) == ("column" : Str)) = false := by decide +kernel
theorem col_row : (("column" : Str) == ("row" : Str)) = false := by decide +kernel
theorem tell_row : (("tell" : Str) == ("row" : Str)) = false := by decide +kernel
theorem tell_col : (("tell" : Str) == ("column" : Str)) = false := by decide +kernel
theorem nds_cons {d : D} {l : List D} : nds (d :: l) = (nd d && nds l) := rfl
theorem is_talk_loop (V : Option TD.Slot) (r c : Int) (ss : SS) : ∀ (k : Nat) (st : List (D × Int)) (n : Nat) (many : Int) (x5 x6 : Option TD.Slot), many = 20000 - (k : Int) → (∀ p ∈ st, nd p.1 = true) → st.length + k ≤ 20001 → k < n →
    Out ss (jg r c k st) (sWhGo t_is_talk_0 b_is_talk_0 n ⟨[V, some (.val (.int r)), some (.val (.int c)), some (.own (st.map encP).reverse), some (.val (.int many)), x5, x6], ss⟩) := by
  intro k
  induction k with
  | zero =>
    intro st n many x5 x6 hk hs hl hn
    obtain ⟨n, rfl⟩ : ∃ m, n = m + 1 := ⟨n - 1, by omega⟩
    rw [sWhGo_succ]
    have hm : (20000 : Int) < many + 1 := by omega
    cases st with
    | nil => simp [t_is_talk_0, jg]
    | cons p st => simp [t_is_talk_0, b_is_talk_0, jg, encP, hm]
  | succ k ih =>
    intro st n many x5 x6 hk hs hl hn
    obtain ⟨n, rfl⟩ : ∃ m, n = m + 1 := ⟨n - 1, by omega⟩
    rw [sWhGo_succ]
    cases st with
    | nil => simp [t_is_talk_0, jg]
    | cons p st =>
      obtain ⟨t, dep⟩ := p
      have hm : ¬ (20000 : Int) < many + 1 := by omega
      have ht : nd t = true := hs _ (List.mem_cons_self ..)
      have hst : ∀ p ∈ st, nd p.1 = true := fun p hp => hs p (List.mem_cons_of_mem _ hp)
      have hl' : st.length + k + 2 ≤ 20001 := by simp at hl; omega
      have ih := fun st x5 x6 a b => ih st n (many + 1) x5 x6 (by omega) a b (by omega)
      generalize sWhGo t_is_talk_0 b_is_talk_0 n = kk at ih
      cases t with
      | tup l =>
        have hl2 : nds l = true := by simp [nd] at ht; exact ht.2
        have hh : hdOk l = true := by simp [nd] at ht; exact ht.1
        match l, hl2, hh with
        | [], _, _ => simp [t_is_talk_0, b_is_talk_0, jg, encP, hm, nodeOk]
        | [a], _, _ => simp [t_is_talk_0, b_is_talk_0, jg, encP, hm, nodeOk]
        | [a, b, d], _, _ => simp [t_is_talk_0, b_is_talk_0, jg, encP, hm, nodeOk]
        | a :: b :: d :: e :: f :: l, _, _ =>
          have h1 : ¬ (2 : Int) = l.length + 1 + 1 + 1 + 1 + 1 := by omega
          have h2 : ¬ (4 : Int) = l.length + 1 + 1 + 1 + 1 + 1 := by omega
          simp [t_is_talk_0, b_is_talk_0, jg, encP, hm, nodeOk, h1, h2]
        | [h, v], hl2, hh =>
          have hv : v ≠ .src := nd_nosrc (by simp [nds] at hl2; exact hl2.2)
          have ho : h.okb 64 = true := hh
          by_cases hd : 60 < dep
          · simp [t_is_talk_0, b_is_talk_0, jg, encP, hm, hd]
          cases h with
          | str x =>
            have hxo : PyData.strOk x = true := by simpa using ho
            by_cases hx : (x == ("tell" : Str)) = true
            · by_cases hc : isCnt v 0 99 = true
              · simpa [t_is_talk_0, b_is_talk_0, jg, encP, hm, hd, nodeOk, is_count_eq v hv, hx, hc, hxo] using ih st _ _ hst (by omega)
              · simp [t_is_talk_0, b_is_talk_0, jg, encP, hm, hd, nodeOk, is_count_eq v hv, hx, hc, hxo]
            · simp [t_is_talk_0, b_is_talk_0, jg, encP, hm, hd, nodeOk, is_count_eq v hv, hx, hxo]
          | lst l => simp [nd, nds] at hl2
          | src => simp [nd, nds] at hl2
          | _ => simp [t_is_talk_0, b_is_talk_0, jg, encP, hm, hd, nodeOk, is_count_eq v hv, ho]
        | [h, m, a, b], hl2, hh =>
          have hq : nd h = true ∧ nd m = true ∧ nd a = true ∧ nd b = true := by simpa [nds] using hl2
          have hm1 : nosrc m := nd_src hq.2.1
          have ho : h.flat = true ∧ h.okb 64 = true := by simpa [hdOk] using hh
          by_cases hd : 60 < dep
          · simp [t_is_talk_0, b_is_talk_0, jg, encP, hm, hd]
          have hst2 : ∀ p ∈ (b, dep + 1) :: (a, dep + 1) :: st, nd p.1 = true := by
            intro p hp
            cases hp with
            | head => exact hq.2.2.2
            | tail _ hp =>
              cases hp with
              | head => exact hq.2.2.1
              | tail _ hp => exact hst p hp
          have hlen : st.length < 1000000 := by omega
          have hlen2 : st.length + 1 < 1000000 := by omega
          cases h with
          | str x =>
            have hxo : PyData.strOk x = true := by simpa using ho.2
            by_cases hx : x = ("row" : Str)
            · subst hx
              by_cases hc : isRis m (r - 1) = true
              · simpa [t_is_talk_0, b_is_talk_0, jg, encP, hm, hd, nodeOk, is_rising_eq m hm1, hc, hlen, hlen2, row_col, col_row] using ih _ _ _ hst2 (by simp; omega)
              · simp [t_is_talk_0, b_is_talk_0, jg, encP, hm, hd, nodeOk, is_rising_eq m hm1, hc, hlen, hlen2, row_col, col_row]
            · by_cases hy : x = ("column" : Str)
              · subst hy
                by_cases hc : isRis m (c - 1) = true
                · simpa [t_is_talk_0, b_is_talk_0, jg, encP, hm, hd, nodeOk, is_rising_eq m hm1, hc, hlen, hlen2, row_col, col_row] using ih _ _ _ hst2 (by simp; omega)
                · simp [t_is_talk_0, b_is_talk_0, jg, encP, hm, hd, nodeOk, is_rising_eq m hm1, hc, hlen, hlen2, row_col, col_row]
              · simp [t_is_talk_0, b_is_talk_0, jg, encP, hm, hd, nodeOk, hxo, hx, hy, Ne.symm hx, Ne.symm hy]
          | tup l => simp at ho
          | lst l => simp at ho
          | src => simp [D.flat] at ho
          | _ => simp [t_is_talk_0, b_is_talk_0, jg, encP, hm, hd, nodeOk]
      | src => simp [nd] at ht
      | _ => simp [t_is_talk_0, b_is_talk_0, jg, encP, hm, nodeOk]
theorem is_talk_eq (v : D) (r c : Int) (ss : SS) (h : nd v = true) : m_is_talk [v, .int r, .int c] ss = .ok (.bl (jg r c 20000 [(v, 0)])) ss := by
  have q := (is_talk_loop (some (.val v)) r c ss 20000 [(v, 0)] fuel 0 none none (by simp) (fun p hp => by cases hp with | head => exact h | tail _ hp => cases hp) (by simp) (by decide)).fin (k := sCons (sRet (mC (.bl true))) sNil) fun _ => by simp [RS.bind]
  simpa [m_is_talk, e_is_talk, sWhile, encP] using q
/-! ### _law_is_talk -/
def OutP (P : W → Prop) (ss : SS) (b : Bool) : RS → Prop
  | .nx w => b = true ∧ P w
  | .ret d w => b = false ∧ d = .bl false ∧ w.ss = ss
  | _ => False
@[simp] theorem OutP_nx (P : W → Prop) (ss : SS) (b : Bool) (w : W) : OutP P ss b (.nx w) = (b = true ∧ P w) := rfl
@[simp] theorem OutP_ret (P : W → Prop) (ss : SS) (b : Bool) (d : D) (w : W) : OutP P ss b (.ret d w) = (b = false ∧ d = .bl false ∧ w.ss = ss) := rfl
theorem law_is_int_eq (d : D) (hd : d ≠ .src) (ss : SS) : m__law_is_int [d] ss = .ok (.bl (match d with | .int _ => true | _ => false)) ss := by
  cases d with
  | src => exact absurd rfl hd
  | _ => simp [m__law_is_int, e__law_is_int]
def lawEnd (V L M T : Option TD.Slot) (r c : Int) (dep : Option TD.Slot) (ss : SS) (w : W) : Prop := ∃ y z, w = ⟨[V, some (.val (.int r)), some (.val (.int c)), L, M, T, dep, y, z], ss⟩
theorem law_rising (V L M : Option TD.Slot) (x : Str) (hx : PyData.strOk x = true) (tl : List D) (r c : Int) (dep : Option TD.Slot) (ss : SS) : ∀ (ds : List D) (last : Int) (y : Option TD.Slot), (∀ d ∈ ds, d ≠ .src) →
    OutP (lawEnd V L M (some (.val (.tup (.str x :: tl)))) r c dep ss) ss (rising ((if (x == ("row" : Str)) = true then r else c) - 1) last ds)
      (sForGo g__law_is_talk_0 b__law_is_talk_0 ds ⟨[V, some (.val (.int r)), some (.val (.int c)), L, M, some (.val (.tup (.str x :: tl))), dep, some (.val (.int last)), y], ss⟩)
  | [], last, y, _ => by
    simp [rising]
    exact ⟨_, _, rfl⟩
  | d :: ds, last, y, h => by
    have hd := h d (List.mem_cons_self ..)
    rw [sForGo_cons]
    have ih := fun i => law_rising V L M x hx tl r c dep ss ds i (some (.val (.int i))) fun e he => h e (List.mem_cons_of_mem _ he)
    generalize sForGo g__law_is_talk_0 b__law_is_talk_0 ds = kk at ih
    cases d with
    | src => exact absurd rfl hd
    | int i =>
      have e1 : (last + 1 ≤ i) = (last < i) := by simp only [eq_iff_iff]; omega
      have hle : ∀ a b : Int, (a ≤ b - 1) = (a < b) := fun a b => by simp only [eq_iff_iff]; omega
      by_cases hr : (x == ("row" : Str)) = true
      · by_cases h1 : last < i <;> by_cases h2 : i < r
        · have h1' : ¬ i ≤ last := by omega
          have h2' : ¬ r ≤ i := by omega
          simpa [g__law_is_talk_0, b__law_is_talk_0, law_is_int_eq, rising, e1, hle, hr, h1, h2, h1', h2', hx] using ih i
        · have h1' : ¬ i ≤ last := by omega
          have h2' : r ≤ i := by omega
          simp [g__law_is_talk_0, b__law_is_talk_0, law_is_int_eq, rising, e1, hle, hr, h1, h2, h1', h2', hx]
        · have h1' : i ≤ last := by omega
          simp [g__law_is_talk_0, b__law_is_talk_0, law_is_int_eq, rising, e1, hle, hr, h1, h1', hx]
        · have h1' : i ≤ last := by omega
          simp [g__law_is_talk_0, b__law_is_talk_0, law_is_int_eq, rising, e1, hle, hr, h1, h1', hx]
      · by_cases h1 : last < i <;> by_cases h2 : i < c
        · have h1' : ¬ i ≤ last := by omega
          have h2' : ¬ c ≤ i := by omega
          simpa [g__law_is_talk_0, b__law_is_talk_0, law_is_int_eq, rising, e1, hle, hr, h1, h2, h1', h2', hx] using ih i
        · have h1' : ¬ i ≤ last := by omega
          have h2' : c ≤ i := by omega
          simp [g__law_is_talk_0, b__law_is_talk_0, law_is_int_eq, rising, e1, hle, hr, h1, h2, h1', h2', hx]
        · have h1' : i ≤ last := by omega
          simp [g__law_is_talk_0, b__law_is_talk_0, law_is_int_eq, rising, e1, hle, hr, h1, h1', hx]
        · have h1' : i ≤ last := by omega
          simp [g__law_is_talk_0, b__law_is_talk_0, law_is_int_eq, rising, e1, hle, hr, h1, h1', hx]
    | _ => simp [g__law_is_talk_0, b__law_is_talk_0, law_is_int_eq, rising]
theorem law_is_talk_loop (V : Option TD.Slot) (r c : Int) (ss : SS) : ∀ (k : Nat) (st : List (D × Int)) (n : Nat) (many : Int) (x5 x6 x7 x8 : Option TD.Slot), many = 20000 - (k : Int) → (∀ p ∈ st, nd p.1 = true) → st.length + k ≤ 20001 → k < n →
    Out ss (jg r c k st) (sWhGo t__law_is_talk_1 b__law_is_talk_1 n ⟨[V, some (.val (.int r)), some (.val (.int c)), some (.own (st.map encP).reverse), some (.val (.int many)), x5, x6, x7, x8], ss⟩) := by
  intro k
  induction k with
  | zero =>
    intro st n many x5 x6 x7 x8 hk hs hl hn
    obtain ⟨n, rfl⟩ : ∃ m, n = m + 1 := ⟨n - 1, by omega⟩
    rw [sWhGo_succ]
    have hm : (20000 : Int) < many + 1 := by omega
    cases st with
    | nil => simp [t__law_is_talk_1, jg]
    | cons p st =>
      have hp : (0 : Int) < st.length + 1 := by omega
      simp [t__law_is_talk_1, b__law_is_talk_1, jg, encP, hm, hp]
  | succ k ih =>
    intro st n many x5 x6 x7 x8 hk hs hl hn
    obtain ⟨n, rfl⟩ : ∃ m, n = m + 1 := ⟨n - 1, by omega⟩
    rw [sWhGo_succ]
    cases st with
    | nil => simp [t__law_is_talk_1, jg]
    | cons p st =>
      obtain ⟨t, dep⟩ := p
      have hp : (0 : Int) < st.length + 1 := by omega
      have hm : ¬ (20000 : Int) < many + 1 := by omega
      have ht : nd t = true := hs _ (List.mem_cons_self ..)
      have hst : ∀ p ∈ st, nd p.1 = true := fun p hp => hs p (List.mem_cons_of_mem _ hp)
      have hl' : st.length + k + 2 ≤ 20001 := by simp at hl; omega
      have ih := fun st x5 x6 x7 x8 a b => ih st n (many + 1) x5 x6 x7 x8 (by omega) a b (by omega)
      generalize sWhGo t__law_is_talk_1 b__law_is_talk_1 n = kk at ih
      by_cases hd : 60 < dep
      · simp [t__law_is_talk_1, b__law_is_talk_1, jg, encP, hm, hp, hd]
      cases t with
      | tup l =>
        have hl2 : nds l = true := by simp [nd] at ht; exact ht.2
        have hh : hdOk l = true := by simp [nd] at ht; exact ht.1
        match l, hl2, hh with
        | [], _, _ => simp [t__law_is_talk_1, b__law_is_talk_1, jg, encP, hm, hp, hd, nodeOk]
        | [a], _, _ => simp [t__law_is_talk_1, b__law_is_talk_1, jg, encP, hm, hp, hd, nodeOk]
        | [a, b, d], _, _ => simp [t__law_is_talk_1, b__law_is_talk_1, jg, encP, hm, hp, hd, nodeOk]
        | a :: b :: d :: e :: f :: l, _, _ =>
          have h1 : ¬ (l.length : Int) + 1 + 1 + 1 + 1 + 1 = 2 := by omega
          have h2 : ¬ (l.length : Int) + 1 + 1 + 1 + 1 + 1 = 4 := by omega
          simp [t__law_is_talk_1, b__law_is_talk_1, jg, encP, hm, hp, hd, nodeOk, h1, h2]
        | [h, v], hl2, hh =>
          have hv : v ≠ .src := nd_nosrc (by simp [nds] at hl2; exact hl2.2)
          have ho : h.okb 64 = true := hh
          cases h with
          | str x =>
            have hxo : PyData.strOk x = true := by simpa using ho
            by_cases hx : (x == ("tell" : Str)) = true
            · cases v with
              | int i =>
                by_cases h1 : i < 0 <;> by_cases h2 : 99 < i
                · omega
                · have h3 : ¬ 0 ≤ i := by omega
                  simp [t__law_is_talk_1, b__law_is_talk_1, jg, encP, hm, hp, hd, nodeOk, law_is_int_eq, hx, hxo, isCnt, h1, h3]
                · have h3 : ¬ i ≤ 99 := by omega
                  simp [t__law_is_talk_1, b__law_is_talk_1, jg, encP, hm, hp, hd, nodeOk, law_is_int_eq, hx, hxo, isCnt, h1, h2, h3]
                · have h3 : i ≤ 99 := by omega
                  have h4 : 0 ≤ i := by omega
                  simpa [t__law_is_talk_1, b__law_is_talk_1, jg, encP, hm, hp, hd, nodeOk, law_is_int_eq, hx, hxo, isCnt, h1, h2, h3, h4] using ih st _ _ _ _ hst (by omega)
              | src => exact absurd rfl hv
              | _ => simp [t__law_is_talk_1, b__law_is_talk_1, jg, encP, hm, hp, hd, nodeOk, law_is_int_eq, hx, hxo, isCnt]
            · simp [t__law_is_talk_1, b__law_is_talk_1, jg, encP, hm, hp, hd, nodeOk, hx, hxo]
          | lst l => simp [nd, nds] at hl2
          | src => simp [nd, nds] at hl2
          | _ => simp [t__law_is_talk_1, b__law_is_talk_1, jg, encP, hm, hp, hd, nodeOk, ho]
        | [h, m, a, b], hl2, hh =>
          have hq : nd h = true ∧ nd m = true ∧ nd a = true ∧ nd b = true := by simpa [nds] using hl2
          have hm1 : nosrc m := nd_src hq.2.1
          have hm2 : m ≠ .src := nd_nosrc hq.2.1
          have ho : h.flat = true ∧ h.okb 64 = true := by simpa [hdOk] using hh
          have hst2 : ∀ p ∈ (b, dep + 1) :: (a, dep + 1) :: st, nd p.1 = true := by
            intro p hp
            cases hp with
            | head => exact hq.2.2.2
            | tail _ hp =>
              cases hp with
              | head => exact hq.2.2.1
              | tail _ hp => exact hst p hp
          have hlen : st.length < 1000000 := by omega
          have hlen2 : st.length + 1 < 1000000 := by omega
          cases h with
          | str x =>
            have hxo : PyData.strOk x = true := by simpa using ho.2
            by_cases hrc : x = ("row" : Str) ∨ x = ("column" : Str)
            · have hrc1 : (("row" : Str) == x || ("column" : Str) == x) = true := by
                rcases hrc with h | h <;> simp [h]
              have hrc2 : (x == ("row" : Str) || x == ("column" : Str)) = true := by
                rcases hrc with h | h <;> simp [h]
              cases m with
              | tup ms =>
                rcases hrc with rfl | rfl
                · have hq2 := law_rising V (some (.own (st.map encP).reverse)) (some (.val (.int (many + 1)))) ("row" : Str) hxo [.tup ms, a, b] r c (some (.val (.int dep))) ss ms (-1) x8 hm1
                  have hb : (if (("row" : Str) == ("row" : Str)) = true then r else c) = r := by simp [col_row]
                  rw [hb] at hq2
                  generalize hfr : sForGo g__law_is_talk_0 b__law_is_talk_0 ms _ = fr at hq2
                  cases fr with
                  | nx w =>
                    obtain ⟨hr, y, z, rfl⟩ := hq2
                    simpa [t__law_is_talk_1, b__law_is_talk_1, jg, encP, hm, hp, hd, nodeOk, isRis, hfr, hr, hlen, hlen2, row_col, col_row] using ih _ (some (.val (.tup [.str "row", .tup ms, a, b]))) (some (.val (.int dep))) y z hst2 (by simp; omega)
                  | ret d w =>
                    obtain ⟨hr, rfl, hw⟩ := hq2
                    simp [t__law_is_talk_1, b__law_is_talk_1, jg, encP, hm, hp, hd, nodeOk, isRis, hfr, hr, hw, row_col, col_row]
                  | _ => exact hq2.elim
                · have hq2 := law_rising V (some (.own (st.map encP).reverse)) (some (.val (.int (many + 1)))) ("column" : Str) hxo [.tup ms, a, b] r c (some (.val (.int dep))) ss ms (-1) x8 hm1
                  have hb : (if (("column" : Str) == ("row" : Str)) = true then r else c) = c := by simp [col_row]
                  rw [hb] at hq2
                  generalize hfr : sForGo g__law_is_talk_0 b__law_is_talk_0 ms _ = fr at hq2
                  cases fr with
                  | nx w =>
                    obtain ⟨hr, y, z, rfl⟩ := hq2
                    simpa [t__law_is_talk_1, b__law_is_talk_1, jg, encP, hm, hp, hd, nodeOk, isRis, hfr, hr, hlen, hlen2, row_col, col_row] using ih _ (some (.val (.tup [.str "column", .tup ms, a, b]))) (some (.val (.int dep))) y z hst2 (by simp; omega)
                  | ret d w =>
                    obtain ⟨hr, rfl, hw⟩ := hq2
                    simp [t__law_is_talk_1, b__law_is_talk_1, jg, encP, hm, hp, hd, nodeOk, isRis, hfr, hr, hw, row_col, col_row]
                  | _ => exact hq2.elim
              | src => exact absurd rfl hm2
              | _ => simp [t__law_is_talk_1, b__law_is_talk_1, jg, encP, hm, hp, hd, nodeOk, hxo, hrc1, hrc2, isRis]
            · have hx : ¬ x = ("row" : Str) := fun z => hrc (.inl z)
              have hy : ¬ x = ("column" : Str) := fun z => hrc (.inr z)
              simp [t__law_is_talk_1, b__law_is_talk_1, jg, encP, hm, hp, hd, nodeOk, hxo, hx, hy, Ne.symm hx, Ne.symm hy]
          | tup l => simp at ho
          | lst l => simp at ho
          | src => simp [D.flat] at ho
          | _ => simp [t__law_is_talk_1, b__law_is_talk_1, jg, encP, hm, hp, hd, nodeOk]
      | src => simp [nd] at ht
      | _ => simp [t__law_is_talk_1, b__law_is_talk_1, jg, encP, hm, hp, hd, nodeOk]
theorem law_is_talk_eq (v : D) (r c : Int) (ss : SS) (h : nd v = true) : m__law_is_talk [v, .int r, .int c] ss = .ok (.bl (jg r c 20000 [(v, 0)])) ss := by
  have q := (law_is_talk_loop (some (.val v)) r c ss 20000 [(v, 0)] fuel 0 none none none none (by simp) (fun p hp => by cases hp with | head => exact h | tail _ hp => cases hp) (by simp) (by decide)).fin (k := sCons (sRet (mC (.bl true))) sNil) fun _ => by simp [RS.bind]
  simpa [m__law_is_talk, e__law_is_talk, sWhile, encP] using q
theorem law_says_eq (a b : Bool) (ss : SS) : m__law_says [.bl a, .bl b] ss = .ok (.bl (a == b)) ss := by
  simp [m__law_says, e__law_says]
theorem law_judged_eq (v : D) (r c : Int) (ss : SS) (h : nd v = true) : m__law_judged [v, .int r, .int c] ss = .ok (.bl true) ss := by
  simp [m__law_judged, e__law_judged, is_talk_eq v r c ss h, law_is_talk_eq v r c ss h, law_says_eq]
end K56

set_option Elab.async false
set_option linter.all false
set_option maxRecDepth 100000
set_option maxHeartbeats 4000000
namespace K56
open PySem PySem.Spec PyProof.Rows L2 TD
structure SsOk (ss : SS) : Prop where
  ne : ss.cells ≠ []
  nn : ∀ c ∈ ss.cells, (0 : Int) ≤ c
  l : 0 ≤ ss.left
  t : 0 ≤ ss.turn
theorem pow_18 : gPow (.int 10) (.int 18) = some (.int 1000000000000000000) := by rfl
theorem mulOk_r (i j : Int) (h : j.natAbs < 18446744073709551616) : mulOk i j = true := by
  unfold mulOk
  rw [decide_eq_true (show j.natAbs < 2 ^ 64 from h)]
  simp
theorem log2_lt (n : Nat) (h : n < 2 ^ 9000) : n.log2 < 9000 := by
  by_cases h0 : n = 0
  · subst h0; decide
  · exact (Nat.log2_lt h0).mpr h
theorem divOk_of (m : Int) (h : 0 < m) (h2 : m < 2 ^ 9000) : divOk m = true := by
  unfold divOk
  rw [decide_eq_true h, decide_eq_true (log2_lt m.natAbs (by omega))]
  rfl
theorem atI_cells {cells : List Int} {i : Int} (h : 0 ≤ i) (h2 : i < cells.length) : ∃ c, c ∈ cells ∧ atI (cells.map D.int) i = some (.int c) := by
  obtain ⟨n, rfl⟩ := Int.eq_ofNat_of_zero_le h
  have hn : n < cells.length := by omega
  refine ⟨cells[n], List.getElem_mem hn, atI_nat ?_⟩
  simp [hn]
def PickR (many : Int) : RF → Prop
  | .ok (.int r) ss' => 0 ≤ r ∧ r < many ∧ SsOk ss'
  | _ => False
theorem PickR_ok (many r : Int) (ss : SS) : PickR many (.ok (.int r) ss) = (0 ≤ r ∧ r < many ∧ SsOk ss) := rfl
theorem PickR.ex {many : Int} {x : RF} (h : PickR many x) : ∃ r ss', x = .ok (.int r) ss' ∧ 0 ≤ r ∧ r < many ∧ SsOk ss' := by
  match x, h with
  | .ok (.int r) ss', h => exact ⟨r, ss', rfl, h⟩
theorem pick_ok (ss : SS) (h : SsOk ss) (many : Int) (hm : 0 < many) (hb : many < 1000000) : PickR many (m__law_pick [.src, .int many] ss) := by
  obtain ⟨cells, left, turn⟩ := ss
  obtain ⟨ne, nn, hl, ht⟩ := h
  simp only at ne nn hl ht
  have hd : divOk many = true := divOk_of many hm (Int.lt_trans hb (by decide +kernel))
  have hpos : (0 : Int) < cells.length := by
    cases cells with
    | nil => exact absurd rfl ne
    | cons a l => simp only [List.length_cons]; omega
  have hposN : 0 < cells.length := by omega
  by_cases h1 : 0 < left
  · have h2 : 0 ≤ left / many := Int.ediv_nonneg hl (by omega)
    simp [m__law_pick, e__law_pick, mSrc, sSrc, h1, hm, hd, h2, PickR_ok]
    exact ⟨Int.emod_nonneg _ (by omega), Int.emod_lt_of_pos _ hm, ⟨ne, nn, h2, ht⟩⟩
  · obtain ⟨c, hc, hc2⟩ := atI_cells (cells := cells) (i := turn % cells.length) (Int.emod_nonneg _ (by omega)) (Int.emod_lt_of_pos _ hpos)
    have hc0 := nn c hc
    have ht1 : 0 ≤ turn + 1 := by omega
    have d5 : divOk 5 = true := by decide +kernel
    have mA : ∀ i : Int, mulOk i 48271 = true := fun i => mulOk_r i _ (by decide)
    have mB : ∀ i : Int, mulOk i 69621 = true := fun i => mulOk_r i _ (by decide)
    have mC : ∀ i : Int, mulOk i 7919 = true := fun i => mulOk_r i _ (by decide)
    have mD : ∀ i j : Int, mulOk i (j % 65537 + 3) = true := fun i j => mulOk_r i _ (by have := Int.emod_nonneg j (show (65537 : Int) ≠ 0 by decide); have := Int.emod_lt_of_pos j (show (0 : Int) < 65537 by decide); omega)
    by_cases h3 : 1000000000000000000 ≤ c
    · by_cases h4 : turn < cells.length
      · have h2 : 0 ≤ c / many := Int.ediv_nonneg hc0 (by omega)
        simp [m__law_pick, e__law_pick, mSrc, sSrc, h1, hm, hd, h2, ht1, hposN, hc2, pow_18, h3, h4, PickR_ok]
        exact ⟨Int.emod_nonneg _ (by omega), Int.emod_lt_of_pos _ hm, ⟨ne, nn, h2, ht1⟩⟩
      · simp [PickR_ok, m__law_pick, e__law_pick, mSrc, sSrc, h1, hm, hd, ht1, hposN, hc2, pow_18, h3, h4, d5, mA, mB, mC, mD]
        exact ⟨Int.emod_nonneg _ (by omega), Int.emod_lt_of_pos _ hm, ⟨ne, nn, hl, ht1⟩⟩
    · simp [PickR_ok, m__law_pick, e__law_pick, mSrc, sSrc, h1, hm, hd, ht1, hposN, hc2, pow_18, h3, d5, mA, mB, mC, mD]
      exact ⟨Int.emod_nonneg _ (by omega), Int.emod_lt_of_pos _ hm, ⟨ne, nn, hl, ht1⟩⟩
theorem rngD_nil {a b : Int} (h : b ≤ a) : rngD a b = [] := by
  unfold rngD
  rw [show (b - a).toNat = 0 by omega]
  rfl
theorem rngD_cons {a b : Int} (h : a < b) : rngD a b = .int a :: rngD (a + 1) b := by
  unfold rngD
  rw [show (b - a).toNat = (b - (a + 1)).toNat + 1 by omega, List.range_succ_eq_map, List.map_cons, List.map_map]
  congr 1
  · congr 1; simp
  · apply List.map_congr_left
    intro i _
    simp only [Function.comp]
    congr 1
    push_cast
    omega
@[simp] theorem okbl (w : W) (b : Bool) : (R.lift (D.bl b).b? w) = .ok b w := rfl
theorem members_go (L : Int) : ∀ (n : Nat) (a b : Int) (acc : List D) (ss : SS), b = a + n → 0 ≤ a → SsOk ss → acc.length + n < 1000000 →
    ∃ (ms : List Int) (ss' : SS), lcGo [2] (gsName 2) (TD.mB (mBin gEq (mCall 2 m__law_pick (mCons (mVar 0) (mCons (TD.mC (.int 2)) (mNil)))) (TD.mC (.int 0)))) (mVar 2) (rngD a b) acc ⟨[some (.val .src), some (.val (.int L)), none], ss⟩ = .ok (acc ++ ms.map .int) ⟨[some (.val .src), some (.val (.int L)), none], ss'⟩ ∧ SsOk ss' ∧ ms.length ≤ n ∧ ∀ last, last < a → rising (b - 1) last (ms.map .int) = true := by
  intro n
  induction n with
  | zero =>
    intro a b acc ss hb ha hs hl
    exact ⟨[], ss, by simp [rngD_nil (show b ≤ a by omega)], hs, by simp, fun _ _ => rfl⟩
  | succ n ih =>
    intro a b acc ss hb ha hs hl
    rw [rngD_cons (by omega), lcGo_cons]
    obtain ⟨r, ss1, e1, h1, h2, hs1⟩ := (pick_ok ss hs 2 (by decide) (by decide)).ex
    by_cases hr : r = 0
    · subst hr
      obtain ⟨ms, ss2, e2, hs2, hml, hr2⟩ := ih (a + 1) b (acc ++ [.int a]) ss1 (by omega) (by omega) hs1 (by simp; omega)
      refine ⟨a :: ms, ss2, ?_, hs2, by simp; exact hml, fun last hlast => ?_⟩
      · have hacc : acc.length < 1000000 := by omega
        simp [e1, hacc]
        simpa using e2
      · have := hr2 a (by omega)
        simp [rising, this]
        omega
    · obtain ⟨ms, ss2, e2, hs2, hml, hr2⟩ := ih (a + 1) b acc ss1 (by omega) (by omega) hs1 (by omega)
      refine ⟨ms, ss2, ?_, hs2, by omega, fun last hlast => hr2 last (by omega)⟩
      simp [e1, hr]
      simpa using e2
theorem members_ok (ss : SS) (hs : SsOk ss) (L : Int) (h0 : 0 ≤ L) (h1 : L < 1000) : ∃ (ms : List Int) (ss' : SS), m__law_members [.src, .int L] ss = .ok (.tup (ms.map .int)) ss' ∧ SsOk ss' ∧ ms.length ≤ L.toNat ∧ rising (L - 1) (-1) (ms.map .int) = true := by
  obtain ⟨ms, ss', e, hs', hl, hr⟩ := members_go L L.toNat 0 L [] ss (by omega) (by decide) hs (by simp; omega)
  refine ⟨ms, ss', ?_, hs', hl, hr (-1) (by decide)⟩
  have h2 : L < 4611686018427387904 := by omega
  have h3 : -4611686018427387904 ≤ L := by omega
  simp [m__law_members, e__law_members, h2, h3]
  simp at e
  rw [e]
  simp
end K56

set_option Elab.async false
set_option linter.all false
set_option maxRecDepth 100000
set_option maxHeartbeats 4000000
namespace K56
open PySem PySem.Spec PyProof.Rows L2 TD
inductive Tk where
  | leaf (v : Int)
  | node (row : Bool) (ms : List Int) (a b : Tk)
def sideS (s : Bool) : Str := if s = true then "row" else "column"
def encT : Tk → D
  | .leaf v => .tup [.str "tell", .int v]
  | .node s ms a b => .tup [.str (sideS s), .tup (ms.map .int), encT a, encT b]
def vT (r c many : Int) : Tk → Prop
  | .leaf v => 0 ≤ v ∧ v < many
  | .node s ms a b => ms.length ≤ 1000 ∧ rising ((if s = true then r else c) - 1) (-1) (ms.map .int) = true ∧ vT r c many a ∧ vT r c many b
def hgt : Tk → Nat
  | .leaf _ => 0
  | .node _ _ a b => max (hgt a) (hgt b) + 1
def siz : Tk → Nat
  | .leaf _ => 1
  | .node _ _ a b => siz a + siz b + 1
def lvs : Tk → Nat
  | .leaf _ => 1
  | .node _ _ a b => lvs a + lvs b
theorem siz_hgt : ∀ t : Tk, siz t + 1 ≤ 2 ^ (hgt t + 1)
  | .leaf _ => by simp [siz, hgt]
  | .node _ _ a b => by
    have h1 := siz_hgt a
    have h2 := siz_hgt b
    have h3 : 2 ^ (hgt a + 1) ≤ 2 ^ (max (hgt a) (hgt b) + 1) := Nat.pow_le_pow_right (by decide) (by omega)
    have h4 : 2 ^ (hgt b + 1) ≤ 2 ^ (max (hgt a) (hgt b) + 1) := Nat.pow_le_pow_right (by decide) (by omega)
    simp only [siz, hgt]
    rw [Nat.pow_succ 2 (max (hgt a) (hgt b) + 1)]
    omega
theorem siz_lvs : ∀ t : Tk, siz t + 1 = 2 * lvs t
  | .leaf _ => by simp [siz, lvs]
  | .node _ _ a b => by
    have h1 := siz_lvs a
    have h2 := siz_lvs b
    simp only [siz, lvs]
    omega
theorem talk_ok (r c many : Int) (hr : 0 ≤ r ∧ r < 1000) (hc : 0 ≤ c ∧ c < 1000) (hm : 0 < many ∧ many ≤ 100) : ∀ (n : Nat) (d : Int) (ss : SS), 0 ≤ d → d < n → SsOk ss →
    ∃ (t : Tk) (ss' : SS), m__law_talk n [.src, .int r, .int c, .int d, .int many] ss = .ok (encT t) ss' ∧ SsOk ss' ∧ vT r c many t ∧ hgt t ≤ d.toNat := by
  intro n
  induction n with
  | zero => intro d ss h0 h1 _; omega
  | succ n ih =>
    intro d ss h0 h1 hs
    by_cases hd : d = 0
    · subst hd
      obtain ⟨v, ss1, e1, q1, q2, hs1⟩ := (pick_ok ss hs many hm.1 (by omega)).ex
      exact ⟨.leaf v, ss1, by simp [m__law_talk, e__law_talk, e1, encT], hs1, ⟨q1, q2⟩, by simp [hgt]⟩
    · obtain ⟨p, ss1, e1, p1, p2, hs1⟩ := (pick_ok ss hs 4 (by decide) (by decide)).ex
      by_cases hp : p = 0
      · subst hp
        obtain ⟨v, ss2, e2, q1, q2, hs2⟩ := (pick_ok ss1 hs1 many hm.1 (by omega)).ex
        exact ⟨.leaf v, ss2, by simp [m__law_talk, e__law_talk, hd, e1, e2, encT], hs2, ⟨q1, q2⟩, by simp [hgt]⟩
      · obtain ⟨side, ss2, e2, q1, q2, hs2⟩ := (pick_ok ss1 hs1 2 (by decide) (by decide)).ex
        have hside : side = 0 ∨ side = 1 := by omega
        rcases hside with rfl | rfl
        · obtain ⟨ms, ss3, e3, hs3, hml, hms⟩ := members_ok ss2 hs2 r hr.1 hr.2
          obtain ⟨ty, ss4, e4, hs4, v4, g4⟩ := ih (d - 1) ss3 (by omega) (by omega) hs3
          obtain ⟨tn, ss5, e5, hs5, v5, g5⟩ := ih (d - 1) ss4 (by omega) (by omega) hs4
          refine ⟨.node true ms ty tn, ss5, by simp [m__law_talk, e__law_talk, hd, hp, e1, e2, e3, e4, e5, encT, sideS], hs5, ⟨by omega, by simpa using hms, v4, v5⟩, ?_⟩
          simp only [hgt]; omega
        · obtain ⟨ms, ss3, e3, hs3, hml, hms⟩ := members_ok ss2 hs2 c hc.1 hc.2
          obtain ⟨ty, ss4, e4, hs4, v4, g4⟩ := ih (d - 1) ss3 (by omega) (by omega) hs3
          obtain ⟨tn, ss5, e5, hs5, v5, g5⟩ := ih (d - 1) ss4 (by omega) (by omega) hs4
          refine ⟨.node false ms ty tn, ss5, by simp [m__law_talk, e__law_talk, hd, hp, e1, e2, e3, e4, e5, encT, sideS], hs5, ⟨by omega, by simpa using hms, v4, v5⟩, ?_⟩
          simp only [hgt]; omega
structure Wr where
  s : Bool
  ms : List Int
  lf : Int
  first : Bool
def wrapD (d : D) (w : Wr) : D := .tup [.str (sideS w.s), .tup (w.ms.map .int), if w.first = true then d else .tup [.str "tell", .int w.lf], if w.first = true then .tup [.str "tell", .int w.lf] else d]
def wrapT (t : Tk) (w : Wr) : Tk := .node w.s w.ms (if w.first = true then t else .leaf w.lf) (if w.first = true then .leaf w.lf else t)
def vW (r c many : Int) (w : Wr) : Prop := w.ms.length ≤ 1000 ∧ rising ((if w.s = true then r else c) - 1) (-1) (w.ms.map .int) = true ∧ 0 ≤ w.lf ∧ w.lf < many
theorem enc_wrap (t : Tk) (w : Wr) : encT (wrapT t w) = wrapD (encT t) w := by
  unfold wrapT wrapD
  cases w.first <;> simp [encT]
theorem enc_wraps : ∀ (ws : List Wr) (t : Tk), encT (ws.foldl wrapT t) = ws.foldl wrapD (encT t)
  | [], t => rfl
  | w :: ws, t => by rw [List.foldl_cons, List.foldl_cons, enc_wraps ws, enc_wrap]
theorem chain_go (r c many : Int) (D0 : Option TD.Slot) (hr : 0 ≤ r ∧ r < 1000) (hc : 0 ≤ c ∧ c < 1000) (hm : 0 < many ∧ many ≤ 100) : ∀ (n : Nat) (a b : Int) (v : D) (ss : SS) (x6 x7 x8 x9 : Option TD.Slot), b = a + n → 0 ≤ a → SsOk ss →
    ∃ (ws : List Wr) (ss' : SS) (y6 y7 y8 y9 : Option TD.Slot), sForGo g__law_chain_0 b__law_chain_0 (rngD a b) ⟨[some (.val .src), some (.val (.int r)), some (.val (.int c)), D0, some (.val v), some (.val (.int many)), x6, x7, x8, x9], ss⟩
      = .nx ⟨[some (.val .src), some (.val (.int r)), some (.val (.int c)), D0, some (.val (ws.foldl wrapD v)), some (.val (.int many)), y6, y7, y8, y9], ss'⟩ ∧ SsOk ss' ∧ ws.length = n ∧ ∀ w ∈ ws, vW r c many w := by
  intro n
  induction n with
  | zero =>
    intro a b v ss x6 x7 x8 x9 hb ha hs
    exact ⟨[], ss, x6, x7, x8, x9, by simp [rngD_nil (show b ≤ a by omega)], hs, rfl, fun w h => nomatch h⟩
  | succ n ih =>
    intro a b v ss x6 x7 x8 x9 hb ha hs
    rw [rngD_cons (by omega), sForGo_cons]
    obtain ⟨side, ss1, e1, q1, q2, hs1⟩ := (pick_ok ss hs 2 (by decide) (by decide)).ex
    have hside : side = 0 ∨ side = 1 := by omega
    have key : ∃ (ms : List Int) (ss2 : SS), m__law_members [.src, .int (if side = 1 then c else r)] ss1 = .ok (.tup (ms.map .int)) ss2 ∧ SsOk ss2 ∧ ms.length ≤ 1000 ∧ rising ((if decide (side = 0) = true then r else c) - 1) (-1) (ms.map .int) = true := by
      rcases hside with rfl | rfl
      · obtain ⟨ms, ss2, e2, hs2, hml, hms⟩ := members_ok ss1 hs1 r hr.1 hr.2
        exact ⟨ms, ss2, by simpa using e2, hs2, by omega, by simpa using hms⟩
      · obtain ⟨ms, ss2, e2, hs2, hml, hms⟩ := members_ok ss1 hs1 c hc.1 hc.2
        exact ⟨ms, ss2, by simpa using e2, hs2, by omega, by simpa using hms⟩
    obtain ⟨ms, ss2, e2, hs2, hml, hms⟩ := key
    obtain ⟨lf, ss3, e3, l1, l2, hs3⟩ := (pick_ok ss2 hs2 many hm.1 (by omega)).ex
    obtain ⟨f, ss4, e4, f1, f2, hs4⟩ := (pick_ok ss3 hs3 2 (by decide) (by decide)).ex
    obtain ⟨ws, ss5, y6, y7, y8, y9, e5, hs5, hl, hw⟩ := ih (a + 1) b (wrapD v ⟨decide (side = 0), ms, lf, decide (f = 0)⟩) ss4 (some (.val (.int a))) (some (.val (.int side))) (some (.val (.tup (ms.map .int)))) (some (.val (.tup [.str "tell", .int lf]))) (by omega) (by omega) hs4
    refine ⟨⟨decide (side = 0), ms, lf, decide (f = 0)⟩ :: ws, ss5, y6, y7, y8, y9, ?_, hs5, by simp [hl], fun w h => ?_⟩
    · rw [List.foldl_cons, ← e5]
      generalize sForGo g__law_chain_0 b__law_chain_0 (rngD (a + 1) b) = kk
      have hside2 : side = 0 ∨ side = 1 := by omega
      rcases hside2 with rfl | rfl <;> by_cases hf : f = 0 <;> simp at e2 <;> simp [g__law_chain_0, b__law_chain_0, e1, e2, e3, e4, hf, wrapD, sideS]
    · cases h with
      | head => exact ⟨hml, hms, l1, l2⟩
      | tail _ h => exact hw w h
theorem chain_ok (r c many : Int) (hr : 0 ≤ r ∧ r < 1000) (hc : 0 ≤ c ∧ c < 1000) (hm : 0 < many ∧ many ≤ 100) (d : Int) (h0 : 0 ≤ d) (h1 : d < 1000) (v : D) (ss : SS) (hs : SsOk ss) :
    ∃ (ws : List Wr) (ss' : SS), m__law_chain [.src, .int r, .int c, .int d, v, .int many] ss = .ok (ws.foldl wrapD v) ss' ∧ SsOk ss' ∧ ws.length = d.toNat ∧ ∀ w ∈ ws, vW r c many w := by
  obtain ⟨ws, ss', y6, y7, y8, y9, e, hs', hl, hw⟩ := chain_go r c many (some (.val (.int d))) hr hc hm d.toNat 0 d v ss none none none none (by omega) (by decide) hs
  refine ⟨ws, ss', ?_, hs', hl, hw⟩
  have h2 : d < 4611686018427387904 := by omega
  have h3 : -4611686018427387904 ≤ d := by omega
  simp [m__law_chain, e__law_chain, h2, h3, e]
end K56

set_option Elab.async false
set_option linter.all false
set_option maxRecDepth 100000
set_option maxHeartbeats 4000000
namespace K56
open PySem PySem.Spec PyProof.Rows L2 TD
theorem nds_ints : ∀ ms : List Int, nds (ms.map .int) = true
  | [] => rfl
  | m :: ms => by simp [nds, nd, nds_ints ms]
theorem hd_ints (ms : List Int) : hdOk (ms.map .int) = true := by
  match ms with
  | [] => rfl
  | [_] => rfl
  | [_, _] => simp [hdOk]
  | [_, _, _] => rfl
  | [_, _, _, _] => simp [hdOk]
  | _ :: _ :: _ :: _ :: _ :: _ => rfl
theorem nd_ints (ms : List Int) : nd (.tup (ms.map .int)) = true := by simp [nd, nds_ints, hd_ints]
@[simp] theorem ok_side (s : Bool) : PyData.strOk (sideS s) = true := by cases s <;> simp [sideS]
theorem nd_enc : ∀ t : Tk, nd (encT t) = true
  | .leaf v => by simp [encT, nd, nds, hdOk]
  | .node s ms a b => by
    have h1 := nd_enc a
    have h2 := nd_enc b
    have h3 := nd_ints ms
    simp [encT, nd, nds, hdOk] at h3 ⊢
    simp [h1, h2, h3]
theorem nd_wrap (d : D) (w : Wr) (h : nd d = true) : nd (wrapD d w) = true := by
  have h3 := nd_ints w.ms
  simp [nd] at h3
  unfold wrapD
  cases w.first <;> simp [nd, nds, hdOk, h, h3] <;> exact h3.1
theorem nd_wraps : ∀ (ws : List Wr) (d : D), nd d = true → nd (ws.foldl wrapD d) = true
  | [], d, h => h
  | w :: ws, d, h => by rw [List.foldl_cons]; exact nd_wraps ws _ (nd_wrap d w h)
theorem vT_wraps (r c many : Int) : ∀ (ws : List Wr) (t : Tk), vT r c many t → (∀ w ∈ ws, vW r c many w) → vT r c many (ws.foldl wrapT t)
  | [], t, h, _ => h
  | w :: ws, t, h, hw => by
    rw [List.foldl_cons]
    refine vT_wraps r c many ws _ ?_ fun u hu => hw u (List.mem_cons_of_mem _ hu)
    obtain ⟨h1, h2, h3, h4⟩ := hw w (List.mem_cons_self ..)
    refine ⟨h1, h2, ?_, ?_⟩ <;> cases w.first <;> first | exact h | exact ⟨h3, h4⟩
theorem hgt_wraps : ∀ (ws : List Wr) (t : Tk), hgt (ws.foldl wrapT t) = hgt t + ws.length
  | [], t => rfl
  | w :: ws, t => by
    rw [List.foldl_cons, hgt_wraps ws]
    have : hgt (wrapT t w) = hgt t + 1 := by
      unfold wrapT
      cases w.first <;> simp [hgt]
    rw [this, List.length_cons]; omega
theorem siz_wraps : ∀ (ws : List Wr) (t : Tk), siz (ws.foldl wrapT t) = siz t + 2 * ws.length
  | [], t => rfl
  | w :: ws, t => by
    rw [List.foldl_cons, siz_wraps ws]
    have : siz (wrapT t w) = siz t + 2 := by
      unfold wrapT
      cases w.first <;> simp [siz] <;> omega
    rw [this, List.length_cons]; omega
/-! ### the judge on a talk -/
theorem nodeOk_leaf (r c v : Int) (h : 0 ≤ v ∧ v < 100) : nodeOk r c (encT (.leaf v)) = some none := by
  have h2 : v ≤ 99 := by omega
  simp [encT, nodeOk, isCnt, h.1, h2]
theorem nodeOk_node (r c : Int) (s : Bool) (ms : List Int) (a b : Tk) (h : rising ((if s = true then r else c) - 1) (-1) (ms.map .int) = true) : nodeOk r c (encT (.node s ms a b)) = some (some (encT a, encT b)) := by
  cases s <;> simp [encT, nodeOk, sideS, isRis, col_row] <;> simpa using h
theorem jg_yes (r c many : Int) (hm : many ≤ 100) : ∀ (t : Tk) (k : Nat) (dep : Int) (st : List (D × Int)), vT r c many t → dep + hgt t ≤ 60 → siz t ≤ k → jg r c k ((encT t, dep) :: st) = jg r c (k - siz t) st
  | .leaf v, k, dep, st, hv, hd, hk => by
    obtain ⟨k, rfl⟩ : ∃ j, k = j + 1 := ⟨k - 1, by simp [siz] at hk; omega⟩
    have h1 : ¬ 60 < dep := by simp [hgt] at hd; omega
    obtain ⟨v1, v2⟩ := hv
    simp [jg, h1, nodeOk_leaf r c v ⟨v1, by omega⟩, siz]
  | .node s ms a b, k, dep, st, hv, hd, hk => by
    simp only [siz, hgt] at hk hd
    obtain ⟨k, rfl⟩ : ∃ j, k = j + 1 := ⟨k - 1, by omega⟩
    have h1 : ¬ 60 < dep := by omega
    obtain ⟨_, v1, v2, v3⟩ := hv
    have e1 := jg_yes r c many hm b k (dep + 1) ((encT a, dep + 1) :: st) v3 (by omega) (by omega)
    have e2 := jg_yes r c many hm a (k - siz b) (dep + 1) st v2 (by omega) (by omega)
    simp only [jg, h1, nodeOk_node r c s ms a b v1, if_false, e1, e2, siz]
    congr 1
    omega
theorem jg_no (r c many : Int) (hm : many ≤ 100) : ∀ (t : Tk) (k : Nat) (dep : Int) (st : List (D × Int)), vT r c many t → (60 < dep + hgt t ∨ k < siz t) → jg r c k ((encT t, dep) :: st) = false
  | .leaf v, 0, dep, st, hv, hd => rfl
  | .leaf v, k + 1, dep, st, hv, hd => by
    have h1 : 60 < dep := by simp [siz, hgt] at hd; exact hd
    simp [jg, h1]
  | .node s ms a b, 0, dep, st, hv, hd => rfl
  | .node s ms a b, k + 1, dep, st, hv, hd => by
    simp only [siz, hgt] at hd
    by_cases h1 : 60 < dep
    · simp [jg, h1]
    obtain ⟨_, v1, v2, v3⟩ := hv
    simp only [jg, h1, nodeOk_node r c s ms a b v1, if_false]
    by_cases hb : dep + 1 + hgt b ≤ 60 ∧ siz b ≤ k
    · rw [jg_yes r c many hm b k (dep + 1) _ v3 hb.1 hb.2]
      exact jg_no r c many hm a (k - siz b) (dep + 1) st v2 (by omega)
    · exact jg_no r c many hm b k (dep + 1) _ v3 (by omega)
end K56

set_option Elab.async false
set_option linter.all false
set_option maxRecDepth 100000
set_option maxHeartbeats 4000000
namespace K56
open PySem PySem.Spec PyProof.Rows L2 TD
theorem siz_pos (t : Tk) : 1 ≤ siz t := by cases t <;> simp [siz]
def szs {α : Type} (f : α → Tk) : List α → Nat
  | [] => 0
  | t :: st => siz (f t) + szs f st
theorem len_szs {α : Type} (f : α → Tk) : ∀ st : List α, st.length ≤ szs f st
  | [] => Nat.le_refl _
  | t :: st => by
    have := len_szs f st
    have := siz_pos (f t)
    simp only [List.length_cons, szs]
    omega
theorem side_tell (s : Bool) : (sideS s == ("tell" : Str)) = false := by cases s <;> decide +kernel
theorem side_tell' (s : Bool) : sideS s ≠ ("tell" : Str) := by
  have := side_tell s
  intro h; rw [h] at this; simp at this
def lvss : List Tk → Nat
  | [] => 0
  | t :: st => lvs t + lvss st
theorem leaves_loop (V : Option TD.Slot) (ss : SS) : ∀ (n : Nat) (st : List Tk) (m : Int) (x : Option TD.Slot), szs id st < n → szs id st ≤ 100000 →
    ∃ y, sWhGo t_leaves_of_0 b_leaves_of_0 n ⟨[V, some (.val (.int m)), some (.own (st.map encT).reverse), x], ss⟩ = .nx ⟨[V, some (.val (.int (m + lvss st))), some (.own []), y], ss⟩ := by
  intro n
  induction n with
  | zero => intro st m x h; omega
  | succ n ih =>
    intro st m x h hl
    rw [sWhGo_succ]
    cases st with
    | nil => exact ⟨x, by simp [t_leaves_of_0, lvss]⟩
    | cons t st =>
      simp only [szs, id] at h hl
      have hlen := len_szs id st
      cases t with
      | leaf v =>
        simp only [siz] at h hl
        obtain ⟨y, e⟩ := ih st (m + 1) (some (.val (encT (.leaf v)))) (by omega) (by omega)
        refine ⟨y, ?_⟩
        simp only [lvss, lvs]
        rw [show m + ((1 + lvss st : Nat) : Int) = m + 1 + (lvss st : Int) by omega, ← e]
        generalize sWhGo t_leaves_of_0 b_leaves_of_0 n = kk
        simp [t_leaves_of_0, b_leaves_of_0, encT]
      | node s ms a b =>
        simp only [siz] at h hl
        obtain ⟨y, e⟩ := ih (b :: a :: st) m (some (.val (encT (.node s ms a b)))) (by simp only [szs, id]; omega) (by simp only [szs, id]; omega)
        refine ⟨y, ?_⟩
        simp only [lvss, lvs] at e ⊢
        rw [show m + ((lvs a + lvs b + lvss st : Nat) : Int) = m + ((lvs b + (lvs a + lvss st) : Nat) : Int) by omega, ← e]
        generalize sWhGo t_leaves_of_0 b_leaves_of_0 n = kk
        have h1 : st.length < 1000000 := by omega
        have h2 : st.length + 1 < 1000000 := by omega
        simp [t_leaves_of_0, b_leaves_of_0, encT, h1, h2, side_tell']
theorem leaves_eq (t : Tk) (h : siz t ≤ 100000) (ss : SS) : m_leaves_of [encT t] ss = .ok (.int (lvs t)) ss := by
  obtain ⟨y, e⟩ := leaves_loop (some (.val (encT t))) ss fuel [t] 0 none (by simp only [szs, id]; unfold fuel; omega) (by simp only [szs, id]; omega)
  simp [m_leaves_of, e_leaves_of, sWhile]
  simp [lvss] at e
  simp [e]
/-! ### depth_of -/
def dmx : Int → List (Tk × Int) → Int
  | m, [] => m
  | m, p :: st => dmx (if p.2 + hgt p.1 > m then p.2 + hgt p.1 else m) st
def encTP (p : Tk × Int) : D := .tup [encT p.1, .int p.2]
theorem depth_loop (V : Option TD.Slot) (ss : SS) : ∀ (n : Nat) (st : List (Tk × Int)) (m : Int) (x y : Option TD.Slot), szs Prod.fst st < n → szs Prod.fst st ≤ 100000 →
    ∃ x' y', sWhGo t_depth_of_0 b_depth_of_0 n ⟨[V, some (.val (.int m)), some (.own (st.map encTP).reverse), x, y], ss⟩ = .nx ⟨[V, some (.val (.int (dmx m st))), some (.own []), x', y'], ss⟩ := by
  intro n
  induction n with
  | zero => intro st m x y h; omega
  | succ n ih =>
    intro st m x y h hl
    rw [sWhGo_succ]
    cases st with
    | nil => exact ⟨x, y, by simp [t_depth_of_0, dmx]⟩
    | cons p st =>
      obtain ⟨t, d⟩ := p
      simp only [szs] at h hl
      have hlen := len_szs Prod.fst st
      cases t with
      | leaf v =>
        simp only [siz] at h hl
        obtain ⟨x', y', e⟩ := ih st (if d > m then d else m) (some (.val (encT (.leaf v)))) (some (.val (.int d))) (by omega) (by omega)
        refine ⟨x', y', ?_⟩
        have : dmx m ((.leaf v, d) :: st) = dmx (if d > m then d else m) st := by simp [dmx, hgt]
        rw [this, ← e]
        generalize sWhGo t_depth_of_0 b_depth_of_0 n = kk
        simp [t_depth_of_0, b_depth_of_0, encT, encTP]
      | node s ms a b =>
        simp only [siz] at h hl
        obtain ⟨x', y', e⟩ := ih ((b, d + 1) :: (a, d + 1) :: st) (if d > m then d else m) (some (.val (encT (.node s ms a b)))) (some (.val (.int d))) (by simp only [szs]; omega) (by simp only [szs]; omega)
        refine ⟨x', y', ?_⟩
        have : dmx m ((.node s ms a b, d) :: st) = dmx (if d > m then d else m) ((b, d + 1) :: (a, d + 1) :: st) := by
          simp only [dmx, hgt]
          congr 1
          (repeat' split) <;> omega
        rw [this, ← e]
        generalize sWhGo t_depth_of_0 b_depth_of_0 n = kk
        have h1 : st.length < 1000000 := by omega
        have h2 : st.length + 1 < 1000000 := by omega
        simp [t_depth_of_0, b_depth_of_0, encT, encTP, h1, h2, side_tell']
theorem depth_eq (t : Tk) (h : siz t ≤ 100000) (ss : SS) : m_depth_of [encT t] ss = .ok (.int (hgt t)) ss := by
  obtain ⟨x, y, e⟩ := depth_loop (some (.val (encT t))) ss fuel [(t, 0)] 0 none none (by simp only [szs]; unfold fuel; omega) (by simp only [szs]; omega)
  simp [m_depth_of, e_depth_of, sWhile]
  have : dmx 0 [(t, 0)] = hgt t := by simp only [dmx]; split <;> omega
  rw [this] at e
  simp [encTP] at e
  simp [e]
end K56

set_option Elab.async false
set_option linter.all false
set_option maxRecDepth 100000
set_option maxHeartbeats 4000000
namespace K56
open PySem PySem.Spec PyProof.Rows L2 TD
/-! ### rounds_of -/
def stp (x p : Str) : Nat := if (x == p) = true then 0 else 1
def rnd : Tk → Str → Nat
  | .leaf _, _ => 0
  | .node s _ a b, p => stp (sideS s) p + max (rnd a (sideS s)) (rnd b (sideS s))
structure R3 where
  t : Tk
  p : Str
  r : Int
def rmx : Int → List R3 → Int
  | m, [] => m
  | m, q :: st => rmx (if q.r + rnd q.t q.p > m then q.r + rnd q.t q.p else m) st
def encR (q : R3) : D := .tup [encT q.t, .str q.p, .int q.r]
theorem rounds_loop (V : Option TD.Slot) (ss : SS) : ∀ (n : Nat) (st : List R3) (m : Int) (x y z u : Option TD.Slot), szs R3.t st < n → szs R3.t st ≤ 100000 → (∀ q ∈ st, PyData.strOk q.p = true) →
    ∃ x' y' z' u', sWhGo t_rounds_of_0 b_rounds_of_0 n ⟨[V, some (.val (.int m)), some (.own (st.map encR).reverse), x, y, z, u], ss⟩ = .nx ⟨[V, some (.val (.int (rmx m st))), some (.own []), x', y', z', u'], ss⟩ := by
  intro n
  induction n with
  | zero => intro st m x y z u h; omega
  | succ n ih =>
    intro st m x y z u h hl hs
    rw [sWhGo_succ]
    cases st with
    | nil => exact ⟨x, y, z, u, by simp [t_rounds_of_0, rmx]⟩
    | cons q st =>
      obtain ⟨t, p, r⟩ := q
      simp only [szs] at h hl
      have hlen := len_szs R3.t st
      have hp : PyData.strOk p = true := hs _ (List.mem_cons_self ..)
      have hst : ∀ q ∈ st, PyData.strOk q.p = true := fun q hq => hs q (List.mem_cons_of_mem _ hq)
      cases t with
      | leaf v =>
        simp only [siz] at h hl
        obtain ⟨x', y', z', u', e⟩ := ih st (if r > m then r else m) (some (.val (encT (.leaf v)))) (some (.val (.str p))) (some (.val (.int r))) u (by omega) (by omega) hst
        refine ⟨x', y', z', u', ?_⟩
        have : rmx m (⟨.leaf v, p, r⟩ :: st) = rmx (if r > m then r else m) st := by simp [rmx, rnd]
        rw [this, ← e]
        generalize sWhGo t_rounds_of_0 b_rounds_of_0 n = kk
        simp [t_rounds_of_0, b_rounds_of_0, encT, encR]
      | node s ms a b =>
        simp only [siz] at h hl
        have hst2 : ∀ q ∈ (⟨b, sideS s, r + stp (sideS s) p⟩ : R3) :: ⟨a, sideS s, r + stp (sideS s) p⟩ :: st, PyData.strOk q.p = true := by
          intro q hq
          cases hq with
          | head => exact ok_side s
          | tail _ hq =>
            cases hq with
            | head => exact ok_side s
            | tail _ hq => exact hst q hq
        obtain ⟨x', y', z', u', e⟩ := ih (⟨b, sideS s, r + stp (sideS s) p⟩ :: ⟨a, sideS s, r + stp (sideS s) p⟩ :: st) (if r > m then r else m) (some (.val (encT (.node s ms a b)))) (some (.val (.str p))) (some (.val (.int r))) (some (.val (.int (r + stp (sideS s) p)))) (by simp only [szs]; omega) (by simp only [szs]; omega) hst2
        refine ⟨x', y', z', u', ?_⟩
        have : rmx m (⟨.node s ms a b, p, r⟩ :: st) = rmx (if r > m then r else m) (⟨b, sideS s, r + stp (sideS s) p⟩ :: ⟨a, sideS s, r + stp (sideS s) p⟩ :: st) := by
          simp only [rmx, rnd]
          congr 1
          (repeat' split) <;> omega
        rw [this, ← e]
        generalize sWhGo t_rounds_of_0 b_rounds_of_0 n = kk
        have h1 : st.length < 1000000 := by omega
        have h2 : st.length + 1 < 1000000 := by omega
        by_cases hq : sideS s = p
        · subst hq
          simp [t_rounds_of_0, b_rounds_of_0, encT, encR, h1, h2, side_tell', stp]
        · simp [t_rounds_of_0, b_rounds_of_0, encT, encR, h1, h2, side_tell', stp, hq, hp]
@[simp] theorem ok_empty : PyData.strOk ("" : Str) = true := by decide +kernel
theorem rounds_eq (t : Tk) (h : siz t ≤ 100000) (ss : SS) : m_rounds_of [encT t] ss = .ok (.int (rnd t "")) ss := by
  obtain ⟨x, y, z, u, e⟩ := rounds_loop (some (.val (encT t))) ss fuel [⟨t, "", 0⟩] 0 none none none none (by simp only [szs]; unfold fuel; omega) (by simp only [szs]; omega) (fun q hq => by cases hq with | head => exact ok_empty | tail _ hq => cases hq)
  simp [m_rounds_of, e_rounds_of, sWhile]
  have : rmx 0 [⟨t, "", 0⟩] = rnd t "" := by simp only [rmx]; split <;> omega
  rw [this] at e
  simp [encR] at e
  simp [e]
/-! ### the ways -/
def wys : Tk → List (List Str)
  | .leaf _ => [[]]
  | .node s _ a b => (wys b).map (sideS s :: ·) ++ (wys a).map (sideS s :: ·)
theorem wys_len : ∀ t : Tk, (wys t).length = lvs t
  | .leaf _ => rfl
  | .node s _ a b => by simp [wys, wys_len a, wys_len b, lvs]; omega
theorem wys_hgt : ∀ (t : Tk), ∀ u ∈ wys t, u.length ≤ hgt t
  | .leaf _, u, h => by simp [wys] at h; simp [h, hgt]
  | .node s _ a b, u, h => by
    simp only [wys, List.mem_append, List.mem_map] at h
    simp only [hgt]
    rcases h with ⟨v, hv, rfl⟩ | ⟨v, hv, rfl⟩
    · have := wys_hgt b v hv; simp only [List.length_cons]; omega
    · have := wys_hgt a v hv; simp only [List.length_cons]; omega
theorem wys_hgt_ex : ∀ (t : Tk), ∃ u ∈ wys t, u.length = hgt t
  | .leaf _ => ⟨[], by simp [wys], rfl⟩
  | .node s _ a b => by
    obtain ⟨u, hu, eu⟩ := wys_hgt_ex a
    obtain ⟨v, hv, ev⟩ := wys_hgt_ex b
    by_cases h : hgt a ≤ hgt b
    · exact ⟨sideS s :: v, by simp [wys, hv], by simp only [List.length_cons, hgt]; omega⟩
    · exact ⟨sideS s :: u, by simp [wys, hu], by simp only [List.length_cons, hgt]; omega⟩
def strl : Str → List Str → Nat
  | _, [] => 0
  | p, x :: xs => stp x p + strl x xs
theorem wys_rnd : ∀ (t : Tk) (p : Str), ∀ u ∈ wys t, strl p u ≤ rnd t p
  | .leaf _, p, u, h => by simp [wys] at h; simp [h, rnd, strl]
  | .node s _ a b, p, u, h => by
    simp only [wys, List.mem_append, List.mem_map] at h
    simp only [rnd]
    rcases h with ⟨v, hv, rfl⟩ | ⟨v, hv, rfl⟩
    · have := wys_rnd b (sideS s) v hv; simp only [strl]; omega
    · have := wys_rnd a (sideS s) v hv; simp only [strl]; omega
theorem wys_rnd_ex : ∀ (t : Tk) (p : Str), ∃ u ∈ wys t, strl p u = rnd t p
  | .leaf _, p => ⟨[], by simp [wys], rfl⟩
  | .node s _ a b, p => by
    obtain ⟨u, hu, eu⟩ := wys_rnd_ex a (sideS s)
    obtain ⟨v, hv, ev⟩ := wys_rnd_ex b (sideS s)
    by_cases h : rnd a (sideS s) ≤ rnd b (sideS s)
    · exact ⟨sideS s :: v, by simp [wys, hv], by simp only [strl, rnd]; omega⟩
    · exact ⟨sideS s :: u, by simp [wys, hu], by simp only [strl, rnd]; omega⟩
theorem wys_sides : ∀ (t : Tk), ∀ u ∈ wys t, ∀ x ∈ u, ∃ s, x = sideS s
  | .leaf _, u, h => by simp [wys] at h; simp [h]
  | .node s _ a b, u, h => by
    simp only [wys, List.mem_append, List.mem_map] at h
    rcases h with ⟨v, hv, rfl⟩ | ⟨v, hv, rfl⟩
    · intro x hx
      cases hx with
      | head => exact ⟨s, rfl⟩
      | tail _ hx => exact wys_sides b v hv x hx
    · intro x hx
      cases hx with
      | head => exact ⟨s, rfl⟩
      | tail _ hx => exact wys_sides a v hv x hx
def encW (u : List Str) : D := .tup (u.map .str)
def encS (p : Tk × List Str) : D := .tup [encT p.1, encW p.2]
def told : List (Tk × List Str) → List D
  | [] => []
  | p :: st => (wys p.1).map (fun u => encW (p.2 ++ u)) ++ told st
theorem ways_loop (V : Option TD.Slot) (ss : SS) : ∀ (n : Nat) (st : List (Tk × List Str)) (acc : List D) (x y : Option TD.Slot), szs Prod.fst st < n → acc.length + szs Prod.fst st ≤ 100000 → (∀ p ∈ st, p.2.length + hgt p.1 ≤ 1000) →
    ∃ x' y', sWhGo t__law_ways_0 b__law_ways_0 n ⟨[V, some (.own acc), some (.own (st.map encS).reverse), x, y], ss⟩ = .nx ⟨[V, some (.own (acc ++ told st)), some (.own []), x', y'], ss⟩ := by
  intro n
  induction n with
  | zero => intro st acc x y h; omega
  | succ n ih =>
    intro st acc x y h hl hd
    rw [sWhGo_succ]
    cases st with
    | nil => exact ⟨x, y, by simp [t__law_ways_0, told]⟩
    | cons p st =>
      obtain ⟨t, w⟩ := p
      simp only [szs] at h hl
      have hlen := len_szs Prod.fst st
      have hp : (0 : Int) < st.length + 1 := by omega
      have hw := hd _ (List.mem_cons_self ..)
      have hst : ∀ p ∈ st, p.2.length + hgt p.1 ≤ 1000 := fun p hp => hd p (List.mem_cons_of_mem _ hp)
      cases t with
      | leaf v =>
        simp only [siz] at h hl
        obtain ⟨x', y', e⟩ := ih st (acc ++ [encW w]) (some (.val (encT (.leaf v)))) (some (.val (encW w))) (by omega) (by simp; omega) hst
        refine ⟨x', y', ?_⟩
        have : acc ++ told ((.leaf v, w) :: st) = acc ++ [encW w] ++ told st := by simp [told, wys]
        rw [this, ← e]
        generalize sWhGo t__law_ways_0 b__law_ways_0 n = kk
        have h1 : acc.length < 1000000 := by omega
        simp [t__law_ways_0, b__law_ways_0, encT, encS, hp, h1]
      | node s ms a b =>
        simp only [siz] at h hl
        simp only [hgt] at hw
        have hst2 : ∀ p ∈ (b, w ++ [sideS s]) :: (a, w ++ [sideS s]) :: st, p.2.length + hgt p.1 ≤ 1000 := by
          intro q hq
          cases hq with
          | head => simp; omega
          | tail _ hq =>
            cases hq with
            | head => simp; omega
            | tail _ hq => exact hst q hq
        obtain ⟨x', y', e⟩ := ih ((b, w ++ [sideS s]) :: (a, w ++ [sideS s]) :: st) acc (some (.val (encT (.node s ms a b)))) (some (.val (encW w))) (by simp only [szs]; omega) (by simp only [szs]; omega) hst2
        refine ⟨x', y', ?_⟩
        have : told ((.node s ms a b, w) :: st) = told ((b, w ++ [sideS s]) :: (a, w ++ [sideS s]) :: st) := by
          simp [told, wys, List.map_append, List.map_map, Function.comp_def]
        rw [this, ← e]
        generalize sWhGo t__law_ways_0 b__law_ways_0 n = kk
        have h1 : st.length < 1000000 := by omega
        have h2 : st.length + 1 < 1000000 := by omega
        have h3 : w.length + 1 ≤ 1000000 := by omega
        simp [t__law_ways_0, b__law_ways_0, encT, encS, encW, h1, h2, h3, hp, side_tell']
theorem ways_eq (t : Tk) (h : siz t ≤ 100000) (h2 : hgt t ≤ 1000) (ss : SS) : m__law_ways [encT t] ss = .ok (.lst ((wys t).map encW)) ss := by
  obtain ⟨x, y, e⟩ := ways_loop (some (.val (encT t))) ss fuel [(t, [])] [] none none (by simp only [szs]; unfold fuel; omega) (by simp [szs]; omega) (fun q hq => by cases hq with | head => simpa using h2 | tail _ hq => cases hq)
  simp [m__law_ways, e__law_ways, sWhile]
  simp [encS, encW, told] at e
  simp [e]
  intro a _; rfl
/-! ### _law_stretches -/
def prevOf (pre : List Str) : Str := pre.getLastD ""
theorem side_ne (s : Bool) : sideS s ≠ ("" : Str) := by cases s <;> decide +kernel
theorem stretch_go (u : List Str) (hu : ∀ x ∈ u, ∃ s, x = sideS s) (ss : SS) : ∀ (suf pre : List Str) (m : Int) (x : Option TD.Slot), u = pre ++ suf →
    ∃ x', sForGo g__law_stretches_0 b__law_stretches_0 (rngD pre.length u.length) ⟨[some (.val (encW u)), some (.val (.int m)), x], ss⟩ = .nx ⟨[some (.val (encW u)), some (.val (.int (m + strl (prevOf pre) suf))), x'], ss⟩
  | [], pre, m, x, h => by
    subst h
    exact ⟨x, by simp [rngD_nil, strl]⟩
  | y :: suf, pre, m, x, h => by
    have hl : (pre.length : Int) < u.length := by rw [h]; simp; omega
    obtain ⟨s, hs⟩ := hu y (by rw [h]; simp)
    have a1 : atI (u.map D.str) (pre.length : Int) = some (.str y) := atI_nat (by rw [h]; simp)
    rw [rngD_cons hl, sForGo_cons]
    obtain ⟨x', e⟩ := stretch_go u hu ss suf (pre ++ [y]) (m + stp y (prevOf pre)) (some (.val (.int pre.length))) (by simp [h])
    refine ⟨x', ?_⟩
    have hpv : prevOf (pre ++ [y]) = y := by simp [prevOf]
    rw [hpv] at e
    have e2 : ((pre ++ [y]).length : Int) = (pre.length : Int) + 1 := by simp
    rw [e2] at e
    have e3 : m + ((strl (prevOf pre) (y :: suf) : Nat) : Int) = m + (stp y (prevOf pre) : Int) + (strl y suf : Int) := by simp only [strl]; omega
    rw [e3, ← e]
    generalize sForGo g__law_stretches_0 b__law_stretches_0 (rngD (pre.length + 1) u.length) = kk
    subst hs
    rcases List.eq_nil_or_concat pre with rfl | ⟨p', q, hpq⟩
    · have : stp (sideS s) (prevOf []) = 1 := by
        simp [stp, prevOf, side_ne]
      rw [this]
      simp [g__law_stretches_0, b__law_stretches_0, encW]
    · rw [List.concat_eq_append] at hpq
      subst hpq
      obtain ⟨s', hq⟩ := hu q (by rw [h]; simp)
      have hn : ¬ ((p' ++ [q]).length : Int) = 0 := by simp; omega
      have a2 : atI (u.map D.str) (((p' ++ [q]).length : Int) - 1) = some (.str q) := by
        rw [show (((p' ++ [q]).length : Int) - 1) = (p'.length : Int) by simp]
        exact atI_nat (by rw [h]; simp)
      have hpv2 : prevOf (p' ++ [q]) = q := by simp [prevOf]
      rw [hpv2]
      generalize ((p' ++ [q]).length : Int) = i at a1 a2 hn
      subst hq
      by_cases hy : sideS s = sideS s'
      · have : stp (sideS s) (sideS s') = 0 := by simp [stp, hy]
        rw [this]
        simp [g__law_stretches_0, b__law_stretches_0, encW, a1, a2, hn, hy]
      · have : stp (sideS s) (sideS s') = 1 := by simp [stp, hy]
        rw [this]
        simp [g__law_stretches_0, b__law_stretches_0, encW, a1, a2, hn, hy]
theorem small_nat (n : Nat) (h : n ≤ 100000) : small (n : Int) = true := by
  unfold small
  rw [decide_eq_true (show (-(2 ^ 62) : Int) ≤ (n : Int) by omega), decide_eq_true (show (n : Int) < 2 ^ 62 by omega)]
  rfl
theorem gLen_encW (u : List Str) : gLen [encW u] = some (.int u.length) := by simp [encW]
theorem stretches_at (u : List Str) (hu : ∀ x ∈ u, ∃ s, x = sideS s) (ss : SS) : ∃ x', sForGo g__law_stretches_0 b__law_stretches_0 (rngD 0 u.length) ⟨[some (.val (encW u)), some (.val (.int 0)), none], ss⟩ = .nx ⟨[some (.val (encW u)), some (.val (.int (strl "" u))), x'], ss⟩ := by
  obtain ⟨x, e⟩ := stretch_go u hu ss u [] 0 none rfl
  refine ⟨x, ?_⟩
  rw [show (0 : Int) + ((strl (prevOf []) u : Nat) : Int) = ((strl "" u : Nat) : Int) from Int.zero_add _] at e
  exact e
theorem stretches_run (U : D) (L N : Int) (x : Option TD.Slot) (hg : gLen [U] = some (.int L)) (h2 : L < 4611686018427387904) (h3 : -4611686018427387904 ≤ L) (ss : SS) (e : sForGo g__law_stretches_0 b__law_stretches_0 (rngD 0 L) ⟨[some (.val U), some (.val (.int 0)), none], ss⟩ = .nx ⟨[some (.val U), some (.val (.int N)), x], ss⟩) : m__law_stretches [U] ss = .ok (.int N) ss := by
  have h : e__law_stretches ⟨startE 3 [U], ss⟩ = .ret (.int N) ⟨[some (.val U), some (.val (.int N)), x], ss⟩ := by
    simp [e__law_stretches, hg, h2, h3, e]
  unfold m__law_stretches
  rw [fnM_ap, h]
  rfl
theorem stretches_eq (u : List Str) (hu : ∀ x ∈ u, ∃ s, x = sideS s) (hl : u.length ≤ 1000) (ss : SS) : m__law_stretches [encW u] ss = .ok (.int (strl "" u)) ss := by
  obtain ⟨x, e⟩ := stretches_at u hu ss
  exact stretches_run (encW u) u.length (strl "" u) x (gLen_encW u) (by omega) (by omega) ss e
/-! ### comprehensions that map -/
theorem lc_map (v : Nat) (me : W → R D) (f : D → D) (env : TD.Env) (ss : SS) (hv : v < env.length) (hn : env[v]? = some none) : ∀ (ds acc : List D), (∀ d ∈ ds, me ⟨env.set v (some (.val d)), ss⟩ = .ok (f d) ⟨env.set v (some (.val d)), ss⟩) → acc.length + ds.length ≤ 1000000 →
    lcGo [v] (gsName v) mYes me ds acc ⟨env, ss⟩ = .ok (acc ++ ds.map f) ⟨env, ss⟩
  | [], acc, _, _ => by simp
  | d :: ds, acc, h, hl => by
    rw [lcGo_cons]
    have h1 := h d (List.mem_cons_self ..)
    have hacc : acc.length < 1000000 := by simp at hl; omega
    have ih := lc_map v me f env ss hv hn ds (acc ++ [f d]) (fun e he => h e (List.mem_cons_of_mem _ he)) (by simp at hl ⊢; omega)
    have hset : env.set v none = env := by
      apply List.ext_getElem?
      intro i
      by_cases hi : v = i
      · subst hi; rw [List.getElem?_set_self hv, hn]
      · simp [List.getElem?_set, hi]
    simp [h1, hacc, List.set_set, hset, ih]
end K56

set_option Elab.async false
set_option linter.all false
set_option maxRecDepth 100000
set_option maxHeartbeats 4000000
namespace K56
open PySem PySem.Spec PyProof.Rows L2 TD
theorem row_ne_tell : (("row" : Str) = ("tell" : Str)) = False := by simp only [eq_iff_iff, iff_false]; decide +kernel
theorem col_ne_tell : (("column" : Str) = ("tell" : Str)) = False := by simp only [eq_iff_iff, iff_false]; decide +kernel
theorem col_ne_row : (("column" : Str) = ("row" : Str)) = False := by simp only [eq_iff_iff, iff_false]; decide +kernel
/-! ### plain, same -/
theorem plain_loop (V : Option TD.Slot) (ss : SS) (xs : List D) : ∀ (n at' : Nat), (∀ i, at' ≤ i → i < xs.length → ∃ j, xs[i]? = some (.int j)) → at' ≤ xs.length → xs.length - at' < n →
    sWhGo t__law_plain_0 b__law_plain_0 n ⟨[V, some (.own xs), some (.val (.int at'))], ss⟩ = .nx ⟨[V, some (.own xs), some (.val (.int xs.length))], ss⟩ := by
  intro n
  induction n with
  | zero => intro at' _ _ h; omega
  | succ n ih =>
    intro at' h hl hn
    rw [sWhGo_succ]
    by_cases hat : at' = xs.length
    · subst hat
      simp [t__law_plain_0]
    · obtain ⟨j, hj⟩ := h at' (Nat.le_refl _) (by omega)
      have h1 : atI xs (at' : Int) = some (.int j) := atI_nat hj
      have h2 : at' < xs.length := by omega
      have ih := ih (at' + 1) (fun i a b => h i (by omega) b) (by omega) (by omega)
      rw [show ((at' + 1 : Nat) : Int) = (at' : Int) + 1 by omega] at ih
      generalize sWhGo t__law_plain_0 b__law_plain_0 n = kk at ih
      simp [t__law_plain_0, b__law_plain_0, h1, h2, law_is_int_eq, ih]
theorem plain_int (i : Int) (ss : SS) : m__law_plain [.int i] ss = .ok (.bl true) ss := by
  have e := plain_loop (some (.val (.int i))) ss [.int i] fuel 0 (fun k _ hk => ⟨i, by
    have : k = 0 := by simp at hk; exact hk
    subst this; rfl⟩) (by simp) (by unfold fuel; simp)
  simp at e
  simp [m__law_plain, e__law_plain, sWhile, e]
theorem plain_step_int (V : Option TD.Slot) (ss : SS) (xs : List D) (n at' : Nat) (j : Int) (hj : xs[at']? = some (.int j)) :
    sWhGo t__law_plain_0 b__law_plain_0 (n + 1) ⟨[V, some (.own xs), some (.val (.int at'))], ss⟩ = sWhGo t__law_plain_0 b__law_plain_0 n ⟨[V, some (.own xs), some (.val (.int ((at' + 1 : Nat) : Int)))], ss⟩ := by
  have h1 : atI xs (at' : Int) = some (.int j) := atI_nat hj
  have h2 : at' < xs.length := (List.getElem?_eq_some_iff.mp hj).1
  rw [sWhGo_succ, show ((at' + 1 : Nat) : Int) = (at' : Int) + 1 by omega]
  generalize sWhGo t__law_plain_0 b__law_plain_0 n = kk
  simp [t__law_plain_0, b__law_plain_0, h1, h2, law_is_int_eq]
theorem plain_step_tup (V : Option TD.Slot) (ss : SS) (xs l : List D) (n at' : Nat) (hj : xs[at']? = some (.tup l)) (hl : xs.length + l.length ≤ 1000000) :
    sWhGo t__law_plain_0 b__law_plain_0 (n + 1) ⟨[V, some (.own xs), some (.val (.int at'))], ss⟩ = sWhGo t__law_plain_0 b__law_plain_0 n ⟨[V, some (.own (xs ++ l)), some (.val (.int ((at' + 1 : Nat) : Int)))], ss⟩ := by
  have h1 : atI xs (at' : Int) = some (.tup l) := atI_nat hj
  have h2 : at' < xs.length := (List.getElem?_eq_some_iff.mp hj).1
  rw [sWhGo_succ, show ((at' + 1 : Nat) : Int) = (at' : Int) + 1 by omega]
  generalize sWhGo t__law_plain_0 b__law_plain_0 n = kk
  simp [t__law_plain_0, b__law_plain_0, h1, h2, hl]
theorem plain_pair (i : Int) (bs : List Int) (hb : bs.length ≤ 1000) (ss : SS) : m__law_plain [.tup [.int i, .tup (bs.map .int)]] ss = .ok (.bl true) ss := by
  obtain ⟨n, hn, hn2⟩ : ∃ n, fuel = n + 1 + 1 + 1 ∧ 10000 < n := ⟨fuel - 3, by unfold fuel; omega⟩
  have e := plain_loop (some (.val (.tup [.int i, .tup (bs.map .int)]))) ss ([.tup [.int i, .tup (bs.map .int)], .int i, .tup (bs.map .int)] ++ bs.map .int) n 3 (fun k hk hk2 => by
    obtain ⟨m, rfl⟩ : ∃ m, k = m + 3 := ⟨k - 3, by omega⟩
    simp at hk2
    exact ⟨bs[m], by simp [hk2]⟩) (by simp) (by simp; omega)
  have e0 := plain_step_tup (some (.val (.tup [.int i, .tup (bs.map .int)]))) ss [.tup [.int i, .tup (bs.map .int)]] [.int i, .tup (bs.map .int)] (n + 1 + 1) 0 rfl (by simp)
  have e1 := plain_step_int (some (.val (.tup [.int i, .tup (bs.map .int)]))) ss [.tup [.int i, .tup (bs.map .int)], .int i, .tup (bs.map .int)] (n + 1) 1 i rfl
  have e2 := plain_step_tup (some (.val (.tup [.int i, .tup (bs.map .int)]))) ss [.tup [.int i, .tup (bs.map .int)], .int i, .tup (bs.map .int)] (bs.map .int) n 2 rfl (by simp; omega)
  have e3 := e0.trans (e1.trans (e2.trans e))
  have h : e__law_plain ⟨startE 3 [.tup [.int i, .tup (bs.map .int)]], ss⟩ = .ret (.bl true) ⟨[some (.val (.tup [.int i, .tup (bs.map .int)])), some (.own ([.tup [.int i, .tup (bs.map .int)], .int i, .tup (bs.map .int)] ++ bs.map .int)), some (.val (.int ([.tup [.int i, .tup (bs.map .int)], .int i, .tup (bs.map .int)] ++ bs.map .int : List D).length))], ss⟩ := by
    simp only [Int.natCast_zero] at e3
    simp [e__law_plain, sWhile, hn, -List.length_append, -List.cons_append]
    rw [e3]
    simp
  unfold m__law_plain
  rw [fnM_ap, h]
  rfl
theorem same_int (i : Int) (ss : SS) : m__law_same [.int i, .int i] ss = .ok (.bl true) ss := by
  simp [m__law_same, e__law_same, plain_int]
theorem oks_ints (n : Nat) : ∀ bs : List Int, D.oks n (bs.map .int) = true
  | [] => by rw [List.map_nil, D.oks]
  | b :: bs => by rw [List.map_cons, D.oks, oks_ints n bs]; simp
theorem eqvs_ints : ∀ bs : List Int, D.eqvs (bs.map .int) (bs.map .int) = true
  | [] => by simp
  | b :: bs => by simp [eqvs_ints bs]
theorem okb_pair (i : Int) (bs : List Int) : D.okb 64 (.tup [.int i, .tup (bs.map .int)]) = true := by
  have h : D.okb 63 (.tup (bs.map .int)) = true := by rw [D.okb, oks_ints]
  rw [D.okb, D.oks, D.oks, D.oks, h]; simp
theorem same_pair (i : Int) (bs : List Int) (hb : bs.length ≤ 1000) (ss : SS) : m__law_same [.tup [.int i, .tup (bs.map .int)], .tup [.int i, .tup (bs.map .int)]] ss = .ok (.bl true) ss := by
  simp [m__law_same, e__law_same, plain_pair i bs hb, okb_pair, eqvs_ints]
/-! ### heard -/
def inB (own : Int) (ms : List Int) : Bool := (ms.map D.int).any fun y => D.eqv y (.int own)
def hval (row col : Int) : Tk → Int
  | .leaf v => v
  | .node s ms a b => if inB (if s = true then row else col) ms = true then hval row col a else hval row col b
def hbits (row col : Int) : Tk → List Int
  | .leaf _ => []
  | .node s ms a b => if inB (if s = true then row else col) ms = true then 1 :: hbits row col a else 0 :: hbits row col b
theorem hbits_len (row col : Int) : ∀ t : Tk, (hbits row col t).length ≤ hgt t
  | .leaf _ => by simp [hbits]
  | .node s ms a b => by
    have h1 := hbits_len row col a
    have h2 := hbits_len row col b
    simp only [hbits, hgt]
    cases inB (if s = true then row else col) ms <;> simp <;> omega
theorem flat_ints : ∀ ms : List Int, (ms.map D.int).all D.flat = true
  | [] => rfl
  | m :: ms => by simp
theorem gIn_ints (own : Int) (ms : List Int) : gIn (.int own) (.tup (ms.map .int)) = some (.bl (inB own ms)) := by
  rw [gIn_tup, flat_ints]
  rfl
theorem heard_loop (row col : Int) (ss : SS) : ∀ (t : Tk) (n : Nat) (acc : List D) (x4 x5 : Option TD.Slot), hgt t < n → acc.length + hgt t ≤ 1000 →
    ∃ y4 y5, sWhGo t_heard_in_0 b_heard_in_0 n ⟨[some (.val (encT t)), some (.val (.int row)), some (.val (.int col)), some (.own acc), x4, x5], ss⟩ = .nx ⟨[some (.val (encT (.leaf (hval row col t)))), some (.val (.int row)), some (.val (.int col)), some (.own (acc ++ (hbits row col t).map .int)), y4, y5], ss⟩
  | .leaf v, n, acc, x4, x5, h, hl => by
    obtain ⟨n, rfl⟩ : ∃ m, n = m + 1 := ⟨n - 1, by omega⟩
    exact ⟨x4, x5, by rw [sWhGo_succ]; simp [t_heard_in_0, encT, hval, hbits]⟩
  | .node s ms a b, n, acc, x4, x5, h, hl => by
    obtain ⟨n, rfl⟩ : ∃ m, n = m + 1 := ⟨n - 1, by omega⟩
    simp only [hgt] at h hl
    rw [sWhGo_succ]
    have hacc : acc.length < 1000000 := by omega
    by_cases hi : inB (if s = true then row else col) ms = true
    · obtain ⟨y4, y5, e⟩ := heard_loop row col ss a n (acc ++ [.int 1]) (some (.val (.int (if s = true then row else col)))) (some (.val (.int 1))) (by omega) (by simp; omega)
      refine ⟨y4, y5, ?_⟩
      have e1 : hval row col (.node s ms a b) = hval row col a := by simp only [hval, hi, if_true]
      have e2 : acc ++ (hbits row col (.node s ms a b)).map D.int = acc ++ [.int 1] ++ (hbits row col a).map .int := by simp [hbits, hi]
      rw [e1, e2, ← e]
      generalize sWhGo t_heard_in_0 b_heard_in_0 n = kk
      cases s <;> simp at hi <;> simp [t_heard_in_0, b_heard_in_0, encT, sideS, row_ne_tell, col_ne_tell, col_ne_row, gIn_ints, hi, hacc, -gIn_tup]
    · obtain ⟨y4, y5, e⟩ := heard_loop row col ss b n (acc ++ [.int 0]) (some (.val (.int (if s = true then row else col)))) (some (.val (.int 0))) (by omega) (by simp; omega)
      refine ⟨y4, y5, ?_⟩
      have e1 : hval row col (.node s ms a b) = hval row col b := by simp only [hval, hi, if_false]; rfl
      have e2 : acc ++ (hbits row col (.node s ms a b)).map D.int = acc ++ [.int 0] ++ (hbits row col b).map .int := by simp [hbits, hi]
      rw [e1, e2, ← e]
      generalize sWhGo t_heard_in_0 b_heard_in_0 n = kk
      cases s <;> simp at hi <;> simp [t_heard_in_0, b_heard_in_0, encT, sideS, row_ne_tell, col_ne_tell, col_ne_row, gIn_ints, hi, hacc, -gIn_tup]
theorem heard_eq (t : Tk) (row col : Int) (h : hgt t ≤ 1000) (ss : SS) : m_heard_in [encT t, .int row, .int col] ss = .ok (.tup [.int (hval row col t), .tup ((hbits row col t).map .int)]) ss := by
  obtain ⟨y4, y5, e⟩ := heard_loop row col ss t fuel [] none none (by unfold fuel; omega) (by simpa using h)
  simp at e
  simp [m_heard_in, e_heard_in, sWhile, e, encT]
theorem law_heard_loop (row col : Int) (ss : SS) : ∀ (t : Tk) (a : Int) (acc : List D) (x4 x5 : Option TD.Slot), a + hgt t < 100 → acc.length + hgt t ≤ 1000 →
    ∃ y4 y5, sForGo g__law_heard_0 b__law_heard_0 (rngD a 100) ⟨[some (.val (encT t)), some (.val (.int row)), some (.val (.int col)), some (.own acc), x4, x5], ss⟩ = .nx ⟨[some (.val (encT (.leaf (hval row col t)))), some (.val (.int row)), some (.val (.int col)), some (.own (acc ++ (hbits row col t).map .int)), y4, y5], ss⟩
  | .leaf v, a, acc, x4, x5, h, hl => by
    simp only [hgt] at h
    exact ⟨some (.val (.int a)), x5, by rw [rngD_cons (by omega), sForGo_cons]; simp [g__law_heard_0, b__law_heard_0, encT, hval, hbits]⟩
  | .node s ms ta tb, a, acc, x4, x5, h, hl => by
    simp only [hgt] at h hl
    rw [rngD_cons (by omega), sForGo_cons]
    have hacc : acc.length < 1000000 := by omega
    by_cases hi : inB (if s = true then row else col) ms = true
    · obtain ⟨y4, y5, e⟩ := law_heard_loop row col ss ta (a + 1) (acc ++ [.int 1]) (some (.val (.int a))) (some (.val (.int (if s = true then row else col)))) (by omega) (by simp; omega)
      refine ⟨y4, y5, ?_⟩
      have e1 : hval row col (.node s ms ta tb) = hval row col ta := by simp only [hval, hi, if_true]
      have e2 : acc ++ (hbits row col (.node s ms ta tb)).map D.int = acc ++ [.int 1] ++ (hbits row col ta).map .int := by simp [hbits, hi]
      rw [e1, e2, ← e]
      generalize sForGo g__law_heard_0 b__law_heard_0 (rngD (a + 1) 100) = kk
      cases s <;> simp at hi <;> simp [g__law_heard_0, b__law_heard_0, encT, sideS, row_ne_tell, col_ne_tell, col_ne_row, gIn_ints, hi, hacc, -gIn_tup]
    · obtain ⟨y4, y5, e⟩ := law_heard_loop row col ss tb (a + 1) (acc ++ [.int 0]) (some (.val (.int a))) (some (.val (.int (if s = true then row else col)))) (by omega) (by simp; omega)
      refine ⟨y4, y5, ?_⟩
      have e1 : hval row col (.node s ms ta tb) = hval row col tb := by simp only [hval, hi, if_false]; rfl
      have e2 : acc ++ (hbits row col (.node s ms ta tb)).map D.int = acc ++ [.int 0] ++ (hbits row col tb).map .int := by simp [hbits, hi]
      rw [e1, e2, ← e]
      generalize sForGo g__law_heard_0 b__law_heard_0 (rngD (a + 1) 100) = kk
      cases s <;> simp at hi <;> simp [g__law_heard_0, b__law_heard_0, encT, sideS, row_ne_tell, col_ne_tell, col_ne_row, gIn_ints, hi, hacc, -gIn_tup]
theorem law_heard_eq (t : Tk) (row col : Int) (h : hgt t < 100) (ss : SS) : m__law_heard [encT t, .int row, .int col] ss = .ok (.tup [.int (hval row col t), .lst ((hbits row col t).map .int)]) ss := by
  obtain ⟨y4, y5, e⟩ := law_heard_loop row col ss t 0 [] none none (by omega) (by simp; omega)
  simp at e
  simp [m__law_heard, e__law_heard, e, encT]
end K56

set_option Elab.async false
set_option linter.all false
set_option maxRecDepth 100000
set_option maxHeartbeats 4000000
namespace K56
open PySem PySem.Spec PyProof.Rows L2 TD
theorem lc_mapA {α : Type} (v : Nat) (me : W → R D) (enc g : α → D) (env : TD.Env) (ss : SS) (hv : v < env.length) (hn : env[v]? = some none) : ∀ (l : List α) (acc : List D), (∀ a ∈ l, me ⟨env.set v (some (.val (enc a))), ss⟩ = .ok (g a) ⟨env.set v (some (.val (enc a))), ss⟩) → acc.length + l.length ≤ 1000000 →
    lcGo [v] (gsName v) mYes me (l.map enc) acc ⟨env, ss⟩ = .ok (acc ++ l.map g) ⟨env, ss⟩
  | [], acc, _, _ => by simp
  | a :: l, acc, h, hl => by
    rw [List.map_cons, lcGo_cons]
    have h1 := h a (List.mem_cons_self ..)
    have hacc : acc.length < 1000000 := by simp at hl; omega
    have ih := lc_mapA v me enc g env ss hv hn l (acc ++ [g a]) (fun e he => h e (List.mem_cons_of_mem _ he)) (by simp at hl ⊢; omega)
    have hset : env.set v none = env := by
      apply List.ext_getElem?
      intro i
      by_cases hi : v = i
      · subst hi; rw [List.getElem?_set_self hv, hn]
      · simp [List.getElem?_set, hi]
    simp [h1, hacc, List.set_set, hset, ih]
theorem ints_map : ∀ L : List Int, ints? (L.map .int) = some L
  | [] => rfl
  | a :: L => by rw [List.map_cons, ints?, ints_map L]; rfl
theorem gMax_map {α : Type} (l : List α) (f : α → Nat) (m : Nat) (hm : ∀ a ∈ l, f a ≤ m) (hx : ∃ a ∈ l, f a = m) : gMax [.lst (l.map fun a => .int (f a))] = some (.int m) := by
  have e : l.map (fun a => D.int (f a)) = (l.map fun a => (f a : Int)).map .int := by simp
  obtain ⟨a, ha, hfa⟩ := hx
  have h1 : (m : Int) ∈ l.map fun a => (f a : Int) := List.mem_map.mpr ⟨a, ha, by rw [hfa]⟩
  have h2 := maxL_eq h1 (fun y hy => by obtain ⟨b, hb, rfl⟩ := List.mem_map.mp hy; have := hm b hb; omega)
  rw [e]
  unfold gMax
  simp only [ints_map]
  cases hL : l.map fun a => (f a : Int) with
  | nil => rw [hL] at h1; cases h1
  | cons b r => rw [hL] at h2; rw [h2]
theorem measured_in (t : Tk) (ht : hgt t ≤ 60) (row : Int) (c : Int) (R C Y : Option TD.Slot) (w4 : Option TD.Slot) (ss : SS) : ∀ (n : Nat) (a : Int) (x6 x7 x8 : Option TD.Slot), c = a + n →
    ∃ y6 y7 y8, sForGo g__law_measured_0 b__law_measured_0 (rngD a c) ⟨[some (.val (encT t)), R, C, Y, w4, some (.val (.int row)), x6, x7, x8], ss⟩ = .nx ⟨[some (.val (encT t)), R, C, Y, w4, some (.val (.int row)), y6, y7, y8], ss⟩ := by
  intro n
  induction n with
  | zero =>
    intro a x6 x7 x8 h
    exact ⟨x6, x7, x8, by simp [rngD_nil (show c ≤ a by omega)]⟩
  | succ n ih =>
    intro a x6 x7 x8 h
    rw [rngD_cons (by omega), sForGo_cons]
    have hl := hbits_len row a t
    obtain ⟨y6, y7, y8, e⟩ := ih (a + 1) (some (.val (.int a))) (some (.val (.int (hval row a t)))) (some (.val (.lst ((hbits row a t).map .int)))) (by omega)
    refine ⟨y6, y7, y8, ?_⟩
    rw [← e]
    generalize sForGo g__law_measured_0 b__law_measured_0 (rngD (a + 1) c) = kk
    simp [g__law_measured_0, b__law_measured_0, law_heard_eq t row a (by omega), heard_eq t row a (by omega), same_pair _ _ (show (hbits row a t).length ≤ 1000 by omega)]
theorem measured_out (t : Tk) (ht : hgt t ≤ 60) (r c : Int) (hc : 0 ≤ c ∧ c < 1000) (R Y : Option TD.Slot) (w4 : Option TD.Slot) (ss : SS) : ∀ (n : Nat) (a : Int) (x5 x6 x7 x8 : Option TD.Slot), r = a + n →
    ∃ y5 y6 y7 y8, sForGo g__law_measured_1 b__law_measured_1 (rngD a r) ⟨[some (.val (encT t)), R, some (.val (.int c)), Y, w4, x5, x6, x7, x8], ss⟩ = .nx ⟨[some (.val (encT t)), R, some (.val (.int c)), Y, w4, y5, y6, y7, y8], ss⟩ := by
  intro n
  induction n with
  | zero =>
    intro a x5 x6 x7 x8 h
    exact ⟨x5, x6, x7, x8, by simp [rngD_nil (show r ≤ a by omega)]⟩
  | succ n ih =>
    intro a x5 x6 x7 x8 h
    rw [rngD_cons (by omega), sForGo_cons]
    obtain ⟨z6, z7, z8, e1⟩ := measured_in t ht a c R (some (.val (.int c))) Y w4 ss c.toNat 0 x6 x7 x8 (by omega)
    obtain ⟨y5, y6, y7, y8, e⟩ := ih (a + 1) (some (.val (.int a))) z6 z7 z8 (by omega)
    refine ⟨y5, y6, y7, y8, ?_⟩
    rw [← e]
    generalize sForGo g__law_measured_1 b__law_measured_1 (rngD (a + 1) r) = kk
    have h2 : c < 4611686018427387904 := by omega
    have h3 : -4611686018427387904 ≤ c := by omega
    simp [g__law_measured_1, b__law_measured_1, h2, h3, e1]
theorem is_talk_yes (t : Tk) (r c many : Int) (hm : many ≤ 100) (hv : vT r c many t) (h1 : hgt t ≤ 60) (h2 : siz t ≤ 20000) (ss : SS) : m_is_talk [encT t, .int r, .int c] ss = .ok (.bl true) ss := by
  rw [is_talk_eq _ _ _ _ (nd_enc t), jg_yes r c many hm t 20000 0 [] hv (by omega) h2]
  simp [jg]
theorem is_talk_no (t : Tk) (r c many : Int) (hm : many ≤ 100) (hv : vT r c many t) (h1 : 60 < hgt t ∨ 20000 < siz t) (ss : SS) : m_is_talk [encT t, .int r, .int c] ss = .ok (.bl false) ss := by
  rw [is_talk_eq _ _ _ _ (nd_enc t), jg_no r c many hm t 20000 0 [] hv (by omega)]
theorem call_var (i : Nat) (f : List D → SS → RF) (env : TD.Env) (ss : SS) (d z : D) (h : env[i]? = some (some (.val d))) (hf : f [d] ss = .ok z ss) : mCall 1 f (mCons (mVar i) (mNil)) ⟨env, ss⟩ = .ok z ⟨env, ss⟩ := by
  simp [h, hf]
theorem measured_run (T : D) (Ws L1 L2 : List D) (r c dl dh dr : Int) (y5 y6 y7 y8 : Option TD.Slot) (ss : SS)
    (hw : m__law_ways [T] ss = .ok (.lst Ws) ss) (hi : m_is_talk [T, .int r, .int c] ss = .ok (.bl true) ss) (hlv : m_leaves_of [T] ss = .ok (.int dl) ss) (hlen : (Ws.length : Int) = dl)
    (hd : m_depth_of [T] ss = .ok (.int dh) ss) (hr : m_rounds_of [T] ss = .ok (.int dr) ss)
    (c1 : lcGo [4] (gsName 4) mYes (mBlt gLen (mCons (mVar 4) (mNil))) Ws [] ⟨[some (.val T), some (.val (.int r)), some (.val (.int c)), some (.val (.lst Ws)), none, none, none, none, none], ss⟩ = .ok L1 ⟨[some (.val T), some (.val (.int r)), some (.val (.int c)), some (.val (.lst Ws)), none, none, none, none, none], ss⟩)
    (c2 : lcGo [4] (gsName 4) mYes (mCall 1 m__law_stretches (mCons (mVar 4) (mNil))) Ws [] ⟨[some (.val T), some (.val (.int r)), some (.val (.int c)), some (.val (.lst Ws)), none, none, none, none, none], ss⟩ = .ok L2 ⟨[some (.val T), some (.val (.int r)), some (.val (.int c)), some (.val (.lst Ws)), none, none, none, none, none], ss⟩)
    (g1 : gMax [.lst L1] = some (.int dh)) (g2 : gMax [.lst L2] = some (.int dr)) (h3 : r < 4611686018427387904) (h4 : -4611686018427387904 ≤ r)
    (e : sForGo g__law_measured_1 b__law_measured_1 (rngD 0 r) ⟨[some (.val T), some (.val (.int r)), some (.val (.int c)), some (.val (.lst Ws)), none, none, none, none, none], ss⟩ = .nx ⟨[some (.val T), some (.val (.int r)), some (.val (.int c)), some (.val (.lst Ws)), none, y5, y6, y7, y8], ss⟩) :
    m__law_measured [T, .int r, .int c] ss = .ok (.bl true) ss := by
  simp [m__law_measured, e__law_measured, hw, hi, hlv, hlen, hd, hr, c1, c2, g1, g2, h3, h4, e, law_says_eq, same_int]
theorem measured_eq (t : Tk) (r c many : Int) (hr : 0 ≤ r ∧ r < 1000) (hc : 0 ≤ c ∧ c < 1000) (hm : many ≤ 100) (hv : vT r c many t) (h1 : hgt t ≤ 60) (h2 : siz t ≤ 20000) (ss : SS) : m__law_measured [encT t, .int r, .int c] ss = .ok (.bl true) ss := by
  have hlen : (wys t).length ≤ 20000 := by rw [wys_len]; have := siz_lvs t; omega
  have hlc1 := lc_mapA 4 (mBlt gLen (mCons (mVar 4) (mNil))) encW (fun u => .int u.length) [some (.val (encT t)), some (.val (.int r)), some (.val (.int c)), some (.val (.lst ((wys t).map encW))), none, none, none, none, none] ss (by simp) rfl (wys t) [] (fun u _ => by simp [gLen_encW]) (by simp; omega)
  have hlc2 := lc_mapA 4 (mCall 1 m__law_stretches (mCons (mVar 4) (mNil))) encW (fun u => .int (strl "" u)) [some (.val (encT t)), some (.val (.int r)), some (.val (.int c)), some (.val (.lst ((wys t).map encW))), none, none, none, none, none] ss (by simp) rfl (wys t) [] (fun u hu => by
    have := wys_hgt t u hu
    exact call_var 4 _ _ ss _ _ (by rfl) (stretches_eq u (wys_sides t u hu) (by omega) ss)) (by rw [List.length_nil]; omega)
  have g1 := gMax_map (wys t) List.length (hgt t) (wys_hgt t) (wys_hgt_ex t)
  have g2 := gMax_map (wys t) (strl "") (rnd t "") (wys_rnd t "") (wys_rnd_ex t "")
  obtain ⟨y5, y6, y7, y8, e⟩ := measured_out t h1 r c hc (some (.val (.int r))) (some (.val (.lst ((wys t).map encW)))) none ss r.toNat 0 none none none none (by omega)
  exact measured_run (encT t) ((wys t).map encW) _ _ r c (lvs t) (hgt t) (rnd t "") y5 y6 y7 y8 ss (ways_eq t (by omega) (by omega) ss) (is_talk_yes t r c many hm hv h1 h2 ss) (leaves_eq t (by omega) ss) (by rw [List.length_map, wys_len])
    (depth_eq t (by omega) ss) (rounds_eq t (by omega) ss) hlc1 hlc2 (by rw [List.nil_append]; exact g1) (by rw [List.nil_append]; exact g2) (by omega) (by omega) e
end K56

set_option Elab.async false
set_option linter.all false
set_option maxRecDepth 100000
set_option maxHeartbeats 4000000
namespace K56
open PySem PySem.Spec PyProof.Rows L2 TD
/-! ### _law_broad -/
def stO (f : Tk) : Option Tk → Tk
  | none => f
  | some t => .node true [0] f t
def brd : Nat → Option Tk → Tk → Nat → Option Tk
  | 0, o, _, _ => o
  | k + 1, o, f, l => brd k (if l % 2 = 1 then some (stO f o) else o) (.node false [] f f) (l / 2)
def encO : Option Tk → D
  | none => .non
  | some t => encT t
def lvsO : Option Tk → Nat
  | none => 0
  | some t => lvs t
def okO (r c : Int) (i : Nat) : Option Tk → Prop
  | none => True
  | some t => vT r c 100 t ∧ hgt t ≤ i
theorem brd_lvs : ∀ (k : Nat) (o : Option Tk) (f : Tk) (l : Nat), l < 2 ^ k → lvsO (brd k o f l) = lvsO o + lvs f * l
  | 0, o, f, l, h => by
    have : l = 0 := by simp at h; exact h
    subst this; simp [brd]
  | k + 1, o, f, l, h => by
    have h2 : l / 2 < 2 ^ k := by rw [Nat.pow_succ] at h; omega
    rw [brd, brd_lvs k _ _ _ h2]
    have e1 : lvs (.node false [] f f) * (l / 2) = lvs f * (2 * (l / 2)) := by simp only [lvs]; rw [Nat.add_mul, ← Nat.mul_assoc, Nat.mul_comm (lvs f) 2, Nat.mul_assoc]; omega
    rw [e1]
    by_cases hl : l % 2 = 1
    · rw [if_pos hl]
      have e2 : lvs f * l = lvs f * (2 * (l / 2)) + lvs f := by
        rw [show lvs f * l = lvs f * (2 * (l / 2) + 1) by rw [show 2 * (l / 2) + 1 = l by omega], Nat.mul_add, Nat.mul_one]
      rw [e2]
      cases o <;> simp only [lvsO, lvs, stO] <;> omega
    · rw [if_neg hl, show 2 * (l / 2) = l by omega]
theorem brd_ok (r c : Int) (hr : 1 ≤ r) : ∀ (k i : Nat) (o : Option Tk) (f : Tk) (l : Nat), okO r c i o → vT r c 100 f → hgt f ≤ i → okO r c (i + k) (brd k o f l)
  | 0, i, o, f, l, h, _, _ => h
  | k + 1, i, o, f, l, h, hf, hg => by
    rw [brd, show i + (k + 1) = i + 1 + k by omega]
    refine brd_ok r c hr k (i + 1) _ _ _ ?_ ⟨by simp, rfl, hf, hf⟩ (by simp only [hgt]; omega)
    by_cases hl : l % 2 = 1
    · rw [if_pos hl]
      cases o with
      | none => exact ⟨hf, by simp only [stO]; omega⟩
      | some t =>
        refine ⟨⟨by simp, ?_, hf, h.1⟩, ?_⟩
        · simp [rising]; exact hr
        · have := h.2; simp only [stO, hgt]; omega
    · rw [if_neg hl]
      cases o with
      | none => trivial
      | some t => exact ⟨h.1, by have := h.2; omega⟩
theorem broad_go (N0 : Option TD.Slot) (ss : SS) : ∀ (k : Nat) (a b : Int) (o : Option Tk) (f : Tk) (l : Nat) (x : Option TD.Slot), b = a + k →
    ∃ y1 y3 y4, sForGo g__law_broad_0 b__law_broad_0 (rngD a b) ⟨[N0, some (.val (encT f)), some (.val (encO o)), some (.val (.int l)), x], ss⟩ = .nx ⟨[N0, y1, some (.val (encO (brd k o f l))), y3, y4], ss⟩ := by
  intro k
  induction k with
  | zero =>
    intro a b o f l x h
    exact ⟨some (.val (encT f)), some (.val (.int l)), x, by simp [rngD_nil (show b ≤ a by omega), brd]⟩
  | succ k ih =>
    intro a b o f l x h
    rw [rngD_cons (by omega), sForGo_cons]
    have d2 : divOk 2 = true := by decide +kernel
    obtain ⟨y1, y3, y4, e⟩ := ih (a + 1) b (if l % 2 = 1 then some (stO f o) else o) (.node false [] f f) (l / 2) (some (.val (.int a))) (by omega)
    refine ⟨y1, y3, y4, ?_⟩
    rw [show ((l / 2 : Nat) : Int) = (l : Int) / 2 by omega] at e
    rw [brd, ← e]
    generalize sForGo g__law_broad_0 b__law_broad_0 (rngD (a + 1) b) = kk
    by_cases hl : l % 2 = 1
    · have hl' : (l : Int) % 2 = 1 := by omega
      cases o with
      | none => simp [g__law_broad_0, b__law_broad_0, encO, stO, gIs, hl, hl', d2, encT, sideS]
      | some t => cases t <;> simp [g__law_broad_0, b__law_broad_0, encO, stO, gIs, hl, hl', d2, encT, sideS]
    · have hl' : ¬ (l : Int) % 2 = 1 := by omega
      simp [g__law_broad_0, b__law_broad_0, hl, hl', d2, encT, sideS]
theorem broad_eq (r c : Int) (hr : 1 ≤ r) (n : Nat) (h0 : 0 < n) (h1 : n < 1048576) (ss : SS) : ∃ t, m__law_broad [.int n] ss = .ok (encT t) ss ∧ lvs t = n ∧ hgt t ≤ 20 ∧ vT r c 100 t := by
  obtain ⟨y1, y3, y4, e⟩ := broad_go (some (.val (.int n))) ss 20 0 20 none (.leaf 7) n none (by rfl)
  have hl := brd_lvs 20 none (.leaf 7) n h1
  have hk := brd_ok r c hr 20 0 none (.leaf 7) n trivial ⟨by decide, by decide⟩ (by simp [hgt])
  cases ho : brd 20 none (.leaf 7) n with
  | none => rw [ho] at hl; simp [lvsO, lvs] at hl; omega
  | some t =>
    rw [ho] at hl hk e
    refine ⟨t, ?_, by simpa [lvsO, lvs] using hl, hk.2, hk.1⟩
    simp [encO, encT] at e
    simp [m__law_broad, e__law_broad, e]
/-! ### _law_way_down, _law_put -/
def AbI (d : D) : Prop := ∃ s ms a b side, d = .tup [encT (.node s ms a b), .int side] ∧ (side = 2 ∨ side = 3)
theorem way_go : ∀ (t : Tk) (ss : SS) (n : Nat) (acc : List D) (x : Option TD.Slot), SsOk ss → hgt t < n → acc.length + hgt t ≤ 1000 → (∀ d ∈ acc, AbI d) →
    ∃ (ss' : SS) (ab : List D) (y1 y3 : Option TD.Slot), sWhGo t__law_way_down_0 b__law_way_down_0 n ⟨[some (.val .src), some (.val (encT t)), some (.own acc), x], ss⟩ = .nx ⟨[some (.val .src), y1, some (.own ab), y3], ss'⟩ ∧ SsOk ss' ∧ ∀ d ∈ ab, AbI d
  | .leaf v, ss, n, acc, x, hs, hn, hl, ha => by
    obtain ⟨n, rfl⟩ : ∃ m, n = m + 1 := ⟨n - 1, by omega⟩
    exact ⟨ss, acc, some (.val (encT (.leaf v))), x, by rw [sWhGo_succ]; simp [t__law_way_down_0, encT], hs, ha⟩
  | .node s ms a b, ss, n, acc, x, hs, hn, hl, ha => by
    obtain ⟨n, rfl⟩ : ∃ m, n = m + 1 := ⟨n - 1, by omega⟩
    simp only [hgt] at hn hl
    obtain ⟨p, ss1, e1, p1, p2, hs1⟩ := (pick_ok ss hs 4 (by decide) (by decide)).ex
    rw [sWhGo_succ]
    by_cases hp : 0 < p
    · obtain ⟨q, ss2, e2, q1, q2, hs2⟩ := (pick_ok ss1 hs1 2 (by decide) (by decide)).ex
      have hq : q = 0 ∨ q = 1 := by omega
      have hacc : acc.length < 1000000 := by omega
      have ha2 : ∀ d ∈ acc ++ [.tup [encT (.node s ms a b), .int (2 + q)]], AbI d := by
        intro d hd
        rcases List.mem_append.mp hd with hd | hd
        · exact ha d hd
        · rw [List.mem_singleton] at hd
          exact ⟨s, ms, a, b, 2 + q, hd, by omega⟩
      rcases hq with rfl | rfl
      · obtain ⟨ss', ab, y1, y3, e, hs', hab⟩ := way_go a ss2 n (acc ++ [.tup [encT (.node s ms a b), .int (2 + 0)]]) (some (.val (.int 2))) hs2 (by omega) (by simp; omega) ha2
        refine ⟨ss', ab, y1, y3, ?_, hs', hab⟩
        rw [← e]
        generalize sWhGo t__law_way_down_0 b__law_way_down_0 n = kk
        simp [t__law_way_down_0, b__law_way_down_0, encT, side_tell', e1, e2, hp, hacc]
      · obtain ⟨ss', ab, y1, y3, e, hs', hab⟩ := way_go b ss2 n (acc ++ [.tup [encT (.node s ms a b), .int (2 + 1)]]) (some (.val (.int 3))) hs2 (by omega) (by simp; omega) ha2
        refine ⟨ss', ab, y1, y3, ?_, hs', hab⟩
        rw [← e]
        generalize sWhGo t__law_way_down_0 b__law_way_down_0 n = kk
        simp [t__law_way_down_0, b__law_way_down_0, encT, side_tell', e1, e2, hp, hacc]
    · refine ⟨ss1, acc, some (.val (encT (.node s ms a b))), x, ?_, hs1, ha⟩
      simp [t__law_way_down_0, encT, side_tell', e1, hp]
theorem way_eq (t : Tk) (h : hgt t ≤ 1000) (ss : SS) (hs : SsOk ss) : ∃ (ss' : SS) (ab : List D), m__law_way_down [.src, encT t] ss = .ok (.lst ab) ss' ∧ SsOk ss' ∧ ∀ d ∈ ab, AbI d := by
  obtain ⟨ss', ab, y1, y3, e, hs', hab⟩ := way_go t ss fuel [] none hs (by unfold fuel; omega) (by simpa using h) (fun d hd => nomatch hd)
  refine ⟨ss', ab, ?_, hs', hab⟩
  simp [m__law_way_down, e__law_way_down, sWhile, e]
theorem put_go (A : Option TD.Slot) (ss : SS) : ∀ (l : List D) (p : D) (x y : Option TD.Slot), (∀ d ∈ l, AbI d) → nd p = true →
    ∃ (p' : D) (x' y' : Option TD.Slot), sForGo g__law_put_0 b__law_put_0 l ⟨[A, some (.val p), x, y], ss⟩ = .nx ⟨[A, some (.val p'), x', y'], ss⟩ ∧ nd p' = true
  | [], p, x, y, _, hp => ⟨p, x, y, by simp, hp⟩
  | d :: l, p, x, y, h, hp => by
    obtain ⟨s, ms, a, b, side, rfl, hside⟩ := h d (List.mem_cons_self ..)
    rw [sForGo_cons]
    have h3 := nd_ints ms
    have ha := nd_enc a
    have hb := nd_enc b
    rcases hside with rfl | rfl
    · obtain ⟨p', x', y', e, hp'⟩ := put_go A ss l (.tup [.str (sideS s), .tup (ms.map .int), p, encT b]) (some (.val (encT (.node s ms a b)))) (some (.val (.int 2))) (fun d hd => h d (List.mem_cons_of_mem _ hd)) (by simp [nd] at h3; simp [nd, nds, hdOk, h3, hp, hb]; exact h3.1)
      refine ⟨p', x', y', ?_, hp'⟩
      rw [← e]
      generalize sForGo g__law_put_0 b__law_put_0 l = kk
      simp [g__law_put_0, b__law_put_0, encT, TD.cutD, HT.sIx]
    · obtain ⟨p', x', y', e, hp'⟩ := put_go A ss l (.tup [.str (sideS s), .tup (ms.map .int), encT a, p]) (some (.val (encT (.node s ms a b)))) (some (.val (.int 3))) (fun d hd => h d (List.mem_cons_of_mem _ hd)) (by simp [nd] at h3; simp [nd, nds, hdOk, h3, hp, ha]; exact h3.1)
      refine ⟨p', x', y', ?_, hp'⟩
      rw [← e]
      generalize sForGo g__law_put_0 b__law_put_0 l = kk
      simp [g__law_put_0, b__law_put_0, encT, TD.cutD, HT.sIx]
theorem put_eq (ab : List D) (p : D) (h : ∀ d ∈ ab, AbI d) (hp : nd p = true) (ss : SS) : ∃ p', m__law_put [.lst ab, p] ss = .ok p' ss ∧ nd p' = true := by
  obtain ⟨p', x', y', e, hp'⟩ := put_go (some (.val (.lst ab))) ss ab.reverse p none none (fun d hd => h d (List.mem_reverse.mp hd)) hp
  exact ⟨p', by simp [m__law_put, e__law_put, e], hp'⟩
end K56

set_option Elab.async false
set_option linter.all false
set_option maxRecDepth 100000
set_option maxHeartbeats 4000000
namespace K56
open PySem PySem.Spec PyProof.Rows L2 TD
def pcs (x : RF) : List D := match x with
  | .ok (.lst l) _ => l
  | _ => []
def PL (r c : Int) : List D := pcs (m__law_pieces [.int r, .int c] ⟨[], 0, 0⟩)
theorem pieces_eq (r c : Int) (hr : 1 ≤ r ∧ r ≤ 6) (hc : 1 ≤ c ∧ c ≤ 6) (ss : SS) : ∃ l, m__law_pieces [.int r, .int c] ss = .ok (.lst l) ss ∧ nds l = true ∧ l.length = 69 := by
  have h1 : r = 1 ∨ r = 2 ∨ r = 3 ∨ r = 4 ∨ r = 5 ∨ r = 6 := by omega
  have h2 : c = 1 ∨ c = 2 ∨ c = 3 ∨ c = 4 ∨ c = 5 ∨ c = 6 := by omega
  refine ⟨PL r c, ?_, ?_, ?_⟩
  · rcases h1 with rfl | rfl | rfl | rfl | rfl | rfl <;> rcases h2 with rfl | rfl | rfl | rfl | rfl | rfl <;> kernel_rfl
  · rcases h1 with rfl | rfl | rfl | rfl | rfl | rfl <;> rcases h2 with rfl | rfl | rfl | rfl | rfl | rfl <;> decide +kernel
  · rcases h1 with rfl | rfl | rfl | rfl | rfl | rfl <;> rcases h2 with rfl | rfl | rfl | rfl | rfl | rfl <;> decide +kernel
theorem nds_mem : ∀ {l : List D}, nds l = true → ∀ d ∈ l, nd d = true
  | [], _, d, h => nomatch h
  | x :: l, q, d, h => by
    have q' : nd x = true ∧ nds l = true := by simpa [nds] using q
    cases h with
    | head => exact q'.1
    | tail _ h => exact nds_mem q'.2 d h
theorem nxt {s k : W → RS} {w w' : W} {d : D} (h : s w = .nx w') (h2 : ∃ w2, k w' = .ret d w2) : ∃ w2, sCons s k w = .ret d w2 := by
  obtain ⟨w2, h2⟩ := h2
  refine ⟨w2, ?_⟩
  rw [sCons_ap, h]
  exact h2
abbrev Ev (x2 x3 x4 x5 x6 x7 x8 x9 x10 x11 x12 x13 x14 : Option TD.Slot) : TD.Env := [none, some (.val .src), x2, x3, x4, x5, x6, x7, x8, x9, x10, x11, x12, x13, x14]
abbrev VI (i : Int) : Option TD.Slot := some (.val (.int i))
abbrev VD (d : D) : Option TD.Slot := some (.val d)
theorem loop1 (r c m : Int) (T CH : D) (x6 x8 : Option TD.Slot) (hT : nd T = true) (hC : nd CH = true) (ss : SS) : ∀ (n : Nat) (a b : Int) (x9 : Option TD.Slot), b = a + n →
    ∃ y9, sForGo g_law_1 b_law_1 (rngD a b) ⟨Ev (VI r) (VI c) (VI m) (VD T) x6 (VD CH) x8 x9 none none none none none, ss⟩ = .nx ⟨Ev (VI r) (VI c) (VI m) (VD T) x6 (VD CH) x8 y9 none none none none none, ss⟩ := by
  intro n
  induction n with
  | zero => intro a b x9 h; exact ⟨x9, by simp [rngD_nil (show b ≤ a by omega)]⟩
  | succ n ih =>
    intro a b x9 h
    rw [rngD_cons (by omega), sForGo_cons]
    obtain ⟨y9, e⟩ := ih (a + 1) b (VI a) (by omega)
    refine ⟨y9, ?_⟩
    rw [← e]
    generalize sForGo g_law_1 b_law_1 (rngD (a + 1) b) = kk
    simp [g_law_1, b_law_1, law_judged_eq T a c ss hT, law_judged_eq CH a c ss hC]
theorem loop2 (r c m : Int) (T CH : D) (x6 x8 : Option TD.Slot) (hT : nd T = true) (ss : SS) : ∀ (n : Nat) (a b : Int) (x9 : Option TD.Slot), b = a + n →
    ∃ y9, sForGo g_law_2 b_law_2 (rngD a b) ⟨Ev (VI r) (VI c) (VI m) (VD T) x6 (VD CH) x8 x9 none none none none none, ss⟩ = .nx ⟨Ev (VI r) (VI c) (VI m) (VD T) x6 (VD CH) x8 y9 none none none none none, ss⟩ := by
  intro n
  induction n with
  | zero => intro a b x9 h; exact ⟨x9, by simp [rngD_nil (show b ≤ a by omega)]⟩
  | succ n ih =>
    intro a b x9 h
    rw [rngD_cons (by omega), sForGo_cons]
    obtain ⟨y9, e⟩ := ih (a + 1) b (VI a) (by omega)
    refine ⟨y9, ?_⟩
    rw [← e]
    generalize sForGo g_law_2 b_law_2 (rngD (a + 1) b) = kk
    simp [g_law_2, b_law_2, law_judged_eq T r a ss hT, law_judged_eq T a r ss hT]
theorem loop3 (r c m : Int) (T CH P : D) (ab : List D) (x6 x8 x9 : Option TD.Slot) (hab : ∀ d ∈ ab, AbI d) (ss : SS) : ∀ (l : List D) (x12 : Option TD.Slot), (∀ d ∈ l, nd d = true) →
    ∃ y12, sForGo g_law_3 b_law_3 l ⟨Ev (VI r) (VI c) (VI m) (VD T) x6 (VD CH) x8 x9 (VD P) (VD (.lst ab)) x12 none none, ss⟩ = .nx ⟨Ev (VI r) (VI c) (VI m) (VD T) x6 (VD CH) x8 x9 (VD P) (VD (.lst ab)) y12 none none, ss⟩
  | [], x12, _ => ⟨x12, by simp⟩
  | d :: l, x12, h => by
    obtain ⟨p', e1, hp'⟩ := put_eq ab d hab (h d (List.mem_cons_self ..)) ss
    obtain ⟨y12, e⟩ := loop3 r c m T CH P ab x6 x8 x9 hab ss l (VD d) fun e he => h e (List.mem_cons_of_mem _ he)
    refine ⟨y12, ?_⟩
    rw [sForGo_cons, ← e]
    generalize sForGo g_law_3 b_law_3 l = kk
    simp [g_law_3, b_law_3, e1, law_judged_eq p' r c ss hp']
end K56

set_option Elab.async false
set_option linter.all false
set_option maxRecDepth 100000
set_option maxHeartbeats 4000000
namespace K56
open PySem PySem.Spec PyProof.Rows L2 TD
theorem enc_leaf (v : Int) : D.tup [.str "tell", .int v] = encT (.leaf v) := rfl
theorem st_pick (i : Nat) (m : Int) (x1 : TD.Env) (ss ss' : SS) (r : Int) (h1 : x1[1]? = some (some (.val .src))) (h : m__law_pick [.src, .int m] ss = .ok (.int r) ss') :
    sSet i (mCall 2 m__law_pick (mCons (mVar 1) (mCons (mC (.int m)) (mNil)))) ⟨x1, ss⟩ = .nx ⟨x1.set i (some (.val (.int r))), ss'⟩ := by
  simp [h1, h]
theorem law_true : LawTrue := by
  intro cells ne nn
  have hs0 : SsOk ⟨cells, 0, 0⟩ := ⟨ne, nn, Int.le_refl _, Int.le_refl _⟩
  obtain ⟨r0, ss1, e1, a1, b1, hs1⟩ := (pick_ok _ hs0 6 (by decide) (by decide)).ex
  obtain ⟨c0, ss2, e2, a2, b2, hs2⟩ := (pick_ok _ hs1 6 (by decide) (by decide)).ex
  obtain ⟨k, ss3, e3, a3, b3, hs3⟩ := (pick_ok _ hs2 3 (by decide) (by decide)).ex
  obtain ⟨r, hr⟩ : ∃ r, r = 1 + r0 := ⟨_, rfl⟩
  obtain ⟨c, hc⟩ : ∃ c, c = 1 + c0 := ⟨_, rfl⟩
  have hr6 : 1 ≤ r ∧ r ≤ 6 := by omega
  have hc6 : 1 ≤ c ∧ c ≤ 6 := by omega
  have hrr : 0 ≤ r ∧ r < 1000 := by omega
  have hcc : 0 ≤ c ∧ c < 1000 := by omega
  obtain ⟨m, hm, hma⟩ : ∃ m, (0 < m ∧ m ≤ 100) ∧ atI [D.int 4, .int 100, .int 2] k = some (.int m) := by
    have : k = 0 ∨ k = 1 ∨ k = 2 := by omega
    rcases this with rfl | rfl | rfl
    · exact ⟨4, by decide, by simp⟩
    · exact ⟨100, by decide, by simp⟩
    · exact ⟨2, by decide, by simp⟩
  obtain ⟨t, ss4, e4, hs4, v4, g4⟩ := talk_ok r c m hrr hcc hm 8 5 ss3 (by decide) (by decide) hs3
  obtain ⟨deep, ss5, e5, a5, b5, hs5⟩ := (pick_ok _ hs4 61 (by decide) (by decide)).ex
  obtain ⟨v, ss6, e6, a6, b6, hs6⟩ := (pick_ok _ hs5 m hm.1 (by omega)).ex
  obtain ⟨ws, ss7, e7, hs7, l7, w7⟩ := chain_ok r c m hrr hcc hm deep a5 (by omega) (.tup [.str "tell", .int v]) ss6 hs6
  rw [enc_leaf, ← enc_wraps] at e7
  have vch := vT_wraps r c m ws (.leaf v) ⟨a6, b6⟩ w7
  have gch := hgt_wraps ws (.leaf v)
  have sch := siz_wraps ws (.leaf v)
  simp only [hgt, siz] at gch sch
  generalize ws.foldl wrapT (.leaf v) = ch at e7 vch gch sch
  have st4 : siz t ≤ 20000 := by
    have h1 := siz_hgt t
    have h2 : 2 ^ (hgt t + 1) ≤ 2 ^ 6 := Nat.pow_le_pow_right (by decide) (by omega)
    omega
  have m1 := fun ss => measured_eq t r c m hrr hcc hm.2 v4 (by omega) st4 ss
  have m2 := fun ss => measured_eq ch r c m hrr hcc hm.2 vch (by omega) (by omega) ss
  obtain ⟨y9, q1⟩ := loop1 r c m (encT t) (encT ch) (VI deep) (VD (encT t)) (nd_enc t) (nd_enc ch) ss7 r.toNat 1 (r + 1) none (by omega)
  obtain ⟨z9, q2⟩ := loop2 r c m (encT t) (encT ch) (VI deep) (VD (encT t)) (nd_enc t) ss7 c.toNat 1 (c + 1) y9 (by omega)
  obtain ⟨ps, e8, n8, l8⟩ := pieces_eq r c hr6 hc6 ss7
  obtain ⟨ss9, ab, e9, hs9, hab⟩ := way_eq t (by omega) ss7 hs7
  obtain ⟨y12, q3⟩ := loop3 r c m (encT t) (encT ch) (.lst ps) ab (VI deep) (VD (encT t)) z9 hab ss9 ps none (nds_mem n8)
  obtain ⟨j, ss10, e10, a10, b10, hs10⟩ := (pick_ok _ hs9 69 (by decide) (by decide)).ex
  obtain ⟨p, hp, hpj⟩ : ∃ p, nd p = true ∧ atI ps j = some p := by
    obtain ⟨jn, rfl⟩ := Int.eq_ofNat_of_zero_le a10
    have hj : jn < ps.length := by omega
    exact ⟨ps[jn], nds_mem n8 _ (List.getElem_mem hj), atI_nat (by simp [hj])⟩
  obtain ⟨ws2, ss11, e11, hs11, l11, w11⟩ := chain_ok r c m hrr hcc hm deep a5 (by omega) p ss10 hs10
  have j11 := law_judged_eq _ r c ss11 (nd_wraps ws2 p hp)
  generalize ws2.foldl wrapD p = cp at e11 j11
  obtain ⟨ws3, ss12, e12, hs12, l12, w12⟩ := chain_ok r c m hrr hcc hm (60 - deep) (by omega) (by omega) (encT ch) ss11 hs11
  rw [← enc_wraps] at e12
  have v60 := vT_wraps r c m ws3 ch vch w12
  have g60 := hgt_wraps ws3 ch
  have s60 := siz_wraps ws3 ch
  generalize ws3.foldl wrapT ch = s6 at e12 v60 g60 s60
  have g60' : hgt s6 = 60 := by omega
  have i1 := fun ss => is_talk_yes s6 r c m hm.2 v60 (by omega) (by omega) ss
  have i2 := fun ss => depth_eq s6 (by omega) ss
  rw [g60'] at i2
  have i3 := fun ss => is_talk_no (.node true [] s6 (.leaf 0)) r c m hm.2 ⟨by simp, rfl, v60, by decide, hm.1⟩ (.inl (by simp only [hgt]; omega)) ss
  have i4 := fun ss => is_talk_no (.node false [0] (.leaf 0) s6) r c m hm.2 ⟨by simp, by simp [rising]; omega, ⟨by decide, hm.1⟩, v60⟩ (.inl (by simp only [hgt]; omega)) ss
  obtain ⟨f, ss13, e13, a13, b13, hs13⟩ := (pick_ok _ hs12 16 (by decide) (by decide)).ex
  obtain ⟨tA, eA, lA, gA, vA⟩ := broad_eq r c hr6.1 10000 (by decide) (by decide) ss13
  obtain ⟨tB, eB, lB, gB, vB⟩ := broad_eq r c hr6.1 10001 (by decide) (by decide) ss13
  have sA := siz_lvs tA
  have sB := siz_lvs tB
  have k1 := fun ss => is_talk_yes tA r c 100 (by decide) vA (by omega) (by omega) ss
  have k2 := fun ss => is_talk_no tB r c 100 (by decide) vB (.inr (by omega)) ss
  have k3 := fun ss => leaves_eq tA (by omega) ss
  rw [lA] at k3
  unfold e_law
  refine nxt (w' := ⟨Ev (VI r) (VI c) none none none none none none none none none none none, ss2⟩) (by simp [envL, e1, e2, hr, hc]) ?_
  refine nxt (w' := ⟨Ev (VI r) (VI c) (VI m) none none none none none none none none none none, ss3⟩) (by simp [e3, hma]) ?_
  refine nxt (w' := ⟨Ev (VI r) (VI c) (VI m) (VD (encT t)) none none none none none none none none none, ss4⟩) (by simp [e4]) ?_
  refine nxt (w' := ⟨Ev (VI r) (VI c) (VI m) (VD (encT t)) (VI deep) none none none none none none none none, ss5⟩) (by simp [e5]) ?_
  refine nxt (w' := ⟨Ev (VI r) (VI c) (VI m) (VD (encT t)) (VI deep) (VD (encT ch)) none none none none none none none, ss7⟩) (by simp [e6]; simp [encT] at e7; simp [e7]) ?_
  refine nxt (w' := ⟨Ev (VI r) (VI c) (VI m) (VD (encT t)) (VI deep) (VD (encT ch)) (VD (encT t)) none none none none none none, ss7⟩) (by simp [sForGo_cons, g_law_0, b_law_0, m1, m2]) ?_
  have hr1 : r + 1 < 4611686018427387904 := by omega
  have hr2 : -4611686018427387904 ≤ r + 1 := by omega
  have hc1 : c + 1 < 4611686018427387904 := by omega
  have hc2 : -4611686018427387904 ≤ c + 1 := by omega
  refine nxt (w' := ⟨Ev (VI r) (VI c) (VI m) (VD (encT t)) (VI deep) (VD (encT ch)) (VD (encT t)) y9 none none none none none, ss7⟩) (by simp [hr1, hr2, q1]) ?_
  refine nxt (w' := ⟨Ev (VI r) (VI c) (VI m) (VD (encT t)) (VI deep) (VD (encT ch)) (VD (encT t)) z9 none none none none none, ss7⟩) (by simp [hc1, hc2, q2]) ?_
  refine nxt (w' := ⟨Ev (VI r) (VI c) (VI m) (VD (encT t)) (VI deep) (VD (encT ch)) (VD (encT t)) z9 (VD (.lst ps)) none none none none, ss7⟩) (by simp [e8]) ?_
  refine nxt (w' := ⟨Ev (VI r) (VI c) (VI m) (VD (encT t)) (VI deep) (VD (encT ch)) (VD (encT t)) z9 (VD (.lst ps)) (VD (.lst ab)) none none none, ss9⟩) (by simp [e9]) ?_
  refine nxt (w' := ⟨Ev (VI r) (VI c) (VI m) (VD (encT t)) (VI deep) (VD (encT ch)) (VD (encT t)) z9 (VD (.lst ps)) (VD (.lst ab)) y12 none none, ss9⟩) (by simp [q3]) ?_
  refine nxt (w' := ⟨Ev (VI r) (VI c) (VI m) (VD (encT t)) (VI deep) (VD (encT ch)) (VD (encT t)) z9 (VD (.lst ps)) (VD (.lst ab)) (VD p) none none, ss10⟩) (by simp [l8, e10, hpj]) ?_
  refine nxt (w' := ⟨Ev (VI r) (VI c) (VI m) (VD (encT t)) (VI deep) (VD (encT ch)) (VD (encT t)) z9 (VD (.lst ps)) (VD (.lst ab)) (VD p) none none, ss11⟩) (by simp [e11, j11]) ?_
  refine nxt (w' := ⟨Ev (VI r) (VI c) (VI m) (VD (encT t)) (VI deep) (VD (encT ch)) (VD (encT t)) z9 (VD (.lst ps)) (VD (.lst ab)) (VD p) (VD (encT s6)) none, ss12⟩) (by simp [e12]) ?_
  refine nxt (w' := ⟨Ev (VI r) (VI c) (VI m) (VD (encT t)) (VI deep) (VD (encT ch)) (VD (encT t)) z9 (VD (.lst ps)) (VD (.lst ab)) (VD p) (VD (encT s6)) none, ss12⟩) (by simp at i2; simp [i1, i2, law_says_eq, same_int]) ?_
  simp [encT, sideS] at i3 i4
  refine nxt (w' := ⟨Ev (VI r) (VI c) (VI m) (VD (encT t)) (VI deep) (VD (encT ch)) (VD (encT t)) z9 (VD (.lst ps)) (VD (.lst ab)) (VD p) (VD (encT s6)) (VD (.tup [.str "column", .tup [.int 0], .tup [.str "tell", .int 0], encT s6])), ss12⟩) (by simp [sForGo_cons, g_law_4, b_law_4, i3, i4, law_says_eq]) ?_
  by_cases hf : 0 < f
  · refine ⟨⟨Ev (VI r) (VI c) (VI m) (VD (encT t)) (VI deep) (VD (encT ch)) (VD (encT t)) z9 (VD (.lst ps)) (VD (.lst ab)) (VD p) (VD (encT s6)) (VD (.tup [.str "column", .tup [.int 0], .tup [.str "tell", .int 0], encT s6])), ss13⟩, ?_⟩
    simp [e13, hf]
  refine nxt (w' := ⟨Ev (VI r) (VI c) (VI m) (VD (encT t)) (VI deep) (VD (encT ch)) (VD (encT t)) z9 (VD (.lst ps)) (VD (.lst ab)) (VD p) (VD (encT s6)) (VD (.tup [.str "column", .tup [.int 0], .tup [.str "tell", .int 0], encT s6])), ss13⟩) (by simp [e13, hf]) ?_
  refine nxt (w' := ⟨Ev (VI r) (VI c) (VI m) (VD (encT t)) (VI deep) (VD (encT ch)) (VD (encT t)) z9 (VD (.lst ps)) (VD (.lst ab)) (VD p) (VD (encT s6)) (VD (.tup [.str "column", .tup [.int 0], .tup [.str "tell", .int 0], encT s6])), ss13⟩) (by simp at eA k3; simp [eA, k3, same_int]) ?_
  refine ⟨⟨Ev (VI r) (VI c) (VI m) (VD (encT t)) (VI deep) (VD (encT ch)) (VD (encT t)) z9 (VD (.lst ps)) (VD (.lst ab)) (VD p) (VD (encT s6)) (VD (.tup [.str "column", .tup [.int 0], .tup [.str "tell", .int 0], encT s6])), ss13⟩, ?_⟩
  simp at eA eB
  simp [eA, eB, k1, k2, law_says_eq]
end K56

set_option Elab.async false
set_option linter.all false
set_option maxRecDepth 100000
set_option maxHeartbeats 4000000
namespace K56
open PySem PySem.Spec PyProof.Rows L2 TD
set_option maxHeartbeats 0
section
variable {P : Program} {w : World} {K : PySem.W.Frag} {mg : Str → Option Value} {base : Heap}
def spSource (K : PySem.W.Frag) : Sp := fun vs H Q _ => ∃ (a : Addr) (ns : List Int), vs = [.ref a] ∧ SqL K H a (ns.map V.int) ∧ ns.length ≤ 63 ∧
  ∀ H' a0 c0 cells, Ex H H' → H' a0 = some (.lst [.ref c0, .int 0, .int 0]) → H' c0 = some (.lst (cells.map V.int)) → a0 ≠ c0 → cells ≠ [] → (∀ c ∈ cells, (0 : Int) ≤ c) → Q (.ref a0) H'
def absI (i : Int) : Int := if i < 0 then -i else i
theorem ok_source {f : Addr} {fd : FuncData} (F : FunD K "_law_source" "_law_source" (defArgs s__law_source) (defBody s__law_source) (defScope s__law_source) [] [] f fd) (mabs : mg "abs" = none) (mint : mg "int" = none) (mlen : mg "len" = none) :
    FnOk P w K mg base (L2.CX P w) 1 f fd ["script"] (spSource K) := by
  have nd := sc__law_source.nd
  refine F.ok sc__law_source (fun vs H Q E h => ?_) (fun cdv A outer s H vs Q E hr h => ?_)
  · obtain ⟨a, ns, rfl, _⟩ := h
    rfl
  obtain ⟨a, ns, rfl, hS, hlen, q⟩ := h
  refine ⟨_, pss_cons (ps_setLc (i := 1) (own := [("cell", 2)]) (g := gName 2) (tt := tYes) rfl nd rfl rfl (sw_true rfl rfl rfl (by decide +kernel)) (pi_list (pe_slice sl_list (pv 0) po_none (po_some pe_int))) (blkOk_by (by kernel_rfl)) (fun _ _ _ _ _ => pg_name (i := 2) nd rfl (Or.inl rfl)) (fun _ _ _ _ _ => pts_nil)
      (fun _ _ _ _ _ => pe_callB call_abs (by rfl) mabs (by decide +kernel) (pa_cons (pe_callTy call_int1 (by rfl) mint (by decide +kernel) (pa_cons (pv 2) pa_nil)) pa_nil)))
    (pss_cons (ps_if (pt_cmpR op_eq (pe_callB call_len_seq (by rfl) mlen PySem.boot_len (pa_cons (pv 1) pa_nil)) pe_int (nomark _)) (pss_one (ps_set (i := 1) nd rfl (.inl rfl) (pe_lst (pa_cons pe_int pa_nil)))) pss_nil)
      (pss_one (ps_ret (pe_lst (pa_cons (pv 1) (pa_cons pe_int (pa_cons pe_int pa_nil))))))), ?_⟩
  -- script[:63]
  refine ⟨.ref a, rfl, 63, rfl, a, ns.map V.int, rfl, hS, fun p hp => ?_⟩
  have hcut : cutV (ns.map V.int) none (some 63) = ns.map V.int := by
    unfold cutV
    rw [show HT.sIx (ns.map V.int).length (ns.map V.int).length (some 63) = min 63 (ns.map V.int).length from HT.sIx_nat _ _ 63, HT.sIx_none, List.length_map, List.drop_zero, Nat.sub_zero]
    exact List.take_of_length_le (by rw [List.length_map]; omega)
  rw [hcut]
  have ex1 : Ex H (upd H p (.lst (ns.map V.int))) := Ex.new hp
  have hP : SqL K (upd H p (.lst (ns.map V.int))) p (ns.map V.int) := .inl (.inl upd_same)
  refine ⟨p, rfl, ⟨_, hP⟩, fun Dl hD => ?_⟩
  have tail : ∀ (c0 : Addr) (cells : List Int) (H' : Hp), Ex H H' → H' c0 = some (.lst (cells.map V.int)) → (∀ c ∈ cells, (0 : Int) ≤ c) → cells ≠ [] →
      ∀ σ : L2.St, σ[1]? = some (some (.ref c0)) → tRet (tLst (tCons (tVar 1) (tCons (tC (.int 0)) (tCons (tC (.int 0)) tNil)))) { nx := fun _ H' => Q .non H', rt := Q } σ H' := by
    intro c0 cells H' e h nn ne σ hσ
    refine ⟨.ref c0, hσ, by show 3 ≤ sizeLine; rw [sizeLine_eq]; decide, fun a0 ha => ?_⟩
    have ne2 : c0 ≠ a0 := ne_of_none h ha
    exact q _ a0 c0 cells (e.trans (Ex.new ha)) upd_same (by rw [upd_ne ne2]; exact h) ne2.symm ne nn
  refine lc_list (K := K) (xs := ns.map V.int) (a := p) (fun i H' => Ex (upd H p (.lst (ns.map V.int))) H' ∧ H' Dl = some (.lst (((ns.take i).map absI).map V.int))) ⟨Ex.new hD, upd_same⟩ (fun i H' _ h => .inl (.inl (h.1 _ _ upd_same))) (fun i x H' hx h => ?_) (fun H' h => ?_)
  · obtain ⟨h1, h2⟩ := h
    have hi : i < ns.length := by
      have := (List.getElem?_eq_some_iff.mp hx).1
      simpa using this
    have ex : x = .int ns[i] := by
      rw [List.getElem?_map, List.getElem?_eq_getElem hi] at hx
      exact (Option.some.inj hx).symm
    subst ex
    refine ⟨rfl, .int ns[i], rfl, .inl ⟨_, rfl, _, rfl, _, h2, ?_, ?_, ?_⟩⟩
    · rw [List.length_map, List.length_map, List.length_take]
      exact line_lt (by omega)
    · intro b o e
      have : b ≠ Dl := fun z => by subst z; rw [hD] at e; cases e
      rw [upd_ne this]
      exact h1 b o e
    · rw [upd_same, show ns.take (i + 1) = ns.take i ++ [ns[i]] by rw [List.take_add_one, List.getElem?_eq_getElem hi]; rfl, List.map_append, List.map_append]
      rfl
  · obtain ⟨h1, h2⟩ := h
    have hl : (ns.map V.int).length = ns.length := List.length_map ..
    rw [hl, List.take_length] at h2
    have nn : ∀ c ∈ ns.map absI, (0 : Int) ≤ c := fun c hc => by
      obtain ⟨z, _, rfl⟩ := List.mem_map.mp hc
      unfold absI
      split <;> omega
    refine ⟨.ref Dl, rfl, Dl, _, rfl, .inl (.inl (.inl h2)), rfl, _, rfl, ite2 (fun e => ?_) (fun e => ?_)⟩
    · refine ⟨by show 1 ≤ sizeLine; rw [sizeLine_eq]; decide, fun c hc => ?_⟩
      exact tail c [0] _ ((ex1.trans h1).trans (Ex.new hc)) upd_same (fun z hz => by simp at hz; omega) (by simp) _ rfl
    · refine tail Dl _ H' (ex1.trans h1) h2 nn (fun z => e ?_) _ rfl
      have z' : ns = [] := List.map_eq_nil_iff.mp z
      subst z'
      rfl

end
/-! ### the law -/
section
variable {P : Program} {w : World} {K : PySem.W.Frag} {mg : Str → Option Value} {base : Heap}
def spLaw (K : PySem.W.Frag) : Sp := fun vs H Q _ => ∃ (a : Addr) (ns : List Int), vs = [.ref a] ∧ SqL K H a (ns.map V.int) ∧ ns.length ≤ 63 ∧ ∀ H', Q (.bl true) H'
theorem ok_law (T : Txt K mg) (hl : LawTrue) {f : Addr} {fd : FuncData} (F : FunD K "law" "law" (defArgs s_law) (defBody s_law) (defScope s_law) [] [] f fd) : FnOk P w K mg base (L2.CX P w) 12 f fd ["script"] (spLaw K) := by
  obtain ⟨fS, fdS, FS, gS⟩ := T.f__law_source
  have GS : FnOk P w K mg base (L2.CX P w) 1 fS fdS ["script"] (spSource K) := ok_source FS T.b_abs T.b_int T.b_len
  have bS : Binds K fdS ["script"] [] := FS.bindsN fun _ _ _ _ _ _ us hl => match us, hl with | [_], _ => rfl
  have nd := sc_law.nd
  refine F.ok sc_law (fun vs H Q E h => ?_) (fun cdv A outer s H vs Q E hr h => ?_)
  · obtain ⟨a, ns, rfl, _⟩ := h
    rfl
  obtain ⟨a, ns, rfl, hS, hlen, q⟩ := h
  refine ⟨_, pss_cons (ps_set (i := 1) nd rfl (by first | exact Or.inl rfl | exact Or.inr rfl) (pe_call GS (hr.mono (by decide)) (by rfl) gS FS.kp bS .nil passL (pa_cons (pv 0) pa_nil))) pss_wss, ?_⟩
  refine ⟨.ref a, rfl, a, ns, rfl, hS, hlen, fun H1 a0 c0 cells ex h1 h2 ne nn ng => ?_⟩
  have hF : Ex (upd (fun _ => none) c0 (.lst (cells.map V.int))) H1 := fun b o e => by
    by_cases hb : b = c0
    · subst hb; rw [upd_same] at e; cases e; exact h2
    · rw [upd_ne hb] at e; cases e
  have hR : Rel K ⟨a0, c0, H1, upd (fun _ => none) c0 (.lst (cells.map V.int))⟩ [] (some (.ref a) :: some (.ref a0) :: List.replicate 13 none) H1 (upd (fun _ => none) c0 (.lst (cells.map V.int))) ⟨envL, ⟨cells, 0, 0⟩⟩ := by
    refine ⟨Ex.refl _, hF, fun _ _ _ h => h, fun _ _ h => .inl h, ⟨by show upd _ c0 _ a0 = none; rw [upd_ne ne], h1, upd_same, nn, ng, Int.le_refl _, Int.le_refl _⟩, by simp [envL], fun i s h => ?_, fun i j xs ys p h => ?_, (fun q hq => nomatch hq), List.nodup_nil, (fun q hq => nomatch hq)⟩
    · match i, h with
      | 0, h => cases h
      | 1, h => cases h; exact ⟨_, rfl, .src⟩
      | i + 2, h =>
        have := List.mem_of_getElem? (show (List.replicate 13 (none : Option Slot))[i]? = some (some s) from h)
        rw [List.mem_replicate] at this
        cases this.2
    · match i, h with
      | 0, h => cases h
      | 1, h => cases h
      | i + 2, h =>
        have := List.mem_of_getElem? (show (List.replicate 13 (none : Option Slot))[i]? = some (some (.own xs)) from h)
        rw [List.mem_replicate] at this
        cases this.2
  obtain ⟨w', hw⟩ := hl cells nn ng
  refine (w_law (f := f) (cdv := cdv) (E := E) T hr).run [] _ H1 _ _ _ hR ?_
  rw [hw]
  intro v σ' H' F' _ _ rv
  cases rv
  exact q H'
end
/-! ### the head -/
theorem cx_none {P : Program} {w : World} {H : Hp} {s : Shared} {e : Value} {s' : Shared} (h : L2.CX P w [] H s (fun _ _ _ => False) e s') : False := by
  obtain ⟨_, _, _, _, _, _, _, _, _, _, _, _, z⟩ := h
  exact z
/-- HeadEnd's, what may be let out hanging on the world -/
theorem walk_ofW {l : PySem.W.OpenLaw} {n k : Nat} {q : Program} {loose : List Str} {XP : (Str → Option Value) → Heap → Prop} {YP : World → Heap → Prop} {d : DefRec} {CX : World → CXT} {x : Str}
    (hn : l.most = some n) (hn2 : n ≤ sizeLine) (hdf : d.params.defaults = []) (hr : Room k callerA)
    (F : ∀ (w : World) (mg : Str → Option Value) (fa : Addr) (h : Heap), YP w h → h.Ns mainGlobals mg → mg d.name = some (.ref fa) →
      ∃ (K : PySem.W.Frag) (fd : FuncData) (sp : Sp), K.In h ∧ (∀ (s : Shared) (u : Value), BindsTo s fd ⟨[u], []⟩ [(x, u)]) ∧
        (∀ (H : Hp) (a : Addr) (ns : List Int), ns.length ≤ n → Only H → SqL K H a (ns.map V.int) → sp [.ref a] H (fun v _ => v = .bl true) fun _ _ _ => False) ∧
        ∀ base : Heap, K.In base → base.Ns mainGlobals mg → FnOk l.prog w K mg base (CX w) k fa fd [x] sp)
    (hCX : ∀ (w : World) (H : Hp) (s : Shared) (e : Value) (s' : Shared), CX w [] H s (fun _ _ _ => False) e s' → False) :
    PySem.W.WalkO q loose XP YP l.row.toRowW d [] (fun f vs => PySem.call f vs) := by
  refine Att.attach_call hn hdf fun w s₀ s₁ mg mb fa o pm cd doc a vs ns G Y ho hd hcd hmg hobj hints hlen hg => ?_
  obtain ⟨K, fd, sp, KX, hb, hsp, hF⟩ := F w mg fa _ Y G.T.g hmg
  exact law_call KX G.T.g G.T.b G.T.builtins G.T.nolimit hg hobj hints (Nat.le_trans hlen hn2) hr hF hb (fun H hO hS => hsp H a ns hlen hO hS) fun H e s' => hCX w H s₁ e s'
def d_is_count : He.DefD := ⟨("is_count", none), "is_count", "is_count", defArgs s_is_count, defBody s_is_count, defScope s_is_count, [], []⟩
def d_is_rising : He.DefD := ⟨("is_rising", none), "is_rising", "is_rising", defArgs s_is_rising, defBody s_is_rising, defScope s_is_rising, [], []⟩
def d_is_talk : He.DefD := ⟨("is_talk", none), "is_talk", "is_talk", defArgs s_is_talk, defBody s_is_talk, defScope s_is_talk, [], []⟩
def d_heard_in : He.DefD := ⟨("heard_in", none), "heard_in", "heard_in", defArgs s_heard_in, defBody s_heard_in, defScope s_heard_in, [], []⟩
def d_depth_of : He.DefD := ⟨("depth_of", none), "depth_of", "depth_of", defArgs s_depth_of, defBody s_depth_of, defScope s_depth_of, [], []⟩
def d_leaves_of : He.DefD := ⟨("leaves_of", none), "leaves_of", "leaves_of", defArgs s_leaves_of, defBody s_leaves_of, defScope s_leaves_of, [], []⟩
def d_rounds_of : He.DefD := ⟨("rounds_of", none), "rounds_of", "rounds_of", defArgs s_rounds_of, defBody s_rounds_of, defScope s_rounds_of, [], []⟩
def d__law_source : He.DefD := ⟨("_law_source", none), "_law_source", "_law_source", defArgs s__law_source, defBody s__law_source, defScope s__law_source, [], []⟩
def d__law_pick : He.DefD := ⟨("_law_pick", none), "_law_pick", "_law_pick", defArgs s__law_pick, defBody s__law_pick, defScope s__law_pick, [], []⟩
def d__law_heard : He.DefD := ⟨("_law_heard", none), "_law_heard", "_law_heard", defArgs s__law_heard, defBody s__law_heard, defScope s__law_heard, [], []⟩
def d__law_is_int : He.DefD := ⟨("_law_is_int", none), "_law_is_int", "_law_is_int", defArgs s__law_is_int, defBody s__law_is_int, defScope s__law_is_int, [], []⟩
def d__law_plain : He.DefD := ⟨("_law_plain", none), "_law_plain", "_law_plain", defArgs s__law_plain, defBody s__law_plain, defScope s__law_plain, [], []⟩
def d__law_same : He.DefD := ⟨("_law_same", none), "_law_same", "_law_same", defArgs s__law_same, defBody s__law_same, defScope s__law_same, [], []⟩
def d__law_says : He.DefD := ⟨("_law_says", none), "_law_says", "_law_says", defArgs s__law_says, defBody s__law_says, defScope s__law_says, [], []⟩
def d__law_members : He.DefD := ⟨("_law_members", none), "_law_members", "_law_members", defArgs s__law_members, defBody s__law_members, defScope s__law_members, [], []⟩
def d__law_talk : He.DefD := ⟨("_law_talk", none), "_law_talk", "_law_talk", defArgs s__law_talk, defBody s__law_talk, defScope s__law_talk, [], []⟩
def d__law_chain : He.DefD := ⟨("_law_chain", none), "_law_chain", "_law_chain", defArgs s__law_chain, defBody s__law_chain, defScope s__law_chain, [], []⟩
def d__law_broad : He.DefD := ⟨("_law_broad", none), "_law_broad", "_law_broad", defArgs s__law_broad, defBody s__law_broad, defScope s__law_broad, [], []⟩
def d__law_is_talk : He.DefD := ⟨("_law_is_talk", none), "_law_is_talk", "_law_is_talk", defArgs s__law_is_talk, defBody s__law_is_talk, defScope s__law_is_talk, [], []⟩
def d__law_ways : He.DefD := ⟨("_law_ways", none), "_law_ways", "_law_ways", defArgs s__law_ways, defBody s__law_ways, defScope s__law_ways, [], []⟩
def d__law_stretches : He.DefD := ⟨("_law_stretches", none), "_law_stretches", "_law_stretches", defArgs s__law_stretches, defBody s__law_stretches, defScope s__law_stretches, [], []⟩
def d__law_measured : He.DefD := ⟨("_law_measured", none), "_law_measured", "_law_measured", defArgs s__law_measured, defBody s__law_measured, defScope s__law_measured, [], []⟩
def d__law_judged : He.DefD := ⟨("_law_judged", none), "_law_judged", "_law_judged", defArgs s__law_judged, defBody s__law_judged, defScope s__law_judged, [], []⟩
def d__law_pieces : He.DefD := ⟨("_law_pieces", none), "_law_pieces", "_law_pieces", defArgs s__law_pieces, defBody s__law_pieces, defScope s__law_pieces, [], []⟩
def d__law_way_down : He.DefD := ⟨("_law_way_down", none), "_law_way_down", "_law_way_down", defArgs s__law_way_down, defBody s__law_way_down, defScope s__law_way_down, [], []⟩
def d__law_put : He.DefD := ⟨("_law_put", none), "_law_put", "_law_put", defArgs s__law_put, defBody s__law_put, defScope s__law_put, [], []⟩
def d_law : He.DefD := ⟨("law", none), "law", "law", defArgs s_law, defBody s_law, defScope s_law, [], []⟩
def fn : List He.DefD := ([d_is_count, d_is_rising, d_is_talk, d_heard_in, d_depth_of, d_leaves_of, d_rounds_of, d__law_source, d__law_pick, d__law_heard, d__law_is_int, d__law_plain, d__law_same, d__law_says, d__law_members, d__law_talk, d__law_chain, d__law_broad, d__law_is_talk, d__law_ways, d__law_stretches, d__law_measured, d__law_judged, d__law_pieces, d__law_way_down, d__law_put, d_law] : List He.DefD)
def fa : List He.Fa := ([.glo "is_count", .glo "is_rising", .glo "is_talk", .glo "heard_in", .glo "depth_of", .glo "leaves_of", .glo "rounds_of", .glo "_law_source", .glo "_law_pick", .glo "_law_heard", .glo "_law_is_int", .glo "_law_plain", .glo "_law_same", .glo "_law_says", .glo "_law_members", .glo "_law_talk", .glo "_law_chain", .glo "_law_broad", .glo "_law_is_talk", .glo "_law_ways", .glo "_law_stretches", .glo "_law_measured", .glo "_law_judged", .glo "_law_pieces", .glo "_law_way_down", .glo "_law_put", .glo "law", .free "abs", .free "bool", .free "int"] : List He.Fa) ++ ([.free "isinstance", .free "len", .free "max", .free "range", .free "tuple", .int "MOST_DEPTH" 60, .int "MOST_NODES" 20000] : List He.Fa)
abbrev R0 : PySem.W.OpenRow := PySem.W.OpenLaw.row PySem.Challenge.rw_talkgrowth_k56_talks_judged
abbrev hk : PySem.W.Hook := He.hookD 4 fa fn
def ob (s : PySem.W.SharedT) : He.AlD := He.obsDG 4 fa fn (HandSHeadRun.getT s)
theorem ob_eq (s : PySem.W.SharedT) : ob s = hk.obs s.abs := He.obsDG_eq (HandSHeadRun.getT_eq s)
def names : List Str := (["is_count", "is_rising", "MOST_DEPTH", "MOST_NODES", "is_talk", "heard_in", "depth_of", "leaves_of", "rounds_of", "_law_source", "_law_pick", "_law_heard", "_law_is_int", "_law_plain", "_law_same", "_law_says", "_law_members", "_law_talk", "_law_chain", "_law_broad", "_law_is_talk", "_law_ways", "_law_stretches", "_law_measured", "_law_judged", "_law_pieces", "_law_way_down", "_law_put"] : List Str)
theorem run (w : World) : HandSHeadRun.RunEq R0 (PySem.W.view R0.prog [31]) hk ob 4000 names w := by
  intro os
  kernel_rfl
theorem txt {K : PySem.W.Frag} {h : Heap} {mg : Str → Option Value} (X : K.In h) (G : h.Ns mainGlobals mg) (c : He.SaysD fa fn K) : Txt K mg where
  f_is_count := by
    obtain ⟨fd, F⟩ := c.def_ 0 (d := d_is_count) rfl
    exact ⟨_, fd, F, He.glo_ok X G (c.fact 0 (f := .glo "is_count") rfl)⟩
  f_is_rising := by
    obtain ⟨fd, F⟩ := c.def_ 1 (d := d_is_rising) rfl
    exact ⟨_, fd, F, He.glo_ok X G (c.fact 1 (f := .glo "is_rising") rfl)⟩
  f_is_talk := by
    obtain ⟨fd, F⟩ := c.def_ 2 (d := d_is_talk) rfl
    exact ⟨_, fd, F, He.glo_ok X G (c.fact 2 (f := .glo "is_talk") rfl)⟩
  f_heard_in := by
    obtain ⟨fd, F⟩ := c.def_ 3 (d := d_heard_in) rfl
    exact ⟨_, fd, F, He.glo_ok X G (c.fact 3 (f := .glo "heard_in") rfl)⟩
  f_depth_of := by
    obtain ⟨fd, F⟩ := c.def_ 4 (d := d_depth_of) rfl
    exact ⟨_, fd, F, He.glo_ok X G (c.fact 4 (f := .glo "depth_of") rfl)⟩
  f_leaves_of := by
    obtain ⟨fd, F⟩ := c.def_ 5 (d := d_leaves_of) rfl
    exact ⟨_, fd, F, He.glo_ok X G (c.fact 5 (f := .glo "leaves_of") rfl)⟩
  f_rounds_of := by
    obtain ⟨fd, F⟩ := c.def_ 6 (d := d_rounds_of) rfl
    exact ⟨_, fd, F, He.glo_ok X G (c.fact 6 (f := .glo "rounds_of") rfl)⟩
  f__law_source := by
    obtain ⟨fd, F⟩ := c.def_ 7 (d := d__law_source) rfl
    exact ⟨_, fd, F, He.glo_ok X G (c.fact 7 (f := .glo "_law_source") rfl)⟩
  f__law_pick := by
    obtain ⟨fd, F⟩ := c.def_ 8 (d := d__law_pick) rfl
    exact ⟨_, fd, F, He.glo_ok X G (c.fact 8 (f := .glo "_law_pick") rfl)⟩
  f__law_heard := by
    obtain ⟨fd, F⟩ := c.def_ 9 (d := d__law_heard) rfl
    exact ⟨_, fd, F, He.glo_ok X G (c.fact 9 (f := .glo "_law_heard") rfl)⟩
  f__law_is_int := by
    obtain ⟨fd, F⟩ := c.def_ 10 (d := d__law_is_int) rfl
    exact ⟨_, fd, F, He.glo_ok X G (c.fact 10 (f := .glo "_law_is_int") rfl)⟩
  f__law_plain := by
    obtain ⟨fd, F⟩ := c.def_ 11 (d := d__law_plain) rfl
    exact ⟨_, fd, F, He.glo_ok X G (c.fact 11 (f := .glo "_law_plain") rfl)⟩
  f__law_same := by
    obtain ⟨fd, F⟩ := c.def_ 12 (d := d__law_same) rfl
    exact ⟨_, fd, F, He.glo_ok X G (c.fact 12 (f := .glo "_law_same") rfl)⟩
  f__law_says := by
    obtain ⟨fd, F⟩ := c.def_ 13 (d := d__law_says) rfl
    exact ⟨_, fd, F, He.glo_ok X G (c.fact 13 (f := .glo "_law_says") rfl)⟩
  f__law_members := by
    obtain ⟨fd, F⟩ := c.def_ 14 (d := d__law_members) rfl
    exact ⟨_, fd, F, He.glo_ok X G (c.fact 14 (f := .glo "_law_members") rfl)⟩
  f__law_talk := by
    obtain ⟨fd, F⟩ := c.def_ 15 (d := d__law_talk) rfl
    exact ⟨_, fd, F, He.glo_ok X G (c.fact 15 (f := .glo "_law_talk") rfl)⟩
  f__law_chain := by
    obtain ⟨fd, F⟩ := c.def_ 16 (d := d__law_chain) rfl
    exact ⟨_, fd, F, He.glo_ok X G (c.fact 16 (f := .glo "_law_chain") rfl)⟩
  f__law_broad := by
    obtain ⟨fd, F⟩ := c.def_ 17 (d := d__law_broad) rfl
    exact ⟨_, fd, F, He.glo_ok X G (c.fact 17 (f := .glo "_law_broad") rfl)⟩
  f__law_is_talk := by
    obtain ⟨fd, F⟩ := c.def_ 18 (d := d__law_is_talk) rfl
    exact ⟨_, fd, F, He.glo_ok X G (c.fact 18 (f := .glo "_law_is_talk") rfl)⟩
  f__law_ways := by
    obtain ⟨fd, F⟩ := c.def_ 19 (d := d__law_ways) rfl
    exact ⟨_, fd, F, He.glo_ok X G (c.fact 19 (f := .glo "_law_ways") rfl)⟩
  f__law_stretches := by
    obtain ⟨fd, F⟩ := c.def_ 20 (d := d__law_stretches) rfl
    exact ⟨_, fd, F, He.glo_ok X G (c.fact 20 (f := .glo "_law_stretches") rfl)⟩
  f__law_measured := by
    obtain ⟨fd, F⟩ := c.def_ 21 (d := d__law_measured) rfl
    exact ⟨_, fd, F, He.glo_ok X G (c.fact 21 (f := .glo "_law_measured") rfl)⟩
  f__law_judged := by
    obtain ⟨fd, F⟩ := c.def_ 22 (d := d__law_judged) rfl
    exact ⟨_, fd, F, He.glo_ok X G (c.fact 22 (f := .glo "_law_judged") rfl)⟩
  f__law_pieces := by
    obtain ⟨fd, F⟩ := c.def_ 23 (d := d__law_pieces) rfl
    exact ⟨_, fd, F, He.glo_ok X G (c.fact 23 (f := .glo "_law_pieces") rfl)⟩
  f__law_way_down := by
    obtain ⟨fd, F⟩ := c.def_ 24 (d := d__law_way_down) rfl
    exact ⟨_, fd, F, He.glo_ok X G (c.fact 24 (f := .glo "_law_way_down") rfl)⟩
  f__law_put := by
    obtain ⟨fd, F⟩ := c.def_ 25 (d := d__law_put) rfl
    exact ⟨_, fd, F, He.glo_ok X G (c.fact 25 (f := .glo "_law_put") rfl)⟩
  f_law := by
    obtain ⟨fd, F⟩ := c.def_ 26 (d := d_law) rfl
    exact ⟨_, fd, F, He.glo_ok X G (c.fact 26 (f := .glo "law") rfl)⟩
  b_abs := He.free_ok X G (c.fact 27 (f := .free "abs") rfl)
  b_bool := He.free_ok X G (c.fact 28 (f := .free "bool") rfl)
  b_int := He.free_ok X G (c.fact 29 (f := .free "int") rfl)
  b_isinstance := He.free_ok X G (c.fact 30 (f := .free "isinstance") rfl)
  b_len := He.free_ok X G (c.fact 31 (f := .free "len") rfl)
  b_max := He.free_ok X G (c.fact 32 (f := .free "max") rfl)
  b_range := He.free_ok X G (c.fact 33 (f := .free "range") rfl)
  b_tuple := He.free_ok X G (c.fact 34 (f := .free "tuple") rfl)
  k_MOST_DEPTH := He.int_ok X G (c.fact 35 (f := .int "MOST_DEPTH" 60) rfl)
  k_MOST_NODES := He.int_ok X G (c.fact 36 (f := .int "MOST_NODES" 20000) rfl)
theorem facts (hl : LawTrue) {P : Program} {w : World} {K : PySem.W.Frag} {h : Heap} {mg : Str → Option Value} {f : Addr} (X : K.In h) (G : h.Ns mainGlobals mg) (hfa : mg ("law" : Str) = some (.ref f)) (c : He.SaysD fa fn K) :
    ∃ fd : FuncData, (∀ (s : Shared) (v : Value), BindsTo s fd ⟨[v], []⟩ [("script", v)]) ∧ ∀ base : Heap, K.In base → base.Ns mainGlobals mg → FnOk P w K mg base (L2.CX P w) 12 f fd ["script"] (spLaw K) := by
  have T := txt X G c
  obtain ⟨f2, fd, F, g⟩ := T.f_law
  have e := hfa.symm.trans g
  cases e
  have b := FunD.bindsA (ps := ["script"]) F fun _ _ _ _ _ _ us hl => match us, hl with | [_], _ => rfl
  exact ⟨fd, fun s v => b s [v] rfl, fun base _ _ => ok_law T hl F⟩

end K56

set_option Elab.async false
set_option linter.all false
set_option maxRecDepth 100000
set_option maxHeartbeats 4000000
set_option maxHeartbeats 0
open PySem PySem.W PySem.Calls PyProof.Rows
theorem PySem.Challenge.cw_talkgrowth_k56_talks_judged_holds : PySem.Challenge.rw_talkgrowth_k56_talks_judged.Holds := by
  w_on; o_law
  refine HandSHeadRun.head_any (r := OpenLaw.row PySem.Challenge.rw_talkgrowth_k56_talks_judged) (q := view (OpenLaw.row PySem.Challenge.rw_talkgrowth_k56_talks_judged).prog [31]) (H := K56.hk) (ob := K56.ob) (M := 4000) (loose := K56.names) (d := HandSHeadRun.topDef (OpenLaw.row PySem.Challenge.rw_talkgrowth_k56_talks_judged).prog 31) (kwd := []) K56.ob_eq
    (by kernel_rfl) (fun s => by kernel_rfl) K56.run (by kernel_rfl) (by kernel_rfl) (by kernel_rfl) (by rfl) (by first | assumption | decide +kernel) (by decide +kernel) ⟨rfl, rfl, rfl, rfl, rfl, by decide +kernel⟩ ?hw ?hc
  case hw => w_witness2
  case hc =>
    refine K56.walk_ofW (l := PySem.Challenge.rw_talkgrowth_k56_talks_judged) (n := 63) (k := 12) (x := "script") (CX := fun w => L2.CX (PySem.Challenge.rw_talkgrowth_k56_talks_judged).prog w) rfl (by decide) (by kernel_rfl) ⟨rfl, by decide, by decide⟩ ?F (fun _ _ _ _ _ z => K56.cx_none z)
    intro w mg fa h Y G hmg0
    obtain ⟨K, KX, c⟩ := Y
    have hmg : mg ("law" : PySem.Str) = some (.ref fa) := by
      have e : (HandSHeadRun.topDef (OpenLaw.row PySem.Challenge.rw_talkgrowth_k56_talks_judged).prog 31).name = ("law" : PySem.Str) := by kernel_rfl
      rw [← e]
      exact hmg0
    obtain ⟨fd, hb, hF⟩ := K56.facts K56.law_true (P := (PySem.Challenge.rw_talkgrowth_k56_talks_judged).prog) (w := w) KX G hmg c
    exact ⟨K, fd, K56.spLaw K, KX, hb, fun H a ns hl _ hS => ⟨a, ns, rfl, hS, hl, fun _ => rfl⟩, hF⟩
