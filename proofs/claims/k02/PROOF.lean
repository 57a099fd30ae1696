import PyProof.Rows.All
import Wide.All
import OpenK.AllK
import Wide.FinOn
import HandS.ForMost
import HandS.ForExc
import HandS.IsInst
import HandS.Style
import HandS.CallSlots
import HandS.Conv
import HandS.Wide
import HandS.WideBits
import HandS.Zip
import HandS.TupAny
import HandS.SortInts
import HandS.Walk
import HandS.WordsExc
import HandS.Defaults
import HandS.HeadEnd
import KE.KRevSl
import HandS.ExcInit
import HandS.Nested
import KE.KExcSuper
import HandS.ExcField
import HandS.TryOnly
import HandS.TryMany
import KE.KExcIs
import HandS.HeadHook1
import HandS.HeadHook2
import PySem.Challenge.RW_talkgrowth_k02_shares
import HandS.More
import HandS.Head0
import HandS.Head1
import HandS.Head2
import KE.KStateDown
set_option Elab.async false
set_option linter.all false
set_option maxRecDepth 100000
set_option maxHeartbeats 4000000
/-! TD: plain data over the hand layer -/
namespace TD
open PySem PySem.Spec PyProof.Rows L2

inductive D where
  | non | bl (b : Bool) | int (i : Int) | str (x : Str) | tup (l : List D) | lst (l : List D) | src

mutual
inductive Rp (K : PySem.W.Frag) (a0 : Addr) (F : Hp) : V → D → Prop
  | non : Rp K a0 F .non .non
  | bl (b : Bool) : Rp K a0 F (.bl b) (.bl b)
  | int (i : Int) : Rp K a0 F (.int i) (.int i)
  | str (x : Str) : Rp K a0 F (.str x) (.str x)
  | tup {a : Addr} {vs : List V} {ds : List D} : SqT K F a vs → RpAll K a0 F vs ds → Rp K a0 F (.ref a) (.tup ds)
  | lst {a : Addr} {vs : List V} {ds : List D} : F a = some (.lst vs) → RpAll K a0 F vs ds → Rp K a0 F (.ref a) (.lst ds)
  | src : Rp K a0 F (.ref a0) .src
inductive RpAll (K : PySem.W.Frag) (a0 : Addr) (F : Hp) : List V → List D → Prop
  | nil : RpAll K a0 F [] []
  | cons {v : V} {vs : List V} {d : D} {ds : List D} : Rp K a0 F v d → RpAll K a0 F vs ds → RpAll K a0 F (v :: vs) (d :: ds)
end

def Ex (H H' : Hp) : Prop := ∀ a o, H a = some o → H' a = some o
theorem Ex.refl (H : Hp) : Ex H H := fun _ _ h => h
theorem Ex.trans {H H1 H2 : Hp} (a : Ex H H1) (b : Ex H1 H2) : Ex H H2 := fun x o h => b x o (a x o h)
theorem Ex.new {H : Hp} {p : Addr} {o : HO} (h : H p = none) : Ex H (upd H p o) := fun a u e => by
  rw [upd_ne (ne_of_none e h)]
  exact e
theorem ex_rd {H H' : Hp} {a : Addr} {u : HO} (e : Ex H H') (h : Rd H a u) : Rd H' a u := by
  rcases h with h | ⟨o, h⟩
  · exact Or.inl (e a _ h)
  · exact Or.inr ⟨o, e a _ h⟩
theorem ex_l {K : PySem.W.Frag} {H H' : Hp} {a : Addr} {xs : List V} (e : Ex H H') (h : SqL K H a xs) : SqL K H' a xs := by
  rcases h with h | h
  · exact Or.inl (ex_rd e h)
  · exact Or.inr h
theorem ex_t {K : PySem.W.Frag} {H H' : Hp} {a : Addr} {xs : List V} (e : Ex H H') (h : SqT K H a xs) : SqT K H' a xs := by
  rcases h with h | h
  · exact Or.inl (ex_rd e h)
  · exact Or.inr h

mutual
theorem Rp.mono {K : PySem.W.Frag} {a0 : Addr} {F F' : Hp} (e : Ex F F') : ∀ (d : D) (v : V), Rp K a0 F v d → Rp K a0 F' v d
  | .non, _, h => by cases h; exact .non
  | .bl _, _, h => by cases h; exact .bl _
  | .int _, _, h => by cases h; exact .int _
  | .str _, _, h => by cases h; exact .str _
  | .src, _, h => by cases h; exact .src
  | .tup ds, _, h => by
    cases h with
    | tup hs ha => exact .tup (ex_t e hs) (RpAll.mono e ds _ ha)
  | .lst ds, _, h => by
    cases h with
    | lst hs ha => exact .lst (e _ _ hs) (RpAll.mono e ds _ ha)
theorem RpAll.mono {K : PySem.W.Frag} {a0 : Addr} {F F' : Hp} (e : Ex F F') : ∀ (ds : List D) (vs : List V), RpAll K a0 F vs ds → RpAll K a0 F' vs ds
  | [], _, h => by cases h; exact .nil
  | d :: ds, _, h => by
    cases h with
    | cons h1 h2 => exact .cons (Rp.mono e d _ h1) (RpAll.mono e ds _ h2)
end
theorem Rp.ex {K : PySem.W.Frag} {a0 : Addr} {F F' : Hp} {v : V} {d : D} (h : Rp K a0 F v d) (e : Ex F F') : Rp K a0 F' v d := Rp.mono e d v h
theorem RpAll.ex {K : PySem.W.Frag} {a0 : Addr} {F F' : Hp} {vs : List V} {ds : List D} (h : RpAll K a0 F vs ds) (e : Ex F F') : RpAll K a0 F' vs ds := RpAll.mono e ds vs h
section
variable {K : PySem.W.Frag} {a0 : Addr} {F : Hp}
theorem RpAll.len : ∀ {vs : List V} {ds : List D}, RpAll K a0 F vs ds → vs.length = ds.length
  | _, [], h => by cases h; rfl
  | _, d :: ds, h => by
    cases h with
    | cons h1 h2 => simp [h2.len]
theorem RpAll.app : ∀ {vs ws : List V} {ds es : List D}, RpAll K a0 F vs ds → RpAll K a0 F ws es → RpAll K a0 F (vs ++ ws) (ds ++ es)
  | _, _, [], _, h, g => by cases h; exact g
  | _, _, d :: ds, _, h, g => by
    cases h with
    | cons h1 h2 => exact .cons h1 (h2.app g)
theorem RpAll.one {v : V} {d : D} (h : Rp K a0 F v d) : RpAll K a0 F [v] [d] := .cons h .nil
theorem RpAll.take : ∀ (n : Nat) {vs : List V} {ds : List D}, RpAll K a0 F vs ds → RpAll K a0 F (vs.take n) (ds.take n)
  | 0, _, _, _ => .nil
  | n + 1, _, _, .nil => .nil
  | n + 1, _, _, .cons h1 h2 => .cons h1 (h2.take n)
theorem RpAll.drop : ∀ (n : Nat) {vs : List V} {ds : List D}, RpAll K a0 F vs ds → RpAll K a0 F (vs.drop n) (ds.drop n)
  | 0, _, _, h => h
  | n + 1, _, _, .nil => .nil
  | n + 1, _, _, .cons h1 h2 => h2.drop n
theorem RpAll.rev : ∀ {vs : List V} {ds : List D}, RpAll K a0 F vs ds → RpAll K a0 F vs.reverse ds.reverse
  | _, [], h => by cases h; exact .nil
  | _, d :: ds, h => by
    cases h with
    | cons h1 h2 =>
      rw [List.reverse_cons, List.reverse_cons]
      exact h2.rev.app (.one h1)
theorem RpAll.get : ∀ {vs : List V} {ds : List D} {i : Nat} {d : D}, RpAll K a0 F vs ds → ds[i]? = some d → ∃ v, vs[i]? = some v ∧ Rp K a0 F v d
  | _, [], _, _, _, e => by simp at e
  | _, x :: ds, 0, d, h, e => by
    cases h with
    | cons h1 h2 => simp at e; subst e; exact ⟨_, rfl, h1⟩
  | _, x :: ds, i + 1, d, h, e => by
    cases h with
    | cons h1 h2 =>
      obtain ⟨v, a, b⟩ := h2.get (i := i) (d := d) (by simpa using e)
      exact ⟨v, by simpa using a, b⟩
theorem RpAll.getv : ∀ {vs : List V} {ds : List D} {i : Nat} {v : V}, RpAll K a0 F vs ds → vs[i]? = some v → ∃ d, ds[i]? = some d ∧ Rp K a0 F v d
  | _, [], _, _, h, e => by cases h; simp at e
  | _, x :: ds, 0, v, h, e => by
    cases h with
    | cons h1 h2 => simp at e; subst e; exact ⟨_, rfl, h1⟩
  | _, x :: ds, i + 1, v, h, e => by
    cases h with
    | cons h1 h2 =>
      obtain ⟨d, a, b⟩ := h2.getv (i := i) (v := v) (by simpa using e)
      exact ⟨d, by simpa using a, b⟩
theorem RpAll.setv : ∀ {vs : List V} {ds : List D} (i : Nat) {v : V} {d : D}, RpAll K a0 F vs ds → Rp K a0 F v d → RpAll K a0 F (vs.set i v) (ds.set i d)
  | _, [], _, _, _, h, _ => by cases h; exact .nil
  | _, x :: ds, 0, v, d, h, g => by
    cases h with
    | cons h1 h2 => exact .cons g h2
  | _, x :: ds, i + 1, v, d, h, g => by
    cases h with
    | cons h1 h2 => exact .cons h1 (h2.setv i g)
theorem RpAll.dropLast {vs : List V} {ds : List D} (h : RpAll K a0 F vs ds) : RpAll K a0 F vs.dropLast ds.dropLast := by
  rw [List.dropLast_eq_take, List.dropLast_eq_take, h.len]
  exact h.take _
theorem RpAll.ints : ∀ {vs : List V} {ns : List Int}, RpAll K a0 F vs (ns.map D.int) → vs = ns.map V.int
  | _, [], h => by cases h; rfl
  | _, n :: ns, h => by
    cases h with
    | cons h1 h2 => cases h1; rw [h2.ints]; rfl
theorem RpAll.of_ints : ∀ (ns : List Int), RpAll K a0 F (ns.map V.int) (ns.map D.int)
  | [] => .nil
  | n :: ns => .cons (.int n) (RpAll.of_ints ns)
end

/-! ### the source of draws, what a def's names hold -/
structure SS where
  cells : List Int
  left : Int
  turn : Int
structure Exn where
  c : Str
  f : Str
  d : D
inductive Slot where
  | val (d : D)
  | own (xs : List D)
  | exn (c : Exn)
abbrev Env := List (Option Slot)
structure W where
  env : Env
  ss : SS
inductive R (α : Type) where
  | ok (a : α) (w : W)
  | exc (c : Exn) (w : W)
  | stuck
inductive RS where
  | nx (w : W)
  | ret (d : D) (w : W)
  | brk (w : W)
  | cnt (w : W)
  | exc (c : Exn) (w : W)
  | stuck

/-- what an own error's class must say, so that its field is read, isinstance asked -/
structure XCls (K : PySem.W.Frag) (C : Addr) (f : Str) : Prop where
  ga : PySem.W.findIn K (.ref C) "__getattribute__" = some (some (.builtin "BaseException.__getattribute__"))
  gg : PySem.W.findIn K (.ref C) "__getattr__" = some none
  exC : PySem.W.subIn K (.ref C) (.type "BaseException") = some true
  hdC : PySem.W.hasDictIn K C = true
  no : PySem.W.findIn K (.ref C) f = some none
  cl : PySem.W.findIn K (.ref C) "__class__" = some (some (.builtin "object.__class__"))
  sp : PySem.W.specialIn K (.builtin "object.__class__") "__get__" = some (some (.builtin "getset_descriptor.__get__"))
  tk : PySem.W.takesIn K (.builtin "object.__class__") = some true
  mo : PySem.W.mroIn K C (.type "object") = some true
/-- what is fixed while a def runs -/
structure Fm where
  a0 : Addr
  c0 : Addr
  G : Hp
  F0 : Hp
  xa : Addr
  xd : Addr
  xc : Str
  xk : Addr

structure SrcOk (a0 c0 : Addr) (F H : Hp) (ss : SS) : Prop where
  fr : F a0 = none
  at0 : H a0 = some (.lst [.ref c0, .int ss.left, .int ss.turn])
  cells : F c0 = some (.lst (ss.cells.map .int))
  ne : ss.cells ≠ []
  nn : ∀ c ∈ ss.cells, 0 ≤ c
  left : 0 ≤ ss.left
  turn : 0 ≤ ss.turn

def Own (K : PySem.W.Frag) (fm : Fm) (F H : Hp) (p : Addr) (xs : List D) : Prop :=
  p ≠ fm.a0 ∧ F p = none ∧ fm.G p = none ∧ ∃ vs, H p = some (.lst vs) ∧ RpAll K fm.a0 F vs xs
def SlotOk (K : PySem.W.Frag) (fm : Fm) (F H : Hp) (v : V) : Slot → Prop
  | .val d => Rp K fm.a0 F v d
  | .own xs => ∃ p, v = .ref p ∧ Own K fm F H p xs
  | .exn c => v = .ref fm.xa ∧ c.c = fm.xc ∧ XCls K fm.xk c.f ∧ ∃ vv : V, F fm.xd = some (.xd [(c.f, vv)]) ∧ Rp K fm.a0 F vv c.d
abbrev Exs := List (Addr × List D)

structure Rel (K : PySem.W.Frag) (fm : Fm) (ex : Exs) (σ : L2.St) (H F : Hp) (w : W) : Prop where
  f0 : Ex fm.F0 F
  fh : Ex F H
  gh : ∀ b o, b ≠ fm.a0 → fm.G b = some o → H b = some o
  fg : ∀ b o, F b = some o → fm.F0 b = some o ∨ fm.G b = none
  src : SrcOk fm.a0 fm.c0 F H w.ss
  len : w.env.length = σ.length
  slot : ∀ (i : Nat) (s : Slot), w.env[i]? = some (some s) → ∃ v : V, σ[i]? = some (some v) ∧ SlotOk K fm F H v s
  ap : ∀ (i j : Nat) (xs ys : List D) (p : Addr), w.env[i]? = some (some (.own xs)) → w.env[j]? = some (some (.own ys)) → σ[i]? = some (some (.ref p)) → σ[j]? = some (some (.ref p)) → i = j
  exo : ∀ q ∈ ex, Own K fm F H q.1 q.2
  exn : (ex.map (·.1)).Nodup
  exs : ∀ q ∈ ex, ∀ (i : Nat) (xs : List D), w.env[i]? = some (some (.own xs)) → σ[i]? ≠ some (some (.ref q.1))

/-- what stood stands (the source's list may have changed) -/
def Kp (a0 : Addr) (H H' : Hp) : Prop := ∀ b o, b ≠ a0 → H b = some o → H' b = some o
theorem Kp.refl {a0 : Addr} {H : Hp} : Kp a0 H H := fun _ _ _ h => h
theorem Kp.trans {a0 : Addr} {H H1 H2 : Hp} (a : Kp a0 H H1) (b : Kp a0 H1 H2) : Kp a0 H H2 := fun x o n h => b x o n (a x o n h)

/-- growth: what stood stands, but the source's list -/
structure Gk (a0 : Addr) (H F H' F' : Hp) : Prop where
  hh : Kp a0 H H'
  ff : Ex F F'
  fh : Ex F' H'
  fn : ∀ b o, F' b = some o → F b = some o ∨ H b = none
/-- pure growth -/
structure Gr (H F H' F' : Hp) : Prop where
  hh : Ex H H'
  ff : Ex F F'
  fh : Ex F' H'
  fn : ∀ b o, F' b = some o → F b = some o ∨ H b = none
theorem Gr.refl {H F : Hp} (h : Ex F H) : Gr H F H F := ⟨Ex.refl _, Ex.refl _, h, fun _ _ e => .inl e⟩
theorem Gr.gk {fm : Fm} {H F H' F' : Hp} (g : Gr H F H' F') : Gk fm.a0 H F H' F' := ⟨fun b o _ h => g.hh b o h, g.ff, g.fh, g.fn⟩
theorem Gr.kp {fm : Fm} {H F H' F' : Hp} (g : Gr H F H' F') : Kp fm.a0 H H' := fun b o _ h => g.hh b o h
theorem Gr.trans {H F H1 F1 H2 F2 : Hp} (a : Gr H F H1 F1) (b : Gr H1 F1 H2 F2) : Gr H F H2 F2 := ⟨a.hh.trans b.hh, a.ff.trans b.ff, b.fh, fun x o e => by
  rcases b.fn x o e with z | z
  · exact a.fn x o z
  · refine .inr ?_
    cases q : H x with
    | none => rfl
    | some u => rw [a.hh x u q] at z; cases z⟩
theorem none_of_ex {F H : Hp} {p : Addr} (h : Ex F H) (hp : H p = none) : F p = none := by
  cases e : F p with
  | none => rfl
  | some u => rw [h p u e] at hp; cases hp
/-- one new object, never to be changed -/
theorem Gr.new {H F : Hp} {p : Addr} {o : HO} (h : Ex F H) (hp : H p = none) : Gr H F (upd H p o) (upd F p o) := by
  have fp : F p = none := none_of_ex h hp
  refine ⟨Ex.new hp, Ex.new fp, fun b u e => ?_, fun b u e => ?_⟩
  · by_cases hb : b = p
    · subst hb; rw [upd_same] at e ⊢; exact e
    · rw [upd_ne hb] at e ⊢; exact h b u e
  · by_cases hb : b = p
    · subst hb; exact .inr hp
    · rw [upd_ne hb] at e; exact .inl e
/-- one new object that is not known -/
theorem Gr.dark {H F : Hp} {p : Addr} {o : HO} (h : Ex F H) (hp : H p = none) : Gr H F (upd H p o) F :=
  ⟨Ex.new hp, Ex.refl _, h.trans (Ex.new hp), fun _ _ e => .inl e⟩
section
variable {K : PySem.W.Frag} {fm : Fm} {ex : Exs} {σ : L2.St} {H F H' F' : Hp} {w : W} {ss' : SS}
theorem Own.gk {p : Addr} {xs : List D} (o : Own K fm F H p xs) (g : Gk fm.a0 H F H' F') : Own K fm F' H' p xs := by
  obtain ⟨h1, h2, h3, vs, h4, h5⟩ := o
  refine ⟨h1, ?_, h3, vs, g.hh _ _ h1 h4, h5.ex g.ff⟩
  cases e : F' p with
  | none => rfl
  | some u =>
    rcases g.fn p u e with z | z
    · rw [h2] at z; cases z
    · rw [h4] at z; cases z
theorem Rel.step (r : Rel K fm ex σ H F w) (g : Gk fm.a0 H F H' F') (s : SrcOk fm.a0 fm.c0 F' H' ss') : Rel K fm ex σ H' F' { w with ss := ss' } where
  f0 := r.f0.trans g.ff
  fh := g.fh
  gh := fun b o n h => g.hh b o n (r.gh b o n h)
  fg := fun b o h => by
    rcases g.fn b o h with z | z
    · exact r.fg b o z
    · refine .inr ?_
      cases e : fm.G b with
      | none => rfl
      | some u =>
        by_cases hb : b = fm.a0
        · subst hb; rw [r.src.at0] at z; cases z
        · have := r.gh b u hb e
          rw [z] at this; cases this
  src := s
  len := r.len
  slot := fun i s h => by
    obtain ⟨v, e, k⟩ := r.slot i s h
    refine ⟨v, e, ?_⟩
    cases s with
    | val d => exact Rp.ex k g.ff
    | own xs => obtain ⟨p, e, o⟩ := k; exact ⟨p, e, o.gk g⟩
    | exn c => obtain ⟨e1, e2, e3, vv, h1, h2⟩ := k; exact ⟨e1, e2, e3, vv, g.ff _ _ h1, h2.ex g.ff⟩
  ap := r.ap
  exo := fun q hq => (r.exo q hq).gk g
  exn := r.exn
  exs := r.exs
theorem SrcOk.gr {ss : SS} (s : SrcOk fm.a0 fm.c0 F H ss) (g : Gr H F H' F') : SrcOk fm.a0 fm.c0 F' H' ss := by
  refine ⟨?_, g.hh _ _ s.at0, g.ff _ _ s.cells, s.ne, s.nn, s.left, s.turn⟩
  cases e : F' fm.a0 with
  | none => rfl
  | some u =>
    rcases g.fn _ u e with z | z
    · rw [s.fr] at z; cases z
    · rw [s.at0] at z; cases z
theorem Rel.gr (r : Rel K fm ex σ H F w) (g : Gr H F H' F') : Rel K fm ex σ H' F' w := r.step g.gk (r.src.gr g)

theorem slot_set {i j : Nat} {s : Slot} {t : Option Slot} {env : Env} (h : (env.set i t)[j]? = some (some s)) : (j = i ∧ i < env.length ∧ t = some s) ∨ (j ≠ i ∧ env[j]? = some (some s)) := by
  by_cases hj : j = i
  · subst hj
    by_cases hl : j < env.length
    · rw [List.getElem?_set_self hl] at h
      exact .inl ⟨rfl, hl, Option.some.inj h⟩
    · rw [List.getElem?_eq_none (by simpa using hl)] at h; cases h
  · rw [List.getElem?_set_ne (Ne.symm hj)] at h
    exact .inr ⟨hj, h⟩
/-- a name is given a value -/
theorem Rel.setVal (r : Rel K fm ex σ H F w) (i : Nat) {v : V} {d : D} (hv : Rp K fm.a0 F v d) : Rel K fm ex (σ.set i (some v)) H F { w with env := w.env.set i (some (.val d)) } where
  f0 := r.f0
  fh := r.fh
  gh := r.gh
  fg := r.fg
  src := r.src
  len := by simp [r.len]
  slot := fun j s h => by
    rcases slot_set h with ⟨rfl, hl, e⟩ | ⟨hj, h⟩
    · cases e
      exact ⟨v, List.getElem?_set_self (by rw [← r.len]; exact hl), hv⟩
    · obtain ⟨u, e, k⟩ := r.slot j s h
      exact ⟨u, by rw [List.getElem?_set_ne (Ne.symm hj)]; exact e, k⟩
  ap := fun j k xs ys p h1 h2 h3 h4 => by
    rcases slot_set h1 with ⟨_, _, e⟩ | ⟨hj, h1⟩
    · cases e
    · rcases slot_set h2 with ⟨_, _, e⟩ | ⟨hk, h2⟩
      · cases e
      · rw [List.getElem?_set_ne (Ne.symm hj)] at h3
        rw [List.getElem?_set_ne (Ne.symm hk)] at h4
        exact r.ap j k xs ys p h1 h2 h3 h4
  exo := r.exo
  exn := r.exn
  exs := fun q hq j xs h1 h2 => by
    rcases slot_set h1 with ⟨_, _, e⟩ | ⟨hj, h1⟩
    · cases e
    · rw [List.getElem?_set_ne (Ne.symm hj)] at h2
      exact r.exs q hq j xs h1 h2
/-- a name is given a new list -/
theorem Rel.setOwn {p : Addr} {xs : List D} (r : Rel K fm ((p, xs) :: ex) σ H F w) (i : Nat) : Rel K fm ex (σ.set i (some (.ref p))) H F { w with env := w.env.set i (some (.own xs)) } where
  f0 := r.f0
  fh := r.fh
  gh := r.gh
  fg := r.fg
  src := r.src
  len := by simp [r.len]
  slot := fun j s h => by
    rcases slot_set h with ⟨rfl, hl, e⟩ | ⟨hj, h⟩
    · cases e
      exact ⟨.ref p, List.getElem?_set_self (by rw [← r.len]; exact hl), p, rfl, r.exo _ (List.mem_cons_self ..)⟩
    · obtain ⟨u, e, k⟩ := r.slot j s h
      exact ⟨u, by rw [List.getElem?_set_ne (Ne.symm hj)]; exact e, k⟩
  ap := fun j k ys zs q h1 h2 h3 h4 => by
    rcases slot_set h1 with ⟨rfl, hl, e⟩ | ⟨hj, h1⟩
    · rcases slot_set h2 with ⟨rfl, _, _⟩ | ⟨hk, h2⟩
      · rfl
      · rw [List.getElem?_set_self (by rw [← r.len]; exact hl)] at h3
        rw [List.getElem?_set_ne (Ne.symm hk)] at h4
        cases h3
        exact absurd h4 (r.exs _ (List.mem_cons_self ..) k zs h2)
    · have h1o := h1
      rcases slot_set h2 with ⟨rfl, hl, _⟩ | ⟨hk, h2⟩
      · rw [List.getElem?_set_self (by rw [← r.len]; exact hl)] at h4
        rw [List.getElem?_set_ne (Ne.symm hj)] at h3
        cases h4
        exact absurd h3 (r.exs _ (List.mem_cons_self ..) j ys h1o)
      · rw [List.getElem?_set_ne (Ne.symm hj)] at h3
        rw [List.getElem?_set_ne (Ne.symm hk)] at h4
        exact r.ap j k ys zs q h1 h2 h3 h4
  exo := fun q hq => r.exo q (List.mem_cons_of_mem _ hq)
  exn := (List.nodup_cons.mp r.exn).2
  exs := fun q hq j ys h1 h2 => by
    rcases slot_set h1 with ⟨rfl, hl, e⟩ | ⟨hj, h1⟩
    · rw [List.getElem?_set_self (by rw [← r.len]; exact hl)] at h2
      have e2 : p = q.1 := by cases h2; rfl
      exact (List.nodup_cons.mp r.exn).1 (List.mem_map.mpr ⟨q, hq, e2.symm⟩)
    · rw [List.getElem?_set_ne (Ne.symm hj)] at h2
      exact r.exs q (List.mem_cons_of_mem _ hq) j ys h1 h2
theorem Rel.drop1 {q : Addr × List D} (r : Rel K fm (q :: ex) σ H F w) : Rel K fm ex σ H F w :=
  ⟨r.f0, r.fh, r.gh, r.fg, r.src, r.len, r.slot, r.ap, fun q hq => r.exo q (List.mem_cons_of_mem _ hq), (List.nodup_cons.mp r.exn).2, fun q hq => r.exs q (List.mem_cons_of_mem _ hq)⟩
/-- a name is forgotten -/
theorem Rel.setNone (r : Rel K fm ex σ H F w) (i : Nat) (o : Option V) : Rel K fm ex (σ.set i o) H F { w with env := w.env.set i none } where
  f0 := r.f0
  fh := r.fh
  gh := r.gh
  fg := r.fg
  src := r.src
  len := by simp [r.len]
  slot := fun j s h => by
    rcases slot_set h with ⟨rfl, hl, e⟩ | ⟨hj, h⟩
    · cases e
    · obtain ⟨u, e, k⟩ := r.slot j s h
      exact ⟨u, by rw [List.getElem?_set_ne (Ne.symm hj)]; exact e, k⟩
  ap := fun j k xs ys p h1 h2 h3 h4 => by
    rcases slot_set h1 with ⟨_, _, e⟩ | ⟨hj, h1⟩
    · cases e
    · rcases slot_set h2 with ⟨_, _, e⟩ | ⟨hk, h2⟩
      · cases e
      · rw [List.getElem?_set_ne (Ne.symm hj)] at h3
        rw [List.getElem?_set_ne (Ne.symm hk)] at h4
        exact r.ap j k xs ys p h1 h2 h3 h4
  exo := r.exo
  exn := r.exn
  exs := fun q hq j xs h1 h2 => by
    rcases slot_set h1 with ⟨_, _, e⟩ | ⟨hj, h1⟩
    · cases e
    · rw [List.getElem?_set_ne (Ne.symm hj)] at h2
      exact r.exs q hq j xs h1 h2
/-- freezing at p -/
theorem Own.frz {p q : Addr} {xs : List D} {o : HO} (h : Own K fm F H q xs) (n : q ≠ p) (fp : F p = none) : Own K fm (upd F p o) H q xs := by
  obtain ⟨h1, h2, h3, vs, h4, h5⟩ := h
  exact ⟨h1, by rw [upd_ne n]; exact h2, h3, vs, h4, h5.ex (Ex.new fp)⟩
/-- a new list is never to be changed from here on -/
theorem Rel.frz {p : Addr} {xs : List D} (r : Rel K fm ((p, xs) :: ex) σ H F w) : ∃ F', Ex F F' ∧ Rel K fm ex σ H F' w ∧ Rp K fm.a0 F' (.ref p) (.lst xs) := by
  obtain ⟨h1, h2, h3, vs, h4, h5⟩ := r.exo _ (List.mem_cons_self ..)
  have h1 : p ≠ fm.a0 := h1
  have h2 : F p = none := h2
  have h3 : fm.G p = none := h3
  have h4 : H p = some (.lst vs) := h4
  have e : Ex F (upd F p (.lst vs)) := Ex.new h2
  refine ⟨upd F p (.lst vs), e, ?_, .lst upd_same (h5.ex e)⟩
  have r := r
  refine ⟨r.f0.trans e, fun b o q => ?_, r.gh, fun b o q => ?_, ⟨by rw [upd_ne (Ne.symm h1)]; exact r.src.fr, r.src.at0, e _ _ r.src.cells, r.src.ne, r.src.nn, r.src.left, r.src.turn⟩, r.len, fun i s q => ?_, r.ap, fun q hq => ?_, (List.nodup_cons.mp r.exn).2, fun q hq => r.exs q (List.mem_cons_of_mem _ hq)⟩
  · by_cases hb : b = p
    · subst hb; rw [upd_same] at q; cases q; exact h4
    · rw [upd_ne hb] at q; exact r.fh b o q
  · by_cases hb : b = p
    · subst hb; exact .inr h3
    · rw [upd_ne hb] at q; exact r.fg b o q
  · obtain ⟨v, e1, k⟩ := r.slot i s q
    refine ⟨v, e1, ?_⟩
    cases s with
    | val d => exact Rp.ex k e
    | own ys =>
      obtain ⟨p', rfl, o⟩ := k
      exact ⟨p', rfl, o.frz (fun z => r.exs _ (List.mem_cons_self ..) i ys q (by rw [e1, z])) h2⟩
    | exn c => obtain ⟨a1, a2, a3, vv, b1, b2⟩ := k; exact ⟨a1, a2, a3, vv, e _ _ b1, b2.ex e⟩
  · exact (r.exo q (List.mem_cons_of_mem _ hq)).frz (fun z => (List.nodup_cons.mp r.exn).1 (List.mem_map.mpr ⟨q, hq, z⟩)) h2
/-- the list of a name is taken out of the name -/
theorem Rel.takeOwn {i : Nat} {xs : List D} (r : Rel K fm ex σ H F w) (h : w.env[i]? = some (some (.own xs))) : ∃ p, σ[i]? = some (some (.ref p)) ∧ Rel K fm ((p, xs) :: ex) σ H F { w with env := w.env.set i none } := by
  obtain ⟨v, e, p, rfl, o⟩ := r.slot i _ h
  refine ⟨p, e, ?_⟩
  have r2 : Rel K fm ex σ H F { w with env := w.env.set i none } := by
    have z := r.setNone i (some (.ref p))
    have hl : i < σ.length := (List.getElem?_eq_some_iff.mp e).1
    have e2 : σ.set i (some (.ref p)) = σ := by
      have := (List.getElem?_eq_some_iff.mp e).2
      rw [← this]; exact List.set_getElem_self hl
    rw [e2] at z
    exact z
  refine ⟨r2.f0, r2.fh, r2.gh, r2.fg, r2.src, r2.len, r2.slot, r2.ap, fun q hq => ?_, ?_, fun q hq j ys h1 h2 => ?_⟩
  · rcases List.mem_cons.mp hq with rfl | hq
    · exact o
    · exact r.exo q hq
  · refine List.nodup_cons.mpr ⟨fun z => ?_, r.exn⟩
    obtain ⟨q, hq, z⟩ := List.mem_map.mp z
    exact r.exs q hq i xs h (by rw [e, z])
  · rcases List.mem_cons.mp hq with rfl | hq
    · rcases slot_set h1 with ⟨_, _, e⟩ | ⟨hj, h1⟩
      · cases e
      · exact hj (r.ap j i ys xs p h1 h h2 e)
    · exact r2.exs q hq j ys h1 h2
/-- a name's list is read as a value: it is never to be changed from here on -/
theorem Rel.frzSlot {i : Nat} {xs : List D} (r : Rel K fm ex σ H F w) (h : w.env[i]? = some (some (.own xs))) :
    ∃ p F', σ[i]? = some (some (.ref p)) ∧ Ex F F' ∧ Rel K fm ex σ H F' { w with env := w.env.set i (some (.val (.lst xs))) } ∧ Rp K fm.a0 F' (.ref p) (.lst xs) := by
  obtain ⟨p, e, r1⟩ := r.takeOwn h
  obtain ⟨F', ef, r2, k⟩ := r1.frz
  refine ⟨p, F', e, ef, ?_, k⟩
  have z := r2.setVal i k
  have hl : i < σ.length := (List.getElem?_eq_some_iff.mp e).1
  have e2 : σ.set i (some (.ref p)) = σ := by
    have := (List.getElem?_eq_some_iff.mp e).2
    rw [← this]; exact List.set_getElem_self hl
  rw [e2] at z
  simpa using z
/-- a new list is laid -/
theorem Rel.lay {p : Addr} {vs : List V} {xs : List D} (r : Rel K fm ex σ H F w) (hp : H p = none) (hv : RpAll K fm.a0 F vs xs) : Rel K fm ((p, xs) :: ex) σ (upd H p (.lst vs)) F w := by
  have r2 := r.gr (Gr.dark (o := .lst vs) r.fh hp)
  have n0 : p ≠ fm.a0 := fun z => by subst z; rw [r.src.at0] at hp; cases hp
  have ng : fm.G p = none := by
    cases e : fm.G p with
    | none => rfl
    | some u => rw [r.gh p u n0 e] at hp; cases hp
  refine ⟨r2.f0, r2.fh, r2.gh, r2.fg, r2.src, r2.len, r2.slot, r2.ap, fun q hq => ?_, ?_, fun q hq j ys h1 h2 => ?_⟩
  · rcases List.mem_cons.mp hq with rfl | hq
    · exact ⟨n0, none_of_ex r.fh hp, ng, vs, upd_same, hv⟩
    · exact r2.exo q hq
  · refine List.nodup_cons.mpr ⟨fun z => ?_, r.exn⟩
    obtain ⟨q, hq, z⟩ := List.mem_map.mp z
    obtain ⟨_, _, _, us, h4, _⟩ := r.exo q hq
    rw [z, hp] at h4; cases h4
  · rcases List.mem_cons.mp hq with rfl | hq
    · obtain ⟨v, e, p', e2, _, _, _, us, h4, _⟩ := r.slot j _ h1
      rw [h2] at e
      cases e
      cases e2
      rw [hp] at h4; cases h4
    · exact r2.exs q hq j ys h1 h2
/-- the first new list is changed -/
theorem Rel.mut {p : Addr} {vs : List V} {xs ys : List D} (r : Rel K fm ((p, xs) :: ex) σ H F w) (hv : RpAll K fm.a0 F vs ys) : Rel K fm ((p, ys) :: ex) σ (upd H p (.lst vs)) F w := by
  obtain ⟨h1, h2, h3, us, h4, h5⟩ := r.exo _ (List.mem_cons_self ..)
  have h1 : p ≠ fm.a0 := h1
  have h2 : F p = none := h2
  have h3 : fm.G p = none := h3
  have nf : ∀ b o, F b = some o → b ≠ p := fun b o e z => by subst z; rw [h2] at e; cases e
  have ow : ∀ {q : Addr} {zs : List D}, q ≠ p → Own K fm F H q zs → Own K fm F (upd H p (.lst vs)) q zs := fun n ⟨a, b, c, u, d, e⟩ => ⟨a, b, c, u, by rw [upd_ne n]; exact d, e⟩
  refine ⟨r.f0, fun b o e => by rw [upd_ne (nf b o e)]; exact r.fh b o e, fun b o n e => by rw [upd_ne (fun z => by subst z; rw [h3] at e; cases e)]; exact r.gh b o n e, r.fg,
    ⟨r.src.fr, by rw [upd_ne (Ne.symm h1)]; exact r.src.at0, r.src.cells, r.src.ne, r.src.nn, r.src.left, r.src.turn⟩, r.len, fun i s q => ?_, r.ap, fun q hq => ?_, r.exn, fun q hq j zs q1 q2 => ?_⟩
  · obtain ⟨v, e1, k⟩ := r.slot i s q
    refine ⟨v, e1, ?_⟩
    cases s with
    | val d => exact k
    | own zs =>
      obtain ⟨p', rfl, o⟩ := k
      exact ⟨p', rfl, ow (fun z => r.exs _ (List.mem_cons_self ..) i zs q (by rw [e1, z])) o⟩
    | exn c => exact k
  · rcases List.mem_cons.mp hq with rfl | hq
    · exact ⟨h1, h2, h3, vs, upd_same, hv⟩
    · exact ow (fun z => (List.nodup_cons.mp r.exn).1 (List.mem_map.mpr ⟨q, hq, z⟩)) (r.exo q (List.mem_cons_of_mem _ hq))
  · rcases List.mem_cons.mp hq with rfl | hq
    · exact r.exs _ (List.mem_cons_self ..) j zs q1 q2
    · exact r.exs q (List.mem_cons_of_mem _ hq) j zs q1 q2
/-- the new list goes back to its name -/
theorem Rel.putOwn {p : Addr} {i : Nat} {xs : List D} (r : Rel K fm ((p, xs) :: ex) σ H F w) (e : σ[i]? = some (some (.ref p))) : Rel K fm ex σ H F { w with env := w.env.set i (some (.own xs)) } := by
  have z := r.setOwn i
  have hl : i < σ.length := (List.getElem?_eq_some_iff.mp e).1
  have e2 : σ.set i (some (.ref p)) = σ := by
    have := (List.getElem?_eq_some_iff.mp e).2
    rw [← this]; exact List.set_getElem_self hl
  rw [e2] at z
  exact z
/-- behind an expression whose value bears no address the names hold what they held -/
theorem Rel.unf {w' : W} (r : Rel K fm ex σ H F w) (k : Kp fm.a0 H H') (f : Ex F F') (r' : Rel K fm ex σ H' F' w') : Rel K fm ex σ H' F { env := w.env, ss := w'.ss } := by
  have ow : ∀ {q : Addr} {zs : List D}, Own K fm F H q zs → Own K fm F H' q zs := fun ⟨a, b, c, u, d, e⟩ => ⟨a, b, c, u, k _ _ a d, e⟩
  refine ⟨r.f0, f.trans r'.fh, r'.gh, r.fg, ⟨r.src.fr, r'.src.at0, ?_, r'.src.ne, r'.src.nn, r'.src.left, r'.src.turn⟩, r.len, fun i s q => ?_, r.ap, fun q hq => ow (r.exo q hq), r.exn, r.exs⟩
  · have h1 := f _ _ r.src.cells
    rw [r'.src.cells] at h1
    rw [r.src.cells, ← h1]
  · obtain ⟨v, e1, kk⟩ := r.slot i s q
    refine ⟨v, e1, ?_⟩
    cases s with
    | val d => exact kk
    | own zs => obtain ⟨p', rfl, o⟩ := kk; exact ⟨p', rfl, ow o⟩
    | exn c => exact kk
/-! ### a caught exception's name -/
def noX (env : Env) : Env := env.map fun s => match s with
  | some (.exn _) => none
  | s => s
theorem noX_get {env : Env} {i : Nat} {s : Slot} (h : (noX env)[i]? = some (some s)) : env[i]? = some (some s) ∧ ∀ c, s ≠ .exn c := by
  unfold noX at h
  rw [List.getElem?_map] at h
  cases e : env[i]? with
  | none => rw [e] at h; cases h
  | some o =>
    rw [e] at h
    cases o with
    | none => cases h
    | some t =>
      cases t with
      | exn c => cases h
      | val d => cases h; exact ⟨rfl, fun _ z => by cases z⟩
      | own xs => cases h; exact ⟨rfl, fun _ z => by cases z⟩
theorem Rel.enter (r : Rel K fm ex σ H F w) (a d : Addr) (n : Str) (k : Addr) : Rel K { fm with xa := a, xd := d, xc := n, xk := k } ex σ H F { w with env := noX w.env } where
  f0 := r.f0
  fh := r.fh
  gh := r.gh
  fg := r.fg
  src := r.src
  len := by simp [noX, r.len]
  slot := fun i s h => by
    obtain ⟨h1, h2⟩ := noX_get h
    obtain ⟨v, e, k⟩ := r.slot i s h1
    refine ⟨v, e, ?_⟩
    cases s with
    | val d => exact k
    | own xs => exact k
    | exn c => exact absurd rfl (h2 c)
  ap := fun i j xs ys p h1 h2 h3 h4 => r.ap i j xs ys p (noX_get h1).1 (noX_get h2).1 h3 h4
  exo := r.exo
  exn := r.exn
  exs := fun q hq i xs h1 h2 => r.exs q hq i xs (noX_get h1).1 h2
theorem Rel.leave {a d : Addr} {n : Str} {k : Addr} (r : Rel K { fm with xa := a, xd := d, xc := n, xk := k } ex σ H F w) : Rel K fm ex σ H F { w with env := noX w.env } := (r.enter fm.xa fm.xd fm.xc fm.xk)
theorem Rel.frzX {d : Addr} {fs : List (Str × V)} (r : Rel K fm ex σ H F w) (hd : H d = some (.xd fs)) (hg : fm.G d = none) : ∃ F', Ex F F' ∧ F' d = some (.xd fs) ∧ Rel K fm ex σ H F' w := by
  have n0 : d ≠ fm.a0 := fun z => by subst z; rw [r.src.at0] at hd; cases hd
  have hF : ∀ o, F d = some o → o = .xd fs := fun o e => by have := r.fh d o e; rw [hd] at this; cases this; rfl
  have e : Ex F (upd F d (.xd fs)) := fun b o q => by
    by_cases hb : b = d
    · subst hb; rw [hF o q, upd_same]
    · rw [upd_ne hb]; exact q
  have ow : ∀ {q : Addr} {zs : List D}, Own K fm F H q zs → Own K fm (upd F d (.xd fs)) H q zs := fun ⟨a, b, c, u, x, y⟩ => by
    refine ⟨a, ?_, c, u, x, y.ex e⟩
    rw [upd_ne (fun z => by subst z; rw [x] at hd; cases hd)]
    exact b
  refine ⟨_, e, upd_same, r.f0.trans e, fun b o q => ?_, r.gh, fun b o q => ?_, ⟨by rw [upd_ne (Ne.symm n0)]; exact r.src.fr, r.src.at0, e _ _ r.src.cells, r.src.ne, r.src.nn, r.src.left, r.src.turn⟩, r.len, fun i s q => ?_, r.ap, fun q hq => ow (r.exo q hq), r.exn, r.exs⟩
  · by_cases hb : b = d
    · subst hb; rw [upd_same] at q; cases q; exact hd
    · rw [upd_ne hb] at q; exact r.fh b o q
  · by_cases hb : b = d
    · subst hb; exact .inr hg
    · rw [upd_ne hb] at q; exact r.fg b o q
  · obtain ⟨v, e1, k⟩ := r.slot i s q
    refine ⟨v, e1, ?_⟩
    cases s with
    | val d => exact Rp.ex k e
    | own zs => obtain ⟨p', rfl, o⟩ := k; exact ⟨p', rfl, ow o⟩
    | exn c => obtain ⟨a1, a2, a3, vv, b1, b2⟩ := k; exact ⟨a1, a2, a3, vv, e _ _ b1, b2.ex e⟩
theorem Rel.setX (r : Rel K fm ex σ H F w) (i : Nat) {c : Exn} {vv : V} (hc : c.c = fm.xc) (hk : XCls K fm.xk c.f) (hd : F fm.xd = some (.xd [(c.f, vv)])) (hv : Rp K fm.a0 F vv c.d) : Rel K fm ex (σ.set i (some (.ref fm.xa))) H F { w with env := w.env.set i (some (.exn c)) } where
  f0 := r.f0
  fh := r.fh
  gh := r.gh
  fg := r.fg
  src := r.src
  len := by simp [r.len]
  slot := fun j s h => by
    rcases slot_set h with ⟨rfl, hl, e⟩ | ⟨hj, h⟩
    · cases e
      exact ⟨_, List.getElem?_set_self (by rw [← r.len]; exact hl), rfl, hc, hk, vv, hd, hv⟩
    · obtain ⟨u, e, k⟩ := r.slot j s h
      exact ⟨u, by rw [List.getElem?_set_ne (Ne.symm hj)]; exact e, k⟩
  ap := fun j k xs ys p h1 h2 h3 h4 => by
    rcases slot_set h1 with ⟨_, _, e⟩ | ⟨hj, h1⟩
    · cases e
    · rcases slot_set h2 with ⟨_, _, e⟩ | ⟨hk, h2⟩
      · cases e
      · rw [List.getElem?_set_ne (Ne.symm hj)] at h3
        rw [List.getElem?_set_ne (Ne.symm hk)] at h4
        exact r.ap j k xs ys p h1 h2 h3 h4
  exo := r.exo
  exn := r.exn
  exs := fun q hq j xs h1 h2 => by
    rcases slot_set h1 with ⟨_, _, e⟩ | ⟨hj, h1⟩
    · cases e
    · rw [List.getElem?_set_ne (Ne.symm hj)] at h2
      exact r.exs q hq j xs h1 h2
end
end TD

set_option Elab.async false
set_option linter.all false
set_option maxRecDepth 100000
set_option maxHeartbeats 4000000
namespace TD
open PySem PySem.Spec PyProof.Rows L2

/-! ### the strongest readings -/
def WE (X : Cx) (e : Expr) : TE := fun σ H Q => ∀ (pins : List (Addr × Obj)) (s : Shared), Inv X pins σ H s → wpAny (model X.prog X.w) X.A (eval e X.env) (EP X pins σ Q) X.xe s
def WT (X : Cx) (e : Expr) : TT := fun σ H Q => ∀ (pins : List (Addr × Obj)) (s : Shared), Inv X pins σ H s → wpAny (model X.prog X.w) X.A (isTrue e X.env (eval e X.env)) (TP X pins σ Q) X.xe s
def WA (X : Cx) (es : List Expr) : TA := fun σ H Q => ∀ (pos : Pos) (pins : List (Addr × Obj)) (s : Shared), Inv X pins σ H s → wpAny (model X.prog X.w) X.A (spliced (backTo pos (starEach es X.env))) (AP X pins σ Q) X.xe s
def WS (X : Cx) (st : Stmt) : TS := fun D σ H => ∀ (pins : List (Addr × Obj)) (s : Shared), Inv X pins σ H s → wpAny (model X.prog X.w) X.A (exec st X.env) (SP X pins D) X.xe s
def WSs (X : Cx) (st : List Stmt) : TS := fun D σ H => ∀ (pins : List (Addr × Obj)) (s : Shared), Inv X pins σ H s → wpAny (model X.prog X.w) X.A (execs st X.env) (SP X pins D) X.xe s
section
variable {X : Cx} {e : Expr} {es : List Expr} {st : Stmt} {sts : List Stmt} {σ : L2.St} {H : Hp}
theorem pe_we : PE X e (WE X e) := ⟨fun pins s _ _ _ I h => h pins s I⟩
theorem pt_wt : PT X e (WT X e) := ⟨fun pins s _ _ _ I h => h pins s I⟩
theorem pa_wa : PA X es (WA X es) := ⟨fun pos pins s _ _ _ I h => h pos pins s I⟩
theorem ps_ws : PS X st (WS X st) := ⟨fun pins s _ _ _ I h => h pins s I⟩
theorem pss_wss : PSs X sts (WSs X sts) := ⟨fun pins s _ _ _ I h => h pins s I⟩
theorem WE.of {t : TE} {Q : VK} (h : PE X e t) (q : t σ H Q) : WE X e σ H Q := fun pins s I => h.run pins s σ H Q I q
theorem WT.of {t : TT} {Q : Bool → Hp → Prop} (h : PT X e t) (q : t σ H Q) : WT X e σ H Q := fun pins s I => h.run pins s σ H Q I q
theorem WA.of {t : TA} {Q : List V → Hp → Prop} (h : PA X es t) (q : t σ H Q) : WA X es σ H Q := fun pos pins s I => h.run pos pins s σ H Q I q
theorem WS.of {t : TS} {D : Ends} (h : PS X st t) (q : t D σ H) : WS X st D σ H := fun pins s I => h.run pins s σ H D I q
theorem WSs.of {t : TS} {D : Ends} (h : PSs X sts t) (q : t D σ H) : WSs X sts D σ H := fun pins s I => h.run pins s σ H D I q
end
/-- an operation upon two values, as strong as it can be said -/
def W2 (X : Cx) (f : Value → Value → Sem Value) : R2 := fun x y H Q => ∀ (pins : List (Addr × Obj)) (s : Shared) (σ : L2.St) (v u : Value), Inv X pins σ H s → RelV x v → RelV y u → wpAny (model X.prog X.w) X.A (f v u) (EP X pins σ Q) X.xe s
theorem opr_w2 {X : Cx} {f : Value → Value → Sem Value} : OpR X f (W2 X f) := fun pins s σ H x y v u Q I rx ry h => h pins s σ v u I rx ry
theorem W2.of {X : Cx} {f : Value → Value → Sem Value} {r : R2} {x y : V} {H : Hp} {Q : VK} (h : OpR X f r) (q : r x y H Q) : W2 X f x y H Q := fun pins s σ v u I rx ry => h pins s σ H x y v u Q I rx ry q
def W1 (X : Cx) (f : Value → Sem Value) : V → Hp → VK → Prop := fun x H Q => ∀ (pins : List (Addr × Obj)) (s : Shared) (σ : L2.St) (v : Value), Inv X pins σ H s → RelV x v → wpAny (model X.prog X.w) X.A (f v) (EP X pins σ Q) X.xe s
theorem unr_w1 {X : Cx} {f : Value → Sem Value} : UnR X f (W1 X f) := fun pins s σ H x v Q I rx h => h pins s σ v I rx
theorem W1.of {X : Cx} {f : Value → Sem Value} {r : V → Hp → VK → Prop} {x : V} {H : Hp} {Q : VK} (h : UnR X f r) (q : r x H Q) : W1 X f x H Q := fun pins s σ v I rx => h pins s σ H x v Q I rx q
/-- a call of a value -/
def WC (X : Cx) (f : Value) : List V → Hp → VK → Prop := fun xs H Q => ∀ (pins : List (Addr × Obj)) (s : Shared) (σ : L2.St) (us : List Value), Inv X pins σ H s → Vals xs us → wpAny (model X.prog X.w) X.A (call f us) (EP X pins σ Q) X.xe s
theorem callr_wc {X : Cx} {f : Value} : CallR X f (WC X f) := fun pins s σ H xs us Q I r h => h pins s σ us I r
theorem WC.of {X : Cx} {f : Value} {r : List V → Hp → VK → Prop} {xs : List V} {H : Hp} {Q : VK} (h : CallR X f r) (q : r xs H Q) : WC X f xs H Q := fun pins s σ us I rr => h pins s σ H xs us Q I rr q

/-! ### outcomes -/
def R.bind {α β : Type} (r : R α) (k : α → W → R β) : R β := match r with
  | .ok a w => k a w
  | .exc c w => .exc c w
  | .stuck => .stuck
def R.lift {α : Type} (o : Option α) (w : W) : R α := match o with
  | some a => .ok a w
  | none => .stuck
@[simp] theorem R.bind_ok {α β : Type} (a : α) (w : W) (k : α → W → R β) : (R.ok a w).bind k = k a w := rfl
@[simp] theorem R.bind_exc {α β : Type} (c : Exn) (w : W) (k : α → W → R β) : (R.exc c w : R α).bind k = .exc c w := rfl
@[simp] theorem R.bind_stuck {α β : Type} (k : α → W → R β) : (R.stuck : R α).bind k = .stuck := rfl
@[simp] theorem R.lift_some {α : Type} (a : α) (w : W) : R.lift (some a) w = .ok a w := rfl
@[simp] theorem R.lift_none {α : Type} (w : W) : R.lift (none : Option α) w = .stuck := rfl

def ExcIs (K : PySem.W.Frag) (mg : Str → Option Value) (a0 : Addr) (G : Hp) (c : Exn) (cls : Value) (dd : Option Addr) (F H : Hp) : Prop :=
  ∃ (C d : Addr) (v : V), mg c.c = some (.ref C) ∧ cls = .ref C ∧ dd = some d ∧ H d = some (.xd [(c.f, v)]) ∧ Rp K a0 F v c.d ∧ G d = none ∧ XCls K C c.f
theorem ExcIs.up {K : PySem.W.Frag} {mg : Str → Option Value} {fm : Fm} {c : Exn} {cls : Value} {dd : Option Addr} {F F1 H1 H : Hp} {ex : Exs} {σ : L2.St} {w : W} {ss : SS} (h : ExcIs K mg fm.a0 H1 c cls dd F H) (r : Rel K fm ex σ H1 F1 w) (s : SrcOk fm.a0 fm.c0 F H ss) : ExcIs K mg fm.a0 fm.G c cls dd F H := by
  obtain ⟨C, d, v, h1, h2, h3, h4, h5, h6, h7⟩ := h
  refine ⟨C, d, v, h1, h2, h3, h4, h5, ?_, h7⟩
  cases e : fm.G d with
  | none => rfl
  | some o =>
    have n : d ≠ fm.a0 := fun z => by subst z; rw [s.at0] at h4; cases h4
    rw [r.gh d o n e] at h6; cases h6

def Fin (X : Cx) (Wx : WX) (fm : Fm) (ex : Exs) (σ : L2.St) (H F : Hp) {α : Type} (k : α → W → Hp → Hp → Prop) : R α → Prop
  | .ok a w' => ∀ H' F', Kp fm.a0 H H' → Ex F F' → Rel X.K fm ex σ H' F' w' → k a w' H' F'
  | .exc c w' => ∀ H' F' cls dd, Kp fm.a0 H H' → Ex F F' → Rel X.K fm ex σ H' F' w' → ExcIs X.K X.mg fm.a0 fm.G c cls dd F' H' → Wx cls dd σ H'
  | .stuck => False
section
variable {X : Cx} {Wx : WX} {fm : Fm} {ex : Exs} {σ : L2.St} {H F H' F' : Hp} {α β : Type} {k : α → W → Hp → Hp → Prop}
theorem Fin.from (h : Fin X Wx fm ex σ H F k r) (kp : Kp fm.a0 H H') (e : Ex F F') : Fin X Wx fm ex σ H' F' k r := by
  cases r with
  | ok a w' => exact fun H2 F2 k2 e2 => h H2 F2 (kp.trans k2) (e.trans e2)
  | exc c w' => exact fun H2 F2 cls dd k2 e2 => h H2 F2 cls dd (kp.trans k2) (e.trans e2)
  | stuck => exact h
theorem Fin.bind {r : R α} {q : α → W → R β} {k : β → W → Hp → Hp → Prop} (h : Fin X Wx fm ex σ H F k (r.bind q)) :
    Fin X Wx fm ex σ H F (fun a w' H' F' => Rel X.K fm ex σ H' F' w' ∧ Kp fm.a0 H H' ∧ Ex F F' ∧ Fin X Wx fm ex σ H' F' k (q a w')) r := by
  cases r with
  | ok a w' => exact fun H' F' kp e r => ⟨r, kp, e, Fin.from (r := q a w') h kp e⟩
  | exc c w' => exact h
  | stuck => exact h
theorem Fin.imp {k k' : α → W → Hp → Hp → Prop} {r : R α} (h : Fin X Wx fm ex σ H F k r) (hi : ∀ a w H' F', k a w H' F' → k' a w H' F') : Fin X Wx fm ex σ H F k' r := by
  cases r with
  | ok a w' => exact fun H' F' kp e r => hi _ _ _ _ (h H' F' kp e r)
  | exc c w' => exact h
  | stuck => exact h
theorem Fin.lift {o : Option α} {w : W} (h : Fin X Wx fm ex σ H F k (R.lift o w)) : ∃ a, o = some a ∧ ∀ H' F', Kp fm.a0 H H' → Ex F F' → Rel X.K fm ex σ H' F' w → k a w H' F' := by
  cases o with
  | some a => exact ⟨a, rfl, h⟩
  | none => exact h.elim
end

/-! ### the judgements over plain data -/
abbrev SEr (X : Cx) (Wx : WX) (fm : Fm) (e : Expr) (m : W → R D) : Prop := ∀ (ex : Exs) (σ : L2.St) (H F : Hp) (w : W) (Q : VK), Rel X.K fm ex σ H F w →
  Fin X Wx fm ex σ H F (fun d _ H' F' => ∀ v, Rp X.K fm.a0 F' v d → Q v H') (m w) → WE X e σ H Q
structure SE (X : Cx) (Wx : WX) (fm : Fm) (e : Expr) (m : W → R D) : Prop where
  run : SEr X Wx fm e m
instance {X : Cx} {Wx : WX} {fm : Fm} {e : Expr} {m : W → R D} : CoeFun (SE X Wx fm e m) (fun _ => SEr X Wx fm e m) := ⟨SE.run⟩
abbrev STtr (X : Cx) (Wx : WX) (fm : Fm) (e : Expr) (m : W → R Bool) : Prop := ∀ (ex : Exs) (σ : L2.St) (H F : Hp) (w : W) (Q : Bool → Hp → Prop), Rel X.K fm ex σ H F w →
  Fin X Wx fm ex σ H F (fun b _ H' _ => Q b H') (m w) → WT X e σ H Q
structure STt (X : Cx) (Wx : WX) (fm : Fm) (e : Expr) (m : W → R Bool) : Prop where
  run : STtr X Wx fm e m
instance {X : Cx} {Wx : WX} {fm : Fm} {e : Expr} {m : W → R Bool} : CoeFun (STt X Wx fm e m) (fun _ => STtr X Wx fm e m) := ⟨STt.run⟩
abbrev SAsr (X : Cx) (Wx : WX) (fm : Fm) (es : List Expr) (m : W → R (List D)) : Prop := ∀ (ex : Exs) (σ : L2.St) (H F : Hp) (w : W) (Q : List V → Hp → Prop), Rel X.K fm ex σ H F w →
  Fin X Wx fm ex σ H F (fun ds _ H' F' => ∀ vs, RpAll X.K fm.a0 F' vs ds → Q vs H') (m w) → WA X es σ H Q
structure SAs (X : Cx) (Wx : WX) (fm : Fm) (es : List Expr) (m : W → R (List D)) : Prop where
  run : SAsr X Wx fm es m
instance {X : Cx} {Wx : WX} {fm : Fm} {es : List Expr} {m : W → R (List D)} : CoeFun (SAs X Wx fm es m) (fun _ => SAsr X Wx fm es m) := ⟨SAs.run⟩
/-- a new list -/
def FinF (X : Cx) (Wx : WX) (fm : Fm) (ex : Exs) (σ : L2.St) (H F : Hp) (Q : VK) : R (List D) → Prop
  | .ok xs w' => ∀ p H' F', Kp fm.a0 H H' → Ex F F' → Rel X.K fm ((p, xs) :: ex) σ H' F' w' → Q (.ref p) H'
  | .exc c w' => ∀ H' F' cls dd, Kp fm.a0 H H' → Ex F F' → Rel X.K fm ex σ H' F' w' → ExcIs X.K X.mg fm.a0 fm.G c cls dd F' H' → Wx cls dd σ H'
  | .stuck => False
abbrev SFr (X : Cx) (Wx : WX) (fm : Fm) (e : Expr) (m : W → R (List D)) : Prop := ∀ (ex : Exs) (σ : L2.St) (H F : Hp) (w : W) (Q : VK), Rel X.K fm ex σ H F w →
  FinF X Wx fm ex σ H F Q (m w) → WE X e σ H Q
structure SF (X : Cx) (Wx : WX) (fm : Fm) (e : Expr) (m : W → R (List D)) : Prop where
  run : SFr X Wx fm e m
instance {X : Cx} {Wx : WX} {fm : Fm} {e : Expr} {m : W → R (List D)} : CoeFun (SF X Wx fm e m) (fun _ => SFr X Wx fm e m) := ⟨SF.run⟩

section
variable {X : Cx} {Wx : WX} {fm : Fm}
/-- a new list as a value -/
def mFrz (m : W → R (List D)) : W → R D := fun w => (m w).bind fun xs w' => .ok (.lst xs) w'
theorem se_frz {e : Expr} {m : W → R (List D)} (h : SF X Wx fm e m) : SE X Wx fm e (mFrz m) := by
  refine ⟨?_⟩
  intro ex σ H F w Q r q
  refine h ex σ H F w Q r ?_
  revert q
  unfold mFrz
  cases m w with
  | ok xs w' =>
    intro q p H' F' kp e r'
    obtain ⟨F2, e2, r2, k2⟩ := r'.frz
    exact q H' F2 kp (e.trans e2) r2 _ k2
  | exc c w' => exact fun q => q
  | stuck => exact fun q => q
def D.flat : D → Bool
  | .non | .bl _ | .int _ | .str _ => true
  | _ => false
theorem Rp.flat {K : PySem.W.Frag} {a0 : Addr} {F F' : Hp} {v : V} {d : D} (h : Rp K a0 F v d) (f : d.flat = true) : Rp K a0 F' v d := by
  cases h with
  | non => exact .non
  | bl b => exact .bl b
  | int i => exact .int i
  | str x => exact .str x
  | tup _ _ => cases f
  | lst _ _ => cases f
  | src => cases f
/-- behind an expression whose value is no object, the names hold what they held -/
def mSc (m : W → R D) : W → R D := fun w => (m w).bind fun d w' => .ok d (if d.flat = true then { env := w.env, ss := w'.ss } else w')
theorem se_sc {e : Expr} {m : W → R D} (h : SE X Wx fm e m) : SE X Wx fm e (mSc m) := by
  refine ⟨?_⟩
  intro ex σ H F w Q r q
  refine h ex σ H F w Q r ?_
  revert q
  unfold mSc
  cases m w with
  | ok d w' =>
    intro q H' F' kp e r' v hv
    cases f : d.flat with
    | true =>
      have q' : Fin X Wx fm ex σ H F (fun d _ H' F' => ∀ v, Rp X.K fm.a0 F' v d → Q v H') (.ok d { env := w.env, ss := w'.ss }) := by
        simpa [f] using q
      exact q' H' F kp (Ex.refl _) (r.unf kp e r') v (hv.flat f)
    | false =>
      have q' : Fin X Wx fm ex σ H F (fun d _ H' F' => ∀ v, Rp X.K fm.a0 F' v d → Q v H') (.ok d w') := by
        simpa [f] using q
      exact q' H' F' kp e r' v hv
  | exc c w' => exact fun q => q
  | stuck => exact fun q => q
def mScT (m : W → R Bool) : W → R Bool := fun w => (m w).bind fun b w' => .ok b { env := w.env, ss := w'.ss }
theorem st_sc {e : Expr} {m : W → R Bool} (h : STt X Wx fm e m) : STt X Wx fm e (mScT m) := by
  refine ⟨?_⟩
  intro ex σ H F w Q r q
  refine h ex σ H F w Q r ?_
  revert q
  unfold mScT
  cases m w with
  | ok d w' => exact fun q H' F' kp e r' => q H' F kp (Ex.refl _) (r.unf kp e r')
  | exc c w' => exact fun q => q
  | stuck => exact fun q => q

/-! ### names, constants -/
def mVar (i : Nat) : W → R D := fun w => match w.env[i]? with
  | some (some (.val d)) => .ok d w
  | some (some (.own xs)) => .ok (.lst xs) { w with env := w.env.set i (some (.val (.lst xs))) }
  | _ => .stuck
theorem se_var {i : Nat} {x : Str} {pos : Pos} (hN : X.N[i]? = some x := by rfl) (hv : Vis X.env.scope x := by first | exact Or.inl rfl | exact Or.inr (Or.inl rfl) | exact Or.inr (Or.inr rfl)) (hd : (x == ("__debug__" : Str)) = false := by decide)
    (hcd : (x == ("__classdict__" : Str)) = false := by decide) : SE X Wx fm (.Name x pos) (mVar i) := by
  refine ⟨?_⟩
  intro ex σ H F w Q r q
  refine WE.of (pe_var hN hv hd hcd) ?_
  revert q
  unfold mVar
  split
  · rename_i d h
    intro q
    obtain ⟨v, e, k⟩ := r.slot i _ h
    exact ⟨v, e, q H F Kp.refl (Ex.refl _) r v k⟩
  · rename_i xs h
    intro q
    obtain ⟨p, F', e, ef, r', k⟩ := r.frzSlot h
    exact ⟨_, e, q H F' Kp.refl ef r' _ k⟩
  · exact fun q => q.elim
def mC (d : D) : W → R D := fun w => .ok d w
theorem se_int {i : Int} {j pos} : SE X Wx fm (.Constant (.int i) j pos) (mC (.int i)) := ⟨fun ex σ H F w Q r q => WE.of pe_int (q H F Kp.refl (Ex.refl _) r _ (.int i))⟩
theorem se_bl {b : Bool} {j pos} : SE X Wx fm (.Constant (.bool b) j pos) (mC (.bl b)) := ⟨fun ex σ H F w Q r q => WE.of pe_bl (q H F Kp.refl (Ex.refl _) r _ (.bl b))⟩
theorem se_non {j pos} : SE X Wx fm (.Constant .none j pos) (mC .non) := ⟨fun ex σ H F w Q r q => WE.of pe_non (q H F Kp.refl (Ex.refl _) r _ .non)⟩
theorem se_str {x : Str} {j pos} : SE X Wx fm (.Constant (.str x) j pos) (mC (.str x)) := ⟨fun ex σ H F w Q r q => WE.of pe_str (q H F Kp.refl (Ex.refl _) r _ (.str x))⟩
/-- a module's constant -/
theorem se_glob {x : Str} {v : V} {d : D} {u : Value} {pos : Pos} (hg : Gl X x) (hm : X.mg x = some u) (rv : RelV v u) (hr : ∀ F, Rp X.K fm.a0 F v d) (hd : (x == ("__debug__" : Str)) = false := by decide) : SE X Wx fm (.Name x pos) (mC d) :=
  ⟨fun ex σ H F w Q r q => WE.of (pe_glob hg hm rv hd) (q H F Kp.refl (Ex.refl _) r _ (hr F))⟩

/-! ### operators -/
/-- an operation on data: by values, the heap at most growing -/
def DOp (X : Cx) (a0 : Addr) (f : Value → Value → Sem Value) (g : D → D → Option D) : Prop :=
  ∀ (x y : V) (d e r : D) (H F : Hp) (Q : VK), Ex F H → Rp X.K a0 F x d → Rp X.K a0 F y e → g d e = some r → (∀ v H' F', Gr H F H' F' → Rp X.K a0 F' v r → Q v H') → W2 X f x y H Q
def mBin (g : D → D → Option D) (ma mb : W → R D) : W → R D := fun w => (ma w).bind fun x w1 => (mb w1).bind fun y w2 => R.lift (g x y) w2
theorem se2 {a b : Expr} {ma mb : W → R D} {f : Value → Value → Sem Value} {g : D → D → Option D} {ex : Exs} {σ : L2.St} {H F : Hp} {w : W} {Q : VK} (ho : DOp X fm.a0 f g) (ha : SE X Wx fm a ma) (hb : SE X Wx fm b mb) (r : Rel X.K fm ex σ H F w)
    (q : Fin X Wx fm ex σ H F (fun d _ H' F' => ∀ v, Rp X.K fm.a0 F' v d → Q v H') (mBin g ma mb w)) : tOp (W2 X f) (WE X a) (WE X b) σ H Q := by
  show WE X a σ H fun x H1 => WE X b σ H1 fun y H2 => W2 X f x y H2 Q
  refine ha ex σ H F w _ r ((Fin.bind q).imp fun x w1 H1 F1 ⟨r1, k1, e1, q1⟩ v hv => ?_)
  refine hb ex σ H1 F1 w1 _ r1 ((Fin.bind q1).imp fun y w2 H2 F2 ⟨r2, k2, e2, q2⟩ u hu => ?_)
  obtain ⟨z, hz, q3⟩ := q2.lift
  exact ho v u x y z H2 F2 Q r2.fh (hv.ex e2) hu hz fun t H' F' g hr => q3 H' F' g.kp g.ff (r2.gr g) t hr
theorem se_bin {a b : Expr} {op : Operator} {pos : Pos} {ma mb : W → R D} {g : D → D → Option D} (ho : DOp X fm.a0 (binaryOp op) g) (ha : SE X Wx fm a ma) (hb : SE X Wx fm b mb) : SE X Wx fm (.BinOp a op b pos) (mBin g ma mb) :=
  ⟨fun ex σ H F w Q r q => WE.of (pe_op opr_w2 pe_we pe_we) (se2 ho ha hb r q)⟩
/-- a comparison as a value, as a test -/
theorem se_cmp {a b : Expr} {op : CmpOp} {pos : Pos} {ma mb : W → R D} {g : D → D → Option D} (ho : DOp X fm.a0 (compareOp op) g) (ha : SE X Wx fm a ma) (hb : SE X Wx fm b mb) (hm : behindInMarks op b = false := by first | exact nomark _ | rfl) :
    SE X Wx fm (.Compare a [op] [b] pos) (mBin g ma mb) :=
  ⟨fun ex σ H F w Q r q => WE.of (pe_cmpR opr_w2 pe_we pe_we hm) (se2 ho ha hb r q)⟩
def D.b? : D → Option Bool
  | .bl b => some b
  | _ => none
theorem Rp.b {K : PySem.W.Frag} {a0 : Addr} {F : Hp} {v : V} {d : D} {b : Bool} (h : Rp K a0 F v d) (e : d.b? = some b) : v = .bl b := by
  cases h <;> cases e
  rfl
def mB (m : W → R D) : W → R Bool := fun w => (m w).bind fun d w' => R.lift d.b? w'
theorem fin_b {r : R D} {ex : Exs} {σ : L2.St} {H F : Hp} {Q : Bool → Hp → Prop} (q : Fin X Wx fm ex σ H F (fun b _ H' _ => Q b H') (r.bind fun d w' => R.lift d.b? w')) :
    Fin X Wx fm ex σ H F (fun d _ H' F' => ∀ v, Rp X.K fm.a0 F' v d → ∃ k, v = .bl k ∧ Q k H') r := by
  cases r with
  | ok d w' =>
    intro H' F' kp e r' v hv
    obtain ⟨b, hb, q⟩ := Fin.lift (o := d.b?) (w := w') q
    exact ⟨b, hv.b hb, q H' F' kp e r'⟩
  | exc c w' => exact q
  | stuck => exact q
theorem st_cmp {a b : Expr} {op : CmpOp} {pos : Pos} {ma mb : W → R D} {g : D → D → Option D} (ho : DOp X fm.a0 (compareOp op) g) (ha : SE X Wx fm a ma) (hb : SE X Wx fm b mb) (hm : behindInMarks op b = false := by first | exact nomark _ | rfl) :
    STt X Wx fm (.Compare a [op] [b] pos) (mB (mBin g ma mb)) :=
  ⟨fun ex σ H F w Q r q => WT.of (pt_cmpR opr_w2 pe_we pe_we hm) (se2 ho ha hb r (fin_b q))⟩
/-- two comparisons in a row -/
def mChain (g g' : D → D → Option D) (ma mb mc : W → R D) : W → R D := fun w => (ma w).bind fun x w1 => (mb w1).bind fun y w2 => (R.lift ((g x y).bind D.b?) w2).bind fun k w3 =>
  if k = true then (mc w3).bind fun z w4 => R.lift (g' y z) w4 else .ok (.bl false) w3
theorem se_chain0 {a b c : Expr} {op op' : CmpOp} {ma mb mc : W → R D} {g g' : D → D → Option D} {ex : Exs} {σ : L2.St} {H F : Hp} {w : W} {Q : VK} (ho : DOp X fm.a0 (compareOp op) g) (ho' : DOp X fm.a0 (compareOp op') g') (ha : SE X Wx fm a ma) (hb : SE X Wx fm b mb) (hc : SE X Wx fm c mc)
    (r : Rel X.K fm ex σ H F w) (q : Fin X Wx fm ex σ H F (fun d _ H' F' => ∀ v, Rp X.K fm.a0 F' v d → Q v H') (mChain g g' ma mb mc w)) :
    tChain (W2 X (compareOp op)) (W2 X (compareOp op')) (WE X a) (WE X b) (WE X c) σ H Q := by
  show WE X a σ H fun x H1 => WE X b σ H1 fun y H2 => W2 X (compareOp op) x y H2 fun z H3 => ∃ k, z = .bl k ∧ if k = true then WE X c σ H3 fun w' H4 => W2 X (compareOp op') y w' H4 Q else Q (.bl false) H3
  refine ha ex σ H F w _ r ((Fin.bind q).imp fun x w1 H1 F1 ⟨r1, k1, e1, q1⟩ v hv => ?_)
  refine hb ex σ H1 F1 w1 _ r1 ((Fin.bind q1).imp fun y w2 H2 F2 ⟨r2, k2, e2, q2⟩ u hu => ?_)
  cases hz : g x y with
  | none => rw [hz] at q2; exact (show False from q2).elim
  | some z =>
    rw [hz] at q2
    cases hb : z.b? with
    | none =>
      have q2 : Fin X Wx fm ex σ H2 F2 (fun d _ H' F' => ∀ v, Rp X.K fm.a0 F' v d → Q v H') ((R.lift (z.b?) w2).bind _) := q2
      rw [hb] at q2; exact (show False from q2).elim
    | some k =>
      have q2 : Fin X Wx fm ex σ H2 F2 (fun d _ H' F' => ∀ v, Rp X.K fm.a0 F' v d → Q v H') ((R.lift (z.b?) w2).bind _) := q2
      rw [hb] at q2
      refine ho v u x y z H2 F2 _ r2.fh (hv.ex e2) hu hz fun t H3 F3 g hr => ⟨k, hr.b hb, ?_⟩
      have r3 := r2.gr g
      cases k with
      | false => exact (show Q (.bl false) H3 from q2 H3 F3 g.kp g.ff r3 _ (.bl false))
      | true =>
        have q3 : Fin X Wx fm ex σ H2 F2 (fun d _ H' F' => ∀ v, Rp X.K fm.a0 F' v d → Q v H') ((mc w2).bind fun z w4 => R.lift (g' y z) w4) := q2
        show WE X c σ H3 fun w' H4 => W2 X (compareOp op') u w' H4 Q
        refine hc ex σ H3 F3 w2 _ r3 ((Fin.bind (q3.from g.kp g.ff)).imp fun z' w4 H4 F4 ⟨r4, k4, e4, q4⟩ t' ht' => ?_)
        obtain ⟨z2, hz2, q5⟩ := q4.lift
        exact ho' u t' y z' z2 H4 F4 Q r4.fh ((hu.ex g.ff).ex e4) ht' hz2 fun t H' F' g hr => q5 H' F' g.kp g.ff (r4.gr g) t hr
theorem se_chain {a b c : Expr} {op op' : CmpOp} {pos : Pos} {ma mb mc : W → R D} {g g' : D → D → Option D} (ho : DOp X fm.a0 (compareOp op) g) (ho' : DOp X fm.a0 (compareOp op') g') (ha : SE X Wx fm a ma) (hb : SE X Wx fm b mb) (hc : SE X Wx fm c mc)
    (hm : lastMarks [op, op'] [b, c] = false := by with_unfolding_all rfl) : SE X Wx fm (.Compare a [op, op'] [b, c] pos) (mChain g g' ma mb mc) :=
  ⟨fun ex σ H F w Q r q => WE.of (pe_chain opr_w2 opr_w2 pe_we pe_we pe_we hm) (se_chain0 ho ho' ha hb hc r q)⟩
theorem st_chain {a b c : Expr} {op op' : CmpOp} {pos : Pos} {ma mb mc : W → R D} {g g' : D → D → Option D} (ho : DOp X fm.a0 (compareOp op) g) (ho' : DOp X fm.a0 (compareOp op') g') (ha : SE X Wx fm a ma) (hb : SE X Wx fm b mb) (hc : SE X Wx fm c mc)
    (hm : lastMarks [op, op'] [b, c] = false := by with_unfolding_all rfl) : STt X Wx fm (.Compare a [op, op'] [b, c] pos) (mB (mChain g g' ma mb mc)) :=
  ⟨fun ex σ H F w Q r q => WT.of (pt_chain opr_w2 opr_w2 pe_we pe_we pe_we hm) (se_chain0 ho ho' ha hb hc r (fin_b q))⟩

/-! ### tests -/
def D.tru : D → Option Bool
  | .non => some false
  | .bl b => some b
  | .int i => some (i != 0)
  | .tup l => some (!l.isEmpty)
  | .lst l => some (!l.isEmpty)
  | _ => none
theorem RpAll.emp {K : PySem.W.Frag} {a0 : Addr} {F : Hp} {vs : List V} {ds : List D} (h : RpAll K a0 F vs ds) : vs.isEmpty = ds.isEmpty := by
  cases h <;> rfl
theorem Rp.tru {K : PySem.W.Frag} {a0 : Addr} {F H : Hp} {v : V} {d : D} {b : Bool} (h : Rp K a0 F v d) (hf : Ex F H) (e : d.tru = some b) : TruV K v H b := by
  cases h with
  | non => cases e; rfl
  | bl b => cases e; rfl
  | int i => cases e; rfl
  | str x => cases e
  | src => cases e
  | tup hs ha =>
    cases e
    exact Or.inr (Or.inl ⟨_, ex_t hf hs, by rw [ha.emp]⟩)
  | lst hs ha =>
    cases e
    exact Or.inl ⟨_, .inl (.inl (hf _ _ hs)), by rw [ha.emp]⟩
def mTru (m : W → R D) : W → R Bool := fun w => (m w).bind fun d w' => R.lift d.tru w'
theorem st_tru {e : Expr} {m : W → R D} (h : SE X Wx fm e m) (he : ∀ whole, isTrue e X.env whole = (do let v ← whole; standAt e.pos; holding [v] (truthy v)) := by intro _; rfl) : STt X Wx fm e (mTru m) := by
  refine ⟨?_⟩
  intro ex σ H F w Q r q
  refine WT.of (pt_truth pe_we he) ?_
  refine h ex σ H F w _ r ((Fin.bind q).imp fun d w1 H1 F1 ⟨r1, k1, e1, q1⟩ v hv => ?_)
  obtain ⟨b, hb, q2⟩ := q1.lift
  exact ⟨b, hv.tru r1.fh hb, q2 H1 F1 Kp.refl (Ex.refl _) r1⟩
def mNotT (m : W → R Bool) : W → R Bool := fun w => (m w).bind fun b w' => .ok (!b) w'
theorem st_not {a : Expr} {pos : Pos} {m : W → R Bool} (h : STt X Wx fm a m) : STt X Wx fm (.UnaryOp .Not a pos) (mNotT m) := by
  refine ⟨?_⟩
  intro ex σ H F w Q r q
  refine WT.of (pt_not pt_wt) ?_
  exact h ex σ H F w _ r ((Fin.bind q).imp fun b w1 H1 F1 ⟨r1, k1, e1, q1⟩ => q1 H1 F1 Kp.refl (Ex.refl _) r1)
def mAndT (m n : W → R Bool) : W → R Bool := fun w => (m w).bind fun b w' => if b = true then n w' else .ok false w'
def mOrT (m n : W → R Bool) : W → R Bool := fun w => (m w).bind fun b w' => if b = true then .ok true w' else n w'
/-- a chain of and, or: whatever its whole is -/
def SW (X : Cx) (Wx : WX) (fm : Fm) (e : Expr) (m : W → R Bool) : Prop := ∃ t, PW X e t ∧ ∀ (ex : Exs) (σ : L2.St) (H F : Hp) (w : W) (Q : Bool → Hp → Prop), Rel X.K fm ex σ H F w → Fin X Wx fm ex σ H F (fun b _ H' _ => Q b H') (m w) → t σ H Q
theorem SW.st {e : Expr} {m : W → R Bool} (h : SW X Wx fm e m) : STt X Wx fm e m := by
  refine ⟨fun ex σ H F w Q r q => ?_⟩
  obtain ⟨t, p, g⟩ := h
  exact WT.of p.pt (g ex σ H F w Q r q)
theorem sw_and1 {a : Expr} {pos : Pos} {m : W → R Bool} (h : STt X Wx fm a m) : SW X Wx fm (.BoolOp .And [a] pos) m := ⟨_, pw_and1 pt_wt, h⟩
theorem sw_or1 {a : Expr} {pos : Pos} {m : W → R Bool} (h : STt X Wx fm a m) : SW X Wx fm (.BoolOp .Or [a] pos) m := ⟨_, pw_or1 pt_wt, h⟩
theorem sw_and {a b : Expr} {rest : List Expr} {pos : Pos} {m n : W → R Bool} (h : STt X Wx fm a m) (g : SW X Wx fm (.BoolOp .And (b :: rest) pos) n) : SW X Wx fm (.BoolOp .And (a :: b :: rest) pos) (mAndT m n) := by
  obtain ⟨t, p, g⟩ := g
  refine ⟨_, pw_and pt_wt p, fun ex σ H F w Q r q => ?_⟩
  refine h ex σ H F w _ r ((Fin.bind q).imp fun b w1 H1 F1 ⟨r1, k1, e1, q1⟩ => ?_)
  cases b with
  | true => exact g ex σ H1 F1 w1 Q r1 q1
  | false => exact q1 H1 F1 Kp.refl (Ex.refl _) r1
theorem sw_or {a b : Expr} {rest : List Expr} {pos : Pos} {m n : W → R Bool} (h : STt X Wx fm a m) (g : SW X Wx fm (.BoolOp .Or (b :: rest) pos) n) : SW X Wx fm (.BoolOp .Or (a :: b :: rest) pos) (mOrT m n) := by
  obtain ⟨t, p, g⟩ := g
  refine ⟨_, pw_or pt_wt p, fun ex σ H F w Q r q => ?_⟩
  refine h ex σ H F w _ r ((Fin.bind q).imp fun b w1 H1 F1 ⟨r1, k1, e1, q1⟩ => ?_)
  cases b with
  | true => exact q1 H1 F1 Kp.refl (Ex.refl _) r1
  | false => exact g ex σ H1 F1 w1 Q r1 q1
/-- and, or as values: all but the last True or False -/
def mAndV (m n : W → R D) : W → R D := fun w => (m w).bind fun d w' => (R.lift d.b? w').bind fun b w2 => if b = true then n w2 else .ok (.bl false) w2
def mOrV (m n : W → R D) : W → R D := fun w => (m w).bind fun d w' => (R.lift d.b? w').bind fun b w2 => if b = true then .ok (.bl true) w2 else n w2
theorem se_one {op : BoolOp} {a : Expr} {pos : Pos} {m : W → R D} (h : SE X Wx fm a m) : SE X Wx fm (.BoolOp op [a] pos) m := ⟨fun ex σ H F w Q r q => WE.of (pe_one pe_we) (h ex σ H F w Q r q)⟩
theorem se_and {a b : Expr} {rest : List Expr} {pos : Pos} {m n : W → R D} (h : SE X Wx fm a m) (g : SE X Wx fm (.BoolOp .And (b :: rest) pos) n) : SE X Wx fm (.BoolOp .And (a :: b :: rest) pos) (mAndV m n) := by
  refine ⟨?_⟩
  intro ex σ H F w Q r q
  refine WE.of (pe_and pe_we pe_we) ?_
  refine h ex σ H F w _ r ((Fin.bind q).imp fun d w1 H1 F1 ⟨r1, k1, e1, q1⟩ v hv => ?_)
  cases hb : d.b? with
  | none => rw [hb] at q1; exact (show False from q1).elim
  | some b =>
    rw [hb] at q1
    refine ⟨b, hv.b hb, ?_⟩
    cases b with
    | true => exact g ex σ H1 F1 w1 Q r1 q1
    | false => exact q1 H1 F1 Kp.refl (Ex.refl _) r1 _ (.bl false)
theorem se_or {a b : Expr} {rest : List Expr} {pos : Pos} {m n : W → R D} (h : SE X Wx fm a m) (g : SE X Wx fm (.BoolOp .Or (b :: rest) pos) n) : SE X Wx fm (.BoolOp .Or (a :: b :: rest) pos) (mOrV m n) := by
  refine ⟨?_⟩
  intro ex σ H F w Q r q
  refine WE.of (pe_or pe_we pe_we) ?_
  refine h ex σ H F w _ r ((Fin.bind q).imp fun d w1 H1 F1 ⟨r1, k1, e1, q1⟩ v hv => ?_)
  cases hb : d.b? with
  | none => rw [hb] at q1; exact (show False from q1).elim
  | some b =>
    rw [hb] at q1
    refine ⟨b, hv.b hb, ?_⟩
    cases b with
    | true => exact q1 H1 F1 Kp.refl (Ex.refl _) r1 _ (.bl true)
    | false => exact g ex σ H1 F1 w1 Q r1 q1
def mNotV (m : W → R D) : W → R D := fun w => (m w).bind fun d w' => (R.lift d.b? w').bind fun b w2 => .ok (.bl (!b)) w2
theorem se_not {a : Expr} {pos : Pos} {m : W → R D} (h : SE X Wx fm a m) : SE X Wx fm (.UnaryOp .Not a pos) (mNotV m) := by
  refine ⟨?_⟩
  intro ex σ H F w Q r q
  refine WE.of (pe_not pe_we) ?_
  refine h ex σ H F w _ r ((Fin.bind q).imp fun d w1 H1 F1 ⟨r1, k1, e1, q1⟩ v hv => ?_)
  cases hb : d.b? with
  | none => rw [hb] at q1; exact (show False from q1).elim
  | some b =>
    rw [hb] at q1
    exact ⟨b, hv.b hb, q1 H1 F1 Kp.refl (Ex.refl _) r1 _ (.bl _)⟩
def mIfE (t : W → R Bool) (m n : W → R D) : W → R D := fun w => (t w).bind fun b w' => if b = true then m w' else n w'
theorem se_if {c a b : Expr} {pos : Pos} {t : W → R Bool} {m n : W → R D} (hc : STt X Wx fm c t) (ha : SE X Wx fm a m) (hb : SE X Wx fm b n) : SE X Wx fm (.IfExp c a b pos) (mIfE t m n) := by
  refine ⟨?_⟩
  intro ex σ H F w Q r q
  refine WE.of (pe_ifExp pt_wt pe_we pe_we) ?_
  refine hc ex σ H F w _ r ((Fin.bind q).imp fun b w1 H1 F1 ⟨r1, k1, e1, q1⟩ => ?_)
  cases b with
  | true => exact ha ex σ H1 F1 w1 Q r1 q1
  | false => exact hb ex σ H1 F1 w1 Q r1 q1
/-- -a, ~a -/
def DUn (X : Cx) (a0 : Addr) (f : Value → Sem Value) (g : D → Option D) : Prop :=
  ∀ (x : V) (d r : D) (H F : Hp) (Q : VK), Ex F H → Rp X.K a0 F x d → g d = some r → (∀ v H' F', Gr H F H' F' → Rp X.K a0 F' v r → Q v H') → W1 X f x H Q
def mUn (g : D → Option D) (m : W → R D) : W → R D := fun w => (m w).bind fun d w' => R.lift (g d) w'
theorem se_un {a : Expr} {op : UnaryOp} {pos : Pos} {m : W → R D} {g : D → Option D} (ho : DUn X fm.a0 (unaryOp op) g) (h : SE X Wx fm a m) : SE X Wx fm (.UnaryOp op a pos) (mUn g m) := by
  refine ⟨?_⟩
  intro ex σ H F w Q r q
  refine WE.of (pe_un unr_w1 pe_we) ?_
  refine h ex σ H F w _ r ((Fin.bind q).imp fun d w1 H1 F1 ⟨r1, k1, e1, q1⟩ v hv => ?_)
  obtain ⟨z, hz, q2⟩ := q1.lift
  exact ho v d z H1 F1 Q r1.fh hv hz fun t H' F' g hr => q2 H' F' g.kp g.ff (r1.gr g) t hr
def gNeg : D → Option D
  | .int i => some (.int (-i))
  | _ => none
theorem dun_neg {a0 : Addr} : DUn X a0 (unaryOp .USub) gNeg := by
  intro x d r H F Q hf hx hg k
  cases hx <;> cases hg
  exact W1.of un_neg ⟨_, rfl, k _ _ _ (Gr.refl hf) (.int _)⟩

/-! ### argument lists, tuples, lists -/
def mNil : W → R (List D) := fun w => .ok [] w
def mCons (m : W → R D) (n : W → R (List D)) : W → R (List D) := fun w => (m w).bind fun d w1 => (n w1).bind fun ds w2 => .ok (d :: ds) w2
theorem sa_nil : SAs X Wx fm [] mNil := ⟨fun ex σ H F w Q r q => WA.of pa_nil (q H F Kp.refl (Ex.refl _) r _ .nil)⟩
def noStar : Expr → Bool
  | .Starred .. => false
  | _ => true
theorem star_cons {e : Expr} {es : List Expr} {env : PySem.Env} (h : noStar e = true) : starEach (e :: es) env = (false, eval e env) :: starEach es env := by
  cases e <;> first | rfl | cases h
theorem sa_cons {e : Expr} {es : List Expr} {m : W → R D} {n : W → R (List D)} (h : SE X Wx fm e m) (g : SAs X Wx fm es n) (hn : noStar e = true := by rfl) : SAs X Wx fm (e :: es) (mCons m n) := by
  have hs : starEach (e :: es) X.env = (false, eval e X.env) :: starEach es X.env := star_cons hn
  refine ⟨?_⟩
  intro ex σ H F w Q r q
  refine WA.of (pa_cons pe_we pa_wa hs) ?_
  show WE X e σ H fun x H1 => WA X es σ H1 fun xs H2 => Q (x :: xs) H2
  refine h ex σ H F w _ r ((Fin.bind q).imp fun d w1 H1 F1 ⟨r1, k1, e1, q1⟩ v hv => ?_)
  refine g ex σ H1 F1 w1 _ r1 ((Fin.bind q1).imp fun ds w2 H2 F2 ⟨r2, k2, e2, q2⟩ vs hvs => ?_)
  exact q2 H2 F2 Kp.refl (Ex.refl _) r2 _ (.cons (hv.ex e2) hvs)
def mTup (m : W → R (List D)) : W → R D := fun w => (m w).bind fun ds w' => R.lift (if ds.length ≤ 1000000 then some (.tup ds) else none) w'
theorem line_of {n : Nat} (h : n ≤ 1000000) : n ≤ sizeLine := Nat.le_trans h (by rw [sizeLine_eq]; decide)
theorem line_lt {n : Nat} (h : n ≤ 1000000) : n < sizeLine := Nat.lt_of_le_of_lt h (by rw [sizeLine_eq]; decide)
theorem se_tup {es : List Expr} {x1} {pos : Pos} {m : W → R (List D)} (h : SAs X Wx fm es m) : SE X Wx fm (.Tuple es x1 pos) (mTup m) := by
  refine ⟨?_⟩
  intro ex σ H F w Q r q
  refine WE.of (pe_tup pa_wa) ?_
  refine h ex σ H F w _ r ((Fin.bind q).imp fun ds w1 H1 F1 ⟨r1, k1, e1, q1⟩ vs hvs => ?_)
  by_cases hl : ds.length ≤ 1000000
  · rw [if_pos hl] at q1
    refine ⟨line_of (by rw [hvs.len]; exact hl), fun p hp => ?_⟩
    have g : Gr H1 F1 (upd H1 p (.tup vs)) (upd F1 p (.tup vs)) := Gr.new r1.fh hp
    exact q1 _ _ g.kp g.ff (r1.gr g) _ (.tup (.inl (.inl upd_same)) (hvs.ex g.ff))
  · rw [if_neg hl] at q1
    exact (show False from q1).elim
def mLst (m : W → R (List D)) : W → R (List D) := fun w => (m w).bind fun ds w' => R.lift (if ds.length ≤ 1000000 then some ds else none) w'
theorem FinF.bind {r : R (List D)} {q : List D → W → R (List D)} {ex : Exs} {σ : L2.St} {H F : Hp} {Q : VK} (h : FinF X Wx fm ex σ H F Q (r.bind q)) :
    Fin X Wx fm ex σ H F (fun a w' H' F' => Rel X.K fm ex σ H' F' w' ∧ Kp fm.a0 H H' ∧ Ex F F' ∧ FinF X Wx fm ex σ H' F' Q (q a w')) r := by
  cases r with
  | ok a w' =>
    intro H' F' kp e r
    refine ⟨r, kp, e, ?_⟩
    have h : FinF X Wx fm ex σ H F Q (q a w') := h
    revert h
    cases q a w' with
    | ok b w2 => exact fun h p H2 F2 k2 e2 => h p H2 F2 (kp.trans k2) (e.trans e2)
    | exc c w2 => exact fun h H2 F2 cls dd k2 e2 => h H2 F2 cls dd (kp.trans k2) (e.trans e2)
    | stuck => exact fun h => h
  | exc c w' => exact h
  | stuck => exact h
theorem FinF.bindD {r : R D} {q : D → W → R (List D)} {ex : Exs} {σ : L2.St} {H F : Hp} {Q : VK} (h : FinF X Wx fm ex σ H F Q (r.bind q)) :
    Fin X Wx fm ex σ H F (fun a w' H' F' => Rel X.K fm ex σ H' F' w' ∧ Kp fm.a0 H H' ∧ Ex F F' ∧ FinF X Wx fm ex σ H' F' Q (q a w')) r := by
  cases r with
  | ok a w' =>
    intro H' F' kp e r
    refine ⟨r, kp, e, ?_⟩
    have h : FinF X Wx fm ex σ H F Q (q a w') := h
    revert h
    cases q a w' with
    | ok b w2 => exact fun h p H2 F2 k2 e2 => h p H2 F2 (kp.trans k2) (e.trans e2)
    | exc c w2 => exact fun h H2 F2 cls dd k2 e2 => h H2 F2 cls dd (kp.trans k2) (e.trans e2)
    | stuck => exact fun h => h
  | exc c w' => exact h
  | stuck => exact h
theorem sf_lst {es : List Expr} {pos : Pos} {m : W → R (List D)} (h : SAs X Wx fm es m) : SF X Wx fm (.List es pos) (mLst m) := by
  refine ⟨?_⟩
  intro ex σ H F w Q r q
  refine WE.of (pe_lst pa_wa) ?_
  refine h ex σ H F w _ r ((FinF.bind q).imp fun ds w1 H1 F1 ⟨r1, k1, e1, q1⟩ vs hvs => ?_)
  by_cases hl : ds.length ≤ 1000000
  · rw [if_pos hl] at q1
    refine ⟨line_of (by rw [hvs.len]; exact hl), fun p hp => ?_⟩
    exact q1 p _ F1 (Gr.dark r1.fh hp).kp (Ex.refl _) (r1.lay hp hvs)
  · rw [if_neg hl] at q1
    exact (show False from q1).elim
end
end TD

set_option Elab.async false
set_option linter.all false
set_option maxRecDepth 100000
set_option maxHeartbeats 4000000
namespace TD
open PySem PySem.Spec PyProof.Rows L2

/-! ### operations on data -/
def gAdd : D → D → Option D
  | .int a, .int b => some (.int (a + b))
  | .str a, .str b => if a.length + b.length ≤ 1000000 then some (.str (a ++ b)) else none
  | .tup a, .tup b => if a.length + b.length ≤ 1000000 then some (.tup (a ++ b)) else none
  | _, _ => none
def gSub : D → D → Option D
  | .int a, .int b => some (.int (a - b))
  | _, _ => none
def mulOk (i j : Int) : Bool := decide (i.natAbs < 2 ^ 64) || decide (j.natAbs < 2 ^ 64) || decide (i.natAbs.log2 + j.natAbs.log2 < 1000000)
def gMul : D → D → Option D
  | .int a, .int b => if mulOk a b = true then some (.int (a * b)) else none
  | _, _ => none
def divOk (j : Int) : Bool := decide (0 < j) && decide (j.natAbs.log2 < 9000)
def gDiv : D → D → Option D
  | .int a, .int b => if divOk b = true then some (.int (a / b)) else none
  | _, _ => none
def gMod : D → D → Option D
  | .int a, .int b => if 0 < b then some (.int (a % b)) else none
  | _, _ => none
def gPow : D → D → Option D
  | .int a, .int b => if 0 ≤ b ∧ b ≤ 1000000 ∧ a.natAbs < 2 ^ 64 then some (.int (a ^ b.toNat)) else none
  | _, _ => none
def gShl : D → D → Option D
  | .int a, .int b => if 0 ≤ b ∧ (Builtin.Int.intBits a : Int) + b ≤ 2 ^ 27 then some (.int (a * 2 ^ b.toNat)) else none
  | _, _ => none
def gShr : D → D → Option D
  | .int a, .int b => if 0 ≤ b then some (.int (a / 2 ^ b.toNat)) else none
  | _, _ => none
def gAnd : D → D → Option D
  | .int a, .int b => some (.int (Builtin.bitAnd a b))
  | _, _ => none
def gOr : D → D → Option D
  | .int a, .int b => some (.int (Builtin.bitOr a b))
  | _, _ => none
def gXor : D → D → Option D
  | .int a, .int b => some (.int (Builtin.bitXor a b))
  | _, _ => none
def gLt : D → D → Option D
  | .int a, .int b => some (.bl (decide (a < b)))
  | .str a, .str b => some (.bl (decide (a.cps.toList < b.cps.toList)))
  | _, _ => none
def gLe : D → D → Option D
  | .int a, .int b => some (.bl (decide (a ≤ b)))
  | _, _ => none
def gGt : D → D → Option D
  | .int a, .int b => some (.bl (decide (b < a)))
  | _, _ => none
def gGe : D → D → Option D
  | .int a, .int b => some (.bl (decide (b ≤ a)))
  | _, _ => none
mutual
def D.py : D → PyData
  | .non => .none
  | .bl b => .bool b
  | .int i => .int i
  | .str x => .str x
  | .tup l => .tuple (D.pys l)
  | .lst l => .list (D.pys l)
  | .src => .dict []
def D.pys : List D → List PyData
  | [] => []
  | d :: ds => d.py :: D.pys ds
end
mutual
def D.eqv : D → D → Bool
  | .non, .non => true
  | .bl a, .bl b => a == b
  | .bl a, .int j => (if a then 1 else 0) == j
  | .int i, .bl b => i == (if b then 1 else 0)
  | .int i, .int j => i == j
  | .str x, .str y => x == y
  | .lst xs, .lst ys => D.eqvs xs ys
  | .tup xs, .tup ys => D.eqvs xs ys
  | _, _ => false
def D.eqvs : List D → List D → Bool
  | [], [] => true
  | x :: xs, y :: ys => D.eqv x y && D.eqvs xs ys
  | _, _ => false
end
mutual
theorem eqv_py : ∀ d e : D, PyData.eqv d.py e.py = D.eqv d e
  | .non, e => by cases e <;> simp [D.py, PyData.eqv, D.eqv]
  | .bl _, e => by cases e <;> simp [D.py, PyData.eqv, D.eqv]
  | .int _, e => by cases e <;> simp [D.py, PyData.eqv, D.eqv]
  | .str _, e => by cases e <;> simp [D.py, PyData.eqv, D.eqv]
  | .src, e => by cases e <;> simp [D.py, PyData.eqv, D.eqv]
  | .tup l, e => by
    cases e with
    | tup m => simp only [D.py, PyData.eqv, D.eqv]; exact eqvs_py l m
    | _ => simp [D.py, PyData.eqv, D.eqv]
  | .lst l, e => by
    cases e with
    | lst m => simp only [D.py, PyData.eqv, D.eqv]; exact eqvs_py l m
    | _ => simp [D.py, PyData.eqv, D.eqv]
theorem eqvs_py : ∀ l m : List D, PyData.eqvAll (D.pys l) (D.pys m) = D.eqvs l m
  | [], [] => by simp [D.pys, PyData.eqvAll, D.eqvs]
  | [], _ :: _ => by simp [D.pys, PyData.eqvAll, D.eqvs]
  | _ :: _, [] => by simp [D.pys, PyData.eqvAll, D.eqvs]
  | x :: xs, y :: ys => by
    simp only [D.pys, PyData.eqvAll, D.eqvs]
    rw [eqv_py x y, eqvs_py xs ys]
end
mutual
/-- may be compared: no source, signs that are signs, not too deep -/
def D.okb : Nat → D → Bool
  | _, .non | _, .bl _ | _, .int _ => true
  | _, .str x => PyData.strOk x
  | 0, .tup _ | 0, .lst _ => false
  | n + 1, .tup l | n + 1, .lst l => D.oks n l
  | _, .src => false
def D.oks : Nat → List D → Bool
  | _, [] => true
  | n, d :: ds => d.okb n && D.oks n ds
end
mutual
theorem okb_py : ∀ (d : D) (n : Nat), d.okb n = true → d.py.canLay0 = true ∧ d.py.depth ≤ n
  | .non, n, _ => by simp [D.py, PyData.canLay0, PyData.depth]
  | .bl _, n, _ => by simp [D.py, PyData.canLay0, PyData.depth]
  | .int _, n, _ => by simp [D.py, PyData.canLay0, PyData.depth]
  | .str x, n, h => by
    have h' : PyData.strOk x = true := by cases n <;> simpa [D.okb] using h
    simp [D.py, PyData.canLay0, PyData.depth, h']
  | .src, n, h => by cases n <;> simp [D.okb] at h
  | .tup l, 0, h => by simp [D.okb] at h
  | .tup l, n + 1, h => by
    have := oks_py l n (by simpa [D.okb] using h)
    simp only [D.py, PyData.canLay0, PyData.depth]
    exact ⟨this.1, by omega⟩
  | .lst l, 0, h => by simp [D.okb] at h
  | .lst l, n + 1, h => by
    have := oks_py l n (by simpa [D.okb] using h)
    simp only [D.py, PyData.canLay0, PyData.depth]
    exact ⟨this.1, by omega⟩
theorem oks_py : ∀ (l : List D) (n : Nat), D.oks n l = true → PyData.canLayAll0 (D.pys l) = true ∧ PyData.depthAll (D.pys l) ≤ n
  | [], n, _ => by simp [D.pys, PyData.canLayAll0, PyData.depthAll]
  | d :: ds, n, h => by
    have h' : d.okb n = true ∧ D.oks n ds = true := by simpa [D.oks] using h
    have h1 := okb_py d n h'.1
    have h2 := oks_py ds n h'.2
    simp only [D.pys, PyData.canLayAll0, PyData.depthAll, h1.1, h2.1, Bool.and_self, true_and]
    omega
end
theorem shaped_of {d : D} (h : d.okb 64 = true) : SeqAt.shaped d.py = true := by
  have := okb_py d 64 h
  unfold SeqAt.shaped
  rw [this.1, decide_eq_true this.2]
  rfl
mutual
theorem Rp.dp {K : PySem.W.Frag} {a0 : Addr} {F : Hp} : ∀ (d : D) (v : V) (n : Nat), d.okb n = true → Rp K a0 F v d → Dp K F v d.py
  | .non, _, _, _, h => by cases h; exact .non
  | .bl _, _, _, _, h => by cases h; exact .bl _
  | .int _, _, _, _, h => by cases h; exact .int _
  | .str _, _, _, _, h => by cases h; exact .str _
  | .src, _, n, o, _ => by cases n <;> simp [D.okb] at o
  | .tup l, _, 0, o, _ => by simp [D.okb] at o
  | .tup l, _, n + 1, o, h => by
    cases h with
    | tup hs ha => exact .tup hs (RpAll.dp l _ n (by simpa [D.okb] using o) ha)
  | .lst l, _, 0, o, _ => by simp [D.okb] at o
  | .lst l, _, n + 1, o, h => by
    cases h with
    | lst hs ha => exact .lst (.inl (.inl hs)) (RpAll.dp l _ n (by simpa [D.okb] using o) ha)
theorem RpAll.dp {K : PySem.W.Frag} {a0 : Addr} {F : Hp} : ∀ (ds : List D) (vs : List V) (n : Nat), D.oks n ds = true → RpAll K a0 F vs ds → DpAll K F vs (D.pys ds)
  | [], _, _, _, h => by cases h; exact .nil
  | d :: ds, _, n, o, h => by
    have h' : d.okb n = true ∧ D.oks n ds = true := by simpa [D.oks] using o
    cases h with
    | cons h1 h2 => exact .cons (Rp.dp d _ n h'.1 h1) (RpAll.dp ds _ n h'.2 h2)
end
def gEq (d e : D) : Option D := if (d.okb 64 && e.okb 64) = true then some (.bl (D.eqv d e)) else none
def gNe (d e : D) : Option D := if (d.okb 64 && e.okb 64) = true then some (.bl (!D.eqv d e)) else none
def gIs : D → D → Option D
  | .bl a, .bl b => some (.bl (decide (a = b)))
  | .non, .non => some (.bl true)
  | .bl _, .non | .int _, .non | .str _, .non | .tup _, .non | .lst _, .non => some (.bl false)
  | _, _ => none
def gIsNot : D → D → Option D
  | .bl a, .bl b => some (.bl (!decide (a = b)))
  | .non, .non => some (.bl false)
  | .bl _, .non | .int _, .non | .str _, .non | .tup _, .non | .lst _, .non => some (.bl true)
  | _, _ => none
def D.any (d : D) (l : List D) : Bool := l.any fun y => D.eqv y d
def gIn : D → D → Option D
  | d, .tup l | d, .lst l => if (d.flat && l.all D.flat) = true then some (.bl (d.any l)) else none
  | _, _ => none
def gNotIn : D → D → Option D
  | d, .tup l | d, .lst l => if (d.flat && l.all D.flat) = true then some (.bl (!d.any l)) else none
  | _, _ => none
section
variable {X : Cx} {a0 : Addr}
theorem dop_add : DOp X a0 (binaryOp .Add) gAdd := by
  intro x y d e r H F Q hf hx hy hg k
  cases hx with
  | int a =>
    cases hy with
    | int b => cases hg; exact W2.of op_add ⟨_, _, rfl, rfl, k _ _ _ (Gr.refl hf) (.int _)⟩
    | _ => cases hg
  | str a =>
    cases hy with
    | str b =>
      by_cases hl : a.length + b.length ≤ 1000000
      · rw [gAdd, if_pos hl] at hg
        cases hg
        exact W2.of op_add_str ⟨_, _, rfl, rfl, line_of hl, k _ _ _ (Gr.refl hf) (.str _)⟩
      · rw [gAdd, if_neg hl] at hg; cases hg
    | _ => cases hg
  | tup hs ha =>
    cases hy with
    | tup hs2 ha2 =>
      rename_i p vs l p2 vs2 l2
      by_cases hl : l.length + l2.length ≤ 1000000
      · rw [gAdd, if_pos hl] at hg
        cases hg
        refine W2.of op_catA ⟨_, _, _, _, rfl, rfl, ex_t hf hs, ex_t hf hs2, line_of (by rw [ha.len, ha2.len]; exact hl), fun z => ?_, fun _ z => ?_, fun _ _ q hq => ?_⟩
        · subst z
          have : l = [] := List.length_eq_zero_iff.mp (by rw [← ha.len]; rfl)
          subst this
          exact k _ _ _ (Gr.refl hf) (.tup hs2 ha2)
        · subst z
          have : l2 = [] := List.length_eq_zero_iff.mp (by rw [← ha2.len]; rfl)
          subst this
          rw [List.append_nil] at k
          exact k _ _ _ (Gr.refl hf) (.tup hs ha)
        · exact k _ _ _ (Gr.new hf hq) (.tup (.inl (.inl upd_same)) ((ha.app ha2).ex (Gr.new (o := .tup (vs ++ vs2)) hf hq).ff))
      · rw [gAdd, if_neg hl] at hg; cases hg
    | _ => cases hg
  | _ => cases hy <;> cases hg
theorem dop_int0 {f : Value → Value → Sem Value} {g : D → D → Option D} {h : Int → Int → V} {h' : Int → Int → D} (ho : OpR X f (rI0 h)) (hr : ∀ F i j, Rp X.K a0 F (h i j) (h' i j)) (hg : ∀ d e r, g d e = some r → ∃ i j, d = .int i ∧ e = .int j ∧ r = h' i j) : DOp X a0 f g := by
  intro x y d e r H F Q hf hx hy hz k
  obtain ⟨i, j, rfl, rfl, rfl⟩ := hg d e r hz
  cases hx
  cases hy
  exact W2.of ho ⟨_, _, rfl, rfl, k _ _ _ (Gr.refl hf) (hr _ _ _)⟩
theorem dop_intC {f : Value → Value → Sem Value} {g : D → D → Option D} {C : Int → Int → Prop} {h : Int → Int → V} {h' : Int → Int → D} (ho : OpR X f (rI C h)) (hr : ∀ F i j, Rp X.K a0 F (h i j) (h' i j)) (hg : ∀ d e r, g d e = some r → ∃ i j, d = .int i ∧ e = .int j ∧ C i j ∧ r = h' i j) : DOp X a0 f g := by
  intro x y d e r H F Q hf hx hy hz k
  obtain ⟨i, j, rfl, rfl, hc, rfl⟩ := hg d e r hz
  cases hx
  cases hy
  exact W2.of ho ⟨_, _, rfl, rfl, hc, k _ _ _ (Gr.refl hf) (hr _ _ _)⟩
theorem dop_sub : DOp X a0 (binaryOp .Sub) gSub := dop_int0 (h' := fun i j => .int (i - j)) op_sub (fun _ _ _ => .int _) fun d e r h => by
  cases d <;> cases e <;> cases h; exact ⟨_, _, rfl, rfl, rfl⟩
theorem dop_mul : DOp X a0 (binaryOp .Mult) gMul := by
  intro x y d e r H F Q hf hx hy hg k
  cases hx with
  | int a =>
    cases hy with
    | int b =>
      by_cases hl : mulOk a b = true
      · rw [gMul, if_pos hl] at hg
        cases hg
        have kk : Q (.int (a * b)) H := k _ _ _ (Gr.refl hf) (.int _)
        unfold mulOk at hl
        simp only [Bool.or_eq_true, decide_eq_true_eq] at hl
        rcases hl with (hl | hl) | hl
        · exact W2.of op_mul ⟨_, _, rfl, rfl, .inl (by omega), kk⟩
        · exact W2.of op_mul ⟨_, _, rfl, rfl, .inr (by omega), kk⟩
        · exact W2.of op_mulW ⟨_, _, rfl, rfl, hl, kk⟩
      · rw [gMul, if_neg hl] at hg; cases hg
    | _ => cases hg
  | _ => cases hy <;> cases hg
theorem dop_div : DOp X a0 (binaryOp .FloorDiv) gDiv := dop_intC (C := CDivW) (h' := fun i j => .int (i / j)) op_fdivW (fun _ _ _ => .int _) fun d e r h => by
  cases d <;> cases e <;> try cases h
  rename_i i j
  by_cases hl : divOk j = true
  · rw [gDiv, if_pos hl] at h
    cases h
    unfold divOk at hl
    simp only [Bool.and_eq_true, decide_eq_true_eq] at hl
    exact ⟨_, _, rfl, rfl, hl, rfl⟩
  · rw [gDiv, if_neg hl] at h; cases h
theorem dop_mod : DOp X a0 (binaryOp .Mod) gMod := dop_intC (C := fun _ j => 0 < j) (h' := fun i j => .int (i % j)) op_mod (fun _ _ _ => .int _) fun d e r h => by
  cases d <;> cases e <;> try cases h
  rename_i i j
  by_cases hl : 0 < j
  · rw [gMod, if_pos hl] at h
    cases h
    exact ⟨_, _, rfl, rfl, hl, rfl⟩
  · rw [gMod, if_neg hl] at h; cases h
theorem dop_pow : DOp X a0 (binaryOp .Pow) gPow := dop_intC (C := CPow) (h' := fun i j => .int (i ^ j.toNat)) op_pow (fun _ _ _ => .int _) fun d e r h => by
  cases d <;> cases e <;> try cases h
  rename_i i j
  by_cases hl : 0 ≤ j ∧ j ≤ 1000000 ∧ i.natAbs < 2 ^ 64
  · rw [gPow, if_pos hl] at h
    cases h
    exact ⟨_, _, rfl, rfl, hl, rfl⟩
  · rw [gPow, if_neg hl] at h; cases h
theorem dop_shl : DOp X a0 (binaryOp .LShift) gShl := dop_intC (C := CShl) (h' := fun i j => .int (i * 2 ^ j.toNat)) op_shlW (fun _ _ _ => .int _) fun d e r h => by
  cases d <;> cases e <;> try cases h
  rename_i i j
  by_cases hl : 0 ≤ j ∧ (Builtin.Int.intBits i : Int) + j ≤ 2 ^ 27
  · rw [gShl, if_pos hl] at h
    cases h
    exact ⟨_, _, rfl, rfl, hl, rfl⟩
  · rw [gShl, if_neg hl] at h; cases h
theorem dop_shr : DOp X a0 (binaryOp .RShift) gShr := dop_intC (C := fun _ j => 0 ≤ j) (h' := fun i j => .int (i / 2 ^ j.toNat)) op_shr (fun _ _ _ => .int _) fun d e r h => by
  cases d <;> cases e <;> try cases h
  rename_i i j
  by_cases hl : 0 ≤ j
  · rw [gShr, if_pos hl] at h
    cases h
    exact ⟨_, _, rfl, rfl, hl, rfl⟩
  · rw [gShr, if_neg hl] at h; cases h
theorem dop_and : DOp X a0 (binaryOp .BitAnd) gAnd := dop_int0 (h' := fun i j => .int (Builtin.bitAnd i j)) op_and (fun _ _ _ => .int _) fun d e r h => by
  cases d <;> cases e <;> cases h; exact ⟨_, _, rfl, rfl, rfl⟩
theorem dop_or : DOp X a0 (binaryOp .BitOr) gOr := dop_int0 (h' := fun i j => .int (Builtin.bitOr i j)) op_or (fun _ _ _ => .int _) fun d e r h => by
  cases d <;> cases e <;> cases h; exact ⟨_, _, rfl, rfl, rfl⟩
theorem dop_xor : DOp X a0 (binaryOp .BitXor) gXor := dop_int0 (h' := fun i j => .int (Builtin.bitXor i j)) op_xor (fun _ _ _ => .int _) fun d e r h => by
  cases d <;> cases e <;> cases h; exact ⟨_, _, rfl, rfl, rfl⟩
theorem dop_lt : DOp X a0 (compareOp .Lt) gLt := by
  intro x y d e r H F Q hf hx hy hg k
  cases hx with
  | int a =>
    cases hy with
    | int b => cases hg; exact W2.of op_lt ⟨_, _, rfl, rfl, k _ _ _ (Gr.refl hf) (.bl _)⟩
    | _ => cases hg
  | str a =>
    cases hy with
    | str b => cases hg; exact W2.of op_lt_str ⟨_, _, rfl, rfl, k _ _ _ (Gr.refl hf) (.bl _)⟩
    | _ => cases hg
  | _ => cases hy <;> cases hg
theorem dop_le : DOp X a0 (compareOp .LtE) gLe := dop_int0 (h' := fun i j => .bl (decide (i ≤ j))) op_le (fun _ _ _ => .bl _) fun d e r h => by
  cases d <;> cases e <;> cases h; exact ⟨_, _, rfl, rfl, rfl⟩
theorem dop_gt : DOp X a0 (compareOp .Gt) gGt := dop_int0 (h' := fun i j => .bl (decide (j < i))) op_gt (fun _ _ _ => .bl _) fun d e r h => by
  cases d <;> cases e <;> cases h; exact ⟨_, _, rfl, rfl, rfl⟩
theorem dop_ge : DOp X a0 (compareOp .GtE) gGe := dop_int0 (h' := fun i j => .bl (decide (j ≤ i))) op_ge (fun _ _ _ => .bl _) fun d e r h => by
  cases d <;> cases e <;> cases h; exact ⟨_, _, rfl, rfl, rfl⟩
theorem dop_eq (hu : X.A.units + 64 < cLine) : DOp X a0 (compareOp .Eq) gEq := by
  intro x y d e r H F Q hf hx hy hg k
  unfold gEq at hg
  by_cases hl : (d.okb 64 && e.okb 64) = true
  · rw [if_pos hl] at hg
    cases hg
    have h' : d.okb 64 = true ∧ e.okb 64 = true := by simpa using hl
    refine W2.of (op_eqD hu) ⟨d.py, e.py, (Rp.dp d _ 64 h'.1 (hx.ex hf)), (Rp.dp e _ 64 h'.2 (hy.ex hf)), shaped_of h'.1, shaped_of h'.2, ?_⟩
    rw [eqv_py]
    exact k _ _ _ (Gr.refl hf) (.bl _)
  · rw [if_neg hl] at hg; cases hg
theorem dop_ne (hu : X.A.units + 64 < cLine) : DOp X a0 (compareOp .NotEq) gNe := by
  intro x y d e r H F Q hf hx hy hg k
  unfold gNe at hg
  by_cases hl : (d.okb 64 && e.okb 64) = true
  · rw [if_pos hl] at hg
    cases hg
    have h' : d.okb 64 = true ∧ e.okb 64 = true := by simpa using hl
    refine W2.of (op_neD hu) ⟨d.py, e.py, (Rp.dp d _ 64 h'.1 (hx.ex hf)), (Rp.dp e _ 64 h'.2 (hy.ex hf)), shaped_of h'.1, shaped_of h'.2, ?_⟩
    rw [eqv_py]
    exact k _ _ _ (Gr.refl hf) (.bl _)
  · rw [if_neg hl] at hg; cases hg
theorem dop_is : DOp X a0 (compareOp .Is) gIs := by
  intro x y d e r H F Q hf hx hy hg k
  cases hy with
  | non =>
    cases hx <;> cases hg
    all_goals exact W2.of op_isN ⟨rfl, k _ _ _ (Gr.refl hf) (.bl _)⟩
  | bl b =>
    cases hx <;> cases hg
    exact W2.of op_isBl ⟨_, _, rfl, rfl, k _ _ _ (Gr.refl hf) (.bl _)⟩
  | _ => cases hx <;> cases hg
theorem dop_isNot : DOp X a0 (compareOp .IsNot) gIsNot := by
  intro x y d e r H F Q hf hx hy hg k
  cases hy with
  | non =>
    cases hx <;> cases hg
    all_goals exact W2.of op_notN ⟨rfl, k _ _ _ (Gr.refl hf) (.bl _)⟩
  | bl b =>
    cases hx <;> cases hg
    exact W2.of op_notBl ⟨_, _, rfl, rfl, k _ _ _ (Gr.refl hf) (.bl _)⟩
  | _ => cases hx <;> cases hg
theorem Rp.flatV {F : Hp} {v : V} {d : D} (h : Rp X.K a0 F v d) (f : d.flat = true) : L2.flatV v = true := by
  cases h <;> first | rfl | cases f
theorem eqV_eqv {F : Hp} {v u : V} {d e : D} (h : Rp X.K a0 F v d) (g : Rp X.K a0 F u e) (f : d.flat = true) (f2 : e.flat = true) : L2.eqV v u = D.eqv d e := by
  cases h <;> first | (cases f; done) | (cases g <;> first | (cases f2; done) | simp [L2.eqV, D.eqv])
theorem inV_any {F : Hp} {v : V} {d : D} (h : Rp X.K a0 F v d) (f : d.flat = true) : ∀ {vs : List V} {l : List D}, RpAll X.K a0 F vs l → l.all D.flat = true → L2.inV v vs = d.any l ∧ vs.all L2.flatV = true
  | _, [], g, _ => by cases g; exact ⟨rfl, rfl⟩
  | _, e :: l, g, f2 => by
    cases g with
    | cons g1 g2 =>
      have f3 : e.flat = true ∧ l.all D.flat = true := by simpa using f2
      obtain ⟨i1, i2⟩ := inV_any h f g2 f3.2
      unfold L2.inV D.any at *
      rw [List.any_cons, List.any_cons, i1, eqV_eqv g1 h f3.1 f, List.all_cons, g1.flatV f3.1, i2]
      exact ⟨rfl, rfl⟩
theorem dop_in : DOp X a0 (compareOp .In) gIn := by
  intro x y d e r H F Q hf hx hy hg k
  cases hy with
  | tup hs ha =>
    rename_i p vs l
    have hg : (if (d.flat && l.all D.flat) = true then some (D.bl (d.any l)) else none) = some r := by cases d <;> exact hg
    by_cases hl : (d.flat && l.all D.flat) = true
    · rw [if_pos hl] at hg
      cases hg
      have h' : d.flat = true ∧ l.all D.flat = true := by simpa using hl
      obtain ⟨i1, i2⟩ := inV_any hx h'.1 ha h'.2
      refine W2.of op_in_seq ⟨_, _, rfl, .inr (ex_t hf hs), hx.flatV h'.1, i2, ?_⟩
      rw [i1]
      exact k _ _ _ (Gr.refl hf) (.bl _)
    · rw [if_neg hl] at hg; cases hg
  | lst hs ha =>
    rename_i p vs l
    have hg : (if (d.flat && l.all D.flat) = true then some (D.bl (d.any l)) else none) = some r := by cases d <;> exact hg
    by_cases hl : (d.flat && l.all D.flat) = true
    · rw [if_pos hl] at hg
      cases hg
      have h' : d.flat = true ∧ l.all D.flat = true := by simpa using hl
      obtain ⟨i1, i2⟩ := inV_any hx h'.1 ha h'.2
      refine W2.of op_in_seq ⟨_, _, rfl, .inl (.inl (.inl (hf _ _ hs))), hx.flatV h'.1, i2, ?_⟩
      rw [i1]
      exact k _ _ _ (Gr.refl hf) (.bl _)
    · rw [if_neg hl] at hg; cases hg
  | _ => cases d <;> cases hg
theorem dop_notIn : DOp X a0 (compareOp .NotIn) gNotIn := by
  intro x y d e r H F Q hf hx hy hg k
  cases hy with
  | tup hs ha =>
    rename_i p vs l
    have hg : (if (d.flat && l.all D.flat) = true then some (D.bl (!d.any l)) else none) = some r := by cases d <;> exact hg
    by_cases hl : (d.flat && l.all D.flat) = true
    · rw [if_pos hl] at hg
      cases hg
      have h' : d.flat = true ∧ l.all D.flat = true := by simpa using hl
      obtain ⟨i1, i2⟩ := inV_any hx h'.1 ha h'.2
      refine W2.of op_notIn_seq ⟨_, _, rfl, .inr (ex_t hf hs), hx.flatV h'.1, i2, ?_⟩
      rw [i1]
      exact k _ _ _ (Gr.refl hf) (.bl _)
    · rw [if_neg hl] at hg; cases hg
  | lst hs ha =>
    rename_i p vs l
    have hg : (if (d.flat && l.all D.flat) = true then some (D.bl (!d.any l)) else none) = some r := by cases d <;> exact hg
    by_cases hl : (d.flat && l.all D.flat) = true
    · rw [if_pos hl] at hg
      cases hg
      have h' : d.flat = true ∧ l.all D.flat = true := by simpa using hl
      obtain ⟨i1, i2⟩ := inV_any hx h'.1 ha h'.2
      refine W2.of op_notIn_seq ⟨_, _, rfl, .inl (.inl (.inl (hf _ _ hs))), hx.flatV h'.1, i2, ?_⟩
      rw [i1]
      exact k _ _ _ (Gr.refl hf) (.bl _)
    · rw [if_neg hl] at hg; cases hg
  | _ => cases d <;> cases hg
end

/-! ### subscripts -/
section
variable {X : Cx} {Wx : WX} {fm : Fm}
def gIx : D → D → Option D
  | .tup l, .int i => atI l i
  | .lst l, .int i => atI l i
  | .str z, .int i => if z.length ≤ 1000000 then (atI z.cps.toList i).map fun c => .str ⟨#[c]⟩ else none
  | _, _ => none
theorem rp_atI {K : PySem.W.Frag} {a0 : Addr} {F : Hp} {vs : List V} {l : List D} {i : Int} {d : D} (h : RpAll K a0 F vs l) (e : atI l i = some d) : ∃ v, atI vs i = some v ∧ Rp K a0 F v d := by
  unfold atI at e ⊢
  rw [h.len]
  cases hj : ixN l.length i with
  | none => rw [hj] at e; cases e
  | some j =>
    rw [hj] at e
    exact h.get (i := j) e
def W2i (X : Cx) : R2 := fun x y H Q => ∀ (pins : List (Addr × Obj)) (s : Shared) (σ : L2.St) (v u : Value), Inv X pins σ H s → RelV x v → RelV y u → wpAny (model X.prog X.w) X.A (getItem v u) (EP X pins σ Q) X.xe s
/-- the strongest rule for o[i] -/
def WIx (X : Cx) : R2 := fun x y H Q => rIx X.K x y H Q
theorem se_ix {a b : Expr} {pos : Pos} {ma mb : W → R D} (ha : SE X Wx fm a ma) (hb : SE X Wx fm b mb) (hs : PlainIx b := by exact fun _ _ => rfl) : SE X Wx fm (.Subscript a b pos) (mBin gIx ma mb) := by
  refine ⟨?_⟩
  intro ex σ H F w Q r q
  refine WE.of (pe_ix ix_seq pe_we pe_we hs) ?_
  show WE X a σ H fun x H1 => WE X b σ H1 fun y H2 => rIx X.K x y H2 Q
  refine ha ex σ H F w _ r ((Fin.bind q).imp fun x w1 H1 F1 ⟨r1, k1, e1, q1⟩ v hv => ?_)
  refine hb ex σ H1 F1 w1 _ r1 ((Fin.bind q1).imp fun y w2 H2 F2 ⟨r2, k2, e2, q2⟩ u hu => ?_)
  obtain ⟨z, hz, q3⟩ := q2.lift
  have hv := hv.ex e2
  cases hu with
  | int i =>
    cases hv with
    | tup h1 h2 =>
      obtain ⟨t, ht, rt⟩ := rp_atI h2 (show atI _ i = some z from hz)
      exact .inr (.inl ⟨_, _, _, _, rfl, rfl, ex_t r2.fh h1, ht, q3 H2 F2 Kp.refl (Ex.refl _) r2 t rt⟩)
    | lst h1 h2 =>
      obtain ⟨t, ht, rt⟩ := rp_atI h2 (show atI _ i = some z from hz)
      exact .inl ⟨_, _, _, _, rfl, rfl, .inl (.inl (r2.fh _ _ h1)), ht, q3 H2 F2 Kp.refl (Ex.refl _) r2 t rt⟩
    | str x =>
      have hz : (if x.length ≤ 1000000 then (atI x.cps.toList i).map fun c => D.str ⟨#[c]⟩ else none) = some z := hz
      by_cases hl : x.length ≤ 1000000
      · rw [if_pos hl] at hz
        cases hc : atI x.cps.toList i with
        | none => rw [hc] at hz; cases hz
        | some c =>
          rw [hc] at hz
          cases hz
          exact .inr (.inr ⟨_, _, _, rfl, rfl, line_of hl, hc, q3 H2 F2 Kp.refl (Ex.refl _) r2 _ (.str _)⟩)
      · rw [if_neg hl] at hz; cases hz
    | _ => cases hz
  | _ => cases hv <;> cases hz
/-- a part of a slice -/
def SO (X : Cx) (Wx : WX) (fm : Fm) (e : Option Expr) (m : W → R (Option Int)) : Prop := ∃ t, PO X e t ∧ ∀ (ex : Exs) (σ : L2.St) (H F : Hp) (w : W) (Q : Option Int → Hp → Prop), Rel X.K fm ex σ H F w → Fin X Wx fm ex σ H F (fun o _ H' _ => Q o H') (m w) → t σ H Q
def mNoP : W → R (Option Int) := fun w => .ok none w
def D.i? : D → Option Int
  | .int i => some i
  | _ => none
theorem Rp.i {K : PySem.W.Frag} {a0 : Addr} {F : Hp} {v : V} {d : D} {i : Int} (h : Rp K a0 F v d) (e : d.i? = some i) : v = .int i := by
  cases h <;> cases e
  rfl
def mP (m : W → R D) : W → R (Option Int) := fun w => (m w).bind fun d w' => R.lift (d.i?.map some) w'
theorem so_none : SO X Wx fm none mNoP := ⟨_, po_none, fun ex σ H F w Q r q => q H F Kp.refl (Ex.refl _) r⟩
theorem so_some {e : Expr} {m : W → R D} (h : SE X Wx fm e m) : SO X Wx fm (some e) (mP m) := by
  refine ⟨_, po_some pe_we, fun ex σ H F w Q r q => ?_⟩
  refine h ex σ H F w _ r ((Fin.bind q).imp fun d w1 H1 F1 ⟨r1, k1, e1, q1⟩ v hv => ?_)
  obtain ⟨z, hz, q2⟩ := q1.lift
  cases hi : d.i? with
  | none => rw [hi] at hz; cases hz
  | some i =>
    rw [hi] at hz
    cases hz
    exact ⟨i, hv.i hi, q2 H1 F1 Kp.refl (Ex.refl _) r1⟩
def cutD (xs : List D) (lo hi : Option Int) : List D := (xs.drop (HT.sIx xs.length 0 lo)).take (HT.sIx xs.length xs.length hi - HT.sIx xs.length 0 lo)
theorem rp_cut {K : PySem.W.Frag} {a0 : Addr} {F : Hp} {vs : List V} {l : List D} (h : RpAll K a0 F vs l) (lo hi : Option Int) : RpAll K a0 F (cutV vs lo hi) (cutD l lo hi) := by
  unfold cutV cutD
  rw [h.len]
  exact (h.drop _).take _
def D.t? : D → Option (List D)
  | .tup l => some l
  | _ => none
def D.l? : D → Option (List D)
  | .lst l => some l
  | _ => none
/-- t[a:b] of a tuple -/
def mSlT (m : W → R D) (lo hi : W → R (Option Int)) : W → R D := fun w => (m w).bind fun d w1 => (lo w1).bind fun a w2 => (hi w2).bind fun b w3 => R.lift (d.t?.map fun l => .tup (cutD l a b)) w3
theorem se_slT {e : Expr} {lo hi : Option Expr} {p2 pos : Pos} {m : W → R D} {ml mh : W → R (Option Int)} (h : SE X Wx fm e m) (hl : SO X Wx fm lo ml) (hh : SO X Wx fm hi mh) : SE X Wx fm (.Subscript e (.Slice lo hi none p2) pos) (mSlT m ml mh) := by
  refine ⟨?_⟩
  intro ex σ H F w Q r q
  obtain ⟨tl, pl, gl⟩ := hl
  obtain ⟨th, ph, gh⟩ := hh
  refine WE.of (pe_slice sl_tupA pe_we pl ph) ?_
  show WE X e σ H fun x H1 => tl σ H1 fun l H2 => th σ H2 fun u H3 => rSlA X.K x l u H3 Q
  refine h ex σ H F w _ r ((Fin.bind q).imp fun d w1 H1 F1 ⟨r1, k1, e1, q1⟩ v hv => ?_)
  refine gl ex σ H1 F1 w1 _ r1 ((Fin.bind q1).imp fun a w2 H2 F2 ⟨r2, k2, e2, q2⟩ => ?_)
  refine gh ex σ H2 F2 w2 _ r2 ((Fin.bind q2).imp fun b w3 H3 F3 ⟨r3, k3, e3, q3⟩ => ?_)
  obtain ⟨z, hz, q4⟩ := q3.lift
  have hv := (hv.ex e2).ex e3
  cases hv with
  | @tup p vs l h1 h2 =>
    cases hz
    refine ⟨_, _, rfl, ex_t r3.fh h1, fun hw => ?_, fun _ p' hp => ?_⟩
    · have ec : cutD l a b = l := by
        have hw' : HT.sIx l.length 0 a = 0 ∧ HT.sIx l.length l.length b = l.length := by rw [← h2.len]; exact hw
        unfold cutD
        rw [hw'.1, hw'.2]
        simp
      refine q4 H3 F3 Kp.refl (Ex.refl _) r3 _ ?_
      show Rp X.K fm.a0 F3 (V.ref p) (.tup (cutD l a b))
      rw [ec]
      exact .tup h1 h2
    · have g : Gr H3 F3 (upd H3 p' (.tup (cutV vs a b))) (upd F3 p' (.tup (cutV vs a b))) := Gr.new r3.fh hp
      exact q4 _ _ g.kp g.ff (r3.gr g) _ (.tup (.inl (.inl upd_same)) ((rp_cut h2 a b).ex g.ff))
  | _ => cases hz
/-- xs[a:b] of a list -/
def mSlL (m : W → R D) (lo hi : W → R (Option Int)) : W → R (List D) := fun w => (m w).bind fun d w1 => (lo w1).bind fun a w2 => (hi w2).bind fun b w3 => R.lift (d.l?.map fun l => cutD l a b) w3
theorem FinF.bindO {r : R (Option Int)} {q : Option Int → W → R (List D)} {ex : Exs} {σ : L2.St} {H F : Hp} {Q : VK} (h : FinF X Wx fm ex σ H F Q (r.bind q)) :
    Fin X Wx fm ex σ H F (fun a w' H' F' => Rel X.K fm ex σ H' F' w' ∧ Kp fm.a0 H H' ∧ Ex F F' ∧ FinF X Wx fm ex σ H' F' Q (q a w')) r := by
  cases r with
  | ok a w' =>
    intro H' F' kp e r
    refine ⟨r, kp, e, ?_⟩
    have h : FinF X Wx fm ex σ H F Q (q a w') := h
    revert h
    cases q a w' with
    | ok b w2 => exact fun h p H2 F2 k2 e2 => h p H2 F2 (kp.trans k2) (e.trans e2)
    | exc c w2 => exact fun h H2 F2 cls dd k2 e2 => h H2 F2 cls dd (kp.trans k2) (e.trans e2)
    | stuck => exact fun h => h
  | exc c w' => exact h
  | stuck => exact h
theorem sf_slL {e : Expr} {lo hi : Option Expr} {p2 pos : Pos} {m : W → R D} {ml mh : W → R (Option Int)} (h : SE X Wx fm e m) (hl : SO X Wx fm lo ml) (hh : SO X Wx fm hi mh) : SF X Wx fm (.Subscript e (.Slice lo hi none p2) pos) (mSlL m ml mh) := by
  refine ⟨?_⟩
  intro ex σ H F w Q r q
  obtain ⟨tl, pl, gl⟩ := hl
  obtain ⟨th, ph, gh⟩ := hh
  refine WE.of (pe_slice sl_list pe_we pl ph) ?_
  show WE X e σ H fun x H1 => tl σ H1 fun l H2 => th σ H2 fun u H3 => rSlL X.K x l u H3 Q
  refine h ex σ H F w _ r ((FinF.bindD q).imp fun d w1 H1 F1 ⟨r1, k1, e1, q1⟩ v hv => ?_)
  refine gl ex σ H1 F1 w1 _ r1 ((FinF.bindO q1).imp fun a w2 H2 F2 ⟨r2, k2, e2, q2⟩ => ?_)
  refine gh ex σ H2 F2 w2 _ r2 ((FinF.bindO q2).imp fun b w3 H3 F3 ⟨r3, k3, e3, q3⟩ => ?_)
  have hv := (hv.ex e2).ex e3
  cases hv with
  | @lst p0 vs l h1 h2 =>
    refine ⟨_, _, rfl, .inl (.inl (r3.fh _ _ h1)), fun p hp => ?_⟩
    have q3 : FinF X Wx fm ex σ H3 F3 Q (.ok (cutD l a b) w3) := q3
    exact q3 p _ F3 (Gr.dark r3.fh hp).kp (Ex.refl _) (r3.lay hp (rp_cut h2 a b))
  | _ => exact (show False from q3).elim
/-- xs[::-1] of a list -/
def mRevL (m : W → R D) : W → R (List D) := fun w => (m w).bind fun d w1 => R.lift (d.l?.map List.reverse) w1
theorem sf_revL {e : Expr} {k : Nat} {p1 p2 p3 pos : Pos} {m : W → R D} (h : SE X Wx fm e m) : SF X Wx fm (.Subscript e (.Slice none none (some (.UnaryOp .USub (.Constant (.int 1) k p1) p2)) p3) pos) (mRevL m) := by
  refine ⟨?_⟩
  intro ex σ H F w Q r q
  refine WE.of (pe_revL pe_we) ?_
  refine h ex σ H F w _ r ((FinF.bindD q).imp fun d w1 H1 F1 ⟨r1, k1, e1, q1⟩ v hv => ?_)
  cases hv with
  | @lst p0 vs l h1 h2 =>
    refine ⟨_, _, rfl, .inl (.inl (r1.fh _ _ h1)), fun p hp => ?_⟩
    have q1 : FinF X Wx fm ex σ H1 F1 Q (.ok l.reverse w1) := q1
    exact q1 p _ F1 (Gr.dark r1.fh hp).kp (Ex.refl _) (r1.lay hp h2.rev)
  | _ => exact (show False from q1).elim
/-- xs + ys, lists -/
def mCat (ma mb : W → R D) : W → R (List D) := fun w => (ma w).bind fun x w1 => (mb w1).bind fun y w2 => R.lift (match x, y with | .lst a, .lst b => if a.length + b.length ≤ 1000000 then some (a ++ b) else none | _, _ => none) w2
theorem sf_cat {a b : Expr} {pos : Pos} {ma mb : W → R D} (ha : SE X Wx fm a ma) (hb : SE X Wx fm b mb) : SF X Wx fm (.BinOp a .Add b pos) (mCat ma mb) := by
  refine ⟨?_⟩
  intro ex σ H F w Q r q
  refine WE.of (pe_op op_cat pe_we pe_we) ?_
  show WE X a σ H fun x H1 => WE X b σ H1 fun y H2 => rCat x y H2 Q
  refine ha ex σ H F w _ r ((FinF.bindD q).imp fun x w1 H1 F1 ⟨r1, k1, e1, q1⟩ v hv => ?_)
  refine hb ex σ H1 F1 w1 _ r1 ((FinF.bindD q1).imp fun y w2 H2 F2 ⟨r2, k2, e2, q2⟩ u hu => ?_)
  have hv := hv.ex e2
  cases hv with
  | @lst p0 vs l h1 h2 =>
    cases hu with
    | @lst p2 us l2 h3 h4 =>
      by_cases hl : l.length + l2.length ≤ 1000000
      · have q2 : FinF X Wx fm ex σ H2 F2 Q (R.lift (if l.length + l2.length ≤ 1000000 then some (l ++ l2) else none) w2) := q2
        rw [if_pos hl] at q2
        exact ⟨_, _, _, _, rfl, rfl, r2.fh _ _ h1, r2.fh _ _ h3, line_of (by rw [h2.len, h4.len]; exact hl), fun p hp => q2 p _ F2 (Gr.dark r2.fh hp).kp (Ex.refl _) (r2.lay hp (h2.app h4))⟩
      · have q2 : FinF X Wx fm ex σ H2 F2 Q (R.lift (if l.length + l2.length ≤ 1000000 then some (l ++ l2) else none) w2) := q2
        rw [if_neg hl] at q2
        exact (show False from q2).elim
    | _ => exact (show False from q2).elim
  | _ => exact (show False from (by cases y <;> exact q2)).elim
end
end TD

set_option Elab.async false
set_option linter.all false
set_option maxRecDepth 100000
set_option maxHeartbeats 4000000
namespace TD
open PySem PySem.Spec PyProof.Rows L2

section
variable {X : Cx} {Wx : WX} {fm : Fm}
/-! ### built-in calls -/
def DCall (X : Cx) (a0 : Addr) (f : Value) (g : List D → Option D) : Prop :=
  ∀ (vs : List V) (ds : List D) (r : D) (H F : Hp) (Q : VK), Ex F H → RpAll X.K a0 F vs ds → g ds = some r → (∀ v H' F', Gr H F H' F' → Rp X.K a0 F' v r → Q v H') → WC X f vs H Q
def mBlt (g : List D → Option D) (m : W → R (List D)) : W → R D := fun w => (m w).bind fun ds w' => R.lift (g ds) w'
theorem se_blt0 {es : List Expr} {m : W → R (List D)} {f : Value} {g : List D → Option D} {ex : Exs} {σ : L2.St} {H F : Hp} {w : W} {Q : VK} (hc : DCall X fm.a0 f g) (ha : SAs X Wx fm es m) (r : Rel X.K fm ex σ H F w)
    (q : Fin X Wx fm ex σ H F (fun d _ H' F' => ∀ v, Rp X.K fm.a0 F' v d → Q v H') (mBlt g m w)) : tCB (WC X f) (WA X es) σ H Q := by
  show WA X es σ H fun vs H1 => WC X f vs H1 Q
  refine ha ex σ H F w _ r ((Fin.bind q).imp fun ds w1 H1 F1 ⟨r1, k1, e1, q1⟩ vs hv => ?_)
  obtain ⟨z, hz, q2⟩ := q1.lift
  exact hc vs ds z H1 F1 Q r1.fh hv hz fun t H' F' g hr => q2 H' F' g.kp g.ff (r1.gr g) t hr
theorem se_callB {e : Expr} {es : List Expr} {x : Str} {p pos : Pos} {id : String} {m : W → R (List D)} {g : List D → Option D} (hc : DCall X fm.a0 (.builtin id) g) (hm : X.mg x = none) (hv : bootBuiltins x = some (.builtin id)) (ha : SAs X Wx fm (e :: es) m) (hg : Gl X x := by rfl)
    (hn : x ≠ "__name__" := by decide) (hdb : (x == ("__debug__" : Str)) = false := by decide)
    (he : starEach (e :: es) X.env = (false, eval e X.env) :: starEach es X.env := by rfl) (hpl : (backTo pos (starEach es X.env)).any (·.1) = false := by rfl) : SE X Wx fm (.Call (.Name x p) (e :: es) [] pos) (mBlt g m) :=
  ⟨fun ex σ H F w Q r q => WE.of (pe_callB callr_wc hg hm hv pa_wa hn hdb he hpl) (se_blt0 hc ha r q)⟩
theorem se_callTy {e : Expr} {es : List Expr} {x : Str} {p pos : Pos} {T : String} {m : W → R (List D)} {g : List D → Option D} (hc : DCall X fm.a0 (.type T) g) (hm : X.mg x = none) (hv : bootBuiltins x = some (.type T)) (ha : SAs X Wx fm (e :: es) m) (hg : Gl X x := by rfl)
    (hn : x ≠ "__name__" := by decide) (hdb : (x == ("__debug__" : Str)) = false := by decide)
    (he : starEach (e :: es) X.env = (false, eval e X.env) :: starEach es X.env := by rfl) (hpl : (backTo pos (starEach es X.env)).any (·.1) = false := by rfl) : SE X Wx fm (.Call (.Name x p) (e :: es) [] pos) (mBlt g m) :=
  ⟨fun ex σ H F w Q r q => WE.of (pe_callTy callr_wc hg hm hv pa_wa hn hdb he hpl) (se_blt0 hc ha r q)⟩
def gLen : List D → Option D
  | [.tup l] => some (.int l.length)
  | [.lst l] => some (.int l.length)
  | [.str z] => if z.length ≤ 1000000 then some (.int z.length) else none
  | _ => none
theorem dc_len {a0 : Addr} : DCall X a0 (.builtin "len") gLen := by
  intro vs ds r H F Q hf hv hg k
  cases hv with
  | nil => cases hg
  | cons h1 h2 =>
    cases h2 with
    | cons _ _ => cases h1 <;> cases hg
    | nil =>
      cases h1 with
      | tup hs ha =>
        cases hg
        have kk := k _ _ _ (Gr.refl hf) (.int _)
        rw [← ha.len] at kk
        exact WC.of call_len_seq ⟨_, _, rfl, .inr (ex_t hf hs), kk⟩
      | lst hs ha =>
        cases hg
        have kk := k _ _ _ (Gr.refl hf) (.int _)
        rw [← ha.len] at kk
        exact WC.of call_len_seq ⟨_, _, rfl, .inl (.inl (.inl (hf _ _ hs))), kk⟩
      | str z =>
        have hg : (if z.length ≤ 1000000 then some (D.int z.length) else none) = some r := hg
        by_cases hl : z.length ≤ 1000000
        · rw [if_pos hl] at hg
          cases hg
          exact WC.of call_len_str ⟨_, rfl, line_of hl, k _ _ _ (Gr.refl hf) (.int _)⟩
        · rw [if_neg hl] at hg; cases hg
      | _ => cases hg
def gAbs : List D → Option D
  | [.int i] => some (.int (if i < 0 then -i else i))
  | _ => none
theorem dc_abs {a0 : Addr} : DCall X a0 (.builtin "abs") gAbs := by
  intro vs ds r H F Q hf hv hg k
  cases hv with
  | nil => cases hg
  | cons h1 h2 =>
    cases h2 with
    | cons _ _ => cases h1 <;> cases hg
    | nil =>
      cases h1 <;> cases hg
      exact WC.of call_abs ⟨_, rfl, k _ _ _ (Gr.refl hf) (.int _)⟩
def gInt : List D → Option D
  | [.int i] => some (.int i)
  | [.bl b] => some (.int (if b then 1 else 0))
  | _ => none
theorem dc_int {a0 : Addr} : DCall X a0 (.type "int") gInt := by
  intro vs ds r H F Q hf hv hg k
  cases hv with
  | nil => cases hg
  | cons h1 h2 =>
    cases h2 with
    | cons _ _ => cases h1 <;> cases hg
    | nil =>
      cases h1 with
      | int i => cases hg; exact WC.of call_int1 (.inl ⟨_, rfl, k _ _ _ (Gr.refl hf) (.int _)⟩)
      | bl b => cases hg; exact WC.of call_int1 (.inr ⟨_, rfl, k _ _ _ (Gr.refl hf) (.int _)⟩)
      | _ => cases hg
def gTuple : List D → Option D
  | [.tup l] => some (.tup l)
  | [.lst l] => some (.tup l)
  | _ => none
theorem dc_tuple {a0 : Addr} : DCall X a0 (.type "tuple") gTuple := by
  intro vs ds r H F Q hf hv hg k
  cases hv with
  | nil => cases hg
  | cons h1 h2 =>
    cases h2 with
    | cons _ _ => cases h1 <;> cases hg
    | nil =>
      cases h1 with
      | tup hs ha => cases hg; exact WC.of call_tuple_of ⟨_, _, rfl, .inr ⟨ex_t hf hs, k _ _ _ (Gr.refl hf) (.tup hs ha)⟩⟩
      | lst hs ha => cases hg; exact WC.of call_tuple_of ⟨_, _, rfl, .inl ⟨.inl (.inl (hf _ _ hs)), fun p hp => k _ _ _ (Gr.new hf hp) (.tup (.inl (.inl upd_same)) (ha.ex (Gr.new hf hp).ff))⟩⟩
      | _ => cases hg
def ints? : List D → Option (List Int)
  | [] => some []
  | .int i :: l => (ints? l).map (i :: ·)
  | _ => none
theorem ints_rp {K : PySem.W.Frag} {a0 : Addr} {F : Hp} : ∀ {l : List D} {ns : List Int} {vs : List V}, ints? l = some ns → RpAll K a0 F vs l → vs = ns.map V.int
  | [], ns, _, e, h => by cases e; cases h; rfl
  | .int i :: l, ns, _, e, h => by
    unfold ints? at e
    cases q : ints? l with
    | none => rw [q] at e; cases e
    | some ms =>
      rw [q] at e
      cases e
      cases h with
      | cons h1 h2 =>
        cases h1
        rw [ints_rp q h2]
        rfl
  | .non :: _, _, _, e, _ => by cases e
  | .bl _ :: _, _, _, e, _ => by cases e
  | .str _ :: _, _, _, e, _ => by cases e
  | .tup _ :: _, _, _, e, _ => by cases e
  | .lst _ :: _, _, _, e, _ => by cases e
  | .src :: _, _, _, e, _ => by cases e
theorem ints_map (ns : List Int) : ints? (ns.map D.int) = some ns := by
  induction ns with
  | nil => rfl
  | cons n r ih => rw [List.map_cons, ints?, ih]; rfl
def maxL (ns : List Int) : Int := ns.foldl max (ns.headD 0)
def minL (ns : List Int) : Int := ns.foldl min (ns.headD 0)
theorem foldl_max_ge : ∀ (ns : List Int) (a : Int), a ≤ ns.foldl max a ∧ ∀ y ∈ ns, y ≤ ns.foldl max a
  | [], a => ⟨Int.le_refl _, fun _ h => nomatch h⟩
  | n :: r, a => by
    have := foldl_max_ge r (max a n)
    rw [List.foldl_cons]
    refine ⟨by omega, fun y hy => ?_⟩
    rcases List.mem_cons.mp hy with rfl | hy
    · omega
    · exact this.2 y hy
theorem foldl_max_mem : ∀ (ns : List Int) (a : Int), ns.foldl max a = a ∨ ns.foldl max a ∈ ns
  | [], a => .inl rfl
  | n :: r, a => by
    rw [List.foldl_cons]
    rcases foldl_max_mem r (max a n) with h | h
    · rw [h]
      by_cases c : a ≤ n
      · right; rw [Int.max_eq_right c]; exact List.mem_cons_self ..
      · left; exact Int.max_eq_left (by omega)
    · exact .inr (List.mem_cons_of_mem _ h)
theorem maxL_spec {ns : List Int} (h : ns ≠ []) : maxL ns ∈ ns ∧ ∀ y ∈ ns, y ≤ maxL ns := by
  cases ns with
  | nil => exact absurd rfl h
  | cons n r =>
    refine ⟨?_, (foldl_max_ge _ _).2⟩
    rcases foldl_max_mem (n :: r) n with e | e
    · show (n :: r).foldl max n ∈ _
      rw [e]; exact List.mem_cons_self ..
    · exact e
theorem maxL_eq {ns : List Int} {m : Int} (h : m ∈ ns) (hm : ∀ y ∈ ns, y ≤ m) : m = maxL ns := by
  have := maxL_spec (List.ne_nil_of_mem h)
  have h1 := this.2 m h
  have h2 := hm _ this.1
  omega
def gMax : List D → Option D
  | [.int i, .int j] => some (.int (if j > i then j else i))
  | [.lst l] => match ints? l with
    | some (n :: r) => some (.int (maxL (n :: r)))
    | _ => none
  | _ => none
theorem dc_max {a0 : Addr} (hc : X.calm = true) : DCall X a0 (.builtin "max") gMax := by
  intro vs ds r H F Q hf hv hg k
  cases hv with
  | nil => cases hg
  | cons h1 h2 =>
    cases h2 with
    | cons h3 h4 =>
      cases h4 with
      | cons _ _ => cases h1 <;> cases h3 <;> cases hg
      | nil =>
        cases h1 <;> cases h3 <;> cases hg
        exact WC.of (call_max2 hc) ⟨_, _, rfl, k _ _ _ (Gr.refl hf) (.int _)⟩
    | nil =>
      cases h1 with
      | @lst p us l hs ha =>
        have hg : (match ints? l with | some (n :: r) => some (D.int (maxL (n :: r))) | _ => none) = some r := hg
        cases q : ints? l with
        | none => rw [q] at hg; cases hg
        | some ns =>
          rw [q] at hg
          cases ns with
          | nil => cases hg
          | cons n ns =>
            cases hg
            have e := ints_rp q ha
            subst e
            exact WC.of (cr_max hc) ⟨_, _, rfl, .inl (.inl (hf _ _ hs)), by simp, fun m hm hle => by
              rw [maxL_eq hm hle]
              exact k _ _ _ (Gr.refl hf) (.int _)⟩
      | _ => cases hg
def gMin : List D → Option D
  | [.int i, .int j] => some (.int (if j < i then j else i))
  | _ => none
theorem dc_min {a0 : Addr} (hc : X.calm = true) : DCall X a0 (.builtin "min") gMin := by
  intro vs ds r H F Q hf hv hg k
  cases hv with
  | nil => cases hg
  | cons h1 h2 =>
    cases h2 with
    | cons h3 h4 =>
      cases h4 with
      | cons _ _ => cases h1 <;> cases h3 <;> cases hg
      | nil =>
        cases h1 <;> cases h3 <;> cases hg
        exact WC.of (call_min2 hc) ⟨_, _, rfl, k _ _ _ (Gr.refl hf) (.int _)⟩
    | nil => cases h1 <;> cases hg
def gSum : List D → Option D
  | [.lst l] => (ints? l).map fun ns => .int ns.sum
  | _ => none
theorem dc_sum {a0 : Addr} (hc : X.calm = true) : DCall X a0 (.builtin "sum") gSum := by
  intro vs ds r H F Q hf hv hg k
  cases hv with
  | nil => cases hg
  | cons h1 h2 =>
    cases h2 with
    | cons _ _ => cases h1 <;> cases hg
    | nil =>
      cases h1 with
      | @lst p us l hs ha =>
        have hg : ((ints? l).map fun ns => D.int ns.sum) = some r := hg
        cases q : ints? l with
        | none => rw [q] at hg; cases hg
        | some ns =>
          rw [q] at hg
          cases hg
          have e := ints_rp q ha
          subst e
          exact WC.of (cr_sum hc) ⟨_, _, rfl, .inl (.inl (hf _ _ hs)), k _ _ _ (Gr.refl hf) (.int _)⟩
      | _ => cases hg
/-- list(x): a new list -/
def D.seq? : D → Option (List D)
  | .tup l => some l
  | .lst l => some l
  | _ => none
def mListOf (m : W → R D) : W → R (List D) := fun w => (m w).bind fun d w' => R.lift d.seq? w'
theorem sf_listOf {e : Expr} {p pos : Pos} {m : W → R D} (h : SE X Wx fm e m) (hm : X.mg "list" = none) (hg : Gl X "list" := by rfl) (he : starEach [e] X.env = (false, eval e X.env) :: starEach [] X.env := by rfl) (hpl : (backTo pos (starEach [] X.env)).any (·.1) = false := by rfl) :
    SF X Wx fm (.Call (.Name "list" p) [e] [] pos) (mListOf m) := by
  refine ⟨?_⟩
  intro ex σ H F w Q r q
  refine WE.of (pe_callTy call_list_of hg hm (by decide +kernel) (pa_cons pe_we pa_nil he) (by decide) (by decide) he hpl) ?_
  show WE X e σ H fun x H1 => ∃ p ys, [x] = [.ref p] ∧ (SqL X.K H1 p ys ∨ SqT X.K H1 p ys) ∧ ∀ l, H1 l = none → Q (.ref l) (upd H1 l (.lst ys))
  refine h ex σ H F w _ r ((FinF.bindD q).imp fun d w1 H1 F1 ⟨r1, k1, e1, q1⟩ v hv => ?_)
  cases hv with
  | @tup p us l hs ha =>
    have q1 : FinF X Wx fm ex σ H1 F1 Q (.ok l w1) := q1
    exact ⟨_, _, rfl, .inr (ex_t r1.fh hs), fun p hp => q1 p _ F1 (Gr.dark r1.fh hp).kp (Ex.refl _) (r1.lay hp ha)⟩
  | @lst p us l hs ha =>
    have q1 : FinF X Wx fm ex σ H1 F1 Q (.ok l w1) := q1
    exact ⟨_, _, rfl, .inl (.inl (.inl (r1.fh _ _ hs))), fun p hp => q1 p _ F1 (Gr.dark r1.fh hp).kp (Ex.refl _) (r1.lay hp ha)⟩
  | _ => exact (show False from q1).elim
/-- isinstance(x, T), T a built-in type -/
def D.ty : D → Option String
  | .non => some "NoneType"
  | .bl _ => some "bool"
  | .int _ => some "int"
  | .str _ => some "str"
  | .tup _ => some "tuple"
  | .lst _ => some "list"
  | .src => none
def D.isi (T : String) (d : D) : Option Bool := d.ty.bind fun t => kitB t T
theorem Rp.tyx {F H : Hp} {v : V} {d : D} {t : String} (h : Rp X.K fm.a0 F v d) (hf : Ex F H) (e : d.ty = some t) : TyX X.K H v (.type t) := by
  cases h with
  | non => cases e; exact .base .non
  | bl b => cases e; exact .base (.bl b)
  | int i => cases e; exact .base (.int i)
  | str x => cases e; exact .base (.str x)
  | src => cases e
  | lst hs ha => cases e; exact .base (.lst (hf _ _ hs))
  | tup hs ha =>
    cases e
    rcases hs with (hs | ⟨o, hs⟩) | ⟨o, its, n, h1, h2, _⟩
    · exact .base (.tup (hf _ _ hs))
    · exact .fTuple (hf _ _ hs)
    · exact .kTuple h1 h2
def mIsi (T : String) (m : W → R D) : W → R D := fun w => (m w).bind fun d w' => R.lift ((d.isi T).map D.bl) w'
theorem se_isi {e : Expr} {x : Str} {T : String} {p p2 pos : Pos} {m : W → R D} (h : SE X Wx fm e m) (hm : X.mg "isinstance" = none) (hmT : X.mg x = none) (hT : bootBuiltins x = some (.type T)) (hg : Gl X "isinstance" := by rfl) (hgT : Gl X x := by rfl) (hn : x ≠ "__name__" := by decide) (hdb : (x == ("__debug__" : Str)) = false := by decide)
    (he : starEach [e, .Name x p2] X.env = (false, eval e X.env) :: starEach [.Name x p2] X.env := by rfl) (he2 : starEach [.Name x p2] X.env = (false, eval (.Name x p2) X.env) :: starEach [] X.env := by rfl) (hpl : (backTo pos (starEach [.Name x p2] X.env)).any (·.1) = false := by rfl) :
    SE X Wx fm (.Call (.Name "isinstance" p) [e, .Name x p2] [] pos) (mIsi T m) := by
  refine ⟨?_⟩
  intro ex σ H F w Q r q
  refine WE.of (pe_callB call_isi hg hm (by decide +kernel) (pa_cons pe_we (pa_cons (pe_bltn (v := .ty T) hgT hmT hT rfl hn hdb) pa_nil he2) he) (by decide) (by decide) he hpl) ?_
  show WE X e σ H fun y H1 => rIsi X.K [y, .ty T] H1 Q
  refine h ex σ H F w _ r ((Fin.bind q).imp fun d w1 H1 F1 ⟨r1, k1, e1, q1⟩ v hv => ?_)
  obtain ⟨z, hz, q2⟩ := q1.lift
  unfold D.isi at hz
  cases ht : d.ty with
  | none => rw [ht] at hz; cases hz
  | some t =>
    rw [ht] at hz
    cases hb : kitB t T with
    | none =>
      have hz : (kitB t T).map D.bl = some z := hz
      rw [hb] at hz; cases hz
    | some b =>
      have hz : (kitB t T).map D.bl = some z := hz
      rw [hb] at hz
      cases hz
      exact ⟨v, .ty T, .type t, .type T, b, rfl, .ty T, hv.tyx r1.fh ht, kit_ty hb, q2 H1 F1 Kp.refl (Ex.refl _) r1 _ (.bl b)⟩

/-! ### defs: the promise, the call -/
end
inductive RF where
  | ok (d : D) (ss : SS)
  | exc (c : Exn) (ss : SS)
  | stuck
def FinM (K : PySem.W.Frag) (mg : Str → Option Value) (a0 c0 : Addr) (F H : Hp) (Q : VK) (E : XK) : RF → Prop
  | .ok d ss' => ∀ v H' F', Gk a0 H F H' F' → SrcOk a0 c0 F' H' ss' → Rp K a0 F' v d → Q v H'
  | .exc c ss' => ∀ H' F' cls dd, Gk a0 H F H' F' → SrcOk a0 c0 F' H' ss' → ExcIs K mg a0 H c cls dd F' H' → E cls dd H'
  | .stuck => False
def spM (K : PySem.W.Frag) (mg : Str → Option Value) (n : Nat) (m : List D → SS → RF) : Sp := fun vs H Q E =>
  ∃ (a0 c0 : Addr) (F : Hp) (ds : List D) (ss : SS), vs.length = n ∧ Ex F H ∧ SrcOk a0 c0 F H ss ∧ RpAll K a0 F vs ds ∧ FinM K mg a0 c0 F H Q E (m ds ss)
/-- the module's def of the name x computes m of its n arguments, by at most level k -/
structure Cal (P : Program) (w : World) (K : PySem.W.Frag) (mg : Str → Option Value) (base : Heap) (k : Nat) (x : Str) (n : Nat) (m : List D → SS → RF) : Prop where
  ex : ∃ (f : Addr) (fd : FuncData) (ps : List Str), FnOk P w K mg base (L2.CX P w) k f fd ps (spM K mg n m) ∧ mg x = some (.ref f) ∧ PySem.W.keepIn K (.ref f) = true ∧ Binds K fd ps []
def mCall (n : Nat) (f : List D → SS → RF) (m : W → R (List D)) : W → R D := fun w => (m w).bind fun ds w1 => if ds.length = n then match f ds w1.ss with
  | .ok d ss' => .ok d { w1 with ss := ss' }
  | .exc c ss' => .exc c { w1 with ss := ss' }
  | .stuck => .stuck
  else .stuck
section
variable {X : Cx} {Wx : WX} {fm : Fm}
theorem se_call {e : Expr} {es : List Expr} {x : Str} {p pos : Pos} {k n : Nat} {f : List D → SS → RF} {m : W → R (List D)} (c : Cal X.prog X.w X.K X.mg X.base k x n f) (tk : Takes X Wx) (hr : Room k X.A) (ha : SAs X Wx fm (e :: es) m) (hg : Gl X x := by rfl)
    (hdb : (x == ("__debug__" : Str)) = false := by decide) (he : starEach (e :: es) X.env = (false, eval e X.env) :: starEach es X.env := by rfl) (hpl : (backTo pos (starEach es X.env)).any (·.1) = false := by rfl) :
    SE X Wx fm (.Call (.Name x p) (e :: es) [] pos) (mCall n f m) := by
  obtain ⟨fa, fd, ps, Fo, hm, hk, hb⟩ := c.ex
  refine ⟨?_⟩
  intro ex σ H F w Q r q
  refine WE.of (pe_callS Fo hr hg hm hk hb (fun σ => passAt tk σ) pa_wa hdb he hpl) ?_
  show WA X (e :: es) σ H fun vs H1 => spM X.K X.mg n f vs H1 Q (L2.WE Wx σ)
  refine ha ex σ H F w _ r ((Fin.bind q).imp fun ds w1 H1 F1 ⟨r1, k1, e1, q1⟩ vs hv => ?_)
  by_cases hl : ds.length = n
  · rw [if_pos hl] at q1
    refine ⟨fm.a0, fm.c0, F1, ds, w1.ss, hv.len.trans hl, r1.fh, r1.src, hv, ?_⟩
    revert q1
    cases f ds w1.ss with
    | ok d ss' => exact fun q1 v H' F' g s rv => q1 H' F' g.hh g.ff (r1.step g s) v rv
    | exc c ss' => exact fun q1 H' F' cls dd g s xc => q1 H' F' cls dd g.hh g.ff (r1.step g s) (xc.up r1 s)
    | stuck => exact fun q1 => q1
  · rw [if_neg hl] at q1
    exact (show False from q1).elim
/-- f(), no argument; it raises nothing -/
def mCall0 (f : List D → SS → RF) : W → R D := fun w1 => match f [] w1.ss with
  | .ok d ss' => .ok d { w1 with ss := ss' }
  | _ => .stuck
theorem se_call0 {x : Str} {p pos : Pos} {k : Nat} {f : List D → SS → RF} (c : Cal X.prog X.w X.K X.mg X.base k x 0 f) (hr : Room k X.A) (hg : Gl X x := by rfl)
    (hdb : (x == ("__debug__" : Str)) = false := by decide) : SE X Wx fm (.Call (.Name x p) [] [] pos) (mCall0 f) := by
  obtain ⟨fa, fd, ps, Fo, hm, hk, hb⟩ := c.ex
  refine ⟨?_⟩
  intro ex σ H F w Q r q
  refine WE.of (pe_call0 (dvs := []) Fo hr hg hm hk hb .nil passL hdb) ?_
  refine ⟨fm.a0, fm.c0, F, [], w.ss, rfl, r.fh, r.src, .nil, ?_⟩
  revert q
  unfold mCall0
  cases f [] w.ss with
  | ok d ss' => exact fun q1 v H' F' g s rv => q1 H' F' g.hh g.ff (r.step g s) v rv
  | exc c ss' => exact fun q1 => q1.elim
  | stuck => exact fun q1 => q1

/-! ### what a for walks -/
def WI (X : Cx) (tg iter : Expr) : TI := fun σ H R => ∀ (pins : List (Addr × Obj)) (s : Shared), Inv X pins σ H s →
  wpAny (model X.prog X.w) X.A (eval iter X.env) (fun v s1 => wpAny (model X.prog X.w) X.A (pyIter v) (PIE X pins σ tg R) X.xe s1) X.xe s
theorem pi_wi {tg iter : Expr} : PI X tg iter (WI X tg iter) := ⟨fun pins s _ _ _ I h => h pins s I⟩
theorem WI.of {tg iter : Expr} {t : TI} {σ : L2.St} {H : Hp} {R : It → Hp → Prop} (h : PI X tg iter t) (q : t σ H R) : WI X tg iter σ H R := fun pins s I => h.run pins s σ H R I q
structure Wk (K : PySem.W.Frag) (a0 : Addr) (J : It) (ds : List D) (F : Hp) : Prop where
  ex : ∃ (G : Hp → Prop) (Y : Nat → Hp → V → Hp → Prop), Walk J ds.length G Y ∧ (∀ H, Ex F H → G H) ∧
    ∀ i H F1 x H', i < ds.length → Ex F F1 → Ex F1 H → Y i H x H' → ∃ F2 d, ds[i]? = some d ∧ Gr H F1 H' F2 ∧ Rp K a0 F2 x d
abbrev SItr (X : Cx) (Wx : WX) (fm : Fm) (tg iter : Expr) (m : W → R (List D)) : Prop := ∀ (ex : Exs) (σ : L2.St) (H F : Hp) (w : W) (R : It → Hp → Prop), Rel X.K fm ex σ H F w →
  Fin X Wx fm ex σ H F (fun ds _ H' F' => ∀ J, Wk X.K fm.a0 J ds F' → R J H') (m w) → WI X tg iter σ H R
structure SIt (X : Cx) (Wx : WX) (fm : Fm) (tg iter : Expr) (m : W → R (List D)) : Prop where
  run : SItr X Wx fm tg iter m
instance {X : Cx} {Wx : WX} {fm : Fm} {tg iter : Expr} {m : W → R (List D)} : CoeFun (SIt X Wx fm tg iter m) (fun _ => SItr X Wx fm tg iter m) := ⟨SIt.run⟩
def signs (z : Str) : List D := z.cps.toList.map fun c => .str ⟨#[c]⟩
def D.items : D → Option (List D)
  | .tup l => some l
  | .lst l => some l
  | .str z => some (signs z)
  | _ => none
def mItems (m : W → R D) : W → R (List D) := fun w => (m w).bind fun d w' => R.lift d.items w'
theorem wk_at {K : PySem.W.Frag} {a0 : Addr} {J : It} {G : Hp → Prop} {vs : List V} {ds : List D} {F : Hp} (w : Walk J vs.length G (YAt vs)) (hG : ∀ H, Ex F H → G H) (ha : RpAll K a0 F vs ds) : Wk K a0 J ds F := by
  refine ⟨G, YAt vs, by rw [← ha.len]; exact w, hG, fun i H F1 x H' hi e1 e2 y => ?_⟩
  obtain ⟨rfl, y⟩ := y
  obtain ⟨d, h1, h2⟩ := ha.getv y
  exact ⟨F1, d, h1, Gr.refl e2, h2.ex e1⟩
/-- the iterator of a value that is there -/
def ItrOk (X : Cx) (tg : Expr) (R : It → Hp → Prop) (x : V) (H : Hp) : Prop := ∀ (pins : List (Addr × Obj)) (s : Shared) (σ : L2.St) (u : Value), Inv X pins σ H s → RelV x u → wpAny (model X.prog X.w) X.A (pyIter u) (PIE X pins σ tg R) X.xe s
theorem iter_list {tg : Expr} {R : It → Hp → Prop} {a : Addr} {H : Hp} {vs : List V} (hq : SqL X.K H a vs) (q : R (Itl X.K a) H) : ItrOk X tg R (.ref a) H := by
  intro pins s σ u I r
  cases r
  obtain ⟨its, rv, p, hz⟩ := I.list hq
  refine wpAny_pyIter_list p.isList ?_
  refine ⟨s.heap.objs.size, [s.heap.objs.size], _, _, H, rfl, I.kept (t' := s.toks) fun b o e => Heap.get?_push_of_some _ e, turn_list a _, ⟨_, Heap.get?_push_size _ rfl, rfl, rfl⟩, fun b hb => ?_, q⟩
  have e : b = s.heap.objs.size := by simpa using hb
  subst e
  exact I.fpOk (Nat.le_refl _) (I.hok.fresh (Nat.le_refl _))
theorem iter_tup {tg : Expr} {R : It → Hp → Prop} {a : Addr} {H : Hp} {vs : List V} (hq : SqT X.K H a vs) (q : R (Itt X.K a) H) : ItrOk X tg R (.ref a) H := by
  intro pins s σ u I r
  cases r
  obtain ⟨its, rv, p, hz⟩ := I.tuple hq
  refine wpAny_pyIter_tuple (show s.heap.IsTuple a its.toArray from p) ?_
  refine ⟨s.heap.objs.size, [s.heap.objs.size], _, _, H, rfl, I.kept (t' := s.toks) fun b o e => Heap.get?_push_of_some _ e, turn_tuple a _, ⟨_, Heap.get?_push_size _ rfl, rfl, rfl⟩, fun b hb => ?_, q⟩
  have e : b = s.heap.objs.size := by simpa using hb
  subst e
  exact I.fpOk (Nat.le_refl _) (I.hok.fresh (Nat.le_refl _))
theorem iter_str {tg : Expr} {R : It → Hp → Prop} {x : Str} {H : Hp} (q : R (Its x) H) : ItrOk X tg R (.str x) H := by
  intro pins s σ u I r
  obtain ⟨t, rfl⟩ := r
  cases ha : x.cps.all (· < 128)
  · exact wpAny_pyIter_wide ha (pi_one (tk := s.toks) I _ (turn_str _ x t "str_iterator" (.inr rfl)) ⟨_, Heap.get?_push_size _ rfl, rfl, rfl⟩ q)
  · exact wpAny_pyIter_ascii ha (pi_one (tk := s.toks) I _ (turn_str _ x t "str_ascii_iterator" (.inl rfl)) ⟨_, Heap.get?_push_size _ rfl, rfl, rfl⟩ q)
theorem si_seq {tg e : Expr} {m : W → R D} (h : SE X Wx fm e m) : SIt X Wx fm tg e (mItems m) := by
  refine ⟨?_⟩
  intro ex σ H F w R r q
  intro pins s I
  have key : WE X e σ H fun v H1 => ItrOk X tg R v H1 := by
    refine h ex σ H F w _ r ((Fin.bind q).imp fun d w1 H1 F1 ⟨r1, k1, e1, q1⟩ v hv => ?_)
    cases hv with
    | @lst p us l hs ha =>
      have q1 : ∀ H' F', Kp fm.a0 H1 H' → Ex F1 F' → Rel X.K fm ex σ H' F' w1 → ∀ J, Wk X.K fm.a0 J l F' → R J H' := q1
      exact iter_list (.inl (.inl (r1.fh _ _ hs))) (q1 H1 F1 Kp.refl (Ex.refl _) r1 _ (wk_at walk_list (fun H' e => .inl (.inl (e _ _ hs))) ha))
    | @tup p us l hs ha =>
      have q1 : ∀ H' F', Kp fm.a0 H1 H' → Ex F1 F' → Rel X.K fm ex σ H' F' w1 → ∀ J, Wk X.K fm.a0 J l F' → R J H' := q1
      exact iter_tup (ex_t r1.fh hs) (q1 H1 F1 Kp.refl (Ex.refl _) r1 _ (wk_at walk_tup (fun H' e => ex_t e hs) ha))
    | str z =>
      have q1 : ∀ H' F', Kp fm.a0 H1 H' → Ex F1 F' → Rel X.K fm ex σ H' F' w1 → ∀ J, Wk X.K fm.a0 J (signs z) F' → R J H' := q1
      refine iter_str (q1 H1 F1 Kp.refl (Ex.refl _) r1 _ ⟨fun _ => True, (fun i H v H' => H' = H ∧ ∃ c, z.cps[i]? = some c ∧ v = .str ⟨#[c]⟩), ?_, fun _ _ => trivial, fun i H F1 x H' hi e1 e2 y => ?_⟩)
      · have e : (signs z).length = z.cps.size := by simp [signs]
        rw [e]
        exact walk_str
      · obtain ⟨rfl, c, hc, rfl⟩ := y
        refine ⟨F1, .str ⟨#[c]⟩, ?_, Gr.refl e2, .str _⟩
        have hc' : z.cps.toList[i]? = some c := by simpa using hc
        unfold signs
        rw [List.getElem?_map, hc']
        rfl
    | _ => exact (show False from q1).elim
  exact thn (key pins s I) fun u s1 ⟨v, H1, I1, rv, hv⟩ => hv pins s1 σ u I1 rv
/-- range(n), range(a, b) -/
def rngD (a b : Int) : List D := (List.range (b - a).toNat).map fun (i : Nat) => D.int (a + (i : Int))
def small (i : Int) : Bool := decide (-(2 ^ 62) ≤ i) && decide (i < 2 ^ 62)
theorem small_b {i : Int} (h : small i = true) : -(2 ^ 62) ≤ i ∧ i < 2 ^ 62 := by
  unfold small at h
  simpa using h
def mRng1 (m : W → R (List D)) : W → R (List D) := fun w => (m w).bind fun ds w' => R.lift (match ds with | [.int b] => if small b = true then some (rngD 0 b) else none | _ => none) w'
def mRng2 (m : W → R (List D)) : W → R (List D) := fun w => (m w).bind fun ds w' => R.lift (match ds with | [.int a, .int b] => if (small a && small b) = true then some (rngD a b) else none | _ => none) w'
theorem wk_rng {K : PySem.W.Frag} {a0 : Addr} {a b : Int} {F : Hp} : Wk K a0 (Itr a (b - a).toNat) (rngD a b) F := by
  have e : (rngD a b).length = (b - a).toNat := by simp [rngD]
  refine ⟨fun _ => True, (YFn fun i => .int (a + i)), by rw [e]; exact walk_range, fun _ _ => trivial, fun i H F1 x H' hi e1 e2 y => ?_⟩
  obtain ⟨rfl, rfl⟩ := y
  refine ⟨F1, .int (a + i), ?_, Gr.refl e2, .int _⟩
  unfold rngD
  rw [List.getElem?_map, List.getElem?_range (by omega)]
  rfl
theorem si_rng1 {tg a : Expr} {p pos : Pos} {m : W → R (List D)} (ha : SAs X Wx fm [a] m) (hm : X.mg "range" = none) (hg : Gl X "range" := by rfl) (hs : starEach [a] X.env = [(false, eval a X.env)] := by rfl) : SIt X Wx fm tg (.Call (.Name "range" p) [a] [] pos) (mRng1 m) := by
  refine ⟨?_⟩
  intro ex σ H F w R r q
  refine WI.of (pi_range1 hg hm pa_wa hs) ?_
  show WA X [a] σ H fun vs H1 => ∃ j : Int, vs = [.int j] ∧ -(2 ^ 62) ≤ j ∧ j < 2 ^ 62 ∧ R (Itr 0 j.toNat) H1
  refine ha ex σ H F w _ r ((Fin.bind q).imp fun ds w1 H1 F1 ⟨r1, k1, e1, q1⟩ vs hv => ?_)
  obtain ⟨z, hz, q2⟩ := q1.lift
  split at hz
  · rename_i b _
    by_cases hb : small b = true
    · rw [if_pos hb] at hz
      cases hz
      cases hv with
      | cons h1 h2 =>
        cases h1
        cases h2
        have k := wk_rng (K := X.K) (a0 := fm.a0) (a := 0) (b := b) (F := F1)
        rw [Int.sub_zero] at k
        exact ⟨b, rfl, (small_b hb).1, (small_b hb).2, q2 H1 F1 Kp.refl (Ex.refl _) r1 _ k⟩
    · rw [if_neg hb] at hz; cases hz
  · cases hz
theorem si_rng2 {tg a b : Expr} {p pos : Pos} {m : W → R (List D)} (ha : SAs X Wx fm [a, b] m) (hm : X.mg "range" = none) (hg : Gl X "range" := by rfl) (hs : starEach [a, b] X.env = [(false, eval a X.env), (false, eval b X.env)] := by rfl) (hs2 : starEach [b] X.env = [(false, eval b X.env)] := by rfl) :
    SIt X Wx fm tg (.Call (.Name "range" p) [a, b] [] pos) (mRng2 m) := by
  refine ⟨?_⟩
  intro ex σ H F w R r q
  refine WI.of (pi_range2 hg hm pa_wa hs hs2) ?_
  show WA X [a, b] σ H fun vs H1 => ∃ i j : Int, vs = [.int i, .int j] ∧ (-(2 ^ 62) ≤ i ∧ i < 2 ^ 62 ∧ -(2 ^ 62) ≤ j ∧ j < 2 ^ 62) ∧ R (Itr i (j - i).toNat) H1
  refine ha ex σ H F w _ r ((Fin.bind q).imp fun ds w1 H1 F1 ⟨r1, k1, e1, q1⟩ vs hv => ?_)
  obtain ⟨z, hz, q2⟩ := q1.lift
  split at hz
  · rename_i a b _
    by_cases hb : (small a && small b) = true
    · rw [if_pos hb] at hz
      cases hz
      have hb' : small a = true ∧ small b = true := by simpa using hb
      cases hv with
      | cons h1 h2 =>
        cases h1
        cases h2 with
        | cons h3 h4 =>
          cases h3
          cases h4
          exact ⟨a, b, rfl, ⟨(small_b hb'.1).1, (small_b hb'.1).2, (small_b hb'.2).1, (small_b hb'.2).2⟩, q2 H1 F1 Kp.refl (Ex.refl _) r1 _ wk_rng⟩
    · rw [if_neg hb] at hz; cases hz
  · cases hz
end
end TD

set_option Elab.async false
set_option linter.all false
set_option maxRecDepth 100000
set_option maxHeartbeats 4000000
namespace TD
open PySem PySem.Spec PyProof.Rows L2

/-! ### names wiped, given back -/
def wipeE (env : Env) : List Nat → Env
  | [] => env
  | v :: vs => (wipeE env vs).set v none
theorem Rel.wipe {K : PySem.W.Frag} {fm : Fm} {ex : Exs} {σ : L2.St} {H F : Hp} {w : W} (r : Rel K fm ex σ H F w) : ∀ vs : List Nat, Rel K fm ex (L2.wipe σ vs) H F { w with env := wipeE w.env vs }
  | [] => r
  | v :: vs => (r.wipe vs).setNone v none
def resE (env0 env : Env) : List Nat → Env
  | [] => env
  | v :: vs => (resE env0 env vs).set v (match env0[v]? with | some (some (.val d)) => some (.val d) | _ => none)
def resS (σ τ : L2.St) : List Nat → L2.St
  | [] => τ
  | v :: vs => (resS σ τ vs).set v (σ[v]?.getD none)
theorem Rel.restore {K : PySem.W.Frag} {fm : Fm} {ex ex' : Exs} {σ τ : L2.St} {H F H' F' : Hp} {w w' : W} (r : Rel K fm ex σ H F w) (e : Ex F F') (r' : Rel K fm ex' τ H' F' w') : ∀ vs : List Nat, Rel K fm ex' (resS σ τ vs) H' F' { w' with env := resE w.env w'.env vs }
  | [] => r'
  | v :: vs => by
    have ih := r.restore e r' vs
    unfold resS resE
    split
    · rename_i d h
      obtain ⟨u, e1, k⟩ := r.slot v _ h
      rw [e1]
      exact ih.setVal v (Rp.ex k e)
    · exact ih.setNone v _
theorem resS_get {σ τ : L2.St} (hl : τ.length = σ.length) : ∀ (vs : List Nat) (i : Nat), (resS σ τ vs)[i]? = if i ∈ vs then σ[i]? else τ[i]?
  | [], i => by simp [resS]
  | v :: vs, i => by
    have ih := resS_get hl vs i
    have len : ∀ us : List Nat, (resS σ τ us).length = σ.length := fun us => by
      induction us with
      | nil => exact hl
      | cons u us ih => unfold resS; rw [List.length_set]; exact ih
    unfold resS
    by_cases hi : i = v
    · subst hi
      rw [if_pos (List.mem_cons_self ..)]
      by_cases hv : i < σ.length
      · rw [List.getElem?_set_self (by rw [len]; exact hv), List.getElem?_eq_getElem hv]
        rfl
      · rw [List.getElem?_eq_none (by rw [List.length_set, len]; omega), List.getElem?_eq_none (by omega)]
    · rw [List.getElem?_set_ne (Ne.symm hi), ih]
      by_cases hm : i ∈ vs
      · rw [if_pos hm, if_pos (List.mem_cons_of_mem _ hm)]
      · rw [if_neg hm, if_neg (by simp [hi, hm])]
theorem wipe_get {σ : L2.St} : ∀ (vs : List Nat) (i : Nat), (L2.wipe σ vs)[i]? = if i ∈ vs then σ[i]?.map fun _ => none else σ[i]?
  | [], i => by simp [L2.wipe]
  | v :: vs, i => by
    have ih := wipe_get (σ := σ) vs i
    unfold L2.wipe
    by_cases hi : i = v
    · subst hi
      rw [if_pos (List.mem_cons_self ..)]
      by_cases hv : i < σ.length
      · rw [List.getElem?_set_self (by rw [wipe_length]; exact hv), List.getElem?_eq_getElem hv]
        rfl
      · rw [List.getElem?_eq_none (by rw [List.length_set, wipe_length]; omega), List.getElem?_eq_none (by omega)]
        rfl
    · rw [List.getElem?_set_ne (Ne.symm hi), ih]
      by_cases hm : i ∈ vs
      · rw [if_pos hm, if_pos (List.mem_cons_of_mem _ hm)]
      · rw [if_neg hm, if_neg (by simp [hi, hm])]
theorem resS_wipe (σ : L2.St) (vs : List Nat) : resS σ (L2.wipe σ vs) vs = σ := by
  refine List.ext_getElem? fun i => ?_
  rw [resS_get (wipe_length σ vs), wipe_get]
  split <;> rfl
theorem wipe_same {σ σ' : L2.St} {vs js : List Nat} (hl : σ'.length = σ.length) (h : ∀ i, i ∉ js → σ'[i]? = (L2.wipe σ vs)[i]?) (hj : ∀ j ∈ js, j ∈ vs) : L2.wipe σ' vs = L2.wipe σ vs := by
  refine List.ext_getElem? fun i => ?_
  rw [wipe_get, wipe_get]
  by_cases hm : i ∈ vs
  · rw [if_pos hm, if_pos hm]
    by_cases hi : i < σ.length
    · rw [List.getElem?_eq_getElem hi, List.getElem?_eq_getElem (by omega)]
      rfl
    · rw [List.getElem?_eq_none (by omega), List.getElem?_eq_none (by omega)]
  · rw [if_neg hm, if_neg hm, h i (fun z => hm (hj i z)), wipe_get, if_neg hm]

section
variable {X : Cx} {Wx : WX} {fm : Fm}
/-! ### targets -/
def WG (X : Cx) (tg : Expr) : TG := fun v σ H Q => ∀ (pins : List (Addr × Obj)) (s : Shared) (u : Value), Inv X pins σ H s → RelV v u → wpAny (model X.prog X.w) X.A (assign tg X.env u) (fun _ s' => ∃ σ' H', Inv X pins σ' H' s' ∧ Q σ' H') X.xe s
theorem pg_wg {tg : Expr} : PG X tg (WG X tg) := ⟨fun pins s _ _ _ u _ I r h => h pins s u I r⟩
theorem WG.of {tg : Expr} {t : TG} {v : V} {σ : L2.St} {H : Hp} {Q : L2.St → Hp → Prop} (h : PG X tg t) (q : t v σ H Q) : WG X tg v σ H Q := fun pins s u I r => h.run pins s σ H v u Q I r q
abbrev SGr (X : Cx) (fm : Fm) (js : List Nat) (tg : Expr) (set : D → W → Option W) : Prop := ∀ (ex : Exs) (σ : L2.St) (H F : Hp) (w : W) (v : V) (d : D) (w' : W) (Q : L2.St → Hp → Prop), Rel X.K fm ex σ H F w → Rp X.K fm.a0 F v d → set d w = some w' →
  (∀ σ', σ'.length = σ.length → (∀ i, i ∉ js → σ'[i]? = σ[i]?) → Rel X.K fm ex σ' H F w' → Q σ' H) → WG X tg v σ H Q
structure SG (X : Cx) (fm : Fm) (js : List Nat) (tg : Expr) (set : D → W → Option W) : Prop where
  run : SGr X fm js tg set
instance {X : Cx} {fm : Fm} {js : List Nat} {tg : Expr} {set : D → W → Option W} : CoeFun (SG X fm js tg set) (fun _ => SGr X fm js tg set) := ⟨SG.run⟩
def gsName (i : Nat) : D → W → Option W := fun d w => some { w with env := w.env.set i (some (.val d)) }
theorem sg_name {i : Nat} {x : Str} {pos : Pos} (hN : X.N.Nodup) (hi : X.N[i]? = some x := by rfl) (hx : Loc X.env.scope x := by first | exact Or.inl rfl | exact Or.inr rfl) (hf : X.fn x = true ∨ X.env.scope.names.lookup x = some .local := by first | exact .inl rfl | exact .inr rfl | assumption) :
    SG X fm [i] (.Name x pos) (gsName i) := by
  refine ⟨?_⟩
  intro ex σ H F w v d w' Q r rv e k
  cases e
  refine WG.of (pg_name hN hi hx hf) ?_
  exact k _ (List.length_set ..) (fun j hj => by
    have : j ≠ i := by simpa using hj
    rw [List.getElem?_set_ne (Ne.symm this)]) (r.setVal i rv)
def WGs (X : Cx) (ts : List Expr) : TGs := fun vs σ H Q => ∃ t, PGs X ts t ∧ t vs σ H Q
def SGs (X : Cx) (fm : Fm) (js : List Nat) (ts : List Expr) (set : List D → W → Option W) : Prop := ∃ t, PGs X ts t ∧ ∀ (ex : Exs) (σ : L2.St) (H F : Hp) (w : W) (vs : List V) (ds : List D) (w' : W) (Q : L2.St → Hp → Prop), Rel X.K fm ex σ H F w → RpAll X.K fm.a0 F vs ds → set ds w = some w' →
  (∀ σ', σ'.length = σ.length → (∀ i, i ∉ js → σ'[i]? = σ[i]?) → Rel X.K fm ex σ' H F w' → Q σ' H) → t vs σ H Q
def gsNil : List D → W → Option W
  | [], w => some w
  | _, _ => none
def gsCons (s : D → W → Option W) (t : List D → W → Option W) : List D → W → Option W
  | d :: ds, w => (s d w).bind (t ds)
  | [], _ => none
theorem sgs_nil : SGs X fm [] [] gsNil := ⟨_, pgs_nil, fun ex σ H F w vs ds w' Q r rv e k => by
  cases rv with
  | nil => cases e; exact ⟨rfl, k σ rfl (fun _ _ => rfl) r⟩
  | cons _ _ => cases e⟩
theorem sgs_cons {e : Expr} {es : List Expr} {js ks : List Nat} {s : D → W → Option W} {t : List D → W → Option W} (h : SG X fm js e s) (g : SGs X fm ks es t) (hs : (assignEach (e :: es) X.env).map (·.2) = assign e X.env :: (assignEach es X.env).map (·.2) := by rfl) : SGs X fm (js ++ ks) (e :: es) (gsCons s t) := by
  obtain ⟨u, pu, gu⟩ := g
  refine ⟨_, pgs_cons pg_wg pu hs, fun ex σ H F w vs ds w' Q r rv eq k => ?_⟩
  cases rv with
  | nil => cases eq
  | @cons v vs d ds h1 h2 =>
    have eq : (s d w).bind (t ds) = some w' := eq
    cases hs : s d w with
    | none => rw [hs] at eq; cases eq
    | some w1 =>
      rw [hs] at eq
      refine ⟨v, vs, rfl, h ex σ H F w v d w1 _ r h1 hs fun σ1 l1 a1 r1 => ?_⟩
      exact gu ex σ1 H F w1 vs ds w' Q r1 h2 eq fun σ2 l2 a2 r2 => k σ2 (l2.trans l1) (fun i hi => (a2 i (fun z => hi (List.mem_append_right _ z))).trans (a1 i fun z => hi (List.mem_append_left _ z))) r2
def gsTup (n : Nat) (t : List D → W → Option W) : D → W → Option W
  | .tup ds, w => if ds.length = n then t ds w else none
  | _, _ => none
theorem sg_tup {es : List Expr} {k n : Nat} {pos : Pos} {js : List Nat} {t : List D → W → Option W} (hc : X.calm = true) (h : SGs X fm js es t) (hn : (assignEach es X.env).length = n := by rfl) (hst : (assignEach es X.env).findIdx? (·.1) = none := by rfl) : SG X fm js (.Tuple es k pos) (gsTup n t) := by
  obtain ⟨u, pu, gu⟩ := h
  refine ⟨?_⟩
  intro ex σ H F w v d w' Q r rv eq kk
  refine WG.of (pg_tup hc pu hn hst) ?_
  cases rv with
  | @tup a vs ds h1 h2 =>
    have eq : (if ds.length = n then t ds w else none) = some w' := eq
    by_cases hl : ds.length = n
    · rw [if_pos hl] at eq
      exact ⟨a, vs, rfl, ex_t r.fh h1, h2.len.trans hl, gu ex σ H F w vs ds w' Q r h2 eq kk⟩
    · rw [if_neg hl] at eq; cases eq
  | _ => cases eq

/-! ### list comprehensions -/
def W0 : WX := fun _ _ _ _ => False
def R.nox {α : Type} : R α → R α
  | .ok a w => .ok a w
  | _ => .stuck
def WTs (X : Cx) (ifs : List Expr) : TT := fun σ H Q => ∀ (pins : List (Addr × Obj)) (s : Shared), Inv X pins σ H s →
  wpAny (model X.prog X.w) X.A (forIn ifs true fun c r => if r = true then do let ok ← isTrue c X.env (eval c X.env); pure (ForInStep.yield ok) else pure (ForInStep.yield r)) (TP X pins σ Q) X.xe s
abbrev STsr (X : Cx) (Wx : WX) (fm : Fm) (ifs : List Expr) (m : W → R Bool) : Prop := ∀ (ex : Exs) (σ : L2.St) (H F : Hp) (w : W) (Q : Bool → Hp → Prop), Rel X.K fm ex σ H F w →
  Fin X Wx fm ex σ H F (fun b _ H' _ => Q b H') (m w) → WTs X ifs σ H Q
structure STs (X : Cx) (Wx : WX) (fm : Fm) (ifs : List Expr) (m : W → R Bool) : Prop where
  run : STsr X Wx fm ifs m
instance {X : Cx} {Wx : WX} {fm : Fm} {ifs : List Expr} {m : W → R Bool} : CoeFun (STs X Wx fm ifs m) (fun _ => STsr X Wx fm ifs m) := ⟨STs.run⟩
def mYes : W → R Bool := fun w => .ok true w
theorem sts_nil : STs X Wx fm [] mYes := ⟨fun ex σ H F w Q r q pins s I => pts_nil.run pins s σ H Q I (q H F Kp.refl (Ex.refl _) r)⟩
theorem sts_one {c : Expr} {m : W → R Bool} (h : STt X Wx fm c m) : STs X Wx fm [c] m := ⟨fun ex σ H F w Q r q pins s I => (pts_one (pt_wt (X := X) (e := c))).run pins s σ H Q I (h ex σ H F w Q r q)⟩
def lcGo (vs : List Nat) (set : D → W → Option W) (mt : W → R Bool) (me : W → R D) : List D → List D → W → R (List D)
  | [], acc, w => .ok acc w
  | d :: ds, acc, w => match set d w with
    | none => .stuck
    | some w1 => (mt w1).nox.bind fun b w2 => if b = true then (me w2).nox.bind fun y w3 => if acc.length < 1000000 then lcGo vs set mt me ds (acc ++ [y]) { w3 with env := wipeE w3.env vs } else .stuck
      else lcGo vs set mt me ds acc { w2 with env := wipeE w2.env vs }
def mLc (vs : List Nat) (mi : W → R (List D)) (set : D → W → Option W) (mt : W → R Bool) (me : W → R D) : W → R (List D) := fun w => (mi w).bind fun ds w1 =>
  (lcGo vs set mt me ds [] { w1 with env := wipeE w1.env vs }).bind fun acc w2 => .ok acc { w2 with env := resE w1.env w2.env vs }
theorem FinF.bindL {r : R (List D)} {q : List D → W → R (List D)} {ex : Exs} {σ : L2.St} {H F : Hp} {Q : VK} (h : FinF X Wx fm ex σ H F Q (r.bind q)) :
    Fin X Wx fm ex σ H F (fun a w' H' F' => Rel X.K fm ex σ H' F' w' ∧ Kp fm.a0 H H' ∧ Ex F F' ∧ FinF X Wx fm ex σ H' F' Q (q a w')) r := FinF.bind h
theorem nox_ok {α : Type} {r : R α} {k : α → W → R (List D)} {P : R (List D) → Prop} (hs : ¬ P .stuck) (h : P (r.nox.bind k)) : ∃ a w, r = .ok a w ∧ P (k a w) := by
  cases r with
  | ok a w => exact ⟨a, w, rfl, h⟩
  | exc c w => exact absurd h hs
  | stuck => exact absurd h hs
def bG (X : Cx) (scope : Scope) (tg : Expr) : TG := fun v σ H Q => ∀ (s : Shared) (H0 : Hp) (C : Addr) (cl : List (Str × Addr)) (fp : List Addr), WG (X.blk s H0 scope (compEnvC scope cl C X.env) fp) tg v σ H Q
def bT (X : Cx) (scope : Scope) (ifs : List Expr) : TT := fun σ H Q => ∀ (s : Shared) (H0 : Hp) (C : Addr) (cl : List (Str × Addr)) (fp : List Addr), WTs (X.blk s H0 scope (compEnvC scope cl C X.env) fp) ifs σ H Q
def bE (X : Cx) (scope : Scope) (elt : Expr) : TE := fun σ H Q => ∀ (s : Shared) (H0 : Hp) (C : Addr) (cl : List (Str × Addr)) (fp : List Addr), WE (X.blk s H0 scope (compEnvC scope cl C X.env) fp) elt σ H Q
theorem tlc_ok {elt tg iter : Expr} {ifs : List Expr} {scope : Scope} {vs : List Nat} {js : List Nat} {mi : W → R (List D)} {set : D → W → Option W} {mt : W → R Bool} {me : W → R D} (hi : SIt X Wx fm tg iter mi)
    (hg : ∀ (s : Shared) (H : Hp) (C : Addr) (cl : List (Str × Addr)) (fp : List Addr), SG (X.blk s H scope (compEnvC scope cl C X.env) fp) fm js tg set) (hj : ∀ j ∈ js, j ∈ vs)
    (ht : ∀ (s : Shared) (H : Hp) (C : Addr) (cl : List (Str × Addr)) (fp : List Addr), STs (X.blk s H scope (compEnvC scope cl C X.env) fp) W0 fm ifs mt)
    (he : ∀ (s : Shared) (H : Hp) (C : Addr) (cl : List (Str × Addr)) (fp : List Addr), SE (X.blk s H scope (compEnvC scope cl C X.env) fp) W0 fm elt me)
    {ex : Exs} {σ : L2.St} {H F : Hp} {w : W} {Q : VK} (r : Rel X.K fm ex σ H F w) (q : FinF X Wx fm ex σ H F Q (mLc vs mi set mt me w)) : tLc (WI X tg iter) (bG X scope tg) (bT X scope ifs) (bE X scope elt) vs σ H Q := by
  refine hi ex σ H F w _ r ((FinF.bind q).imp fun ds w1 H1 F1 ⟨r1, k1, e1, q1⟩ J wk Dl hD => ?_)
  obtain ⟨G, Y, walk, hG, hY⟩ := wk.ex
  have rw1 := r1.wipe vs
  refine lc_it (g := bG X scope tg) (tt := bT X scope ifs) (te := bE X scope elt) (vs := vs) (σ := σ) walk (fun i H' => ∃ F' w' acc, Kp fm.a0 H1 H' ∧ Ex F1 F' ∧ Rel X.K fm ((Dl, acc) :: ex) (L2.wipe σ vs) H' F' w' ∧
      FinF X Wx fm ex σ H1 F1 Q ((lcGo vs set mt me (ds.drop i) acc w').bind fun acc w2 => .ok acc { w2 with env := resE w1.env w2.env vs }))
    ⟨F1, _, [], (Gr.dark r1.fh hD).kp, Ex.refl _, rw1.lay hD .nil, q1⟩ (fun i H' hi' ⟨F', w', acc, a, b, c, d⟩ => hG H' (b.trans c.fh)) (fun i x Ha Hb hi' ⟨F', w', acc, kp, ef, rr, fin⟩ y => ?_) (fun H' ⟨F', w', acc, kp, ef, rr, fin⟩ => ?_)
  · -- one turn
    obtain ⟨F2, d, hd, gr, rv⟩ := hY i Ha F' x Hb hi' ef rr.fh y
    have hdrop : ds.drop i = d :: ds.drop (i + 1) := by
      obtain ⟨hlt, e⟩ := List.getElem?_eq_some_iff.mp hd
      rw [List.drop_eq_getElem_cons hlt, e]
    rw [hdrop] at fin
    unfold lcGo at fin
    cases hset : set d w' with
    | none => rw [hset] at fin; exact (show False from fin).elim
    | some wa =>
      rw [hset] at fin
      have r2 := rr.gr gr
      intro s H0 C cl fp
      refine hg s H0 C cl fp _ _ _ _ _ _ _ _ _ r2 rv hset fun σ2 hl2 ha2 ra => ?_
      have ew : L2.wipe σ2 vs = L2.wipe σ vs := wipe_same (by rw [hl2, wipe_length]) ha2 hj
      refine ⟨ew, ?_⟩
      have fin : FinF X Wx fm ex σ H1 F1 Q (((mt wa).nox.bind fun b w2 => if b = true then (me w2).nox.bind fun y w3 => if acc.length < 1000000 then lcGo vs set mt me (ds.drop (i + 1)) (acc ++ [y]) { w3 with env := wipeE w3.env vs } else .stuck
        else lcGo vs set mt me (ds.drop (i + 1)) acc { w2 with env := wipeE w2.env vs }).bind fun acc w2 => .ok acc { w2 with env := resE w1.env w2.env vs }) := fin
      obtain ⟨b, wb, hmt, fin⟩ := nox_ok (P := fun r => FinF X Wx fm ex σ H1 F1 Q (r.bind fun acc w2 => .ok acc { w2 with env := resE w1.env w2.env vs })) (fun z => z) fin
      intro s2 H02 C2 cl2 fp2
      refine ht s2 H02 C2 cl2 fp2 _ σ2 Hb F2 wa _ ra ?_
      rw [hmt]
      intro Hc Fc kc ec rc
      have kp2 : Kp fm.a0 H1 Hc := (kp.trans gr.kp).trans kc
      have ef2 : Ex F1 Fc := (ef.trans gr.ff).trans ec
      cases b with
      | false =>
        have rn := rc.wipe vs
        rw [ew] at rn
        exact ⟨Fc, _, acc, kp2, ef2, rn, fin⟩
      | true =>
        have fin : FinF X Wx fm ex σ H1 F1 Q (((me wb).nox.bind fun y w3 => if acc.length < 1000000 then lcGo vs set mt me (ds.drop (i + 1)) (acc ++ [y]) { w3 with env := wipeE w3.env vs } else .stuck).bind fun acc w2 => .ok acc { w2 with env := resE w1.env w2.env vs }) := fin
        obtain ⟨z, wc, hme, fin⟩ := nox_ok (P := fun r => FinF X Wx fm ex σ H1 F1 Q (r.bind fun acc w2 => .ok acc { w2 with env := resE w1.env w2.env vs })) (fun z => z) fin
        show bE X scope elt σ2 Hc _
        intro s3 H03 C3 cl3 fp3
        refine he s3 H03 C3 cl3 fp3 _ σ2 Hc Fc wb _ rc ?_
        rw [hme]
        intro Hd Fd kd ed rd v hv
        by_cases hz : acc.length < 1000000
        · rw [if_pos hz] at fin
          obtain ⟨h1, h2, h3, us, h4, h5⟩ := rd.exo _ (List.mem_cons_self ..)
          have h4 : Hd Dl = some (.lst us) := h4
          have h5 : RpAll X.K fm.a0 Fd us acc := h5
          refine ⟨us, h4, line_lt (by rw [h5.len]; omega), ?_⟩
          have rm := rd.mut (h5.app (.one hv))
          have rn := rm.wipe vs
          rw [ew] at rn
          have nd : ∀ b o, H1 b = some o → b ≠ Dl := fun b o e z => by subst z; rw [hD] at e; cases e
          exact ⟨Fd, _, acc ++ [z], fun b o n e => by rw [upd_ne (nd b o e)]; exact kd b o n (kp2 b o n e), ef2.trans ed, rn, fin⟩
        · rw [if_neg hz] at fin
          exact (show False from fin).elim
  · -- the end
    rw [List.drop_eq_nil_of_le (Nat.le_refl _)] at fin
    have rr2 := r1.restore ef rr vs
    rw [resS_wipe] at rr2
    exact fin Dl H' F' kp ef rr2

theorem sf_lc {elt tg iter : Expr} {ifs : List Expr} {scope : Scope} {own : List (Str × Nat)} {pos : Pos} {js : List Nat} {mi : W → R (List D)} {set : D → W → Option W} {mt : W → R Bool} {me : W → R D} (hc : X.calm = true) (hN : X.N.Nodup) (hi : SIt X Wx fm tg iter mi) (ok : BlkOk X.N X.env.scope scope own)
    (hg : ∀ (s : Shared) (H : Hp) (C : Addr) (cl : List (Str × Addr)) (fp : List Addr), SG (X.blk s H scope (compEnvC scope cl C X.env) fp) fm js tg set) (hj : ∀ j ∈ js, j ∈ own.map (·.2))
    (ht : ∀ (s : Shared) (H : Hp) (C : Addr) (cl : List (Str × Addr)) (fp : List Addr), STs (X.blk s H scope (compEnvC scope cl C X.env) fp) W0 fm ifs mt)
    (he : ∀ (s : Shared) (H : Hp) (C : Addr) (cl : List (Str × Addr)) (fp : List Addr), SE (X.blk s H scope (compEnvC scope cl C X.env) fp) W0 fm elt me)
    (hs : ∀ x, foldedSetIterable iter X.env x = pure x := by intro _; rfl) : SF X Wx fm (.ListComp elt [⟨tg, iter, ifs, 0⟩] scope pos) (mLc (own.map (·.2)) mi set mt me) := by
  refine ⟨?_⟩
  intro ex σ H F w Q r q
  exact WE.of (pe_lc (wi := WI X tg iter) (g := bG X scope tg) (tt := bT X scope ifs) (te := bE X scope elt)
    hc hN pi_wi ok (fun s H C cl fp => ⟨fun pins s' σ' H' v u Q' I rv h => h s H C cl fp pins s' u I rv⟩) (fun s H C cl fp => ⟨fun pins s' σ' H' Q' I h => h s H C cl fp pins s' I⟩) (fun s H C cl fp => ⟨fun pins s' σ' H' Q' I h => h s H C cl fp pins s' I⟩) hs) (tlc_ok hi hg hj ht he r q)

/-! ### statements -/
def FinS (X : Cx) (Wx : WX) (fm : Fm) (ex : Exs) (F : Hp) (D : Ends) : RS → Prop
  | .nx w' => ∀ σ' H' F', Ex F F' → Rel X.K fm ex σ' H' F' w' → D.nx σ' H'
  | .brk w' => ∀ σ' H' F', Ex F F' → Rel X.K fm ex σ' H' F' w' → D.bk σ' H'
  | .cnt w' => ∀ σ' H' F', Ex F F' → Rel X.K fm ex σ' H' F' w' → D.ct σ' H'
  | .ret d w' => ∀ v σ' H' F', Ex F F' → Rel X.K fm ex σ' H' F' w' → Rp X.K fm.a0 F' v d → D.rt v H'
  | .exc c w' => ∀ σ' H' F' cls dd, Ex F F' → Rel X.K fm ex σ' H' F' w' → ExcIs X.K X.mg fm.a0 fm.G c cls dd F' H' → Wx cls dd σ' H'
  | .stuck => False
abbrev SStr (X : Cx) (Wx : WX) (fm : Fm) (st : Stmt) (m : W → RS) : Prop := ∀ (ex : Exs) (σ : L2.St) (H F : Hp) (w : W) (D : Ends), Rel X.K fm ex σ H F w → FinS X Wx fm ex F D (m w) → WS X st D σ H
structure SSt (X : Cx) (Wx : WX) (fm : Fm) (st : Stmt) (m : W → RS) : Prop where
  run : SStr X Wx fm st m
instance {X : Cx} {Wx : WX} {fm : Fm} {st : Stmt} {m : W → RS} : CoeFun (SSt X Wx fm st m) (fun _ => SStr X Wx fm st m) := ⟨SSt.run⟩
abbrev SSsr (X : Cx) (Wx : WX) (fm : Fm) (sts : List Stmt) (m : W → RS) : Prop := ∀ (ex : Exs) (σ : L2.St) (H F : Hp) (w : W) (D : Ends), Rel X.K fm ex σ H F w → FinS X Wx fm ex F D (m w) → WSs X sts D σ H
structure SSs (X : Cx) (Wx : WX) (fm : Fm) (sts : List Stmt) (m : W → RS) : Prop where
  run : SSsr X Wx fm sts m
instance {X : Cx} {Wx : WX} {fm : Fm} {sts : List Stmt} {m : W → RS} : CoeFun (SSs X Wx fm sts m) (fun _ => SSsr X Wx fm sts m) := ⟨SSs.run⟩
def RS.bind (r : RS) (k : W → RS) : RS := match r with
  | .nx w => k w
  | r => r
def R.toS {α : Type} (r : R α) (k : α → W → RS) : RS := match r with
  | .ok a w => k a w
  | .exc c w => .exc c w
  | .stuck => .stuck
def oS {α : Type} (o : Option α) (k : α → RS) : RS := match o with
  | some a => k a
  | none => .stuck
@[simp] theorem RS.bind_nx (w : W) (k : W → RS) : (RS.nx w).bind k = k w := rfl
@[simp] theorem RS.bind_ret (d : D) (w : W) (k : W → RS) : (RS.ret d w).bind k = .ret d w := rfl
@[simp] theorem RS.bind_brk (w : W) (k : W → RS) : (RS.brk w).bind k = .brk w := rfl
@[simp] theorem RS.bind_cnt (w : W) (k : W → RS) : (RS.cnt w).bind k = .cnt w := rfl
@[simp] theorem RS.bind_exc (c : Exn) (w : W) (k : W → RS) : (RS.exc c w).bind k = .exc c w := rfl
@[simp] theorem RS.bind_stuck (k : W → RS) : RS.stuck.bind k = .stuck := rfl
@[simp] theorem R.toS_ok {α : Type} (a : α) (w : W) (k : α → W → RS) : (R.ok a w).toS k = k a w := rfl
@[simp] theorem R.toS_exc {α : Type} (c : Exn) (w : W) (k : α → W → RS) : (R.exc c w : R α).toS k = .exc c w := rfl
@[simp] theorem R.toS_stuck {α : Type} (k : α → W → RS) : (R.stuck : R α).toS k = .stuck := rfl
theorem FinS.from {F F' : Hp} {ex : Exs} {D : Ends} {r : RS} (h : FinS X Wx fm ex F D r) (e : Ex F F') : FinS X Wx fm ex F' D r := by
  cases r with
  | nx w => exact fun σ' H' F2 e2 => h σ' H' F2 (e.trans e2)
  | brk w => exact fun σ' H' F2 e2 => h σ' H' F2 (e.trans e2)
  | cnt w => exact fun σ' H' F2 e2 => h σ' H' F2 (e.trans e2)
  | ret d w => exact fun v σ' H' F2 e2 => h v σ' H' F2 (e.trans e2)
  | exc c w => exact fun σ' H' F2 cls dd e2 => h σ' H' F2 cls dd (e.trans e2)
  | stuck => exact h
theorem FinS.ofR {α : Type} {r : R α} {k : α → W → RS} {ex : Exs} {σ : L2.St} {H F : Hp} {D : Ends} (h : FinS X Wx fm ex F D (r.toS k)) :
    Fin X Wx fm ex σ H F (fun a w' H' F' => Rel X.K fm ex σ H' F' w' ∧ Ex F F' ∧ FinS X Wx fm ex F' D (k a w')) r := by
  cases r with
  | ok a w' => exact fun H' F' kp e r => ⟨r, e, FinS.from (r := k a w') h e⟩
  | exc c w' => exact fun H' F' cls dd kp e r x => h σ H' F' cls dd e r x
  | stuck => exact h
theorem FinS.ofF {r : R (List D)} {k : List D → W → RS} {ex : Exs} {σ : L2.St} {H F : Hp} {D : Ends} {Q : VK} (h : FinS X Wx fm ex F D (r.toS k)) (hq : ∀ xs w' p H' F', r = .ok xs w' → Ex F F' → Rel X.K fm ((p, xs) :: ex) σ H' F' w' → FinS X Wx fm ex F' D (k xs w') → Q (.ref p) H') :
    FinF X Wx fm ex σ H F Q r := by
  cases r with
  | ok a w' => exact fun p H' F' kp e r => hq a w' p H' F' rfl e r (FinS.from (r := k a w') h e)
  | exc c w' => exact fun H' F' cls dd kp e r x => h σ H' F' cls dd e r x
  | stuck => exact h
def sNil : W → RS := fun w => .nx w
def sCons (a b : W → RS) : W → RS := fun w => (a w).bind b
theorem sss_nil : SSs X Wx fm [] sNil := ⟨fun ex σ H F w D r q => WSs.of pss_nil (q σ H F (Ex.refl _) r)⟩
theorem sss_cons {st : Stmt} {rest : List Stmt} {a b : W → RS} (h : SSt X Wx fm st a) (g : SSs X Wx fm rest b) : SSs X Wx fm (st :: rest) (sCons a b) := by
  refine ⟨?_⟩
  intro ex σ H F w D r q
  refine WSs.of (pss_cons ps_ws pss_wss) ?_
  show WS X st { D with nx := WSs X rest D } σ H
  refine h ex σ H F w _ r ?_
  revert q
  unfold sCons
  cases a w with
  | nx w1 => exact fun q σ' H' F' e r' => g ex σ' H' F' w1 D r' (FinS.from q e)
  | brk w1 => exact fun q => q
  | cnt w1 => exact fun q => q
  | ret d w1 => exact fun q => q
  | exc c w1 => exact fun q => q
  | stuck => exact fun q => q
theorem ss_pass {pos : Pos} : SSt X Wx fm (.Pass pos) sNil := ⟨fun ex σ H F w D r q => WS.of ps_pass (q σ H F (Ex.refl _) r)⟩
theorem ss_brk {pos : Pos} : SSt X Wx fm (.Break pos) RS.brk := ⟨fun ex σ H F w D r q => WS.of ps_break (q σ H F (Ex.refl _) r)⟩
theorem ss_cnt {pos : Pos} : SSt X Wx fm (.Continue pos) RS.cnt := ⟨fun ex σ H F w D r q => WS.of ps_continue (q σ H F (Ex.refl _) r)⟩
def sSet (i : Nat) (m : W → R D) : W → RS := fun w => (m w).toS fun d w' => .nx { w' with env := w'.env.set i (some (.val d)) }
theorem ss_set {i : Nat} {x : Str} {e : Expr} {pos pos' : Pos} {m : W → R D} (hN : X.N.Nodup) (h : SE X Wx fm e m) (hi : X.N[i]? = some x := by rfl) (hx : Loc X.env.scope x := by first | exact Or.inl rfl | exact Or.inr rfl) (hs : swapsWith e (some (.Name x pos')) pos.line X.env = pure false := by rfl)
    (hf : X.fn x = true ∨ X.env.scope.names.lookup x = some .local := by first | exact .inl rfl | exact .inr rfl | assumption) : SSt X Wx fm (.Assign [.Name x pos'] e pos) (sSet i m) := by
  refine ⟨?_⟩
  intro ex σ H F w D r q
  refine WS.of (ps_set hN hi hx pe_we hs hf) ?_
  show WE X e σ H fun v H1 => D.nx (σ.set i (some v)) H1
  exact h ex σ H F w _ r ((FinS.ofR q).imp fun d w1 H1 F1 ⟨r1, e1, q1⟩ v hv => q1 _ H1 F1 (Ex.refl _) (r1.setVal i hv))
/-- a name is given a new list -/
def sSetF (i : Nat) (m : W → R (List D)) : W → RS := fun w => (m w).toS fun xs w' => .nx { w' with env := w'.env.set i (some (.own xs)) }
theorem ss_setF {i : Nat} {x : Str} {e : Expr} {pos pos' : Pos} {m : W → R (List D)} (hN : X.N.Nodup) (h : SF X Wx fm e m) (hi : X.N[i]? = some x := by rfl) (hx : Loc X.env.scope x := by first | exact Or.inl rfl | exact Or.inr rfl) (hs : swapsWith e (some (.Name x pos')) pos.line X.env = pure false := by rfl)
    (hf : X.fn x = true ∨ X.env.scope.names.lookup x = some .local := by first | exact .inl rfl | exact .inr rfl | assumption) : SSt X Wx fm (.Assign [.Name x pos'] e pos) (sSetF i m) := by
  refine ⟨?_⟩
  intro ex σ H F w D r q
  refine WS.of (ps_set hN hi hx pe_we hs hf) ?_
  show WE X e σ H fun v H1 => D.nx (σ.set i (some v)) H1
  exact h ex σ H F w _ r (FinS.ofF q fun xs w1 p H1 F1 _ e1 r1 q1 => q1 _ H1 F1 (Ex.refl _) (r1.setOwn i))
theorem ss_setLcF {i : Nat} {y : Str} {py : Pos} {elt tg iter : Expr} {ifs : List Expr} {scope : Scope} {own : List (Str × Nat)} {pos spos : Pos} {js : List Nat} {mi : W → R (List D)} {set : D → W → Option W} {mt : W → R Bool} {me : W → R D} (hc : X.calm = true) (hN : X.N.Nodup) (hi : SIt X Wx fm tg iter mi) (ok : BlkOk X.N X.env.scope scope own)
    (hg : ∀ (s : Shared) (H : Hp) (C : Addr) (cl : List (Str × Addr)) (fp : List Addr), SG (X.blk s H scope (compEnvC scope cl C X.env) fp) fm js tg set) (hj : ∀ j ∈ js, j ∈ own.map (·.2))
    (ht : ∀ (s : Shared) (H : Hp) (C : Addr) (cl : List (Str × Addr)) (fp : List Addr), STs (X.blk s H scope (compEnvC scope cl C X.env) fp) W0 fm ifs mt)
    (he : ∀ (s : Shared) (H : Hp) (C : Addr) (cl : List (Str × Addr)) (fp : List Addr), SE (X.blk s H scope (compEnvC scope cl C X.env) fp) W0 fm elt me)
    (hy : X.N[i]? = some y := by rfl) (hyl : X.env.scope.names.lookup y = some .local := by rfl)
    (hsw : swapsWith (.ListComp elt [⟨tg, iter, ifs, 0⟩] scope pos) (some (.Name y py)) spos.line X.env = pure true := by exact sw_true rfl rfl rfl (by decide +kernel))
    (hs : ∀ x, foldedSetIterable iter X.env x = pure x := by intro _; rfl) : SSt X Wx fm (.Assign [.Name y py] (.ListComp elt [⟨tg, iter, ifs, 0⟩] scope pos) spos) (sSetF i (mLc (own.map (·.2)) mi set mt me)) := by
  refine ⟨?_⟩
  intro ex σ H F w D r q
  refine WS.of (ps_setLc (wi := WI X tg iter) (g := bG X scope tg) (tt := bT X scope ifs) (te := bE X scope elt)
    hc hN hy hyl hsw pi_wi ok (fun s H C cl fp => ⟨fun pins s' σ' H' v u Q' I rv h => h s H C cl fp pins s' u I rv⟩) (fun s H C cl fp => ⟨fun pins s' σ' H' Q' I h => h s H C cl fp pins s' I⟩) (fun s H C cl fp => ⟨fun pins s' σ' H' Q' I h => h s H C cl fp pins s' I⟩) hs) ?_
  exact tlc_ok (Q := fun x H1 => gName i x σ H1 D.nx) hi hg hj ht he r (FinS.ofF q fun xs w1 p H1 F1 _ e1 r1 q1 => q1 _ H1 F1 (Ex.refl _) (r1.setOwn i))
/-- a target of any form -/
def sAsg (set : D → W → Option W) (m : W → R D) : W → RS := fun w => (m w).toS fun d w' => oS (set d w') .nx
theorem finS_o {o : Option W} {ex : Exs} {F : Hp} {D : Ends} (h : FinS X Wx fm ex F D (oS o .nx)) : ∃ w', o = some w' ∧ ∀ σ' H' F', Ex F F' → Rel X.K fm ex σ' H' F' w' → D.nx σ' H' := by
  cases o with
  | none => exact (show False from h).elim
  | some w => exact ⟨w, rfl, h⟩
theorem ss_asg {tg e : Expr} {pos : Pos} {js : List Nat} {set : D → W → Option W} {m : W → R D} (hg : SG X fm js tg set) (h : SE X Wx fm e m) (hs : swapsWithSole [tg] e pos.line X.env = pure false := by rfl) (hw : swappedStores [tg] e X.env = pure none := by rfl)
    (h1 : (assignEach [tg] X.env).map (·.2) = [assign tg X.env] := by rfl) : SSt X Wx fm (.Assign [tg] e pos) (sAsg set m) := by
  refine ⟨?_⟩
  intro ex σ H F w D r q
  refine WS.of (ps_asg pe_we pg_wg hs hw h1) ?_
  show WE X e σ H fun v H1 => WG X tg v σ H1 D.nx
  refine h ex σ H F w _ r ((FinS.ofR q).imp fun d w1 H1 F1 ⟨r1, e1, q1⟩ v hv => ?_)
  obtain ⟨w2, hw2, q2⟩ := finS_o q1
  exact hg ex σ H1 F1 w1 v d w2 _ r1 hv hw2 fun σ' _ _ r2 => q2 σ' H1 F1 (Ex.refl _) r2
/-- a, b = x, y -/
def sPar (i j : Nat) (m : W → R (List D)) : W → RS := fun w => (m w).toS fun ds w' => match ds with
  | [d, e] => .nx { w' with env := (w'.env.set i (some (.val d))).set j (some (.val e)) }
  | _ => .stuck
theorem ss_par {i j : Nat} {x y : Str} {a b : Expr} {px py pt pos : Pos} {kt k2 pt2} {m : W → R (List D)} (hc : X.calm = true) (hN : X.N.Nodup) (ha : SAs X Wx fm [a, b] m) (hi : X.N[i]? = some x := by rfl) (hj : X.N[j]? = some y := by rfl) (hij : i ≠ j := by decide)
    (hx : X.env.scope.names.lookup x = some .local := by rfl) (hy : X.env.scope.names.lookup y = some .local := by rfl)
    (hw : swappedStores [.Tuple [.Name x px, .Name y py] kt pt] (.Tuple [a, b] k2 pt2) X.env = pure (some [x, y]) := by rfl)
    (hs : swapsWithSole [.Tuple [.Name x px, .Name y py] kt pt] (.Tuple [a, b] k2 pt2) pos.line X.env = pure false := by rfl) :
    SSt X Wx fm (.Assign [.Tuple [.Name x px, .Name y py] kt pt] (.Tuple [a, b] k2 pt2) pos) (sPar i j m) := by
  refine ⟨?_⟩
  intro ex σ H F w D r q
  refine WS.of (ps_par hc hN hi hj hij hx hy pa_wa hw hs) ?_
  show WA X [a, b] σ H fun vs H1 => ∃ v w, vs = [v, w] ∧ D.nx ((σ.set i (some v)).set j (some w)) H1
  refine ha ex σ H F w _ r ((FinS.ofR q).imp fun ds w1 H1 F1 ⟨r1, e1, q1⟩ vs hv => ?_)
  cases hv with
  | nil => exact (show False from q1).elim
  | @cons v vs d ds h1 h2 =>
    cases h2 with
    | nil => exact (show False from q1).elim
    | @cons u vs e ds h3 h4 =>
      cases h4 with
      | cons _ _ => exact (show False from q1).elim
      | nil => exact ⟨v, u, rfl, q1 _ H1 F1 (Ex.refl _) ((r1.setVal i h1).setVal j h3)⟩
/-- x op= e -/
def sAug (i : Nat) (g : D → D → Option D) (m : W → R D) : W → RS := fun w => match w.env[i]? with
  | some (some (.val x)) => (m w).toS fun y w' => oS (g x y) fun z => .nx { w' with env := w'.env.set i (some (.val z)) }
  | _ => .stuck
theorem ss_aug {i : Nat} {x : Str} {e : Expr} {op : Operator} {pos pos' : Pos} {g : D → D → Option D} {m : W → R D} (hN : X.N.Nodup) (ho : DOp X fm.a0 (inplaceOp op) g) (h : SE X Wx fm e m) (hi : X.N[i]? = some x := by rfl) (hx : Loc X.env.scope x := by first | exact Or.inl rfl | exact Or.inr rfl)
    (hf : X.fn x = true ∨ X.env.scope.names.lookup x = some .local := by first | exact .inl rfl | exact .inr rfl | assumption) : SSt X Wx fm (.AugAssign (.Name x pos') op e pos) (sAug i g m) := by
  refine ⟨?_⟩
  intro ex σ H F w D r q
  refine WS.of (ps_aug hN hi hx pe_we opr_w2 hf) ?_
  revert q
  unfold sAug
  split
  · rename_i d hd
    intro q
    obtain ⟨v, e1, k⟩ := r.slot i _ hd
    refine ⟨v, e1, ?_⟩
    refine h ex σ H F w _ r ((FinS.ofR q).imp fun y w1 H1 F1 ⟨r1, e1, q1⟩ u hu => ?_)
    cases hz : g d y with
    | none => rw [hz] at q1; exact (show False from q1).elim
    | some z =>
      rw [hz] at q1
      exact ho v u d y z H1 F1 _ r1.fh (Rp.ex k e1) hu hz fun t H' F' gr hr => q1 _ H' F' gr.ff ((r1.gr gr).setVal i hr)
  · exact fun q => q.elim
def sExpr (m : W → R D) : W → RS := fun w => (m w).toS fun _ w' => .nx w'
theorem ss_expr {e : Expr} {pos : Pos} {m : W → R D} (h : SE X Wx fm e m) (hs : swapsWith e none pos.line X.env = pure false := by rfl) : SSt X Wx fm (.Expr e pos) (sExpr m) := by
  refine ⟨?_⟩
  intro ex σ H F w D r q
  refine WS.of (ps_expr pe_we hs) ?_
  show WE X e σ H fun _ H1 => D.nx σ H1
  exact h ex σ H F w _ r ((FinS.ofR q).imp fun d w1 H1 F1 ⟨r1, e1, q1⟩ v hv => q1 σ H1 F1 (Ex.refl _) r1)
/-- xs.append(e) -/
def sApp (i : Nat) (m : W → R D) : W → RS := fun w => match w.env[i]? with
  | some (some (.own _)) => (m w).toS fun d w' => match w'.env[i]? with
    | some (some (.own xs)) => if xs.length < 1000000 then .nx { w' with env := w'.env.set i (some (.own (xs ++ [d]))) } else .stuck
    | _ => .stuck
  | _ => .stuck
theorem ss_append {i : Nat} {x : Str} {e : Expr} {p apos cpos pos : Pos} {m : W → R D} (h : SE X Wx fm e m) (hN : X.N[i]? = some x := by rfl) (hv : Vis X.env.scope x := by first | exact Or.inl rfl | exact Or.inr (Or.inl rfl) | exact Or.inr (Or.inr rfl)) (hd : (x == ("__debug__" : Str)) = false := by decide)
    (hcd : (x == ("__classdict__" : Str)) = false := by decide) (hbase : attributeBase (.Name x p) "append" X.env (eval (.Name x p) X.env) = eval (.Name x p) X.env := by rfl)
    (hfew : ((backTo cpos (starEach [e] X.env)).all (fun x => !x.1) && (backToKw cpos (keywordEach [] X.env)).all (fun x => x.1.isSome)
      && decide ([e].length + ([] : List Keyword).length + (if ([] : List Keyword).isEmpty then 0 else 1) < 30)) = true := by rfl)
    (hline : (apos.endLine == cpos.line) = true := by rfl) (hs : starEach [e] X.env = (false, eval e X.env) :: starEach [] X.env := by rfl) (hplain : (backTo cpos (starEach [] X.env)).any (·.1) = false := by rfl)
    (hsw : swapsWith (.Call (.Attribute (.Name x p) "append" apos) [e] [] cpos) none pos.line X.env = pure false := by rfl) :
    SSt X Wx fm (.Expr (.Call (.Attribute (.Name x p) "append" apos) [e] [] cpos) pos) (sApp i m) := by
  refine ⟨?_⟩
  intro ex σ H F w D r q
  refine WS.of (ps_expr (pe_bm PySem.F.plainAttrs_list PySem.F.slot_list_append PySem.F.type_list_append mt_append (pe_var hN hv hd hcd) (pa_cons pe_we pa_nil hs) hbase hfew hline hs hplain) hsw) ?_
  revert q
  unfold sApp
  split
  · rename_i xs0 hx0
    intro q
    obtain ⟨p0, e0, r0⟩ := r.takeOwn hx0
    obtain ⟨a1, a2, a3, vs0, a4, a5⟩ := r0.exo _ (List.mem_cons_self ..)
    refine ⟨.ref p0, e0, .inl ⟨rfl, _, .inl (.inl a4)⟩, ?_⟩
    refine h ex σ H F w _ r ((FinS.ofR q).imp fun d w1 H1 F1 ⟨r1, e1, q1⟩ v hv => ?_)
    split at q1
    · rename_i xs hx
      obtain ⟨p1, e1', r2⟩ := r1.takeOwn hx
      rw [e0] at e1'
      cases e1'
      obtain ⟨b1, b2, b3, vs, b4, b5⟩ := r2.exo _ (List.mem_cons_self ..)
      have b5 : RpAll X.K fm.a0 F1 vs xs := b5
      by_cases hl : xs.length < 1000000
      · rw [if_pos hl] at q1
        refine ⟨p0, vs, v, rfl, rfl, b4, line_lt (by rw [b5.len]; omega), ?_⟩
        have r3 := (r2.mut (b5.app (.one hv))).putOwn e0
        refine q1 σ _ F1 (Ex.refl _) ?_
        simpa using r3
      · rw [if_neg hl] at q1
        exact (show False from q1).elim
    · exact (show False from q1).elim
  · exact fun q => q.elim
/-- target = xs.pop() -/
def sPop (i : Nat) (set : D → W → Option W) : W → RS := fun w => match w.env[i]? with
  | some (some (.own xs)) => oS (xs[xs.length - 1]?) fun d => oS (set d { w with env := w.env.set i (some (.own xs.dropLast)) }) .nx
  | _ => .stuck
theorem ss_pop {i : Nat} {x : Str} {tg : Expr} {p apos cpos pos : Pos} {js : List Nat} {set : D → W → Option W} (hg : SG X fm js tg set) (hN : X.N[i]? = some x := by rfl) (hv : Vis X.env.scope x := by first | exact Or.inl rfl | exact Or.inr (Or.inl rfl) | exact Or.inr (Or.inr rfl)) (hd : (x == ("__debug__" : Str)) = false := by decide)
    (hcd : (x == ("__classdict__" : Str)) = false := by decide) (hbase : attributeBase (.Name x p) "pop" X.env (eval (.Name x p) X.env) = eval (.Name x p) X.env := by rfl) (hline : (apos.endLine == cpos.line) = true := by rfl)
    (hs : swapsWithSole [tg] (.Call (.Attribute (.Name x p) "pop" apos) [] [] cpos) pos.line X.env = pure false := by rfl) (hw : swappedStores [tg] (.Call (.Attribute (.Name x p) "pop" apos) [] [] cpos) X.env = pure none := by rfl)
    (h1 : (assignEach [tg] X.env).map (·.2) = [assign tg X.env] := by rfl) : SSt X Wx fm (.Assign [tg] (.Call (.Attribute (.Name x p) "pop" apos) [] [] cpos) pos) (sPop i set) := by
  refine ⟨?_⟩
  intro ex σ H F w D r q
  refine WS.of (ps_asg (pe_bm0 PySem.F.plainAttrs_list PySem.F.slot_list_pop PySem.F.type_list_pop mt_pop (pe_var hN hv hd hcd) hbase hline) pg_wg hs hw h1) ?_
  revert q
  unfold sPop
  split
  · rename_i xs hx
    intro q
    obtain ⟨p0, e0, r0⟩ := r.takeOwn hx
    obtain ⟨a1, a2, a3, vs, a4, a5⟩ := r0.exo _ (List.mem_cons_self ..)
    have a4 : H p0 = some (.lst vs) := a4
    have a5 : RpAll X.K fm.a0 F vs xs := a5
    cases hd : xs[xs.length - 1]? with
    | none => rw [hd] at q; exact (show False from q).elim
    | some d =>
      rw [hd] at q
      obtain ⟨v, hv, rv⟩ := a5.get hd
      obtain ⟨w2, hw2, q2⟩ := finS_o q
      refine ⟨.ref p0, e0, .inl ⟨rfl, _, .inl (.inl a4)⟩, p0, vs, v, rfl, rfl, a4, by rw [a5.len]; exact hv, ?_⟩
      have r3 := (r0.mut a5.dropLast).putOwn e0
      have r3' : Rel X.K fm ex σ (upd H p0 (.lst vs.dropLast)) F { w with env := w.env.set i (some (.own xs.dropLast)) } := by simpa using r3
      exact hg ex σ _ F _ v d w2 _ r3' rv hw2 fun σ' _ _ r4 => q2 σ' _ F (Ex.refl _) r4
  · exact fun q => q.elim
def sIf (t : W → R Bool) (a b : W → RS) : W → RS := fun w => (t w).toS fun c w' => if c = true then a w' else b w'
theorem ss_if {c : Expr} {as bs : List Stmt} {pos : Pos} {t : W → R Bool} {a b : W → RS} (hc : STt X Wx fm c t) (ha : SSs X Wx fm as a) (hb : SSs X Wx fm bs b) : SSt X Wx fm (.If c as bs pos) (sIf t a b) := by
  refine ⟨?_⟩
  intro ex σ H F w D r q
  refine WS.of (ps_if pt_wt pss_wss pss_wss) ?_
  refine hc ex σ H F w _ r ((FinS.ofR q).imp fun b w1 H1 F1 ⟨r1, e1, q1⟩ => ?_)
  cases b with
  | true => exact ha ex σ H1 F1 w1 D r1 q1
  | false => exact hb ex σ H1 F1 w1 D r1 q1
def sRet (m : W → R D) : W → RS := fun w => (m w).toS fun d w' => .ret d w'
theorem ss_ret {e : Expr} {pos : Pos} {m : W → R D} (h : SE X Wx fm e m) : SSt X Wx fm (.Return (some e) pos) (sRet m) := by
  refine ⟨?_⟩
  intro ex σ H F w D r q
  refine WS.of (ps_ret pe_we) ?_
  exact h ex σ H F w _ r ((FinS.ofR q).imp fun d w1 H1 F1 ⟨r1, e1, q1⟩ v hv => q1 v σ H1 F1 (Ex.refl _) r1 hv)
def sRetN : W → RS := fun w => .ret .non w
theorem ss_retN {pos : Pos} : SSt X Wx fm (.Return none pos) sRetN := ⟨fun ex σ H F w D r q => WS.of ps_retN (q .non σ H F (Ex.refl _) r .non)⟩
/-- for -/
def sForGo (set : D → W → Option W) (body : W → RS) : List D → W → RS
  | [], w => .nx w
  | d :: ds, w => oS (set d w) fun w1 => match body w1 with
    | .nx w2 => sForGo set body ds w2
    | .cnt w2 => sForGo set body ds w2
    | .brk w2 => .nx w2
    | r => r
def sFor (mi : W → R (List D)) (set : D → W → Option W) (body : W → RS) : W → RS := fun w => (mi w).toS fun ds w1 => sForGo set body ds w1
theorem ss_for {tg iter : Expr} {body : List Stmt} {pos : Pos} {js : List Nat} {mi : W → R (List D)} {set : D → W → Option W} {m : W → RS} (hp : PassesOwn (model X.prog X.w) X.A X.env X.xe) (hc : X.calm = true) (hi : SIt X Wx fm tg iter mi) (hg : SG X fm js tg set) (hb : SSs X Wx fm body m)
    (hs : ∀ x, foldedSetIterable iter X.env x = pure x := by intro _; rfl) : SSt X Wx fm (.For tg iter body [] pos) (sFor mi set m) := by
  refine ⟨?_⟩
  intro ex σ H F w D r q
  refine WS.of (ps_for hp hc pi_wi pg_wg pss_wss hs) ?_
  refine hi ex σ H F w _ r ((FinS.ofR q).imp fun ds w1 H1 F1 ⟨r1, e1, q1⟩ J wk => ?_)
  obtain ⟨G, Y, walk, hG, hY⟩ := wk.ex
  refine for_it walk (fun i σ' H' => ∃ F' w', Ex F1 F' ∧ Rel X.K fm ex σ' H' F' w' ∧ FinS X Wx fm ex F1 D (sForGo set m (ds.drop i) w')) ⟨F1, w1, Ex.refl _, r1, q1⟩ (fun i σ' H' _ ⟨F', w', a, b, _⟩ => hG H' (a.trans b.fh)) (fun i x σa Ha Hb hi' ⟨F', w', ef, rr, fin⟩ y => ?_) (fun σ' H' ⟨F', w', ef, rr, fin⟩ => ?_)
  · obtain ⟨F2, d, hd, gr, rv⟩ := hY i Ha F' x Hb hi' ef rr.fh y
    have hdrop : ds.drop i = d :: ds.drop (i + 1) := by
      obtain ⟨hlt, e⟩ := List.getElem?_eq_some_iff.mp hd
      rw [List.drop_eq_getElem_cons hlt, e]
    rw [hdrop] at fin
    unfold sForGo at fin
    cases hset : set d w' with
    | none => rw [hset] at fin; exact (show False from fin).elim
    | some wa =>
      rw [hset] at fin
      have fin : FinS X Wx fm ex F1 D (match m wa with
        | .nx w2 => sForGo set m (ds.drop (i + 1)) w2
        | .cnt w2 => sForGo set m (ds.drop (i + 1)) w2
        | .brk w2 => .nx w2
        | r => r) := fin
      have ef2 : Ex F1 F2 := ef.trans gr.ff
      refine hg ex σa Hb F2 w' x d wa _ (rr.gr gr) rv hset fun σ2 _ _ ra => ?_
      refine hb ex σ2 Hb F2 wa _ ra ?_
      revert fin
      cases m wa with
      | nx w2 => exact fun fin σ' H' F' e r' => ⟨F', w2, ef2.trans e, r', fin⟩
      | cnt w2 => exact fun fin σ' H' F' e r' => ⟨F', w2, ef2.trans e, r', fin⟩
      | brk w2 => exact fun fin => FinS.from (r := .nx w2) fin ef2
      | ret d w2 => exact fun fin => FinS.from (r := .ret d w2) fin ef2
      | exc c w2 => exact fun fin => FinS.from (r := .exc c w2) fin ef2
      | stuck => exact fun fin => fin
  · rw [List.drop_eq_nil_of_le (Nat.le_refl _)] at fin
    exact fin σ' H' F' ef rr
/-- while -/
def sWhGo (t : W → R Bool) (body : W → RS) : Nat → W → RS
  | 0, _ => .stuck
  | n + 1, w => (t w).toS fun c w1 => if c = true then (match body w1 with
    | .nx w2 => sWhGo t body n w2
    | .cnt w2 => sWhGo t body n w2
    | .brk w2 => .nx w2
    | r => r) else .nx w1
def fuel : Nat := 1000000000
def sWhile (t : W → R Bool) (body : W → RS) : W → RS := sWhGo t body fuel
theorem ss_while {c : Expr} {body : List Stmt} {pos : Pos} {t : W → R Bool} {m : W → RS} (hp : PassesOwn (model X.prog X.w) X.A X.env X.xe) (hc : STt X Wx fm c t) (hb : SSs X Wx fm body m) : SSt X Wx fm (.While c body [] pos) (sWhile t m) := by
  refine ⟨?_⟩
  intro ex σ H F w D r q
  refine WS.of (ps_while hp pt_wt pss_wss) ?_
  refine ⟨fun n σ' H' => ∃ F' w', Rel X.K fm ex σ' H' F' w' ∧ FinS X Wx fm ex F' D (sWhGo t m n w'), ⟨fuel, F, w, r, q⟩, ?_⟩
  rintro n σ1 H1 ⟨F1, w1, r1, fin⟩
  cases n with
  | zero => exact (show False from fin).elim
  | succ n =>
    unfold sWhGo at fin
    refine hc ex σ1 H1 F1 w1 _ r1 ((FinS.ofR fin).imp fun b w2 H2 F2 ⟨r2, e2, q2⟩ => ?_)
    cases b with
    | false => exact q2 σ1 H2 F2 (Ex.refl _) r2
    | true =>
      refine ⟨fun σ' H' => ∃ F' w', Rel X.K fm ex σ' H' F' w' ∧ FinS X Wx fm ex F' D (sWhGo t m n w'), fun σ' H' z => ⟨n, Nat.lt_succ_self n, z⟩, ?_⟩
      refine hb ex σ1 H2 F2 w2 _ r2 ?_
      have q2 : FinS X Wx fm ex F2 D (match m w2 with
        | .nx w2 => sWhGo t m n w2
        | .cnt w2 => sWhGo t m n w2
        | .brk w2 => .nx w2
        | r => r) := q2
      revert q2
      cases m w2 with
      | nx w3 => exact fun q2 σ' H' F' e r' => ⟨F', w3, r', FinS.from q2 e⟩
      | cnt w3 => exact fun q2 σ' H' F' e r' => ⟨F', w3, r', FinS.from q2 e⟩
      | brk w3 => exact fun q2 => q2
      | ret d w3 => exact fun q2 => q2
      | exc c w3 => exact fun q2 => q2
      | stuck => exact fun q2 => q2
/-! ### a def -/
def startE (n : Nat) (ds : List D) : Env := ds.map (fun d => some (.val d)) ++ List.replicate (n - ds.length) none
def RS.fin : RS → RF
  | .ret d w => .ok d w.ss
  | .nx w => .ok .non w.ss
  | .exc c w => .exc c w.ss
  | _ => .stuck
def fnM (n : Nat) (m : W → RS) : List D → SS → RF := fun ds ss => (m ⟨startE n ds, ss⟩).fin
theorem rel_start {K : PySem.W.Frag} {a0 c0 : Addr} {F H : Hp} {vs : List V} {ds : List D} {ss : SS} {N : List Str} (hf : Ex F H) (hs : SrcOk a0 c0 F H ss) (hv : RpAll K a0 F vs ds) :
    Rel K ⟨a0, c0, H, F, 0, 0, "", 0⟩ [] (start N vs) H F ⟨startE N.length ds, ss⟩ := by
  have hl := hv.len
  refine ⟨Ex.refl _, hf, fun _ _ _ h => h, fun _ _ h => .inl h, hs, ?_, fun i s h => ?_, fun i j xs ys p h => ?_, (fun q hq => nomatch hq), List.nodup_nil, (fun q hq => nomatch hq)⟩
  · show (startE N.length ds).length = (start N vs).length
    unfold startE L2.start
    simp [hl]
  · have h : (startE N.length ds)[i]? = some (some s) := h
    unfold startE at h
    by_cases hi : i < ds.length
    · rw [List.getElem?_append_left (by simpa using hi), List.getElem?_map, List.getElem?_eq_getElem hi] at h
      cases h
      obtain ⟨v, e, k⟩ := hv.get (List.getElem?_eq_getElem hi)
      refine ⟨v, ?_, k⟩
      unfold L2.start
      rw [List.getElem?_append_left (by simpa [hl] using hi), List.getElem?_map, e]
      rfl
    · rw [List.getElem?_append_right (by simpa using hi)] at h
      have := List.mem_of_getElem? h
      rw [List.mem_replicate] at this
      cases this.2
  · have h : (startE N.length ds)[i]? = some (some (.own xs)) := h
    unfold startE at h
    by_cases hi : i < ds.length
    · rw [List.getElem?_append_left (by simpa using hi), List.getElem?_map, List.getElem?_eq_getElem hi] at h
      cases h
    · rw [List.getElem?_append_right (by simpa using hi)] at h
      have := List.mem_of_getElem? h
      rw [List.mem_replicate] at this
      cases this.2
end
section
variable {P : Program} {w : World} {K : PySem.W.Frag} {mg : Str → Option Value} {base : Heap}
theorem Rel.gk {fm : Fm} {ex : Exs} {σ : L2.St} {H F : Hp} {w : W} (r : Rel K fm ex σ H F w) : Gk fm.a0 fm.G fm.F0 H F := ⟨r.gh, r.f0, r.fh, r.fg⟩
end
end TD

set_option Elab.async false
set_option linter.all false
set_option maxRecDepth 100000
set_option maxHeartbeats 4000000
namespace TD
open PySem PySem.Spec PyProof.Rows L2

section
variable {X : Cx} {Wx : WX} {fm : Fm} {a0 : Addr}
/-! ### more rules -/
theorem se_gint {x : Str} {i : Int} {pos : Pos} (hm : ∃ t, X.mg x = some (.int i t)) (hg : Gl X x := by rfl) (hd : (x == ("__debug__" : Str)) = false := by decide) : SE X Wx fm (.Name x pos) (mC (.int i)) := by
  obtain ⟨t, hm⟩ := hm
  exact se_glob (v := .int i) hg hm ⟨t, rfl⟩ (fun _ => .int i) hd
def gAddI : D → D → Option D
  | .int a, .int b => some (.int (a + b))
  | _, _ => none
theorem dop_iadd : DOp X a0 (inplaceOp .Add) gAddI := dop_int0 (h' := fun i j => .int (i + j)) iop_add (fun _ _ _ => .int _) fun d e r h => by
  cases d <;> cases e <;> cases h; exact ⟨_, _, rfl, rfl, rfl⟩
theorem dop_isub : DOp X a0 (inplaceOp .Sub) gSub := dop_int0 (h' := fun i j => .int (i - j)) iop_sub (fun _ _ _ => .int _) fun d e r h => by
  cases d <;> cases e <;> cases h; exact ⟨_, _, rfl, rfl, rfl⟩
/-- the parts of the source -/
def mSrc (i j : Nat) : W → R D := fun w => match w.env[i]? with
  | some (some (.val .src)) => match j with
    | 0 => .ok (.lst (w.ss.cells.map .int)) w
    | 1 => .ok (.int w.ss.left) w
    | 2 => .ok (.int w.ss.turn) w
    | _ => .stuck
  | _ => .stuck
theorem se_src {i j : Nat} {x : Str} {p q pos : Pos} {c : Nat} (hN : X.N[i]? = some x := by rfl) (hv : Vis X.env.scope x := by first | exact Or.inl rfl | exact Or.inr (Or.inl rfl) | exact Or.inr (Or.inr rfl)) (hd : (x == ("__debug__" : Str)) = false := by decide)
    (hcd : (x == ("__classdict__" : Str)) = false := by decide) (hs : PlainIx (.Constant (.int (j : Int)) c q) := by exact fun _ _ => rfl) : SE X Wx fm (.Subscript (.Name x p) (.Constant (.int (j : Int)) c q) pos) (mSrc i j) := by
  refine ⟨?_⟩
  intro ex σ H F w Q r fin
  refine WE.of (pe_ix ix_list (pe_var hN hv hd hcd) pe_int hs) ?_
  revert fin
  unfold mSrc
  split
  · rename_i h
    obtain ⟨v, e, k⟩ := r.slot i _ h
    cases k
    have hl : SqL X.K H fm.a0 [.ref fm.c0, .int w.ss.left, .int w.ss.turn] := .inl (.inl r.src.at0)
    split
    · exact fun fin => ⟨_, e, fm.a0, _, _, _, rfl, rfl, hl, atI_nat (j := 0) rfl, fin H F Kp.refl (Ex.refl _) r _ (.lst r.src.cells (.of_ints _))⟩
    · exact fun fin => ⟨_, e, fm.a0, _, _, _, rfl, rfl, hl, atI_nat (j := 1) rfl, fin H F Kp.refl (Ex.refl _) r _ (.int _)⟩
    · exact fun fin => ⟨_, e, fm.a0, _, _, _, rfl, rfl, hl, atI_nat (j := 2) rfl, fin H F Kp.refl (Ex.refl _) r _ (.int _)⟩
    · exact fun fin => fin.elim
  · exact fun fin => fin.elim
def sSrc (i j : Nat) (m : W → R D) : W → RS := fun w => (m w).toS fun d w' => match w'.env[i]?, d, j with
  | some (some (.val .src)), .int v, 1 => if 0 ≤ v then .nx { w' with ss := { w'.ss with left := v } } else .stuck
  | some (some (.val .src)), .int v, 2 => if 0 ≤ v then .nx { w' with ss := { w'.ss with turn := v } } else .stuck
  | _, _, _ => .stuck
theorem Rel.srcSet {K : PySem.W.Frag} {ex : Exs} {σ : L2.St} {H F : Hp} {w : W} (r : Rel K fm ex σ H F w) {l t : Int} (hl : 0 ≤ l) (ht : 0 ≤ t) : Rel K fm ex σ (upd H fm.a0 (.lst [.ref fm.c0, .int l, .int t])) F { w with ss := { w.ss with left := l, turn := t } } := by
  refine r.step (ss' := { w.ss with left := l, turn := t }) ⟨fun b o n e => by rw [upd_ne n]; exact e, Ex.refl _, fun b o e => ?_, fun b o e => .inl e⟩ ⟨r.src.fr, upd_same, r.src.cells, r.src.ne, r.src.nn, hl, ht⟩
  rw [upd_ne (fun z => by subst z; rw [r.src.fr] at e; cases e)]
  exact r.fh b o e
theorem ss_src {i j : Nat} {x : Str} {p q tp pos : Pos} {c : Nat} {e : Expr} {m : W → R D} (h : SE X Wx fm e m) (hN : X.N[i]? = some x := by rfl) (hv : Vis X.env.scope x := by first | exact Or.inl rfl | exact Or.inr (Or.inl rfl) | exact Or.inr (Or.inr rfl)) (hd : (x == ("__debug__" : Str)) = false := by decide)
    (hcd : (x == ("__classdict__" : Str)) = false := by decide)
    (hpg : ∀ {to ti : TE}, PE X (.Name x p) to → PE X (.Constant (.int (j : Int)) c q) ti → PG X (.Subscript (.Name x p) (.Constant (.int (j : Int)) c q) tp) (L2.gSub to ti rSetL) := by exact fun a b => pg_sub a b set_list)
    (hs : swapsWithSole [.Subscript (.Name x p) (.Constant (.int (j : Int)) c q) tp] e pos.line X.env = pure false := by rfl) (hw : swappedStores [.Subscript (.Name x p) (.Constant (.int (j : Int)) c q) tp] e X.env = pure none := by rfl)
    (h1 : (assignEach [.Subscript (.Name x p) (.Constant (.int (j : Int)) c q) tp] X.env).map (·.2) = [assign (.Subscript (.Name x p) (.Constant (.int (j : Int)) c q) tp) X.env] := by rfl) :
    SSt X Wx fm (.Assign [.Subscript (.Name x p) (.Constant (.int (j : Int)) c q) tp] e pos) (sSrc i j m) := by
  refine ⟨?_⟩
  intro ex σ H F w D r fin
  refine WS.of (ps_asg pe_we (hpg (pe_var hN hv hd hcd) pe_int) hs hw h1) ?_
  refine h ex σ H F w _ r ((FinS.ofR fin).imp fun d w1 H1 F1 ⟨r1, e1, q1⟩ v hv => ?_)
  revert q1
  split
  · rename_i k hi _
    intro q1
    obtain ⟨u, e, kk⟩ := r1.slot i _ hi
    cases kk
    cases hv
    by_cases h0 : 0 ≤ k
    · rw [if_pos h0] at q1
      exact ⟨_, e, _, [.ref fm.c0, .int w1.ss.left, .int w1.ss.turn], _, 1, rfl, rfl, r1.src.at0, rfl, q1 σ _ F1 (Ex.refl _) (r1.srcSet h0 r1.src.turn)⟩
    · rw [if_neg h0] at q1
      exact (show False from q1).elim
  · rename_i k hi _
    intro q1
    obtain ⟨u, e, kk⟩ := r1.slot i _ hi
    cases kk
    cases hv
    by_cases h0 : 0 ≤ k
    · rw [if_pos h0] at q1
      exact ⟨_, e, _, [.ref fm.c0, .int w1.ss.left, .int w1.ss.turn], _, 2, rfl, rfl, r1.src.at0, rfl, q1 σ _ F1 (Ex.refl _) (r1.srcSet r1.src.left h0)⟩
    · rw [if_neg h0] at q1
      exact (show False from q1).elim
  · exact fun q1 => q1.elim
/-- xs.extend(t) -/
theorem list_extend_tuple (l : Addr) (items : Array Value) (n : Nat) (b : Addr) (items2 : Array Value) (n2 : Nat) (dd : Option Addr) (sl : Array (Option Value)) (hs0 : ¬(!items.isEmpty && Builtin.List.listTooLong (items.size + items2.size)) = true) (hs1 : items.size ≤ sizeLine) (hs2 : items.size + items2.size ≤ sizeLine + 1) :
    Meets (Builtin.«list.extend» ⟨[.ref l, .ref b], []⟩) (fun _ R s => s.heap.get? l = some { cls := .type "list", dict := none, data := .seq items n, slots := #[] } ∧ s.heap.get? b = some { cls := .type "tuple", dict := dd, data := .seq items2 n2, slots := sl } ∧ R (.ok (.ret Value.none)) { s with heap := s.heap.update l (Obj.mapSeq fun x => x ++ items2), toks := s.toks }) :=
  .of_wp fun prog w A R s h => by
    obtain ⟨hp, g, d, tk, os⟩ := s; obtain ⟨hl, hb, h⟩ := h; have f1 := PySem.AutoSeq1.idx_int; have f2 := PySem.AutoSeq1.sub_tuple_tuple; have f3 := PySem.AutoSeq1.sub_list_list; have f4 := PySem.AutoSeq1.sub_tuple_list; have f5 := PySem.AutoSeq1.sub_list_tuple;
    have hz' : (items ++ items2).size ≤ sizeLine + 1 := by rw [Array.size_append]; exact hs2
    wp_walk using (wpAny_updateSeq hl rfl (hz := hs1) (_hz' := hz')), wpAny_loadPart' hl, wpAny_loadPart' hb; exact ⟨_, rfl, h⟩
def rExtendT (K : PySem.W.Frag) : V → List V → Hp → VK → Prop := fun x vs H Q => ∃ l b xs zs, x = .ref l ∧ vs = [.ref b] ∧ H l = some (.lst xs) ∧ (SqT K H b zs ∨ H b = some (.lst zs)) ∧ xs.length + zs.length ≤ sizeLine ∧ Q .non (upd H l (.lst (xs ++ zs)))
theorem mt_extendT : MtR X "list.extend" (rExtendT X.K) := by
  intro pins s σ H x vs v us Q I rx rv h
  obtain ⟨l, b, xs, zs, rfl, rfl, hH, hB, hz, q⟩ := h
  rcases hB with hB | hB
  · cases rx
    obtain ⟨u, rfl, ru⟩ := rv.one
    cases ru
    obtain ⟨z, its, n, r, hl, e⟩ := I.lstM hH
    obtain ⟨its2, r2, ⟨o, e2, hc, n2, hd⟩, hz2⟩ := I.tuple hB
    obtain ⟨cls, dd, dt, sl⟩ := o
    simp only at hc hd
    subst hc hd
    have l2 : zs.length = its2.length := r2.length
    have hsz : its.toArray.size + its2.toArray.size ≤ sizeLine := by rw [List.size_toArray, List.size_toArray]; omega
    have hlong : ¬ (!its.toArray.isEmpty && Builtin.List.listTooLong (its.toArray.size + its2.toArray.size)) = true := by
      rw [notLongL hsz, Bool.and_false]
      exact Bool.false_ne_true
    refine call_meets F.slot_list_extend ⟨_, e, rfl⟩ F.entry_list_extend (F.args_list_extend_2 _ _)
      (list_extend_tuple l its.toArray n b its2.toArray n2 dd sl hlong (by rw [List.size_toArray]; omega) (by omega)) ⟨e, e2, ?_⟩
    refine ⟨.non, _, I.lset (its' := its ++ its2) hH e (by simp) (r.append r2) ?_, rfl, q⟩
    rw [List.length_append]
    omega
  · exact mt_extend pins s σ H _ _ v us Q I rx rv ⟨l, b, xs, zs, rfl, rfl, hH, hB, hz, q⟩
def sExt (i : Nat) (m : W → R D) : W → RS := fun w => match w.env[i]? with
  | some (some (.own _)) => (m w).toS fun d w' => match w'.env[i]?, d.seq? with
    | some (some (.own xs)), some ys => if xs.length + ys.length ≤ 1000000 then .nx { w' with env := w'.env.set i (some (.own (xs ++ ys))) } else .stuck
    | _, _ => .stuck
  | _ => .stuck
theorem ss_extend {i : Nat} {x : Str} {e : Expr} {p apos cpos pos : Pos} {m : W → R D} (h : SE X Wx fm e m) (hN : X.N[i]? = some x := by rfl) (hv : Vis X.env.scope x := by first | exact Or.inl rfl | exact Or.inr (Or.inl rfl) | exact Or.inr (Or.inr rfl)) (hd : (x == ("__debug__" : Str)) = false := by decide)
    (hcd : (x == ("__classdict__" : Str)) = false := by decide) (hbase : attributeBase (.Name x p) "extend" X.env (eval (.Name x p) X.env) = eval (.Name x p) X.env := by rfl)
    (hfew : ((backTo cpos (starEach [e] X.env)).all (fun x => !x.1) && (backToKw cpos (keywordEach [] X.env)).all (fun x => x.1.isSome)
      && decide ([e].length + ([] : List Keyword).length + (if ([] : List Keyword).isEmpty then 0 else 1) < 30)) = true := by rfl)
    (hline : (apos.endLine == cpos.line) = true := by rfl) (hs : starEach [e] X.env = (false, eval e X.env) :: starEach [] X.env := by rfl) (hplain : (backTo cpos (starEach [] X.env)).any (·.1) = false := by rfl)
    (hsw : swapsWith (.Call (.Attribute (.Name x p) "extend" apos) [e] [] cpos) none pos.line X.env = pure false := by rfl) :
    SSt X Wx fm (.Expr (.Call (.Attribute (.Name x p) "extend" apos) [e] [] cpos) pos) (sExt i m) := by
  refine ⟨?_⟩
  intro ex σ H F w D r q
  refine WS.of (ps_expr (pe_bm PySem.F.plainAttrs_list PySem.F.slot_list_extend PySem.F.type_list_extend mt_extendT (pe_var hN hv hd hcd) (pa_cons pe_we pa_nil hs) hbase hfew hline hs hplain) hsw) ?_
  revert q
  unfold sExt
  split
  · rename_i xs0 hx0
    intro q
    obtain ⟨p0, e0, r0⟩ := r.takeOwn hx0
    obtain ⟨a1, a2, a3, vs0, a4, a5⟩ := r0.exo _ (List.mem_cons_self ..)
    refine ⟨.ref p0, e0, .inl ⟨rfl, _, .inl (.inl a4)⟩, ?_⟩
    refine h ex σ H F w _ r ((FinS.ofR q).imp fun d w1 H1 F1 ⟨r1, e1, q1⟩ v hv => ?_)
    split at q1
    · rename_i xs ys hx hy
      obtain ⟨p1, e1', r2⟩ := r1.takeOwn hx
      rw [e0] at e1'
      cases e1'
      obtain ⟨b1, b2, b3, vs, b4, b5⟩ := r2.exo _ (List.mem_cons_self ..)
      have b5 : RpAll X.K fm.a0 F1 vs xs := b5
      by_cases hl : xs.length + ys.length ≤ 1000000
      · rw [if_pos hl] at q1
        cases hv with
        | @tup pb us l h1 h2 =>
          cases hy
          refine ⟨p0, pb, vs, us, rfl, rfl, b4, .inl (ex_t r1.fh h1), line_of (by rw [b5.len, h2.len]; exact hl), ?_⟩
          have r3 := (r2.mut (b5.app h2)).putOwn e0
          exact q1 σ _ F1 (Ex.refl _) (by simpa using r3)
        | @lst pb us l h1 h2 =>
          cases hy
          refine ⟨p0, pb, vs, us, rfl, rfl, b4, .inr (r1.fh _ _ h1), line_of (by rw [b5.len, h2.len]; exact hl), ?_⟩
          have r3 := (r2.mut (b5.app h2)).putOwn e0
          exact q1 σ _ F1 (Ex.refl _) (by simpa using r3)
        | _ => cases hy
      · rw [if_neg hl] at q1
        exact (show False from q1).elim
    · exact (show False from q1).elim
  · exact fun q => q.elim
end
section
variable {P : Program} {w : World} {K : PySem.W.Frag} {mg : Str → Option Value} {base : Heap}
theorem tk_of {N : List Str} {qual : Str} {scope : Scope} {f : Addr} {cd : Value} {A : Around} {outer : List PySem.Env} {s : Shared} {H : Hp} {E : XK} : Takes (cxOf (L2.CX P w) P w K mg base N qual scope f cd A outer s H E) (fun c d _ H => E c d H) := takes_of rfl rfl rfl rfl
theorem po_of {N : List Str} {qual : Str} {scope : Scope} {f : Addr} {cd : Value} {A : Around} {outer : List PySem.Env} {s : Shared} {H : Hp} {E : XK} :
    PassesOwn (model (cxOf (L2.CX P w) P w K mg base N qual scope f cd A outer s H E).prog (cxOf (L2.CX P w) P w K mg base N qual scope f cd A outer s H E).w) (cxOf (L2.CX P w) P w K mg base N qual scope f cd A outer s H E).A (cxOf (L2.CX P w) P w K mg base N qual scope f cd A outer s H E).env (cxOf (L2.CX P w) P w K mg base N qual scope f cd A outer s H E).xe := passes_of rfl
/-- THE RULE for a def -/
theorem fn_td {x qual : Str} {params : Arguments} {body : List Stmt} {scope : Scope} {f : Addr} {fd : FuncData} {N ps : List Str} {k : Nat} {m : W → RS} (F : FunD K x qual params body scope [] [] f fd) (S : FnScope N ps scope)
    (hb : ∀ (cdv : Value) (A : Around) (outer : List PySem.Env) (s : Shared) (H : Hp) (E : XK) (fm : Fm), Room k (A.deeper (envOfC qual scope s.heap.objs.size f cdv)) → SSs (cxOf (L2.CX P w) P w K mg base N qual scope f cdv A outer s H E) (fun c d _ H => E c d H) fm body m) :
    FnOk P w K mg base (L2.CX P w) (k + 1) f fd ps (spM K mg ps.length (fnM N.length m)) := by
  refine F.ok S (fun vs H Q E h => h.choose_spec.choose_spec.choose_spec.choose_spec.choose_spec.1) (fun cdv A outer s H vs Q E hr h => ?_)
  obtain ⟨a0, c0, F0, ds, ss, hl, hf, hs, hv, q⟩ := h
  refine ⟨_, pss_wss, ?_⟩
  refine hb cdv A outer s H E ⟨a0, c0, H, F0, 0, 0, "", 0⟩ hr [] _ H F0 ⟨startE N.length ds, ss⟩ _ (rel_start hf hs hv) ?_
  revert q
  unfold fnM
  cases m ⟨startE N.length ds, ss⟩ with
  | nx w1 => exact fun q σ' H' F' e r => q .non H' F' r.gk r.src .non
  | ret d w1 => exact fun q v σ' H' F' e r k => q v H' F' r.gk r.src k
  | exc c w1 => exact fun q σ' H' F' cls dd e r k => q H' F' cls dd r.gk r.src k
  | brk w1 => exact fun q => q.elim
  | cnt w1 => exact fun q => q.elim
  | stuck => exact fun q => q
theorem fn_stuck {x qual : Str} {params : Arguments} {body : List Stmt} {scope : Scope} {f : Addr} {fd : FuncData} {N ps : List Str} {k : Nat} (F : FunD K x qual params body scope [] [] f fd) (S : FnScope N ps scope) :
    FnOk P w K mg base (L2.CX P w) (k + 1) f fd ps (spM K mg ps.length (fun _ _ => .stuck)) :=
  F.ok S (fun vs H Q E h => h.choose_spec.choose_spec.choose_spec.choose_spec.choose_spec.1) (fun cdv A outer s H vs Q E hr h => by
    obtain ⟨a0, c0, F0, ds, ss, hl, hf, hs, hv, q⟩ := h
    exact (show False from q).elim)
end
end TD
namespace TD
open PySem PySem.Spec PySem.Calls PyProof.Rows L2
section
variable {prog : Program} {w : World} {A : Around} {s : Shared}
theorem adjust_rev (n : Nat) : Builtin.Slice.sliceAdjust none none (-1) (n : Int) = ((n : Int) - 1, -1) := by
  simp [Builtin.Slice.sliceAdjust]
theorem places_rev (n : Nat) : Builtin.Slice.slicePlaces ((n : Int) - 1) (-1) (-1) = n := by
  unfold Builtin.Slice.slicePlaces
  have h1 : ¬ ((-1 : Int) > 0) := by omega
  simp only [h1, if_false]
  rw [show (- -1 : Int) = 1 by decide, Int.ediv_one]
  split <;> omega
theorem pick_rev {α : Type} (xs : Array α) : ((List.range xs.size).filterMap fun (m : Nat) => xs[((((xs.size : Nat) : Int) - 1) + (m : Int) * (-1)).toNat]?).toArray = xs.toList.reverse.toArray := by
  have e : (List.range xs.size).filterMap (fun (m : Nat) => xs[((((xs.size : Nat) : Int) - 1) + (m : Int) * (-1)).toNat]?) = ((List.range xs.size).map fun k => xs.size - 1 - k).filterMap (xs[·]?) := by
    rw [List.filterMap_map]
    congr 1
    funext m
    show _ = xs[xs.size - 1 - m]?
    rw [show ((((xs.size : Nat) : Int) - 1) + (m : Int) * (-1)).toNat = xs.size - 1 - m by omega]
  rw [e, PySem.W.krv_range, List.filterMap_reverse, PySem.W.krv_all]
theorem sliceApplied_rev {sl : Addr} {vl vu vs : Value} {n : Nat} {Q : Int × Int × Nat → Shared → Prop} (hs : s.heap.IsSliceOf sl vl vu vs) (pl : IsPart vl none) (pu : IsPart vu none) (ps : IsPart vs (some (-1)))
    (h : Q ((n : Int) - 1, -1, n) s) : wpAny (model prog w) A (Builtin.Slice.sliceApplied (.ref sl) (pure (n : Int))) Q E s := by
  obtain ⟨os, hos, hcs, hds⟩ := id hs
  unfold Builtin.Slice.sliceApplied Builtin.Slice.sliceFields
  refine wpAny_bind (wpAny_bind (wpAny_field hos hds (x := vl) rfl (wpAny_bind (wpAny_field hos hds (x := vu) rfl (wpAny_bind (wpAny_field hos hds (x := vs) rfl (wpAny_pure ?_)))))))
  refine wpAny_bind (HT.slicePart_ ps ?_)
  show wpAny _ _ (if ((-1 : Int) == 0) = true then _ else _) _ _ s
  rw [if_neg (by decide)]
  refine wpAny_bind (HT.slicePart_ pl (wpAny_bind (HT.slicePart_ pu (wpAny_bind (wpAny_pure ?_)))))
  show wpAny _ _ (match Builtin.Slice.sliceAdjust none none (-1) (n : Int) with | (lo, hi) => pure (lo, (-1 : Int), Builtin.Slice.slicePlaces lo hi (-1))) _ _ s
  rw [adjust_rev n]
  show wpAny _ _ (pure ((n : Int) - 1, (-1 : Int), Builtin.Slice.slicePlaces ((n : Int) - 1) (-1) (-1))) _ _ s
  rw [places_rev]
  exact wpAny_pure h
theorem getItem_tuple_rev {t sl : Addr} {items : Array Value} {vl vu vs : Value} {Q : Value → Shared → Prop} (ht : IsTup s.heap t items) (hs : s.heap.IsSliceOf sl vl vu vs) (pl : IsPart vl none) (pu : IsPart vu none) (ps : IsPart vs (some (-1)))
    (h : Q (.ref s.heap.objs.size) { s with heap := s.heap.push { cls := .type "tuple", data := .seq items.toList.reverse.toArray } })
    (hsz : items.size ≤ sizeLine) : wpAny (model prog w) A (getItem (.ref t) (.ref sl)) Q E s := by
  have htake : sizeOk (.seq items.toList.reverse.toArray) := by
    show items.toList.reverse.toArray.size ≤ sizeLine
    rw [List.size_toArray, List.length_reverse, Array.length_toList]
    exact hsz
  obtain ⟨os, hos, hcs, hds⟩ := id hs
  have hTs : s.TypeIs (.ref sl) "slice" := ⟨os, hos, hcs⟩
  unfold getItem
  try with_reducible refine wpAny_holding ?_
  first | refine wpAny_bind (wpAny_pure ?_) | skip
  refine wpAny_bind (wpAny_sequenceKey ht.typeIs (by decide) ?_)
  refine wpAny_bind (wpAny_callSpecial?_slot (name := Str.ofString "__getitem__") ht.typeIs PyProof.Rows.slot_tuple_getitem
    (wpAny_call_entry PyProof.Rows.slot_tuple_getitem ht.typeIs entry_tuple_getitem ?_ (args_tuple_getitem _ _)))
  show wpAny _ _ (Builtin.Tuple.tupleItemsOf (.ref t) >>= _) _ _ s
  refine wpAny_bind (tupleItemsOf_ ht ?_)
  refine wpAny_bind (wpAny_typeOf hTs ?_)
  rw [if_pos (by decide)]
  refine wpAny_bind (sliceApplied_rev hs pl pu ps ?_)
  have hno : ¬ ((((items.size : Nat) : Int) - 1 == 0 && (-1 : Int) == 1 && items.size == items.size) = true) := by
    intro q
    rw [Bool.and_eq_true, Bool.and_eq_true] at q
    exact absurd q.1.2 (by decide)
  show wpAny _ _ (if (((items.size : Nat) : Int) - 1 == 0 && (-1 : Int) == 1 && items.size == items.size) = true then _ else _) _ _ s
  rw [if_neg hno, pick_rev]
  first
    | exact wpAny_bind (m := Builtin.Tuple.tupleExact _) (wpAny_newObj_type (wpAny_pure ⟨_, rfl, wpAny_pure h⟩) htake)
    | exact wpAny_bind (m := Builtin.Tuple.tupleExact _) (wpAny_newObj_type (wpAny_bind (wpAny_pure (wpAny_pure ⟨_, rfl, wpAny_pure h⟩))) htake)
    | exact wpAny_bind (wpAny_bind (m := Builtin.Tuple.tupleExact _) (wpAny_newObj_type (wpAny_pure (wpAny_pure ⟨_, rfl, wpAny_pure h⟩)) htake))
    | exact wpAny_bind (wpAny_bind (m := Builtin.Tuple.tupleExact _) (wpAny_newObj_type (wpAny_pure ⟨_, rfl, wpAny_pure h⟩) htake))
end
section
variable {X : Cx} {Wx : WX} {fm : Fm}
def tRevT (K : PySem.W.Frag) (te : TE) : TE := fun σ H Q => te σ H fun x H1 => ∃ a xs, x = .ref a ∧ SqT K H1 a xs ∧ ∀ p, H1 p = none → Q (.ref p) (upd H1 p (.tup xs.reverse))
theorem pe_revT {e : Expr} {te : TE} {k : Nat} {p1 p2 p3 pos : Pos} (he : PE X e te) : PE X (.Subscript e (.Slice none none (some (.UnaryOp .USub (.Constant (.int 1) k p1) p2)) p3) pos) (tRevT X.K te) := by
  refine ⟨fun pins s σ H Q I h => ?_⟩
  refine Subscript_ (thn (he.run pins s σ H _ I h) fun v s1 ⟨x, H1, I1, r1, q1⟩ => ?_)
  obtain ⟨a, xs, ex, hx, q⟩ := q1
  subst ex
  cases r1
  have hst : PO X (some (.UnaryOp .USub (.Constant (.int 1) k p1) p2)) (tPart (tUn (rU fun i => .int (-i)) (tC (.int 1)))) := po_some (pe_un un_neg pe_int)
  refine wpAny_Slice (thn (po_none.run pins s1 σ H1 (fun o H2 => o = none ∧ H2 = H1) I1 ⟨rfl, rfl⟩) fun vl s2 ⟨l, H2, I2, pl, el, e2⟩ => ?_)
  subst el e2
  refine thn (po_none.run pins s2 σ H2 (fun o H3 => o = none ∧ H3 = H2) I2 ⟨rfl, rfl⟩) fun vu s3 ⟨u, H3, I3, pu, eu, e3⟩ => ?_
  subst eu e3
  refine thn (hst.run pins s3 σ H3 (fun o H4 => o = some (-1) ∧ H4 = H3) I3 ⟨1, rfl, -1, rfl, rfl, rfl⟩) fun vs s4 ⟨o, H4, I4, ps, eo, e4⟩ => ?_
  subst eo e4
  have I5 : Inv X pins σ H4 { s4 with heap := s4.heap.push { cls := .type "slice", data := .fields #[vl, vu, vs] } } := I4.kept (t' := s4.toks) fun b ob q => Heap.get?_push_of_some _ q
  obtain ⟨its, r, ht, hz⟩ := I5.tuple hx
  have hlen : its.toArray.size = xs.length := by rw [List.size_toArray]; exact r.length.symm
  show wpAny (model X.prog X.w) X.A (subscriptTail e (.Slice none none (some (.UnaryOp .USub (.Constant (.int 1) k p1) p2)) p3) (.ref a) (.ref s4.heap.objs.size)) (EP X pins σ Q) X.xe { s4 with heap := s4.heap.push { cls := .type "slice", data := .fields #[vl, vu, vs] } }
  refine tail_any (ops := [.ref a, .ref s4.heap.objs.size]) ht.typeIs (PyProof.Rows.slot_tuple_getitem.lookup) ?_ (by with_unfolding_all rfl)
  refine getItem_tuple_rev ht (Heap.IsSliceOf.new _ vl vu vs) pl pu ps ?_ (by rw [hlen]; exact hz)
  refine ⟨.ref _, _, I5.laid (t' := s4.toks) (o := .tup xs.reverse) (fun b ob q => Heap.get?_push_of_some _ q) (Nat.le_refl _) ?_, rfl, q _ (I5.hok.fresh (Nat.le_refl _))⟩
  exact ⟨by rw [List.length_reverse]; exact hz, _, r.reverse, IsTup.new _ _⟩
def mRevT (m : W → R D) : W → R D := fun w => (m w).bind fun d w1 => R.lift (d.t?.map fun l => .tup l.reverse) w1
theorem se_revT {e : Expr} {k : Nat} {p1 p2 p3 pos : Pos} {m : W → R D} (h : SE X Wx fm e m) : SE X Wx fm (.Subscript e (.Slice none none (some (.UnaryOp .USub (.Constant (.int 1) k p1) p2)) p3) pos) (mRevT m) := by
  refine ⟨?_⟩
  intro ex σ H F w Q r q
  refine WE.of (pe_revT pe_we) ?_
  refine h ex σ H F w _ r ((Fin.bind q).imp fun d w1 H1 F1 ⟨r1, k1, e1, q1⟩ v hv => ?_)
  cases hv with
  | @tup p0 vs l h1 h2 =>
    refine ⟨_, _, rfl, ex_t r1.fh h1, fun p' hp => ?_⟩
    have g : Gr H1 F1 (upd H1 p' (.tup vs.reverse)) (upd F1 p' (.tup vs.reverse)) := Gr.new r1.fh hp
    exact q1 _ _ g.kp g.ff (r1.gr g) _ (.tup (.inl (.inl upd_same)) (h2.rev.ex g.ff))
  | _ => exact (show False from q1).elim
end
section
variable {X : Cx} {Wx : WX} {fm : Fm}
/-- x[k] of a list that is being built: it stays so -/
def mIxO (i : Nat) (m : W → R D) : W → R D := fun w => match w.env[i]? with
  | some (some (.own _)) => (m w).bind fun k w1 => match w1.env[i]? with
    | some (some (.own xs)) => R.lift (gIx (.lst xs) k) w1
    | _ => .stuck
  | _ => mBin gIx (mVar i) m w
theorem se_ixO {i : Nat} {x : Str} {b : Expr} {p pos : Pos} {m : W → R D} (hb : SE X Wx fm b m) (hN : X.N[i]? = some x := by rfl) (hv : Vis X.env.scope x := by first | exact Or.inl rfl | exact Or.inr (Or.inl rfl) | exact Or.inr (Or.inr rfl)) (hd : (x == ("__debug__" : Str)) = false := by decide)
    (hcd : (x == ("__classdict__" : Str)) = false := by decide) (hs : PlainIx b := by exact fun _ _ => rfl) : SE X Wx fm (.Subscript (.Name x p) b pos) (mIxO i m) := by
  refine ⟨?_⟩
  intro ex σ H F w Q r fin
  revert fin
  unfold mIxO
  split
  · rename_i xs0 hx0
    intro fin
    refine WE.of (pe_ix ix_list (pe_var hN hv hd hcd) pe_we hs) ?_
    obtain ⟨p0, e0, r0⟩ := r.takeOwn hx0
    refine ⟨.ref p0, e0, ?_⟩
    refine hb ex σ H F w _ r ((Fin.bind fin).imp fun k w1 H1 F1 ⟨r1, k1, e1, q1⟩ u hu => ?_)
    split at q1
    · rename_i xs hx
      obtain ⟨p1, e1', r2⟩ := r1.takeOwn hx
      rw [e0] at e1'
      cases e1'
      obtain ⟨b1, b2, b3, vs, b4, b5⟩ := r2.exo _ (List.mem_cons_self ..)
      have b5 : RpAll X.K fm.a0 F1 vs xs := b5
      obtain ⟨z, hz, q3⟩ := q1.lift
      cases hu with
      | int j =>
        obtain ⟨t, ht, rt⟩ := rp_atI b5 (show atI xs j = some z from hz)
        exact ⟨_, _, _, _, rfl, rfl, .inl (.inl b4), ht, q3 H1 F1 Kp.refl (Ex.refl _) r1 t rt⟩
      | _ => cases hz
    · exact (show False from q1).elim
  · intro fin
    exact se_ix (se_var hN hv hd hcd) hb hs ex σ H F w Q r fin
end
end TD

set_option Elab.async false
set_option linter.all false
set_option maxRecDepth 100000
set_option maxHeartbeats 4000000
namespace TD
open PySem PySem.Spec PyProof.Rows L2
/-! ### how the mirrors are reckoned -/
section
variable {env : Env} {ss : SS} {w : W}
@[simp] theorem mVar_ap (i : Nat) : mVar i ⟨env, ss⟩ = match env[i]? with
  | some (some (.val d)) => .ok d ⟨env, ss⟩
  | some (some (.own xs)) => .ok (.lst xs) ⟨env.set i (some (.val (.lst xs))), ss⟩
  | _ => .stuck := rfl
@[simp] theorem mC_ap (d : D) : mC d w = .ok d w := rfl
@[simp] theorem mBin_ap (g : D → D → Option D) (a b : W → R D) : mBin g a b w = (a w).bind fun x w1 => (b w1).bind fun y w2 => R.lift (g x y) w2 := rfl
@[simp] theorem mChain_ap (g g' : D → D → Option D) (a b c : W → R D) : mChain g g' a b c w = (a w).bind fun x w1 => (b w1).bind fun y w2 => (R.lift ((g x y).bind D.b?) w2).bind fun k w3 => if k = true then (c w3).bind fun z w4 => R.lift (g' y z) w4 else .ok (.bl false) w3 := rfl
@[simp] theorem mUn_ap (g : D → Option D) (a : W → R D) : mUn g a w = (a w).bind fun x w1 => R.lift (g x) w1 := rfl
@[simp] theorem mIxO_ap (i : Nat) (m : W → R D) : mIxO i m ⟨env, ss⟩ = match env[i]? with
  | some (some (.own _)) => (m ⟨env, ss⟩).bind fun k w1 => match w1.env[i]? with
    | some (some (.own xs)) => R.lift (gIx (.lst xs) k) w1
    | _ => .stuck
  | _ => mBin gIx (mVar i) m ⟨env, ss⟩ := rfl
@[simp] theorem mTru_ap (a : W → R D) : mTru a w = (a w).bind fun x w1 => R.lift x.tru w1 := rfl
@[simp] theorem mB_ap (a : W → R D) : mB a w = (a w).bind fun x w1 => R.lift x.b? w1 := rfl
@[simp] theorem mNotT_ap (a : W → R Bool) : mNotT a w = (a w).bind fun b w1 => .ok (!b) w1 := rfl
@[simp] theorem mAndT_ap (a b : W → R Bool) : mAndT a b w = (a w).bind fun c w1 => if c = true then b w1 else .ok false w1 := rfl
@[simp] theorem mOrT_ap (a b : W → R Bool) : mOrT a b w = (a w).bind fun c w1 => if c = true then .ok true w1 else b w1 := rfl
@[simp] theorem mAndV_ap (a b : W → R D) : mAndV a b w = (a w).bind fun d w1 => (R.lift d.b? w1).bind fun c w2 => if c = true then b w2 else .ok (.bl false) w2 := rfl
@[simp] theorem mOrV_ap (a b : W → R D) : mOrV a b w = (a w).bind fun d w1 => (R.lift d.b? w1).bind fun c w2 => if c = true then .ok (.bl true) w2 else b w2 := rfl
@[simp] theorem mNotV_ap (a : W → R D) : mNotV a w = (a w).bind fun d w1 => (R.lift d.b? w1).bind fun c w2 => .ok (.bl (!c)) w2 := rfl
@[simp] theorem mIfE_ap (t : W → R Bool) (a b : W → R D) : mIfE t a b w = (t w).bind fun c w1 => if c = true then a w1 else b w1 := rfl
@[simp] theorem mNil_ap : mNil w = .ok [] w := rfl
@[simp] theorem mCons_ap (a : W → R D) (b : W → R (List D)) : mCons a b w = (a w).bind fun d w1 => (b w1).bind fun ds w2 => .ok (d :: ds) w2 := rfl
@[simp] theorem mTup_ap (a : W → R (List D)) : mTup a w = (a w).bind fun ds w1 => R.lift (if ds.length ≤ 1000000 then some (.tup ds) else none) w1 := rfl
@[simp] theorem mLst_ap (a : W → R (List D)) : mLst a w = (a w).bind fun ds w1 => R.lift (if ds.length ≤ 1000000 then some ds else none) w1 := rfl
@[simp] theorem mFrz_ap (a : W → R (List D)) : mFrz a w = (a w).bind fun xs w1 => .ok (.lst xs) w1 := rfl
@[simp] theorem mSc_ap (a : W → R D) : mSc a w = (a w).bind fun d w1 => .ok d (if d.flat = true then { env := w.env, ss := w1.ss } else w1) := rfl
@[simp] theorem mScT_ap (a : W → R Bool) : mScT a w = (a w).bind fun b w1 => .ok b { env := w.env, ss := w1.ss } := rfl
@[simp] theorem mBlt_ap (g : List D → Option D) (a : W → R (List D)) : mBlt g a w = (a w).bind fun ds w1 => R.lift (g ds) w1 := rfl
@[simp] theorem mIsi_ap (T : String) (a : W → R D) : mIsi T a w = (a w).bind fun d w1 => R.lift ((d.isi T).map D.bl) w1 := rfl
def RF.toR (r : RF) (w : W) : R D := match r with
  | .ok d ss' => .ok d { w with ss := ss' }
  | .exc c ss' => .exc c { w with ss := ss' }
  | .stuck => .stuck
@[simp] theorem RF.toR_ok (d : D) (s : SS) : (RF.ok d s).toR w = .ok d { w with ss := s } := rfl
@[simp] theorem RF.toR_exc (c : Exn) (s : SS) : (RF.exc c s).toR w = .exc c { w with ss := s } := rfl
@[simp] theorem RF.toR_stuck : RF.stuck.toR w = .stuck := rfl
@[simp] theorem mCall_ap (n : Nat) (f : List D → SS → RF) (a : W → R (List D)) : mCall n f a w = (a w).bind fun ds w1 => if ds.length = n then (f ds w1.ss).toR w1 else .stuck := rfl
@[simp] theorem mCall0_ap (f : List D → SS → RF) : mCall0 f w = match f [] w.ss with | .ok d ss' => .ok d { w with ss := ss' } | _ => .stuck := rfl
@[simp] theorem mSlT_ap (a : W → R D) (lo hi : W → R (Option Int)) : mSlT a lo hi w = (a w).bind fun d w1 => (lo w1).bind fun x w2 => (hi w2).bind fun y w3 => R.lift (d.t?.map fun l => .tup (cutD l x y)) w3 := rfl
@[simp] theorem mSlL_ap (a : W → R D) (lo hi : W → R (Option Int)) : mSlL a lo hi w = (a w).bind fun d w1 => (lo w1).bind fun x w2 => (hi w2).bind fun y w3 => R.lift (d.l?.map fun l => cutD l x y) w3 := rfl
@[simp] theorem mRevL_ap (a : W → R D) : mRevL a w = (a w).bind fun d w1 => R.lift (d.l?.map List.reverse) w1 := rfl
@[simp] theorem mRevT_ap (a : W → R D) : mRevT a w = (a w).bind fun d w1 => R.lift (d.t?.map fun l => .tup l.reverse) w1 := rfl
@[simp] theorem mCat_ap (a b : W → R D) : mCat a b w = (a w).bind fun x w1 => (b w1).bind fun y w2 => R.lift (match x, y with | .lst a, .lst b => if a.length + b.length ≤ 1000000 then some (a ++ b) else none | _, _ => none) w2 := rfl
@[simp] theorem mP_ap (a : W → R D) : mP a w = (a w).bind fun d w1 => R.lift (d.i?.map some) w1 := rfl
@[simp] theorem mNoP_ap : mNoP w = .ok none w := rfl
@[simp] theorem mItems_ap (a : W → R D) : mItems a w = (a w).bind fun d w1 => R.lift d.items w1 := rfl
@[simp] theorem mListOf_ap (a : W → R D) : mListOf a w = (a w).bind fun d w1 => R.lift d.seq? w1 := rfl
@[simp] theorem mRng1_ap (a : W → R (List D)) : mRng1 a w = (a w).bind fun ds w1 => R.lift (match ds with | [.int b] => if small b = true then some (rngD 0 b) else none | _ => none) w1 := rfl
@[simp] theorem mRng2_ap (a : W → R (List D)) : mRng2 a w = (a w).bind fun ds w1 => R.lift (match ds with | [.int a, .int b] => if (small a && small b) = true then some (rngD a b) else none | _ => none) w1 := rfl
@[simp] theorem mLc_ap (vs : List Nat) (mi : W → R (List D)) (set : D → W → Option W) (mt : W → R Bool) (me : W → R D) : mLc vs mi set mt me w = (mi w).bind fun ds w1 =>
  (lcGo vs set mt me ds [] { w1 with env := wipeE w1.env vs }).bind fun acc w2 => .ok acc { w2 with env := resE w1.env w2.env vs } := rfl
@[simp] theorem lcGo_nil (vs : List Nat) (set : D → W → Option W) (mt : W → R Bool) (me : W → R D) (acc : List D) : lcGo vs set mt me [] acc w = .ok acc w := rfl
theorem lcGo_cons (vs : List Nat) (set : D → W → Option W) (mt : W → R Bool) (me : W → R D) (d : D) (ds acc : List D) : lcGo vs set mt me (d :: ds) acc w = match set d w with
    | none => .stuck
    | some w1 => (mt w1).nox.bind fun b w2 => if b = true then (me w2).nox.bind fun y w3 => if acc.length < 1000000 then lcGo vs set mt me ds (acc ++ [y]) { w3 with env := wipeE w3.env vs } else .stuck
      else lcGo vs set mt me ds acc { w2 with env := wipeE w2.env vs } := rfl
@[simp] theorem nox_okk {α : Type} (a : α) : (R.ok a w).nox = .ok a w := rfl
@[simp] theorem mYes_ap : mYes w = .ok true w := rfl
@[simp] theorem gsName_ap (i : Nat) (d : D) : gsName i d ⟨env, ss⟩ = some ⟨env.set i (some (.val d)), ss⟩ := rfl
@[simp] theorem gsTup_ap (n : Nat) (t : List D → W → Option W) (ds : List D) : gsTup n t (.tup ds) w = if ds.length = n then t ds w else none := rfl
@[simp] theorem gsCons_ap (s : D → W → Option W) (t : List D → W → Option W) (d : D) (ds : List D) : gsCons s t (d :: ds) w = (s d w).bind (t ds) := rfl
@[simp] theorem gsNil_ap : gsNil [] w = some w := rfl
@[simp] theorem wipeE_nil : wipeE env [] = env := rfl
@[simp] theorem wipeE_cons (v : Nat) (vs : List Nat) : wipeE env (v :: vs) = (wipeE env vs).set v none := rfl
@[simp] theorem resE_nil (e0 : Env) : resE e0 env [] = env := rfl
@[simp] theorem resE_cons (e0 : Env) (v : Nat) (vs : List Nat) : resE e0 env (v :: vs) = (resE e0 env vs).set v (match e0[v]? with | some (some (.val d)) => some (.val d) | _ => none) := rfl
@[simp] theorem sNil_ap : sNil w = .nx w := rfl
@[simp] theorem sCons_ap (a b : W → RS) : sCons a b w = (a w).bind b := rfl
@[simp] theorem sSet_ap (i : Nat) (m : W → R D) : sSet i m w = (m w).toS fun d w' => .nx { w' with env := w'.env.set i (some (.val d)) } := rfl
@[simp] theorem sSetF_ap (i : Nat) (m : W → R (List D)) : sSetF i m w = (m w).toS fun xs w' => .nx { w' with env := w'.env.set i (some (.own xs)) } := rfl
@[simp] theorem sAsg_ap (set : D → W → Option W) (m : W → R D) : sAsg set m w = (m w).toS fun d w' => oS (set d w') .nx := rfl
@[simp] theorem oS_some {α : Type} (a : α) (k : α → RS) : oS (some a) k = k a := rfl
@[simp] theorem oS_none {α : Type} (k : α → RS) : oS (none : Option α) k = .stuck := rfl
@[simp] theorem sPar_ap (i j : Nat) (m : W → R (List D)) : sPar i j m w = (m w).toS fun ds w' => match ds with
  | [d, e] => .nx { w' with env := (w'.env.set i (some (.val d))).set j (some (.val e)) }
  | _ => .stuck := rfl
@[simp] theorem sAug_ap (i : Nat) (g : D → D → Option D) (m : W → R D) : sAug i g m w = match w.env[i]? with
  | some (some (.val x)) => (m w).toS fun y w' => oS (g x y) fun z => .nx { w' with env := w'.env.set i (some (.val z)) }
  | _ => .stuck := rfl
@[simp] theorem sExpr_ap (m : W → R D) : sExpr m w = (m w).toS fun _ w' => .nx w' := rfl
@[simp] theorem sApp_ap (i : Nat) (m : W → R D) : sApp i m w = match w.env[i]? with
  | some (some (.own _)) => (m w).toS fun d w' => match w'.env[i]? with
    | some (some (.own xs)) => if xs.length < 1000000 then .nx { w' with env := w'.env.set i (some (.own (xs ++ [d]))) } else .stuck
    | _ => .stuck
  | _ => .stuck := rfl
@[simp] theorem sExt_ap (i : Nat) (m : W → R D) : sExt i m w = match w.env[i]? with
  | some (some (.own _)) => (m w).toS fun d w' => match w'.env[i]?, d.seq? with
    | some (some (.own xs)), some ys => if xs.length + ys.length ≤ 1000000 then .nx { w' with env := w'.env.set i (some (.own (xs ++ ys))) } else .stuck
    | _, _ => .stuck
  | _ => .stuck := rfl
@[simp] theorem sPop_ap (i : Nat) (set : D → W → Option W) : sPop i set w = match w.env[i]? with
  | some (some (.own xs)) => oS (xs[xs.length - 1]?) fun d => oS (set d { w with env := w.env.set i (some (.own xs.dropLast)) }) .nx
  | _ => .stuck := rfl
@[simp] theorem sIf_ap (t : W → R Bool) (a b : W → RS) : sIf t a b w = (t w).toS fun c w' => if c = true then a w' else b w' := rfl
@[simp] theorem sRet_ap (m : W → R D) : sRet m w = (m w).toS fun d w' => .ret d w' := rfl
@[simp] theorem sRetN_ap : sRetN w = .ret .non w := rfl
@[simp] theorem sFor_ap (mi : W → R (List D)) (set : D → W → Option W) (body : W → RS) : sFor mi set body w = (mi w).toS fun ds w1 => sForGo set body ds w1 := rfl
@[simp] theorem sForGo_nil (set : D → W → Option W) (body : W → RS) : sForGo set body [] w = .nx w := rfl
/-- one turn's outcome handed on -/
def RS.loop (r : RS) (k : W → RS) : RS := match r with
  | .nx w2 => k w2
  | .cnt w2 => k w2
  | .brk w2 => .nx w2
  | r => r
@[simp] theorem RS.loop_nx (k : W → RS) : (RS.nx w).loop k = k w := rfl
@[simp] theorem RS.loop_cnt (k : W → RS) : (RS.cnt w).loop k = k w := rfl
@[simp] theorem RS.loop_brk (k : W → RS) : (RS.brk w).loop k = .nx w := rfl
@[simp] theorem RS.loop_ret (d : D) (k : W → RS) : (RS.ret d w).loop k = .ret d w := rfl
@[simp] theorem RS.loop_exc (c : Exn) (k : W → RS) : (RS.exc c w).loop k = .exc c w := rfl
@[simp] theorem RS.loop_stuck (k : W → RS) : RS.stuck.loop k = .stuck := rfl
theorem sForGo_cons (set : D → W → Option W) (body : W → RS) (d : D) (ds : List D) : sForGo set body (d :: ds) w = oS (set d w) fun w1 => (body w1).loop (sForGo set body ds) := by
  show oS _ _ = _
  congr 1
theorem sWhGo_succ (t : W → R Bool) (body : W → RS) (n : Nat) : sWhGo t body (n + 1) w = (t w).toS fun c w1 => if c = true then (body w1).loop (sWhGo t body n) else .nx w1 := by
  show R.toS _ _ = _
  congr 1
@[simp] theorem fnM_ap (n : Nat) (m : W → RS) (ds : List D) : fnM n m ds ss = (m ⟨startE n ds, ss⟩).fin := rfl
@[simp] theorem fin_ret (d : D) : (RS.ret d w).fin = .ok d w.ss := rfl
@[simp] theorem fin_nx : (RS.nx w).fin = .ok .non w.ss := rfl
@[simp] theorem fin_exc (c : Exn) : (RS.exc c w).fin = .exc c w.ss := rfl
@[simp] theorem startE_ap (n : Nat) (ds : List D) : startE n ds = ds.map (fun d => some (.val d)) ++ List.replicate (n - ds.length) none := rfl
@[simp] theorem gAdd_int (a b : Int) : gAdd (.int a) (.int b) = some (.int (a + b)) := rfl
@[simp] theorem gAdd_tup (a b : List D) : gAdd (.tup a) (.tup b) = if a.length + b.length ≤ 1000000 then some (.tup (a ++ b)) else none := rfl
@[simp] theorem gAddI_int (a b : Int) : gAddI (.int a) (.int b) = some (.int (a + b)) := rfl
@[simp] theorem gSub_int (a b : Int) : TD.gSub (.int a) (.int b) = some (.int (a - b)) := rfl
@[simp] theorem gMul_int (a b : Int) : gMul (.int a) (.int b) = if mulOk a b = true then some (.int (a * b)) else none := rfl
@[simp] theorem gDiv_int (a b : Int) : gDiv (.int a) (.int b) = if divOk b = true then some (.int (a / b)) else none := rfl
@[simp] theorem gMod_int (a b : Int) : gMod (.int a) (.int b) = if 0 < b then some (.int (a % b)) else none := rfl
@[simp] theorem gNeg_int (a : Int) : gNeg (.int a) = some (.int (-a)) := rfl
@[simp] theorem gLt_int (a b : Int) : gLt (.int a) (.int b) = some (.bl (decide (a < b))) := rfl
@[simp] theorem gLe_int (a b : Int) : gLe (.int a) (.int b) = some (.bl (decide (a ≤ b))) := rfl
@[simp] theorem gGt_int (a b : Int) : gGt (.int a) (.int b) = some (.bl (decide (b < a))) := rfl
@[simp] theorem gGe_int (a b : Int) : gGe (.int a) (.int b) = some (.bl (decide (b ≤ a))) := rfl
@[simp] theorem gIx_tup (l : List D) (i : Int) : gIx (.tup l) (.int i) = atI l i := rfl
@[simp] theorem gIx_lst (l : List D) (i : Int) : gIx (.lst l) (.int i) = atI l i := rfl
@[simp] theorem b_bl (b : Bool) : (D.bl b).b? = some b := rfl
@[simp] theorem tru_bl (b : Bool) : (D.bl b).tru = some b := rfl
@[simp] theorem tru_int (i : Int) : (D.int i).tru = some (i != 0) := rfl
@[simp] theorem tru_tup (l : List D) : (D.tup l).tru = some (!l.isEmpty) := rfl
@[simp] theorem tru_lst (l : List D) : (D.lst l).tru = some (!l.isEmpty) := rfl
@[simp] theorem tru_non : D.non.tru = some false := rfl
@[simp] theorem items_tup (l : List D) : (D.tup l).items = some l := rfl
@[simp] theorem items_lst (l : List D) : (D.lst l).items = some l := rfl
@[simp] theorem seq_tup (l : List D) : (D.tup l).seq? = some l := rfl
@[simp] theorem seq_lst (l : List D) : (D.lst l).seq? = some l := rfl
@[simp] theorem t_tup (l : List D) : (D.tup l).t? = some l := rfl
@[simp] theorem l_lst (l : List D) : (D.lst l).l? = some l := rfl
@[simp] theorem i_int (i : Int) : (D.int i).i? = some i := rfl
@[simp] theorem flat_int (i : Int) : (D.int i).flat = true := rfl
@[simp] theorem flat_bl (b : Bool) : (D.bl b).flat = true := rfl
@[simp] theorem flat_str (x : Str) : (D.str x).flat = true := rfl
@[simp] theorem flat_non : D.non.flat = true := rfl
@[simp] theorem flat_tup (l : List D) : (D.tup l).flat = false := rfl
@[simp] theorem flat_lst (l : List D) : (D.lst l).flat = false := rfl
@[simp] theorem gLen_tup (l : List D) : gLen [.tup l] = some (.int l.length) := rfl
@[simp] theorem gLen_lst (l : List D) : gLen [.lst l] = some (.int l.length) := rfl
@[simp] theorem gTuple_tup (l : List D) : gTuple [.tup l] = some (.tup l) := rfl
@[simp] theorem gTuple_lst (l : List D) : gTuple [.lst l] = some (.tup l) := rfl
@[simp] theorem gInt_int (i : Int) : gInt [.int i] = some (.int i) := rfl
@[simp] theorem gAbs_int (i : Int) : gAbs [.int i] = some (.int (if i < 0 then -i else i)) := rfl
@[simp] theorem gMax_2 (i j : Int) : gMax [.int i, .int j] = some (.int (if j > i then j else i)) := rfl
theorem small_eq (i : Int) : (small i = true) = (-(2 ^ 62) ≤ i ∧ i < 2 ^ 62) := by simp [small]
end
section
open D
@[simp] theorem isi_int_int (i : Int) : (D.int i).isi "int" = some true := by show kitB "int" "int" = _; decide +kernel
@[simp] theorem isi_bl_int (b : Bool) : (D.bl b).isi "int" = some true := by show kitB "bool" "int" = _; decide +kernel
@[simp] theorem isi_str_int (x : Str) : (D.str x).isi "int" = some false := by show kitB "str" "int" = _; decide +kernel
@[simp] theorem isi_non_int : D.non.isi "int" = some false := by show kitB "NoneType" "int" = _; decide +kernel
@[simp] theorem isi_tup_int (l : List D) : (D.tup l).isi "int" = some false := by show kitB "tuple" "int" = _; decide +kernel
@[simp] theorem isi_lst_int (l : List D) : (D.lst l).isi "int" = some false := by show kitB "list" "int" = _; decide +kernel
@[simp] theorem isi_int_bool (i : Int) : (D.int i).isi "bool" = some false := by show kitB "int" "bool" = _; decide +kernel
@[simp] theorem isi_bl_bool (b : Bool) : (D.bl b).isi "bool" = some true := by show kitB "bool" "bool" = _; decide +kernel
@[simp] theorem isi_str_bool (x : Str) : (D.str x).isi "bool" = some false := by show kitB "str" "bool" = _; decide +kernel
@[simp] theorem isi_non_bool : D.non.isi "bool" = some false := by show kitB "NoneType" "bool" = _; decide +kernel
@[simp] theorem isi_tup_bool (l : List D) : (D.tup l).isi "bool" = some false := by show kitB "tuple" "bool" = _; decide +kernel
@[simp] theorem isi_lst_bool (l : List D) : (D.lst l).isi "bool" = some false := by show kitB "list" "bool" = _; decide +kernel
@[simp] theorem isi_int_tuple (i : Int) : (D.int i).isi "tuple" = some false := by show kitB "int" "tuple" = _; decide +kernel
@[simp] theorem isi_bl_tuple (b : Bool) : (D.bl b).isi "tuple" = some false := by show kitB "bool" "tuple" = _; decide +kernel
@[simp] theorem isi_str_tuple (x : Str) : (D.str x).isi "tuple" = some false := by show kitB "str" "tuple" = _; decide +kernel
@[simp] theorem isi_non_tuple : D.non.isi "tuple" = some false := by show kitB "NoneType" "tuple" = _; decide +kernel
@[simp] theorem isi_tup_tuple (l : List D) : (D.tup l).isi "tuple" = some true := by show kitB "tuple" "tuple" = _; decide +kernel
@[simp] theorem isi_lst_tuple (l : List D) : (D.lst l).isi "tuple" = some false := by show kitB "list" "tuple" = _; decide +kernel
@[simp] theorem isi_int_list (i : Int) : (D.int i).isi "list" = some false := by show kitB "int" "list" = _; decide +kernel
@[simp] theorem isi_bl_list (b : Bool) : (D.bl b).isi "list" = some false := by show kitB "bool" "list" = _; decide +kernel
@[simp] theorem isi_str_list (x : Str) : (D.str x).isi "list" = some false := by show kitB "str" "list" = _; decide +kernel
@[simp] theorem isi_non_list : D.non.isi "list" = some false := by show kitB "NoneType" "list" = _; decide +kernel
@[simp] theorem isi_tup_list (l : List D) : (D.tup l).isi "list" = some false := by show kitB "tuple" "list" = _; decide +kernel
@[simp] theorem isi_lst_list (l : List D) : (D.lst l).isi "list" = some true := by show kitB "list" "list" = _; decide +kernel
@[simp] theorem isi_str_str (x : Str) : (D.str x).isi "str" = some true := by show kitB "str" "str" = _; decide +kernel
end
end TD

set_option Elab.async false
set_option linter.all false
set_option maxRecDepth 100000
set_option maxHeartbeats 4000000
namespace TD
open PySem PySem.Spec PyProof.Rows L2
open PySem.W (ksFn ksEnv)
/-! ### an own error whose __init__ says super().__init__(text) and stores one field -/
def eArgs (a1 a2 : PySem.Arg) : Arguments := { posonlyargs := [], args := [a1, a2], vararg := none, kwonlyargs := [], kw_defaults := [], kwarg := none, defaults := [] }
structure EPos where
  p0 : Pos
  p1 : Pos
  p2 : Pos
  p3 : Pos
  p4 : Pos
  p5 : Pos
  q1 : Pos
  q2 : Pos
  q3 : Pos
  q4 : Pos
  k : Nat
def eBody (msg fld : Str) (z : EPos) : List Stmt :=
  [.Expr (.Call (.Attribute (.Call (.Name "super" z.p0) [] [] z.p1) "__init__" z.p2) [.Constant (.str msg) z.k z.p3] [] z.p4) z.p5, .Assign [.Attribute (.Name "self" z.q1) fld z.q2] (.Name fld z.q3) z.q4]
structure OwnE (P : Program) (K : PySem.W.Frag) (mg : Str → Option Value) (nm qual msg fld : Str) (C fI cc cda : Addr) (a1 a2 : PySem.Arg) (z : EPos) (scope : Scope) : Prop where
  T : OexC K C
  gC : mg nm = some (.ref C)
  iC : PySem.W.findIn K (.ref C) "__init__" = some (some (.ref fI))
  tI : PySem.W.typeIn K (.ref fI) = some (.type "function")
  no : PySem.W.findIn K (.ref C) fld = some none
  fn : ∃ (oc : Value) (od : Option Addr) (doc pm : Value) (an : Option Addr) (ct : Value) (osl : Array (Option Value)), K.lookup fI = some ⟨oc, od, .func (ksFn "__init__" qual (eArgs a1 a2) (eBody msg fld z) scope .none .none doc pm an (.ref cda) ct cc), osl⟩
  code : PySem.W.codeIn K (.ref cda) qual = true
  cdo : ∃ (ccl : Value) (cdd : Option Addr) (vs : Array Value) (ccs : Array (Option Value)) (file : Str) (tf : Tok), K.lookup cda = some ⟨ccl, cdd, .fields vs, ccs⟩ ∧ vs[2]? = some (.str file tf) ∧ ((P.main.file : Str) == file) = true
  cell : ∃ (cl : Value) (cld : Option Addr) (csl : Array (Option Value)), K.lookup cc = some ⟨cl, cld, .cell (some (.ref C)), csl⟩
  sup : PySem.W.ks_superIn K C C "__init__" = some (some (.builtin "ValueError.__init__"))
  subV : PySem.W.subIn K (.ref C) (.type "ValueError") = some true
  mroC : PySem.W.mroIn K C (.ref C) = some true
  nosup : mg "super" = none
  third : PySem.W.nsIn K cStatics "thirdparty.any" = some none
  top : (P.main.scope.names.lookup ("super" : Str)).isSome = false
  arg1 : a1.arg = "self"
  arg2 : a2.arg = fld
  sc : NdefX.NScope ["self", fld, "__class__"] ["self", fld] ["__class__"] scope
  dbg : (fld == ("__debug__" : Str)) = false
  scs : scope.names.lookup ("super" : Str) = some .globalImplicit
/-- what the kernel reads off the body's words -/
structure OwnB (qual msg fld : Str) (fI cc cda : Addr) (a1 a2 : PySem.Arg) (z : EPos) (scope : Scope) : Prop where
  bd : ∀ (doc pm : Value) (an : Option Addr) (ct u1 u2 : Value), bindArgs (ksFn "__init__" qual (eArgs a1 a2) (eBody msg fld z) scope .none .none doc pm an (.ref cda) ct cc) ⟨[u1, u2], []⟩ = pure ([("self", u1), (fld, u2)] : List (Str × Value))
  hi : ∀ L, interactive (NdefX.envF (⟨"__init__", qual, eArgs a1 a2, eBody msg fld z, scope, [("__class__", cc)], cda⟩ : NdefX.NF) fI L) = false
  sw : ∀ L, swapsWith (.Call (.Attribute (.Call (.Name "super" z.p0) [] [] z.p1) "__init__" z.p2) [.Constant (.str msg) z.k z.p3] [] z.p4) none z.p5.line (NdefX.envF (⟨"__init__", qual, eArgs a1 a2, eBody msg fld z, scope, [("__class__", cc)], cda⟩ : NdefX.NF) fI L) = pure false
  he : ∀ L, ∃ pl, eval (.Call (.Attribute (.Call (.Name "super" z.p0) [] [] z.p1) "__init__" z.p2) [.Constant (.str msg) z.k z.p3] [] z.p4) (NdefX.envF (⟨"__init__", qual, eArgs a1 a2, eBody msg fld z, scope, [("__class__", cc)], cda⟩ : NdefX.NF) fI L) = (do
      let ov ← attributeBase (.Call (.Name "super" z.p0) [] [] z.p1) "__init__" (NdefX.envF (⟨"__init__", qual, eArgs a1 a2, eBody msg fld z, scope, [("__class__", cc)], cda⟩ : NdefX.NF) fI L) (eval (.Call (.Name "super" z.p0) [] [] z.p1) (NdefX.envF (⟨"__init__", qual, eArgs a1 a2, eBody msg fld z, scope, [("__class__", cc)], cda⟩ : NdefX.NF) fI L))
      standAt z.p2.atName
      let (f, first) ← holding [ov] (getMethod ov "__init__" pl)
      callWith z.p4 f first (backTo z.p4 (starEach [.Constant (.str msg) z.k z.p3] (NdefX.envF (⟨"__init__", qual, eArgs a1 a2, eBody msg fld z, scope, [("__class__", cc)], cda⟩ : NdefX.NF) fI L))) [])
/-- what __init__ promises -/
def spInit (C : Addr) (fld : Str) : Sp := fun vs H Q _ => ∃ (a : Addr) (v : V), vs = [.ref a, v] ∧ H a = some (exo a C none) ∧ ∀ dx, H dx = none → dx ≠ a → Q .non (upd (upd H dx (exd dx [(fld, v)])) a (exo a C (some dx)))
section
variable {P : Program} {w : World} {K : PySem.W.Frag} {mg : Str → Option Value} {base : Heap} {CX : CXT} {nm qual msg fld : Str} {C fI cc cda : Addr} {a1 a2 : PySem.Arg} {z : EPos} {scope : Scope}
abbrev OwnE.F (qual msg fld : Str) (cc cda : Addr) (a1 a2 : PySem.Arg) (z : EPos) (scope : Scope) : NdefX.NF := ⟨"__init__", qual, eArgs a1 a2, eBody msg fld z, scope, [("__class__", cc)], cda⟩
theorem own_init (O : OwnE P K mg nm qual msg fld C fI cc cda a1 a2 z scope) (B : OwnB qual msg fld fI cc cda a1 a2 z scope) : ∃ fd : FuncData, FnOk P w K mg base CX 1 fI fd ["self", fld] (spInit C fld) ∧ Binds K fd ["self", fld] [] := by
  obtain ⟨oc, od, doc, pm, an, ct, osl, lk⟩ := O.fn
  obtain ⟨ccl, cdd, vc, ccs, file, tf, lc, hvs, hfile⟩ := O.cdo
  obtain ⟨cl, cld, csl, lcell⟩ := O.cell
  refine ⟨ksFn "__init__" qual (eArgs a1 a2) (eBody msg fld z) scope .none .none doc pm an (.ref cda) ct cc, ⟨fun vs H Q E ⟨a, v, e, _⟩ => by rw [e]; rfl, fun A outer s H args us vs Q E hr e0 hb r hsp => ?_⟩, ?_⟩
  rotate_left
  · intro s us hk hl
    rw [List.append_nil] at hl ⊢
    refine .of_eq ?_
    match us, hl with
    | [u1, u2], _ =>
      exact B.bd doc pm an ct u1 u2
  obtain ⟨a, v, rfl, ha, q⟩ := hsp
  cases r with
  | @cons _ u1 _ ur ra rw' =>
  cases rw' with
  | @cons _ u2 _ ur2 rv rn =>
  cases rn
  obtain rfl : u1 = Value.ref a := ra
  have hne : fld ≠ "self" := fun e => by have := O.sc.nd; rw [e] at this; simp at this
  have hne' : (("self" : Str) == fld) = false := by simpa using Ne.symm hne
  have lk1 : List.lookup ("self" : Str) ((["self", fld] : List Str).zip [Value.ref a, u2]).reverse = some (.ref a) := by simp [List.lookup, hne']
  have lk2 : List.lookup fld ((["self", fld] : List Str).zip [Value.ref a, u2]).reverse = some u2 := by simp [List.lookup]
  have KX : K.In s.heap := e0.mod.kin.keeps fun b o e => (e0.bs b o e).1
  have lim : s.heap.NoLimit := e0.mod.nolimit.keeps fun b o e => (e0.bs b o e).1
  have hcell := KX _ _ lcell
  have hcellH : H cc = none := (e0.bs _ _ (e0.mod.kin _ _ lcell)).2
  have hC0 : NdefX.CellsAt [("__class__", cc)] ["__class__"] [some (.ref C)] s.heap H := by
    refine ⟨rfl, fun y c e => ?_, fun x y c e1 e2 => ?_, fun i y e => ?_⟩
    · have hy : y = "__class__" := by
        by_cases hy : y = "__class__"
        · exact hy
        · have : (y == ("__class__" : Str)) = false := by simpa using hy
          simp [List.lookup, this] at e
      subst hy
      have : cc = c := by simpa [List.lookup] using e
      subst this
      exact ⟨hcellH, some (.ref C), _, hcell, rfl⟩
    · have hh : ∀ y : Str, ∀ c, List.lookup y [(("__class__" : Str), cc)] = some c → y = "__class__" := fun y c e => by
        by_cases hy : y = "__class__"
        · exact hy
        · have : (y == ("__class__" : Str)) = false := by simpa using hy
          simp [List.lookup, this] at e
      rw [hh x c e1, hh y c e2]
    · match i, e with
      | 0, e =>
        cases e
        exact ⟨cc, by simp [List.lookup], fun v hv => by cases hv; exact ⟨.ref C, rfl, _, hcell, rfl⟩⟩
  refine PySem.ks_codeAny_call_defAt (fd := ksFn "__init__" qual (eArgs a1 a2) (eBody msg fld z) scope .none .none doc pm an (.ref cda) ct cc) (body := eBody msg fld z) (binds := (["self", fld] : List Str).zip [.ref a, u2]) hr.depth (KX _ _ lk) rfl lim (PySem.W.codeRec_of KX O.code) rfl hb
    (fun y hy => O.sc.nocell y hy) (fun y hy => O.sc.par y.1 (List.of_mem_zip hy).1) (fun h₁ hns kp => ?_) O.sc.co O.sc.gen O.sc.kind
  have I := NdefX.inv_startN (CX := CX) (P := P) (w := w) (F := OwnE.F qual msg fld cc cda a1 a2 z scope) (f := fI) (A := A) (outer := outer) (H := H) (E := E) (us := [.ref a, u2]) (vs := [.ref a, v]) (ws := [some (.ref C)]) (tk := s.toks + 2) O.sc hr.hd e0 rfl (.cons rfl (.cons rv .nil)) hC0 hns kp
  show _root_.PySem.wpAt _ _ (.func (eBody msg fld z) (NdefX.envF (OwnE.F qual msg fld cc cda a1 a2 z scope) fI s.heap.objs.size)) (execs (eBody msg fld z) (NdefX.envF (OwnE.F qual msg fld cc cda a1 a2 z scope) fI s.heap.objs.size)) _ _ _
  obtain ⟨pl, hpl⟩ := B.he s.heap.objs.size
  refine PySem.ks_wpAt_execs_cons (PySem.ks_wpAt_Expr_any (PySem.ks_wpAt_MethodCall (pl := pl) ?_ hpl) (B.hi _) (B.sw _))
  refine PySem.ks_wpAt_super_base (of := ⟨oc, od, .func (ksFn "__init__" qual (eArgs a1 a2) (eBody msg fld z) scope .none .none doc pm an (.ref cda) ct cc), osl⟩) (ar := a1) (vs := vc) (tf := tf) O.scs (O.sc.frk _ (List.mem_cons_self ..)) (by decide) rfl (kp _ _ (KX _ _ lk)) rfl rfl rfl (kp _ _ (KX _ _ lc)) rfl hvs hfile O.top ?_
  refine PySem.W.ks_loadName_global O.sc.kind O.scs ?_
  obtain ⟨mb, b1, b2⟩ := I.mod.blt
  refine PySem.Calls.loadGlobal_builtin (by exact I.mod.glob.keeps I.bk) O.nosup (by exact b1.keeps I.bk) ((b2 "super" (by decide)).trans (show bootBuiltins "super" = some (.type "super") by kernel_rfl)) ⟨rfl, ?_⟩
  refine wpAny_loadName_free O.sc.kind (O.sc.frk _ (List.mem_cons_self ..)) rfl ⟨_, kp _ _ hcell, rfl⟩ ?_
  rw [O.arg1]
  refine wpAny_loadName_local O.sc.kind (O.sc.par "self" (List.mem_cons_self ..)) hns (v := .ref a) lk1 ?_
  obtain ⟨nmC, qC, NC, bs, bm, sn, sub, ab, col, dd, k0, k1, k2, k3, k5, hC, hbm⟩ := O.T.cls
  have hCls := I.kIn _ _ hC
  refine PySem.ks_wpAny_isType_cls hCls rfl ⟨rfl, ?_⟩
  obtain ⟨t1, hx⟩ := exo_at I.hok ha
  refine PySem.ks_wpAny_call_super hCls rfl hx rfl (fun c e => by cases e) (PySem.W.looks_mroIn I.kIn O.mroC) (fun h' hso k' => ?_)
  have I2 := I.kept (t' := s.toks + 2) k'
  have hx2 := k' _ _ hx
  have IA : PySem.W.InstAt h' a { cls := .ref C, dict := none, data := .fields #[.ref t1, .none, .none, .none, .bool false, .none] } C none := ⟨hx2, rfl, rfl, trivial⟩
  have hcd : PySem.W.clsIn K C = some { name := nmC, bases := bs, mro := .ref C :: bm, ns := NC, qualname := qC, hasDict := true, slotNames := sn, subclasses := sub, abstract := ab, collection := col, hasDel := false } := by unfold PySem.W.clsIn; rw [hC] <;> rfl
  have hsup := O.sup
  unfold PySem.W.ks_superIn at hsup
  rw [hcd] at hsup
  refine PySem.W.kxs_getMethod PySem.W.kxs_ValueError hso (PySem.W.looks_opaque I2.kIn O.third) (l₀ := .ref C :: bm) (fun A Q E s k q => wpAny_bind ((PySem.W.looks_clsIn I2.kIn hcd) A _ E s k (wpAny_pure q))) rfl I2.kIn hsup
    (IA.type.andThen (PySem.W.looks_subIn I2.kIn O.subV)) (PySem.W.ks_ne I2.kIn IA hcd) (by decide) ?_
  have I3 : L2.Inv _ _ _ _ _ := I2.kept (t' := s.toks + 3) (h' := h'.push (PySem.W.kxs_mw "ValueError.__init__" a)) (fun b u e => Heap.get?_push_of_some _ e)
  refine PySem.W.kxs_callWith (i := "ValueError.__init__") (x := a) (by rfl) (Calls.evalArgs_plain (Calls.spliced_cons (Calls.Constant_str (pos := z.p3) (k := z.k) (Calls.spliced_nil ⟨Heap.get?_push_size _ rfl, ?_⟩))))
  have hC3 := I3.kIn _ _ hC
  have hx3 : (h'.push (PySem.W.kxs_mw "ValueError.__init__" a)).get? a = some { cls := .ref C, dict := none, data := .fields #[.ref t1, .none, .none, .none, .bool false, .none] } := Heap.get?_push_of_some _ hx2
  have hu3 : (h'.push (PySem.W.kxs_mw "ValueError.__init__" a)).get? h'.objs.size = some (PySem.W.kxs_mw "ValueError.__init__" a) := Heap.get?_push_size _ rfl
  refine wpAny_call (codeAny_of_tree ?_)
  show wpAny _ _ (callAny (.ref h'.objs.size) ⟨_, []⟩) _ _ _
  simp only [callAny]
  refine wpAny_bind (wpAny_load hu3 ?_)
  simp only [PySem.W.kxs_mw, show (Value.type "method-wrapper" == Value.type "method" || Value.type "method-wrapper" == Value.type "builtin_function_or_method" || Value.type "method-wrapper" == Value.type "method-wrapper") = true by decide, if_true]
  refine PySem.W.KFB.if_so (by decide) ?_
  refine wpAny_bind (PySem.W.check_bound_init F.excBase_ValueError.toExcCallFacts hC3 hx3 rfl ?_)
  refine wpAny_bind (wpAny_pure (wpAny_pure ?_))
  refine ⟨plainId_quiet F.excBase_ValueError.init.plain _, codeAny_builtin F.excBase_ValueError.initEntry ?_⟩
  refine PySem.W.exc_init_tree (cls := .ref C) (t0 := t1) (dv := none) (c2 := .none) (c3 := .none) (b4 := .bool false) hx3 (by rw [sizeLine_eq]; exact (by decide : (1 : Nat) ≤ 16777216)) fun h4 k4 hx4 _ => ?_
  have I4 := I3.write (t' := s.toks + 4) (x := a) (e := a) (o := exo a C none) (by rw [ha]; exact True.intro) (.inl rfl) k4 ⟨_, hx4⟩ (exo_ok hx4)
  have eu : upd H a (exo a C none) = H := by
    funext b
    by_cases hb : b = a
    · rw [hb, upd_same, ha]
    · rw [upd_ne hb]
  rw [eu] at I4
  refine PySem.ks_wpAt_execs_cons (PySem.wpAt_of_wpAny ?_)
  have la : a < s.heap.objs.size := by
    obtain ⟨t0, hx0⟩ := exo_at e0.hok ha
    exact Heap.lt_size hx0
  have hns4 : h4.Ns s.heap.objs.size (fun x => List.lookup x ((["self", fld] : List Str).zip [Value.ref a, u2]).reverse) := by
    obtain ⟨oL, es, ep, hL, r⟩ := hns
    exact ⟨oL, es, ep, k4 _ _ (Nat.ne_of_gt la) (Heap.get?_push_of_some _ (k' _ _ hL)), r⟩
  refine plainObj_wpAny_Assign_Attribute (wpAny_Name (wpAny_loadName_local O.sc.kind (O.sc.par fld (List.mem_cons_of_mem _ (List.mem_cons_self ..))) hns4 (v := u2) lk2 (wpAny_Name (wpAny_loadName_local O.sc.kind (O.sc.par "self" (List.mem_cons_self ..)) hns4 (v := .ref a) lk1 (ost_new (X := NdefX.ncx CX P w K mg base ["self", fld, "__class__"] (OwnE.F qual msg fld cc cda a1 a2 z scope) fI A outer s H E) O.T I4 ha O.no rv fun dx s' n ne J => ?_)) (by decide))) O.dbg)
  show _root_.PySem.wpAt _ _ _ (execs [] _) _ _ _
  refine PySem.wpAt_of_wpAny (wpAny_execs_nil ?_)
  exact ⟨V.non, _, J.os, J.bare, J.base, J.hok, rfl, q dx n ne⟩
end
end TD

set_option Elab.async false
set_option linter.all false
set_option maxRecDepth 100000
set_option maxHeartbeats 4000000
namespace TD
open PySem PySem.Spec PyProof.Rows L2
/-- what is known of an own error: its class, its one field, its __init__ -/
structure Err (P : Program) (w : World) (K : PySem.W.Frag) (mg : Str → Option Value) (base : Heap) (nm fld : Str) : Prop where
  ex : ∃ (C fI : Addr) (fd : FuncData), mg nm = some (.ref C) ∧ OexC K C ∧ XCls K C fld ∧ PySem.W.findIn K (.ref C) "__init__" = some (some (.ref fI)) ∧ PySem.W.typeIn K (.ref fI) = some (.type "function") ∧
    FnOk P w K mg base (L2.CX P w) 1 fI fd ["self", fld] (spInit C fld) ∧ Binds K fd ["self", fld] []
def sRaise (nm fld : Str) (m : W → R (List D)) : W → RS := fun w => (m w).toS fun ds w' => match ds with
  | [d] => .exc ⟨nm, fld, d⟩ w'
  | _ => .stuck
section
variable {X : Cx} {Wx : WX} {fm : Fm}
theorem ss_raise {nm fld : Str} {e : Expr} {p pos pos2 : Pos} {m : W → R (List D)} (hc : X.calm = true) (tk : Takes X Wx) (O : Err X.prog X.w X.K X.mg X.base nm fld) (hr : Room 2 X.A) (hx : Passes (L2.CX X.prog X.w) X (fun _ _ _ => False)) (ha : SAs X Wx fm [e] m) (hg : Gl X nm := by rfl)
    (hdb : (nm == ("__debug__" : Str)) = false := by decide) (he : starEach (e :: []) X.env = (false, eval e X.env) :: starEach [] X.env := by rfl) (hpl : (backTo pos (starEach [] X.env)).any (·.1) = false := by rfl) :
    SSt X Wx fm (.Raise (some (.Call (.Name nm p) [e] [] pos)) none pos2) (sRaise nm fld m) := by
  refine ⟨?_⟩
  intro ex σ H F w D r q
  obtain ⟨C, fI, fd, gC, T, xK, iC, tI, F1, B1⟩ := O.ex
  refine WS.of (ps_raise hc tk (pmk_oex T iC tI F1 hr B1 .nil hx hg gC pa_wa hdb he hpl)) ?_
  show WA X [e] σ H _
  refine ha ex σ H F w _ r ((FinS.ofR q).imp fun ds w1 H1 F1 ⟨r1, e1, q1⟩ vs hv => ?_)
  match ds, q1, hv with
  | [d], q1, hv =>
    cases hv with
    | @cons v _ _ _ hv0 hv1 =>
      cases hv1
      refine ⟨by simp, fun a hna => ⟨a, v, rfl, upd_same, fun dx hdx hne => ⟨rfl, dx, [(fld, v)], upd_same, (upd_ne hne).trans upd_same, ?_, ?_⟩⟩⟩
      · rw [upd_ne hne] at hdx; exact hdx
      · have hd1 : H1 dx = none := by rw [upd_ne hne] at hdx; exact hdx
        have ng : fm.G dx = none := by
          cases e : fm.G dx with
          | none => rfl
          | some o =>
            have n : dx ≠ fm.a0 := fun z => by rw [z, r1.src.at0] at hd1; cases hd1
            rw [r1.gh dx o n e] at hd1; cases hd1
        have eH : upd (del (upd (upd (upd H1 a (exo a C none)) dx (exd dx [(fld, v)])) a (exo a C (some dx))) a) dx (.xd [(fld, v)]) = upd H1 dx (.xd [(fld, v)]) := by
          funext b
          by_cases hb : b = dx
          · subst hb; rw [upd_same, upd_same]
          · rw [upd_ne hb, upd_ne hb]
            by_cases hb2 : b = a
            · subst hb2; rw [del_same, hna]
            · rw [del_ne hb2, upd_ne hb2, upd_ne hb, upd_ne hb2]
        rw [eH]
        have g : Gr H1 F1 (upd H1 dx (.xd [(fld, v)])) F1 := ⟨Ex.new hd1, Ex.refl _, fun b o e => (Ex.new hd1) b o (r1.fh b o e), fun b o e => .inl e⟩
        exact q1 σ _ F1 (.ref C) (some dx) (Ex.refl _) (r1.gr g) ⟨C, dx, v, gC, rfl, rfl, upd_same, hv0, ng, xK⟩
end
end TD

set_option Elab.async false
set_option linter.all false
set_option maxRecDepth 100000
set_option maxHeartbeats 4000000
namespace TD
open PySem PySem.Spec PyProof.Rows L2
/-! ### try .. except C as x -/
def sLeave (i : Nat) : RS → RS
  | .nx w => .nx { w with env := (noX w.env).set i none }
  | .brk w => .brk { w with env := (noX w.env).set i none }
  | .cnt w => .cnt { w with env := (noX w.env).set i none }
  | .ret d w => .ret d { w with env := noX w.env }
  | _ => .stuck
def sTry (tab : Str → Option Bool) (i : Nat) (body suite : W → RS) : W → RS := fun w => match body w with
  | .exc c w1 => (match tab c.c with
    | some true => sLeave i (suite { w1 with env := (noX w1.env).set i (some (.exn c)) })
    | some false => .exc c w1
    | none => .stuck)
  | r => r
def sLeaveO : RS → RS
  | .nx w => .nx { w with env := noX w.env }
  | .brk w => .brk { w with env := noX w.env }
  | .cnt w => .cnt { w with env := noX w.env }
  | .ret d w => .ret d { w with env := noX w.env }
  | _ => .stuck
def sTryO (tab : Str → Option Bool) (body suite : W → RS) : W → RS := fun w => match body w with
  | .exc c w1 => (match tab c.c with
    | some true => sLeaveO (suite { w1 with env := noX w1.env })
    | some false => .exc c w1
    | none => .stuck)
  | r => r
/-- the classes of the law's errors: (class, class asked) ↦ is it under it -/
abbrev HxT := List ((Str × Str) × Bool)
def xT (hx : HxT) (y : Str) : Str → Option Bool := fun nm => hx.lookup (nm, y)
/-- the value cv is the class that y names -/
structure ClsV (K : PySem.W.Frag) (mg : Str → Option Value) (hx : HxT) (y : Str) (cv : Value) : Prop where
  exm : ∀ nm b C, xT hx y nm = some b → mg nm = some (.ref C) → PySem.W.exmOne K (.ref C) cv = some b
  kit : ∀ nm b C, xT hx y nm = some b → mg nm = some (.ref C) → PySem.W.kitOne K (.ref C) cv = some b
structure ClsK (K : PySem.W.Frag) (mg : Str → Option Value) (hx : HxT) (y : Str) : Prop where
  ex : ∃ T : Addr, mg y = some (.ref T) ∧ ClsV K mg hx y (.ref T)
structure ClsB (K : PySem.W.Frag) (mg : Str → Option Value) (hx : HxT) (y : Str) (T : String) : Prop where
  none : mg y = none
  kit : ∀ nm b C, xT hx y nm = some b → mg nm = some (.ref C) → PySem.W.kitOne K (.ref C) (.type T) = some b
/-- the suite's exception -/
structure InS (X : Cx) (fm : Fm) (oe : Obj) : Prop where
  z : Zc (.ref fm.xk) (some fm.xd) oe
  f : ∃ vs, oe.data = .fields vs
  g : X.mg fm.xc = some (.ref fm.xk)
section
variable {X : Cx} {Wx : WX} {fm : Fm}
theorem ss_try_as {i : Nat} {x n : Str} {body suite : List Stmt} {b₀ : Stmt} {np pos pos' : Pos} {hx : HxT} {mb ms : W → RS} (hs : X.stack = X.env :: X.outer) (hf : X.env.frame = some X.env.locals) (hN : X.N.Nodup) (hi : X.N[i]? = some n) (hln : X.env.kindOf n = some .local)
    (hc : ClsK X.K X.mg hx x) (hg : Gl X x) (hd : (x == ("__debug__" : Str)) = false) (tk : Takes X Wx)
    (hb : ∀ (Wt : WX) (pn : List (Addr × Obj)) (xe : Value → Shared → Prop), Takes (X.tr pn xe) Wt → PassesOwn (model X.prog X.w) X.A X.env xe → SSs (X.tr pn xe) Wt fm body mb)
    (hsu : ∀ (a d k : Addr) (c : Str) (oe : Obj) (pn : List (Addr × Obj)), InS X { fm with xa := a, xd := d, xc := c, xk := k } oe → SSs (X.suite a ((a, oe) :: pn)) W0 { fm with xa := a, xd := d, xc := c, xk := k } (b₀ :: suite) ms) :
    SSt X Wx fm (.Try body [.ExceptHandler (some (.Name x np)) (some n) (b₀ :: suite) pos'] [] [] pos) (sTry (xT hx x) i mb ms) := by
  obtain ⟨T, mT, cT⟩ := hc.ex
  refine ⟨?_⟩
  intro ex σ H F w D r q
  refine WS.of (ps_try_as (x := x) (c := .ref T) (i := i)
    (tb := fun Wt D σ H => ∀ (pn : List (Addr × Obj)) (xe : Value → Shared → Prop), Takes (X.tr pn xe) Wt → PassesOwn (model X.prog X.w) X.A X.env xe → WSs (X.tr pn xe) body D σ H)
    (ts := fun a cls d D σ H => ∀ (oe : Obj) (pn : List (Addr × Obj)), Zc cls d oe → (∃ vs, oe.data = .fields vs) → WSs (X.suite a ((a, oe) :: pn)) (b₀ :: suite) D σ H)
    hs hf hN hi hln ⟨hg, hd, .inl mT⟩ tk (fun Wt pn xe t p => ⟨fun pins s σ H D I h => h pn xe t p pins s I⟩) (fun a oe cls d pn hz hv => ⟨fun pins s σ H D I h => h oe pn hz hv pins s I⟩)) ?_
  intro pn xe t p
  refine hb _ pn xe t p ex σ H F w D r ?_
  revert q
  unfold sTry
  cases mb w with
  | nx w1 => exact fun q => q
  | brk w1 => exact fun q => q
  | cnt w1 => exact fun q => q
  | ret d w1 => exact fun q => q
  | stuck => exact fun q => q
  | exc c w1 =>
    intro q σ1 H1 F1 cls dd e1 r1 xi
    have r1 : Rel X.K fm ex σ1 H1 F1 w1 := r1
    obtain ⟨C, d, v, h1, h2, h3, h4, h5, h6, h7⟩ := id xi
    cases ht : xT hx x c.c with
    | none =>
      have q : FinS X Wx fm ex F D (match xT hx x c.c with
        | some true => sLeave i (ms { w1 with env := (noX w1.env).set i (some (.exn c)) })
        | some false => .exc c w1
        | none => .stuck) := q
      rw [ht] at q
      exact (show False from q).elim
    | some b =>
      refine ⟨b, ?_, fun hb1 a ha => ?_, fun hb0 => ?_⟩
      · rw [h2]; exact cT.exm _ _ _ ht h1
      · subst hb1
        have q : FinS X Wx fm ex F D (match xT hx x c.c with
          | some true => sLeave i (ms { w1 with env := (noX w1.env).set i (some (.exn c)) })
          | some false => .exc c w1
          | none => .stuck) := q
        rw [ht] at q
        have q : FinS X Wx fm ex F D (sLeave i (ms { w1 with env := (noX w1.env).set i (some (.exn c)) })) := q
        intro oe pn hz hv
        rw [h2, h3] at hz
        obtain ⟨F2, e2, h8, r2⟩ := (r1.enter a d c.c C).frzX h4 h6
        have r3 := r2.setX i (c := c) (vv := v) rfl h7 h8 (h5.ex e2)
        refine (hsu a d C c.c oe pn ⟨hz, hv, h1⟩) ex _ H1 F2 _ _ r3 ?_
        have eF : Ex F F2 := e1.trans e2
        revert q
        cases ms { w1 with env := (noX w1.env).set i (some (.exn c)) } with
        | nx w2 => exact fun q σ' H' F' e r => q _ H' F' (eF.trans e) (r.leave.setNone i none)
        | brk w2 => exact fun q σ' H' F' e r => q _ H' F' (eF.trans e) (r.leave.setNone i none)
        | cnt w2 => exact fun q σ' H' F' e r => q _ H' F' (eF.trans e) (r.leave.setNone i none)
        | ret d w2 => exact fun q v σ' H' F' e r k => q v σ' H' F' (eF.trans e) r.leave k
        | exc c w2 => exact fun q => (show False from q).elim
        | stuck => exact fun q => (show False from q).elim
      · subst hb0
        have q : FinS X Wx fm ex F D (match xT hx x c.c with
          | some true => sLeave i (ms { w1 with env := (noX w1.env).set i (some (.exn c)) })
          | some false => .exc c w1
          | none => .stuck) := q
        rw [ht] at q
        have q : FinS X Wx fm ex F D (.exc c w1) := q
        exact q σ1 H1 F1 cls dd e1 r1 xi
theorem ss_try_only {x : Str} {body suite : List Stmt} {b₀ : Stmt} {np pos pos' : Pos} {hx : HxT} {mb ms : W → RS} (hs : X.stack = X.env :: X.outer) (hf : X.env.frame = some X.env.locals)
    (hc : ClsK X.K X.mg hx x) (hg : Gl X x) (hd : (x == ("__debug__" : Str)) = false) (tk : Takes X Wx)
    (hb : ∀ (Wt : WX) (pn : List (Addr × Obj)) (xe : Value → Shared → Prop), Takes (X.tr pn xe) Wt → PassesOwn (model X.prog X.w) X.A X.env xe → SSs (X.tr pn xe) Wt fm body mb)
    (hsu : ∀ (a d k : Addr) (c : Str) (oe : Obj) (pn : List (Addr × Obj)), InS X { fm with xa := a, xd := d, xc := c, xk := k } oe → SSs (X.suite a ((a, oe) :: pn)) W0 { fm with xa := a, xd := d, xc := c, xk := k } (b₀ :: suite) ms) :
    SSt X Wx fm (.Try body [.ExceptHandler (some (.Name x np)) none (b₀ :: suite) pos'] [] [] pos) (sTryO (xT hx x) mb ms) := by
  obtain ⟨T, mT, cT⟩ := hc.ex
  refine ⟨?_⟩
  intro ex σ H F w D r q
  refine WS.of (ps_try_only (x := x) (c := .ref T)
    (tb := fun Wt D σ H => ∀ (pn : List (Addr × Obj)) (xe : Value → Shared → Prop), Takes (X.tr pn xe) Wt → PassesOwn (model X.prog X.w) X.A X.env xe → WSs (X.tr pn xe) body D σ H)
    (ts := fun a cls d D σ H => ∀ (oe : Obj) (pn : List (Addr × Obj)), Zc cls d oe → (∃ vs, oe.data = .fields vs) → WSs (X.suite a ((a, oe) :: pn)) (b₀ :: suite) D σ H)
    hs hf ⟨hg, hd, .inl mT⟩ tk (fun Wt pn xe t p => ⟨fun pins s σ H D I h => h pn xe t p pins s I⟩) (fun a oe cls d pn hz hv => ⟨fun pins s σ H D I h => h oe pn hz hv pins s I⟩)) ?_
  intro pn xe t p
  refine hb _ pn xe t p ex σ H F w D r ?_
  revert q
  unfold sTryO
  cases mb w with
  | nx w1 => exact fun q => q
  | brk w1 => exact fun q => q
  | cnt w1 => exact fun q => q
  | ret d w1 => exact fun q => q
  | stuck => exact fun q => q
  | exc c w1 =>
    intro q σ1 H1 F1 cls dd e1 r1 xi
    have r1 : Rel X.K fm ex σ1 H1 F1 w1 := r1
    obtain ⟨C, d, v, h1, h2, h3, h4, h5, h6, h7⟩ := id xi
    have q : FinS X Wx fm ex F D (match xT hx x c.c with
        | some true => sLeaveO (ms { w1 with env := noX w1.env })
        | some false => .exc c w1
        | none => .stuck) := q
    cases ht : xT hx x c.c with
    | none =>
      rw [ht] at q
      exact (show False from q).elim
    | some b =>
      refine ⟨b, ?_, fun hb1 a ha => ?_, fun hb0 => ?_⟩
      · rw [h2]; exact cT.exm _ _ _ ht h1
      · subst hb1
        rw [ht] at q
        have q : FinS X Wx fm ex F D (sLeaveO (ms { w1 with env := noX w1.env })) := q
        intro oe pn hz hv
        rw [h2, h3] at hz
        refine (hsu a d C c.c oe pn ⟨hz, hv, h1⟩) ex _ H1 F1 _ _ (r1.enter a d c.c C) ?_
        revert q
        cases ms { w1 with env := noX w1.env } with
        | nx w2 => exact fun q σ' H' F' e r => q _ H' F' (e1.trans e) r.leave
        | brk w2 => exact fun q σ' H' F' e r => q _ H' F' (e1.trans e) r.leave
        | cnt w2 => exact fun q σ' H' F' e r => q _ H' F' (e1.trans e) r.leave
        | ret d w2 => exact fun q v σ' H' F' e r k => q v σ' H' F' (e1.trans e) r.leave k
        | exc c w2 => exact fun q => (show False from q).elim
        | stuck => exact fun q => (show False from q).elim
      · subst hb0
        rw [ht] at q
        have q : FinS X Wx fm ex F D (.exc c w1) := q
        exact q σ1 H1 F1 cls dd e1 r1 xi
/-! ### in the suite -/
def mExf (i : Nat) (f : Str) : W → R D := fun w => match w.env[i]? with
  | some (some (.exn c)) => if c.f = f then .ok c.d w else .stuck
  | _ => .stuck
theorem se_exf {oe : Obj} {pn : List (Addr × Obj)} {i : Nat} {x f : Str} {p pos : Pos} (h : InS X fm oe) (hN : X.N[i]? = some x := by rfl) (hv : Vis X.env.scope x := by first | exact Or.inl rfl | exact Or.inr (Or.inl rfl) | exact Or.inr (Or.inr rfl)) (hd : (x == ("__debug__" : Str)) = false := by decide)
    (hcd : (x == ("__classdict__" : Str)) = false := by decide) (hb : attributeBase (.Name x p) f X.env (eval (.Name x p) X.env) = eval (.Name x p) X.env := by rfl) : SE (X.suite fm.xa ((fm.xa, oe) :: pn)) Wx fm (.Attribute (.Name x p) f pos) (mExf i f) := by
  refine ⟨?_⟩
  intro ex σ H F w Q r q
  revert q
  unfold mExf
  split
  · rename_i c hc
    by_cases hf : c.f = f
    · rw [if_pos hf]
      intro q
      obtain ⟨v, e, rfl, k1, k2, vv, k3, k4⟩ := r.slot i _ hc
      subst hf
      refine WE.of (pe_xf (X := X) (C := fm.xk) ⟨k2.ga, k2.gg, k2.exC, k2.hdC⟩ k2.no h.z h.f (pe_var (X := X.suite fm.xa ((fm.xa, oe) :: pn)) hN hv hd hcd) hb) ?_
      refine ⟨_, e, rfl, rfl, fm.xd, _, vv, rfl, r.fh _ _ k3, by simp [List.lookup], ?_⟩
      exact q H F Kp.refl (Ex.refl _) r vv k4
    · rw [if_neg hf]
      exact fun q => (show False from q).elim
  · exact fun q => (show False from q).elim
/-- isinstance(x, C) -/
def rIsX (K : PySem.W.Frag) (D a d : Addr) (P : V → Prop) : List V → Hp → VK → Prop := fun xs H Q => ∃ (c : V) (b : Bool), xs = [.ref a, c] ∧ (∃ fs, H d = some (.xd fs)) ∧ ((∃ cv : Value, (∀ u, RelV c u → u = cv) ∧ PySem.W.kitOne K (.ref D) cv = some b) ∨
  ∃ (p : Addr) (vs : List V) (cvs : List Value), c = .ref p ∧ SqT K H p vs ∧ (∀ us, Vals vs us → us = cvs) ∧ PySem.W.kitAny K (.ref D) cvs = some b) ∧ Q (.bl b) H
theorem call_isX {oe : Obj} {pn : List (Addr × Obj)} {f : Str} (C : XCls X.K fm.xk f) (h : InS X fm oe) : CallR (X.suite fm.xa ((fm.xa, oe) :: pn)) (.builtin "isinstance") (rIsX X.K fm.xk fm.xa fm.xd fun _ => True) := by
  intro pins s σ H xs us Q I r hh
  obtain ⟨c, b, rfl, ⟨fs, hd⟩, alt, q⟩ := hh
  cases r with
  | cons rx rr =>
    cases rr with
    | cons rt rr =>
      cases rr
      cases rx
      obtain ⟨hget, _⟩ := I.pin (fm.xa, oe) (List.mem_append.mpr (.inl List.mem_cons_self))
      obtain ⟨vs, hv⟩ := h.f
      have hxo : ObjOk X.prog X.w H s.heap fm.xd (.xd fs) := I.hok fm.xd _ hd
      obtain ⟨mA, hns, hr⟩ := hxo
      obtain ⟨oL, ho, hns2⟩ := lookIn_ns hns
      have J : PySem.W.InstAt s.heap fm.xa oe fm.xk (some oL) := ⟨hget, h.z.1, by unfold PySem.W.notCls; rw [hv] <;> rfl, by rw [h.z.2]; exact ho⟩
      obtain ⟨cd, hcd, _⟩ := PySem.W.any_some C.hdC
      have Z := PySem.W.kitx_exc (K := X.K) (x := fm.xa) (C := fm.xk) (ox := oe) (od := some oL) (by rw [hcd]; rfl) C.ga C.gg C.exC C.cl C.sp C.tk C.mo
      rcases alt with ⟨cv, hcv, e⟩ | ⟨p, vs, cvs, rfl, hq, hcv, e⟩
      · have ec := hcv _ rt
        subst ec
        exact PySem.W.kia_one Z I.kIn J e (fun z => nomatch z) fun tk => ⟨.bl b, H, I.kept (t' := tk) fun _ _ z => z, rfl, q⟩
      · cases rt
        obtain ⟨its, rr2, ht, hz⟩ := I.tuple hq
        obtain ⟨dd, n, sl, hg2⟩ : ∃ dd n sl, s.heap.get? p = some ⟨.type "tuple", dd, .seq its.toArray n, sl⟩ := by
          obtain ⟨⟨oc, od, odt, osl⟩, h1, h2, n, h3⟩ := ht
          dsimp only at h2 h3
          subst h2 h3
          exact ⟨_, _, _, h1⟩
        have ec := hcv _ rr2
        subst ec
        exact PySem.W.kia_tup Z I.kIn J hg2 e (fun z => nomatch z) fun tk => ⟨.bl b, H, I.kept (t' := tk) fun _ _ z => z, rfl, q⟩
def mIsX (i : Nat) (t : Str → Option Bool) : W → R D := fun w => match w.env[i]? with
  | some (some (.exn c)) => R.lift ((t c.c).map D.bl) w
  | _ => .stuck
def anyX : List (Str → Option Bool) → Str → Option Bool
  | [], _ => some false
  | t :: r, c => match t c with
    | some true => some true
    | some false => anyX r c
    | none => none
theorem se_isX {oe : Obj} {pn : List (Addr × Obj)} {i : Nat} {x y : Str} {hx : HxT} {p p1 p2 pos : Pos} (h : InS X fm oe) (hm : X.mg "isinstance" = none) (hc : ClsK X.K X.mg hx y) (hN : X.N[i]? = some x := by rfl)
    (hv : Vis X.env.scope x := by first | exact Or.inl rfl | exact Or.inr (Or.inl rfl) | exact Or.inr (Or.inr rfl)) (hd : (x == ("__debug__" : Str)) = false := by decide) (hcd : (x == ("__classdict__" : Str)) = false := by decide)
    (hg : Gl X "isinstance" := by rfl) (hgy : Gl X y := by rfl) (hdy : (y == ("__debug__" : Str)) = false := by decide) (he : starEach [.Name x p1, .Name y p2] X.env = (false, eval (.Name x p1) X.env) :: starEach [.Name y p2] X.env := by rfl)
    (he2 : starEach [.Name y p2] X.env = (false, eval (.Name y p2) X.env) :: starEach [] X.env := by rfl) (hpl : (backTo pos (starEach [.Name y p2] X.env)).any (·.1) = false := by rfl) :
    SE (X.suite fm.xa ((fm.xa, oe) :: pn)) Wx fm (.Call (.Name "isinstance" p) [.Name x p1, .Name y p2] [] pos) (mIsX i (xT hx y)) := by
  obtain ⟨T, mT, cT⟩ := hc.ex
  refine ⟨?_⟩
  intro ex σ H F w Q r q
  revert q
  unfold mIsX
  split
  · rename_i c hc
    intro q
    obtain ⟨v, e, rfl, k1, k2, vv, k3, k4⟩ := r.slot i _ hc
    have k1 : c.c = fm.xc := k1
    refine WE.of (pe_callB (X := X.suite fm.xa ((fm.xa, oe) :: pn)) (call_isX k2 h) hg hm (by decide +kernel) (pa_cons (pe_var (X := X.suite fm.xa ((fm.xa, oe) :: pn)) hN hv hd hcd) (pa_cons (pe_glob (X := X.suite fm.xa ((fm.xa, oe) :: pn)) (v := .ref T) hgy mT rfl hdy) pa_nil he2) he) (by decide) (by decide) he hpl) ?_
    obtain ⟨z, hz, q2⟩ := q.lift
    cases ht : xT hx y c.c with
    | none => rw [ht] at hz; cases hz
    | some b =>
      rw [ht] at hz
      cases hz
      exact ⟨_, e, .ref T, b, rfl, ⟨_, r.fh _ _ k3⟩, .inl ⟨.ref T, fun u hu => hu, cT.kit _ _ _ ht (by rw [k1]; exact h.g)⟩, q2 H F Kp.refl (Ex.refl _) r _ (.bl b)⟩
  · exact fun q => (show False from q).elim
theorem se_isXB {oe : Obj} {pn : List (Addr × Obj)} {i : Nat} {x y : Str} {T : String} {hx : HxT} {p p1 p2 pos : Pos} (h : InS X fm oe) (hm : X.mg "isinstance" = none) (hc : ClsB X.K X.mg hx y T) (hby : bootBuiltins y = some (.type T)) (hN : X.N[i]? = some x := by rfl)
    (hv : Vis X.env.scope x := by first | exact Or.inl rfl | exact Or.inr (Or.inl rfl) | exact Or.inr (Or.inr rfl)) (hd : (x == ("__debug__" : Str)) = false := by decide) (hcd : (x == ("__classdict__" : Str)) = false := by decide)
    (hg : Gl X "isinstance" := by rfl) (hgy : Gl X y := by rfl) (hny : y ≠ "__name__" := by decide) (hdy : (y == ("__debug__" : Str)) = false := by decide) (he : starEach [.Name x p1, .Name y p2] X.env = (false, eval (.Name x p1) X.env) :: starEach [.Name y p2] X.env := by rfl)
    (he2 : starEach [.Name y p2] X.env = (false, eval (.Name y p2) X.env) :: starEach [] X.env := by rfl) (hpl : (backTo pos (starEach [.Name y p2] X.env)).any (·.1) = false := by rfl) :
    SE (X.suite fm.xa ((fm.xa, oe) :: pn)) Wx fm (.Call (.Name "isinstance" p) [.Name x p1, .Name y p2] [] pos) (mIsX i (xT hx y)) := by
  refine ⟨?_⟩
  intro ex σ H F w Q r q
  revert q
  unfold mIsX
  split
  · rename_i c hc'
    intro q
    obtain ⟨v, e, rfl, k1, k2, vv, k3, k4⟩ := r.slot i _ hc'
    have k1 : c.c = fm.xc := k1
    refine WE.of (pe_callB (X := X.suite fm.xa ((fm.xa, oe) :: pn)) (call_isX k2 h) hg hm (by decide +kernel) (pa_cons (pe_var (X := X.suite fm.xa ((fm.xa, oe) :: pn)) hN hv hd hcd) (pa_cons (pe_bltn (X := X.suite fm.xa ((fm.xa, oe) :: pn)) (v := .ty T) hgy hc.none hby rfl hny hdy) pa_nil he2) he) (by decide) (by decide) he hpl) ?_
    obtain ⟨z, hz, q2⟩ := q.lift
    cases ht : xT hx y c.c with
    | none => rw [ht] at hz; cases hz
    | some b =>
      rw [ht] at hz
      cases hz
      exact ⟨_, e, .ty T, b, rfl, ⟨_, r.fh _ _ k3⟩, .inl ⟨.type T, fun u hu => hu, hc.kit _ _ _ ht (by rw [k1]; exact h.g)⟩, q2 H F Kp.refl (Ex.refl _) r _ (.bl b)⟩
  · exact fun q => (show False from q).elim
inductive ClsN (X : Cx) (hx : HxT) : List Expr → List (Str → Option Bool) → Prop
  | nil : ClsN X hx [] []
  | cons {y : Str} {p : Pos} {es : List Expr} {ts : List (Str → Option Bool)} (h : ClsK X.K X.mg hx y) (hg : Gl X y) (hd : (y == ("__debug__" : Str)) = false) (r : ClsN X hx es ts) : ClsN X hx (.Name y p :: es) (xT hx y :: ts)
theorem ClsN.pa {hx : HxT} {a : Addr} {pn : List (Addr × Obj)} : ∀ {es : List Expr} {ts : List (Str → Option Bool)}, ClsN X hx es ts → ∃ (Ts : List Addr) (t : TA), Ts.length = es.length ∧ PA (X.suite a pn) es t ∧ (∀ σ H Q, Q (Ts.map V.ref) H → t σ H Q) ∧
    ∀ nm b C, anyX ts nm = some b → X.mg nm = some (.ref C) → PySem.W.kitAny X.K (.ref C) (Ts.map Value.ref) = some b
  | _, _, .nil => ⟨[], _, rfl, pa_nil, fun _ _ _ h => h, fun nm b C h _ => h⟩
  | _, _, .cons (y := y) (es := es) h hg hd r => by
    obtain ⟨Ts, t, h0, h1, h2, h3⟩ := r.pa (a := a) (pn := pn)
    obtain ⟨T, mT, cT⟩ := h.ex
    refine ⟨T :: Ts, _, by simp [h0], pa_cons (pe_glob (X := X.suite a pn) (v := .ref T) hg mT rfl hd) h1 rfl, fun σ H Q q => h2 σ H _ q, fun nm b C e m => ?_⟩
    have e : (match xT hx y nm with
      | some true => some true
      | some false => anyX _ nm
      | none => none) = some b := e
    show PySem.W.kitAny X.K (.ref C) (.ref T :: Ts.map Value.ref) = some b
    unfold PySem.W.kitAny
    cases ht : xT hx y nm with
    | none => rw [ht] at e; cases e
    | some c =>
      rw [cT.kit _ _ _ ht m]
      rw [ht] at e
      cases c with
      | true => exact e
      | false => exact h3 nm b C e m
theorem vals_refs : ∀ (Ts : List Addr) (us : List Value), Vals (Ts.map V.ref) us → us = Ts.map Value.ref
  | [], us, h => by cases h; rfl
  | T :: Ts, us, h => by
    cases h with
    | cons hu h =>
      rw [vals_refs Ts _ h, List.map_cons]
      exact congrArg (· :: _) hu
theorem se_isXT {oe : Obj} {pn : List (Addr × Obj)} {i k : Nat} {x : Str} {hx : HxT} {es : List Expr} {ts : List (Str → Option Bool)} {p p1 p2 pos : Pos} (h : InS X fm oe) (hm : X.mg "isinstance" = none) (hc : ClsN X hx es ts) (hlen : es.length ≤ 1000000) (hN : X.N[i]? = some x := by rfl)
    (hv : Vis X.env.scope x := by first | exact Or.inl rfl | exact Or.inr (Or.inl rfl) | exact Or.inr (Or.inr rfl)) (hd : (x == ("__debug__" : Str)) = false := by decide) (hcd : (x == ("__classdict__" : Str)) = false := by decide)
    (hg : Gl X "isinstance" := by rfl) (he : starEach [.Name x p1, .Tuple es k p2] X.env = (false, eval (.Name x p1) X.env) :: starEach [.Tuple es k p2] X.env := by rfl)
    (he2 : starEach [.Tuple es k p2] X.env = (false, eval (.Tuple es k p2) X.env) :: starEach [] X.env := by rfl) (hpl : (backTo pos (starEach [.Tuple es k p2] X.env)).any (·.1) = false := by rfl) :
    SE (X.suite fm.xa ((fm.xa, oe) :: pn)) Wx fm (.Call (.Name "isinstance" p) [.Name x p1, .Tuple es k p2] [] pos) (mIsX i (anyX ts)) := by
  obtain ⟨Ts, t, h0, h1, h2, h3⟩ := hc.pa (a := fm.xa) (pn := (fm.xa, oe) :: pn)
  refine ⟨?_⟩
  intro ex σ H F w Q r q
  revert q
  unfold mIsX
  split
  · rename_i c hc'
    intro q
    obtain ⟨v, e, rfl, k1, k2, vv, k3, k4⟩ := r.slot i _ hc'
    have k1 : c.c = fm.xc := k1
    refine WE.of (pe_callB (X := X.suite fm.xa ((fm.xa, oe) :: pn)) (call_isX k2 h) hg hm (by decide +kernel) (pa_cons (pe_var (X := X.suite fm.xa ((fm.xa, oe) :: pn)) hN hv hd hcd) (pa_cons (pe_tup h1) pa_nil he2) he) (by decide) (by decide) he hpl) ?_
    obtain ⟨z, hz, q2⟩ := q.lift
    cases ht : anyX ts c.c with
    | none => rw [ht] at hz; cases hz
    | some b =>
      rw [ht] at hz
      cases hz
      refine ⟨_, e, h2 _ _ _ ⟨?_, fun tp htp => ?_⟩⟩
      · rw [List.length_map, h0]
        exact line_of hlen
      · have g : Gr H F (upd H tp (.tup (Ts.map V.ref))) F := Gr.dark r.fh htp
        exact ⟨.ref tp, b, rfl, ⟨_, g.hh _ _ (r.fh _ _ k3)⟩, .inr ⟨tp, _, _, rfl, .inl (.inl upd_same), vals_refs Ts, h3 _ _ _ ht (by rw [k1]; exact h.g)⟩, q2 _ _ g.kp g.ff (r.gr g) _ (.bl b)⟩
  · exact fun q => (show False from q).elim
end
end TD

set_option Elab.async false
set_option linter.all false
set_option maxRecDepth 100000
set_option maxHeartbeats 4000000
namespace TD
open PySem PySem.Spec PyProof.Rows L2 He
open PySem.W (findIn typeIn subIn mroIn nsIn keepIn codeIn hasDictIn specialIn takesIn ks_superIn exmOne kitOne ksFn)
/-! ### the head's facts of own errors -/
structure ErrD where
  nm : Str
  qual : Str
  fld : Str
  params : Arguments
  body : List Stmt
  scope : Scope
abbrev FnI : Type := Option (Str × Str × Arguments × FuncBody × Scope × Addr × List Str × Addr)
def iAd (K : PySem.W.Frag) (x : Str) : Addr := ma K (ga K x) "__init__"
def fnI (K : PySem.W.Frag) (x : Str) : FnI := match K.lookup (iAd K x) with
  | some ⟨_, _, .func fd, _⟩ => some (fd.name, fd.qualname, fd.params, fd.body, fd.scope, fd.globals, fd.closure.map (·.1), fd.builtins)
  | _ => none
def ErrD.val (d : ErrD) : FnI := some (("__init__" : Str), d.qual, d.params, FuncBody.stmts d.body, d.scope, mainGlobals, [("__class__" : Str)], builtinsNs)
def oexB (K : PySem.W.Frag) (C : Addr) : Bool := match K.lookup C with
  | some ⟨.type "type", _, .cls cd, sl⟩ => (match cd.mro, sl.toList with
    | .ref C' :: bm, [_, _, _, _, some (.builtin n), _] => C' == C && n == "ValueError.__new__" && !cd.hasDel && cd.hasDict && PySem.HandSPX.refsVE bm
    | _, _ => false)
  | _ => false
theorem oexB_ok {K : PySem.W.Frag} {C : Addr} (q : oexB K C = true) : ∃ nm q N bs bm sn sub ab col dd k0 k1 k2 k3 k5, K.lookup C = some (excClassObj nm q C N bs bm true sn sub ab col dd k0 k1 k2 k3 k5 "ValueError.__new__") ∧ PySem.HandSPX.refsVE bm = true := by
  unfold oexB at q
  split at q
  · rename_i dd cd sl ho
    split at q
    · rename_i C' bm k0 k1 k2 k3 n k5 hm hs
      simp only [Bool.and_eq_true, beq_iff_eq, Bool.not_eq_true'] at q
      obtain ⟨⟨⟨⟨rfl, rfl⟩, hdel⟩, hd'⟩, ht⟩ := q
      obtain ⟨nm, bs, mro, ns, qn, hd, sn, sub, ab, col, del⟩ := cd
      dsimp only at hm hdel hd'
      subst hm hdel hd'
      have hsl : sl = #[k0, k1, k2, k3, some (.builtin "ValueError.__new__"), k5] := by
        obtain ⟨l⟩ := sl
        simp only at hs
        rw [hs]
      subst hsl
      exact ⟨nm, qn, ns, bs, bm, sn, sub, ab, col, dd, k0, k1, k2, k3, k5, ho, ht⟩
    · cases q
  · cases q
def xclsB (K : PySem.W.Frag) (C : Addr) (f : Str) : Bool :=
  eqO (findIn K (.ref C) "__getattribute__") (some (some (.builtin "BaseException.__getattribute__"))) && (eqO (findIn K (.ref C) "__getattr__") (some none) && (decide (subIn K (.ref C) (.type "BaseException") = some true) && (hasDictIn K C && (eqO (findIn K (.ref C) f) (some none) &&
  (eqO (findIn K (.ref C) "__class__") (some (some (.builtin "object.__class__"))) && (eqO (specialIn K (.builtin "object.__class__") "__get__") (some (some (.builtin "getset_descriptor.__get__"))) && (decide (takesIn K (.builtin "object.__class__") = some true) && decide (mroIn K C (.type "object") = some true))))))))
theorem xclsB_ok {K : PySem.W.Frag} {C : Addr} {f : Str} (h : xclsB K C f = true) : XCls K C f := by
  obtain ⟨h1, h⟩ := ba h
  obtain ⟨h2, h⟩ := ba h
  obtain ⟨h3, h⟩ := ba h
  obtain ⟨h4, h⟩ := ba h
  obtain ⟨h5, h⟩ := ba h
  obtain ⟨h6, h⟩ := ba h
  obtain ⟨h7, h⟩ := ba h
  obtain ⟨h8, h9⟩ := ba h
  exact ⟨eqO_ok h1, eqO_ok h2, of_decide_eq_true h3, h4, eqO_ok h5, eqO_ok h6, eqO_ok h7, of_decide_eq_true h8, of_decide_eq_true h9⟩
def isN : Value → Bool
  | .none => true
  | _ => false
theorem isN_ok {v : Value} (h : isN v = true) : v = .none := by cases v <;> first | rfl | cases h
def cellB (K : PySem.W.Frag) (cc C : Addr) : Bool := match K.lookup cc with
  | some ⟨_, _, .cell (some (.ref C')), _⟩ => C' == C
  | _ => false
theorem cellB_ok {K : PySem.W.Frag} {cc C : Addr} (h : cellB K cc C = true) : ∃ (cl : Value) (cld : Option Addr) (csl : Array (Option Value)), K.lookup cc = some ⟨cl, cld, .cell (some (.ref C)), csl⟩ := by
  unfold cellB at h
  split at h
  · rename_i e
    rw [beq_iff_eq.mp h] at e
    exact ⟨_, _, _, e⟩
  · cases h
def cdoB (K : PySem.W.Frag) (file : Str) (cda : Addr) : Bool := match K.lookup cda with
  | some ⟨_, _, .fields vs, _⟩ => (match (vs[2]? : Option Value) with
    | some (Value.str f _) => file == f
    | _ => false)
  | _ => false
theorem cdoB_ok {K : PySem.W.Frag} {file : Str} {cda : Addr} (h : cdoB K file cda = true) : ∃ (ccl : Value) (cdd : Option Addr) (vs : Array Value) (ccs : Array (Option Value)) (f : Str) (tf : Tok), K.lookup cda = some ⟨ccl, cdd, .fields vs, ccs⟩ ∧ vs[2]? = some (.str f tf) ∧ (file == f) = true := by
  unfold cdoB at h
  split at h
  · rename_i e
    split at h
    · rename_i e2
      exact ⟨_, _, _, _, _, _, e, e2, h⟩
    · cases h
  · cases h
def initC (K : PySem.W.Frag) (file : Str) (d : ErrD) (cl : List (Str × Addr)) (code df kw : Value) : Bool := match cl, code with
  | [(_, cc)], .ref cda => isN df && (isN kw && (codeIn K code d.qual && (cellB K cc (ga K d.nm) && cdoB K file cda)))
  | _, _ => false
def initB (K : PySem.W.Frag) (file : Str) (d : ErrD) : Bool := match K.lookup (iAd K d.nm) with
  | some ⟨_, _, .func fd, _⟩ => initC K file d fd.closure fd.code fd.defaults fd.kwdefaults
  | _ => false
def errB (file : Str) (K : PySem.W.Frag) (d : ErrD) : Bool :=
  eqO (nsIn K mainGlobals d.nm) (some (some (.ref (ga K d.nm)))) && (oexB K (ga K d.nm) && (eqO (findIn K (.ref (ga K d.nm)) "__setattr__") (some (some (.builtin "object.__setattr__"))) && (decide (typeIn K (.ref (ga K d.nm)) = some (.type "type")) && (keepIn K (.ref (ga K d.nm)) && (xclsB K (ga K d.nm) d.fld &&
  (eqO (findIn K (.ref (ga K d.nm)) "__init__") (some (some (.ref (iAd K d.nm)))) && (decide (typeIn K (.ref (iAd K d.nm)) = some (.type "function")) && (initB K file d && (eqO (ks_superIn K (ga K d.nm) (ga K d.nm) "__init__") (some (some (.builtin "ValueError.__init__"))) &&
  (decide (subIn K (.ref (ga K d.nm)) (.type "ValueError") = some true) && (decide (mroIn K (ga K d.nm) (.ref (ga K d.nm)) = some true) && eqO (nsIn K cStatics "thirdparty.any") (some none))))))))))))
theorem init_ok {K : PySem.W.Frag} {file : Str} {d : ErrD} (c : initB K file d = true) (e : fnI K d.nm = d.val) : ∃ (cc cda : Addr), (∃ (oc : Value) (od : Option Addr) (doc pm : Value) (an : Option Addr) (ct : Value) (osl : Array (Option Value)), K.lookup (iAd K d.nm) = some ⟨oc, od, .func (ksFn "__init__" d.qual d.params d.body d.scope .none .none doc pm an (.ref cda) ct cc), osl⟩) ∧
    codeIn K (.ref cda) d.qual = true ∧ cellB K cc (ga K d.nm) = true ∧ cdoB K file cda = true := by
  unfold initB at c
  unfold fnI at e
  cases q : K.lookup (iAd K d.nm) with
  | none => rw [q] at c; cases c
  | some o =>
    obtain ⟨oc, od, dt, osl⟩ := o
    rw [q] at c e
    cases dt with
    | func fd =>
      obtain ⟨n1, n2, n3, n4, n5, n6, n7, n8, n9, n10, n11, n12, n13, n14, n15⟩ := fd
      have e2 : (some (n1, n2, n3, n4, n5, n6, n7.map (·.1), n15) : FnI) = some (("__init__" : Str), d.qual, d.params, FuncBody.stmts d.body, d.scope, mainGlobals, [("__class__" : Str)], builtinsNs) := e
      simp only [Option.some.injEq, Prod.mk.injEq] at e2
      obtain ⟨h1, h2, h3, h4, h5, h6, h7, h8⟩ := e2
      subst h1 h2 h3 h4 h5 h6 h8
      have c : initC K file d n7 n13 n8 n9 = true := c
      unfold initC at c
      split at c
      · rename_i fst cc cda _
        obtain ⟨k1, c⟩ := ba c
        obtain ⟨k2, c⟩ := ba c
        obtain ⟨k3, c⟩ := ba c
        obtain ⟨k4, k5⟩ := ba c
        have k1 := isN_ok k1
        have k2 := isN_ok k2
        subst k1 k2
        have hx : fst = ("__class__" : Str) := by simpa using h7
        subst hx
        exact ⟨cc, cda, ⟨_, _, _, _, _, _, _, rfl⟩, k3, k4, k5⟩
      · cases c
    | _ => cases c
/-- what the words of an own error's __init__ must be -/
structure ErrW (P : Program) (file : Str) (d : ErrD) (msg : Str) (a1 a2 : PySem.Arg) (z : EPos) : Prop where
  par : d.params = eArgs a1 a2
  bdy : d.body = eBody msg d.fld z
  arg1 : a1.arg = "self"
  arg2 : a2.arg = d.fld
  sc : NdefX.NScope ["self", d.fld, "__class__"] ["self", d.fld] ["__class__"] d.scope
  dbg : (d.fld == ("__debug__" : Str)) = false
  scs : d.scope.names.lookup ("super" : Str) = some .globalImplicit
  file : P.main.file = file
  top : (P.main.scope.names.lookup ("super" : Str)).isSome = false
  B : ∀ fI cc cda : Addr, OwnB d.qual msg d.fld fI cc cda a1 a2 z d.scope
theorem err_ok {P : Program} {w : World} {K : PySem.W.Frag} {h : Heap} {mg : Str → Option Value} {base : Heap} {file msg : Str} {d : ErrD} {a1 a2 : PySem.Arg} {z : EPos} (X : K.In h) (G : h.Ns mainGlobals mg) (c : errB file K d = true) (e : fnI K d.nm = d.val) (hs : mg "super" = none) (Wd : ErrW P file d msg a1 a2 z) : Err P w K mg base d.nm d.fld := by
  unfold errB at c
  obtain ⟨c1, c⟩ := ba c
  obtain ⟨c2, c⟩ := ba c
  obtain ⟨c3, c⟩ := ba c
  obtain ⟨c4, c⟩ := ba c
  obtain ⟨c5, c⟩ := ba c
  obtain ⟨c6, c⟩ := ba c
  obtain ⟨c7, c⟩ := ba c
  obtain ⟨c8, c⟩ := ba c
  obtain ⟨c9, c⟩ := ba c
  obtain ⟨c10, c⟩ := ba c
  obtain ⟨c11, c⟩ := ba c
  obtain ⟨c12, c13⟩ := ba c
  have xK := xclsB_ok c6
  have gC := PySem.W.mg_of X G (eqO_ok c1)
  have T : OexC K (ga K d.nm) := ⟨oexB_ok c2, eqO_ok c3, xK.exC, of_decide_eq_true c4, c5⟩
  obtain ⟨cc, cda, hf, hcode, hcell, hcdo⟩ := init_ok c9 e
  have hf2 := hf
  rw [Wd.par, Wd.bdy] at hf2
  have cdo := cdoB_ok hcdo
  rw [← Wd.file] at cdo
  have O : OwnE P K mg d.nm d.qual msg d.fld (ga K d.nm) (iAd K d.nm) cc cda a1 a2 z d.scope :=
    ⟨T, gC, eqO_ok c7, of_decide_eq_true c8, xK.no, hf2, hcode, cdo, cellB_ok hcell, eqO_ok c10, of_decide_eq_true c11, of_decide_eq_true c12, hs, eqO_ok c13, Wd.top, Wd.arg1, Wd.arg2, Wd.sc, Wd.dbg, Wd.scs⟩
  obtain ⟨fd, F1, B1⟩ := own_init (w := w) (base := base) (CX := L2.CX P w) O (Wd.B _ _ _)
  exact ⟨_, _, fd, gC, T, xK, eqO_ok c7, of_decide_eq_true c8, F1, B1⟩
/-- the table of classes -/
def hxB (K : PySem.W.Frag) (tyB : Str → Option String) (hx : HxT) : Bool := hx.all fun q => eqO (nsIn K mainGlobals q.1.1) (some (some (.ref (ga K q.1.1)))) && (match tyB q.1.2 with
  | some T => eqO (nsIn K mainGlobals q.1.2) (some none) && decide (kitOne K (.ref (ga K q.1.1)) (.type T) = some q.2)
  | none => eqO (nsIn K mainGlobals q.1.2) (some (some (.ref (ga K q.1.2)))) && (decide (kitOne K (.ref (ga K q.1.1)) (.ref (ga K q.1.2)) = some q.2) && decide (exmOne K (.ref (ga K q.1.1)) (.ref (ga K q.1.2)) = some q.2)))
theorem hx_mem {hx : HxT} {y nm : Str} {b : Bool} (h : xT hx y nm = some b) : ((nm, y), b) ∈ hx := by
  unfold xT at h
  induction hx with
  | nil => cases h
  | cons q r ih =>
    obtain ⟨⟨q1, q2⟩, c⟩ := q
    rw [List.lookup_cons] at h
    split at h
    · rename_i e
      have e := beq_iff_eq.mp e
      cases e
      cases h
      exact List.mem_cons_self ..
    · exact List.mem_cons_of_mem _ (ih h)
theorem clsK_ok {K : PySem.W.Frag} {h : Heap} {mg : Str → Option Value} {tyB : Str → Option String} {hx : HxT} {y : Str} (X : K.In h) (G : h.Ns mainGlobals mg) (c : hxB K tyB hx = true) (hy : tyB y = none) (hin : ∃ nm b, ((nm, y), b) ∈ hx) : ClsK K mg hx y := by
  have all := List.all_eq_true.mp c
  have key : ∀ nm b, ((nm, y), b) ∈ hx → mg nm = some (.ref (ga K nm)) ∧ mg y = some (.ref (ga K y)) ∧ kitOne K (.ref (ga K nm)) (.ref (ga K y)) = some b ∧ exmOne K (.ref (ga K nm)) (.ref (ga K y)) = some b := fun nm b hm => by
    have z := all _ hm
    obtain ⟨z1, z2⟩ := ba z
    dsimp only at z2
    rw [hy] at z2
    obtain ⟨z3, z4⟩ := ba z2
    obtain ⟨z5, z6⟩ := ba z4
    exact ⟨PySem.W.mg_of X G (eqO_ok z1), PySem.W.mg_of X G (eqO_ok z3), of_decide_eq_true z5, of_decide_eq_true z6⟩
  obtain ⟨nm0, b0, h0⟩ := hin
  refine ⟨ga K y, (key _ _ h0).2.1, fun nm b C e m => ?_, fun nm b C e m => ?_⟩
  · obtain ⟨k1, k2, k3, k4⟩ := key nm b (hx_mem e)
    rw [k1] at m; cases m
    exact k4
  · obtain ⟨k1, k2, k3, k4⟩ := key nm b (hx_mem e)
    rw [k1] at m; cases m
    exact k3
theorem clsB_ok {K : PySem.W.Frag} {h : Heap} {mg : Str → Option Value} {tyB : Str → Option String} {hx : HxT} {y : Str} {T : String} (X : K.In h) (G : h.Ns mainGlobals mg) (c : hxB K tyB hx = true) (hy : tyB y = some T) (hin : ∃ nm b, ((nm, y), b) ∈ hx) : ClsB K mg hx y T := by
  have all := List.all_eq_true.mp c
  have key : ∀ nm b, ((nm, y), b) ∈ hx → mg nm = some (.ref (ga K nm)) ∧ mg y = none ∧ kitOne K (.ref (ga K nm)) (.type T) = some b := fun nm b hm => by
    have z := all _ hm
    obtain ⟨z1, z2⟩ := ba z
    dsimp only at z2
    rw [hy] at z2
    obtain ⟨z3, z4⟩ := ba z2
    exact ⟨PySem.W.mg_of X G (eqO_ok z1), PySem.W.mg_none_of X G (eqO_ok z3), of_decide_eq_true z4⟩
  obtain ⟨nm0, b0, h0⟩ := hin
  refine ⟨(key _ _ h0).2.1, fun nm b C e m => ?_⟩
  obtain ⟨k1, k2, k3⟩ := key nm b (hx_mem e)
  rw [k1] at m; cases m
  exact k3
/-! ### the Hook -/
abbrev AlX : Type := AlD × Bool × List FnI
def obsX (fa : List Fa) (fn : List DefD) (file : Str) (tyB : Str → Option String) (hx : HxT) (er : List ErrD) (ck : PySem.W.Frag → Bool) (K : PySem.W.Frag) : AlX := (obsD fa fn K, (er.all fun d => errB file K d) && (hxB K tyB hx && ck K), er.map fun d => fnI K d.nm)
def valX (fn : List DefD) (er : List ErrD) : AlX := (valD fn, true, er.map ErrD.val)
def frX (n : Nat) (g : Addr → Option Obj) : PySem.W.Frag := frG g (asD g n ++ [cStatics])
def obsXG (n : Nat) (fa : List Fa) (fn : List DefD) (file : Str) (tyB : Str → Option String) (hx : HxT) (er : List ErrD) (ck : PySem.W.Frag → Bool) (g : Addr → Option Obj) : AlX := obsX fa fn file tyB hx er ck (frX n g)
def hookX (n : Nat) (fa : List Fa) (fn : List DefD) (file : Str) (tyB : Str → Option String) (hx : HxT) (er : List ErrD) (ck : PySem.W.Frag → Bool) : PySem.W.Hook where
  α := AlX
  obs := fun s => obsXG n fa fn file tyB hx er ck s.heap.get?
  val := fun _ => valX fn er
  says := fun _ h => ∃ K : PySem.W.Frag, K.In h ∧ obsX fa fn file tyB hx er ck K = valX fn er
  of := fun _ _ e => ⟨_, frG_in, e⟩
  keeps := fun _ _ _ ⟨K, hK, c⟩ k => ⟨K, PySem.W.Frag.In.keeps hK k, c⟩
theorem obsXG_eq {n : Nat} {fa : List Fa} {fn : List DefD} {file : Str} {tyB : Str → Option String} {hx : HxT} {er : List ErrD} {ck : PySem.W.Frag → Bool} {g : Addr → Option Obj} {s : Shared} (h : ∀ a, g a = s.heap.get? a) : obsXG n fa fn file tyB hx er ck g = (hookX n fa fn file tyB hx er ck).obs s := by
  have e : g = s.heap.get? := funext h
  rw [e] <;> rfl
section
variable {fa : List Fa} {fn : List DefD} {file : Str} {tyB : Str → Option String} {hx : HxT} {er : List ErrD} {ck : PySem.W.Frag → Bool} {K : PySem.W.Frag}
theorem saysX_d (c : obsX fa fn file tyB hx er ck K = valX fn er) : SaysD fa fn K := congrArg (fun z : AlX => z.1) c
theorem saysX_hx (c : obsX fa fn file tyB hx er ck K = valX fn er) : hxB K tyB hx = true := (ba (ba (show ((er.all fun d => errB file K d) && (hxB K tyB hx && ck K)) = true from congrArg (fun z : AlX => z.2.1) c)).2).1
theorem saysX_ck (c : obsX fa fn file tyB hx er ck K = valX fn er) : ck K = true := (ba (ba (show ((er.all fun d => errB file K d) && (hxB K tyB hx && ck K)) = true from congrArg (fun z : AlX => z.2.1) c)).2).2
theorem saysX_er (c : obsX fa fn file tyB hx er ck K = valX fn er) (i : Nat) {d : ErrD} (h : er[i]? = some d) : errB file K d = true ∧ fnI K d.nm = d.val := by
  have c1 := (ba (show ((er.all fun d => errB file K d) && (hxB K tyB hx && ck K)) = true from congrArg (fun z : AlX => z.2.1) c)).1
  have e : er.map (fun d => fnI K d.nm) = er.map ErrD.val := congrArg (fun z : AlX => z.2.2) c
  have e2 : (er.map fun d => fnI K d.nm)[i]? = (er.map ErrD.val)[i]? := by rw [e]
  rw [List.getElem?_map, List.getElem?_map, h] at e2
  exact ⟨List.all_eq_true.mp c1 d (List.mem_of_getElem? h), Option.some.inj e2⟩
end
end TD
namespace TD
open PySem
/-! ### the words of a class -/
def clsBody : Stmt → List Stmt
  | .ClassDef _ _ _ b _ _ _ _ _ _ _ => b
  | _ => []
def argAt (a : Arguments) (i : Nat) : PySem.Arg := a.args.getD i { arg := "", annotation := none, pos := ⟨0, 0, 0, 0⟩ }
def zOf : List Stmt → EPos
  | [.Expr (.Call (.Attribute (.Call (.Name _ p0) _ _ p1) _ p2) [.Constant _ k p3] _ p4) p5, .Assign [.Attribute (.Name _ q1) _ q2] (.Name _ q3) q4] => ⟨p0, p1, p2, p3, p4, p5, q1, q2, q3, q4, k⟩
  | _ => ⟨⟨0, 0, 0, 0⟩, ⟨0, 0, 0, 0⟩, ⟨0, 0, 0, 0⟩, ⟨0, 0, 0, 0⟩, ⟨0, 0, 0, 0⟩, ⟨0, 0, 0, 0⟩, ⟨0, 0, 0, 0⟩, ⟨0, 0, 0, 0⟩, ⟨0, 0, 0, 0⟩, ⟨0, 0, 0, 0⟩, 0⟩
end TD

set_option Elab.async false
set_option linter.all false
set_option maxRecDepth 100000
set_option maxHeartbeats 4000000
namespace TD
open PySem PySem.Spec PyProof.Rows L2
section
variable {X : Cx} {Wx : WX} {fm : Fm}
/-! ### zip, enumerate of lists -/
theorem wk_pair {K : PySem.W.Frag} {a0 : Addr} {J : It} {G : Hp → Prop} {f g : Nat → Option V} {ds : List D} {F : Hp} (w : Walk J ds.length G (YPair f g)) (hG : ∀ H, Ex F H → G H)
    (h : ∀ i x y, i < ds.length → f i = some x → g i = some y → ∃ d e, ds[i]? = some (.tup [d, e]) ∧ Rp K a0 F x d ∧ Rp K a0 F y e) : Wk K a0 J ds F := by
  refine ⟨G, YPair f g, w, hG, fun i H F1 v H' hi e1 e2 y => ?_⟩
  obtain ⟨T, x, y, rfl, hT, rfl, hx, hy⟩ := y
  obtain ⟨d, e, h1, h2, h3⟩ := h i x y hi hx hy
  have gr : Gr H F1 (upd H T (.tup [x, y])) (upd F1 T (.tup [x, y])) := Gr.new e2 hT
  exact ⟨_, .tup [d, e], h1, gr, .tup (.inl (.inl upd_same)) (.cons ((h2.ex e1).ex gr.ff) (.cons ((h3.ex e1).ex gr.ff) .nil))⟩
def zipD (xs ys : List D) : List D := List.zipWith (fun a b => D.tup [a, b]) xs ys
def mZip (ma mb : W → R D) : W → R (List D) := fun w => (ma w).bind fun x w1 => (mb w1).bind fun y w2 => R.lift (match x, y with | .lst a, .lst b => some (zipD a b) | _, _ => none) w2
theorem si_zip {e e2 : Expr} {p pos tpos : Pos} {elts : List Expr} {kk : Nat} {ma mb : W → R D} (ha : SE X Wx fm e ma) (hb : SE X Wx fm e2 mb) (hm : X.mg "zip" = none) (hg : Gl X "zip" := by rfl)
    (hs : starEach [e, e2] X.env = (false, eval e X.env) :: starEach [e2] X.env := by rfl) (hs2 : starEach [e2] X.env = (false, eval e2 X.env) :: starEach [] X.env := by rfl) (hpl : (backTo pos (starEach [e2] X.env)).any (·.1) = false := by rfl) :
    SIt X Wx fm (.Tuple elts kk tpos) (.Call (.Name "zip" p) [e, e2] [] pos) (mZip ma mb) := by
  refine ⟨?_⟩
  intro ex σ H F w R r q
  refine WI.of (pi_zip hg hm (pa_cons pe_we (pa_cons pe_we pa_nil hs2) hs) hs hpl) ?_
  show WE X e σ H fun x H1 => WE X e2 σ H1 fun y H2 => ∃ a b xs ys, [x, y] = [.ref a, .ref b] ∧ SqL X.K H2 a xs ∧ SqL X.K H2 b ys ∧ R (Itz X.K a b) H2
  refine ha ex σ H F w _ r ((Fin.bind q).imp fun x w1 H1 F1 ⟨r1, k1, e1, q1⟩ v hv => ?_)
  refine hb ex σ H1 F1 w1 _ r1 ((Fin.bind q1).imp fun y w2 H2 F2 ⟨r2, k2, e2, q2⟩ u hu => ?_)
  obtain ⟨z, hz, q3⟩ := q2.lift
  have hv := hv.ex e2
  cases hv with
  | @lst p1 vs l h1 h2 =>
    cases hu with
    | @lst p2 us l2 h3 h4 =>
      cases hz
      refine ⟨p1, p2, vs, us, rfl, .inl (.inl (r2.fh _ _ h1)), .inl (.inl (r2.fh _ _ h3)), q3 H2 F2 Kp.refl (Ex.refl _) r2 _ ?_⟩
      have hn : (zipD l l2).length = min vs.length us.length := by simp [zipD, h2.len, h4.len]
      refine wk_pair (walk_zip hn) (fun H' e => ⟨.inl (.inl (e _ _ h1)), .inl (.inl (e _ _ h3))⟩) fun i x y hi hx hy => ?_
      obtain ⟨d, g1, g2⟩ := h2.getv hx
      obtain ⟨d2, g3, g4⟩ := h4.getv hy
      exact ⟨d, d2, by simp [zipD, List.getElem?_zipWith, g1, g3], g2, g4⟩
    | _ => cases hz
  | _ => cases hu <;> cases hz
def enumD (n : Nat) : List D → List D
  | [] => []
  | d :: ds => .tup [.int n, d] :: enumD (n + 1) ds
theorem enumD_len : ∀ (n : Nat) (ds : List D), (enumD n ds).length = ds.length
  | _, [] => rfl
  | n, d :: ds => by simp [enumD, enumD_len (n + 1) ds]
theorem enumD_get : ∀ (n i : Nat) (ds : List D) (d : D), ds[i]? = some d → (enumD n ds)[i]? = some (.tup [.int ((n + i : Nat) : Int), d])
  | n, i, [], d, h => by simp at h
  | n, 0, x :: ds, d, h => by simp at h; subst h; simp [enumD]
  | n, i + 1, x :: ds, d, h => by
    have h : ds[i]? = some d := by simpa using h
    have := enumD_get (n + 1) i ds d h
    rw [show n + (i + 1) = n + 1 + i by omega]
    simpa [enumD] using this
def mEnum (ma : W → R D) : W → R (List D) := fun w => (ma w).bind fun x w1 => R.lift (match x with | .lst a => some (enumD 0 a) | _ => none) w1
theorem si_enum {e : Expr} {p pos tpos : Pos} {elts : List Expr} {kk : Nat} {ma : W → R D} (ha : SE X Wx fm e ma) (hm : X.mg "enumerate" = none) (hg : Gl X "enumerate" := by rfl)
    (hs : starEach [e] X.env = [(false, eval e X.env)] := by rfl) (hs2 : starEach [e] X.env = (false, eval e X.env) :: starEach [] X.env := by rfl) :
    SIt X Wx fm (.Tuple elts kk tpos) (.Call (.Name "enumerate" p) [e] [] pos) (mEnum ma) := by
  refine ⟨?_⟩
  intro ex σ H F w R r q
  refine WI.of (pi_enum hg hm (pa_cons pe_we pa_nil hs2) hs) ?_
  show WE X e σ H fun x H1 => ∃ a xs, [x] = [.ref a] ∧ SqL X.K H1 a xs ∧ R (Ite X.K a) H1
  refine ha ex σ H F w _ r ((Fin.bind q).imp fun x w1 H1 F1 ⟨r1, k1, e1, q1⟩ v hv => ?_)
  obtain ⟨z, hz, q3⟩ := q1.lift
  cases hv with
  | @lst p1 vs l h1 h2 =>
    cases hz
    refine ⟨p1, vs, rfl, .inl (.inl (r1.fh _ _ h1)), q3 H1 F1 Kp.refl (Ex.refl _) r1 _ ?_⟩
    refine wk_pair (G := fun H' => SqL X.K H' p1 vs) (f := fun i => some (.int (i : Nat))) (g := fun i => vs[i]?) (by rw [enumD_len, ← h2.len]; exact walk_enum) (fun H' e => .inl (.inl (e _ _ h1))) fun i x y hi hx hy => ?_
    cases hx
    obtain ⟨d, g1, g2⟩ := h2.getv hy
    exact ⟨.int i, d, by simpa using enumD_get 0 i l d g1, .int _, g2⟩
  | _ => cases hz
/-! ### sorted of few whole numbers -/
def insI (n : Int) : List Int → List Int
  | [] => [n]
  | m :: r => if n ≤ m then n :: m :: r else m :: insI n r
def sortI : List Int → List Int
  | [] => []
  | n :: r => insI n (sortI r)
theorem insI_perm (n : Int) : ∀ l, (insI n l).Perm (n :: l)
  | [] => .refl _
  | m :: r => by
    unfold insI
    split
    · exact .refl _
    · exact ((insI_perm n r).cons m).trans (.swap n m r)
theorem sortI_perm : ∀ l, (sortI l).Perm l
  | [] => .refl _
  | n :: r => (insI_perm n _).trans ((sortI_perm r).cons n)
theorem insI_sorted (n : Int) : ∀ l, l.Pairwise (· ≤ ·) → (insI n l).Pairwise (· ≤ ·)
  | [], _ => by simp [insI]
  | m :: r, h => by
    unfold insI
    have h' := List.pairwise_cons.mp h
    split
    · rename_i c
      refine List.pairwise_cons.mpr ⟨fun x hx => ?_, h⟩
      rcases List.mem_cons.mp hx with rfl | hx
      · exact c
      · exact Int.le_trans c (h'.1 x hx)
    · rename_i c
      refine List.pairwise_cons.mpr ⟨fun x hx => ?_, insI_sorted n r h'.2⟩
      rcases List.mem_cons.mp ((insI_perm n r).mem_iff.mp hx) with rfl | hx
      · omega
      · exact h'.1 x hx
theorem sortI_sorted : ∀ l, (sortI l).Pairwise (· ≤ ·)
  | [] => .nil
  | n :: r => insI_sorted n _ (sortI_sorted r)
theorem sortI_uniq {a b : List Int} (h : a.Perm b) (h1 : a.Pairwise (· ≤ ·)) (h2 : b.Pairwise (· ≤ ·)) : a = b :=
  h.eq_of_pairwise (fun x y _ _ h1 h2 => Int.le_antisymm h1 h2) h1 h2
def mSorted (ma : W → R D) : W → R (List D) := fun w => (ma w).bind fun x w1 => R.lift (match x with | .lst a => (ints? a).bind fun ns => if ns.length < 64 then some ((sortI ns).map D.int) else none | _ => none) w1
theorem sf_sorted {e : Expr} {p pos : Pos} {m : W → R D} (h : SE X Wx fm e m) (hm : X.mg "sorted" = none) (hg : Gl X "sorted" := by rfl) (he : starEach [e] X.env = (false, eval e X.env) :: starEach [] X.env := by rfl) (hpl : (backTo pos (starEach [] X.env)).any (·.1) = false := by rfl) :
    SF X Wx fm (.Call (.Name "sorted" p) [e] [] pos) (mSorted m) := by
  refine ⟨?_⟩
  intro ex σ H F w Q r q
  refine WE.of (pe_callB cr_sorted hg hm (by decide +kernel) (pa_cons pe_we pa_nil he) (by decide) (by decide) he hpl) ?_
  show WE X e σ H fun x H1 => rSorted X.K [x] H1 Q
  refine h ex σ H F w _ r ((FinF.bindD q).imp fun d w1 H1 F1 ⟨r1, k1, e1, q1⟩ v hv => ?_)
  cases hv with
  | @lst p0 vs l h1 h2 =>
    have q1 : FinF X Wx fm ex σ H1 F1 Q (R.lift ((ints? l).bind fun ns => if ns.length < 64 then some ((sortI ns).map D.int) else none) w1) := q1
    cases hi : ints? l with
    | none => rw [hi] at q1; exact (show False from q1).elim
    | some ns =>
      rw [hi] at q1
      have q1 : FinF X Wx fm ex σ H1 F1 Q (R.lift (if ns.length < 64 then some ((sortI ns).map D.int) else none) w1) := q1
      by_cases hl : ns.length < 64
      · rw [if_pos hl] at q1
        have ev := ints_rp hi h2
        subst ev
        refine ⟨p0, ns, rfl, .inl (.inl (r1.fh _ _ h1)), hl, fun ns' p hp hs hn => ?_⟩
        have e2 : ns' = sortI ns := sortI_uniq (hp.trans (sortI_perm ns).symm) hs (sortI_sorted ns)
        subst e2
        exact q1 p _ F1 (Gr.dark r1.fh hn).kp (Ex.refl _) (r1.lay hn (RpAll.of_ints _))
      · rw [if_neg hl] at q1; exact (show False from q1).elim
  | _ => exact (show False from q1).elim
/-! ### a call that leaves the defaults -/
structure CalD (P : Program) (w : World) (K : PySem.W.Frag) (mg : Str → Option Value) (base : Heap) (k : Nat) (x : Str) (n : Nat) (dd : List D) (m : List D → SS → RF) : Prop where
  ex : ∃ (f : Addr) (fd : FuncData) (ps : List Str) (ds : List Value) (dvs : List V), FnOk P w K mg base (L2.CX P w) k f fd ps (spM K mg n m) ∧ mg x = some (.ref f) ∧ PySem.W.keepIn K (.ref f) = true ∧ Binds K fd ps ds ∧ Vals dvs ds ∧ ∀ (a0 : Addr) (F : Hp), RpAll K a0 F dvs dd
def mApp (dd : List D) (m : W → R (List D)) : W → R (List D) := fun w => (m w).bind fun ds w1 => .ok (ds ++ dd) w1
theorem run_fnSD {CX : CXT} {k : Nat} {f : Addr} {fd : FuncData} {ps : List Str} {ds : List Value} {dvs : List V} {sp : Sp} {E : L2.St → XK} {pins : List (Addr × Obj)} {σ : L2.St} {H : Hp} {s : Shared} {Q : VK} {us : List Value} {vs : List V} (F : FnOk X.prog X.w X.K X.mg X.base CX k f fd ps sp) (hr : Room k X.A) (hb : Binds X.K fd ps ds) (hd : Vals dvs ds) (hx : PassesAt CX X σ (E σ))
    (I : L2.Inv X pins σ H s) (r : Vals vs us) (h : sp (vs ++ dvs) H Q (E σ)) : wpAny (model X.prog X.w) X.A (call (.ref f) us) (EP X pins σ Q) X.xe s := by
  have r2 : Vals (vs ++ dvs) (us ++ ds) := r.append hd
  have hl : (us ++ ds).length = ps.length := by rw [← r2.length]; exact F.len _ _ _ _ h
  have b := hb s us I.kIn hl
  refine wpAny_call (codeAny_mono (F.run X.A X.stack s H ⟨us, []⟩ (us ++ ds) (vs ++ dvs) Q (E σ) hr I.env0 b r2 h) fun r s' hq => ?_)
  cases r with
  | error e => exact hx pins H s e s' I hq
  | ok fl =>
    cases fl with
    | ret u => exact I.after hq
    | next => exact False.elim hq
    | brk => exact False.elim hq
    | cont => exact False.elim hq
theorem pe_callSD {CX : CXT} {k : Nat} {f : Addr} {fd : FuncData} {ps : List Str} {ds : List Value} {dvs : List V} {sp : Sp} {E : L2.St → XK} {x : Str} {e : Expr} {es : List Expr} {p pos : Pos} {t : TA} (F : FnOk X.prog X.w X.K X.mg X.base CX k f fd ps sp) (hr : Room k X.A) (hg : Gl X x) (hm : X.mg x = some (.ref f)) (hk : PySem.W.keepIn X.K (.ref f) = true) (hb : Binds X.K fd ps ds) (hd : Vals dvs ds) (hx : ∀ σ, PassesAt CX X σ (E σ))
    (ha : PA X (e :: es) t) (hdb : (x == ("__debug__" : Str)) = false := by decide) (he : starEach (e :: es) X.env = (false, eval e X.env) :: starEach es X.env := by rfl) (hpl : (backTo pos (starEach es X.env)).any (·.1) = false := by rfl) :
    PE X (.Call (.Name x p) (e :: es) [] pos) (fun σ H Q => t σ H fun vs H1 => sp (vs ++ dvs) H1 Q (E σ)) := by
  refine ⟨fun pins s σ H Q I h => ?_⟩
  refine wpAny_Call_Name_kw (ld_glob I hg hm ?_ hdb)
  refine PySem.W.callWith_K (h₀ := X.base) I.ok.mod.kin hk (thn (ha.run pos pins s σ H _ I h) fun us s1 ⟨vs, H1, I1, r, q⟩ => ⟨I1.kIn, ?_⟩) he hpl
  exact run_fnSD F hr hb hd (hx σ) I1 r q
theorem se_callD {e : Expr} {es : List Expr} {x : Str} {p pos : Pos} {k n : Nat} {dd : List D} {f : List D → SS → RF} {m : W → R (List D)} (c : CalD X.prog X.w X.K X.mg X.base k x n dd f) (tk : Takes X Wx) (hr : Room k X.A) (ha : SAs X Wx fm (e :: es) m) (hg : Gl X x := by rfl)
    (hdb : (x == ("__debug__" : Str)) = false := by decide) (he : starEach (e :: es) X.env = (false, eval e X.env) :: starEach es X.env := by rfl) (hpl : (backTo pos (starEach es X.env)).any (·.1) = false := by rfl) :
    SE X Wx fm (.Call (.Name x p) (e :: es) [] pos) (mCall n f (mApp dd m)) := by
  obtain ⟨fa, fd, ps, ds0, dvs, Fo, hm, hk, hb, hdv, hrp⟩ := c.ex
  refine ⟨?_⟩
  intro ex σ H F w Q r q
  refine WE.of (pe_callSD Fo hr hg hm hk hb hdv (fun σ => passAt tk σ) pa_wa hdb he hpl) ?_
  show WA X (e :: es) σ H fun vs H1 => spM X.K X.mg n f (vs ++ dvs) H1 Q (L2.WE Wx σ)
  have q' : Fin X Wx fm ex σ H F (fun d _ H' F' => ∀ v, Rp X.K fm.a0 F' v d → Q v H') ((m w).bind fun ds w1 => if (ds ++ dd).length = n then match f (ds ++ dd) w1.ss with
    | .ok d ss' => .ok d { w1 with ss := ss' }
    | .exc c ss' => .exc c { w1 with ss := ss' }
    | .stuck => .stuck
    else .stuck) := by
    revert q
    unfold mCall mApp
    cases m w <;> exact fun q => q
  refine ha ex σ H F w _ r ((Fin.bind q').imp fun ds w1 H1 F1 ⟨r1, k1, e1, q1⟩ vs hv => ?_)
  have hv2 := hv.app (hrp fm.a0 F1)
  by_cases hl : (ds ++ dd).length = n
  · rw [if_pos hl] at q1
    refine ⟨fm.a0, fm.c0, F1, ds ++ dd, w1.ss, hv2.len.trans hl, r1.fh, r1.src, hv2, ?_⟩
    revert q1
    cases f (ds ++ dd) w1.ss with
    | ok d ss' => exact fun q1 v H' F' g s rv => q1 H' F' g.hh g.ff (r1.step g s) v rv
    | exc c ss' => exact fun q1 H' F' cls dd g s xc => q1 H' F' cls dd g.hh g.ff (r1.step g s) (xc.up r1 s)
    | stuck => exact fun q1 => q1
  · rw [if_neg hl] at q1
    exact (show False from q1).elim
end
/-! ### how the new mirrors are reckoned -/
section
variable {env : Env} {ss : SS} {w : W}
@[simp] theorem sRaise_ap (nm fld : Str) (m : W → R (List D)) : sRaise nm fld m w = (m w).toS fun ds w' => match ds with
  | [d] => .exc ⟨nm, fld, d⟩ w'
  | _ => .stuck := rfl
@[simp] theorem mExf_ap (i : Nat) (f : Str) : mExf i f ⟨env, ss⟩ = match env[i]? with
  | some (some (.exn c)) => if c.f = f then .ok c.d ⟨env, ss⟩ else .stuck
  | _ => .stuck := rfl
@[simp] theorem mIsX_ap (i : Nat) (t : Str → Option Bool) : mIsX i t ⟨env, ss⟩ = match env[i]? with
  | some (some (.exn c)) => R.lift ((t c.c).map D.bl) ⟨env, ss⟩
  | _ => .stuck := rfl
/-- what a try does with its body's outcome -/
def RS.tryC (tab : Str → Option Bool) (i : Nat) (suite : W → RS) : RS → RS
  | .exc c w1 => (match tab c.c with
    | some true => sLeave i (suite { w1 with env := (noX w1.env).set i (some (.exn c)) })
    | some false => .exc c w1
    | none => .stuck)
  | r => r
def RS.tryO (tab : Str → Option Bool) (suite : W → RS) : RS → RS
  | .exc c w1 => (match tab c.c with
    | some true => sLeaveO (suite { w1 with env := noX w1.env })
    | some false => .exc c w1
    | none => .stuck)
  | r => r
@[simp] theorem sTry_ap (tab : Str → Option Bool) (i : Nat) (body suite : W → RS) : sTry tab i body suite w = RS.tryC tab i suite (body w) := by
  unfold sTry RS.tryC; cases body w <;> rfl
@[simp] theorem sTryO_ap (tab : Str → Option Bool) (body suite : W → RS) : sTryO tab body suite w = RS.tryO tab suite (body w) := by
  unfold sTryO RS.tryO; cases body w <;> rfl
@[simp] theorem tryC_nx (tab : Str → Option Bool) (i : Nat) (s : W → RS) : RS.tryC tab i s (.nx w) = .nx w := rfl
@[simp] theorem tryC_ret (tab : Str → Option Bool) (i : Nat) (s : W → RS) (d : D) : RS.tryC tab i s (.ret d w) = .ret d w := rfl
@[simp] theorem tryC_exc (tab : Str → Option Bool) (i : Nat) (s : W → RS) (c : Exn) : RS.tryC tab i s (.exc c w) = match tab c.c with
    | some true => sLeave i (s { w with env := (noX w.env).set i (some (.exn c)) })
    | some false => .exc c w
    | none => .stuck := rfl
@[simp] theorem tryO_nx (tab : Str → Option Bool) (s : W → RS) : RS.tryO tab s (.nx w) = .nx w := rfl
@[simp] theorem tryO_ret (tab : Str → Option Bool) (s : W → RS) (d : D) : RS.tryO tab s (.ret d w) = .ret d w := rfl
@[simp] theorem tryO_exc (tab : Str → Option Bool) (s : W → RS) (c : Exn) : RS.tryO tab s (.exc c w) = match tab c.c with
    | some true => sLeaveO (s { w with env := noX w.env })
    | some false => .exc c w
    | none => .stuck := rfl
@[simp] theorem sLeave_ret (i : Nat) (d : D) : sLeave i (.ret d w) = .ret d { w with env := noX w.env } := rfl
@[simp] theorem sLeave_nx (i : Nat) : sLeave i (.nx w) = .nx { w with env := (noX w.env).set i none } := rfl
@[simp] theorem sLeaveO_ret (d : D) : sLeaveO (.ret d w) = .ret d { w with env := noX w.env } := rfl
@[simp] theorem sLeaveO_nx : sLeaveO (.nx w) = .nx { w with env := noX w.env } := rfl
@[simp] theorem noX_nil : noX [] = [] := rfl
@[simp] theorem noX_val (d : D) (e : Env) : noX (some (.val d) :: e) = some (.val d) :: noX e := rfl
@[simp] theorem noX_own (l : List D) (e : Env) : noX (some (.own l) :: e) = some (.own l) :: noX e := rfl
@[simp] theorem noX_exn (c : Exn) (e : Env) : noX (some (.exn c) :: e) = none :: noX e := rfl
@[simp] theorem noX_none (e : Env) : noX (none :: e) = none :: noX e := rfl
@[simp] theorem mApp_ap (dd : List D) (m : W → R (List D)) : mApp dd m w = (m w).bind fun ds w1 => .ok (ds ++ dd) w1 := rfl
@[simp] theorem mZip_ap (ma mb : W → R D) : mZip ma mb w = (ma w).bind fun x w1 => (mb w1).bind fun y w2 => R.lift (match x, y with | .lst a, .lst b => some (zipD a b) | _, _ => none) w2 := rfl
@[simp] theorem mEnum_ap (ma : W → R D) : mEnum ma w = (ma w).bind fun x w1 => R.lift (match x with | .lst a => some (enumD 0 a) | _ => none) w1 := rfl
@[simp] theorem mSorted_ap (ma : W → R D) : mSorted ma w = (ma w).bind fun x w1 => R.lift (match x with | .lst a => (ints? a).bind fun ns => if ns.length < 64 then some ((sortI ns).map D.int) else none | _ => none) w1 := rfl
end
section
variable {P : Program} {w : World} {K : PySem.W.Frag} {mg : Str → Option Value} {base : Heap}
/-- THE RULE for a def, defaults or none -/
theorem fn_tdD {x qual : Str} {params : Arguments} {body : List Stmt} {scope : Scope} {dvs : List V} {kws : List (Str × V)} {f : Addr} {fd : FuncData} {N ps : List Str} {k : Nat} {m : W → RS} (F : FunD K x qual params body scope dvs kws f fd) (S : FnScope N ps scope)
    (hb : ∀ (cdv : Value) (A : Around) (outer : List PySem.Env) (s : Shared) (H : Hp) (E : XK) (fm : Fm), Room k (A.deeper (envOfC qual scope s.heap.objs.size f cdv)) → SSs (cxOf (L2.CX P w) P w K mg base N qual scope f cdv A outer s H E) (fun c d _ H => E c d H) fm body m) :
    FnOk P w K mg base (L2.CX P w) (k + 1) f fd ps (spM K mg ps.length (fnM N.length m)) := by
  refine F.ok S (fun vs H Q E h => h.choose_spec.choose_spec.choose_spec.choose_spec.choose_spec.1) (fun cdv A outer s H vs Q E hr h => ?_)
  obtain ⟨a0, c0, F0, ds, ss, hl, hf, hs, hv, q⟩ := h
  refine ⟨_, pss_wss, ?_⟩
  refine hb cdv A outer s H E ⟨a0, c0, H, F0, 0, 0, "", 0⟩ hr [] _ H F0 ⟨startE N.length ds, ss⟩ _ (rel_start hf hs hv) ?_
  revert q
  unfold fnM
  cases m ⟨startE N.length ds, ss⟩ with
  | nx w1 => exact fun q σ' H' F' e r => q .non H' F' r.gk r.src .non
  | ret d w1 => exact fun q v σ' H' F' e r k => q v H' F' r.gk r.src k
  | exc c w1 => exact fun q σ' H' F' cls dd e r k => q H' F' cls dd r.gk r.src k
  | brk w1 => exact fun q => q.elim
  | cnt w1 => exact fun q => q.elim
  | stuck => exact fun q => q
end
end TD

set_option Elab.async false
set_option linter.all false
set_option maxRecDepth 100000
set_option maxHeartbeats 4000000
namespace TD
open PySem PySem.Spec PyProof.Rows L2
/-! ### several clauses, some with a name -/
abbrev Hd1 := Value × Option Nat × (Addr → Value → Option Addr → TS)
def Ends.off (D : Ends) (i : Nat) : Ends := { nx := fun σ' H' => D.nx (σ'.set i none) H', rt := D.rt, bk := fun σ' H' => D.bk (σ'.set i none) H', ct := fun σ' H' => D.ct (σ'.set i none) H' }
def wMix (K : PySem.W.Frag) (Wout : WX) (D : Ends) : List Hd1 → WX
  | [] => Wout
  | (c, o, ts) :: r => fun cls d σ H => ∃ b, PySem.W.exmOne K cls c = some b ∧
      (b = true → ∀ a, H a = none → match o with
        | none => ts a cls d D σ H
        | some i => ts a cls d (Ends.off D i) (σ.set i (some (.ref a))) H) ∧ (b = false → wMix K Wout D r cls d σ H)
inductive HdsMix (X : Cx) : List ExceptHandler → List Hd1 → Prop
  | nil : HdsMix X [] []
  | only {x : Str} {c : Value} {ts : Addr → Value → Option Addr → TS} {b₀ : Stmt} {suite : List Stmt} {np pos' : Pos} {hds : List ExceptHandler} {l : List Hd1} (hc : Names X x c)
      (hsu : ∀ (a : Addr) (oe : Obj) (cls : Value) (d : Option Addr) (pn : List (Addr × Obj)), Zc cls d oe → (∃ vs, oe.data = .fields vs) → PSs (X.suite a ((a, oe) :: pn)) (b₀ :: suite) (ts a cls d)) (r : HdsMix X hds l) :
      HdsMix X (.ExceptHandler (some (.Name x np)) none (b₀ :: suite) pos' :: hds) ((c, none, ts) :: l)
  | named {x n : Str} {i : Nat} {c : Value} {ts : Addr → Value → Option Addr → TS} {b₀ : Stmt} {suite : List Stmt} {np pos' : Pos} {hds : List ExceptHandler} {l : List Hd1} (hi : X.N[i]? = some n) (hln : X.env.kindOf n = some .local) (hc : Names X x c)
      (hsu : ∀ (a : Addr) (oe : Obj) (cls : Value) (d : Option Addr) (pn : List (Addr × Obj)), Zc cls d oe → (∃ vs, oe.data = .fields vs) → PSs (X.suite a ((a, oe) :: pn)) (b₀ :: suite) (ts a cls d)) (r : HdsMix X hds l) :
      HdsMix X (.ExceptHandler (some (.Name x np)) (some n) (b₀ :: suite) pos' :: hds) ((c, some i, ts) :: l)
section
variable {X : Cx} {body : List Stmt} {h₀ : ExceptHandler} {hds : List ExceptHandler} {l : List Hd1} {pos : Pos} {tb : WX → TS} {Wout : WX}
theorem ps_try_mix (hs : X.stack = X.env :: X.outer) (hf : X.env.frame = some X.env.locals) (hN : X.N.Nodup) (tk : Takes X Wout)
    (hb : ∀ (W : WX) (pn : List (Addr × Obj)) (xe : Value → Shared → Prop), Takes (X.tr pn xe) W → PassesOwn (model X.prog X.w) X.A X.env xe → PSs (X.tr pn xe) body (tb W))
    (hh : HdsMix X (h₀ :: hds) l) : PS X (.Try body (h₀ :: hds) [] [] pos) (fun D σ H => tb (wMix X.K Wout D l) D σ H) := by
  refine ⟨fun pins s σ H D I h => ?_⟩
  have ok := I.ok
  have hfr : X.A.frames = some (X.env :: X.outer) := by rw [ok.frames, hs]
  refine wpAny_Try_except ?_
  refine wpAny_mono ((hb (wMix X.K Wout D l) (X.pn ++ pins) (fun e s₁ => wpAny (model X.prog X.w) X.A (noteFrame e X.env) (fun _ s₂ => wpAny (model X.prog X.w) X.A (setFlight e none) (fun _ s₃ =>
    wpAny (model X.prog X.w) X.A (handleBy e X.env (h₀ :: hds)) (SP X pins D) X.xe s₃) X.xe s₂) X.xe s₁) (fun u s' xx => ?_) PassesOwn.looking).run [] s σ H D (I.toTry _) h) (fun f s1 hsp => ?_) (fun e s1 he => he)
  · obtain ⟨a, B, sI, pins', σ', H', cls, d, rfl, J', nb, up, sky, na, os, ag, w⟩ := xx
    have J : L2.Inv X pins σ' H' sI := J'.ofTry ok
    have sky' : Sky B (X.env :: X.outer) a (Zc cls d) X.env.locals s'.heap := by rw [← hs]; exact sky
    show wpAny (model X.prog X.w) X.A (noteFrame (.ref a) X.env) _ _ _
    refine Sky.land Zc.steady hfr hf sky' fun h3 fl3 up3 => ?_
    have J3 : L2.Inv X pins σ' H' { s' with heap := h3 } := J.landed nb fl3.1 (up.trans up3) os ag
    obtain ⟨oe3, vs3, he3, hz3, hd3⟩ := fl3.there
    have notFr : ∀ {h : Heap} {o : Obj} {vs : Array Value}, h.FunFrames B (X.env :: X.outer) → h.get? a = some o → o.data = .fields vs → a ∉ frs (X.env :: X.outer) := fun {h o vs} ff e dd hm => by
      obtain ⟨_, o', e', hnf⟩ := ff.mem hm
      rw [e] at e'; cases e'
      exact hnf _ dd
    have nfr := notFr fl3.2.2.1 he3 hd3
    have nL : a ≠ X.env.locals := fun z => nfr (List.mem_filterMap.mpr ⟨X.env, List.mem_cons_self, by rw [hf, z]⟩)
    have nF : a ∉ X.fs := fun hm => by
      obtain ⟨e, he, q⟩ := List.mem_filterMap.mp hm
      exact nfr (List.mem_filterMap.mpr ⟨e, List.mem_cons_of_mem _ he, q⟩)
    have S3 := J3.suite he3 hd3 na nL nF
    have test : ∀ {x : Str} {c : Value} {np : Pos} {Q : Value → Shared → Prop} {E : Value → Shared → Prop}, Names X x c → Q c { s' with heap := h3 } → wpAny (model X.prog X.w) (X.A.mark (some (.ref a))) (eval (.Name x np) X.env) Q E { s' with heap := h3 } := fun {x c np Q E} hc q => by
      obtain ⟨hg, hdbg, hm | ⟨hm, hv, hnn⟩⟩ := hc
      · exact ld_glob (X := X.suite a ((a, oe3) :: (X.pn ++ pins))) S3 hg hm q hdbg
      · exact ld_blt (X := X.suite a ((a, oe3) :: (X.pn ++ pins))) S3 hg hm hv q hnn hdbg
    have LT : PySem.W.Looks (model X.prog X.w) h3 (typeOf (.ref a)) cls := fun A Q E s k q => wpAny_typeOf_ref (k _ _ he3) (by rw [hz3.1]; exact q)
    have go : ∀ {hds' : List ExceptHandler} {l' : List Hd1}, HdsMix X hds' l' → wMix X.K Wout D l' cls d σ' H' → wpAny (model X.prog X.w) X.A (handleBy (.ref a) X.env hds') (SP X pins D) X.xe { s' with heap := h3 } := by
      intro hds' l' hk
      induction hk with
      | nil =>
        intro w
        refine wpAny_handleBy_nil ?_
        obtain ⟨k1, k2, k3, oe, vs, T, oT, ts', he, hz, hd, h1, hr⟩ := id fl3
        unfold PySem.passOn
        refine wpAny_bind (wpAny_field he hd h1 ?_)
        rw [if_neg (show ¬ ((Value.ref T == Value.none) = true) from by simp)]
        have fin : wpAny (model X.prog X.w) X.A (setFlight (.ref a) X.env.frame) (fun _ s4 => wpAny (model X.prog X.w) X.A (throw (.ref a) : Sem Flow) (SP X pins D) X.xe s4) X.xe { s' with heap := h3 } := by
          rw [hf]
          refine HandSPX.setFlight_upZ fl3 fun h4 hh4 up4 => wpAny_throw (tk _ _ ?_)
          exact ⟨a, B, sI, pins, σ', H', cls, d, rfl, J, nb, (up.trans up3).trans up4, .inr (.inr (by rw [hs]; exact hh4)), na, os, ag, w⟩
        first
          | exact wpAny_bind (wpAny_pure (wpAny_bind fin))
          | exact wpAny_bind fin
      | @only x c ts b₀ suite np pos' hds2 l2 hc hsu r ih =>
        intro w
        obtain ⟨b, hb1, hyes, hno⟩ := w
        refine wpAny_handleBy_cons (codeAny_handlers_test ?_) (by intro q; cases q)
        refine test hc ((PySem.W.exm_one (M := model X.prog X.w) (J3.kIn) LT hb1).here ?_)
        cases b with
        | true =>
          refine codeAny_handlers_suite ?_
          refine HandSPX.lands_againZ fl3 fun h4 fl4 up4 => ?_
          have J4 : L2.Inv X pins σ' H' { s' with heap := h4 } := J.landed nb fl4.1 ((up.trans up3).trans up4) os ag
          obtain ⟨oe4, vs4, he4, hz4, hd4⟩ := fl4.there
          have S4 := J4.suite he4 hd4 na nL nF
          refine wpAny_mono ((hsu a oe4 cls d (X.pn ++ pins) hz4 ⟨_, hd4⟩).run [] _ _ H' _ S4 (hyes rfl a na)) (fun f s6 hsp => ?_) (fun _ _ z => False.elim z)
          cases f with
          | next => obtain ⟨σ6, H6, S6, q6⟩ := hsp; exact ⟨_, _, S6.unsuite ok, q6⟩
          | brk => obtain ⟨σ6, H6, S6, q6⟩ := hsp; exact ⟨_, _, S6.unsuite ok, q6⟩
          | cont => obtain ⟨σ6, H6, S6, q6⟩ := hsp; exact ⟨_, _, S6.unsuite ok, q6⟩
          | ret u => obtain ⟨v6, σ6, H6, S6, r6, q6⟩ := hsp; exact ⟨_, _, _, S6.unsuite ok, r6, q6⟩
        | false => exact ih (hno rfl)
      | @named x n i c ts b₀ suite np pos' hds2 l2 hi hln hc hsu r ih =>
        intro w
        obtain ⟨b, hb1, hyes, hno⟩ := w
        refine wpAny_handleBy_cons (codeAny_handlers_test ?_) (by intro q; cases q)
        refine test hc ((PySem.W.exm_one (M := model X.prog X.w) (J3.kIn) LT hb1).here ?_)
        cases b with
        | true =>
          refine codeAny_handlers_suite_as ?_
          refine HandSPX.lands_againZ fl3 fun h4 fl4 up4 => ?_
          have J4 : L2.Inv X pins σ' H' { s' with heap := h4 } := J.landed nb fl4.1 ((up.trans up3).trans up4) os ag
          obtain ⟨oe4, vs4, he4, hz4, hd4⟩ := fl4.there
          have S4 := J4.suite he4 hd4 na nL nF
          refine store_ok (X := X.suite a ((a, oe4) :: (X.pn ++ pins))) (v := .ref a) S4 hN hi (.inl hln) rfl (fun s5 S5 => ?_) (.inr hln)
          refine wpAny_mono ((hsu a oe4 cls d (X.pn ++ pins) hz4 ⟨_, hd4⟩).run [] s5 _ H' _ S5 (hyes rfl a na)) (fun f s6 hsp => ?_) (fun _ _ z => False.elim z)
          have end_ : ∀ {σ6 : L2.St} {H6 : Hp} {Q : Shared → Prop}, L2.Inv (X.suite a ((a, oe4) :: (X.pn ++ pins))) [] σ6 H6 s6 → (∀ s7, L2.Inv X pins (σ6.set i none) H6 s7 → Q s7) →
              wpAny (model X.prog X.w) X.A (do bindName X.env n .none; unbindBehindTheSuite X.env n pos') (fun _ s7 => Q s7) X.xe s6 := fun {σ6 H6 Q} S6 hq => gone_ok (S6.unsuite ok) hN hi hln hq
          cases f with
          | next => obtain ⟨σ6, H6, S6, q6⟩ := hsp; exact end_ S6 fun s7 J7 => ⟨_, _, J7, q6⟩
          | brk => obtain ⟨σ6, H6, S6, q6⟩ := hsp; exact end_ S6 fun s7 J7 => ⟨_, _, J7, q6⟩
          | cont => obtain ⟨σ6, H6, S6, q6⟩ := hsp; exact end_ S6 fun s7 J7 => ⟨_, _, J7, q6⟩
          | ret u => obtain ⟨v6, σ6, H6, S6, r6, q6⟩ := hsp; exact end_ S6 fun s7 J7 => ⟨_, _, _, J7, r6, q6⟩
        | false => exact ih (hno rfl)
    exact go hh w
  · cases f with
    | next => obtain ⟨σ', H', J', q⟩ := hsp; exact wpAny_execs_nil ⟨σ', H', J'.ofTry ok, q⟩
    | brk => obtain ⟨σ', H', J', q⟩ := hsp; exact ⟨σ', H', J'.ofTry ok, q⟩
    | cont => obtain ⟨σ', H', J', q⟩ := hsp; exact ⟨σ', H', J'.ofTry ok, q⟩
    | ret u => obtain ⟨v, σ', H', J', r, q⟩ := hsp; exact ⟨v, σ', H', J'.ofTry ok, r, q⟩
end
/-- the clauses' mirrors: the class's table, the name's place, the suite -/
abbrev HdM := (Str → Option Bool) × Option Nat × (W → RS)
def hPick : List HdM → Exn → W → RS
  | [], c, w1 => .exc c w1
  | (tab, o, ms) :: r, c, w1 => match tab c.c with
    | some true => (match o with
      | some i => sLeave i (ms { w1 with env := (noX w1.env).set i (some (.exn c)) })
      | none => sLeaveO (ms { w1 with env := noX w1.env }))
    | some false => hPick r c w1
    | none => .stuck
def RS.tryL (hs : List HdM) : RS → RS
  | .exc c w1 => hPick hs c w1
  | r => r
def sTryL (hs : List HdM) (body : W → RS) : W → RS := fun w => RS.tryL hs (body w)
inductive HdsT (X : Cx) (fm : Fm) (hx : HxT) : List ExceptHandler → List HdM → Prop
  | nil : HdsT X fm hx [] []
  | only {x : Str} {b₀ : Stmt} {suite : List Stmt} {np pos' : Pos} {hds : List ExceptHandler} {l : List HdM} {ms : W → RS} (hc : ClsK X.K X.mg hx x) (hg : Gl X x) (hd : (x == ("__debug__" : Str)) = false)
      (hsu : ∀ (a d k : Addr) (c : Str) (oe : Obj) (pn : List (Addr × Obj)), InS X { fm with xa := a, xd := d, xc := c, xk := k } oe → SSs (X.suite a ((a, oe) :: pn)) W0 { fm with xa := a, xd := d, xc := c, xk := k } (b₀ :: suite) ms) (r : HdsT X fm hx hds l) :
      HdsT X fm hx (.ExceptHandler (some (.Name x np)) none (b₀ :: suite) pos' :: hds) ((xT hx x, none, ms) :: l)
  | named {x n : Str} {i : Nat} {b₀ : Stmt} {suite : List Stmt} {np pos' : Pos} {hds : List ExceptHandler} {l : List HdM} {ms : W → RS} (hi : X.N[i]? = some n) (hln : X.env.kindOf n = some .local) (hc : ClsK X.K X.mg hx x) (hg : Gl X x) (hd : (x == ("__debug__" : Str)) = false)
      (hsu : ∀ (a d k : Addr) (c : Str) (oe : Obj) (pn : List (Addr × Obj)), InS X { fm with xa := a, xd := d, xc := c, xk := k } oe → SSs (X.suite a ((a, oe) :: pn)) W0 { fm with xa := a, xd := d, xc := c, xk := k } (b₀ :: suite) ms) (r : HdsT X fm hx hds l) :
      HdsT X fm hx (.ExceptHandler (some (.Name x np)) (some n) (b₀ :: suite) pos' :: hds) ((xT hx x, some i, ms) :: l)
section
variable {X : Cx} {Wx : WX} {fm : Fm}
theorem HdsT.mix {hx : HxT} : ∀ {hds : List ExceptHandler} {l : List HdM}, HdsT X fm hx hds l → ∃ l1 : List Hd1, HdsMix X hds l1 ∧
    ∀ (ex : Exs) (F : Hp) (D : Ends) (c : Exn) (w1 : W) (σ1 : L2.St) (H1 F1 : Hp) (cls : Value) (dd : Option Addr), FinS X Wx fm ex F D (hPick l c w1) → Ex F F1 → Rel X.K fm ex σ1 H1 F1 w1 → ExcIs X.K X.mg fm.a0 fm.G c cls dd F1 H1 → wMix X.K Wx D l1 cls dd σ1 H1
  | _, _, .nil => ⟨[], .nil, fun ex F D c w1 σ1 H1 F1 cls dd q e1 r1 xi => q σ1 H1 F1 cls dd e1 r1 xi⟩
  | _, _, .only (x := x) (b₀ := b₀) (suite := suite) (l := l) (ms := ms) hc hg hd hsu r => by
    obtain ⟨l1, m1, ih⟩ := r.mix
    obtain ⟨T, mT, cT⟩ := hc.ex
    refine ⟨(.ref T, none, fun a cls d D σ H => ∀ (oe : Obj) (pn : List (Addr × Obj)), Zc cls d oe → (∃ vs, oe.data = .fields vs) → WSs (X.suite a ((a, oe) :: pn)) (b₀ :: suite) D σ H) :: l1, .only ⟨hg, hd, .inl mT⟩ (fun a oe cls d pn hz hv => ⟨fun pins s σ H D I h => h oe pn hz hv pins s I⟩) m1, ?_⟩
    intro ex F D c w1 σ1 H1 F1 cls dd q e1 r1 xi
    obtain ⟨C, d, v, h1, h2, h3, h4, h5, h6, h7⟩ := id xi
    have q : FinS X Wx fm ex F D (match xT hx x c.c with
      | some true => sLeaveO (ms { w1 with env := noX w1.env })
      | some false => hPick l c w1
      | none => .stuck) := q
    cases ht : xT hx x c.c with
    | none => rw [ht] at q; exact (show False from q).elim
    | some b =>
      rw [ht] at q
      refine ⟨b, by rw [h2]; exact cT.exm _ _ _ ht h1, fun hb1 a ha => ?_, fun hb0 => ?_⟩
      · subst hb1
        have q : FinS X Wx fm ex F D (sLeaveO (ms { w1 with env := noX w1.env })) := q
        intro oe pn hz hv
        rw [h2, h3] at hz
        refine (hsu a d C c.c oe pn ⟨hz, hv, h1⟩) ex _ H1 F1 _ _ (r1.enter a d c.c C) ?_
        revert q
        cases ms { w1 with env := noX w1.env } with
        | nx w2 => exact fun q σ' H' F' e r => q _ H' F' (e1.trans e) r.leave
        | brk w2 => exact fun q σ' H' F' e r => q _ H' F' (e1.trans e) r.leave
        | cnt w2 => exact fun q σ' H' F' e r => q _ H' F' (e1.trans e) r.leave
        | ret d w2 => exact fun q v σ' H' F' e r k => q v σ' H' F' (e1.trans e) r.leave k
        | exc c w2 => exact fun q => (show False from q).elim
        | stuck => exact fun q => (show False from q).elim
      · subst hb0
        exact ih ex F D c w1 σ1 H1 F1 cls dd q e1 r1 xi
  | _, _, .named (x := x) (i := i) (b₀ := b₀) (suite := suite) (l := l) (ms := ms) hi hln hc hg hd hsu r => by
    obtain ⟨l1, m1, ih⟩ := r.mix
    obtain ⟨T, mT, cT⟩ := hc.ex
    refine ⟨(.ref T, some i, fun a cls d D σ H => ∀ (oe : Obj) (pn : List (Addr × Obj)), Zc cls d oe → (∃ vs, oe.data = .fields vs) → WSs (X.suite a ((a, oe) :: pn)) (b₀ :: suite) D σ H) :: l1, .named hi hln ⟨hg, hd, .inl mT⟩ (fun a oe cls d pn hz hv => ⟨fun pins s σ H D I h => h oe pn hz hv pins s I⟩) m1, ?_⟩
    intro ex F D c w1 σ1 H1 F1 cls dd q e1 r1 xi
    obtain ⟨C, d, v, h1, h2, h3, h4, h5, h6, h7⟩ := id xi
    have q : FinS X Wx fm ex F D (match xT hx x c.c with
      | some true => sLeave i (ms { w1 with env := (noX w1.env).set i (some (.exn c)) })
      | some false => hPick l c w1
      | none => .stuck) := q
    cases ht : xT hx x c.c with
    | none => rw [ht] at q; exact (show False from q).elim
    | some b =>
      rw [ht] at q
      refine ⟨b, by rw [h2]; exact cT.exm _ _ _ ht h1, fun hb1 a ha => ?_, fun hb0 => ?_⟩
      · subst hb1
        have q : FinS X Wx fm ex F D (sLeave i (ms { w1 with env := (noX w1.env).set i (some (.exn c)) })) := q
        intro oe pn hz hv
        rw [h2, h3] at hz
        obtain ⟨F2, e2, h8, r2⟩ := (r1.enter a d c.c C).frzX h4 h6
        have r3 := r2.setX i (c := c) (vv := v) rfl h7 h8 (h5.ex e2)
        refine (hsu a d C c.c oe pn ⟨hz, hv, h1⟩) ex _ H1 F2 _ _ r3 ?_
        have eF : Ex F F2 := e1.trans e2
        revert q
        cases ms { w1 with env := (noX w1.env).set i (some (.exn c)) } with
        | nx w2 => exact fun q σ' H' F' e r => q _ H' F' (eF.trans e) (r.leave.setNone i none)
        | brk w2 => exact fun q σ' H' F' e r => q _ H' F' (eF.trans e) (r.leave.setNone i none)
        | cnt w2 => exact fun q σ' H' F' e r => q _ H' F' (eF.trans e) (r.leave.setNone i none)
        | ret d w2 => exact fun q v σ' H' F' e r k => q v σ' H' F' (eF.trans e) r.leave k
        | exc c w2 => exact fun q => (show False from q).elim
        | stuck => exact fun q => (show False from q).elim
      · subst hb0
        exact ih ex F D c w1 σ1 H1 F1 cls dd q e1 r1 xi
theorem ss_try {body : List Stmt} {h₀ : ExceptHandler} {hds : List ExceptHandler} {pos : Pos} {hx : HxT} {l : List HdM} {mb : W → RS} (hs : X.stack = X.env :: X.outer) (hf : X.env.frame = some X.env.locals) (hN : X.N.Nodup) (tk : Takes X Wx)
    (hb : ∀ (Wt : WX) (pn : List (Addr × Obj)) (xe : Value → Shared → Prop), Takes (X.tr pn xe) Wt → PassesOwn (model X.prog X.w) X.A X.env xe → SSs (X.tr pn xe) Wt fm body mb) (hh : HdsT X fm hx (h₀ :: hds) l) :
    SSt X Wx fm (.Try body (h₀ :: hds) [] [] pos) (sTryL l mb) := by
  obtain ⟨l1, m1, key⟩ := hh.mix (Wx := Wx)
  refine ⟨?_⟩
  intro ex σ H F w D r q
  refine WS.of (ps_try_mix (l := l1) (tb := fun Wt D σ H => ∀ (pn : List (Addr × Obj)) (xe : Value → Shared → Prop), Takes (X.tr pn xe) Wt → PassesOwn (model X.prog X.w) X.A X.env xe → WSs (X.tr pn xe) body D σ H)
    hs hf hN tk (fun Wt pn xe t p => ⟨fun pins s σ H D I h => h pn xe t p pins s I⟩) m1) ?_
  intro pn xe t p
  refine hb _ pn xe t p ex σ H F w D r ?_
  revert q
  unfold sTryL
  cases mb w with
  | exc c w1 => exact fun q σ1 H1 F1 cls dd e1 r1 xi => key ex F D c w1 σ1 H1 F1 cls dd q e1 r1 xi
  | _ => exact fun q => q
end
section
variable {w : W}
@[simp] theorem sTryL_ap (hs : List HdM) (body : W → RS) : sTryL hs body w = RS.tryL hs (body w) := rfl
@[simp] theorem tryL_nx (hs : List HdM) : RS.tryL hs (.nx w) = .nx w := rfl
@[simp] theorem tryL_ret (hs : List HdM) (d : D) : RS.tryL hs (.ret d w) = .ret d w := rfl
@[simp] theorem tryL_exc (hs : List HdM) (c : Exn) : RS.tryL hs (.exc c w) = hPick hs c w := rfl
@[simp] theorem hPick_nil (c : Exn) : hPick [] c w = .exc c w := rfl
@[simp] theorem hPick_some (tab : Str → Option Bool) (i : Nat) (ms : W → RS) (r : List HdM) (c : Exn) : hPick ((tab, some i, ms) :: r) c w = match tab c.c with
    | some true => sLeave i (ms { w with env := (noX w.env).set i (some (.exn c)) })
    | some false => hPick r c w
    | none => .stuck := rfl
@[simp] theorem hPick_none (tab : Str → Option Bool) (ms : W → RS) (r : List HdM) (c : Exn) : hPick ((tab, none, ms) :: r) c w = match tab c.c with
    | some true => sLeaveO (ms { w with env := noX w.env })
    | some false => hPick r c w
    | none => .stuck := rfl
end
end TD
namespace TD
open PySem PySem.Spec PyProof.Rows L2
/-! ### the module's fixed rows -/
mutual
def dIn (K : PySem.W.Frag) : D → Value → Bool
  | .non, .none => true
  | .bl b, .bool c => b == c
  | .int i, .int j _ => i == j
  | .str x, .str y _ => x == y
  | .tup ds, .ref a => (match K.lookup a with
    | some ⟨.type c, none, .seq its _, _⟩ => c == "tuple" && (decide (its.size ≤ 1000000) && dIns K ds its.toList)
    | _ => false)
  | _, _ => false
def dIns (K : PySem.W.Frag) : List D → List Value → Bool
  | [], [] => true
  | d :: ds, v :: vs => dIn K d v && dIns K ds vs
  | _, _ => false
end
mutual
theorem dIn_ok {K : PySem.W.Frag} : ∀ (d : D) (v : Value), dIn K d v = true → ∃ u : V, RelV u v ∧ ∀ a0 F, Rp K a0 F u d
  | .non, v, h => by cases v <;> simp [dIn] at h; exact ⟨.non, rfl, fun _ _ => .non⟩
  | .bl b, v, h => by
    cases v <;> simp [dIn] at h
    subst h
    exact ⟨.bl b, rfl, fun _ _ => .bl b⟩
  | .int i, v, h => by
    cases v <;> simp [dIn] at h
    subst h
    exact ⟨.int i, ⟨_, rfl⟩, fun _ _ => .int i⟩
  | .str x, v, h => by
    cases v <;> simp [dIn] at h
    subst h
    exact ⟨.str x, ⟨_, rfl⟩, fun _ _ => .str x⟩
  | .src, v, h => by cases v <;> simp [dIn] at h
  | .lst _, v, h => by cases v <;> simp [dIn] at h
  | .tup ds, v, h => by
    cases v with
    | ref a =>
      rw [dIn] at h
      split at h
      · rename_i c its n sl hl
        simp only [Bool.and_eq_true, beq_iff_eq, decide_eq_true_eq] at h
        obtain ⟨rfl, hz, h⟩ := h
        obtain ⟨us, hu, hr⟩ := dIns_ok ds its.toList h
        exact ⟨.ref a, rfl, fun a0 F => .tup (.inr ⟨_, its, n, hl, rfl, rfl, line_of hz, hu⟩) (hr a0 F)⟩
      · cases h
    | _ => simp [dIn] at h
theorem dIns_ok {K : PySem.W.Frag} : ∀ (ds : List D) (vs : List Value), dIns K ds vs = true → ∃ us : List V, Vals us vs ∧ ∀ a0 F, RpAll K a0 F us ds
  | [], vs, h => by
    cases vs <;> simp [dIns] at h
    exact ⟨[], .nil, fun _ _ => .nil⟩
  | d :: ds, vs, h => by
    cases vs with
    | nil => simp [dIns] at h
    | cons v vs =>
      simp only [dIns, Bool.and_eq_true] at h
      obtain ⟨u, h1, h2⟩ := dIn_ok d v h.1
      obtain ⟨us, h3, h4⟩ := dIns_ok ds vs h.2
      exact ⟨u :: us, .cons h1 h3, fun a0 F => .cons (h2 a0 F) (h4 a0 F)⟩
end
/-- the module's name x is the fixed row d -/
structure KstX (K : PySem.W.Frag) (mg : Str → Option Value) (x : Str) (d : D) : Prop where
  ex : ∃ (u : V) (v : Value), mg x = some v ∧ RelV u v ∧ ∀ a0 F, Rp K a0 F u d
def kstB (K : PySem.W.Frag) (x : Str) (d : D) : Bool := match PySem.W.nsIn K mainGlobals x with
  | some (some v) => dIn K d v
  | _ => false
theorem kst_ok {K : PySem.W.Frag} {h : Heap} {mg : Str → Option Value} {x : Str} {d : D} (X : K.In h) (G : h.Ns mainGlobals mg) (c : kstB K x d = true) : KstX K mg x d := by
  unfold kstB at c
  split at c
  · rename_i v e
    obtain ⟨u, h1, h2⟩ := dIn_ok d v c
    exact ⟨u, v, PySem.W.mg_of X G e, h1, h2⟩
  · cases c
theorem se_kst {X : Cx} {Wx : WX} {fm : Fm} {x : Str} {d : D} {pos : Pos} (h : KstX X.K X.mg x d) (hg : Gl X x := by rfl) (hd : (x == ("__debug__" : Str)) = false := by decide) : SE X Wx fm (.Name x pos) (mC d) := by
  obtain ⟨u, v, h1, h2, h3⟩ := h.ex
  exact se_glob hg h1 h2 (h3 _) hd
def ckAll (l : List Bool) : Bool := l.all id
theorem ckAt {l : List Bool} (h : ckAll l = true) (i : Nat) {b : Bool} (e : l[i]? = some b) : b = true := by
  have := List.all_eq_true.mp h b (List.mem_of_getElem? e)
  simpa using this
end TD


set_option Elab.async false
set_option linter.all false
set_option maxRecDepth 100000
set_option maxHeartbeats 4000000
namespace TP
open PySem PySem.Spec PyProof.Rows L2 TD
@[simp] theorem okb_str (n : Nat) (x : Str) : (D.str x).okb n = PyData.strOk x := by cases n <;> rfl
@[simp] theorem okb_int (n : Nat) (x : Int) : (D.int x).okb n = true := by cases n <;> rfl
@[simp] theorem okb_bl (n : Nat) (x : Bool) : (D.bl x).okb n = true := by cases n <;> rfl
@[simp] theorem okb_non (n : Nat) : D.non.okb n = true := by cases n <;> rfl
@[simp] theorem gNotIn_tup (d : D) (l : List D) : gNotIn d (.tup l) = if (d.flat && l.all D.flat) = true then some (.bl (!d.any l)) else none := by cases d <;> rfl
@[simp] theorem gIn_tup (d : D) (l : List D) : gIn d (.tup l) = if (d.flat && l.all D.flat) = true then some (.bl (d.any l)) else none := by cases d <;> rfl
@[simp] theorem gEq_def (d e : D) : gEq d e = if (d.okb 64 && e.okb 64) = true then some (.bl (D.eqv d e)) else none := rfl
@[simp] theorem gNe_def (d e : D) : gNe d e = if (d.okb 64 && e.okb 64) = true then some (.bl (!D.eqv d e)) else none := rfl
@[simp] theorem atI_0 {α : Type} (a : α) (l : List α) : atI (a :: l) 0 = some a := atI_nat (j := 0) rfl
@[simp] theorem atI_1 {α : Type} (a b : α) (l : List α) : atI (a :: b :: l) 1 = some b := atI_nat (j := 1) rfl
@[simp] theorem atI_2 {α : Type} (a b c : α) (l : List α) : atI (a :: b :: c :: l) 2 = some c := atI_nat (j := 2) rfl
@[simp] theorem atI_3 {α : Type} (a b c d : α) (l : List α) : atI (a :: b :: c :: d :: l) 3 = some d := atI_nat (j := 3) rfl
@[simp] theorem eqv_non_non   : D.eqv (.non) (.non) = true := by rw [D.eqv]
@[simp] theorem eqv_non_bl  (b : Bool) : D.eqv (.non) (.bl b) = false := by rw [D.eqv] <;> simp
@[simp] theorem eqv_non_int  (b : Int) : D.eqv (.non) (.int b) = false := by rw [D.eqv] <;> simp
@[simp] theorem eqv_non_str  (b : Str) : D.eqv (.non) (.str b) = false := by rw [D.eqv] <;> simp
@[simp] theorem eqv_non_tup  (b : List D) : D.eqv (.non) (.tup b) = false := by rw [D.eqv] <;> simp
@[simp] theorem eqv_bl_non (a : Bool)  : D.eqv (.bl a) (.non) = false := by rw [D.eqv] <;> simp
@[simp] theorem eqv_bl_bl (a : Bool) (b : Bool) : D.eqv (.bl a) (.bl b) = (a == b) := by rw [D.eqv]
@[simp] theorem eqv_bl_int (a : Bool) (b : Int) : D.eqv (.bl a) (.int b) = ((if a then 1 else 0) == b) := by rw [D.eqv]
@[simp] theorem eqv_bl_str (a : Bool) (b : Str) : D.eqv (.bl a) (.str b) = false := by rw [D.eqv] <;> simp
@[simp] theorem eqv_bl_tup (a : Bool) (b : List D) : D.eqv (.bl a) (.tup b) = false := by rw [D.eqv] <;> simp
@[simp] theorem eqv_int_non (a : Int)  : D.eqv (.int a) (.non) = false := by rw [D.eqv] <;> simp
@[simp] theorem eqv_int_bl (a : Int) (b : Bool) : D.eqv (.int a) (.bl b) = (a == (if b then 1 else 0)) := by rw [D.eqv]
@[simp] theorem eqv_int_int (a : Int) (b : Int) : D.eqv (.int a) (.int b) = (a == b) := by rw [D.eqv]
@[simp] theorem eqv_int_str (a : Int) (b : Str) : D.eqv (.int a) (.str b) = false := by rw [D.eqv] <;> simp
@[simp] theorem eqv_int_tup (a : Int) (b : List D) : D.eqv (.int a) (.tup b) = false := by rw [D.eqv] <;> simp
@[simp] theorem eqv_str_non (a : Str)  : D.eqv (.str a) (.non) = false := by rw [D.eqv] <;> simp
@[simp] theorem eqv_str_bl (a : Str) (b : Bool) : D.eqv (.str a) (.bl b) = false := by rw [D.eqv] <;> simp
@[simp] theorem eqv_str_int (a : Str) (b : Int) : D.eqv (.str a) (.int b) = false := by rw [D.eqv] <;> simp
@[simp] theorem eqv_str_str (a : Str) (b : Str) : D.eqv (.str a) (.str b) = (a == b) := by rw [D.eqv]
@[simp] theorem eqv_str_tup (a : Str) (b : List D) : D.eqv (.str a) (.tup b) = false := by rw [D.eqv] <;> simp
@[simp] theorem eqv_tup_non (a : List D)  : D.eqv (.tup a) (.non) = false := by rw [D.eqv] <;> simp
@[simp] theorem eqv_tup_bl (a : List D) (b : Bool) : D.eqv (.tup a) (.bl b) = false := by rw [D.eqv] <;> simp
@[simp] theorem eqv_tup_int (a : List D) (b : Int) : D.eqv (.tup a) (.int b) = false := by rw [D.eqv] <;> simp
@[simp] theorem eqv_tup_str (a : List D) (b : Str) : D.eqv (.tup a) (.str b) = false := by rw [D.eqv] <;> simp
@[simp] theorem eqv_tup_tup (a : List D) (b : List D) : D.eqv (.tup a) (.tup b) = D.eqvs a b := by rw [D.eqv]
@[simp] theorem eqvs_nil : D.eqvs [] [] = true := by rw [D.eqvs]
@[simp] theorem eqvs_cons (a b : D) (l m : List D) : D.eqvs (a :: l) (b :: m) = (D.eqv a b && D.eqvs l m) := by rw [D.eqvs]
@[simp] theorem eqvs_nc (b : D) (m : List D) : D.eqvs [] (b :: m) = false := by rw [D.eqvs] <;> simp
@[simp] theorem eqvs_cn (b : D) (m : List D) : D.eqvs (b :: m) [] = false := by rw [D.eqvs] <;> simp
@[simp] theorem any_def (d : D) (l : List D) : d.any l = l.any fun y => D.eqv y d := rfl
structure SsOk (ss : SS) : Prop where
  ne : ss.cells ≠ []
  nn : ∀ c ∈ ss.cells, (0 : Int) ≤ c
  l : 0 ≤ ss.left
  t : 0 ≤ ss.turn
theorem pow_18 : gPow (.int 10) (.int 18) = some (.int 1000000000000000000) := by rfl
theorem mulOk_r (i j : Int) (h : j.natAbs < 18446744073709551616) : mulOk i j = true := by
  unfold mulOk
  rw [decide_eq_true (show j.natAbs < 2 ^ 64 from h)]
  simp
theorem log2_lt (n : Nat) (h : n < 2 ^ 9000) : n.log2 < 9000 := by
  by_cases h0 : n = 0
  · subst h0; decide
  · exact (Nat.log2_lt h0).mpr h
theorem divOk_of (m : Int) (h : 0 < m) (h2 : m < 2 ^ 9000) : divOk m = true := by
  unfold divOk
  rw [decide_eq_true h, decide_eq_true (log2_lt m.natAbs (by omega))]
  rfl
theorem atI_cells {cells : List Int} {i : Int} (h : 0 ≤ i) (h2 : i < cells.length) : ∃ c, c ∈ cells ∧ atI (cells.map D.int) i = some (.int c) := by
  obtain ⟨n, rfl⟩ := Int.eq_ofNat_of_zero_le h
  have hn : n < cells.length := by omega
  refine ⟨cells[n], List.getElem_mem hn, atI_nat ?_⟩
  simp [hn]
def PickR (many : Int) : RF → Prop
  | .ok (.int r) ss' => 0 ≤ r ∧ r < many ∧ SsOk ss'
  | _ => False
theorem PickR_ok (many r : Int) (ss : SS) : PickR many (.ok (.int r) ss) = (0 ≤ r ∧ r < many ∧ SsOk ss) := rfl
theorem PickR.ex {many : Int} {x : RF} (h : PickR many x) : ∃ r ss', x = .ok (.int r) ss' ∧ 0 ≤ r ∧ r < many ∧ SsOk ss' := by
  match x, h with
  | .ok (.int r) ss', h => exact ⟨r, ss', rfl, h⟩
/-- the laws' draw -/
def e_pick : W → RS :=
  sCons (sIf (mB (mBin gGt (mSrc 0 1) (mC (.int 0)))) (
    sCons (sSet 2 (mSrc 0 1)) (
    sCons (sSrc 0 1 (mBin gDiv (mVar 2) (mVar 1))) (
    sCons (sRet (mBin gMod (mBlt gInt (mCons (mVar 2) (mNil))) (mVar 1))) (sNil)))) (sNil)) (
  sCons (sSet 3 (mSrc 0 2)) (
  sCons (sSrc 0 2 (mBin gAdd (mVar 3) (mC (.int 1)))) (
  sCons (sSet 4 (mSrc 0 0)) (
  sCons (sSet 5 (mBin gIx (mVar 4) (mBin gMod (mBlt gInt (mCons (mVar 3) (mNil))) (mBlt gLen (mCons (mVar 4) (mNil)))))) (
  sCons (sIf (mAndT (mB (mBin gGe (mVar 5) (mBin gPow (mC (.int 10)) (mC (.int 18))))) (mB (mBin gLt (mVar 3) (mBlt gLen (mCons (mVar 4) (mNil)))))) (
    sCons (sSrc 0 1 (mBin gDiv (mVar 5) (mVar 1))) (
    sCons (sRet (mBin gMod (mBlt gInt (mCons (mVar 5) (mNil))) (mVar 1))) (sNil))) (sNil)) (
  sCons (sSet 6 (mBin gMod (mBlt gInt (mCons (mBin gAdd (mBin gAdd (mBin gMul (mBin gMod (mBlt gInt (mCons (mVar 5) (mNil))) (mC (.int 2147483647))) (mC (.int 48271))) (mBin gMul (mVar 3) (mC (.int 69621)))) (mC (.int 40692))) (mNil))) (mC (.int 2147483399)))) (
  sCons (sSet 7 (mBin gMod (mBlt gInt (mCons (mBin gAdd (mBin gAdd (mBin gMul (mVar 6) (mBin gAdd (mBin gMod (mBlt gInt (mCons (mVar 6) (mNil))) (mC (.int 65537))) (mC (.int 3)))) (mBin gMul (mVar 3) (mC (.int 7919)))) (mC (.int 17))) (mNil))) (mC (.int 2147483647)))) (
  sCons (sRet (mBin gMod (mBlt gInt (mCons (mBin gDiv (mVar 7) (mC (.int 5))) (mNil))) (mVar 1))) (sNil)))))))))
def pickM : List D → SS → RF := fnM 8 e_pick
theorem pick_ok (ss : SS) (h : SsOk ss) (many : Int) (hm : 0 < many) (hb : many < 1000000) : PickR many (pickM [.src, .int many] ss) := by
  obtain ⟨cells, left, turn⟩ := ss
  obtain ⟨ne, nn, hl, ht⟩ := h
  simp only at ne nn hl ht
  have hd : divOk many = true := divOk_of many hm (Int.lt_trans hb (by decide +kernel))
  have hpos : (0 : Int) < cells.length := by
    cases cells with
    | nil => exact absurd rfl ne
    | cons a l => simp only [List.length_cons]; omega
  have hposN : 0 < cells.length := by omega
  by_cases h1 : 0 < left
  · have h2 : 0 ≤ left / many := Int.ediv_nonneg hl (by omega)
    simp [pickM, e_pick, mSrc, sSrc, h1, hm, hd, h2, PickR_ok]
    exact ⟨Int.emod_nonneg _ (by omega), Int.emod_lt_of_pos _ hm, ⟨ne, nn, h2, ht⟩⟩
  · obtain ⟨c, hc, hc2⟩ := atI_cells (cells := cells) (i := turn % cells.length) (Int.emod_nonneg _ (by omega)) (Int.emod_lt_of_pos _ hpos)
    have hc0 := nn c hc
    have ht1 : 0 ≤ turn + 1 := by omega
    have d5 : divOk 5 = true := by decide +kernel
    have mA : ∀ i : Int, mulOk i 48271 = true := fun i => mulOk_r i _ (by decide)
    have mB : ∀ i : Int, mulOk i 69621 = true := fun i => mulOk_r i _ (by decide)
    have mC : ∀ i : Int, mulOk i 7919 = true := fun i => mulOk_r i _ (by decide)
    have mD : ∀ i j : Int, mulOk i (j % 65537 + 3) = true := fun i j => mulOk_r i _ (by have := Int.emod_nonneg j (show (65537 : Int) ≠ 0 by decide); have := Int.emod_lt_of_pos j (show (0 : Int) < 65537 by decide); omega)
    by_cases h3 : 1000000000000000000 ≤ c
    · by_cases h4 : turn < cells.length
      · have h2 : 0 ≤ c / many := Int.ediv_nonneg hc0 (by omega)
        simp [pickM, e_pick, mSrc, sSrc, h1, hm, hd, h2, ht1, hposN, hc2, pow_18, h3, h4, PickR_ok]
        exact ⟨Int.emod_nonneg _ (by omega), Int.emod_lt_of_pos _ hm, ⟨ne, nn, h2, ht1⟩⟩
      · simp [PickR_ok, pickM, e_pick, mSrc, sSrc, h1, hm, hd, ht1, hposN, hc2, pow_18, h3, h4, d5, mA, mB, mC, mD]
        exact ⟨Int.emod_nonneg _ (by omega), Int.emod_lt_of_pos _ hm, ⟨ne, nn, hl, ht1⟩⟩
    · simp [PickR_ok, pickM, e_pick, mSrc, sSrc, h1, hm, hd, ht1, hposN, hc2, pow_18, h3, d5, mA, mB, mC, mD]
      exact ⟨Int.emod_nonneg _ (by omega), Int.emod_lt_of_pos _ hm, ⟨ne, nn, hl, ht1⟩⟩
theorem rngD_nil {a b : Int} (h : b ≤ a) : rngD a b = [] := by
  unfold rngD
  rw [show (b - a).toNat = 0 by omega]
  rfl
theorem rngD_cons {a b : Int} (h : a < b) : rngD a b = .int a :: rngD (a + 1) b := by
  unfold rngD
  rw [show (b - a).toNat = (b - (a + 1)).toNat + 1 by omega, List.range_succ_eq_map, List.map_cons, List.map_map]
  congr 1
  · congr 1; simp
  · apply List.map_congr_left
    intro i _
    simp only [Function.comp]
    congr 1
    push_cast
    omega
@[simp] theorem okbl (w : W) (b : Bool) : (R.lift (D.bl b).b? w) = .ok b w := rfl
/-! ### comprehensions -/
def lcStep (vs : List Nat) (set : D → W → Option W) (mt : W → R Bool) (me : W → R D) (d : D) (w : W) : R (Option D) := match set d w with
  | none => .stuck
  | some w1 => (mt w1).nox.bind fun b w2 => if b = true then (me w2).nox.bind fun y w3 => .ok (some y) { w3 with env := wipeE w3.env vs } else .ok none { w2 with env := wipeE w2.env vs }
theorem lcGo_step (vs : List Nat) (set : D → W → Option W) (mt : W → R Bool) (me : W → R D) (d : D) (ds acc : List D) (w : W) : lcGo vs set mt me (d :: ds) acc w = (lcStep vs set mt me d w).bind fun o w' => match o with
    | some y => if acc.length < 1000000 then lcGo vs set mt me ds (acc ++ [y]) w' else .stuck
    | none => lcGo vs set mt me ds acc w' := by
  rw [lcGo_cons]
  unfold lcStep
  cases set d w with
  | none => rfl
  | some w1 =>
    show (mt w1).nox.bind _ = ((mt w1).nox.bind _).bind _
    cases mt w1 with
    | ok b w2 =>
      cases b with
      | true =>
        show (me w2).nox.bind _ = ((me w2).nox.bind _).bind _
        cases me w2 <;> rfl
      | false => rfl
    | _ => rfl
theorem lc_pure {vs : List Nat} {set : D → W → Option W} {mt : W → R Bool} {me : W → R D} (h : D → Option D) (w : W) : ∀ (ds acc : List D), (∀ d ∈ ds, lcStep vs set mt me d w = .ok (h d) w) → acc.length + ds.length ≤ 1000000 → lcGo vs set mt me ds acc w = .ok (acc ++ ds.filterMap h) w
  | [], acc, _, _ => by simp
  | d :: ds, acc, hs, hl => by
    rw [lcGo_step, hs d (List.mem_cons_self ..)]
    have ih := fun a => lc_pure h w ds a (fun e he => hs e (List.mem_cons_of_mem _ he))
    simp only [List.length_cons] at hl
    show (match h d with
      | some y => if acc.length < 1000000 then lcGo vs set mt me ds (acc ++ [y]) w else .stuck
      | none => lcGo vs set mt me ds acc w) = _
    cases e : h d with
    | none =>
      rw [List.filterMap_cons_none e]
      exact ih acc (by omega)
    | some y =>
      rw [List.filterMap_cons_some e]
      show (if acc.length < 1000000 then _ else _) = _
      rw [if_pos (by omega), ih (acc ++ [y]) (by simp; omega)]
      simp
/-- each element is made of draws -/
theorem lc_draw {vs : List Nat} {set : D → W → Option W} {mt : W → R Bool} {me : W → R D} (P : SS → Prop) (Q : D → D → Prop) (env : TD.Env) : ∀ (ds acc : List D) (ss : SS), P ss → (∀ d ∈ ds, ∀ ss, P ss → ∃ y ss', lcStep vs set mt me d ⟨env, ss⟩ = .ok (some y) ⟨env, ss'⟩ ∧ P ss' ∧ Q d y) → acc.length + ds.length ≤ 1000000 →
    ∃ (ys : List D) (ss' : SS), lcGo vs set mt me ds acc ⟨env, ss⟩ = .ok (acc ++ ys) ⟨env, ss'⟩ ∧ P ss' ∧ ys.length = ds.length ∧ ∀ (i : Nat) (d y : D), ds[i]? = some d → ys[i]? = some y → Q d y
  | [], acc, ss, hp, _, _ => ⟨[], ss, by simp, hp, rfl, fun i d y h => by simp at h⟩
  | d :: ds, acc, ss, hp, hs, hl => by
    obtain ⟨y, ss1, e1, hp1, hq⟩ := hs d (List.mem_cons_self ..) ss hp
    simp only [List.length_cons] at hl
    obtain ⟨ys, ss2, e2, hp2, hl2, hq2⟩ := lc_draw P Q env ds (acc ++ [y]) ss1 hp1 (fun e he => hs e (List.mem_cons_of_mem _ he)) (by simp; omega)
    refine ⟨y :: ys, ss2, ?_, hp2, by simp [hl2], fun i d' y' h1 h2 => ?_⟩
    · rw [lcGo_step, e1]
      show (if acc.length < 1000000 then _ else _) = _
      rw [if_pos (by omega), e2]
      simp
    · cases i with
      | zero => simp at h1 h2; subst h1 h2; exact hq
      | succ i => exact hq2 i d' y' (by simpa using h1) (by simpa using h2)
theorem ints_map : ∀ L : List Int, ints? (L.map .int) = some L
  | [] => rfl
  | a :: L => by rw [List.map_cons, ints?, ints_map L]; rfl
theorem gMax_map {α : Type} (l : List α) (f : α → Nat) (m : Nat) (hm : ∀ a ∈ l, f a ≤ m) (hx : ∃ a ∈ l, f a = m) : gMax [.lst (l.map fun a => .int (f a))] = some (.int m) := by
  have e : l.map (fun a => D.int (f a)) = (l.map fun a => (f a : Int)).map .int := by simp
  obtain ⟨a, ha, hfa⟩ := hx
  have h1 : (m : Int) ∈ l.map fun a => (f a : Int) := List.mem_map.mpr ⟨a, ha, by rw [hfa]⟩
  have h2 := maxL_eq h1 (fun y hy => by obtain ⟨b, hb, rfl⟩ := List.mem_map.mp hy; have := hm b hb; omega)
  rw [e]
  unfold gMax
  simp only [ints_map]
  cases hL : l.map fun a => (f a : Int) with
  | nil => rw [hL] at h1; cases h1
  | cons b r => rw [hL] at h2; rw [h2]

/-! ### parts of rows -/
theorem cutD_from (l : List D) (k : Nat) : TD.cutD l (some (k : Int)) none = l.drop k := by
  unfold TD.cutD
  rw [HT.sIx_nat, HT.sIx_none]
  by_cases h : k ≤ l.length
  · rw [Nat.min_eq_left h]
    exact List.take_of_length_le (by simp)
  · rw [Nat.min_eq_right (by omega), List.drop_eq_nil_of_le (Nat.le_refl _), List.drop_eq_nil_of_le (by omega)]
    simp
theorem cutD_to (l : List D) (k : Nat) : TD.cutD l none (some (k : Int)) = l.take k := by
  unfold TD.cutD
  rw [HT.sIx_nat, HT.sIx_none]
  simp
theorem atI_map {α β : Type} (f : α → β) (l : List α) (i : Int) : atI (l.map f) i = (atI l i).map f := by
  unfold atI
  rw [List.length_map]
  cases ixN l.length i <;> simp
theorem atI_mem {α : Type} (l : List α) (i : Int) (h : 0 ≤ i) (h2 : i < l.length) : ∃ a, a ∈ l ∧ atI l i = some a := by
  obtain ⟨n, rfl⟩ := Int.eq_ofNat_of_zero_le h
  have hn : n < l.length := by omega
  exact ⟨l[n], List.getElem_mem hn, atI_nat (by simp [hn])⟩
theorem atI_pre {α : Type} (pre : List α) (x : α) (xs : List α) (i : Int) (h : i = pre.length) : atI (pre ++ x :: xs) i = some x := by
  subst h
  exact atI_nat (by simp)
@[simp] theorem cutD_one (l : List D) : TD.cutD l (some 1) none = l.drop 1 := cutD_from l 1
theorem small_le {i : Int} (h1 : -1000000 ≤ i) (h2 : i ≤ 1000000) : small i = true := by
  rw [small_eq]
  omega
theorem small_len {n : Nat} (h2 : n ≤ 1000000) : small (n : Int) = true := small_le (by omega) (by omega)
theorem small_len1 {n : Nat} (h2 : n ≤ 100000) : small ((n : Int) + 1) = true := small_le (by omega) (by omega)
@[simp] theorem small_0 : small 0 = true := by decide
@[simp] theorem small_1 : small 1 = true := by decide
@[simp] theorem small_2 : small 2 = true := by decide
@[simp] theorem small_3 : small 3 = true := by decide
@[simp] theorem small_4 : small 4 = true := by decide
@[simp] theorem small_6 : small 6 = true := by decide
@[simp] theorem okb_tup (n : Nat) (l : List D) : (D.tup l).okb (n + 1) = D.oks n l := rfl
@[simp] theorem okb_lst (n : Nat) (l : List D) : (D.lst l).okb (n + 1) = D.oks n l := rfl
@[simp] theorem okb64_tup (l : List D) : (D.tup l).okb 64 = D.oks 63 l := rfl
@[simp] theorem okb63_tup (l : List D) : (D.tup l).okb 63 = D.oks 62 l := rfl
@[simp] theorem okb62_tup (l : List D) : (D.tup l).okb 62 = D.oks 61 l := rfl
@[simp] theorem okb61_tup (l : List D) : (D.tup l).okb 61 = D.oks 60 l := rfl
@[simp] theorem okb64_lst (l : List D) : (D.lst l).okb 64 = D.oks 63 l := rfl
@[simp] theorem okb63_lst (l : List D) : (D.lst l).okb 63 = D.oks 62 l := rfl
@[simp] theorem oks_nil (n : Nat) : D.oks n [] = true := by cases n <;> rfl
@[simp] theorem oks_cons (n : Nat) (d : D) (l : List D) : D.oks n (d :: l) = (d.okb n && D.oks n l) := by cases n <;> rfl
@[simp] theorem oks_ints (n : Nat) : ∀ l : List Int, D.oks n (l.map D.int) = true
  | [] => oks_nil n
  | i :: l => by simp [oks_ints n l]
mutual
theorem eqv_self : ∀ (d : D) (n : Nat), d.okb n = true → D.eqv d d = true
  | .non, _, _ => by simp
  | .bl _, _, _ => by simp
  | .int _, _, _ => by simp
  | .str _, _, _ => by simp
  | .src, n, h => by cases n <;> simp [D.okb] at h
  | .tup l, n, h => by
    cases n with
    | zero => simp [D.okb] at h
    | succ n => rw [D.eqv]; exact eqvs_self l n h
  | .lst l, n, h => by
    cases n with
    | zero => simp [D.okb] at h
    | succ n => rw [D.eqv]; exact eqvs_self l n h
theorem eqvs_self : ∀ (l : List D) (n : Nat), D.oks n l = true → D.eqvs l l = true
  | [], _, _ => by simp
  | d :: l, n, h => by
    rw [oks_cons] at h
    have h' := Bool.and_eq_true_iff.mp h
    simp [eqv_self d n h'.1, eqvs_self l n h'.2]
end
theorem gNe_self {d : D} (h : d.okb 64 = true) : gNe d d = some (.bl false) := by simp [h, eqv_self d 64 h]
theorem gEq_self {d : D} (h : d.okb 64 = true) : gEq d d = some (.bl true) := by simp [h, eqv_self d 64 h]
theorem rng_map (n : Nat) (f : D → Option D) (g : Nat → D) (h : ∀ i < n, f (.int (i : Nat)) = some (g i)) : (rngD 0 n).filterMap f = (List.range n).map g := by
  unfold rngD
  rw [show ((n : Int) - 0).toNat = n by omega, List.filterMap_map]
  have : ∀ L : List Nat, (∀ i ∈ L, i < n) → L.filterMap (f ∘ fun (i : Nat) => D.int (0 + (i : Int))) = L.map g := by
    intro L
    induction L with
    | nil => intro _; rfl
    | cons i L ih =>
      intro hL
      rw [List.filterMap_cons_some (b := g i) (by simp [h i (hL i (List.mem_cons_self ..))]), ih fun j hj => hL j (List.mem_cons_of_mem _ hj), List.map_cons]
  exact this _ fun i hi => by simpa using hi
theorem rng_mem {n : Nat} {d : D} (h : d ∈ rngD 0 n) : ∃ i : Nat, i < n ∧ d = .int i := by
  unfold rngD at h
  obtain ⟨i, hi, rfl⟩ := List.mem_map.mp h
  exact ⟨i, by simpa using hi, by simp⟩
/-- [e for v in range(n)] -/
theorem lc_rng {v : Nat} {me : W → R D} (g : Nat → D) (env : TD.Env) (n : Nat) (hn : n ≤ 1000000) (ss : SS) (h : ∀ i : Nat, i < n → lcStep [v] (gsName v) mYes me (.int i) ⟨env, ss⟩ = .ok (some (g i)) ⟨env, ss⟩) :
    lcGo [v] (gsName v) mYes me (rngD 0 n) [] ⟨env, ss⟩ = .ok ((List.range n).map g) ⟨env, ss⟩ := by
  have q := lc_pure (vs := [v]) (set := gsName v) (mt := mYes) (me := me) (fun d => match d with | .int i => some (g i.toNat) | _ => none) ⟨env, ss⟩ (rngD 0 n) [] (fun d hd => by
    obtain ⟨i, hi, rfl⟩ := rng_mem hd
    simpa using h i hi) (by simp [rngD]; omega)
  rw [rng_map n _ g (fun i hi => by simp)] at q
  rw [q]
  simp
/-- one statement, then the rest -/
theorem nxtF {s k : W → RS} {w w' : W} {X : RF} (h : s w = .nx w') (h2 : (k w').fin = X) : (sCons s k w).fin = X := by
  show ((s w).bind k).fin = X
  rw [h]; exact h2
theorem nxtR {s k : W → RS} {w w' : W} {X : RS} (h : s w = .nx w') (h2 : k w' = X) : sCons s k w = X := by
  show (s w).bind k = X
  rw [h]; exact h2
theorem nxt {s k : W → RS} {w w' : W} {d : D} (h : s w = .nx w') (h2 : ∃ w2, k w' = .ret d w2) : ∃ w2, sCons s k w = .ret d w2 := by
  obtain ⟨w2, e⟩ := h2
  exact ⟨w2, by show (s w).bind k = _; rw [h]; exact e⟩
theorem cutD_from1 (l : List D) (k : Nat) : TD.cutD l (some ((k : Int) + 1)) none = l.drop (k + 1) := cutD_from l (k + 1)
@[simp] theorem cutD_240 (l : List D) : TD.cutD l none (some 240) = l.take 240 := cutD_to l 240
@[simp] theorem bind_sNil (r : RS) : r.bind sNil = r := by cases r <;> rfl
theorem lcGo_first {vs : List Nat} {set : D → W → Option W} {mt : W → R Bool} {me : W → R D} {w w' : W} {d : D} {ds acc : List D} (h : lcStep vs set mt me d w = lcStep vs set mt me d w') : lcGo vs set mt me (d :: ds) acc w = lcGo vs set mt me (d :: ds) acc w' := by
  rw [lcGo_step, lcGo_step, h]
/-- return f(..) -/
@[simp] theorem toR_ret (r : RF) (w : W) : ((r.toR w).toS fun d w' => RS.ret d w').fin = r := by cases r <;> rfl
@[simp] theorem eqv_lst_lst (a b : List D) : D.eqv (.lst a) (.lst b) = D.eqvs a b := by rw [D.eqv]
@[simp] theorem eqv_lst_tup (a b : List D) : D.eqv (.lst a) (.tup b) = false := by rw [D.eqv] <;> simp
@[simp] theorem eqv_tup_lst (a b : List D) : D.eqv (.tup a) (.lst b) = false := by rw [D.eqv] <;> simp
@[simp] theorem eqv_lst_non (a : List D) : D.eqv (.lst a) .non = false := by rw [D.eqv] <;> simp
@[simp] theorem eqv_non_lst (a : List D) : D.eqv .non (.lst a) = false := by rw [D.eqv] <;> simp
@[simp] theorem cutD_to1 (l : List D) : TD.cutD l none (some 1) = l.take 1 := cutD_to l 1
end TP

set_option Elab.async false
set_option linter.all false
set_option maxRecDepth 100000
set_option maxHeartbeats 4000000
namespace K02
open PySem PySem.Spec PyProof.Rows L2 TD
def hx : HxT := [(("BadValue", "BadValue"), true), (("BadValue", "BadText"), false), (("BadValue", "TooMany"), false), (("BadValue", "Unlike"), false), (("BadValue", "Unknown"), false), (("BadValue", "BadPaper"), false), (("BadValue", "TalkError"), true), (("BadValue", "ValueError"), true)]
@[simp] theorem hx_BadValue_BadValue : xT hx "BadValue" "BadValue" = some true := by decide +kernel
@[simp] theorem hx_BadValue_BadText : xT hx "BadText" "BadValue" = some false := by decide +kernel
@[simp] theorem hx_BadValue_TooMany : xT hx "TooMany" "BadValue" = some false := by decide +kernel
@[simp] theorem hx_BadValue_Unlike : xT hx "Unlike" "BadValue" = some false := by decide +kernel
@[simp] theorem hx_BadValue_Unknown : xT hx "Unknown" "BadValue" = some false := by decide +kernel
@[simp] theorem hx_BadValue_BadPaper : xT hx "BadPaper" "BadValue" = some false := by decide +kernel
@[simp] theorem hx_BadValue_TalkError : xT hx "TalkError" "BadValue" = some true := by decide +kernel
@[simp] theorem hx_BadValue_ValueError : xT hx "ValueError" "BadValue" = some true := by decide +kernel
def t_common_0 : W → R Bool := mTru (mVar 1)
def b_common_0 : W → RS := 
    sCons (sPar 0 1 (mCons (mVar 1) (mCons (mBin gSub (mVar 0) (mBin gMul (mVar 1) (mBin gDiv (mVar 0) (mVar 1)))) (mNil)))) (sNil)
def e_common : W → RS := 
  sCons (sPar 0 1 (mCons (mBlt gAbs (mCons (mVar 0) (mNil))) (mCons (mBlt gAbs (mCons (mVar 1) (mNil))) (mNil)))) (
  sCons (sWhile (t_common_0) (b_common_0)) (
  sCons (sRet (mVar 0)) (sNil)))
def m_common : List D → SS → RF := fnM 2 e_common
def e_share : W → RS := 
  sCons (sIf (mB (mBin gEq (mVar 1) (mC (.int 0)))) (
    sCons (sRaise "BadValue" "what" (mCons (mC (.str "share")) (mNil))) (sNil)) (sNil)) (
  sCons (sIf (mB (mBin gLt (mVar 1) (mC (.int 0)))) (
    sCons (sPar 0 1 (mCons (mUn gNeg (mVar 0)) (mCons (mUn gNeg (mVar 1)) (mNil)))) (sNil)) (sNil)) (
  sCons (sSet 2 (mCall 2 m_common (mCons (mVar 0) (mCons (mVar 1) (mNil))))) (
  sCons (sRet (mTup (mCons (mBin gDiv (mVar 0) (mVar 2)) (mCons (mBin gDiv (mVar 1) (mVar 2)) (mNil))))) (sNil))))
def m_share : List D → SS → RF := fnM 3 e_share
def e_plus : W → RS := 
  sCons (sRet (mCall 2 m_share (mCons (mBin gAdd (mBin gMul (mBin gIx (mVar 0) (mC (.int 0))) (mBin gIx (mVar 1) (mC (.int 1)))) (mBin gMul (mBin gIx (mVar 1) (mC (.int 0))) (mBin gIx (mVar 0) (mC (.int 1))))) (mCons (mBin gMul (mBin gIx (mVar 0) (mC (.int 1))) (mBin gIx (mVar 1) (mC (.int 1)))) (mNil))))) (sNil)
def m_plus : List D → SS → RF := fnM 2 e_plus
def e_minus : W → RS := 
  sCons (sRet (mCall 2 m_share (mCons (mBin gSub (mBin gMul (mBin gIx (mVar 0) (mC (.int 0))) (mBin gIx (mVar 1) (mC (.int 1)))) (mBin gMul (mBin gIx (mVar 1) (mC (.int 0))) (mBin gIx (mVar 0) (mC (.int 1))))) (mCons (mBin gMul (mBin gIx (mVar 0) (mC (.int 1))) (mBin gIx (mVar 1) (mC (.int 1)))) (mNil))))) (sNil)
def m_minus : List D → SS → RF := fnM 2 e_minus
def e_multiplied : W → RS := 
  sCons (sRet (mCall 2 m_share (mCons (mBin gMul (mBin gIx (mVar 0) (mC (.int 0))) (mBin gIx (mVar 1) (mC (.int 0)))) (mCons (mBin gMul (mBin gIx (mVar 0) (mC (.int 1))) (mBin gIx (mVar 1) (mC (.int 1)))) (mNil))))) (sNil)
def m_multiplied : List D → SS → RF := fnM 2 e_multiplied
def e_divided : W → RS := 
  sCons (sRet (mCall 2 m_share (mCons (mBin gMul (mBin gIx (mVar 0) (mC (.int 0))) (mBin gIx (mVar 1) (mC (.int 1)))) (mCons (mBin gMul (mBin gIx (mVar 0) (mC (.int 1))) (mBin gIx (mVar 1) (mC (.int 0)))) (mNil))))) (sNil)
def m_divided : List D → SS → RF := fnM 2 e_divided
def e_below : W → RS := 
  sCons (sRet (mBin gLt (mBin gMul (mBin gIx (mVar 0) (mC (.int 0))) (mBin gIx (mVar 1) (mC (.int 1)))) (mBin gMul (mBin gIx (mVar 1) (mC (.int 0))) (mBin gIx (mVar 0) (mC (.int 1)))))) (sNil)
def m_below : List D → SS → RF := fnM 2 e_below
def g_total_0 : D → W → Option W := gsName 2
def b_total_0 : W → RS := 
    sCons (sSet 1 (mCall 2 m_plus (mCons (mVar 1) (mCons (mVar 2) (mNil))))) (sNil)
def e_total : W → RS := 
  sCons (sSet 1 (mC (.tup [(.int 0), (.int 1)]))) (
  sCons (sFor (mItems (mVar 0)) (g_total_0) (b_total_0)) (
  sCons (sRet (mVar 1)) (sNil)))
def m_total : List D → SS → RF := fnM 3 e_total
def e_ceiling : W → RS := 
  sCons (sRet (mUn gNeg (mBin gDiv (mUn gNeg (mBin gIx (mVar 0) (mC (.int 0)))) (mBin gIx (mVar 0) (mC (.int 1)))))) (sNil)
def m_ceiling : List D → SS → RF := fnM 1 e_ceiling
def g_is_share_0 : D → W → Option W := gsName 1
def b_is_share_0 : W → RS := 
    sCons (sIf (mOrT (mNotT (mTru (mIsi "int" (mVar 1)))) (mTru (mIsi "bool" (mVar 1)))) (
      sCons (sRet (mC (.bl false))) (sNil)) (sNil)) (sNil)
def e_is_share : W → RS := 
  sCons (sIf (mOrT (mNotT (mTru (mIsi "tuple" (mVar 0)))) (mB (mBin gNe (mBlt gLen (mCons (mVar 0) (mNil))) (mC (.int 2))))) (
    sCons (sRet (mC (.bl false))) (sNil)) (sNil)) (
  sCons (sFor (mItems (mVar 0)) (g_is_share_0) (b_is_share_0)) (
  sCons (sRet (mAndV (mBin gGt (mBin gIx (mVar 0) (mC (.int 1))) (mC (.int 0))) (mBin gEq (mCall 2 m_common (mCons (mBin gIx (mVar 0) (mC (.int 0))) (mCons (mBin gIx (mVar 0) (mC (.int 1))) (mNil)))) (mC (.int 1))))) (sNil)))
def m_is_share : List D → SS → RF := fnM 2 e_is_share
def e__law_pick : W → RS := 
  sCons (sIf (mB (mBin gGt (mSrc 0 1) (mC (.int 0)))) (
    sCons (sSet 2 (mSrc 0 1)) (
    sCons (sSrc 0 1 (mBin gDiv (mVar 2) (mVar 1))) (
    sCons (sRet (mBin gMod (mBlt gInt (mCons (mVar 2) (mNil))) (mVar 1))) (sNil)))) (sNil)) (
  sCons (sSet 3 (mSrc 0 2)) (
  sCons (sSrc 0 2 (mBin gAdd (mVar 3) (mC (.int 1)))) (
  sCons (sSet 4 (mSrc 0 0)) (
  sCons (sSet 5 (mBin gIx (mVar 4) (mBin gMod (mBlt gInt (mCons (mVar 3) (mNil))) (mBlt gLen (mCons (mVar 4) (mNil)))))) (
  sCons (sIf (mAndT (mB (mBin gGe (mVar 5) (mBin gPow (mC (.int 10)) (mC (.int 18))))) (mB (mBin gLt (mVar 3) (mBlt gLen (mCons (mVar 4) (mNil)))))) (
    sCons (sSrc 0 1 (mBin gDiv (mVar 5) (mVar 1))) (
    sCons (sRet (mBin gMod (mBlt gInt (mCons (mVar 5) (mNil))) (mVar 1))) (sNil))) (sNil)) (
  sCons (sSet 6 (mBin gMod (mBlt gInt (mCons (mBin gAdd (mBin gAdd (mBin gMul (mBin gMod (mBlt gInt (mCons (mVar 5) (mNil))) (mC (.int 2147483647))) (mC (.int 48271))) (mBin gMul (mVar 3) (mC (.int 69621)))) (mC (.int 40692))) (mNil))) (mC (.int 2147483399)))) (
  sCons (sSet 7 (mBin gMod (mBlt gInt (mCons (mBin gAdd (mBin gAdd (mBin gMul (mVar 6) (mBin gAdd (mBin gMod (mBlt gInt (mCons (mVar 6) (mNil))) (mC (.int 65537))) (mC (.int 3)))) (mBin gMul (mVar 3) (mC (.int 7919)))) (mC (.int 17))) (mNil))) (mC (.int 2147483647)))) (
  sCons (sRet (mBin gMod (mBlt gInt (mCons (mBin gDiv (mVar 7) (mC (.int 5))) (mNil))) (mVar 1))) (sNil)))))))))
def m__law_pick : List D → SS → RF := fnM 8 e__law_pick
def e__law_is_int : W → RS := 
  sCons (sRet (mAndV (mIsi "int" (mVar 0)) (mNotV (mIsi "bool" (mVar 0))))) (sNil)
def m__law_is_int : List D → SS → RF := fnM 1 e__law_is_int
def t__law_is_share_0 : W → R Bool := mB (mBin gGt (mVar 2) (mC (.int 0)))
def b__law_is_share_0 : W → RS := 
    sCons (sPar 1 2 (mCons (mVar 2) (mCons (mBin gMod (mBlt gInt (mCons (mVar 1) (mNil))) (mVar 2)) (mNil)))) (sNil)
def e__law_is_share : W → RS := 
  sCons (sIf (mOrT (mNotT (mTru (mIsi "tuple" (mVar 0)))) (mB (mBin gNe (mBlt gLen (mCons (mVar 0) (mNil))) (mC (.int 2))))) (
    sCons (sRet (mC (.bl false))) (sNil)) (sNil)) (
  sCons (sIf (mOrT (mNotT (mTru (mCall 1 m__law_is_int (mCons (mBin gIx (mVar 0) (mC (.int 0))) (mNil))))) (mOrT (mNotT (mTru (mCall 1 m__law_is_int (mCons (mBin gIx (mVar 0) (mC (.int 1))) (mNil))))) (mB (mBin gLt (mBin gIx (mVar 0) (mC (.int 1))) (mC (.int 1)))))) (
    sCons (sRet (mC (.bl false))) (sNil)) (sNil)) (
  sCons (sPar 1 2 (mCons (mBlt gAbs (mCons (mBin gIx (mVar 0) (mC (.int 0))) (mNil))) (mCons (mBin gIx (mVar 0) (mC (.int 1))) (mNil)))) (
  sCons (sWhile (t__law_is_share_0) (b__law_is_share_0)) (
  sCons (sRet (mBin gEq (mVar 1) (mC (.int 1)))) (sNil)))))
def m__law_is_share : List D → SS → RF := fnM 3 e__law_is_share
def e__law_said : W → RS := 
  sCons (sIf (mTru (mVar 1)) (
    sCons (sRet (mBin gIs (mVar 0) (mC (.bl true)))) (sNil)) (sNil)) (
  sCons (sRet (mBin gIs (mVar 0) (mC (.bl false)))) (sNil))
def m__law_said : List D → SS → RF := fnM 2 e__law_said
def t__law_lowest_0 : W → R Bool := mB (mBin gGt (mVar 3) (mC (.int 0)))
def b__law_lowest_0 : W → RS := 
    sCons (sPar 2 3 (mCons (mVar 3) (mCons (mBin gMod (mBlt gInt (mCons (mVar 2) (mNil))) (mVar 3)) (mNil)))) (sNil)
def e__law_lowest : W → RS := 
  sCons (sPar 2 3 (mCons (mBlt gAbs (mCons (mVar 0) (mNil))) (mCons (mBlt gAbs (mCons (mVar 1) (mNil))) (mNil)))) (
  sCons (sWhile (t__law_lowest_0) (b__law_lowest_0)) (
  sCons (sIf (mB (mBin gLt (mVar 1) (mC (.int 0)))) (
    sCons (sPar 0 1 (mCons (mBin gSub (mC (.int 0)) (mVar 0)) (mCons (mBin gSub (mC (.int 0)) (mVar 1)) (mNil)))) (sNil)) (sNil)) (
  sCons (sRet (mTup (mCons (mBin gDiv (mVar 0) (mVar 2)) (mCons (mBin gDiv (mVar 1) (mVar 2)) (mNil))))) (sNil))))
def m__law_lowest : List D → SS → RF := fnM 4 e__law_lowest
def e__law_stands : W → RS := 
  sCons (sRet (mAndV (mCall 1 m__law_is_share (mCons (mVar 0) (mNil))) (mBin gEq (mBin gMul (mBin gIx (mVar 0) (mC (.int 0))) (mVar 2)) (mBin gMul (mVar 1) (mBin gIx (mVar 0) (mC (.int 1))))))) (sNil)
def m__law_stands : List D → SS → RF := fnM 3 e__law_stands
def g__law_integer_0 : D → W → Option W := gsName 2
def b__law_integer_0 : W → RS := 
      sCons (sSet 1 (mBin gAdd (mBin gMul (mVar 1) (mC (.int 1000))) (mCall 2 m__law_pick (mCons (mVar 0) (mCons (mC (.int 1000)) (mNil)))))) (sNil)
def e__law_integer : W → RS := 
  sCons (sSet 1 (mCall 2 m__law_pick (mCons (mVar 0) (mCons (mC (.int 7)) (mNil))))) (
  sCons (sIf (mB (mBin gEq (mCall 2 m__law_pick (mCons (mVar 0) (mCons (mC (.int 3)) (mNil)))) (mC (.int 0)))) (
    sCons (sFor (mRng1 (mCons (mBin gAdd (mC (.int 1)) (mCall 2 m__law_pick (mCons (mVar 0) (mCons (mC (.int 12)) (mNil))))) (mNil))) (g__law_integer_0) (b__law_integer_0)) (sNil)) (sNil)) (
  sCons (sRet (mIfE (mB (mBin gEq (mCall 2 m__law_pick (mCons (mVar 0) (mCons (mC (.int 2)) (mNil)))) (mC (.int 0)))) (mVar 1) (mBin gSub (mC (.int 0)) (mVar 1)))) (sNil)))
def m__law_integer : List D → SS → RF := fnM 3 e__law_integer
def e__law_fraction : W → RS := 
  sCons (sSet 1 (mCall 1 m__law_integer (mCons (mVar 0) (mNil)))) (
  sCons (sIf (mB (mBin gEq (mVar 1) (mC (.int 0)))) (
    sCons (sSet 1 (mBin gAdd (mC (.int 1)) (mCall 2 m__law_pick (mCons (mVar 0) (mCons (mC (.int 9)) (mNil)))))) (sNil)) (sNil)) (
  sCons (sRet (mTup (mCons (mCall 1 m__law_integer (mCons (mVar 0) (mNil))) (mCons (mVar 1) (mNil))))) (sNil)))
def m__law_fraction : List D → SS → RF := fnM 2 e__law_fraction
def e__law_mate : W → RS := 
  sCons (sSet 2 (mCall 2 m__law_pick (mCons (mVar 0) (mCons (mC (.int 5)) (mNil))))) (
  sCons (sIf (mB (mBin gEq (mVar 2) (mC (.int 0)))) (
    sCons (sRet (mVar 1)) (sNil)) (sNil)) (
  sCons (sIf (mB (mBin gEq (mVar 2) (mC (.int 1)))) (
    sCons (sRet (mTup (mCons (mBin gSub (mC (.int 0)) (mBin gIx (mVar 1) (mC (.int 0)))) (mCons (mBin gIx (mVar 1) (mC (.int 1))) (mNil))))) (sNil)) (sNil)) (
  sCons (sIf (mB (mBin gEq (mVar 2) (mC (.int 2)))) (
    sCons (sSet 3 (mBin gAdd (mC (.int 1)) (mBin gMul (mCall 2 m__law_pick (mCons (mVar 0) (mCons (mC (.int 1000)) (mNil)))) (mCall 2 m__law_pick (mCons (mVar 0) (mCons (mC (.int 1000)) (mNil))))))) (
    sCons (sRet (mCall 2 m__law_lowest (mCons (mBin gSub (mBin gAdd (mBin gMul (mBin gIx (mVar 1) (mC (.int 0))) (mVar 3)) (mC (.int 1))) (mBin gMul (mC (.int 2)) (mCall 2 m__law_pick (mCons (mVar 0) (mCons (mC (.int 2)) (mNil)))))) (mCons (mBin gMul (mBin gIx (mVar 1) (mC (.int 1))) (mVar 3)) (mNil))))) (sNil))) (sNil)) (
  sCons (sAsg (gsTup 2 (gsCons (gsName 4) (gsCons (gsName 5) (gsNil)))) (mCall 1 m__law_fraction (mCons (mVar 0) (mNil)))) (
  sCons (sRet (mCall 2 m__law_lowest (mCons (mVar 4) (mCons (mVar 5) (mNil))))) (sNil))))))
def m__law_mate : List D → SS → RF := fnM 6 e__law_mate
def e__law_refused : W → RS := 
  sCons (sTryL [(xT hx "BadValue", some 3, 
    sCons (sIf (mTru (mIsX 3 (anyX [(xT hx "BadText"), (xT hx "TooMany"), (xT hx "Unlike"), (xT hx "Unknown"), (xT hx "BadPaper")]))) (
      sCons (sRet (mC (.bl false))) (sNil)) (sNil)) (
    sCons (sRet (mAndV (mIsX 3 (xT hx "TalkError")) (mAndV (mIsX 3 (xT hx "ValueError")) (mBin gEq (mExf 3 "what") (mC (.str "share")))))) (sNil))), (xT hx "TalkError", none, 
    sCons (sRet (mC (.bl false))) (sNil))] (
    sCons (sIf (mB (mBin gEq (mVar 0) (mC (.int 0)))) (
      sCons (sExpr (mCall 2 m_share (mCons (mVar 1) (mCons (mVar 2) (mNil))))) (sNil)) (
      sCons (sExpr (mCall 2 m_divided (mCons (mVar 1) (mCons (mVar 2) (mNil))))) (sNil))) (sNil))) (
  sCons (sRet (mC (.bl false))) (sNil))
def m__law_refused : List D → SS → RF := fnM 4 e__law_refused
def g__law_made_right_0 : D → W → Option W := gsName 3
def b__law_made_right_0 : W → RS := 
    sCons (sIf (mNotT (mTru (mCall 3 m__law_stands (mCons (mCall 2 m_share (mCons (mBin gMul (mVar 1) (mVar 3)) (mCons (mBin gMul (mVar 2) (mVar 3)) (mNil)))) (mCons (mVar 1) (mCons (mVar 2) (mNil))))))) (
      sCons (sRet (mC (.bl false))) (sNil)) (sNil)) (sNil)
def e__law_made_right : W → RS := 
  sCons (sAsg (gsTup 2 (gsCons (gsName 1) (gsCons (gsName 2) (gsNil)))) (mCall 1 m__law_fraction (mCons (mVar 0) (mNil)))) (
  sCons (sFor (mItems (mTup (mCons (mC (.int 1)) (mCons (mBin gSub (mC (.int 0)) (mC (.int 1))) (mCons (mBin gAdd (mC (.int 2)) (mCall 2 m__law_pick (mCons (mVar 0) (mCons (mC (.int 30)) (mNil))))) (mNil)))))) (g__law_made_right_0) (b__law_made_right_0)) (
  sCons (sIf (mOrT (mNotT (mTru (mCall 3 m__law_stands (mCons (mCall 2 m_share (mCons (mC (.int 0)) (mCons (mVar 2) (mNil)))) (mCons (mC (.int 0)) (mCons (mC (.int 1)) (mNil))))))) (mNotT (mTru (mCall 3 m__law_stands (mCons (mCall 2 m_share (mCons (mVar 2) (mCons (mVar 2) (mNil)))) (mCons (mC (.int 1)) (mCons (mC (.int 1)) (mNil)))))))) (
    sCons (sRet (mC (.bl false))) (sNil)) (sNil)) (
  sCons (sRet (mAndV (mCall 3 m__law_refused (mCons (mC (.int 0)) (mCons (mVar 1) (mCons (mC (.int 0)) (mNil))))) (mAndV (mCall 3 m__law_refused (mCons (mC (.int 0)) (mCons (mC (.int 0)) (mCons (mC (.int 0)) (mNil))))) (mCall 3 m__law_refused (mCons (mC (.int 0)) (mCons (mC (.int 1)) (mCons (mC (.int 0)) (mNil)))))))) (sNil))))
def m__law_made_right : List D → SS → RF := fnM 4 e__law_made_right
def e__law_pair_right : W → RS := 
  sCons (sAsg (gsTup 2 (gsCons (gsName 2) (gsCons (gsName 3) (gsNil)))) (mVar 0)) (
  sCons (sAsg (gsTup 2 (gsCons (gsName 4) (gsCons (gsName 5) (gsNil)))) (mVar 1)) (
  sCons (sIf (mNotT (mTru (mCall 3 m__law_stands (mCons (mCall 2 m_plus (mCons (mVar 0) (mCons (mVar 1) (mNil)))) (mCons (mBin gAdd (mBin gMul (mVar 2) (mVar 5)) (mBin gMul (mVar 4) (mVar 3))) (mCons (mBin gMul (mVar 3) (mVar 5)) (mNil))))))) (
    sCons (sRet (mC (.bl false))) (sNil)) (sNil)) (
  sCons (sIf (mNotT (mTru (mCall 3 m__law_stands (mCons (mCall 2 m_minus (mCons (mVar 0) (mCons (mVar 1) (mNil)))) (mCons (mBin gSub (mBin gMul (mVar 2) (mVar 5)) (mBin gMul (mVar 4) (mVar 3))) (mCons (mBin gMul (mVar 3) (mVar 5)) (mNil))))))) (
    sCons (sRet (mC (.bl false))) (sNil)) (sNil)) (
  sCons (sIf (mNotT (mTru (mCall 3 m__law_stands (mCons (mCall 2 m_multiplied (mCons (mVar 0) (mCons (mVar 1) (mNil)))) (mCons (mBin gMul (mVar 2) (mVar 4)) (mCons (mBin gMul (mVar 3) (mVar 5)) (mNil))))))) (
    sCons (sRet (mC (.bl false))) (sNil)) (sNil)) (
  sCons (sIf (mNotT (mTru (mCall 2 m__law_said (mCons (mCall 2 m_below (mCons (mVar 0) (mCons (mVar 1) (mNil)))) (mCons (mBin gLt (mBin gMul (mVar 2) (mVar 5)) (mBin gMul (mVar 4) (mVar 3))) (mNil)))))) (
    sCons (sRet (mC (.bl false))) (sNil)) (sNil)) (
  sCons (sIf (mB (mBin gEq (mVar 4) (mC (.int 0)))) (
    sCons (sRet (mCall 3 m__law_refused (mCons (mC (.int 1)) (mCons (mVar 0) (mCons (mVar 1) (mNil)))))) (sNil)) (sNil)) (
  sCons (sRet (mAndV (mCall 3 m__law_stands (mCons (mCall 2 m_divided (mCons (mVar 0) (mCons (mVar 1) (mNil)))) (mCons (mBin gMul (mVar 2) (mVar 5)) (mCons (mBin gMul (mVar 3) (mVar 4)) (mNil))))) (mCall 3 m__law_refused (mCons (mC (.int 1)) (mCons (mVar 1) (mCons (mTup (mCons (mC (.int 0)) (mCons (mC (.int 1)) (mNil)))) (mNil))))))) (sNil))))))))
def m__law_pair_right : List D → SS → RF := fnM 6 e__law_pair_right
def e__law_ceiling_right : W → RS := 
  sCons (sSet 1 (mCall 1 m_ceiling (mCons (mVar 0) (mNil)))) (
  sCons (sIf (mNotT (mTru (mCall 1 m__law_is_int (mCons (mVar 1) (mNil))))) (
    sCons (sRet (mC (.bl false))) (sNil)) (sNil)) (
  sCons (sRet (mAndV (mBin gGe (mBin gMul (mVar 1) (mBin gIx (mVar 0) (mC (.int 1)))) (mBin gIx (mVar 0) (mC (.int 0)))) (mBin gLt (mBin gMul (mBin gSub (mVar 1) (mC (.int 1))) (mBin gIx (mVar 0) (mC (.int 1)))) (mBin gIx (mVar 0) (mC (.int 0)))))) (sNil)))
def m__law_ceiling_right : List D → SS → RF := fnM 2 e__law_ceiling_right
def g__law_total_right_0 : D → W → Option W := gsName 5
def b__law_total_right_0 : W → RS := 
    sCons (sSet 6 (mCall 2 m__law_lowest (mCons (mBin gSub (mCall 2 m__law_pick (mCons (mVar 0) (mCons (mC (.int 41)) (mNil)))) (mC (.int 20))) (mCons (mBin gAdd (mC (.int 1)) (mCall 2 m__law_pick (mCons (mVar 0) (mCons (mC (.int 30)) (mNil))))) (mNil))))) (
    sCons (sApp 2 (mVar 6)) (
    sCons (sPar 3 4 (mCons (mBin gAdd (mBin gMul (mVar 3) (mBin gIx (mVar 6) (mC (.int 1)))) (mBin gMul (mBin gIx (mVar 6) (mC (.int 0))) (mVar 4))) (mCons (mBin gMul (mVar 4) (mBin gIx (mVar 6) (mC (.int 1)))) (mNil)))) (sNil)))
def e__law_total_right : W → RS := 
  sCons (sSet 1 (mIfE (mB (mBin gEq (mCall 2 m__law_pick (mCons (mVar 0) (mCons (mC (.int 8)) (mNil)))) (mC (.int 0)))) (mC (.int 40)) (mCall 2 m__law_pick (mCons (mVar 0) (mCons (mC (.int 6)) (mNil)))))) (
  sCons (sSetF 2 (mLst (mNil))) (
  sCons (sAsg (gsTup 2 (gsCons (gsName 3) (gsCons (gsName 4) (gsNil)))) (mTup (mCons (mC (.int 0)) (mCons (mC (.int 1)) (mNil))))) (
  sCons (sFor (mRng1 (mCons (mVar 1) (mNil))) (g__law_total_right_0) (b__law_total_right_0)) (
  sCons (sSetF 7 (mListOf (mVar 2))) (
  sCons (sIf (mScT (mOrT (mNotT (mTru (mCall 3 m__law_stands (mCons (mCall 1 m_total (mCons (mVar 7) (mNil))) (mCons (mVar 3) (mCons (mVar 4) (mNil))))))) (mB (mBin gNe (mVar 7) (mVar 2))))) (
    sCons (sRet (mC (.bl false))) (sNil)) (sNil)) (
  sCons (sIf (mScT (mNotT (mTru (mCall 3 m__law_stands (mCons (mCall 1 m_total (mCons (mBlt gTuple (mCons (mFrz (mRevL (mVar 2))) (mNil))) (mNil))) (mCons (mVar 3) (mCons (mVar 4) (mNil)))))))) (
    sCons (sRet (mC (.bl false))) (sNil)) (sNil)) (
  sCons (sApp 7 (mTup (mCons (mBin gSub (mC (.int 0)) (mC (.int 5))) (mCons (mC (.int 7)) (mNil))))) (
  sCons (sIf (mScT (mNotT (mTru (mCall 3 m__law_stands (mCons (mCall 1 m_total (mCons (mVar 7) (mNil))) (mCons (mBin gSub (mBin gMul (mVar 3) (mC (.int 7))) (mBin gMul (mC (.int 5)) (mVar 4))) (mCons (mBin gMul (mVar 4) (mC (.int 7))) (mNil)))))))) (
    sCons (sRet (mC (.bl false))) (sNil)) (sNil)) (
  sCons (sRet (mCall 3 m__law_stands (mCons (mCall 1 m_total (mCons (mFrz (mListOf (mVar 2))) (mNil))) (mCons (mVar 3) (mCons (mVar 4) (mNil)))))) (sNil))))))))))
def m__law_total_right : List D → SS → RF := fnM 8 e__law_total_right
def e__law_odd : W → RS := 
  sCons (sRet (mBin gIx (mFrz (mLst (mCons (mC .non) (mCons (mC (.str "1")) (mCons (mC (.bl true)) (mCons (mC (.bl false)) (mCons (mTup (mCons (mC (.int 1)) (mNil))) (mCons (mTup (mNil)) (mNil))))))))) (mCall 2 m__law_pick (mCons (mVar 0) (mCons (mC (.int 6)) (mNil)))))) (sNil)
def m__law_odd : List D → SS → RF := fnM 1 e__law_odd
def e__law_spoilt : W → RS := 
  sCons (sSet 2 (mCall 2 m__law_pick (mCons (mVar 0) (mCons (mC (.int 8)) (mNil))))) (
  sCons (sSet 3 (mBin gAdd (mC (.int 2)) (mCall 2 m__law_pick (mCons (mVar 0) (mCons (mC (.int 5)) (mNil)))))) (
  sCons (sIf (mB (mBin gEq (mVar 2) (mC (.int 0)))) (
    sCons (sRet (mTup (mCons (mBin gMul (mBin gIx (mVar 1) (mC (.int 0))) (mVar 3)) (mCons (mBin gMul (mBin gIx (mVar 1) (mC (.int 1))) (mVar 3)) (mNil))))) (sNil)) (sNil)) (
  sCons (sIf (mB (mBin gEq (mVar 2) (mC (.int 1)))) (
    sCons (sRet (mTup (mCons (mBin gIx (mVar 1) (mC (.int 0))) (mCons (mBin gSub (mC (.int 0)) (mBin gIx (mVar 1) (mC (.int 1)))) (mNil))))) (sNil)) (sNil)) (
  sCons (sIf (mB (mBin gEq (mVar 2) (mC (.int 2)))) (
    sCons (sRet (mTup (mCons (mBin gIx (mVar 1) (mC (.int 0))) (mCons (mC (.int 0)) (mNil))))) (sNil)) (sNil)) (
  sCons (sIf (mB (mBin gEq (mVar 2) (mC (.int 3)))) (
    sCons (sRet (mBin gAdd (mVar 1) (mTup (mCons (mC (.int 1)) (mNil))))) (sNil)) (sNil)) (
  sCons (sIf (mB (mBin gEq (mVar 2) (mC (.int 4)))) (
    sCons (sRet (mSlT (mVar 1) (mNoP) (mP (mC (.int 1))))) (sNil)) (sNil)) (
  sCons (sIf (mB (mBin gEq (mVar 2) (mC (.int 5)))) (
    sCons (sRet (mTup (mCons (mCall 1 m__law_odd (mCons (mVar 0) (mNil))) (mCons (mBin gIx (mVar 1) (mC (.int 1))) (mNil))))) (sNil)) (sNil)) (
  sCons (sIf (mB (mBin gEq (mVar 2) (mC (.int 6)))) (
    sCons (sRet (mTup (mCons (mBin gIx (mVar 1) (mC (.int 0))) (mCons (mCall 1 m__law_odd (mCons (mVar 0) (mNil))) (mNil))))) (sNil)) (sNil)) (
  sCons (sRet (mTup (mCons (mBin gAdd (mBin gIx (mVar 1) (mC (.int 0))) (mVar 3)) (mCons (mBin gIx (mVar 1) (mC (.int 1))) (mNil))))) (sNil))))))))))
def m__law_spoilt : List D → SS → RF := fnM 4 e__law_spoilt
def g__law_judged_right_0 : D → W → Option W := gsName 2
def b__law_judged_right_0 : W → RS := 
    sCons (sSet 3 (mCall 2 m__law_spoilt (mCons (mVar 0) (mCons (mVar 1) (mNil))))) (
    sCons (sIf (mNotT (mTru (mCall 2 m__law_said (mCons (mCall 1 m_is_share (mCons (mVar 3) (mNil))) (mCons (mCall 1 m__law_is_share (mCons (mVar 3) (mNil))) (mNil)))))) (
      sCons (sRet (mC (.bl false))) (sNil)) (sNil)) (sNil))
def g__law_judged_right_1 : D → W → Option W := gsName 3
def b__law_judged_right_1 : W → RS := 
    sCons (sIf (mB (mBin gIsNot (mCall 1 m_is_share (mCons (mVar 3) (mNil))) (mC (.bl false)))) (
      sCons (sRet (mC (.bl false))) (sNil)) (sNil)) (sNil)
def e__law_judged_right : W → RS := 
  sCons (sIf (mB (mBin gIsNot (mCall 1 m_is_share (mCons (mVar 1) (mNil))) (mC (.bl true)))) (
    sCons (sRet (mC (.bl false))) (sNil)) (sNil)) (
  sCons (sFor (mRng1 (mCons (mC (.int 6)) (mNil))) (g__law_judged_right_0) (b__law_judged_right_0)) (
  sCons (sFor (mItems (mTup (mCons (mC .non) (mCons (mC (.str "")) (mCons (mC (.str "01")) (mCons (mC (.int 1)) (mCons (mTup (mNil)) (mCons (mFrz (mListOf (mVar 1))) (mCons (mTup (mCons (mVar 1) (mCons (mVar 1) (mNil)))) (mNil)))))))))) (g__law_judged_right_1) (b__law_judged_right_1)) (
  sCons (sRet (mC (.bl true))) (sNil))))
def m__law_judged_right : List D → SS → RF := fnM 4 e__law_judged_right
def g__law_fixed_right_0 : D → W → Option W := gsTup 2 (gsCons (gsName 0) (gsCons (gsName 1) (gsNil)))
def b__law_fixed_right_0 : W → RS := 
    sCons (sIf (mOrT (mNotT (mTru (mCall 1 m__law_is_share (mCons (mVar 0) (mNil))))) (mOrT (mB (mBin gNe (mBin gIx (mVar 0) (mC (.int 0))) (mVar 1))) (mB (mBin gNe (mBin gIx (mVar 0) (mC (.int 1))) (mC (.int 1)))))) (
      sCons (sRet (mC (.bl false))) (sNil)) (sNil)) (sNil)
def e__law_fixed_right : W → RS := 
  sCons (sFor (mItems (mTup (mCons (mTup (mCons (mC (.tup [(.int 0), (.int 1)])) (mCons (mC (.int 0)) (mNil)))) (mCons (mTup (mCons (mC (.tup [(.int 1), (.int 1)])) (mCons (mC (.int 1)) (mNil)))) (mNil))))) (g__law_fixed_right_0) (b__law_fixed_right_0)) (
  sCons (sRet (mC (.bl true))) (sNil))
def m__law_fixed_right : List D → SS → RF := fnM 2 e__law_fixed_right
def g_law_0 : D → W → Option W := gsName 2
def b_law_0 : W → RS := 
    sCons (sAsg (gsTup 2 (gsCons (gsName 3) (gsCons (gsName 4) (gsNil)))) (mCall 1 m__law_fraction (mCons (mVar 1) (mNil)))) (
    sCons (sSet 5 (mCall 2 m__law_lowest (mCons (mVar 3) (mCons (mVar 4) (mNil))))) (
    sCons (sSet 6 (mCall 2 m__law_mate (mCons (mVar 1) (mCons (mVar 5) (mNil))))) (
    sCons (sIf (mOrT (mNotT (mTru (mCall 2 m__law_pair_right (mCons (mVar 5) (mCons (mVar 6) (mNil)))))) (mNotT (mTru (mCall 2 m__law_pair_right (mCons (mVar 6) (mCons (mVar 5) (mNil))))))) (
      sCons (sRet (mC (.bl false))) (sNil)) (sNil)) (
    sCons (sIf (mOrT (mNotT (mTru (mCall 1 m__law_ceiling_right (mCons (mVar 5) (mNil))))) (mNotT (mTru (mCall 1 m__law_ceiling_right (mCons (mVar 6) (mNil)))))) (
      sCons (sRet (mC (.bl false))) (sNil)) (sNil)) (
    sCons (sIf (mOrT (mNotT (mTru (mCall 2 m__law_judged_right (mCons (mVar 1) (mCons (mVar 5) (mNil)))))) (mNotT (mTru (mCall 2 m__law_judged_right (mCons (mVar 1) (mCons (mVar 6) (mNil))))))) (
      sCons (sRet (mC (.bl false))) (sNil)) (sNil)) (sNil))))))
def e_law : W → RS := 
  sCons (sIf (mOrT (mNotT (mTru (mCall0 m__law_fixed_right))) (mOrT (mNotT (mTru (mCall 1 m__law_made_right (mCons (mVar 1) (mNil))))) (mNotT (mTru (mCall 1 m__law_total_right (mCons (mVar 1) (mNil))))))) (
    sCons (sRet (mC (.bl false))) (sNil)) (sNil)) (
  sCons (sFor (mRng1 (mCons (mC (.int 3)) (mNil))) (g_law_0) (b_law_0)) (
  sCons (sRet (mCall 1 m__law_made_right (mCons (mVar 1) (mNil)))) (sNil)))
def envL : TD.Env := none :: some (.val .src) :: List.replicate 5 none
def LawTrue : Prop := ∀ cells : List Int, cells ≠ [] → (∀ c ∈ cells, (0 : Int) ≤ c) → ∃ w', e_law ⟨envL, ⟨cells, 0, 0⟩⟩ = .ret (.bl true) w'

end K02

set_option Elab.async false
set_option linter.all false
set_option maxRecDepth 100000
set_option maxHeartbeats 4000000
namespace K02
open PySem PySem.Spec PyProof.Rows L2 TD
def top (i : Nat) : Stmt := PySem.Challenge.pw_talkgrowth_k02_shares.main.body.getD i (.Pass ⟨0, 0, 0, 0⟩)
abbrev s_common : Stmt := top 11
abbrev s_share : Stmt := top 12
abbrev s_plus : Stmt := top 13
abbrev s_minus : Stmt := top 14
abbrev s_multiplied : Stmt := top 15
abbrev s_divided : Stmt := top 16
abbrev s_below : Stmt := top 17
abbrev s_total : Stmt := top 18
abbrev s_ceiling : Stmt := top 19
abbrev s_is_share : Stmt := top 20
abbrev s__law_source : Stmt := top 22
abbrev s__law_pick : Stmt := top 23
abbrev s__law_is_int : Stmt := top 24
abbrev s__law_is_share : Stmt := top 25
abbrev s__law_said : Stmt := top 26
abbrev s__law_lowest : Stmt := top 27
abbrev s__law_stands : Stmt := top 28
abbrev s__law_integer : Stmt := top 29
abbrev s__law_fraction : Stmt := top 30
abbrev s__law_mate : Stmt := top 31
abbrev s__law_refused : Stmt := top 32
abbrev s__law_made_right : Stmt := top 33
abbrev s__law_pair_right : Stmt := top 34
abbrev s__law_ceiling_right : Stmt := top 35
abbrev s__law_total_right : Stmt := top 36
abbrev s__law_odd : Stmt := top 37
abbrev s__law_spoilt : Stmt := top 38
abbrev s__law_judged_right : Stmt := top 39
abbrev s__law_fixed_right : Stmt := top 40
abbrev s_law : Stmt := top 41
structure Txt (P : Program) (K : PySem.W.Frag) (mg : Str → Option Value) : Prop where
  f_common : ∃ (f : Addr) (fd : FuncData), FunD K "common" "common" (defArgs s_common) (defBody s_common) (defScope s_common) [] [] f fd ∧ mg "common" = some (.ref f)
  f_share : ∃ (f : Addr) (fd : FuncData), FunD K "share" "share" (defArgs s_share) (defBody s_share) (defScope s_share) [] [] f fd ∧ mg "share" = some (.ref f)
  f_plus : ∃ (f : Addr) (fd : FuncData), FunD K "plus" "plus" (defArgs s_plus) (defBody s_plus) (defScope s_plus) [] [] f fd ∧ mg "plus" = some (.ref f)
  f_minus : ∃ (f : Addr) (fd : FuncData), FunD K "minus" "minus" (defArgs s_minus) (defBody s_minus) (defScope s_minus) [] [] f fd ∧ mg "minus" = some (.ref f)
  f_multiplied : ∃ (f : Addr) (fd : FuncData), FunD K "multiplied" "multiplied" (defArgs s_multiplied) (defBody s_multiplied) (defScope s_multiplied) [] [] f fd ∧ mg "multiplied" = some (.ref f)
  f_divided : ∃ (f : Addr) (fd : FuncData), FunD K "divided" "divided" (defArgs s_divided) (defBody s_divided) (defScope s_divided) [] [] f fd ∧ mg "divided" = some (.ref f)
  f_below : ∃ (f : Addr) (fd : FuncData), FunD K "below" "below" (defArgs s_below) (defBody s_below) (defScope s_below) [] [] f fd ∧ mg "below" = some (.ref f)
  f_total : ∃ (f : Addr) (fd : FuncData), FunD K "total" "total" (defArgs s_total) (defBody s_total) (defScope s_total) [] [] f fd ∧ mg "total" = some (.ref f)
  f_ceiling : ∃ (f : Addr) (fd : FuncData), FunD K "ceiling" "ceiling" (defArgs s_ceiling) (defBody s_ceiling) (defScope s_ceiling) [] [] f fd ∧ mg "ceiling" = some (.ref f)
  f_is_share : ∃ (f : Addr) (fd : FuncData), FunD K "is_share" "is_share" (defArgs s_is_share) (defBody s_is_share) (defScope s_is_share) [] [] f fd ∧ mg "is_share" = some (.ref f)
  f__law_source : ∃ (f : Addr) (fd : FuncData), FunD K "_law_source" "_law_source" (defArgs s__law_source) (defBody s__law_source) (defScope s__law_source) [] [] f fd ∧ mg "_law_source" = some (.ref f)
  f__law_pick : ∃ (f : Addr) (fd : FuncData), FunD K "_law_pick" "_law_pick" (defArgs s__law_pick) (defBody s__law_pick) (defScope s__law_pick) [] [] f fd ∧ mg "_law_pick" = some (.ref f)
  f__law_is_int : ∃ (f : Addr) (fd : FuncData), FunD K "_law_is_int" "_law_is_int" (defArgs s__law_is_int) (defBody s__law_is_int) (defScope s__law_is_int) [] [] f fd ∧ mg "_law_is_int" = some (.ref f)
  f__law_is_share : ∃ (f : Addr) (fd : FuncData), FunD K "_law_is_share" "_law_is_share" (defArgs s__law_is_share) (defBody s__law_is_share) (defScope s__law_is_share) [] [] f fd ∧ mg "_law_is_share" = some (.ref f)
  f__law_said : ∃ (f : Addr) (fd : FuncData), FunD K "_law_said" "_law_said" (defArgs s__law_said) (defBody s__law_said) (defScope s__law_said) [] [] f fd ∧ mg "_law_said" = some (.ref f)
  f__law_lowest : ∃ (f : Addr) (fd : FuncData), FunD K "_law_lowest" "_law_lowest" (defArgs s__law_lowest) (defBody s__law_lowest) (defScope s__law_lowest) [] [] f fd ∧ mg "_law_lowest" = some (.ref f)
  f__law_stands : ∃ (f : Addr) (fd : FuncData), FunD K "_law_stands" "_law_stands" (defArgs s__law_stands) (defBody s__law_stands) (defScope s__law_stands) [] [] f fd ∧ mg "_law_stands" = some (.ref f)
  f__law_integer : ∃ (f : Addr) (fd : FuncData), FunD K "_law_integer" "_law_integer" (defArgs s__law_integer) (defBody s__law_integer) (defScope s__law_integer) [] [] f fd ∧ mg "_law_integer" = some (.ref f)
  f__law_fraction : ∃ (f : Addr) (fd : FuncData), FunD K "_law_fraction" "_law_fraction" (defArgs s__law_fraction) (defBody s__law_fraction) (defScope s__law_fraction) [] [] f fd ∧ mg "_law_fraction" = some (.ref f)
  f__law_mate : ∃ (f : Addr) (fd : FuncData), FunD K "_law_mate" "_law_mate" (defArgs s__law_mate) (defBody s__law_mate) (defScope s__law_mate) [] [] f fd ∧ mg "_law_mate" = some (.ref f)
  f__law_refused : ∃ (f : Addr) (fd : FuncData), FunD K "_law_refused" "_law_refused" (defArgs s__law_refused) (defBody s__law_refused) (defScope s__law_refused) [] [] f fd ∧ mg "_law_refused" = some (.ref f)
  f__law_made_right : ∃ (f : Addr) (fd : FuncData), FunD K "_law_made_right" "_law_made_right" (defArgs s__law_made_right) (defBody s__law_made_right) (defScope s__law_made_right) [] [] f fd ∧ mg "_law_made_right" = some (.ref f)
  f__law_pair_right : ∃ (f : Addr) (fd : FuncData), FunD K "_law_pair_right" "_law_pair_right" (defArgs s__law_pair_right) (defBody s__law_pair_right) (defScope s__law_pair_right) [] [] f fd ∧ mg "_law_pair_right" = some (.ref f)
  f__law_ceiling_right : ∃ (f : Addr) (fd : FuncData), FunD K "_law_ceiling_right" "_law_ceiling_right" (defArgs s__law_ceiling_right) (defBody s__law_ceiling_right) (defScope s__law_ceiling_right) [] [] f fd ∧ mg "_law_ceiling_right" = some (.ref f)
  f__law_total_right : ∃ (f : Addr) (fd : FuncData), FunD K "_law_total_right" "_law_total_right" (defArgs s__law_total_right) (defBody s__law_total_right) (defScope s__law_total_right) [] [] f fd ∧ mg "_law_total_right" = some (.ref f)
  f__law_odd : ∃ (f : Addr) (fd : FuncData), FunD K "_law_odd" "_law_odd" (defArgs s__law_odd) (defBody s__law_odd) (defScope s__law_odd) [] [] f fd ∧ mg "_law_odd" = some (.ref f)
  f__law_spoilt : ∃ (f : Addr) (fd : FuncData), FunD K "_law_spoilt" "_law_spoilt" (defArgs s__law_spoilt) (defBody s__law_spoilt) (defScope s__law_spoilt) [] [] f fd ∧ mg "_law_spoilt" = some (.ref f)
  f__law_judged_right : ∃ (f : Addr) (fd : FuncData), FunD K "_law_judged_right" "_law_judged_right" (defArgs s__law_judged_right) (defBody s__law_judged_right) (defScope s__law_judged_right) [] [] f fd ∧ mg "_law_judged_right" = some (.ref f)
  f__law_fixed_right : ∃ (f : Addr) (fd : FuncData), FunD K "_law_fixed_right" "_law_fixed_right" (defArgs s__law_fixed_right) (defBody s__law_fixed_right) (defScope s__law_fixed_right) [] [] f fd ∧ mg "_law_fixed_right" = some (.ref f)
  f_law : ∃ (f : Addr) (fd : FuncData), FunD K "law" "law" (defArgs s_law) (defBody s_law) (defScope s_law) [] [] f fd ∧ mg "law" = some (.ref f)
  t_NOTHING : KstX K mg "NOTHING" (.tup [(.int 0), (.int 1)])
  t_WHOLE : KstX K mg "WHOLE" (.tup [(.int 1), (.int 1)])
  e_BadValue : ∀ (w : World) (base : Heap), Err P w K mg base "BadValue" "what"
  x_BadValue : ClsK K mg hx "BadValue"
  x_BadText : ClsK K mg hx "BadText"
  x_TooMany : ClsK K mg hx "TooMany"
  x_Unlike : ClsK K mg hx "Unlike"
  x_Unknown : ClsK K mg hx "Unknown"
  x_BadPaper : ClsK K mg hx "BadPaper"
  x_TalkError : ClsK K mg hx "TalkError"
  x_ValueError : ClsB K mg hx "ValueError" "ValueError"
  b_abs : mg "abs" = none
  b_bool : mg "bool" = none
  b_int : mg "int" = none
  b_isinstance : mg "isinstance" = none
  b_len : mg "len" = none
  b_list : mg "list" = none
  b_range : mg "range" = none
  b_tuple : mg "tuple" = none
section
variable {P : Program} {w : World} {K : PySem.W.Frag} {mg : Str → Option Value} {base : Heap}
abbrev n_common : List Str := ["one", "other"]
theorem sc_common : FnScope n_common ["one", "other"] (defScope s_common) := ⟨rfl, rfl, rfl, by decide +kernel, rfl, by decide +kernel, by decide +kernel⟩
theorem c_common (T : Txt P K mg) : Cal P w K mg base 1 "common" 2 m_common := by
  obtain ⟨f, fd, F, g⟩ := T.f_common
  refine ⟨f, fd, ["one", "other"], fn_td F sc_common fun cdv A outer s H E fm hr => ?_, g, F.kp, F.bindsN fun _ _ _ _ _ _ us hl => match us, hl with | [_, _], _ => rfl⟩
  have hN : n_common.Nodup := sc_common.nd
  have tk := tk_of (P := P) (w := w) (K := K) (mg := mg) (base := base) (N := n_common) (qual := "common") (scope := defScope s_common) (f := f) (cd := cdv) (A := A) (outer := outer) (s := s) (H := H) (E := E)
  have po := po_of (P := P) (w := w) (K := K) (mg := mg) (base := base) (N := n_common) (qual := "common") (scope := defScope s_common) (f := f) (cd := cdv) (A := A) (outer := outer) (s := s) (H := H) (E := E)
  exact 
  sss_cons (ss_par (i := 0) (j := 1) rfl hN (sa_cons (se_callB dc_abs T.b_abs (by decide +kernel) (sa_cons (se_var (i := 0)) (sa_nil))) (sa_cons (se_callB dc_abs T.b_abs (by decide +kernel) (sa_cons (se_var (i := 1)) (sa_nil))) (sa_nil)))) (
  sss_cons (ss_while po (st_tru (se_var (i := 1))) (
    sss_cons (ss_par (i := 0) (j := 1) rfl hN (sa_cons (se_var (i := 1)) (sa_cons (se_bin dop_sub (se_var (i := 0)) (se_bin dop_mul (se_var (i := 1)) (se_bin dop_div (se_var (i := 0)) (se_var (i := 1))))) (sa_nil)))) (sss_nil))) (
  sss_cons (ss_ret (se_var (i := 0))) (sss_nil)))
abbrev n_share : List Str := ["n", "d", "by"]
theorem sc_share : FnScope n_share ["n", "d"] (defScope s_share) := ⟨rfl, rfl, rfl, by decide +kernel, rfl, by decide +kernel, by decide +kernel⟩
theorem c_share (T : Txt P K mg) : Cal P w K mg base 3 "share" 2 m_share := by
  obtain ⟨f, fd, F, g⟩ := T.f_share
  refine ⟨f, fd, ["n", "d"], fn_td F sc_share fun cdv A outer s H E fm hr => ?_, g, F.kp, F.bindsN fun _ _ _ _ _ _ us hl => match us, hl with | [_, _], _ => rfl⟩
  have hN : n_share.Nodup := sc_share.nd
  have tk := tk_of (P := P) (w := w) (K := K) (mg := mg) (base := base) (N := n_share) (qual := "share") (scope := defScope s_share) (f := f) (cd := cdv) (A := A) (outer := outer) (s := s) (H := H) (E := E)
  have po := po_of (P := P) (w := w) (K := K) (mg := mg) (base := base) (N := n_share) (qual := "share") (scope := defScope s_share) (f := f) (cd := cdv) (A := A) (outer := outer) (s := s) (H := H) (E := E)
  exact 
  sss_cons (ss_if (st_cmp (dop_eq hr.units) (se_var (i := 1)) (se_int)) (
    sss_cons (ss_raise rfl tk (T.e_BadValue _ _) (hr.mono (by decide)) passL (sa_cons (se_str) (sa_nil))) (sss_nil)) (sss_nil)) (
  sss_cons (ss_if (st_cmp dop_lt (se_var (i := 1)) (se_int)) (
    sss_cons (ss_par (i := 0) (j := 1) rfl hN (sa_cons (se_un dun_neg (se_var (i := 0))) (sa_cons (se_un dun_neg (se_var (i := 1))) (sa_nil)))) (sss_nil)) (sss_nil)) (
  sss_cons (ss_set (i := 2) hN (se_call (c_common T) tk (hr.mono (by decide)) (sa_cons (se_var (i := 0)) (sa_cons (se_var (i := 1)) (sa_nil))))) (
  sss_cons (ss_ret (se_tup (sa_cons (se_bin dop_div (se_var (i := 0)) (se_var (i := 2))) (sa_cons (se_bin dop_div (se_var (i := 1)) (se_var (i := 2))) (sa_nil))))) (sss_nil))))
abbrev n_plus : List Str := ["one", "other"]
theorem sc_plus : FnScope n_plus ["one", "other"] (defScope s_plus) := ⟨rfl, rfl, rfl, by decide +kernel, rfl, by decide +kernel, by decide +kernel⟩
theorem c_plus (T : Txt P K mg) : Cal P w K mg base 4 "plus" 2 m_plus := by
  obtain ⟨f, fd, F, g⟩ := T.f_plus
  refine ⟨f, fd, ["one", "other"], fn_td F sc_plus fun cdv A outer s H E fm hr => ?_, g, F.kp, F.bindsN fun _ _ _ _ _ _ us hl => match us, hl with | [_, _], _ => rfl⟩
  have hN : n_plus.Nodup := sc_plus.nd
  have tk := tk_of (P := P) (w := w) (K := K) (mg := mg) (base := base) (N := n_plus) (qual := "plus") (scope := defScope s_plus) (f := f) (cd := cdv) (A := A) (outer := outer) (s := s) (H := H) (E := E)
  have po := po_of (P := P) (w := w) (K := K) (mg := mg) (base := base) (N := n_plus) (qual := "plus") (scope := defScope s_plus) (f := f) (cd := cdv) (A := A) (outer := outer) (s := s) (H := H) (E := E)
  exact 
  sss_cons (ss_ret (se_call (c_share T) tk (hr.mono (by decide)) (sa_cons (se_bin dop_add (se_bin dop_mul (se_ix (se_var (i := 0)) (se_int)) (se_ix (se_var (i := 1)) (se_int))) (se_bin dop_mul (se_ix (se_var (i := 1)) (se_int)) (se_ix (se_var (i := 0)) (se_int)))) (sa_cons (se_bin dop_mul (se_ix (se_var (i := 0)) (se_int)) (se_ix (se_var (i := 1)) (se_int))) (sa_nil))))) (sss_nil)
abbrev n_minus : List Str := ["one", "other"]
theorem sc_minus : FnScope n_minus ["one", "other"] (defScope s_minus) := ⟨rfl, rfl, rfl, by decide +kernel, rfl, by decide +kernel, by decide +kernel⟩
theorem c_minus (T : Txt P K mg) : Cal P w K mg base 4 "minus" 2 m_minus := by
  obtain ⟨f, fd, F, g⟩ := T.f_minus
  refine ⟨f, fd, ["one", "other"], fn_td F sc_minus fun cdv A outer s H E fm hr => ?_, g, F.kp, F.bindsN fun _ _ _ _ _ _ us hl => match us, hl with | [_, _], _ => rfl⟩
  have hN : n_minus.Nodup := sc_minus.nd
  have tk := tk_of (P := P) (w := w) (K := K) (mg := mg) (base := base) (N := n_minus) (qual := "minus") (scope := defScope s_minus) (f := f) (cd := cdv) (A := A) (outer := outer) (s := s) (H := H) (E := E)
  have po := po_of (P := P) (w := w) (K := K) (mg := mg) (base := base) (N := n_minus) (qual := "minus") (scope := defScope s_minus) (f := f) (cd := cdv) (A := A) (outer := outer) (s := s) (H := H) (E := E)
  exact 
  sss_cons (ss_ret (se_call (c_share T) tk (hr.mono (by decide)) (sa_cons (se_bin dop_sub (se_bin dop_mul (se_ix (se_var (i := 0)) (se_int)) (se_ix (se_var (i := 1)) (se_int))) (se_bin dop_mul (se_ix (se_var (i := 1)) (se_int)) (se_ix (se_var (i := 0)) (se_int)))) (sa_cons (se_bin dop_mul (se_ix (se_var (i := 0)) (se_int)) (se_ix (se_var (i := 1)) (se_int))) (sa_nil))))) (sss_nil)
abbrev n_multiplied : List Str := ["one", "other"]
theorem sc_multiplied : FnScope n_multiplied ["one", "other"] (defScope s_multiplied) := ⟨rfl, rfl, rfl, by decide +kernel, rfl, by decide +kernel, by decide +kernel⟩
theorem c_multiplied (T : Txt P K mg) : Cal P w K mg base 4 "multiplied" 2 m_multiplied := by
  obtain ⟨f, fd, F, g⟩ := T.f_multiplied
  refine ⟨f, fd, ["one", "other"], fn_td F sc_multiplied fun cdv A outer s H E fm hr => ?_, g, F.kp, F.bindsN fun _ _ _ _ _ _ us hl => match us, hl with | [_, _], _ => rfl⟩
  have hN : n_multiplied.Nodup := sc_multiplied.nd
  have tk := tk_of (P := P) (w := w) (K := K) (mg := mg) (base := base) (N := n_multiplied) (qual := "multiplied") (scope := defScope s_multiplied) (f := f) (cd := cdv) (A := A) (outer := outer) (s := s) (H := H) (E := E)
  have po := po_of (P := P) (w := w) (K := K) (mg := mg) (base := base) (N := n_multiplied) (qual := "multiplied") (scope := defScope s_multiplied) (f := f) (cd := cdv) (A := A) (outer := outer) (s := s) (H := H) (E := E)
  exact 
  sss_cons (ss_ret (se_call (c_share T) tk (hr.mono (by decide)) (sa_cons (se_bin dop_mul (se_ix (se_var (i := 0)) (se_int)) (se_ix (se_var (i := 1)) (se_int))) (sa_cons (se_bin dop_mul (se_ix (se_var (i := 0)) (se_int)) (se_ix (se_var (i := 1)) (se_int))) (sa_nil))))) (sss_nil)
abbrev n_divided : List Str := ["one", "other"]
theorem sc_divided : FnScope n_divided ["one", "other"] (defScope s_divided) := ⟨rfl, rfl, rfl, by decide +kernel, rfl, by decide +kernel, by decide +kernel⟩
theorem c_divided (T : Txt P K mg) : Cal P w K mg base 4 "divided" 2 m_divided := by
  obtain ⟨f, fd, F, g⟩ := T.f_divided
  refine ⟨f, fd, ["one", "other"], fn_td F sc_divided fun cdv A outer s H E fm hr => ?_, g, F.kp, F.bindsN fun _ _ _ _ _ _ us hl => match us, hl with | [_, _], _ => rfl⟩
  have hN : n_divided.Nodup := sc_divided.nd
  have tk := tk_of (P := P) (w := w) (K := K) (mg := mg) (base := base) (N := n_divided) (qual := "divided") (scope := defScope s_divided) (f := f) (cd := cdv) (A := A) (outer := outer) (s := s) (H := H) (E := E)
  have po := po_of (P := P) (w := w) (K := K) (mg := mg) (base := base) (N := n_divided) (qual := "divided") (scope := defScope s_divided) (f := f) (cd := cdv) (A := A) (outer := outer) (s := s) (H := H) (E := E)
  exact 
  sss_cons (ss_ret (se_call (c_share T) tk (hr.mono (by decide)) (sa_cons (se_bin dop_mul (se_ix (se_var (i := 0)) (se_int)) (se_ix (se_var (i := 1)) (se_int))) (sa_cons (se_bin dop_mul (se_ix (se_var (i := 0)) (se_int)) (se_ix (se_var (i := 1)) (se_int))) (sa_nil))))) (sss_nil)
abbrev n_below : List Str := ["one", "other"]
theorem sc_below : FnScope n_below ["one", "other"] (defScope s_below) := ⟨rfl, rfl, rfl, by decide +kernel, rfl, by decide +kernel, by decide +kernel⟩
theorem c_below (T : Txt P K mg) : Cal P w K mg base 1 "below" 2 m_below := by
  obtain ⟨f, fd, F, g⟩ := T.f_below
  refine ⟨f, fd, ["one", "other"], fn_td F sc_below fun cdv A outer s H E fm hr => ?_, g, F.kp, F.bindsN fun _ _ _ _ _ _ us hl => match us, hl with | [_, _], _ => rfl⟩
  have hN : n_below.Nodup := sc_below.nd
  have tk := tk_of (P := P) (w := w) (K := K) (mg := mg) (base := base) (N := n_below) (qual := "below") (scope := defScope s_below) (f := f) (cd := cdv) (A := A) (outer := outer) (s := s) (H := H) (E := E)
  have po := po_of (P := P) (w := w) (K := K) (mg := mg) (base := base) (N := n_below) (qual := "below") (scope := defScope s_below) (f := f) (cd := cdv) (A := A) (outer := outer) (s := s) (H := H) (E := E)
  exact 
  sss_cons (ss_ret (se_cmp dop_lt (se_bin dop_mul (se_ix (se_var (i := 0)) (se_int)) (se_ix (se_var (i := 1)) (se_int))) (se_bin dop_mul (se_ix (se_var (i := 1)) (se_int)) (se_ix (se_var (i := 0)) (se_int))))) (sss_nil)
abbrev n_total : List Str := ["rows", "found", "row"]
theorem sc_total : FnScope n_total ["rows"] (defScope s_total) := ⟨rfl, rfl, rfl, by decide +kernel, rfl, by decide +kernel, by decide +kernel⟩
theorem c_total (T : Txt P K mg) : Cal P w K mg base 5 "total" 1 m_total := by
  obtain ⟨f, fd, F, g⟩ := T.f_total
  refine ⟨f, fd, ["rows"], fn_td F sc_total fun cdv A outer s H E fm hr => ?_, g, F.kp, F.bindsN fun _ _ _ _ _ _ us hl => match us, hl with | [_], _ => rfl⟩
  have hN : n_total.Nodup := sc_total.nd
  have tk := tk_of (P := P) (w := w) (K := K) (mg := mg) (base := base) (N := n_total) (qual := "total") (scope := defScope s_total) (f := f) (cd := cdv) (A := A) (outer := outer) (s := s) (H := H) (E := E)
  have po := po_of (P := P) (w := w) (K := K) (mg := mg) (base := base) (N := n_total) (qual := "total") (scope := defScope s_total) (f := f) (cd := cdv) (A := A) (outer := outer) (s := s) (H := H) (E := E)
  exact 
  sss_cons (ss_set (i := 1) hN (se_kst T.t_NOTHING)) (
  sss_cons (ss_for po rfl (si_seq (se_var (i := 0))) (sg_name (i := 2) hN) (
    sss_cons (ss_set (i := 1) hN (se_call (c_plus T) tk (hr.mono (by decide)) (sa_cons (se_var (i := 1)) (sa_cons (se_var (i := 2)) (sa_nil))))) (sss_nil))) (
  sss_cons (ss_ret (se_var (i := 1))) (sss_nil)))
abbrev n_ceiling : List Str := ["one"]
theorem sc_ceiling : FnScope n_ceiling ["one"] (defScope s_ceiling) := ⟨rfl, rfl, rfl, by decide +kernel, rfl, by decide +kernel, by decide +kernel⟩
theorem c_ceiling (T : Txt P K mg) : Cal P w K mg base 1 "ceiling" 1 m_ceiling := by
  obtain ⟨f, fd, F, g⟩ := T.f_ceiling
  refine ⟨f, fd, ["one"], fn_td F sc_ceiling fun cdv A outer s H E fm hr => ?_, g, F.kp, F.bindsN fun _ _ _ _ _ _ us hl => match us, hl with | [_], _ => rfl⟩
  have hN : n_ceiling.Nodup := sc_ceiling.nd
  have tk := tk_of (P := P) (w := w) (K := K) (mg := mg) (base := base) (N := n_ceiling) (qual := "ceiling") (scope := defScope s_ceiling) (f := f) (cd := cdv) (A := A) (outer := outer) (s := s) (H := H) (E := E)
  have po := po_of (P := P) (w := w) (K := K) (mg := mg) (base := base) (N := n_ceiling) (qual := "ceiling") (scope := defScope s_ceiling) (f := f) (cd := cdv) (A := A) (outer := outer) (s := s) (H := H) (E := E)
  exact 
  sss_cons (ss_ret (se_un dun_neg (se_bin dop_div (se_un dun_neg (se_ix (se_var (i := 0)) (se_int))) (se_ix (se_var (i := 0)) (se_int))))) (sss_nil)
abbrev n_is_share : List Str := ["value", "part"]
theorem sc_is_share : FnScope n_is_share ["value"] (defScope s_is_share) := ⟨rfl, rfl, rfl, by decide +kernel, rfl, by decide +kernel, by decide +kernel⟩
theorem c_is_share (T : Txt P K mg) : Cal P w K mg base 2 "is_share" 1 m_is_share := by
  obtain ⟨f, fd, F, g⟩ := T.f_is_share
  refine ⟨f, fd, ["value"], fn_td F sc_is_share fun cdv A outer s H E fm hr => ?_, g, F.kp, F.bindsN fun _ _ _ _ _ _ us hl => match us, hl with | [_], _ => rfl⟩
  have hN : n_is_share.Nodup := sc_is_share.nd
  have tk := tk_of (P := P) (w := w) (K := K) (mg := mg) (base := base) (N := n_is_share) (qual := "is_share") (scope := defScope s_is_share) (f := f) (cd := cdv) (A := A) (outer := outer) (s := s) (H := H) (E := E)
  have po := po_of (P := P) (w := w) (K := K) (mg := mg) (base := base) (N := n_is_share) (qual := "is_share") (scope := defScope s_is_share) (f := f) (cd := cdv) (A := A) (outer := outer) (s := s) (H := H) (E := E)
  exact 
  sss_cons (ss_if (SW.st (sw_or (st_not (st_tru (se_isi (T := "tuple") (se_var (i := 0)) T.b_isinstance T.b_tuple (by decide +kernel)))) (sw_or1 (st_cmp (dop_ne hr.units) (se_callB dc_len T.b_len (by decide +kernel) (sa_cons (se_var (i := 0)) (sa_nil))) (se_int))))) (
    sss_cons (ss_ret (se_bl)) (sss_nil)) (sss_nil)) (
  sss_cons (ss_for po rfl (si_seq (se_var (i := 0))) (sg_name (i := 1) hN) (
    sss_cons (ss_if (SW.st (sw_or (st_not (st_tru (se_isi (T := "int") (se_var (i := 1)) T.b_isinstance T.b_int (by decide +kernel)))) (sw_or1 (st_tru (se_isi (T := "bool") (se_var (i := 1)) T.b_isinstance T.b_bool (by decide +kernel)))))) (
      sss_cons (ss_ret (se_bl)) (sss_nil)) (sss_nil)) (sss_nil))) (
  sss_cons (ss_ret (se_and (se_cmp dop_gt (se_ix (se_var (i := 0)) (se_int)) (se_int)) (se_one (se_cmp (dop_eq hr.units) (se_call (c_common T) tk (hr.mono (by decide)) (sa_cons (se_ix (se_var (i := 0)) (se_int)) (sa_cons (se_ix (se_var (i := 0)) (se_int)) (sa_nil)))) (se_int))))) (sss_nil)))
abbrev n__law_source : List Str := ["script", "cells", "cell"]
theorem sc__law_source : FnScope n__law_source ["script"] (defScope s__law_source) := ⟨rfl, rfl, rfl, by decide +kernel, rfl, by decide +kernel, by decide +kernel⟩
abbrev n__law_pick : List Str := ["source", "many", "left", "turn", "cells", "cell", "first", "second"]
theorem sc__law_pick : FnScope n__law_pick ["source", "many"] (defScope s__law_pick) := ⟨rfl, rfl, rfl, by decide +kernel, rfl, by decide +kernel, by decide +kernel⟩
theorem c__law_pick (T : Txt P K mg) : Cal P w K mg base 1 "_law_pick" 2 m__law_pick := by
  obtain ⟨f, fd, F, g⟩ := T.f__law_pick
  refine ⟨f, fd, ["source", "many"], fn_td F sc__law_pick fun cdv A outer s H E fm hr => ?_, g, F.kp, F.bindsN fun _ _ _ _ _ _ us hl => match us, hl with | [_, _], _ => rfl⟩
  have hN : n__law_pick.Nodup := sc__law_pick.nd
  have tk := tk_of (P := P) (w := w) (K := K) (mg := mg) (base := base) (N := n__law_pick) (qual := "_law_pick") (scope := defScope s__law_pick) (f := f) (cd := cdv) (A := A) (outer := outer) (s := s) (H := H) (E := E)
  have po := po_of (P := P) (w := w) (K := K) (mg := mg) (base := base) (N := n__law_pick) (qual := "_law_pick") (scope := defScope s__law_pick) (f := f) (cd := cdv) (A := A) (outer := outer) (s := s) (H := H) (E := E)
  exact 
  sss_cons (ss_if (st_cmp dop_gt (se_src (i := 0)) (se_int)) (
    sss_cons (ss_set (i := 2) hN (se_src (i := 0))) (
    sss_cons (ss_src (i := 0) (se_bin dop_div (se_var (i := 2)) (se_var (i := 1)))) (
    sss_cons (ss_ret (se_bin dop_mod (se_callTy dc_int T.b_int (by decide +kernel) (sa_cons (se_var (i := 2)) (sa_nil))) (se_var (i := 1)))) (sss_nil)))) (sss_nil)) (
  sss_cons (ss_set (i := 3) hN (se_src (i := 0))) (
  sss_cons (ss_src (i := 0) (se_bin dop_add (se_var (i := 3)) (se_int))) (
  sss_cons (ss_set (i := 4) hN (se_src (i := 0))) (
  sss_cons (ss_set (i := 5) hN (se_ix (se_var (i := 4)) (se_bin dop_mod (se_callTy dc_int T.b_int (by decide +kernel) (sa_cons (se_var (i := 3)) (sa_nil))) (se_callB dc_len T.b_len (by decide +kernel) (sa_cons (se_var (i := 4)) (sa_nil)))))) (
  sss_cons (ss_if (SW.st (sw_and (st_cmp dop_ge (se_var (i := 5)) (se_bin dop_pow (se_int) (se_int))) (sw_and1 (st_cmp dop_lt (se_var (i := 3)) (se_callB dc_len T.b_len (by decide +kernel) (sa_cons (se_var (i := 4)) (sa_nil))))))) (
    sss_cons (ss_src (i := 0) (se_bin dop_div (se_var (i := 5)) (se_var (i := 1)))) (
    sss_cons (ss_ret (se_bin dop_mod (se_callTy dc_int T.b_int (by decide +kernel) (sa_cons (se_var (i := 5)) (sa_nil))) (se_var (i := 1)))) (sss_nil))) (sss_nil)) (
  sss_cons (ss_set (i := 6) hN (se_bin dop_mod (se_callTy dc_int T.b_int (by decide +kernel) (sa_cons (se_bin dop_add (se_bin dop_add (se_bin dop_mul (se_bin dop_mod (se_callTy dc_int T.b_int (by decide +kernel) (sa_cons (se_var (i := 5)) (sa_nil))) (se_int)) (se_int)) (se_bin dop_mul (se_var (i := 3)) (se_int))) (se_int)) (sa_nil))) (se_int))) (
  sss_cons (ss_set (i := 7) hN (se_bin dop_mod (se_callTy dc_int T.b_int (by decide +kernel) (sa_cons (se_bin dop_add (se_bin dop_add (se_bin dop_mul (se_var (i := 6)) (se_bin dop_add (se_bin dop_mod (se_callTy dc_int T.b_int (by decide +kernel) (sa_cons (se_var (i := 6)) (sa_nil))) (se_int)) (se_int))) (se_bin dop_mul (se_var (i := 3)) (se_int))) (se_int)) (sa_nil))) (se_int))) (
  sss_cons (ss_ret (se_bin dop_mod (se_callTy dc_int T.b_int (by decide +kernel) (sa_cons (se_bin dop_div (se_var (i := 7)) (se_int)) (sa_nil))) (se_var (i := 1)))) (sss_nil)))))))))
abbrev n__law_is_int : List Str := ["value"]
theorem sc__law_is_int : FnScope n__law_is_int ["value"] (defScope s__law_is_int) := ⟨rfl, rfl, rfl, by decide +kernel, rfl, by decide +kernel, by decide +kernel⟩
theorem c__law_is_int (T : Txt P K mg) : Cal P w K mg base 1 "_law_is_int" 1 m__law_is_int := by
  obtain ⟨f, fd, F, g⟩ := T.f__law_is_int
  refine ⟨f, fd, ["value"], fn_td F sc__law_is_int fun cdv A outer s H E fm hr => ?_, g, F.kp, F.bindsN fun _ _ _ _ _ _ us hl => match us, hl with | [_], _ => rfl⟩
  have hN : n__law_is_int.Nodup := sc__law_is_int.nd
  have tk := tk_of (P := P) (w := w) (K := K) (mg := mg) (base := base) (N := n__law_is_int) (qual := "_law_is_int") (scope := defScope s__law_is_int) (f := f) (cd := cdv) (A := A) (outer := outer) (s := s) (H := H) (E := E)
  have po := po_of (P := P) (w := w) (K := K) (mg := mg) (base := base) (N := n__law_is_int) (qual := "_law_is_int") (scope := defScope s__law_is_int) (f := f) (cd := cdv) (A := A) (outer := outer) (s := s) (H := H) (E := E)
  exact 
  sss_cons (ss_ret (se_and (se_isi (T := "int") (se_var (i := 0)) T.b_isinstance T.b_int (by decide +kernel)) (se_one (se_not (se_isi (T := "bool") (se_var (i := 0)) T.b_isinstance T.b_bool (by decide +kernel)))))) (sss_nil)
abbrev n__law_is_share : List Str := ["value", "one", "other"]
theorem sc__law_is_share : FnScope n__law_is_share ["value"] (defScope s__law_is_share) := ⟨rfl, rfl, rfl, by decide +kernel, rfl, by decide +kernel, by decide +kernel⟩
theorem c__law_is_share (T : Txt P K mg) : Cal P w K mg base 2 "_law_is_share" 1 m__law_is_share := by
  obtain ⟨f, fd, F, g⟩ := T.f__law_is_share
  refine ⟨f, fd, ["value"], fn_td F sc__law_is_share fun cdv A outer s H E fm hr => ?_, g, F.kp, F.bindsN fun _ _ _ _ _ _ us hl => match us, hl with | [_], _ => rfl⟩
  have hN : n__law_is_share.Nodup := sc__law_is_share.nd
  have tk := tk_of (P := P) (w := w) (K := K) (mg := mg) (base := base) (N := n__law_is_share) (qual := "_law_is_share") (scope := defScope s__law_is_share) (f := f) (cd := cdv) (A := A) (outer := outer) (s := s) (H := H) (E := E)
  have po := po_of (P := P) (w := w) (K := K) (mg := mg) (base := base) (N := n__law_is_share) (qual := "_law_is_share") (scope := defScope s__law_is_share) (f := f) (cd := cdv) (A := A) (outer := outer) (s := s) (H := H) (E := E)
  exact 
  sss_cons (ss_if (SW.st (sw_or (st_not (st_tru (se_isi (T := "tuple") (se_var (i := 0)) T.b_isinstance T.b_tuple (by decide +kernel)))) (sw_or1 (st_cmp (dop_ne hr.units) (se_callB dc_len T.b_len (by decide +kernel) (sa_cons (se_var (i := 0)) (sa_nil))) (se_int))))) (
    sss_cons (ss_ret (se_bl)) (sss_nil)) (sss_nil)) (
  sss_cons (ss_if (SW.st (sw_or (st_not (st_tru (se_call (c__law_is_int T) tk (hr.mono (by decide)) (sa_cons (se_ix (se_var (i := 0)) (se_int)) (sa_nil))))) (sw_or (st_not (st_tru (se_call (c__law_is_int T) tk (hr.mono (by decide)) (sa_cons (se_ix (se_var (i := 0)) (se_int)) (sa_nil))))) (sw_or1 (st_cmp dop_lt (se_ix (se_var (i := 0)) (se_int)) (se_int)))))) (
    sss_cons (ss_ret (se_bl)) (sss_nil)) (sss_nil)) (
  sss_cons (ss_par (i := 1) (j := 2) rfl hN (sa_cons (se_callB dc_abs T.b_abs (by decide +kernel) (sa_cons (se_ix (se_var (i := 0)) (se_int)) (sa_nil))) (sa_cons (se_ix (se_var (i := 0)) (se_int)) (sa_nil)))) (
  sss_cons (ss_while po (st_cmp dop_gt (se_var (i := 2)) (se_int)) (
    sss_cons (ss_par (i := 1) (j := 2) rfl hN (sa_cons (se_var (i := 2)) (sa_cons (se_bin dop_mod (se_callTy dc_int T.b_int (by decide +kernel) (sa_cons (se_var (i := 1)) (sa_nil))) (se_var (i := 2))) (sa_nil)))) (sss_nil))) (
  sss_cons (ss_ret (se_cmp (dop_eq hr.units) (se_var (i := 1)) (se_int))) (sss_nil)))))
abbrev n__law_said : List Str := ["told", "due"]
theorem sc__law_said : FnScope n__law_said ["told", "due"] (defScope s__law_said) := ⟨rfl, rfl, rfl, by decide +kernel, rfl, by decide +kernel, by decide +kernel⟩
theorem c__law_said (T : Txt P K mg) : Cal P w K mg base 1 "_law_said" 2 m__law_said := by
  obtain ⟨f, fd, F, g⟩ := T.f__law_said
  refine ⟨f, fd, ["told", "due"], fn_td F sc__law_said fun cdv A outer s H E fm hr => ?_, g, F.kp, F.bindsN fun _ _ _ _ _ _ us hl => match us, hl with | [_, _], _ => rfl⟩
  have hN : n__law_said.Nodup := sc__law_said.nd
  have tk := tk_of (P := P) (w := w) (K := K) (mg := mg) (base := base) (N := n__law_said) (qual := "_law_said") (scope := defScope s__law_said) (f := f) (cd := cdv) (A := A) (outer := outer) (s := s) (H := H) (E := E)
  have po := po_of (P := P) (w := w) (K := K) (mg := mg) (base := base) (N := n__law_said) (qual := "_law_said") (scope := defScope s__law_said) (f := f) (cd := cdv) (A := A) (outer := outer) (s := s) (H := H) (E := E)
  exact 
  sss_cons (ss_if (st_tru (se_var (i := 1))) (
    sss_cons (ss_ret (se_cmp dop_is (se_var (i := 0)) (se_bl))) (sss_nil)) (sss_nil)) (
  sss_cons (ss_ret (se_cmp dop_is (se_var (i := 0)) (se_bl))) (sss_nil))
abbrev n__law_lowest : List Str := ["top", "down", "one", "other"]
theorem sc__law_lowest : FnScope n__law_lowest ["top", "down"] (defScope s__law_lowest) := ⟨rfl, rfl, rfl, by decide +kernel, rfl, by decide +kernel, by decide +kernel⟩
theorem c__law_lowest (T : Txt P K mg) : Cal P w K mg base 1 "_law_lowest" 2 m__law_lowest := by
  obtain ⟨f, fd, F, g⟩ := T.f__law_lowest
  refine ⟨f, fd, ["top", "down"], fn_td F sc__law_lowest fun cdv A outer s H E fm hr => ?_, g, F.kp, F.bindsN fun _ _ _ _ _ _ us hl => match us, hl with | [_, _], _ => rfl⟩
  have hN : n__law_lowest.Nodup := sc__law_lowest.nd
  have tk := tk_of (P := P) (w := w) (K := K) (mg := mg) (base := base) (N := n__law_lowest) (qual := "_law_lowest") (scope := defScope s__law_lowest) (f := f) (cd := cdv) (A := A) (outer := outer) (s := s) (H := H) (E := E)
  have po := po_of (P := P) (w := w) (K := K) (mg := mg) (base := base) (N := n__law_lowest) (qual := "_law_lowest") (scope := defScope s__law_lowest) (f := f) (cd := cdv) (A := A) (outer := outer) (s := s) (H := H) (E := E)
  exact 
  sss_cons (ss_par (i := 2) (j := 3) rfl hN (sa_cons (se_callB dc_abs T.b_abs (by decide +kernel) (sa_cons (se_var (i := 0)) (sa_nil))) (sa_cons (se_callB dc_abs T.b_abs (by decide +kernel) (sa_cons (se_var (i := 1)) (sa_nil))) (sa_nil)))) (
  sss_cons (ss_while po (st_cmp dop_gt (se_var (i := 3)) (se_int)) (
    sss_cons (ss_par (i := 2) (j := 3) rfl hN (sa_cons (se_var (i := 3)) (sa_cons (se_bin dop_mod (se_callTy dc_int T.b_int (by decide +kernel) (sa_cons (se_var (i := 2)) (sa_nil))) (se_var (i := 3))) (sa_nil)))) (sss_nil))) (
  sss_cons (ss_if (st_cmp dop_lt (se_var (i := 1)) (se_int)) (
    sss_cons (ss_par (i := 0) (j := 1) rfl hN (sa_cons (se_bin dop_sub (se_int) (se_var (i := 0))) (sa_cons (se_bin dop_sub (se_int) (se_var (i := 1))) (sa_nil)))) (sss_nil)) (sss_nil)) (
  sss_cons (ss_ret (se_tup (sa_cons (se_bin dop_div (se_var (i := 0)) (se_var (i := 2))) (sa_cons (se_bin dop_div (se_var (i := 1)) (se_var (i := 2))) (sa_nil))))) (sss_nil))))
abbrev n__law_stands : List Str := ["told", "top", "down"]
theorem sc__law_stands : FnScope n__law_stands ["told", "top", "down"] (defScope s__law_stands) := ⟨rfl, rfl, rfl, by decide +kernel, rfl, by decide +kernel, by decide +kernel⟩
theorem c__law_stands (T : Txt P K mg) : Cal P w K mg base 3 "_law_stands" 3 m__law_stands := by
  obtain ⟨f, fd, F, g⟩ := T.f__law_stands
  refine ⟨f, fd, ["told", "top", "down"], fn_td F sc__law_stands fun cdv A outer s H E fm hr => ?_, g, F.kp, F.bindsN fun _ _ _ _ _ _ us hl => match us, hl with | [_, _, _], _ => rfl⟩
  have hN : n__law_stands.Nodup := sc__law_stands.nd
  have tk := tk_of (P := P) (w := w) (K := K) (mg := mg) (base := base) (N := n__law_stands) (qual := "_law_stands") (scope := defScope s__law_stands) (f := f) (cd := cdv) (A := A) (outer := outer) (s := s) (H := H) (E := E)
  have po := po_of (P := P) (w := w) (K := K) (mg := mg) (base := base) (N := n__law_stands) (qual := "_law_stands") (scope := defScope s__law_stands) (f := f) (cd := cdv) (A := A) (outer := outer) (s := s) (H := H) (E := E)
  exact 
  sss_cons (ss_ret (se_and (se_call (c__law_is_share T) tk (hr.mono (by decide)) (sa_cons (se_var (i := 0)) (sa_nil))) (se_one (se_cmp (dop_eq hr.units) (se_bin dop_mul (se_ix (se_var (i := 0)) (se_int)) (se_var (i := 2))) (se_bin dop_mul (se_var (i := 1)) (se_ix (se_var (i := 0)) (se_int))))))) (sss_nil)
abbrev n__law_integer : List Str := ["source", "number", "turn"]
theorem sc__law_integer : FnScope n__law_integer ["source"] (defScope s__law_integer) := ⟨rfl, rfl, rfl, by decide +kernel, rfl, by decide +kernel, by decide +kernel⟩
theorem c__law_integer (T : Txt P K mg) : Cal P w K mg base 2 "_law_integer" 1 m__law_integer := by
  obtain ⟨f, fd, F, g⟩ := T.f__law_integer
  refine ⟨f, fd, ["source"], fn_td F sc__law_integer fun cdv A outer s H E fm hr => ?_, g, F.kp, F.bindsN fun _ _ _ _ _ _ us hl => match us, hl with | [_], _ => rfl⟩
  have hN : n__law_integer.Nodup := sc__law_integer.nd
  have tk := tk_of (P := P) (w := w) (K := K) (mg := mg) (base := base) (N := n__law_integer) (qual := "_law_integer") (scope := defScope s__law_integer) (f := f) (cd := cdv) (A := A) (outer := outer) (s := s) (H := H) (E := E)
  have po := po_of (P := P) (w := w) (K := K) (mg := mg) (base := base) (N := n__law_integer) (qual := "_law_integer") (scope := defScope s__law_integer) (f := f) (cd := cdv) (A := A) (outer := outer) (s := s) (H := H) (E := E)
  exact 
  sss_cons (ss_set (i := 1) hN (se_call (c__law_pick T) tk (hr.mono (by decide)) (sa_cons (se_var (i := 0)) (sa_cons (se_int) (sa_nil))))) (
  sss_cons (ss_if (st_cmp (dop_eq hr.units) (se_call (c__law_pick T) tk (hr.mono (by decide)) (sa_cons (se_var (i := 0)) (sa_cons (se_int) (sa_nil)))) (se_int)) (
    sss_cons (ss_for po rfl (si_rng1 (sa_cons (se_bin dop_add (se_int) (se_call (c__law_pick T) tk (hr.mono (by decide)) (sa_cons (se_var (i := 0)) (sa_cons (se_int) (sa_nil))))) (sa_nil)) T.b_range) (sg_name (i := 2) hN) (
      sss_cons (ss_set (i := 1) hN (se_bin dop_add (se_bin dop_mul (se_var (i := 1)) (se_int)) (se_call (c__law_pick T) tk (hr.mono (by decide)) (sa_cons (se_var (i := 0)) (sa_cons (se_int) (sa_nil)))))) (sss_nil))) (sss_nil)) (sss_nil)) (
  sss_cons (ss_ret (se_if (st_cmp (dop_eq hr.units) (se_call (c__law_pick T) tk (hr.mono (by decide)) (sa_cons (se_var (i := 0)) (sa_cons (se_int) (sa_nil)))) (se_int)) (se_var (i := 1)) (se_bin dop_sub (se_int) (se_var (i := 1))))) (sss_nil)))
abbrev n__law_fraction : List Str := ["source", "down"]
theorem sc__law_fraction : FnScope n__law_fraction ["source"] (defScope s__law_fraction) := ⟨rfl, rfl, rfl, by decide +kernel, rfl, by decide +kernel, by decide +kernel⟩
theorem c__law_fraction (T : Txt P K mg) : Cal P w K mg base 3 "_law_fraction" 1 m__law_fraction := by
  obtain ⟨f, fd, F, g⟩ := T.f__law_fraction
  refine ⟨f, fd, ["source"], fn_td F sc__law_fraction fun cdv A outer s H E fm hr => ?_, g, F.kp, F.bindsN fun _ _ _ _ _ _ us hl => match us, hl with | [_], _ => rfl⟩
  have hN : n__law_fraction.Nodup := sc__law_fraction.nd
  have tk := tk_of (P := P) (w := w) (K := K) (mg := mg) (base := base) (N := n__law_fraction) (qual := "_law_fraction") (scope := defScope s__law_fraction) (f := f) (cd := cdv) (A := A) (outer := outer) (s := s) (H := H) (E := E)
  have po := po_of (P := P) (w := w) (K := K) (mg := mg) (base := base) (N := n__law_fraction) (qual := "_law_fraction") (scope := defScope s__law_fraction) (f := f) (cd := cdv) (A := A) (outer := outer) (s := s) (H := H) (E := E)
  exact 
  sss_cons (ss_set (i := 1) hN (se_call (c__law_integer T) tk (hr.mono (by decide)) (sa_cons (se_var (i := 0)) (sa_nil)))) (
  sss_cons (ss_if (st_cmp (dop_eq hr.units) (se_var (i := 1)) (se_int)) (
    sss_cons (ss_set (i := 1) hN (se_bin dop_add (se_int) (se_call (c__law_pick T) tk (hr.mono (by decide)) (sa_cons (se_var (i := 0)) (sa_cons (se_int) (sa_nil)))))) (sss_nil)) (sss_nil)) (
  sss_cons (ss_ret (se_tup (sa_cons (se_call (c__law_integer T) tk (hr.mono (by decide)) (sa_cons (se_var (i := 0)) (sa_nil))) (sa_cons (se_var (i := 1)) (sa_nil))))) (sss_nil)))
abbrev n__law_mate : List Str := ["source", "one", "way", "by", "top", "down"]
theorem sc__law_mate : FnScope n__law_mate ["source", "one"] (defScope s__law_mate) := ⟨rfl, rfl, rfl, by decide +kernel, rfl, by decide +kernel, by decide +kernel⟩
theorem c__law_mate (T : Txt P K mg) : Cal P w K mg base 4 "_law_mate" 2 m__law_mate := by
  obtain ⟨f, fd, F, g⟩ := T.f__law_mate
  refine ⟨f, fd, ["source", "one"], fn_td F sc__law_mate fun cdv A outer s H E fm hr => ?_, g, F.kp, F.bindsN fun _ _ _ _ _ _ us hl => match us, hl with | [_, _], _ => rfl⟩
  have hN : n__law_mate.Nodup := sc__law_mate.nd
  have tk := tk_of (P := P) (w := w) (K := K) (mg := mg) (base := base) (N := n__law_mate) (qual := "_law_mate") (scope := defScope s__law_mate) (f := f) (cd := cdv) (A := A) (outer := outer) (s := s) (H := H) (E := E)
  have po := po_of (P := P) (w := w) (K := K) (mg := mg) (base := base) (N := n__law_mate) (qual := "_law_mate") (scope := defScope s__law_mate) (f := f) (cd := cdv) (A := A) (outer := outer) (s := s) (H := H) (E := E)
  exact 
  sss_cons (ss_set (i := 2) hN (se_call (c__law_pick T) tk (hr.mono (by decide)) (sa_cons (se_var (i := 0)) (sa_cons (se_int) (sa_nil))))) (
  sss_cons (ss_if (st_cmp (dop_eq hr.units) (se_var (i := 2)) (se_int)) (
    sss_cons (ss_ret (se_var (i := 1))) (sss_nil)) (sss_nil)) (
  sss_cons (ss_if (st_cmp (dop_eq hr.units) (se_var (i := 2)) (se_int)) (
    sss_cons (ss_ret (se_tup (sa_cons (se_bin dop_sub (se_int) (se_ix (se_var (i := 1)) (se_int))) (sa_cons (se_ix (se_var (i := 1)) (se_int)) (sa_nil))))) (sss_nil)) (sss_nil)) (
  sss_cons (ss_if (st_cmp (dop_eq hr.units) (se_var (i := 2)) (se_int)) (
    sss_cons (ss_set (i := 3) hN (se_bin dop_add (se_int) (se_bin dop_mul (se_call (c__law_pick T) tk (hr.mono (by decide)) (sa_cons (se_var (i := 0)) (sa_cons (se_int) (sa_nil)))) (se_call (c__law_pick T) tk (hr.mono (by decide)) (sa_cons (se_var (i := 0)) (sa_cons (se_int) (sa_nil))))))) (
    sss_cons (ss_ret (se_call (c__law_lowest T) tk (hr.mono (by decide)) (sa_cons (se_bin dop_sub (se_bin dop_add (se_bin dop_mul (se_ix (se_var (i := 1)) (se_int)) (se_var (i := 3))) (se_int)) (se_bin dop_mul (se_int) (se_call (c__law_pick T) tk (hr.mono (by decide)) (sa_cons (se_var (i := 0)) (sa_cons (se_int) (sa_nil)))))) (sa_cons (se_bin dop_mul (se_ix (se_var (i := 1)) (se_int)) (se_var (i := 3))) (sa_nil))))) (sss_nil))) (sss_nil)) (
  sss_cons (ss_asg (sg_tup (n := 2) rfl (sgs_cons (sg_name (i := 4) hN) (sgs_cons (sg_name (i := 5) hN) (sgs_nil)))) (se_call (c__law_fraction T) tk (hr.mono (by decide)) (sa_cons (se_var (i := 0)) (sa_nil)))) (
  sss_cons (ss_ret (se_call (c__law_lowest T) tk (hr.mono (by decide)) (sa_cons (se_var (i := 4)) (sa_cons (se_var (i := 5)) (sa_nil))))) (sss_nil))))))
abbrev n__law_refused : List Str := ["way", "one", "other", "refused"]
theorem sc__law_refused : FnScope n__law_refused ["way", "one", "other"] (defScope s__law_refused) := ⟨rfl, rfl, rfl, by decide +kernel, rfl, by decide +kernel, by decide +kernel⟩
theorem c__law_refused (T : Txt P K mg) : Cal P w K mg base 5 "_law_refused" 3 m__law_refused := by
  obtain ⟨f, fd, F, g⟩ := T.f__law_refused
  refine ⟨f, fd, ["way", "one", "other"], fn_td F sc__law_refused fun cdv A outer s H E fm hr => ?_, g, F.kp, F.bindsN fun _ _ _ _ _ _ us hl => match us, hl with | [_, _, _], _ => rfl⟩
  have hN : n__law_refused.Nodup := sc__law_refused.nd
  have tk := tk_of (P := P) (w := w) (K := K) (mg := mg) (base := base) (N := n__law_refused) (qual := "_law_refused") (scope := defScope s__law_refused) (f := f) (cd := cdv) (A := A) (outer := outer) (s := s) (H := H) (E := E)
  have po := po_of (P := P) (w := w) (K := K) (mg := mg) (base := base) (N := n__law_refused) (qual := "_law_refused") (scope := defScope s__law_refused) (f := f) (cd := cdv) (A := A) (outer := outer) (s := s) (H := H) (E := E)
  exact 
  sss_cons (ss_try rfl rfl hN tk (fun _ _ _ tk po => 
    sss_cons (ss_if (st_cmp (dop_eq hr.units) (se_var (i := 0)) (se_int)) (
      sss_cons (ss_expr (se_call (c_share T) tk (hr.mono (by decide)) (sa_cons (se_var (i := 1)) (sa_cons (se_var (i := 2)) (sa_nil))))) (sss_nil)) (
      sss_cons (ss_expr (se_call (c_divided T) tk (hr.mono (by decide)) (sa_cons (se_var (i := 1)) (sa_cons (se_var (i := 2)) (sa_nil))))) (sss_nil))) (sss_nil)) (.named (i := 3) rfl rfl T.x_BadValue rfl (by decide) (fun _ _ _ _ _ _ hS => 
    sss_cons (ss_if (st_tru (se_isXT (i := 3) hS T.b_isinstance (.cons T.x_BadText rfl (by decide) (.cons T.x_TooMany rfl (by decide) (.cons T.x_Unlike rfl (by decide) (.cons T.x_Unknown rfl (by decide) (.cons T.x_BadPaper rfl (by decide) .nil))))) (by decide))) (
      sss_cons (ss_ret (se_bl)) (sss_nil)) (sss_nil)) (
    sss_cons (ss_ret (se_and (se_isX (i := 3) hS T.b_isinstance T.x_TalkError) (se_and (se_isXB (i := 3) (T := "ValueError") hS T.b_isinstance T.x_ValueError (by decide +kernel)) (se_one (se_cmp (dop_eq hr.units) (se_exf (i := 3) hS) (se_str)))))) (sss_nil))) (.only T.x_TalkError rfl (by decide) (fun _ _ _ _ _ _ hS => 
    sss_cons (ss_ret (se_bl)) (sss_nil)) (.nil)))) (
  sss_cons (ss_ret (se_bl)) (sss_nil))
abbrev n__law_made_right : List Str := ["source", "top", "down", "factor"]
theorem sc__law_made_right : FnScope n__law_made_right ["source"] (defScope s__law_made_right) := ⟨rfl, rfl, rfl, by decide +kernel, rfl, by decide +kernel, by decide +kernel⟩
theorem c__law_made_right (T : Txt P K mg) : Cal P w K mg base 6 "_law_made_right" 1 m__law_made_right := by
  obtain ⟨f, fd, F, g⟩ := T.f__law_made_right
  refine ⟨f, fd, ["source"], fn_td F sc__law_made_right fun cdv A outer s H E fm hr => ?_, g, F.kp, F.bindsN fun _ _ _ _ _ _ us hl => match us, hl with | [_], _ => rfl⟩
  have hN : n__law_made_right.Nodup := sc__law_made_right.nd
  have tk := tk_of (P := P) (w := w) (K := K) (mg := mg) (base := base) (N := n__law_made_right) (qual := "_law_made_right") (scope := defScope s__law_made_right) (f := f) (cd := cdv) (A := A) (outer := outer) (s := s) (H := H) (E := E)
  have po := po_of (P := P) (w := w) (K := K) (mg := mg) (base := base) (N := n__law_made_right) (qual := "_law_made_right") (scope := defScope s__law_made_right) (f := f) (cd := cdv) (A := A) (outer := outer) (s := s) (H := H) (E := E)
  exact 
  sss_cons (ss_asg (sg_tup (n := 2) rfl (sgs_cons (sg_name (i := 1) hN) (sgs_cons (sg_name (i := 2) hN) (sgs_nil)))) (se_call (c__law_fraction T) tk (hr.mono (by decide)) (sa_cons (se_var (i := 0)) (sa_nil)))) (
  sss_cons (ss_for po rfl (si_seq (se_tup (sa_cons (se_int) (sa_cons (se_bin dop_sub (se_int) (se_int)) (sa_cons (se_bin dop_add (se_int) (se_call (c__law_pick T) tk (hr.mono (by decide)) (sa_cons (se_var (i := 0)) (sa_cons (se_int) (sa_nil))))) (sa_nil)))))) (sg_name (i := 3) hN) (
    sss_cons (ss_if (st_not (st_tru (se_call (c__law_stands T) tk (hr.mono (by decide)) (sa_cons (se_call (c_share T) tk (hr.mono (by decide)) (sa_cons (se_bin dop_mul (se_var (i := 1)) (se_var (i := 3))) (sa_cons (se_bin dop_mul (se_var (i := 2)) (se_var (i := 3))) (sa_nil)))) (sa_cons (se_var (i := 1)) (sa_cons (se_var (i := 2)) (sa_nil))))))) (
      sss_cons (ss_ret (se_bl)) (sss_nil)) (sss_nil)) (sss_nil))) (
  sss_cons (ss_if (SW.st (sw_or (st_not (st_tru (se_call (c__law_stands T) tk (hr.mono (by decide)) (sa_cons (se_call (c_share T) tk (hr.mono (by decide)) (sa_cons (se_int) (sa_cons (se_var (i := 2)) (sa_nil)))) (sa_cons (se_int) (sa_cons (se_int) (sa_nil))))))) (sw_or1 (st_not (st_tru (se_call (c__law_stands T) tk (hr.mono (by decide)) (sa_cons (se_call (c_share T) tk (hr.mono (by decide)) (sa_cons (se_var (i := 2)) (sa_cons (se_var (i := 2)) (sa_nil)))) (sa_cons (se_int) (sa_cons (se_int) (sa_nil)))))))))) (
    sss_cons (ss_ret (se_bl)) (sss_nil)) (sss_nil)) (
  sss_cons (ss_ret (se_and (se_call (c__law_refused T) tk (hr.mono (by decide)) (sa_cons (se_int) (sa_cons (se_var (i := 1)) (sa_cons (se_int) (sa_nil))))) (se_and (se_call (c__law_refused T) tk (hr.mono (by decide)) (sa_cons (se_int) (sa_cons (se_int) (sa_cons (se_int) (sa_nil))))) (se_one (se_call (c__law_refused T) tk (hr.mono (by decide)) (sa_cons (se_int) (sa_cons (se_int) (sa_cons (se_int) (sa_nil))))))))) (sss_nil))))
abbrev n__law_pair_right : List Str := ["one", "other", "a", "b", "c", "d"]
theorem sc__law_pair_right : FnScope n__law_pair_right ["one", "other"] (defScope s__law_pair_right) := ⟨rfl, rfl, rfl, by decide +kernel, rfl, by decide +kernel, by decide +kernel⟩
theorem c__law_pair_right (T : Txt P K mg) : Cal P w K mg base 6 "_law_pair_right" 2 m__law_pair_right := by
  obtain ⟨f, fd, F, g⟩ := T.f__law_pair_right
  refine ⟨f, fd, ["one", "other"], fn_td F sc__law_pair_right fun cdv A outer s H E fm hr => ?_, g, F.kp, F.bindsN fun _ _ _ _ _ _ us hl => match us, hl with | [_, _], _ => rfl⟩
  have hN : n__law_pair_right.Nodup := sc__law_pair_right.nd
  have tk := tk_of (P := P) (w := w) (K := K) (mg := mg) (base := base) (N := n__law_pair_right) (qual := "_law_pair_right") (scope := defScope s__law_pair_right) (f := f) (cd := cdv) (A := A) (outer := outer) (s := s) (H := H) (E := E)
  have po := po_of (P := P) (w := w) (K := K) (mg := mg) (base := base) (N := n__law_pair_right) (qual := "_law_pair_right") (scope := defScope s__law_pair_right) (f := f) (cd := cdv) (A := A) (outer := outer) (s := s) (H := H) (E := E)
  exact 
  sss_cons (ss_asg (sg_tup (n := 2) rfl (sgs_cons (sg_name (i := 2) hN) (sgs_cons (sg_name (i := 3) hN) (sgs_nil)))) (se_var (i := 0))) (
  sss_cons (ss_asg (sg_tup (n := 2) rfl (sgs_cons (sg_name (i := 4) hN) (sgs_cons (sg_name (i := 5) hN) (sgs_nil)))) (se_var (i := 1))) (
  sss_cons (ss_if (st_not (st_tru (se_call (c__law_stands T) tk (hr.mono (by decide)) (sa_cons (se_call (c_plus T) tk (hr.mono (by decide)) (sa_cons (se_var (i := 0)) (sa_cons (se_var (i := 1)) (sa_nil)))) (sa_cons (se_bin dop_add (se_bin dop_mul (se_var (i := 2)) (se_var (i := 5))) (se_bin dop_mul (se_var (i := 4)) (se_var (i := 3)))) (sa_cons (se_bin dop_mul (se_var (i := 3)) (se_var (i := 5))) (sa_nil))))))) (
    sss_cons (ss_ret (se_bl)) (sss_nil)) (sss_nil)) (
  sss_cons (ss_if (st_not (st_tru (se_call (c__law_stands T) tk (hr.mono (by decide)) (sa_cons (se_call (c_minus T) tk (hr.mono (by decide)) (sa_cons (se_var (i := 0)) (sa_cons (se_var (i := 1)) (sa_nil)))) (sa_cons (se_bin dop_sub (se_bin dop_mul (se_var (i := 2)) (se_var (i := 5))) (se_bin dop_mul (se_var (i := 4)) (se_var (i := 3)))) (sa_cons (se_bin dop_mul (se_var (i := 3)) (se_var (i := 5))) (sa_nil))))))) (
    sss_cons (ss_ret (se_bl)) (sss_nil)) (sss_nil)) (
  sss_cons (ss_if (st_not (st_tru (se_call (c__law_stands T) tk (hr.mono (by decide)) (sa_cons (se_call (c_multiplied T) tk (hr.mono (by decide)) (sa_cons (se_var (i := 0)) (sa_cons (se_var (i := 1)) (sa_nil)))) (sa_cons (se_bin dop_mul (se_var (i := 2)) (se_var (i := 4))) (sa_cons (se_bin dop_mul (se_var (i := 3)) (se_var (i := 5))) (sa_nil))))))) (
    sss_cons (ss_ret (se_bl)) (sss_nil)) (sss_nil)) (
  sss_cons (ss_if (st_not (st_tru (se_call (c__law_said T) tk (hr.mono (by decide)) (sa_cons (se_call (c_below T) tk (hr.mono (by decide)) (sa_cons (se_var (i := 0)) (sa_cons (se_var (i := 1)) (sa_nil)))) (sa_cons (se_cmp dop_lt (se_bin dop_mul (se_var (i := 2)) (se_var (i := 5))) (se_bin dop_mul (se_var (i := 4)) (se_var (i := 3)))) (sa_nil)))))) (
    sss_cons (ss_ret (se_bl)) (sss_nil)) (sss_nil)) (
  sss_cons (ss_if (st_cmp (dop_eq hr.units) (se_var (i := 4)) (se_int)) (
    sss_cons (ss_ret (se_call (c__law_refused T) tk (hr.mono (by decide)) (sa_cons (se_int) (sa_cons (se_var (i := 0)) (sa_cons (se_var (i := 1)) (sa_nil)))))) (sss_nil)) (sss_nil)) (
  sss_cons (ss_ret (se_and (se_call (c__law_stands T) tk (hr.mono (by decide)) (sa_cons (se_call (c_divided T) tk (hr.mono (by decide)) (sa_cons (se_var (i := 0)) (sa_cons (se_var (i := 1)) (sa_nil)))) (sa_cons (se_bin dop_mul (se_var (i := 2)) (se_var (i := 5))) (sa_cons (se_bin dop_mul (se_var (i := 3)) (se_var (i := 4))) (sa_nil))))) (se_one (se_call (c__law_refused T) tk (hr.mono (by decide)) (sa_cons (se_int) (sa_cons (se_var (i := 1)) (sa_cons (se_tup (sa_cons (se_int) (sa_cons (se_int) (sa_nil)))) (sa_nil)))))))) (sss_nil))))))))
abbrev n__law_ceiling_right : List Str := ["one", "told"]
theorem sc__law_ceiling_right : FnScope n__law_ceiling_right ["one"] (defScope s__law_ceiling_right) := ⟨rfl, rfl, rfl, by decide +kernel, rfl, by decide +kernel, by decide +kernel⟩
theorem c__law_ceiling_right (T : Txt P K mg) : Cal P w K mg base 2 "_law_ceiling_right" 1 m__law_ceiling_right := by
  obtain ⟨f, fd, F, g⟩ := T.f__law_ceiling_right
  refine ⟨f, fd, ["one"], fn_td F sc__law_ceiling_right fun cdv A outer s H E fm hr => ?_, g, F.kp, F.bindsN fun _ _ _ _ _ _ us hl => match us, hl with | [_], _ => rfl⟩
  have hN : n__law_ceiling_right.Nodup := sc__law_ceiling_right.nd
  have tk := tk_of (P := P) (w := w) (K := K) (mg := mg) (base := base) (N := n__law_ceiling_right) (qual := "_law_ceiling_right") (scope := defScope s__law_ceiling_right) (f := f) (cd := cdv) (A := A) (outer := outer) (s := s) (H := H) (E := E)
  have po := po_of (P := P) (w := w) (K := K) (mg := mg) (base := base) (N := n__law_ceiling_right) (qual := "_law_ceiling_right") (scope := defScope s__law_ceiling_right) (f := f) (cd := cdv) (A := A) (outer := outer) (s := s) (H := H) (E := E)
  exact 
  sss_cons (ss_set (i := 1) hN (se_call (c_ceiling T) tk (hr.mono (by decide)) (sa_cons (se_var (i := 0)) (sa_nil)))) (
  sss_cons (ss_if (st_not (st_tru (se_call (c__law_is_int T) tk (hr.mono (by decide)) (sa_cons (se_var (i := 1)) (sa_nil))))) (
    sss_cons (ss_ret (se_bl)) (sss_nil)) (sss_nil)) (
  sss_cons (ss_ret (se_and (se_cmp dop_ge (se_bin dop_mul (se_var (i := 1)) (se_ix (se_var (i := 0)) (se_int))) (se_ix (se_var (i := 0)) (se_int))) (se_one (se_cmp dop_lt (se_bin dop_mul (se_bin dop_sub (se_var (i := 1)) (se_int)) (se_ix (se_var (i := 0)) (se_int))) (se_ix (se_var (i := 0)) (se_int)))))) (sss_nil)))
abbrev n__law_total_right : List Str := ["source", "many", "rows", "top", "down", "turn", "own", "given"]
theorem sc__law_total_right : FnScope n__law_total_right ["source"] (defScope s__law_total_right) := ⟨rfl, rfl, rfl, by decide +kernel, rfl, by decide +kernel, by decide +kernel⟩
theorem c__law_total_right (T : Txt P K mg) : Cal P w K mg base 6 "_law_total_right" 1 m__law_total_right := by
  obtain ⟨f, fd, F, g⟩ := T.f__law_total_right
  refine ⟨f, fd, ["source"], fn_td F sc__law_total_right fun cdv A outer s H E fm hr => ?_, g, F.kp, F.bindsN fun _ _ _ _ _ _ us hl => match us, hl with | [_], _ => rfl⟩
  have hN : n__law_total_right.Nodup := sc__law_total_right.nd
  have tk := tk_of (P := P) (w := w) (K := K) (mg := mg) (base := base) (N := n__law_total_right) (qual := "_law_total_right") (scope := defScope s__law_total_right) (f := f) (cd := cdv) (A := A) (outer := outer) (s := s) (H := H) (E := E)
  have po := po_of (P := P) (w := w) (K := K) (mg := mg) (base := base) (N := n__law_total_right) (qual := "_law_total_right") (scope := defScope s__law_total_right) (f := f) (cd := cdv) (A := A) (outer := outer) (s := s) (H := H) (E := E)
  exact 
  sss_cons (ss_set (i := 1) hN (se_if (st_cmp (dop_eq hr.units) (se_call (c__law_pick T) tk (hr.mono (by decide)) (sa_cons (se_var (i := 0)) (sa_cons (se_int) (sa_nil)))) (se_int)) (se_int) (se_call (c__law_pick T) tk (hr.mono (by decide)) (sa_cons (se_var (i := 0)) (sa_cons (se_int) (sa_nil)))))) (
  sss_cons (ss_setF (i := 2) hN (sf_lst (sa_nil))) (
  sss_cons (ss_asg (sg_tup (n := 2) rfl (sgs_cons (sg_name (i := 3) hN) (sgs_cons (sg_name (i := 4) hN) (sgs_nil)))) (se_tup (sa_cons (se_int) (sa_cons (se_int) (sa_nil))))) (
  sss_cons (ss_for po rfl (si_rng1 (sa_cons (se_var (i := 1)) (sa_nil)) T.b_range) (sg_name (i := 5) hN) (
    sss_cons (ss_set (i := 6) hN (se_call (c__law_lowest T) tk (hr.mono (by decide)) (sa_cons (se_bin dop_sub (se_call (c__law_pick T) tk (hr.mono (by decide)) (sa_cons (se_var (i := 0)) (sa_cons (se_int) (sa_nil)))) (se_int)) (sa_cons (se_bin dop_add (se_int) (se_call (c__law_pick T) tk (hr.mono (by decide)) (sa_cons (se_var (i := 0)) (sa_cons (se_int) (sa_nil))))) (sa_nil))))) (
    sss_cons (ss_append (i := 2) (se_var (i := 6))) (
    sss_cons (ss_par (i := 3) (j := 4) rfl hN (sa_cons (se_bin dop_add (se_bin dop_mul (se_var (i := 3)) (se_ix (se_var (i := 6)) (se_int))) (se_bin dop_mul (se_ix (se_var (i := 6)) (se_int)) (se_var (i := 4)))) (sa_cons (se_bin dop_mul (se_var (i := 4)) (se_ix (se_var (i := 6)) (se_int))) (sa_nil)))) (sss_nil))))) (
  sss_cons (ss_setF (i := 7) hN (sf_listOf (se_var (i := 2)) T.b_list)) (
  sss_cons (ss_if (st_sc (SW.st (sw_or (st_not (st_tru (se_call (c__law_stands T) tk (hr.mono (by decide)) (sa_cons (se_call (c_total T) tk (hr.mono (by decide)) (sa_cons (se_var (i := 7)) (sa_nil))) (sa_cons (se_var (i := 3)) (sa_cons (se_var (i := 4)) (sa_nil))))))) (sw_or1 (st_cmp (dop_ne hr.units) (se_var (i := 7)) (se_var (i := 2))))))) (
    sss_cons (ss_ret (se_bl)) (sss_nil)) (sss_nil)) (
  sss_cons (ss_if (st_sc (st_not (st_tru (se_call (c__law_stands T) tk (hr.mono (by decide)) (sa_cons (se_call (c_total T) tk (hr.mono (by decide)) (sa_cons (se_callTy dc_tuple T.b_tuple (by decide +kernel) (sa_cons (se_frz (sf_revL (se_var (i := 2)))) (sa_nil))) (sa_nil))) (sa_cons (se_var (i := 3)) (sa_cons (se_var (i := 4)) (sa_nil)))))))) (
    sss_cons (ss_ret (se_bl)) (sss_nil)) (sss_nil)) (
  sss_cons (ss_append (i := 7) (se_tup (sa_cons (se_bin dop_sub (se_int) (se_int)) (sa_cons (se_int) (sa_nil))))) (
  sss_cons (ss_if (st_sc (st_not (st_tru (se_call (c__law_stands T) tk (hr.mono (by decide)) (sa_cons (se_call (c_total T) tk (hr.mono (by decide)) (sa_cons (se_var (i := 7)) (sa_nil))) (sa_cons (se_bin dop_sub (se_bin dop_mul (se_var (i := 3)) (se_int)) (se_bin dop_mul (se_int) (se_var (i := 4)))) (sa_cons (se_bin dop_mul (se_var (i := 4)) (se_int)) (sa_nil)))))))) (
    sss_cons (ss_ret (se_bl)) (sss_nil)) (sss_nil)) (
  sss_cons (ss_ret (se_call (c__law_stands T) tk (hr.mono (by decide)) (sa_cons (se_call (c_total T) tk (hr.mono (by decide)) (sa_cons (se_frz (sf_listOf (se_var (i := 2)) T.b_list)) (sa_nil))) (sa_cons (se_var (i := 3)) (sa_cons (se_var (i := 4)) (sa_nil)))))) (sss_nil))))))))))
abbrev n__law_odd : List Str := ["source"]
theorem sc__law_odd : FnScope n__law_odd ["source"] (defScope s__law_odd) := ⟨rfl, rfl, rfl, by decide +kernel, rfl, by decide +kernel, by decide +kernel⟩
theorem c__law_odd (T : Txt P K mg) : Cal P w K mg base 2 "_law_odd" 1 m__law_odd := by
  obtain ⟨f, fd, F, g⟩ := T.f__law_odd
  refine ⟨f, fd, ["source"], fn_td F sc__law_odd fun cdv A outer s H E fm hr => ?_, g, F.kp, F.bindsN fun _ _ _ _ _ _ us hl => match us, hl with | [_], _ => rfl⟩
  have hN : n__law_odd.Nodup := sc__law_odd.nd
  have tk := tk_of (P := P) (w := w) (K := K) (mg := mg) (base := base) (N := n__law_odd) (qual := "_law_odd") (scope := defScope s__law_odd) (f := f) (cd := cdv) (A := A) (outer := outer) (s := s) (H := H) (E := E)
  have po := po_of (P := P) (w := w) (K := K) (mg := mg) (base := base) (N := n__law_odd) (qual := "_law_odd") (scope := defScope s__law_odd) (f := f) (cd := cdv) (A := A) (outer := outer) (s := s) (H := H) (E := E)
  exact 
  sss_cons (ss_ret (se_ix (se_frz (sf_lst (sa_cons (se_non) (sa_cons (se_str) (sa_cons (se_bl) (sa_cons (se_bl) (sa_cons (se_tup (sa_cons (se_int) (sa_nil))) (sa_cons (se_tup (sa_nil)) (sa_nil))))))))) (se_call (c__law_pick T) tk (hr.mono (by decide)) (sa_cons (se_var (i := 0)) (sa_cons (se_int) (sa_nil)))))) (sss_nil)
abbrev n__law_spoilt : List Str := ["source", "one", "way", "factor"]
theorem sc__law_spoilt : FnScope n__law_spoilt ["source", "one"] (defScope s__law_spoilt) := ⟨rfl, rfl, rfl, by decide +kernel, rfl, by decide +kernel, by decide +kernel⟩
theorem c__law_spoilt (T : Txt P K mg) : Cal P w K mg base 3 "_law_spoilt" 2 m__law_spoilt := by
  obtain ⟨f, fd, F, g⟩ := T.f__law_spoilt
  refine ⟨f, fd, ["source", "one"], fn_td F sc__law_spoilt fun cdv A outer s H E fm hr => ?_, g, F.kp, F.bindsN fun _ _ _ _ _ _ us hl => match us, hl with | [_, _], _ => rfl⟩
  have hN : n__law_spoilt.Nodup := sc__law_spoilt.nd
  have tk := tk_of (P := P) (w := w) (K := K) (mg := mg) (base := base) (N := n__law_spoilt) (qual := "_law_spoilt") (scope := defScope s__law_spoilt) (f := f) (cd := cdv) (A := A) (outer := outer) (s := s) (H := H) (E := E)
  have po := po_of (P := P) (w := w) (K := K) (mg := mg) (base := base) (N := n__law_spoilt) (qual := "_law_spoilt") (scope := defScope s__law_spoilt) (f := f) (cd := cdv) (A := A) (outer := outer) (s := s) (H := H) (E := E)
  exact 
  sss_cons (ss_set (i := 2) hN (se_call (c__law_pick T) tk (hr.mono (by decide)) (sa_cons (se_var (i := 0)) (sa_cons (se_int) (sa_nil))))) (
  sss_cons (ss_set (i := 3) hN (se_bin dop_add (se_int) (se_call (c__law_pick T) tk (hr.mono (by decide)) (sa_cons (se_var (i := 0)) (sa_cons (se_int) (sa_nil)))))) (
  sss_cons (ss_if (st_cmp (dop_eq hr.units) (se_var (i := 2)) (se_int)) (
    sss_cons (ss_ret (se_tup (sa_cons (se_bin dop_mul (se_ix (se_var (i := 1)) (se_int)) (se_var (i := 3))) (sa_cons (se_bin dop_mul (se_ix (se_var (i := 1)) (se_int)) (se_var (i := 3))) (sa_nil))))) (sss_nil)) (sss_nil)) (
  sss_cons (ss_if (st_cmp (dop_eq hr.units) (se_var (i := 2)) (se_int)) (
    sss_cons (ss_ret (se_tup (sa_cons (se_ix (se_var (i := 1)) (se_int)) (sa_cons (se_bin dop_sub (se_int) (se_ix (se_var (i := 1)) (se_int))) (sa_nil))))) (sss_nil)) (sss_nil)) (
  sss_cons (ss_if (st_cmp (dop_eq hr.units) (se_var (i := 2)) (se_int)) (
    sss_cons (ss_ret (se_tup (sa_cons (se_ix (se_var (i := 1)) (se_int)) (sa_cons (se_int) (sa_nil))))) (sss_nil)) (sss_nil)) (
  sss_cons (ss_if (st_cmp (dop_eq hr.units) (se_var (i := 2)) (se_int)) (
    sss_cons (ss_ret (se_bin dop_add (se_var (i := 1)) (se_tup (sa_cons (se_int) (sa_nil))))) (sss_nil)) (sss_nil)) (
  sss_cons (ss_if (st_cmp (dop_eq hr.units) (se_var (i := 2)) (se_int)) (
    sss_cons (ss_ret (se_slT (se_var (i := 1)) (so_none) (so_some (se_int)))) (sss_nil)) (sss_nil)) (
  sss_cons (ss_if (st_cmp (dop_eq hr.units) (se_var (i := 2)) (se_int)) (
    sss_cons (ss_ret (se_tup (sa_cons (se_call (c__law_odd T) tk (hr.mono (by decide)) (sa_cons (se_var (i := 0)) (sa_nil))) (sa_cons (se_ix (se_var (i := 1)) (se_int)) (sa_nil))))) (sss_nil)) (sss_nil)) (
  sss_cons (ss_if (st_cmp (dop_eq hr.units) (se_var (i := 2)) (se_int)) (
    sss_cons (ss_ret (se_tup (sa_cons (se_ix (se_var (i := 1)) (se_int)) (sa_cons (se_call (c__law_odd T) tk (hr.mono (by decide)) (sa_cons (se_var (i := 0)) (sa_nil))) (sa_nil))))) (sss_nil)) (sss_nil)) (
  sss_cons (ss_ret (se_tup (sa_cons (se_bin dop_add (se_ix (se_var (i := 1)) (se_int)) (se_var (i := 3))) (sa_cons (se_ix (se_var (i := 1)) (se_int)) (sa_nil))))) (sss_nil))))))))))
abbrev n__law_judged_right : List Str := ["source", "one", "turn", "value"]
theorem sc__law_judged_right : FnScope n__law_judged_right ["source", "one"] (defScope s__law_judged_right) := ⟨rfl, rfl, rfl, by decide +kernel, rfl, by decide +kernel, by decide +kernel⟩
theorem c__law_judged_right (T : Txt P K mg) : Cal P w K mg base 4 "_law_judged_right" 2 m__law_judged_right := by
  obtain ⟨f, fd, F, g⟩ := T.f__law_judged_right
  refine ⟨f, fd, ["source", "one"], fn_td F sc__law_judged_right fun cdv A outer s H E fm hr => ?_, g, F.kp, F.bindsN fun _ _ _ _ _ _ us hl => match us, hl with | [_, _], _ => rfl⟩
  have hN : n__law_judged_right.Nodup := sc__law_judged_right.nd
  have tk := tk_of (P := P) (w := w) (K := K) (mg := mg) (base := base) (N := n__law_judged_right) (qual := "_law_judged_right") (scope := defScope s__law_judged_right) (f := f) (cd := cdv) (A := A) (outer := outer) (s := s) (H := H) (E := E)
  have po := po_of (P := P) (w := w) (K := K) (mg := mg) (base := base) (N := n__law_judged_right) (qual := "_law_judged_right") (scope := defScope s__law_judged_right) (f := f) (cd := cdv) (A := A) (outer := outer) (s := s) (H := H) (E := E)
  exact 
  sss_cons (ss_if (st_cmp dop_isNot (se_call (c_is_share T) tk (hr.mono (by decide)) (sa_cons (se_var (i := 1)) (sa_nil))) (se_bl)) (
    sss_cons (ss_ret (se_bl)) (sss_nil)) (sss_nil)) (
  sss_cons (ss_for po rfl (si_rng1 (sa_cons (se_int) (sa_nil)) T.b_range) (sg_name (i := 2) hN) (
    sss_cons (ss_set (i := 3) hN (se_call (c__law_spoilt T) tk (hr.mono (by decide)) (sa_cons (se_var (i := 0)) (sa_cons (se_var (i := 1)) (sa_nil))))) (
    sss_cons (ss_if (st_not (st_tru (se_call (c__law_said T) tk (hr.mono (by decide)) (sa_cons (se_call (c_is_share T) tk (hr.mono (by decide)) (sa_cons (se_var (i := 3)) (sa_nil))) (sa_cons (se_call (c__law_is_share T) tk (hr.mono (by decide)) (sa_cons (se_var (i := 3)) (sa_nil))) (sa_nil)))))) (
      sss_cons (ss_ret (se_bl)) (sss_nil)) (sss_nil)) (sss_nil)))) (
  sss_cons (ss_for po rfl (si_seq (se_tup (sa_cons (se_non) (sa_cons (se_str) (sa_cons (se_str) (sa_cons (se_int) (sa_cons (se_tup (sa_nil)) (sa_cons (se_frz (sf_listOf (se_var (i := 1)) T.b_list)) (sa_cons (se_tup (sa_cons (se_var (i := 1)) (sa_cons (se_var (i := 1)) (sa_nil)))) (sa_nil)))))))))) (sg_name (i := 3) hN) (
    sss_cons (ss_if (st_cmp dop_isNot (se_call (c_is_share T) tk (hr.mono (by decide)) (sa_cons (se_var (i := 3)) (sa_nil))) (se_bl)) (
      sss_cons (ss_ret (se_bl)) (sss_nil)) (sss_nil)) (sss_nil))) (
  sss_cons (ss_ret (se_bl)) (sss_nil))))
abbrev n__law_fixed_right : List Str := ["told", "due"]
theorem sc__law_fixed_right : FnScope n__law_fixed_right [] (defScope s__law_fixed_right) := ⟨rfl, rfl, rfl, by decide +kernel, rfl, by decide +kernel, by decide +kernel⟩
theorem c__law_fixed_right (T : Txt P K mg) : Cal P w K mg base 3 "_law_fixed_right" 0 m__law_fixed_right := by
  obtain ⟨f, fd, F, g⟩ := T.f__law_fixed_right
  refine ⟨f, fd, [], fn_td F sc__law_fixed_right fun cdv A outer s H E fm hr => ?_, g, F.kp, F.bindsN fun _ _ _ _ _ _ us hl => match us, hl with | [], _ => rfl⟩
  have hN : n__law_fixed_right.Nodup := sc__law_fixed_right.nd
  have tk := tk_of (P := P) (w := w) (K := K) (mg := mg) (base := base) (N := n__law_fixed_right) (qual := "_law_fixed_right") (scope := defScope s__law_fixed_right) (f := f) (cd := cdv) (A := A) (outer := outer) (s := s) (H := H) (E := E)
  have po := po_of (P := P) (w := w) (K := K) (mg := mg) (base := base) (N := n__law_fixed_right) (qual := "_law_fixed_right") (scope := defScope s__law_fixed_right) (f := f) (cd := cdv) (A := A) (outer := outer) (s := s) (H := H) (E := E)
  exact 
  sss_cons (ss_for po rfl (si_seq (se_tup (sa_cons (se_tup (sa_cons (se_kst T.t_NOTHING) (sa_cons (se_int) (sa_nil)))) (sa_cons (se_tup (sa_cons (se_kst T.t_WHOLE) (sa_cons (se_int) (sa_nil)))) (sa_nil))))) (sg_tup (n := 2) rfl (sgs_cons (sg_name (i := 0) hN) (sgs_cons (sg_name (i := 1) hN) (sgs_nil)))) (
    sss_cons (ss_if (SW.st (sw_or (st_not (st_tru (se_call (c__law_is_share T) tk (hr.mono (by decide)) (sa_cons (se_var (i := 0)) (sa_nil))))) (sw_or (st_cmp (dop_ne hr.units) (se_ix (se_var (i := 0)) (se_int)) (se_var (i := 1))) (sw_or1 (st_cmp (dop_ne hr.units) (se_ix (se_var (i := 0)) (se_int)) (se_int)))))) (
      sss_cons (ss_ret (se_bl)) (sss_nil)) (sss_nil)) (sss_nil))) (
  sss_cons (ss_ret (se_bl)) (sss_nil))
abbrev n_law : List Str := ["script", "source", "turn", "top", "down", "one", "other"]
theorem sc_law : FnScope n_law ["script"] (defScope s_law) := ⟨rfl, rfl, rfl, by decide +kernel, rfl, by decide +kernel, by decide +kernel⟩
theorem w_law (T : Txt P K mg) {f : Addr} {cdv : Value} {A : Around} {outer : List PySem.Env} {s : Shared} {H : Hp} {E : XK} {fm : Fm} (hr : Room 6 (A.deeper (envOfC "law" (defScope s_law) s.heap.objs.size f cdv))) :
    SSs (cxOf (L2.CX P w) P w K mg base n_law "law" (defScope s_law) f cdv A outer s H E) (fun c d _ H => E c d H) fm ((defBody s_law).drop 1) e_law := by
  have hN : n_law.Nodup := sc_law.nd
  have tk := tk_of (P := P) (w := w) (K := K) (mg := mg) (base := base) (N := n_law) (qual := "law") (scope := defScope s_law) (f := f) (cd := cdv) (A := A) (outer := outer) (s := s) (H := H) (E := E)
  have po := po_of (P := P) (w := w) (K := K) (mg := mg) (base := base) (N := n_law) (qual := "law") (scope := defScope s_law) (f := f) (cd := cdv) (A := A) (outer := outer) (s := s) (H := H) (E := E)
  exact 
  sss_cons (ss_if (SW.st (sw_or (st_not (st_tru (se_call0 (c__law_fixed_right T) (hr.mono (by decide))))) (sw_or (st_not (st_tru (se_call (c__law_made_right T) tk (hr.mono (by decide)) (sa_cons (se_var (i := 1)) (sa_nil))))) (sw_or1 (st_not (st_tru (se_call (c__law_total_right T) tk (hr.mono (by decide)) (sa_cons (se_var (i := 1)) (sa_nil))))))))) (
    sss_cons (ss_ret (se_bl)) (sss_nil)) (sss_nil)) (
  sss_cons (ss_for po rfl (si_rng1 (sa_cons (se_int) (sa_nil)) T.b_range) (sg_name (i := 2) hN) (
    sss_cons (ss_asg (sg_tup (n := 2) rfl (sgs_cons (sg_name (i := 3) hN) (sgs_cons (sg_name (i := 4) hN) (sgs_nil)))) (se_call (c__law_fraction T) tk (hr.mono (by decide)) (sa_cons (se_var (i := 1)) (sa_nil)))) (
    sss_cons (ss_set (i := 5) hN (se_call (c__law_lowest T) tk (hr.mono (by decide)) (sa_cons (se_var (i := 3)) (sa_cons (se_var (i := 4)) (sa_nil))))) (
    sss_cons (ss_set (i := 6) hN (se_call (c__law_mate T) tk (hr.mono (by decide)) (sa_cons (se_var (i := 1)) (sa_cons (se_var (i := 5)) (sa_nil))))) (
    sss_cons (ss_if (SW.st (sw_or (st_not (st_tru (se_call (c__law_pair_right T) tk (hr.mono (by decide)) (sa_cons (se_var (i := 5)) (sa_cons (se_var (i := 6)) (sa_nil)))))) (sw_or1 (st_not (st_tru (se_call (c__law_pair_right T) tk (hr.mono (by decide)) (sa_cons (se_var (i := 6)) (sa_cons (se_var (i := 5)) (sa_nil))))))))) (
      sss_cons (ss_ret (se_bl)) (sss_nil)) (sss_nil)) (
    sss_cons (ss_if (SW.st (sw_or (st_not (st_tru (se_call (c__law_ceiling_right T) tk (hr.mono (by decide)) (sa_cons (se_var (i := 5)) (sa_nil))))) (sw_or1 (st_not (st_tru (se_call (c__law_ceiling_right T) tk (hr.mono (by decide)) (sa_cons (se_var (i := 6)) (sa_nil)))))))) (
      sss_cons (ss_ret (se_bl)) (sss_nil)) (sss_nil)) (
    sss_cons (ss_if (SW.st (sw_or (st_not (st_tru (se_call (c__law_judged_right T) tk (hr.mono (by decide)) (sa_cons (se_var (i := 1)) (sa_cons (se_var (i := 5)) (sa_nil)))))) (sw_or1 (st_not (st_tru (se_call (c__law_judged_right T) tk (hr.mono (by decide)) (sa_cons (se_var (i := 1)) (sa_cons (se_var (i := 6)) (sa_nil))))))))) (
      sss_cons (ss_ret (se_bl)) (sss_nil)) (sss_nil)) (sss_nil)))))))) (
  sss_cons (ss_ret (se_call (c__law_made_right T) tk (hr.mono (by decide)) (sa_cons (se_var (i := 1)) (sa_nil)))) (sss_nil)))
end
end K02

set_option Elab.async false
set_option linter.all false
set_option maxRecDepth 100000
set_option maxHeartbeats 4000000
namespace K02
open PySem PySem.Spec PyProof.Rows L2 TD TP
theorem pick_eq : m__law_pick = pickM := rfl
def B (k : Nat) (i : Int) : Prop := i.natAbs < 2 ^ k
theorem B.mono {k l : Nat} {i : Int} (h : B k i) (hl : k ≤ l) : B l i := Nat.lt_of_lt_of_le h (Nat.pow_le_pow_right (by decide) hl)
theorem B.mul {k l : Nat} {i j : Int} (h : B k i) (g : B l j) : B (k + l) (i * j) := by
  unfold B at *
  rw [Int.natAbs_mul, Nat.pow_add]
  exact Nat.mul_lt_mul'' h g
theorem B.add {k : Nat} {i j : Int} (h : B k i) (g : B k j) : B (k + 1) (i + j) := by
  unfold B at *
  have := Int.natAbs_add_le i j
  rw [Nat.pow_succ]
  omega
theorem B.neg {k : Nat} {i : Int} (h : B k i) : B k (-i) := by unfold B at *; rw [Int.natAbs_neg]; exact h
theorem B.sub {k : Nat} {i j : Int} (h : B k i) (g : B k j) : B (k + 1) (i - j) := by
  rw [Int.sub_eq_add_neg]; exact h.add g.neg
theorem B.le {k : Nat} {i j : Int} (h : B k j) (hl : i.natAbs ≤ j.natAbs) : B k i := Nat.lt_of_le_of_lt hl h
theorem mulOk_B {i j : Int} (h : B 9000 i) (g : B 9000 j) : mulOk i j = true := by
  unfold mulOk
  have h1 := log2_lt i.natAbs h
  have h2 := log2_lt j.natAbs g
  have h3 : i.natAbs.log2 + j.natAbs.log2 < 1000000 := by omega
  simp [h3]
theorem divOk_B {j : Int} (h0 : 0 < j) (h : B 9000 j) : divOk j = true := by
  unfold divOk
  rw [decide_eq_true h0, decide_eq_true (log2_lt j.natAbs h)]
  rfl
/-- Euclid's loop -/
theorem euclid {t : W → R Bool} {b : W → RS} (E : Int → Int → TD.Env) (ss : SS) (ht : ∀ x y : Nat, t ⟨E x y, ss⟩ = .ok (decide (y ≠ 0)) ⟨E x y, ss⟩)
    (hb : ∀ x y : Nat, y ≠ 0 → x < 2 ^ 9000 → y < 2 ^ 9000 → b ⟨E x y, ss⟩ = .nx ⟨E y (x % y : Nat), ss⟩) : ∀ (k n x y : Nat), y < 2 ^ k → k ≤ 9000 → x < 2 ^ 9000 → 2 * k + 2 ≤ n → sWhGo t b n ⟨E x y, ss⟩ = .nx ⟨E (Nat.gcd x y : Nat) 0, ss⟩ := by
  intro k
  induction k with
  | zero =>
    intro n x y hy hk hx hn
    obtain ⟨n, rfl⟩ : ∃ m, n = m + 1 := ⟨n - 1, by omega⟩
    have : y = 0 := by simpa using hy
    subst this
    rw [sWhGo_succ, ht]
    simp
  | succ k ih =>
    intro n x y hy hk hx hn
    obtain ⟨n, rfl⟩ : ∃ m, n = m + 2 := ⟨n - 2, by omega⟩
    rw [sWhGo_succ, ht]
    by_cases h0 : y = 0
    · subst h0; simp
    have hy9 : y < 2 ^ 9000 := Nat.lt_of_lt_of_le hy (Nat.pow_le_pow_right (by decide) hk)
    simp only [h0, R.toS_ok, ne_eq, not_false_eq_true, decide_true, if_true]
    rw [hb x y h0 hx hy9]
    simp only [RS.loop_nx]
    rw [sWhGo_succ, ht]
    have g1 : Nat.gcd x y = Nat.gcd y (x % y) := by rw [Nat.gcd_comm, Nat.gcd_rec, Nat.gcd_comm]
    by_cases h1 : x % y = 0
    · rw [g1, h1]; simp
    have hr : x % y < y := Nat.mod_lt _ (by omega)
    simp only [h1, R.toS_ok, ne_eq, not_false_eq_true, decide_true, if_true]
    rw [hb y (x % y) h1 hy9 (by omega)]
    simp only [RS.loop_nx]
    have g2 : Nat.gcd y (x % y) = Nat.gcd (x % y) (y % (x % y)) := by rw [Nat.gcd_comm, Nat.gcd_rec, Nat.gcd_comm]
    rw [ih n (x % y) (y % (x % y)) ?_ (by omega) (by omega) (by omega), g1, g2]
    have hlt : y % (x % y) < x % y := Nat.mod_lt _ (by omega)
    have hle : x % y + y % (x % y) ≤ y := by
      have h3 := Nat.div_add_mod y (x % y)
      have h4 : 1 ≤ y / (x % y) := Nat.div_pos (by omega) (by omega)
      have h5 : x % y * 1 ≤ x % y * (y / (x % y)) := Nat.mul_le_mul_left _ h4
      omega
    rw [Nat.pow_succ] at hy
    omega
theorem abs_nat (i : Int) : (if i < 0 then -i else i) = (i.natAbs : Int) := by split <;> omega
theorem fuel_big : 2 * 9000 + 2 ≤ fuel := by decide +kernel
theorem common_eq (a b : Int) (ha : B 9000 a) (hb : B 9000 b) (ss : SS) : m_common [.int a, .int b] ss = .ok (.int (Int.gcd a b)) ss := by
  have e := euclid (t := t_common_0) (b := b_common_0) (fun x y => [some (.val (.int x)), some (.val (.int y))]) ss (fun x y => by simp [t_common_0]; rw [Bool.eq_iff_iff]; simp) (fun x y h0 hx hy => by
    have d : divOk (y : Int) = true := divOk_B (by omega) hy
    have m : mulOk (y : Int) ((x : Int) / y) = true := mulOk_B hy (by
      unfold B
      rw [show ((x : Int) / y).natAbs = x / y by rw [← Int.natCast_ediv, Int.natAbs_natCast]]
      exact Nat.lt_of_le_of_lt (Nat.div_le_self x y) hx)
    have e : (x : Int) - y * (x / y) = ((x % y : Nat) : Int) := by rw [Int.natCast_emod, Int.emod_def]
    simp [b_common_0, d, m, e]) 9000 fuel a.natAbs b.natAbs hb (by decide) ha fuel_big
  have g : Int.gcd a b = Nat.gcd a.natAbs b.natAbs := rfl
  rw [← g] at e
  generalize hX : (Int.gcd a b : Int) = G at *
  simp [m_common, e_common, sWhile, abs_nat, e]
theorem lowest_loop (a b : Int) (T D0 : D) (ha : B 9000 a) (hb : B 9000 b) (ss : SS) : sWhGo t__law_lowest_0 b__law_lowest_0 fuel ⟨[some (.val T), some (.val D0), some (.val (.int a.natAbs)), some (.val (.int b.natAbs))], ss⟩ = .nx ⟨[some (.val T), some (.val D0), some (.val (.int (Int.gcd a b))), some (.val (.int 0))], ss⟩ := by
  exact euclid (t := t__law_lowest_0) (b := b__law_lowest_0) (fun x y => [some (.val T), some (.val D0), some (.val (.int x)), some (.val (.int y))]) ss (fun x y => by
    simp [t__law_lowest_0]
    rw [Bool.eq_iff_iff]
    simp
    omega) (fun x y h0 hx hy => by
    have hp : (0 : Int) < y := by omega
    have e : (x : Int) % y = ((x % y : Nat) : Int) := by rw [Int.natCast_emod]
    have h0' : 0 < y := by omega
    simp [b__law_lowest_0, h0', ← e]) 9000 fuel a.natAbs b.natAbs hb (by decide) ha fuel_big
theorem isshare_loop (a b : Int) (T : D) (ha : B 9000 a) (hb : B 9000 b) (ss : SS) : sWhGo t__law_is_share_0 b__law_is_share_0 fuel ⟨[some (.val T), some (.val (.int a.natAbs)), some (.val (.int b.natAbs))], ss⟩ = .nx ⟨[some (.val T), some (.val (.int (Int.gcd a b))), some (.val (.int 0))], ss⟩ := by
  exact euclid (t := t__law_is_share_0) (b := b__law_is_share_0) (fun x y => [some (.val T), some (.val (.int x)), some (.val (.int y))]) ss (fun x y => by
    simp [t__law_is_share_0]
    rw [Bool.eq_iff_iff]
    simp
    omega) (fun x y h0 hx hy => by
    have h0' : 0 < y := by omega
    have e : (x : Int) % y = ((x % y : Nat) : Int) := by rw [Int.natCast_emod]
    simp [b__law_is_share_0, h0', ← e]) 9000 fuel a.natAbs b.natAbs hb (by decide) ha fuel_big
/-! ### lowest terms -/
structure Low (p q n d : Int) : Prop where
  pos : 0 < q
  cop : Int.gcd p q = 1
  cross : p * d = n * q
  bp : p.natAbs ≤ n.natAbs
  bq : q.natAbs ≤ d.natAbs
theorem low_of (n d : Int) (h : 0 < d) : 0 < (Int.gcd n d : Int) ∧ Low (n / (Int.gcd n d : Int)) (d / (Int.gcd n d : Int)) n d := by
  have hg : 0 < Int.gcd n d := Int.gcd_pos_of_ne_zero_right n (by omega)
  obtain ⟨g, hG⟩ : ∃ g : Int, g = (Int.gcd n d : Int) := ⟨_, rfl⟩
  have hg2 : 0 < g := by omega
  have d1 : g ∣ n := by rw [hG]; exact Int.gcd_dvd_left ..
  have d2 : g ∣ d := by rw [hG]; exact Int.gcd_dvd_right ..
  have e1 := Int.ediv_mul_cancel d1
  have e2 := Int.ediv_mul_cancel d2
  rw [← hG]
  have c := Int.gcd_ediv_gcd_ediv_gcd hg
  rw [← hG] at c
  generalize n / g = p at *
  generalize d / g = q at *
  have hq : 0 < q := by
    rcases Int.lt_trichotomy q 0 with h1 | h1 | h1
    · have := Int.mul_neg_of_neg_of_pos h1 hg2; omega
    · rw [h1, Int.zero_mul] at e2; omega
    · exact h1
  have hg1 : 1 ≤ g.natAbs := by omega
  refine ⟨hg2, hq, c, ?_, ?_, ?_⟩
  · rw [← e1, ← e2]
    simp only [Int.mul_comm, Int.mul_left_comm]
  · rw [← e1, Int.natAbs_mul]
    exact Nat.le_mul_of_pos_right _ hg1
  · rw [← e2, Int.natAbs_mul]
    exact Nat.le_mul_of_pos_right _ hg1
theorem low_neg {p q n d : Int} (h : Low p q (-n) (-d)) : Low p q n d := by
  refine ⟨h.pos, h.cop, ?_, by simpa using h.bp, by simpa using h.bq⟩
  have := h.cross
  rw [Int.mul_neg, Int.neg_mul] at this
  omega
theorem share_run (n d n1 d1 g : Int) (ss : SS) (h0 : ¬ d = 0) (hs : (d < 0 ∧ n1 = -n ∧ d1 = -d) ∨ (¬ d < 0 ∧ n1 = n ∧ d1 = d)) (c : m_common [.int n1, .int d1] ss = .ok (.int g) ss) (dv : divOk g = true) : m_share [.int n, .int d] ss = .ok (.tup [.int (n1 / g), .int (d1 / g)]) ss := by
  rcases hs with ⟨h1, rfl, rfl⟩ | ⟨h1, rfl, rfl⟩ <;> simp [m_share, e_share, h0, h1, c, dv]
theorem lowest_run (n d n1 d1 g a b : Int) (ss : SS) (ha : (if n < 0 then -n else n) = a) (hb : (if d < 0 then -d else d) = b) (hs : (d < 0 ∧ n1 = 0 - n ∧ d1 = 0 - d) ∨ (¬ d < 0 ∧ n1 = n ∧ d1 = d)) (dv : divOk g = true)
    (c : sWhGo t__law_lowest_0 b__law_lowest_0 fuel ⟨[some (.val (.int n)), some (.val (.int d)), some (.val (.int a)), some (.val (.int b))], ss⟩ = .nx ⟨[some (.val (.int n)), some (.val (.int d)), some (.val (.int g)), some (.val (.int 0))], ss⟩) : m__law_lowest [.int n, .int d] ss = .ok (.tup [.int (n1 / g), .int (d1 / g)]) ss := by
  show (e__law_lowest ⟨[some (.val (.int n)), some (.val (.int d)), none, none], ss⟩).fin = _
  unfold e__law_lowest
  refine nxtF (w' := ⟨[some (.val (.int n)), some (.val (.int d)), some (.val (.int a)), some (.val (.int b))], ss⟩) (by simp [ha, hb]) ?_
  refine nxtF (w' := ⟨[some (.val (.int n)), some (.val (.int d)), some (.val (.int g)), some (.val (.int 0))], ss⟩) c ?_
  rcases hs with ⟨h1, rfl, rfl⟩ | ⟨h1, rfl, rfl⟩ <;> simp [h1, dv]
theorem gcd_B {a b : Int} (h : 0 < b) (hb : B 9000 b) : B 9000 (Int.gcd a b : Int) := by
  unfold B
  rw [Int.natAbs_natCast]
  have h1 : (Int.gcd a b : Int) ∣ b := Int.gcd_dvd_right ..
  have h2 := Int.le_of_dvd h h1
  unfold B at hb
  omega
theorem share_eq (n d : Int) (h0 : d ≠ 0) (hn : B 9000 n) (hd : B 9000 d) (ss : SS) : ∃ p q, m_share [.int n, .int d] ss = .ok (.tup [.int p, .int q]) ss ∧ Low p q n d := by
  by_cases h : d < 0
  · obtain ⟨hg, l⟩ := low_of (-n) (-d) (by omega)
    exact ⟨_, _, share_run n d (-n) (-d) _ ss h0 (.inl ⟨h, rfl, rfl⟩) (common_eq _ _ hn.neg hd.neg ss) (divOk_B hg (gcd_B (by omega) hd.neg)), low_neg l⟩
  · obtain ⟨hg, l⟩ := low_of n d (by omega)
    exact ⟨_, _, share_run n d n d _ ss h0 (.inr ⟨h, rfl, rfl⟩) (common_eq _ _ hn hd ss) (divOk_B hg (gcd_B (by omega) hd)), l⟩
theorem lowest_eq (n d : Int) (h0 : d ≠ 0) (hn : B 9000 n) (hd : B 9000 d) (ss : SS) : ∃ p q, m__law_lowest [.int n, .int d] ss = .ok (.tup [.int p, .int q]) ss ∧ Low p q n d := by
  have lp := lowest_loop n d (.int n) (.int d) hn hd ss
  by_cases h : d < 0
  · obtain ⟨hg, l⟩ := low_of (-n) (-d) (by omega)
    have e : Int.gcd (-n) (-d) = Int.gcd n d := by simp
    rw [e] at hg l
    have z1 : -n = 0 - n := by omega
    have z2 : -d = 0 - d := by omega
    have gb : B 9000 (Int.gcd n d : Int) := by have := gcd_B (a := -n) (b := -d) (by omega) hd.neg; rwa [e] at this
    refine ⟨_, _, lowest_run n d (0 - n) (0 - d) _ _ _ ss (abs_nat n) (abs_nat d) (.inl ⟨h, rfl, rfl⟩) (divOk_B hg gb) lp, ?_⟩
    rw [← z1, ← z2]
    exact low_neg l
  · obtain ⟨hg, l⟩ := low_of n d (by omega)
    exact ⟨_, _, lowest_run n d n d _ _ _ ss (abs_nat n) (abs_nat d) (.inr ⟨h, rfl, rfl⟩) (divOk_B hg (gcd_B (by omega) hd)) lp, l⟩
end K02

set_option Elab.async false
set_option linter.all false
set_option maxRecDepth 100000
set_option maxHeartbeats 4000000
namespace K02
open PySem PySem.Spec PyProof.Rows L2 TD TP
def isSh : D → Bool
  | .tup [.int a, .int b] => decide (0 < b) && decide (Int.gcd a b = 1)
  | _ => false
def VOk (d : D) : Prop := d ≠ .src ∧ (∀ l, d = .tup l → ∀ e ∈ l, e ≠ .src) ∧ ∀ a b, d = .tup [.int a, .int b] → B 9000 a ∧ B 9000 b
theorem is_share_int (a b : Int) (ha : B 9000 a) (hb : B 9000 b) (ss : SS) : m_is_share [.tup [.int a, .int b]] ss = .ok (.bl (isSh (.tup [.int a, .int b]))) ss := by
  have c := common_eq a b ha hb ss
  by_cases h : 0 < b
  · have e : ((Int.gcd a b : Int) == 1) = decide (Int.gcd a b = 1) := by rw [Bool.eq_iff_iff]; simp; omega
    simp [m_is_share, e_is_share, sForGo_cons, g_is_share_0, b_is_share_0, c, h, isSh, e]
  · simp [m_is_share, e_is_share, sForGo_cons, g_is_share_0, b_is_share_0, h, isSh]
theorem is_share_eq (d : D) (h : VOk d) (ss : SS) : m_is_share [d] ss = .ok (.bl (isSh d)) ss := by
  obtain ⟨h1, h2, h3⟩ := h
  cases d with
  | src => exact absurd rfl h1
  | tup l =>
    match l, h2, h3 with
    | [x, y], h2, h3 =>
      have hx := h2 _ rfl x (by simp)
      have hy := h2 _ rfl y (by simp)
      cases x with
      | src => exact absurd rfl hx
      | int a =>
        cases y with
        | src => exact absurd rfl hy
        | int b =>
          obtain ⟨ha, hb⟩ := h3 a b rfl
          exact is_share_int a b ha hb ss
        | _ => simp [m_is_share, e_is_share, sForGo_cons, g_is_share_0, b_is_share_0, isSh]
      | _ => simp [m_is_share, e_is_share, sForGo_cons, g_is_share_0, b_is_share_0, isSh]
    | [], _, _ => simp [m_is_share, e_is_share, isSh]
    | [x], _, _ => simp [m_is_share, e_is_share, isSh]
    | x :: y :: z :: l, _, _ =>
      have : ¬ (l.length : Int) + 1 + 1 + 1 = 2 := by omega
      simp [m_is_share, e_is_share, isSh, this]
  | _ => simp [m_is_share, e_is_share, isSh]
theorem law_is_int_eq (d : D) (hd : d ≠ .src) (ss : SS) : m__law_is_int [d] ss = .ok (.bl (match d with | .int _ => true | _ => false)) ss := by
  cases d with
  | src => exact absurd rfl hd
  | _ => simp [m__law_is_int, e__law_is_int]
theorem law_share_run (a b x : Int) (ss : SS) (h : ¬ b < 1) (hx : (if a < 0 then -a else a) = x) (g : Int) (c : sWhGo t__law_is_share_0 b__law_is_share_0 fuel ⟨[some (.val (.tup [.int a, .int b])), some (.val (.int x)), some (.val (.int b))], ss⟩ = .nx ⟨[some (.val (.tup [.int a, .int b])), some (.val (.int g)), some (.val (.int 0))], ss⟩) :
    m__law_is_share [.tup [.int a, .int b]] ss = .ok (.bl (g == 1)) ss := by
  show (e__law_is_share ⟨[some (.val (.tup [.int a, .int b])), none, none], ss⟩).fin = _
  unfold e__law_is_share
  refine nxtF (w' := ⟨[some (.val (.tup [.int a, .int b])), none, none], ss⟩) (by simp) ?_
  refine nxtF (w' := ⟨[some (.val (.tup [.int a, .int b])), none, none], ss⟩) (by simp [law_is_int_eq, h]) ?_
  refine nxtF (w' := ⟨[some (.val (.tup [.int a, .int b])), some (.val (.int x)), some (.val (.int b))], ss⟩) (by simp [hx]) ?_
  refine nxtF (w' := ⟨[some (.val (.tup [.int a, .int b])), some (.val (.int g)), some (.val (.int 0))], ss⟩) c ?_
  simp
theorem law_share_int (a b : Int) (ha : B 9000 a) (hb : B 9000 b) (ss : SS) : m__law_is_share [.tup [.int a, .int b]] ss = .ok (.bl (isSh (.tup [.int a, .int b]))) ss := by
  by_cases h : 0 < b
  · have c := isshare_loop a b (.tup [.int a, .int b]) ha hb ss
    rw [show ((b.natAbs : Nat) : Int) = b by omega] at c
    rw [law_share_run a b a.natAbs ss (by omega) (abs_nat a) _ c]
    have e : ((Int.gcd a b : Int) == 1) = decide (Int.gcd a b = 1) := by rw [Bool.eq_iff_iff]; simp; omega
    simp [isSh, h, e]
  · have h2 : b < 1 := by omega
    simp [m__law_is_share, e__law_is_share, law_is_int_eq, isSh, h, h2]
theorem law_is_share_eq (d : D) (h : VOk d) (ss : SS) : m__law_is_share [d] ss = .ok (.bl (isSh d)) ss := by
  obtain ⟨h1, h2, h3⟩ := h
  cases d with
  | src => exact absurd rfl h1
  | tup l =>
    match l, h2, h3 with
    | [x, y], h2, h3 =>
      have hx := h2 _ rfl x (by simp)
      have hy := h2 _ rfl y (by simp)
      cases x with
      | src => exact absurd rfl hx
      | int a =>
        cases y with
        | src => exact absurd rfl hy
        | int b =>
          obtain ⟨ha, hb⟩ := h3 a b rfl
          exact law_share_int a b ha hb ss
        | _ => simp [m__law_is_share, e__law_is_share, law_is_int_eq, isSh]
      | _ => simp [m__law_is_share, e__law_is_share, law_is_int_eq, isSh]
    | [], _, _ => simp [m__law_is_share, e__law_is_share, isSh]
    | [x], _, _ => simp [m__law_is_share, e__law_is_share, isSh]
    | x :: y :: z :: l, _, _ =>
      have : ¬ (l.length : Int) + 1 + 1 + 1 = 2 := by omega
      simp [m__law_is_share, e__law_is_share, isSh, this]
  | _ => simp [m__law_is_share, e__law_is_share, isSh]
theorem said_eq (a b : Bool) (ss : SS) : m__law_said [.bl a, .bl b] ss = .ok (.bl (a == b)) ss := by
  cases a <;> cases b <;> simp [m__law_said, e__law_said, gIs]
/-! ### shares -/
structure Sh (k : Nat) (p q : Int) : Prop where
  pos : 0 < q
  cop : Int.gcd p q = 1
  bp : B k p
  bq : B k q
theorem Sh.mono {k l : Nat} {p q : Int} (h : Sh k p q) (hl : k ≤ l) : Sh l p q := ⟨h.pos, h.cop, h.bp.mono hl, h.bq.mono hl⟩
theorem Low.sh {p q n d : Int} (h : Low p q n d) {k : Nat} (hn : B k n) (hd : B k d) : Sh k p q := ⟨h.pos, h.cop, hn.le h.bp, hd.le h.bq⟩
theorem Sh.is {k : Nat} {p q : Int} (h : Sh k p q) : isSh (.tup [.int p, .int q]) = true := by simp [isSh, h.pos, h.cop]
abbrev fr (p q : Int) : D := .tup [.int p, .int q]
theorem VOk.fr {p q : Int} (hp : B 9000 p) (hq : B 9000 q) : VOk (fr p q) := by
  refine ⟨by simp, fun l h e he => ?_, fun a b h => ?_⟩
  · cases h
    simp at he
    rcases he with rfl | rfl <;> simp
  · cases h; exact ⟨hp, hq⟩
theorem stands_eq (p q t d : Int) (h : Sh 4000 p q) (c : p * d = t * q) (ht : B 4000 t) (hd : B 4000 d) (ss : SS) : m__law_stands [fr p q, .int t, .int d] ss = .ok (.bl true) ss := by
  have s := law_is_share_eq (fr p q) (VOk.fr (h.bp.mono (by decide)) (h.bq.mono (by decide))) ss
  rw [h.is] at s
  have m1 : mulOk p d = true := mulOk_B (h.bp.mono (by decide)) (hd.mono (by decide))
  have m2 : mulOk t q = true := mulOk_B (ht.mono (by decide)) (h.bq.mono (by decide))
  simp [m__law_stands, e__law_stands, s, m1, m2, c]
theorem plus_run (a b c d : Int) (ss : SS) (m1 : mulOk a d = true) (m2 : mulOk c b = true) (m3 : mulOk b d = true) : m_plus [fr a b, fr c d] ss = m_share [.int (a * d + c * b), .int (b * d)] ss := by
  simp [m_plus, e_plus, m1, m2, m3]
theorem minus_run (a b c d : Int) (ss : SS) (m1 : mulOk a d = true) (m2 : mulOk c b = true) (m3 : mulOk b d = true) : m_minus [fr a b, fr c d] ss = m_share [.int (a * d - c * b), .int (b * d)] ss := by
  simp [m_minus, e_minus, m1, m2, m3]
theorem mult_run (a b c d : Int) (ss : SS) (m1 : mulOk a c = true) (m3 : mulOk b d = true) : m_multiplied [fr a b, fr c d] ss = m_share [.int (a * c), .int (b * d)] ss := by
  simp [m_multiplied, e_multiplied, m1, m3]
theorem div_run (a b c d : Int) (ss : SS) (m1 : mulOk a d = true) (m3 : mulOk b c = true) : m_divided [fr a b, fr c d] ss = m_share [.int (a * d), .int (b * c)] ss := by
  simp [m_divided, e_divided, m1, m3]
theorem below_run (a b c d : Int) (ss : SS) (m1 : mulOk a d = true) (m3 : mulOk c b = true) : m_below [fr a b, fr c d] ss = .ok (.bl (decide (a * d < c * b))) ss := by
  simp [m_below, e_below, m1, m3]
def bad : Exn := ⟨"BadValue", "what", .str "share"⟩
theorem share_no (x : D) (ss : SS) : m_share [x, .int 0] ss = .exc bad ss := by
  simp [m_share, e_share, bad]
@[simp] theorem ok_share : PyData.strOk ("share" : Str) = true := by decide +kernel
theorem refused0 (x : D) (ss : SS) : m__law_refused [.int 0, x, .int 0] ss = .ok (.bl true) ss := by
  have e := share_no x ss
  simp [m__law_refused, e__law_refused, e, bad, anyX]
theorem refused1 (x y : D) (ss : SS) (e : m_divided [x, y] ss = .exc bad ss) : m__law_refused [.int 1, x, y] ss = .ok (.bl true) ss := by
  simp [m__law_refused, e__law_refused, e, bad, anyX]
theorem cancel {x y f : Int} (hf : f ≠ 0) (h : f * x = f * y) : x = y := Int.eq_of_mul_eq_mul_left hf h
/-! ### draws -/
theorem int_go (x0 : Option TD.Slot) : ∀ (ds : List D) (j : Nat) (n : Int) (x2 : Option TD.Slot) (ss : SS), SsOk ss → j + ds.length ≤ 13 → 0 ≤ n → n < 7 * 1000 ^ j → ∃ n' y2 ss', sForGo g__law_integer_0 b__law_integer_0 ds ⟨[some (.val .src), some (.val (.int n)), x2], ss⟩ = .nx ⟨[some (.val .src), some (.val (.int n')), y2], ss'⟩ ∧ SsOk ss' ∧ 0 ≤ n' ∧ n' < 7 * 1000 ^ (j + ds.length)
  | [], j, n, x2, ss, hs, hj, h0, h1 => ⟨n, x2, ss, rfl, hs, h0, h1⟩
  | d :: ds, j, n, x2, ss, hs, hj, h0, h1 => by
    simp only [List.length_cons] at hj
    obtain ⟨r, ss1, e1, a1, b1, hs1⟩ := (pick_ok ss hs 1000 (by decide) (by decide)).ex
    obtain ⟨n', y2, ss', e, q1, q2, q3⟩ := int_go x0 ds (j + 1) (n * 1000 + r) (some (.val d)) ss1 hs1 (by omega) (by omega) (by rw [Int.pow_succ]; omega)
    refine ⟨n', y2, ss', ?_, q1, q2, by rw [List.length_cons, show j + (ds.length + 1) = j + 1 + ds.length by omega]; exact q3⟩
    rw [sForGo_cons, ← e]
    have m : mulOk n 1000 = true := mulOk_r n 1000 (by decide)
    generalize sForGo g__law_integer_0 b__law_integer_0 ds = kk
    simp [g__law_integer_0, b__law_integer_0, pick_eq, e1, m]
end K02

set_option Elab.async false
set_option linter.all false
set_option maxRecDepth 100000
set_option maxHeartbeats 4000000
namespace K02
open PySem PySem.Spec PyProof.Rows L2 TD TP
theorem integer_run0 (n k r : Int) (ss ss1 ss2 ss3 : SS) (e1 : pickM [.src, .int 7] ss = .ok (.int n) ss1) (e2 : pickM [.src, .int 3] ss1 = .ok (.int k) ss2) (hk : ¬ k = 0) (e3 : pickM [.src, .int 2] ss2 = .ok (.int r) ss3) : m__law_integer [.src] ss = .ok (.int (if r = 0 then n else 0 - n)) ss3 := by
  by_cases hr : r = 0 <;> simp [m__law_integer, e__law_integer, pick_eq, e1, e2, e3, hk, hr]
theorem integer_run1 (n n' m r : Int) (y2 : Option TD.Slot) (ss ss1 ss2 ss3 ss4 ss5 : SS) (e1 : pickM [.src, .int 7] ss = .ok (.int n) ss1) (e2 : pickM [.src, .int 3] ss1 = .ok (.int 0) ss2) (e4 : pickM [.src, .int 12] ss2 = .ok (.int m) ss3) (s1 : small (1 + m) = true)
    (e5 : sForGo g__law_integer_0 b__law_integer_0 (rngD 0 (1 + m)) ⟨[some (.val .src), some (.val (.int n)), none], ss3⟩ = .nx ⟨[some (.val .src), some (.val (.int n')), y2], ss4⟩) (e3 : pickM [.src, .int 2] ss4 = .ok (.int r) ss5) : m__law_integer [.src] ss = .ok (.int (if r = 0 then n' else 0 - n')) ss5 := by
  by_cases hr : r = 0 <;> simp [m__law_integer, e__law_integer, pick_eq, e1, e2, e3, e4, e5, s1, hr]
theorem B_of (n : Int) (k : Nat) (h0 : 0 ≤ n) (h : n < 2 ^ k) : B k n := by
  unfold B
  have : ((n.natAbs : Nat) : Int) < ((2 ^ k : Nat) : Int) := by
    rw [Int.natCast_pow]
    have : ((n.natAbs : Nat) : Int) = n := by omega
    rw [this]; exact h
  omega
theorem big_int : (7 : Int) * 1000 ^ 13 < 2 ^ 140 := by decide
theorem integer_eq (ss : SS) (hs : SsOk ss) : ∃ n ss', m__law_integer [.src] ss = .ok (.int n) ss' ∧ SsOk ss' ∧ B 140 n := by
  obtain ⟨n, ss1, e1, a1, b1, hs1⟩ := (pick_ok ss hs 7 (by decide) (by decide)).ex
  obtain ⟨k, ss2, e2, a2, b2, hs2⟩ := (pick_ok ss1 hs1 3 (by decide) (by decide)).ex
  have sg : ∀ (r m : Int), B 140 m → B 140 (if r = 0 then m else 0 - m) := fun r m h => by
    split
    · exact h
    · rw [Int.zero_sub]; exact h.neg
  by_cases hk : k = 0
  · subst hk
    obtain ⟨m, ss3, e4, a4, b4, hs3⟩ := (pick_ok ss2 hs2 12 (by decide) (by decide)).ex
    obtain ⟨n', y2, ss4, e5, hs4, h0, h1⟩ := int_go none (rngD 0 (1 + m)) 0 n none ss3 hs3 (by simp [rngD]; omega) a1 (by omega)
    obtain ⟨r, ss5, e3, a3, b3, hs5⟩ := (pick_ok ss4 hs4 2 (by decide) (by decide)).ex
    have hl : (0 + (rngD 0 (1 + m)).length) ≤ 13 := by simp [rngD]; omega
    have hb : n' < 2 ^ 140 := by
      have h2 : (1000 : Int) ^ (0 + (rngD 0 (1 + m)).length) ≤ 1000 ^ 13 := by
        have := Nat.pow_le_pow_right (show 0 < 1000 by decide) hl
        exact_mod_cast this
      have := big_int
      omega
    exact ⟨_, ss5, integer_run1 n n' m r y2 ss ss1 ss2 ss3 ss4 ss5 e1 e2 e4 (small_le (by omega) (by omega)) e5 e3, hs5, sg r n' (B_of n' 140 h0 hb)⟩
  · obtain ⟨r, ss3, e3, a3, b3, hs3⟩ := (pick_ok ss2 hs2 2 (by decide) (by decide)).ex
    exact ⟨_, ss3, integer_run0 n k r ss ss1 ss2 ss3 e1 e2 hk e3, hs3, sg r n (B_of n 140 a1 (by omega))⟩
theorem fraction_run0 (n k r : Int) (ss ss1 ss2 ss3 : SS) (e1 : m__law_integer [.src] ss = .ok (.int 0) ss1) (e2 : pickM [.src, .int 9] ss1 = .ok (.int k) ss2) (e3 : m__law_integer [.src] ss2 = .ok (.int n) ss3) : m__law_fraction [.src] ss = .ok (fr n (1 + k)) ss3 := by
  simp [m__law_fraction, e__law_fraction, pick_eq, e1, e2, e3]
theorem fraction_run1 (n k : Int) (ss ss1 ss3 : SS) (e1 : m__law_integer [.src] ss = .ok (.int k) ss1) (hk : ¬ k = 0) (e3 : m__law_integer [.src] ss1 = .ok (.int n) ss3) : m__law_fraction [.src] ss = .ok (fr n k) ss3 := by
  simp [m__law_fraction, e__law_fraction, e1, e3, hk]
theorem fraction_eq (ss : SS) (hs : SsOk ss) : ∃ n d ss', m__law_fraction [.src] ss = .ok (fr n d) ss' ∧ SsOk ss' ∧ d ≠ 0 ∧ B 140 n ∧ B 140 d := by
  obtain ⟨k, ss1, e1, hs1, bk⟩ := integer_eq ss hs
  by_cases hk : k = 0
  · subst hk
    obtain ⟨r, ss2, e2, a2, b2, hs2⟩ := (pick_ok ss1 hs1 9 (by decide) (by decide)).ex
    obtain ⟨n, ss3, e3, hs3, bn⟩ := integer_eq ss2 hs2
    exact ⟨n, 1 + r, ss3, fraction_run0 n r r ss ss1 ss2 ss3 e1 e2 e3, hs3, by omega, bn, B_of _ 140 (by omega) (by omega)⟩
  · obtain ⟨n, ss3, e3, hs3, bn⟩ := integer_eq ss1 hs1
    exact ⟨n, k, ss3, fraction_run1 n k ss ss1 ss3 e1 hk e3, hs3, hk, bn, bk⟩
/-! ### the mate -/
theorem mate_run0 (o : D) (ss ss1 : SS) (e1 : pickM [.src, .int 5] ss = .ok (.int 0) ss1) : m__law_mate [.src, o] ss = .ok o ss1 := by
  simp [m__law_mate, e__law_mate, pick_eq, e1]
theorem mate_run1 (p q : Int) (ss ss1 : SS) (e1 : pickM [.src, .int 5] ss = .ok (.int 1) ss1) : m__law_mate [.src, fr p q] ss = .ok (fr (0 - p) q) ss1 := by
  simp [m__law_mate, e__law_mate, pick_eq, e1]
theorem mate_run2 (p q x y z : Int) (ss ss1 ss2 ss3 ss4 : SS) (r : D) (e1 : pickM [.src, .int 5] ss = .ok (.int 2) ss1) (e2 : pickM [.src, .int 1000] ss1 = .ok (.int x) ss2) (e3 : pickM [.src, .int 1000] ss2 = .ok (.int y) ss3) (e4 : pickM [.src, .int 2] ss3 = .ok (.int z) ss4)
    (m1 : mulOk x y = true) (m2 : mulOk p (1 + x * y) = true) (m3 : mulOk 2 z = true) (m4 : mulOk q (1 + x * y) = true) (e5 : m__law_lowest [.int (p * (1 + x * y) + 1 - 2 * z), .int (q * (1 + x * y))] ss4 = .ok r ss4) : m__law_mate [.src, fr p q] ss = .ok r ss4 := by
  simp [m__law_mate, e__law_mate, pick_eq, e1, e2, e3, e4, e5, m1, m2, m3, m4]
theorem mate_run3 (o : D) (w n d : Int) (ss ss1 ss2 : SS) (r : D) (e1 : pickM [.src, .int 5] ss = .ok (.int w) ss1) (h0 : ¬ w = 0) (h1 : ¬ w = 1) (h2 : ¬ w = 2) (e2 : m__law_fraction [.src] ss1 = .ok (fr n d) ss2) (e5 : m__law_lowest [.int n, .int d] ss2 = .ok r ss2) : m__law_mate [.src, o] ss = .ok r ss2 := by
  simp [m__law_mate, e__law_mate, pick_eq, e1, e2, e5, h0, h1, h2]
theorem mate_eq (p q : Int) (h : Sh 140 p q) (ss : SS) (hs : SsOk ss) : ∃ p' q' ss', m__law_mate [.src, fr p q] ss = .ok (fr p' q') ss' ∧ SsOk ss' ∧ Sh 200 p' q' := by
  obtain ⟨w, ss1, e1, a1, b1, hs1⟩ := (pick_ok ss hs 5 (by decide) (by decide)).ex
  by_cases w0 : w = 0
  · subst w0
    exact ⟨p, q, ss1, mate_run0 _ ss ss1 e1, hs1, h.mono (by decide)⟩
  by_cases w1 : w = 1
  · subst w1
    refine ⟨0 - p, q, ss1, mate_run1 p q ss ss1 e1, hs1, ⟨h.pos, ?_, ?_, h.bq.mono (by decide)⟩⟩
    · rw [Int.zero_sub, Int.neg_gcd]; exact h.cop
    · rw [Int.zero_sub]; exact h.bp.neg.mono (by decide)
  by_cases w2 : w = 2
  · subst w2
    obtain ⟨x, ss2, e2, a2, b2, hs2⟩ := (pick_ok ss1 hs1 1000 (by decide) (by decide)).ex
    obtain ⟨y, ss3, e3, a3, b3, hs3⟩ := (pick_ok ss2 hs2 1000 (by decide) (by decide)).ex
    obtain ⟨z, ss4, e4, a4, b4, hs4⟩ := (pick_ok ss3 hs3 2 (by decide) (by decide)).ex
    have hx : B 10 x := B_of x 10 a2 (by omega)
    have hy : B 10 y := B_of y 10 a3 (by omega)
    have hby : B 21 (1 + x * y) := (B.add (B_of 1 20 (by decide) (by decide)) (hx.mul hy))
    have hpos : 0 < 1 + x * y := by have := Int.mul_nonneg a2 a3; omega
    have hz : B 140 (2 * z) := B_of _ 140 (by omega) (by omega)
    have hn : B 163 (p * (1 + x * y) + 1 - 2 * z) := ((h.bp.mul hby).add (B_of 1 161 (by decide) (by decide))).sub (hz.mono (by decide))
    have hd : B 161 (q * (1 + x * y)) := h.bq.mul hby
    have hd0 : q * (1 + x * y) ≠ 0 := by have := Int.mul_pos h.pos hpos; omega
    obtain ⟨p', q', e5, l⟩ := lowest_eq (p * (1 + x * y) + 1 - 2 * z) (q * (1 + x * y)) hd0 (hn.mono (by decide)) (hd.mono (by decide)) ss4
    exact ⟨p', q', ss4, mate_run2 p q x y z ss ss1 ss2 ss3 ss4 _ e1 e2 e3 e4 (mulOk_B (hx.mono (by decide)) (hy.mono (by decide))) (mulOk_B (h.bp.mono (by decide)) (hby.mono (by decide))) (mulOk_r 2 z (by omega)) (mulOk_B (h.bq.mono (by decide)) (hby.mono (by decide))) e5, hs4, (l.sh (hn.mono (by decide)) (hd.mono (by decide)))⟩
  obtain ⟨n, d, ss2, e2, hs2, d0, bn, bd⟩ := fraction_eq ss1 hs1
  obtain ⟨p', q', e5, l⟩ := lowest_eq n d d0 (bn.mono (by decide)) (bd.mono (by decide)) ss2
  exact ⟨p', q', ss2, mate_run3 _ w n d ss ss1 ss2 _ e1 w0 w1 w2 e2 e5, hs2, (l.sh bn bd).mono (by decide)⟩
/-! ### made -/
theorem made_step (n d f p q : Int) (x3 : Option TD.Slot) (ss : SS) (m1 : mulOk n f = true) (m2 : mulOk d f = true) (e : m_share [.int (n * f), .int (d * f)] ss = .ok (fr p q) ss) (s : m__law_stands [fr p q, .int n, .int d] ss = .ok (.bl true) ss) (k : W → RS) :
    oS (g__law_made_right_0 (.int f) ⟨[some (.val .src), some (.val (.int n)), some (.val (.int d)), x3], ss⟩) (fun w => (b__law_made_right_0 w).loop k) = k ⟨[some (.val .src), some (.val (.int n)), some (.val (.int d)), some (.val (.int f))], ss⟩ := by
  simp [g__law_made_right_0, b__law_made_right_0, m1, m2, e, s]
theorem made_at (n d f : Int) (hf : f ≠ 0) (d0 : d ≠ 0) (bn : B 140 n) (bd : B 140 d) (bf : B 10 f) (x3 : Option TD.Slot) (ss : SS) (k : W → RS) :
    oS (g__law_made_right_0 (.int f) ⟨[some (.val .src), some (.val (.int n)), some (.val (.int d)), x3], ss⟩) (fun w => (b__law_made_right_0 w).loop k) = k ⟨[some (.val .src), some (.val (.int n)), some (.val (.int d)), some (.val (.int f))], ss⟩ := by
  have b1 := bn.mul bf
  have b2 := bd.mul bf
  have nz : d * f ≠ 0 := Int.mul_ne_zero d0 hf
  obtain ⟨p, q, e, l⟩ := share_eq (n * f) (d * f) nz (b1.mono (by decide)) (b2.mono (by decide)) ss
  have sh := l.sh b1 b2
  have c : p * d = n * q := cancel hf (by have := l.cross; grind)
  exact made_step n d f p q x3 ss (mulOk_B (bn.mono (by decide)) (bf.mono (by decide))) (mulOk_B (bd.mono (by decide)) (bf.mono (by decide))) e (stands_eq p q n d (sh.mono (by decide)) c (bn.mono (by decide)) (bd.mono (by decide)) ss) k
theorem made_run (n d f : Int) (a b : D) (ss ss1 ss2 : SS) (e1 : m__law_fraction [.src] ss = .ok (fr n d) ss1) (e2 : pickM [.src, .int 30] ss1 = .ok (.int f) ss2)
    (l : sForGo g__law_made_right_0 b__law_made_right_0 [.int 1, .int (-1), .int (2 + f)] ⟨[some (.val .src), some (.val (.int n)), some (.val (.int d)), none], ss2⟩ = .nx ⟨[some (.val .src), some (.val (.int n)), some (.val (.int d)), some (.val (.int (2 + f)))], ss2⟩)
    (e3 : m_share [.int 0, .int d] ss2 = .ok a ss2) (s3 : m__law_stands [a, .int 0, .int 1] ss2 = .ok (.bl true) ss2) (e4 : m_share [.int d, .int d] ss2 = .ok b ss2) (s4 : m__law_stands [b, .int 1, .int 1] ss2 = .ok (.bl true) ss2) : m__law_made_right [.src] ss = .ok (.bl true) ss2 := by
  have r := fun x => refused0 x ss2
  simp [m__law_made_right, e__law_made_right, pick_eq, e1, e2, l, e3, s3, e4, s4, r]
theorem made_eq (ss : SS) (hs : SsOk ss) : ∃ ss', m__law_made_right [.src] ss = .ok (.bl true) ss' ∧ SsOk ss' := by
  obtain ⟨n, d, ss1, e1, hs1, d0, bn, bd⟩ := fraction_eq ss hs
  obtain ⟨f, ss2, e2, a2, b2, hs2⟩ := (pick_ok ss1 hs1 30 (by decide) (by decide)).ex
  have one : B 140 1 := B_of 1 140 (by decide) (by decide)
  have zer : B 140 0 := B_of 0 140 (by decide) (by decide)
  obtain ⟨p3, q3, e3, l3⟩ := share_eq 0 d d0 (zer.mono (by decide)) (bd.mono (by decide)) ss2
  obtain ⟨p4, q4, e4, l4⟩ := share_eq d d d0 (bd.mono (by decide)) (bd.mono (by decide)) ss2
  have z3 : p3 = 0 := by
    have := l3.cross
    rw [Int.zero_mul] at this
    rcases Int.mul_eq_zero.mp this with h | h
    · exact h
    · exact absurd h d0
  have z4 : p4 = q4 := cancel d0 (by have := l4.cross; grind)
  have s3 := stands_eq p3 q3 0 1 ((l3.sh zer bd).mono (by decide)) (by rw [z3]; simp) (zer.mono (by decide)) (one.mono (by decide)) ss2
  have s4 := stands_eq p4 q4 1 1 ((l4.sh bd bd).mono (by decide)) (by rw [z4]; simp) (one.mono (by decide)) (one.mono (by decide)) ss2
  refine ⟨ss2, made_run n d f _ _ ss ss1 ss2 e1 e2 ?_ e3 s3 e4 s4, hs2⟩
  rw [sForGo_cons, made_at n d 1 (by decide) d0 bn bd (B_of 1 10 (by decide) (by decide)), sForGo_cons, made_at n d (-1) (by decide) d0 bn bd (show B 10 (-1) from by unfold B; decide), sForGo_cons, made_at n d (2 + f) (by omega) d0 bn bd (B_of _ 10 (by omega) (by omega))]
  rfl
/-! ### pairs -/
theorem ceil_run (p q : Int) (ss : SS) (hd : divOk q = true) (m1 : mulOk (-(-p / q)) q = true) (m2 : mulOk (-(-p / q) - 1) q = true) (h1 : p ≤ -(-p / q) * q) (h2 : (-(-p / q) - 1) * q < p) : m__law_ceiling_right [fr p q] ss = .ok (.bl true) ss := by
  have c : m_ceiling [fr p q] ss = .ok (.int (-(-p / q))) ss := by simp [m_ceiling, e_ceiling, hd]
  generalize -(-p / q) = t at *
  simp [m__law_ceiling_right, e__law_ceiling_right, c, law_is_int_eq, m1, m2, h1, h2]
theorem ceil_eq (p q : Int) (h : Sh 200 p q) (ss : SS) : m__law_ceiling_right [fr p q] ss = .ok (.bl true) ss := by
  have e := Int.mul_ediv_add_emod (-p) q
  have r0 := Int.emod_nonneg (-p) (show q ≠ 0 by have := h.pos; omega)
  have r1 := Int.emod_lt_of_pos (-p) h.pos
  have bt : B 9000 (-p / q) := by
    refine B.le (h.bp.neg.mono (show 200 ≤ 9000 by decide)) ?_
    exact Int.natAbs_ediv_le_natAbs ..
  have mm : ∀ x, x.natAbs ≤ (-p / q).natAbs + 1 → mulOk x q = true := fun x hx => by
    unfold mulOk
    have h1 : (-p / q).natAbs ≤ p.natAbs := by have := Int.natAbs_ediv_le_natAbs (-p) q; simpa using this
    have h2 : x.natAbs < 2 ^ 201 := by have := h.bp; unfold B at this; omega
    have h3 := log2_lt x.natAbs (Nat.lt_of_lt_of_le h2 (Nat.pow_le_pow_right (by decide) (by decide)))
    have h4 := log2_lt q.natAbs (Nat.lt_of_lt_of_le h.bq (Nat.pow_le_pow_right (by decide) (by decide)))
    have h5 : x.natAbs.log2 + q.natAbs.log2 < 1000000 := by omega
    simp [h5]
  refine ceil_run p q ss (divOk_B h.pos (h.bq.mono (by decide))) (mm _ (by omega)) (mm _ (by omega)) ?_ ?_
  · generalize -p / q = t at *; generalize -p % q = r at *; grind
  · generalize -p / q = t at *; generalize -p % q = r at *; grind
theorem pair_run (a b c d : Int) (P1 P2 P3 P4 : D) (ss : SS) (m1 : mulOk a d = true) (m2 : mulOk c b = true) (m3 : mulOk b d = true) (m4 : mulOk a c = true) (m5 : mulOk b c = true) (e1 : m_plus [fr a b, fr c d] ss = .ok P1 ss) (e2 : m_minus [fr a b, fr c d] ss = .ok P2 ss) (e3 : m_multiplied [fr a b, fr c d] ss = .ok P3 ss)
    (s1 : m__law_stands [P1, .int (a * d + c * b), .int (b * d)] ss = .ok (.bl true) ss) (s2 : m__law_stands [P2, .int (a * d - c * b), .int (b * d)] ss = .ok (.bl true) ss) (s3 : m__law_stands [P3, .int (a * c), .int (b * d)] ss = .ok (.bl true) ss)
    (e5 : m_below [fr a b, fr c d] ss = .ok (.bl (decide (a * d < c * b))) ss) (h4 : (c = 0 ∧ m__law_refused [.int 1, fr a b, fr c d] ss = .ok (.bl true) ss) ∨ (¬ c = 0 ∧ m_divided [fr a b, fr c d] ss = .ok P4 ss ∧ m__law_stands [P4, .int (a * d), .int (b * c)] ss = .ok (.bl true) ss ∧ m__law_refused [.int 1, fr c d, fr 0 1] ss = .ok (.bl true) ss)) :
    m__law_pair_right [fr a b, fr c d] ss = .ok (.bl true) ss := by
  have sd := said_eq (decide (a * d < c * b)) (decide (a * d < c * b)) ss
  rw [show (decide (a * d < c * b) == decide (a * d < c * b)) = true by simp] at sd
  rcases h4 with ⟨h0, h4⟩ | ⟨h0, h4, h5, h6⟩
  · subst h0
    simp only [Int.mul_zero, Int.zero_mul, Int.add_zero, Int.sub_zero] at *
    simp [m__law_pair_right, e__law_pair_right, m1, m2, m3, m4, m5, e1, e2, e3, e5, s1, s2, s3, sd, h4]
  · simp [m__law_pair_right, e__law_pair_right, m1, m2, m3, m4, m5, e1, e2, e3, e5, s1, s2, s3, sd, h0, h4, h5, h6]
theorem pair_eq (a b c d : Int) (h : Sh 200 a b) (g : Sh 200 c d) (ss : SS) : m__law_pair_right [fr a b, fr c d] ss = .ok (.bl true) ss := by
  have mo : ∀ x y, B 200 x → B 200 y → mulOk x y = true := fun x y hx hy => mulOk_B (hx.mono (by decide)) (hy.mono (by decide))
  have m1 := mo a d h.bp g.bq
  have m2 := mo c b g.bp h.bq
  have m3 := mo b d h.bq g.bq
  have m4 := mo a c h.bp g.bp
  have m5 := mo b c h.bq g.bp
  have b1 : B 401 (a * d + c * b) := (h.bp.mul g.bq).add (g.bp.mul h.bq)
  have b2 : B 401 (a * d - c * b) := (h.bp.mul g.bq).sub (g.bp.mul h.bq)
  have b3 : B 401 (b * d) := (h.bq.mul g.bq).mono (by decide)
  have b4 : B 401 (a * c) := (h.bp.mul g.bp).mono (by decide)
  have b5 : B 401 (a * d) := (h.bp.mul g.bq).mono (by decide)
  have b6 : B 401 (b * c) := (h.bq.mul g.bp).mono (by decide)
  have nz : b * d ≠ 0 := by have := Int.mul_pos h.pos g.pos; omega
  have lo : ∀ {k : Nat} {x : Int}, B 401 x → B 4000 x := fun h => h.mono (by decide)
  have st : ∀ n e, B 401 n → B 401 e → e ≠ 0 → ∃ P, m_share [.int n, .int e] ss = .ok P ss ∧ m__law_stands [P, .int n, .int e] ss = .ok (.bl true) ss := fun n e hn he h0 => by
    obtain ⟨p, q, es, l⟩ := share_eq n e h0 (hn.mono (by decide)) (he.mono (by decide)) ss
    exact ⟨_, es, stands_eq p q n e ((l.sh hn he).mono (by decide)) l.cross (hn.mono (by decide)) (he.mono (by decide)) ss⟩
  obtain ⟨P1, e1, s1⟩ := st _ _ b1 b3 nz
  obtain ⟨P2, e2, s2⟩ := st _ _ b2 b3 nz
  obtain ⟨P3, e3, s3⟩ := st _ _ b4 b3 nz
  have zer : mulOk c 1 = true := mulOk_r c 1 (by decide)
  by_cases h0 : c = 0
  · refine pair_run a b c d P1 P2 P3 P1 ss m1 m2 m3 m4 m5 ((plus_run a b c d ss m1 m2 m3).trans e1) ((minus_run a b c d ss m1 m2 m3).trans e2) ((mult_run a b c d ss m4 m3).trans e3) s1 s2 s3 (below_run a b c d ss m1 m2) (.inl ⟨h0, refused1 _ _ ss ?_⟩)
    rw [div_run a b c d ss m1 m5, h0, Int.mul_zero]
    exact share_no _ ss
  · obtain ⟨P4, e4, s4⟩ := st _ _ b5 b6 (Int.mul_ne_zero (by have := h.pos; omega) h0)
    refine pair_run a b c d P1 P2 P3 P4 ss m1 m2 m3 m4 m5 ((plus_run a b c d ss m1 m2 m3).trans e1) ((minus_run a b c d ss m1 m2 m3).trans e2) ((mult_run a b c d ss m4 m3).trans e3) s1 s2 s3 (below_run a b c d ss m1 m2) (.inr ⟨h0, (div_run a b c d ss m1 m5).trans e4, s4, refused1 _ _ ss ?_⟩)
    rw [div_run c d 0 1 ss zer (mulOk_r d 0 (by decide)), Int.mul_zero]
    exact share_no _ ss
end K02

set_option Elab.async false
set_option linter.all false
set_option maxRecDepth 100000
set_option maxHeartbeats 4000000
namespace K02
open PySem PySem.Spec PyProof.Rows L2 TD TP
abbrev Fr := Int × Int
abbrev encF (r : Fr) : D := fr r.1 r.2
def dn : List Fr → Int
  | [] => 1
  | r :: rs => r.2 * dn rs
def tp : List Fr → Int
  | [] => 0
  | r :: rs => r.1 * dn rs + r.2 * tp rs
theorem dn_app (a b : List Fr) : dn (a ++ b) = dn a * dn b := by
  induction a with
  | nil => simp [dn]
  | cons r a ih => simp only [List.cons_append, dn, ih]; grind
theorem tp_app (a b : List Fr) : tp (a ++ b) = tp a * dn b + dn a * tp b := by
  induction a with
  | nil => simp [dn, tp]
  | cons r a ih => simp only [List.cons_append, dn, tp, ih, dn_app]; grind
theorem dn_one (r : Fr) : dn [r] = r.2 := by simp [dn]
theorem tp_one (r : Fr) : tp [r] = r.1 := by simp [dn, tp]
theorem dn_rev (a : List Fr) : dn a.reverse = dn a := by
  induction a with
  | nil => rfl
  | cons r a ih => rw [List.reverse_cons, dn_app, ih, dn_one]; simp only [dn]; grind
theorem tp_rev (a : List Fr) : tp a.reverse = tp a := by
  induction a with
  | nil => rfl
  | cons r a ih => rw [List.reverse_cons, tp_app, ih, dn_rev, dn_one, tp_one]; simp only [tp]; grind
def Row (r : Fr) : Prop := 0 < r.2 ∧ B 5 r.2 ∧ B 5 r.1
theorem dn_pos : ∀ a : List Fr, (∀ r ∈ a, Row r) → 0 < dn a
  | [], _ => by simp [dn]
  | r :: a, h => Int.mul_pos (h r (List.mem_cons_self ..)).1 (dn_pos a fun x hx => h x (List.mem_cons_of_mem _ hx))
theorem dn_B : ∀ a : List Fr, (∀ r ∈ a, Row r) → B (6 * a.length + 1) (dn a)
  | [], _ => by unfold B; simp [dn]
  | r :: a, h => by
    have := (h r (List.mem_cons_self ..)).2.1.mul (dn_B a fun x hx => h x (List.mem_cons_of_mem _ hx))
    exact this.mono (by simp; omega)
theorem tp_B : ∀ a : List Fr, (∀ r ∈ a, Row r) → B (6 * a.length + 1) (tp a)
  | [], _ => by unfold B; simp [tp]
  | r :: a, h => by
    have hr := h r (List.mem_cons_self ..)
    have ht : ∀ x ∈ a, Row x := fun x hx => h x (List.mem_cons_of_mem _ hx)
    have := (hr.2.2.mul (dn_B a ht)).add (hr.2.1.mul (tp_B a ht))
    exact this.mono (by simp; omega)
/-! ### the total -/
theorem total_go (X : Option TD.Slot) (ss : SS) : ∀ (rs pre : List Fr) (p q : Int) (x2 : Option TD.Slot), (∀ r ∈ pre ++ rs, Row r) → (pre ++ rs).length ≤ 41 → 0 < q → Int.gcd p q = 1 → p * dn pre = tp pre * q → B (6 * pre.length + 1) p → B (6 * pre.length + 1) q →
    ∃ p' q' y2, sForGo g_total_0 b_total_0 (rs.map encF) ⟨[X, some (.val (fr p q)), x2], ss⟩ = .nx ⟨[X, some (.val (fr p' q')), y2], ss⟩ ∧ Sh 4000 p' q' ∧ p' * dn (pre ++ rs) = tp (pre ++ rs) * q'
  | [], pre, p, q, x2, hr, hl, h0, h1, h2, bp, bq => by
    simp at hl
    exact ⟨p, q, x2, rfl, ⟨h0, h1, bp.mono (by omega), bq.mono (by omega)⟩, by simpa using h2⟩
  | r :: rs, pre, p, q, x2, hr, hl, h0, h1, h2, bp, bq => by
    have hrr := hr r (by simp)
    have hpre : ∀ x ∈ pre, Row x := fun x hx => hr x (by simp [hx])
    simp only [List.length_append, List.length_cons] at hl
    have m1 : mulOk p r.2 = true := mulOk_B (bp.mono (by omega)) (hrr.2.1.mono (by decide))
    have m2 : mulOk r.1 q = true := mulOk_B (hrr.2.2.mono (by decide)) (bq.mono (by omega))
    have m3 : mulOk q r.2 = true := mulOk_B (bq.mono (by omega)) (hrr.2.1.mono (by decide))
    have bn : B (6 * pre.length + 7) (p * r.2 + r.1 * q) := ((bp.mul hrr.2.1).add ((hrr.2.2.mul bq).mono (by omega))).mono (by omega)
    have bd : B (6 * pre.length + 7) (q * r.2) := (bq.mul hrr.2.1).mono (by omega)
    have nz : q * r.2 ≠ 0 := by have := Int.mul_pos h0 hrr.1; omega
    obtain ⟨p', q', es, l⟩ := share_eq (p * r.2 + r.1 * q) (q * r.2) nz (bn.mono (by omega)) (bd.mono (by omega)) ss
    have ep := (plus_run p q r.1 r.2 ss m1 m2 m3).trans es
    have cr : p' * dn (pre ++ [r]) = tp (pre ++ [r]) * q' := by
      rw [dn_app, tp_app, dn_one, tp_one]
      have := l.cross
      exact cancel (f := q) (by omega) (by generalize dn pre = dd at *; generalize tp pre = tt at *; grind)
    have sh := l.sh bn bd
    obtain ⟨p2, q2, y2, e2, s2, c2⟩ := total_go X ss rs (pre ++ [r]) p' q' (some (.val (encF r))) (by simpa using hr) (by simp; omega) sh.pos sh.cop cr (sh.bp.mono (by simp; omega)) (sh.bq.mono (by simp; omega))
    refine ⟨p2, q2, y2, ?_, s2, by simpa using c2⟩
    rw [List.map_cons, sForGo_cons, ← e2]
    generalize sForGo g_total_0 b_total_0 (rs.map encF) = kk
    simp [g_total_0, b_total_0, ep]
theorem total_run (T : D) (ds : List D) (p q : Int) (y2 : Option TD.Slot) (ss : SS) (hT : T = .lst ds ∨ T = .tup ds) (e : sForGo g_total_0 b_total_0 ds ⟨[some (.val T), some (.val (fr 0 1)), none], ss⟩ = .nx ⟨[some (.val T), some (.val (fr p q)), y2], ss⟩) : m_total [T] ss = .ok (fr p q) ss := by
  rcases hT with rfl | rfl <;> simp [m_total, e_total, e]
theorem total_eq (T : D) (rs : List Fr) (hT : T = .lst (rs.map encF) ∨ T = .tup (rs.map encF)) (hr : ∀ r ∈ rs, Row r) (hl : rs.length ≤ 41) (ss : SS) : ∃ p q, m_total [T] ss = .ok (fr p q) ss ∧ Sh 4000 p q ∧ p * dn rs = tp rs * q := by
  obtain ⟨p, q, y2, e, s, c⟩ := total_go (some (.val T)) ss rs [] 0 1 none (by simpa using hr) (by simpa using hl) (by decide) (by decide) (by simp [dn, tp]) (by unfold B; decide) (by unfold B; decide)
  exact ⟨p, q, total_run T _ p q y2 ss hT e, s, by simpa using c⟩
theorem stand_total (T : D) (rs : List Fr) (hT : T = .lst (rs.map encF) ∨ T = .tup (rs.map encF)) (hr : ∀ r ∈ rs, Row r) (hl : rs.length ≤ 41) (t d : Int) (ht : t = tp rs) (hd : d = dn rs) (ss : SS) : ∃ P, m_total [T] ss = .ok P ss ∧ m__law_stands [P, .int t, .int d] ss = .ok (.bl true) ss := by
  obtain ⟨p, q, e, s, c⟩ := total_eq T rs hT hr hl ss
  refine ⟨_, e, stands_eq p q t d s (by rw [ht, hd]; exact c) ?_ ?_ ss⟩
  · rw [ht]; exact (tp_B rs hr).mono (by omega)
  · rw [hd]; exact (dn_B rs hr).mono (by omega)
/-! ### the law's rows -/
def Et (many : Int) (x2 : TD.Slot) (t d : Int) (x5 x6 x7 : Option TD.Slot) : TD.Env := [some (.val .src), some (.val (.int many)), some x2, some (.val (.int t)), some (.val (.int d)), x5, x6, x7]
theorem row_step (many t d x y p q : Int) (acc : List D) (dd : D) (x5 x6 : Option TD.Slot) (ss ss1 ss2 : SS) (e1 : pickM [.src, .int 41] ss = .ok (.int x) ss1) (e2 : pickM [.src, .int 30] ss1 = .ok (.int y) ss2) (e3 : m__law_lowest [.int (x - 20), .int (1 + y)] ss2 = .ok (fr p q) ss2)
    (hl : acc.length < 1000000) (m1 : mulOk t q = true) (m2 : mulOk p d = true) (m3 : mulOk d q = true) (k : W → RS) : oS (g__law_total_right_0 dd ⟨Et many (.own acc) t d x5 x6 none, ss⟩) (fun w => (b__law_total_right_0 w).loop k) = k ⟨Et many (.own (acc ++ [fr p q])) (t * q + p * d) (d * q) (some (.val dd)) (some (.val (fr p q))) none, ss2⟩ := by
  unfold Et
  simp [g__law_total_right_0, b__law_total_right_0, pick_eq, e1, e2, e3, hl, m1, m2, m3]
theorem rows_go (many : Int) : ∀ (ds : List D) (rs : List Fr) (x5 x6 : Option TD.Slot) (ss : SS), SsOk ss → rs.length + ds.length ≤ 40 → (∀ r ∈ rs, Row r) →
    ∃ rs' y5 y6 ss', sForGo g__law_total_right_0 b__law_total_right_0 ds ⟨Et many (.own (rs.map encF)) (tp rs) (dn rs) x5 x6 none, ss⟩ = .nx ⟨Et many (.own (rs'.map encF)) (tp rs') (dn rs') y5 y6 none, ss'⟩ ∧ SsOk ss' ∧ rs'.length ≤ 40 ∧ ∀ r ∈ rs', Row r
  | [], rs, x5, x6, ss, hs, hl, hr => ⟨rs, x5, x6, ss, rfl, hs, by simpa using hl, hr⟩
  | dd :: ds, rs, x5, x6, ss, hs, hl, hr => by
    simp only [List.length_cons] at hl
    obtain ⟨x, ss1, e1, a1, b1, hs1⟩ := (pick_ok ss hs 41 (by decide) (by decide)).ex
    obtain ⟨y, ss2, e2, a2, b2, hs2⟩ := (pick_ok ss1 hs1 30 (by decide) (by decide)).ex
    have bx : B 5 (x - 20) := by unfold B; omega
    have by' : B 5 (1 + y) := by unfold B; omega
    obtain ⟨p, q, e3, l⟩ := lowest_eq (x - 20) (1 + y) (by omega) (bx.mono (by decide)) (by'.mono (by decide)) ss2
    have sh := l.sh bx by'
    have rw' : Row (p, q) := ⟨sh.pos, sh.bq, sh.bp⟩
    have bt := tp_B rs hr
    have bd := dn_B rs hr
    have hr' : ∀ r ∈ rs ++ [(p, q)], Row r := fun r h => by
      rcases List.mem_append.mp h with h | h
      · exact hr r h
      · have : r = (p, q) := by simpa using h
        rw [this]; exact rw'
    obtain ⟨rs', y5, y6, ss', e, h1, h2, h3⟩ := rows_go many ds (rs ++ [(p, q)]) (some (.val dd)) (some (.val (fr p q))) ss2 hs2 (by simp; omega) hr'
    refine ⟨rs', y5, y6, ss', ?_, h1, h2, h3⟩
    rw [sForGo_cons, row_step many (tp rs) (dn rs) x y p q (rs.map encF) dd x5 x6 ss ss1 ss2 e1 e2 e3 (by simp; omega) (mulOk_B (bt.mono (by omega)) (sh.bq.mono (by decide))) (mulOk_B (sh.bp.mono (by decide)) (bd.mono (by omega))) (mulOk_B (bd.mono (by omega)) (sh.bq.mono (by decide)))]
    rw [tp_app, dn_app, dn_one, tp_one, List.map_append] at e
    have e1' : tp rs * q + p * dn rs = tp rs * q + dn rs * p := by grind
    rw [e1']
    exact e
theorem oks_F (n : Nat) : ∀ rs : List Fr, D.oks (n + 1) (rs.map encF) = true
  | [] => oks_nil _
  | r :: rs => by simp [oks_F n rs]
theorem total_right_run (many k t d t2 d2 : Int) (R R2 : List D) (P1 P2 P3 P4 : D) (y5 y6 : Option TD.Slot) (ss ss1 ss2 ss3 : SS) (e1 : pickM [.src, .int 8] ss = .ok (.int k) ss1) (e2 : (k = 0 ∧ many = 40 ∧ ss2 = ss1) ∨ (¬ k = 0 ∧ pickM [.src, .int 6] ss1 = .ok (.int many) ss2)) (s1 : small many = true)
    (e3 : sForGo g__law_total_right_0 b__law_total_right_0 (rngD 0 many) ⟨Et many (.own []) 0 1 none none none, ss2⟩ = .nx ⟨Et many (.own R) t d y5 y6 none, ss3⟩) (okR : D.oks 63 R = true) (hl : R.length < 1000000)
    (c1 : m_total [.lst R] ss3 = .ok P1 ss3) (g1 : m__law_stands [P1, .int t, .int d] ss3 = .ok (.bl true) ss3)
    (c2 : m_total [.tup R.reverse] ss3 = .ok P2 ss3) (g2 : m__law_stands [P2, .int t, .int d] ss3 = .ok (.bl true) ss3)
    (m1 : mulOk t 7 = true) (m2 : mulOk 5 d = true) (m3 : mulOk d 7 = true)
    (c3 : m_total [.lst (R ++ [fr (-5) 7])] ss3 = .ok P3 ss3) (g3 : m__law_stands [P3, .int (t * 7 - 5 * d), .int (d * 7)] ss3 = .ok (.bl true) ss3) : m__law_total_right [.src] ss = .ok (.bl true) ss3 := by
  have eR := eqvs_self R 63 okR
  show (e__law_total_right ⟨[some (.val .src), none, none, none, none, none, none, none], ss⟩).fin = _
  unfold e__law_total_right
  refine nxtF (w' := ⟨[some (.val .src), some (.val (.int many)), none, none, none, none, none, none], ss2⟩) ?_ ?_
  · rcases e2 with ⟨h1, h2, h3⟩ | ⟨h1, h2⟩
    · subst h1 h2 h3; simp [pick_eq, e1]
    · simp [pick_eq, e1, h1, h2]
  refine nxtF (w' := ⟨[some (.val .src), some (.val (.int many)), some (.own []), none, none, none, none, none], ss2⟩) (by simp) ?_
  refine nxtF (w' := ⟨Et many (.own []) 0 1 none none none, ss2⟩) (by unfold Et; simp) ?_
  refine nxtF (w' := ⟨Et many (.own R) t d y5 y6 none, ss3⟩) (by rw [← e3]; unfold Et; simp [s1]) ?_
  refine nxtF (w' := ⟨Et many (.val (.lst R)) t d y5 y6 (some (.own R)), ss3⟩) (by unfold Et; simp) ?_
  refine nxtF (w' := ⟨Et many (.val (.lst R)) t d y5 y6 (some (.own R)), ss3⟩) (by unfold Et; simp [c1, g1, okR, eR]) ?_
  refine nxtF (w' := ⟨Et many (.val (.lst R)) t d y5 y6 (some (.own R)), ss3⟩) (by unfold Et; simp [c2, g2]) ?_
  refine nxtF (w' := ⟨Et many (.val (.lst R)) t d y5 y6 (some (.own (R ++ [fr (-5) 7]))), ss3⟩) (by unfold Et; simp [hl]) ?_
  refine nxtF (w' := ⟨Et many (.val (.lst R)) t d y5 y6 (some (.own (R ++ [fr (-5) 7]))), ss3⟩) (by unfold Et; simp [c3, g3, m1, m2, m3]) ?_
  unfold Et
  simp [c1, g1]
theorem total_right_eq (ss : SS) (hs : SsOk ss) : ∃ ss', m__law_total_right [.src] ss = .ok (.bl true) ss' ∧ SsOk ss' := by
  obtain ⟨k, ss1, e1, a1, b1, hs1⟩ := (pick_ok ss hs 8 (by decide) (by decide)).ex
  have key : ∃ many ss2, ((k = 0 ∧ many = 40 ∧ ss2 = ss1) ∨ (¬ k = 0 ∧ pickM [.src, .int 6] ss1 = .ok (.int many) ss2)) ∧ 0 ≤ many ∧ many ≤ 40 ∧ SsOk ss2 := by
    by_cases hk : k = 0
    · exact ⟨40, ss1, .inl ⟨hk, rfl, rfl⟩, by decide, by decide, hs1⟩
    · obtain ⟨m, ss2, e2, a2, b2, hs2⟩ := (pick_ok ss1 hs1 6 (by decide) (by decide)).ex
      exact ⟨m, ss2, .inr ⟨hk, e2⟩, a2, by omega, hs2⟩
  obtain ⟨many, ss2, e2, h0, h1, hs2⟩ := key
  obtain ⟨rs, y5, y6, ss3, e3, hs3, hl, hr⟩ := rows_go many (rngD 0 many) [] none none ss2 hs2 (by simp [rngD]; omega) (fun _ h => nomatch h)
  have bt := tp_B rs hr
  have bd := dn_B rs hr
  obtain ⟨P1, c1, g1⟩ := stand_total (.lst (rs.map encF)) rs (.inl rfl) hr (by omega) (tp rs) (dn rs) rfl rfl ss3
  obtain ⟨P2, c2, g2⟩ := stand_total (.tup ((rs.map encF).reverse)) rs.reverse (.inr (by rw [List.map_reverse])) (fun r h => hr r (by simpa using h)) (by simp; omega) (tp rs) (dn rs) (tp_rev rs).symm (dn_rev rs).symm ss3
  have last : Row ((-5, 7) : Fr) := ⟨by decide, by unfold B; decide, by unfold B; decide⟩
  obtain ⟨P3, c3, g3⟩ := stand_total (.lst (rs.map encF ++ [fr (-5) 7])) (rs ++ [(-5, 7)]) (.inl (by simp)) (fun r h => by
    rcases List.mem_append.mp h with h | h
    · exact hr r h
    · have : r = (-5, 7) := by simpa using h
      rw [this]; exact last) (by simp; omega) (tp rs * 7 - 5 * dn rs) (dn rs * 7) (by rw [tp_app, dn_one, tp_one]; show _ = tp rs * 7 + dn rs * -5; grind) (by rw [dn_app, dn_one]) ss3
  exact ⟨ss3, total_right_run many k (tp rs) (dn rs) 0 0 (rs.map encF) [] P1 P2 P3 P1 y5 y6 ss ss1 ss2 ss3 e1 e2 (small_le (by omega) (by omega)) e3 (oks_F 62 rs) (by simp; omega) c1 g1 c2 g2 (mulOk_r _ 7 (by decide)) (mulOk_B (by unfold B; exact Nat.lt_of_lt_of_le (show (5 : Int).natAbs < 2 ^ 3 by decide) (Nat.pow_le_pow_right (show 0 < 2 by decide) (show 3 ≤ 9000 by decide))) (bd.mono (by omega))) (mulOk_r _ 7 (by decide)) c3 g3, hs3⟩
end K02

set_option Elab.async false
set_option linter.all false
set_option maxRecDepth 100000
set_option maxHeartbeats 4000000
namespace K02
open PySem PySem.Spec PyProof.Rows L2 TD TP
theorem odd_at (j : Int) (h : 0 ≤ j ∧ j < 6) : ∃ x, atI [D.non, .str "1", .bl true, .bl false, .tup [.int 1], .tup []] j = some x ∧ x ≠ .src ∧ ∀ i, x ≠ .int i := by
  have : j = 0 ∨ j = 1 ∨ j = 2 ∨ j = 3 ∨ j = 4 ∨ j = 5 := by omega
  rcases this with rfl | rfl | rfl | rfl | rfl | rfl
  · exact ⟨.non, rfl, by simp, by simp⟩
  · exact ⟨.str "1", rfl, by simp, by simp⟩
  · exact ⟨.bl true, rfl, by simp, by simp⟩
  · exact ⟨.bl false, rfl, by simp, by simp⟩
  · exact ⟨.tup [.int 1], rfl, by simp, by simp⟩
  · exact ⟨.tup [], rfl, by simp, by simp⟩
theorem odd_run (j : Int) (x : D) (ss ss1 : SS) (e1 : pickM [.src, .int 6] ss = .ok (.int j) ss1) (hx : atI [D.non, .str "1", .bl true, .bl false, .tup [.int 1], .tup []] j = some x) : m__law_odd [.src] ss = .ok x ss1 := by
  simp [m__law_odd, e__law_odd, pick_eq, e1, hx]
theorem odd_eq (ss : SS) (hs : SsOk ss) : ∃ x ss', m__law_odd [.src] ss = .ok x ss' ∧ SsOk ss' ∧ x ≠ .src ∧ ∀ i, x ≠ .int i := by
  obtain ⟨j, ss1, e1, a1, b1, hs1⟩ := (pick_ok ss hs 6 (by decide) (by decide)).ex
  obtain ⟨x, hx, h1, h2⟩ := odd_at j ⟨a1, b1⟩
  exact ⟨x, ss1, odd_run j x ss ss1 e1 hx, hs1, h1, h2⟩
theorem spo0 (p q f : Int) (ss ss1 ss2 : SS) (e1 : pickM [.src, .int 8] ss = .ok (.int 0) ss1) (e2 : pickM [.src, .int 5] ss1 = .ok (.int f) ss2) (m1 : mulOk p (2 + f) = true) (m2 : mulOk q (2 + f) = true) : m__law_spoilt [.src, fr p q] ss = .ok (fr (p * (2 + f)) (q * (2 + f))) ss2 := by
  simp [m__law_spoilt, e__law_spoilt, pick_eq, e1, e2, m1, m2]
theorem spo1 (p q f : Int) (ss ss1 ss2 : SS) (e1 : pickM [.src, .int 8] ss = .ok (.int 1) ss1) (e2 : pickM [.src, .int 5] ss1 = .ok (.int f) ss2) : m__law_spoilt [.src, fr p q] ss = .ok (fr p (0 - q)) ss2 := by
  simp [m__law_spoilt, e__law_spoilt, pick_eq, e1, e2]
theorem spo2 (p q f : Int) (ss ss1 ss2 : SS) (e1 : pickM [.src, .int 8] ss = .ok (.int 2) ss1) (e2 : pickM [.src, .int 5] ss1 = .ok (.int f) ss2) : m__law_spoilt [.src, fr p q] ss = .ok (fr p 0) ss2 := by
  simp [m__law_spoilt, e__law_spoilt, pick_eq, e1, e2]
theorem spo3 (p q f : Int) (ss ss1 ss2 : SS) (e1 : pickM [.src, .int 8] ss = .ok (.int 3) ss1) (e2 : pickM [.src, .int 5] ss1 = .ok (.int f) ss2) : m__law_spoilt [.src, fr p q] ss = .ok (.tup [.int p, .int q, .int 1]) ss2 := by
  simp [m__law_spoilt, e__law_spoilt, pick_eq, e1, e2]
theorem spo4 (p q f : Int) (ss ss1 ss2 : SS) (e1 : pickM [.src, .int 8] ss = .ok (.int 4) ss1) (e2 : pickM [.src, .int 5] ss1 = .ok (.int f) ss2) : m__law_spoilt [.src, fr p q] ss = .ok (.tup [.int p]) ss2 := by
  simp [m__law_spoilt, e__law_spoilt, pick_eq, e1, e2]
theorem spo5 (p q f : Int) (x : D) (ss ss1 ss2 ss3 : SS) (e1 : pickM [.src, .int 8] ss = .ok (.int 5) ss1) (e2 : pickM [.src, .int 5] ss1 = .ok (.int f) ss2) (e3 : m__law_odd [.src] ss2 = .ok x ss3) : m__law_spoilt [.src, fr p q] ss = .ok (.tup [x, .int q]) ss3 := by
  simp [m__law_spoilt, e__law_spoilt, pick_eq, e1, e2, e3]
theorem spo6 (p q f : Int) (x : D) (ss ss1 ss2 ss3 : SS) (e1 : pickM [.src, .int 8] ss = .ok (.int 6) ss1) (e2 : pickM [.src, .int 5] ss1 = .ok (.int f) ss2) (e3 : m__law_odd [.src] ss2 = .ok x ss3) : m__law_spoilt [.src, fr p q] ss = .ok (.tup [.int p, x]) ss3 := by
  simp [m__law_spoilt, e__law_spoilt, pick_eq, e1, e2, e3]
theorem spo7 (p q f : Int) (ss ss1 ss2 : SS) (e1 : pickM [.src, .int 8] ss = .ok (.int 7) ss1) (e2 : pickM [.src, .int 5] ss1 = .ok (.int f) ss2) : m__law_spoilt [.src, fr p q] ss = .ok (fr (p + (2 + f)) q) ss2 := by
  simp [m__law_spoilt, e__law_spoilt, pick_eq, e1, e2]
theorem spoilt_eq (p q : Int) (h : Sh 200 p q) (ss : SS) (hs : SsOk ss) : ∃ x ss', m__law_spoilt [.src, fr p q] ss = .ok x ss' ∧ SsOk ss' ∧ VOk x := by
  obtain ⟨w, ss1, e1, a1, b1, hs1⟩ := (pick_ok ss hs 8 (by decide) (by decide)).ex
  obtain ⟨f, ss2, e2, a2, b2, hs2⟩ := (pick_ok ss1 hs1 5 (by decide) (by decide)).ex
  have bf : B 200 (2 + f) := B_of _ 200 (by omega) (by omega)
  have bp : B 9000 p := h.bp.mono (by decide)
  have bq : B 9000 q := h.bq.mono (by decide)
  have : w = 0 ∨ w = 1 ∨ w = 2 ∨ w = 3 ∨ w = 4 ∨ w = 5 ∨ w = 6 ∨ w = 7 := by omega
  rcases this with rfl | rfl | rfl | rfl | rfl | rfl | rfl | rfl
  · exact ⟨_, ss2, spo0 p q f ss ss1 ss2 e1 e2 (mulOk_B bp (bf.mono (by decide))) (mulOk_B bq (bf.mono (by decide))), hs2, VOk.fr ((h.bp.mul bf).mono (by decide)) ((h.bq.mul bf).mono (by decide))⟩
  · exact ⟨_, ss2, spo1 p q f ss ss1 ss2 e1 e2, hs2, VOk.fr bp (by rw [Int.zero_sub]; exact bq.neg)⟩
  · exact ⟨_, ss2, spo2 p q f ss ss1 ss2 e1 e2, hs2, VOk.fr bp ((show B 1 0 from by unfold B; decide).mono (by decide))⟩
  · refine ⟨_, ss2, spo3 p q f ss ss1 ss2 e1 e2, hs2, by simp, fun l hl e he => ?_, fun a b hl => by simp at hl⟩
    cases hl
    simp at he
    rcases he with rfl | rfl | rfl <;> simp
  · refine ⟨_, ss2, spo4 p q f ss ss1 ss2 e1 e2, hs2, by simp, fun l hl e he => ?_, fun a b hl => by simp at hl⟩
    cases hl
    simp at he
    rw [he]; simp
  · obtain ⟨x, ss3, e3, hs3, x1, x2⟩ := odd_eq ss2 hs2
    refine ⟨_, ss3, spo5 p q f x ss ss1 ss2 ss3 e1 e2 e3, hs3, by simp, fun l hl e he => ?_, fun a b hl => ?_⟩
    · cases hl
      simp at he
      rcases he with rfl | rfl
      · exact x1
      · simp
    · simp at hl; exact absurd hl.1 (x2 a)
  · obtain ⟨x, ss3, e3, hs3, x1, x2⟩ := odd_eq ss2 hs2
    refine ⟨_, ss3, spo6 p q f x ss ss1 ss2 ss3 e1 e2 e3, hs3, by simp, fun l hl e he => ?_, fun a b hl => ?_⟩
    · cases hl
      simp at he
      rcases he with rfl | rfl
      · simp
      · exact x1
    · simp at hl; exact absurd hl.2 (x2 b)
  · exact ⟨_, ss2, spo7 p q f ss ss1 ss2 e1 e2, hs2, VOk.fr (((h.bp).add bf).mono (by decide)) bq⟩
/-! ### judged -/
theorem judge_step (one x : D) (dd : D) (x2 x3 : Option TD.Slot) (ss ss1 : SS) (e1 : m__law_spoilt [.src, one] ss = .ok x ss1) (b : Bool) (e2 : m_is_share [x] ss1 = .ok (.bl b) ss1) (e3 : m__law_is_share [x] ss1 = .ok (.bl b) ss1) (k : W → RS) :
    oS (g__law_judged_right_0 dd ⟨[some (.val .src), some (.val one), x2, x3], ss⟩) (fun w => (b__law_judged_right_0 w).loop k) = k ⟨[some (.val .src), some (.val one), some (.val dd), some (.val x)], ss1⟩ := by
  have s := said_eq b b ss1
  rw [show (b == b) = true by simp] at s
  simp [g__law_judged_right_0, b__law_judged_right_0, e1, e2, e3, s]
theorem judge_go (p q : Int) (h : Sh 200 p q) : ∀ (ds : List D) (x2 x3 : Option TD.Slot) (ss : SS), SsOk ss → ∃ y2 y3 ss', sForGo g__law_judged_right_0 b__law_judged_right_0 ds ⟨[some (.val .src), some (.val (fr p q)), x2, x3], ss⟩ = .nx ⟨[some (.val .src), some (.val (fr p q)), y2, y3], ss'⟩ ∧ SsOk ss'
  | [], x2, x3, ss, hs => ⟨x2, x3, ss, rfl, hs⟩
  | dd :: ds, x2, x3, ss, hs => by
    obtain ⟨x, ss1, e1, hs1, hv⟩ := spoilt_eq p q h ss hs
    obtain ⟨y2, y3, ss', e, hs'⟩ := judge_go p q h ds (some (.val dd)) (some (.val x)) ss1 hs1
    exact ⟨y2, y3, ss', by rw [sForGo_cons, judge_step (fr p q) x dd x2 x3 ss ss1 e1 _ (is_share_eq x hv ss1) (law_is_share_eq x hv ss1)]; exact e, hs'⟩
theorem fixed_step (one x : D) (x2 x3 : Option TD.Slot) (ss : SS) (e : m_is_share [x] ss = .ok (.bl false) ss) (k : W → RS) : oS (g__law_judged_right_1 x ⟨[some (.val .src), some (.val one), x2, x3], ss⟩) (fun w => (b__law_judged_right_1 w).loop k) = k ⟨[some (.val .src), some (.val one), x2, some (.val x)], ss⟩ := by
  simp [g__law_judged_right_1, b__law_judged_right_1, e, gIsNot]
theorem fixed_go (one : D) (x2 : Option TD.Slot) (ss : SS) : ∀ (ds : List D) (x3 : Option TD.Slot), (∀ d ∈ ds, VOk d ∧ isSh d = false) → ∃ y3, sForGo g__law_judged_right_1 b__law_judged_right_1 ds ⟨[some (.val .src), some (.val one), x2, x3], ss⟩ = .nx ⟨[some (.val .src), some (.val one), x2, y3], ss⟩
  | [], x3, _ => ⟨x3, rfl⟩
  | d :: ds, x3, h => by
    obtain ⟨h1, h2⟩ := h d (List.mem_cons_self ..)
    obtain ⟨y3, e⟩ := fixed_go one x2 ss ds (some (.val d)) fun x hx => h x (List.mem_cons_of_mem _ hx)
    have i := is_share_eq d h1 ss
    rw [h2] at i
    exact ⟨y3, by rw [sForGo_cons, fixed_step one d x2 x3 ss i]; exact e⟩
theorem judged_run (p q : Int) (y2 y3 z3 : Option TD.Slot) (ss ss1 : SS) (e1 : m_is_share [fr p q] ss = .ok (.bl true) ss) (e2 : sForGo g__law_judged_right_0 b__law_judged_right_0 (rngD 0 6) ⟨[some (.val .src), some (.val (fr p q)), none, none], ss⟩ = .nx ⟨[some (.val .src), some (.val (fr p q)), y2, y3], ss1⟩)
    (e3 : sForGo g__law_judged_right_1 b__law_judged_right_1 [.non, .str "", .str "01", .int 1, .tup [], .lst [.int p, .int q], .tup [fr p q, fr p q]] ⟨[some (.val .src), some (.val (fr p q)), y2, y3], ss1⟩ = .nx ⟨[some (.val .src), some (.val (fr p q)), y2, z3], ss1⟩) : m__law_judged_right [.src, fr p q] ss = .ok (.bl true) ss1 := by
  simp [m__law_judged_right, e__law_judged_right, e1, gIsNot, e2, e3]
theorem judged_eq (p q : Int) (h : Sh 200 p q) (ss : SS) (hs : SsOk ss) : ∃ ss', m__law_judged_right [.src, fr p q] ss = .ok (.bl true) ss' ∧ SsOk ss' := by
  have i := is_share_eq (fr p q) (VOk.fr (h.bp.mono (by decide)) (h.bq.mono (by decide))) ss
  rw [h.is] at i
  obtain ⟨y2, y3, ss1, e2, hs1⟩ := judge_go p q h (rngD 0 6) none none ss hs
  obtain ⟨z3, e3⟩ := fixed_go (fr p q) y2 ss1 [.non, .str "", .str "01", .int 1, .tup [], .lst [.int p, .int q], .tup [fr p q, fr p q]] y3 (by
    intro d hd
    simp only [List.mem_cons, List.not_mem_nil, or_false] at hd
    rcases hd with rfl | rfl | rfl | rfl | rfl | rfl | rfl
    · exact ⟨⟨by simp, fun l hl => by simp at hl, fun a b hl => by simp at hl⟩, rfl⟩
    · exact ⟨⟨by simp, fun l hl => by simp at hl, fun a b hl => by simp at hl⟩, rfl⟩
    · exact ⟨⟨by simp, fun l hl => by simp at hl, fun a b hl => by simp at hl⟩, rfl⟩
    · exact ⟨⟨by simp, fun l hl => by simp at hl, fun a b hl => by simp at hl⟩, rfl⟩
    · exact ⟨⟨by simp, fun l hl e he => by simp at hl; subst hl; simp at he, fun a b hl => by simp at hl⟩, rfl⟩
    · exact ⟨⟨by simp, fun l hl => by simp at hl, fun a b hl => by simp at hl⟩, rfl⟩
    · exact ⟨⟨by simp, fun l hl e he => by simp at hl; subst hl; simp at he; rw [he]; simp, fun a b hl => by simp at hl⟩, rfl⟩)
  exact ⟨ss1, judged_run p q y2 y3 z3 ss ss1 i e2 e3, hs1⟩
theorem fixed_eq (ss : SS) : m__law_fixed_right [] ss = .ok (.bl true) ss := by
  have b0 : B 9000 0 := (show B 1 0 from by unfold B; decide).mono (by decide)
  have b1 : B 9000 1 := (show B 2 1 from by unfold B; decide).mono (by decide)
  have s0 := law_is_share_eq (fr 0 1) (VOk.fr b0 b1) ss
  have s1 := law_is_share_eq (fr 1 1) (VOk.fr b1 b1) ss
  rw [show isSh (fr 0 1) = true by decide] at s0
  rw [show isSh (fr 1 1) = true by decide] at s1
  simp [m__law_fixed_right, e__law_fixed_right, sForGo_cons, g__law_fixed_right_0, b__law_fixed_right_0, s0, s1]
/-! ### the law -/
theorem turn_step (n d : Int) (dd one other : D) (x3 x4 x5 x6 x2 : Option TD.Slot) (ss ss1 ss2 ss3 ss4 : SS) (e1 : m__law_fraction [.src] ss = .ok (fr n d) ss1) (e2 : m__law_lowest [.int n, .int d] ss1 = .ok one ss1) (e3 : m__law_mate [.src, one] ss1 = .ok other ss2)
    (p1 : m__law_pair_right [one, other] ss2 = .ok (.bl true) ss2) (p2 : m__law_pair_right [other, one] ss2 = .ok (.bl true) ss2) (c1 : m__law_ceiling_right [one] ss2 = .ok (.bl true) ss2) (c2 : m__law_ceiling_right [other] ss2 = .ok (.bl true) ss2)
    (j1 : m__law_judged_right [.src, one] ss2 = .ok (.bl true) ss3) (j2 : m__law_judged_right [.src, other] ss3 = .ok (.bl true) ss4) (k : W → RS) :
    oS (g_law_0 dd ⟨[none, some (.val .src), x2, x3, x4, x5, x6], ss⟩) (fun w => (b_law_0 w).loop k) = k ⟨[none, some (.val .src), some (.val dd), some (.val (.int n)), some (.val (.int d)), some (.val one), some (.val other)], ss4⟩ := by
  simp [g_law_0, b_law_0, e1, e2, e3, p1, p2, c1, c2, j1, j2]
theorem turns_go : ∀ (ds : List D) (x2 x3 x4 x5 x6 : Option TD.Slot) (ss : SS), SsOk ss → ∃ y2 y3 y4 y5 y6 ss', sForGo g_law_0 b_law_0 ds ⟨[none, some (.val .src), x2, x3, x4, x5, x6], ss⟩ = .nx ⟨[none, some (.val .src), y2, y3, y4, y5, y6], ss'⟩ ∧ SsOk ss'
  | [], x2, x3, x4, x5, x6, ss, hs => ⟨x2, x3, x4, x5, x6, ss, rfl, hs⟩
  | dd :: ds, x2, x3, x4, x5, x6, ss, hs => by
    obtain ⟨n, d, ss1, e1, hs1, d0, bn, bd⟩ := fraction_eq ss hs
    obtain ⟨p, q, e2, l⟩ := lowest_eq n d d0 (bn.mono (by decide)) (bd.mono (by decide)) ss1
    have sh := l.sh bn bd
    obtain ⟨p', q', ss2, e3, hs2, sh2⟩ := mate_eq p q sh ss1 hs1
    have sh1 := sh.mono (show 140 ≤ 200 by decide)
    obtain ⟨ss3, j1, hs3⟩ := judged_eq p q sh1 ss2 hs2
    obtain ⟨ss4, j2, hs4⟩ := judged_eq p' q' sh2 ss3 hs3
    obtain ⟨y2, y3, y4, y5, y6, ss', e, hs'⟩ := turns_go ds (some (.val dd)) (some (.val (.int n))) (some (.val (.int d))) (some (.val (fr p q))) (some (.val (fr p' q'))) ss4 hs4
    exact ⟨y2, y3, y4, y5, y6, ss', by rw [sForGo_cons, turn_step n d dd (fr p q) (fr p' q') x3 x4 x5 x6 x2 ss ss1 ss2 ss3 ss4 e1 e2 e3 (pair_eq p q p' q' sh1 sh2 ss2) (pair_eq p' q' p q sh2 sh1 ss2) (ceil_eq p q sh1 ss2) (ceil_eq p' q' sh2 ss2) j1 j2]; exact e, hs'⟩
theorem law_run (y2 y3 y4 y5 y6 : Option TD.Slot) (ss ss1 ss2 ss3 ss4 : SS) (e0 : m__law_fixed_right [] ss = .ok (.bl true) ss) (e1 : m__law_made_right [.src] ss = .ok (.bl true) ss1) (e2 : m__law_total_right [.src] ss1 = .ok (.bl true) ss2)
    (e3 : sForGo g_law_0 b_law_0 (rngD 0 3) ⟨[none, some (.val .src), none, none, none, none, none], ss2⟩ = .nx ⟨[none, some (.val .src), y2, y3, y4, y5, y6], ss3⟩) (e4 : m__law_made_right [.src] ss3 = .ok (.bl true) ss4) :
    e_law ⟨[none, some (.val .src), none, none, none, none, none], ss⟩ = .ret (.bl true) ⟨[none, some (.val .src), y2, y3, y4, y5, y6], ss4⟩ := by
  simp [e_law, e0, e1, e2, e3, e4]
theorem law_true : LawTrue := by
  intro cells ne nn
  have hs0 : SsOk ⟨cells, 0, 0⟩ := ⟨ne, nn, Int.le_refl _, Int.le_refl _⟩
  obtain ⟨ss1, e1, hs1⟩ := made_eq _ hs0
  obtain ⟨ss2, e2, hs2⟩ := total_right_eq ss1 hs1
  obtain ⟨y2, y3, y4, y5, y6, ss3, e3, hs3⟩ := turns_go (rngD 0 3) none none none none none ss2 hs2
  obtain ⟨ss4, e4, hs4⟩ := made_eq ss3 hs3
  exact ⟨_, law_run y2 y3 y4 y5 y6 _ ss1 ss2 ss3 ss4 (fixed_eq _) e1 e2 e3 e4⟩
end K02


set_option Elab.async false
set_option linter.all false
set_option maxRecDepth 100000
set_option maxHeartbeats 4000000
namespace K02
open PySem PySem.Spec PyProof.Rows L2 TD
set_option maxHeartbeats 0
section
variable {P : Program} {w : World} {K : PySem.W.Frag} {mg : Str → Option Value} {base : Heap}
def spSource (K : PySem.W.Frag) : Sp := fun vs H Q _ => ∃ (a : Addr) (ns : List Int), vs = [.ref a] ∧ SqL K H a (ns.map V.int) ∧ ns.length ≤ 63 ∧
  ∀ H' a0 c0 cells, Ex H H' → H' a0 = some (.lst [.ref c0, .int 0, .int 0]) → H' c0 = some (.lst (cells.map V.int)) → a0 ≠ c0 → cells ≠ [] → (∀ c ∈ cells, (0 : Int) ≤ c) → Q (.ref a0) H'
def absI (i : Int) : Int := if i < 0 then -i else i
theorem ok_source {f : Addr} {fd : FuncData} (F : FunD K "_law_source" "_law_source" (defArgs s__law_source) (defBody s__law_source) (defScope s__law_source) [] [] f fd) (mabs : mg "abs" = none) (mint : mg "int" = none) (mlen : mg "len" = none) :
    FnOk P w K mg base (L2.CX P w) 1 f fd ["script"] (spSource K) := by
  have nd := sc__law_source.nd
  refine F.ok sc__law_source (fun vs H Q E h => ?_) (fun cdv A outer s H vs Q E hr h => ?_)
  · obtain ⟨a, ns, rfl, _⟩ := h
    rfl
  obtain ⟨a, ns, rfl, hS, hlen, q⟩ := h
  refine ⟨_, pss_cons (ps_setLc (i := 1) (own := [("cell", 2)]) (g := gName 2) (tt := tYes) rfl nd rfl rfl (sw_true rfl rfl rfl (by decide +kernel)) (pi_list (pe_slice sl_list (pv 0) po_none (po_some pe_int))) (blkOk_by (by kernel_rfl)) (fun _ _ _ _ _ => pg_name (i := 2) nd rfl (Or.inl rfl)) (fun _ _ _ _ _ => pts_nil)
      (fun _ _ _ _ _ => pe_callB call_abs (by rfl) mabs (by decide +kernel) (pa_cons (pe_callTy call_int1 (by rfl) mint (by decide +kernel) (pa_cons (pv 2) pa_nil)) pa_nil)))
    (pss_cons (ps_if (pt_cmpR op_eq (pe_callB call_len_seq (by rfl) mlen PySem.boot_len (pa_cons (pv 1) pa_nil)) pe_int (nomark _)) (pss_one (ps_set (i := 1) nd rfl (.inl rfl) (pe_lst (pa_cons pe_int pa_nil)))) pss_nil)
      (pss_one (ps_ret (pe_lst (pa_cons (pv 1) (pa_cons pe_int (pa_cons pe_int pa_nil))))))), ?_⟩
  -- script[:63]
  refine ⟨.ref a, rfl, 63, rfl, a, ns.map V.int, rfl, hS, fun p hp => ?_⟩
  have hcut : cutV (ns.map V.int) none (some 63) = ns.map V.int := by
    unfold cutV
    rw [show HT.sIx (ns.map V.int).length (ns.map V.int).length (some 63) = min 63 (ns.map V.int).length from HT.sIx_nat _ _ 63, HT.sIx_none, List.length_map, List.drop_zero, Nat.sub_zero]
    exact List.take_of_length_le (by rw [List.length_map]; omega)
  rw [hcut]
  have ex1 : Ex H (upd H p (.lst (ns.map V.int))) := Ex.new hp
  have hP : SqL K (upd H p (.lst (ns.map V.int))) p (ns.map V.int) := .inl (.inl upd_same)
  refine ⟨p, rfl, ⟨_, hP⟩, fun Dl hD => ?_⟩
  have tail : ∀ (c0 : Addr) (cells : List Int) (H' : Hp), Ex H H' → H' c0 = some (.lst (cells.map V.int)) → (∀ c ∈ cells, (0 : Int) ≤ c) → cells ≠ [] →
      ∀ σ : L2.St, σ[1]? = some (some (.ref c0)) → tRet (tLst (tCons (tVar 1) (tCons (tC (.int 0)) (tCons (tC (.int 0)) tNil)))) { nx := fun _ H' => Q .non H', rt := Q } σ H' := by
    intro c0 cells H' e h nn ne σ hσ
    refine ⟨.ref c0, hσ, by show 3 ≤ sizeLine; rw [sizeLine_eq]; decide, fun a0 ha => ?_⟩
    have ne2 : c0 ≠ a0 := ne_of_none h ha
    exact q _ a0 c0 cells (e.trans (Ex.new ha)) upd_same (by rw [upd_ne ne2]; exact h) ne2.symm ne nn
  refine lc_list (K := K) (xs := ns.map V.int) (a := p) (fun i H' => Ex (upd H p (.lst (ns.map V.int))) H' ∧ H' Dl = some (.lst (((ns.take i).map absI).map V.int))) ⟨Ex.new hD, upd_same⟩ (fun i H' _ h => .inl (.inl (h.1 _ _ upd_same))) (fun i x H' hx h => ?_) (fun H' h => ?_)
  · obtain ⟨h1, h2⟩ := h
    have hi : i < ns.length := by
      have := (List.getElem?_eq_some_iff.mp hx).1
      simpa using this
    have ex : x = .int ns[i] := by
      rw [List.getElem?_map, List.getElem?_eq_getElem hi] at hx
      exact (Option.some.inj hx).symm
    subst ex
    refine ⟨rfl, .int ns[i], rfl, .inl ⟨_, rfl, _, rfl, _, h2, ?_, ?_, ?_⟩⟩
    · rw [List.length_map, List.length_map, List.length_take]
      exact line_lt (by omega)
    · intro b o e
      have : b ≠ Dl := fun z => by subst z; rw [hD] at e; cases e
      rw [upd_ne this]
      exact h1 b o e
    · rw [upd_same, show ns.take (i + 1) = ns.take i ++ [ns[i]] by rw [List.take_add_one, List.getElem?_eq_getElem hi]; rfl, List.map_append, List.map_append]
      rfl
  · obtain ⟨h1, h2⟩ := h
    have hl : (ns.map V.int).length = ns.length := List.length_map ..
    rw [hl, List.take_length] at h2
    have nn : ∀ c ∈ ns.map absI, (0 : Int) ≤ c := fun c hc => by
      obtain ⟨z, _, rfl⟩ := List.mem_map.mp hc
      unfold absI
      split <;> omega
    refine ⟨.ref Dl, rfl, Dl, _, rfl, .inl (.inl (.inl h2)), rfl, _, rfl, ite2 (fun e => ?_) (fun e => ?_)⟩
    · refine ⟨by show 1 ≤ sizeLine; rw [sizeLine_eq]; decide, fun c hc => ?_⟩
      exact tail c [0] _ ((ex1.trans h1).trans (Ex.new hc)) upd_same (fun z hz => by simp at hz; omega) (by simp) _ rfl
    · refine tail Dl _ H' (ex1.trans h1) h2 nn (fun z => e ?_) _ rfl
      have z' : ns = [] := List.map_eq_nil_iff.mp z
      subst z'
      rfl

end
/-! ### the law -/
section
variable {P : Program} {w : World} {K : PySem.W.Frag} {mg : Str → Option Value} {base : Heap}
def spLaw (K : PySem.W.Frag) : Sp := fun vs H Q _ => ∃ (a : Addr) (ns : List Int), vs = [.ref a] ∧ SqL K H a (ns.map V.int) ∧ ns.length ≤ 63 ∧ ∀ H', Q (.bl true) H'
theorem ok_law (T : Txt P K mg) (hl : LawTrue) {f : Addr} {fd : FuncData} (F : FunD K "law" "law" (defArgs s_law) (defBody s_law) (defScope s_law) [] [] f fd) : FnOk P w K mg base (L2.CX P w) 7 f fd ["script"] (spLaw K) := by
  obtain ⟨fS, fdS, FS, gS⟩ := T.f__law_source
  have GS : FnOk P w K mg base (L2.CX P w) 1 fS fdS ["script"] (spSource K) := ok_source FS T.b_abs T.b_int T.b_len
  have bS : Binds K fdS ["script"] [] := FS.bindsN fun _ _ _ _ _ _ us hl => match us, hl with | [_], _ => rfl
  have nd := sc_law.nd
  refine F.ok sc_law (fun vs H Q E h => ?_) (fun cdv A outer s H vs Q E hr h => ?_)
  · obtain ⟨a, ns, rfl, _⟩ := h
    rfl
  obtain ⟨a, ns, rfl, hS, hlen, q⟩ := h
  refine ⟨_, pss_cons (ps_set (i := 1) nd rfl (by first | exact Or.inl rfl | exact Or.inr rfl) (pe_call GS (hr.mono (by decide)) (by rfl) gS FS.kp bS .nil passL (pa_cons (pv 0) pa_nil))) pss_wss, ?_⟩
  refine ⟨.ref a, rfl, a, ns, rfl, hS, hlen, fun H1 a0 c0 cells ex h1 h2 ne nn ng => ?_⟩
  have hF : Ex (upd (fun _ => none) c0 (.lst (cells.map V.int))) H1 := fun b o e => by
    by_cases hb : b = c0
    · subst hb; rw [upd_same] at e; cases e; exact h2
    · rw [upd_ne hb] at e; cases e
  have hR : Rel K ⟨a0, c0, H1, upd (fun _ => none) c0 (.lst (cells.map V.int)), 0, 0, "", 0⟩ [] (some (.ref a) :: some (.ref a0) :: List.replicate 5 none) H1 (upd (fun _ => none) c0 (.lst (cells.map V.int))) ⟨envL, ⟨cells, 0, 0⟩⟩ := by
    refine ⟨Ex.refl _, hF, fun _ _ _ h => h, fun _ _ h => .inl h, ⟨by show upd _ c0 _ a0 = none; rw [upd_ne ne], h1, upd_same, nn, ng, Int.le_refl _, Int.le_refl _⟩, by simp [envL], fun i s h => ?_, fun i j xs ys p h => ?_, (fun q hq => nomatch hq), List.nodup_nil, (fun q hq => nomatch hq)⟩
    · match i, h with
      | 0, h => cases h
      | 1, h => cases h; exact ⟨_, rfl, .src⟩
      | i + 2, h =>
        have := List.mem_of_getElem? (show (List.replicate 5 (none : Option Slot))[i]? = some (some s) from h)
        rw [List.mem_replicate] at this
        cases this.2
    · match i, h with
      | 0, h => cases h
      | 1, h => cases h
      | i + 2, h =>
        have := List.mem_of_getElem? (show (List.replicate 5 (none : Option Slot))[i]? = some (some (.own xs)) from h)
        rw [List.mem_replicate] at this
        cases this.2
  obtain ⟨w', hw⟩ := hl cells nn ng
  refine (w_law (f := f) (cdv := cdv) (E := E) T hr).run [] _ H1 _ _ _ hR ?_
  rw [hw]
  intro v σ' H' F' _ _ rv
  cases rv
  exact q H'
end
/-! ### the head -/
theorem cx_none {P : Program} {w : World} {H : Hp} {s : Shared} {e : Value} {s' : Shared} (h : L2.CX P w [] H s (fun _ _ _ => False) e s') : False := by
  obtain ⟨_, _, _, _, _, _, _, _, _, _, _, _, z⟩ := h
  exact z
/-- HeadEnd's, what may be let out hanging on the world -/
theorem walk_ofW {l : PySem.W.OpenLaw} {n k : Nat} {q : Program} {loose : List Str} {XP : (Str → Option Value) → Heap → Prop} {YP : World → Heap → Prop} {d : DefRec} {CX : World → CXT} {x : Str}
    (hn : l.most = some n) (hn2 : n ≤ sizeLine) (hdf : d.params.defaults = []) (hr : Room k callerA)
    (F : ∀ (w : World) (mg : Str → Option Value) (fa : Addr) (h : Heap), YP w h → h.Ns mainGlobals mg → mg d.name = some (.ref fa) →
      ∃ (K : PySem.W.Frag) (fd : FuncData) (sp : Sp), K.In h ∧ (∀ (s : Shared) (u : Value), BindsTo s fd ⟨[u], []⟩ [(x, u)]) ∧
        (∀ (H : Hp) (a : Addr) (ns : List Int), ns.length ≤ n → Only H → SqL K H a (ns.map V.int) → sp [.ref a] H (fun v _ => v = .bl true) fun _ _ _ => False) ∧
        ∀ base : Heap, K.In base → base.Ns mainGlobals mg → FnOk l.prog w K mg base (CX w) k fa fd [x] sp)
    (hCX : ∀ (w : World) (H : Hp) (s : Shared) (e : Value) (s' : Shared), CX w [] H s (fun _ _ _ => False) e s' → False) :
    PySem.W.WalkO q loose XP YP l.row.toRowW d [] (fun f vs => PySem.call f vs) := by
  refine Att.attach_call hn hdf fun w s₀ s₁ mg mb fa o pm cd doc a vs ns G Y ho hd hcd hmg hobj hints hlen hg => ?_
  obtain ⟨K, fd, sp, KX, hb, hsp, hF⟩ := F w mg fa _ Y G.T.g hmg
  exact law_call KX G.T.g G.T.b G.T.builtins G.T.nolimit hg hobj hints (Nat.le_trans hlen hn2) hr hF hb (fun H hO hS => hsp H a ns hlen hO hS) fun H e s' => hCX w H s₁ e s'
abbrev R0 : PySem.W.OpenRow := PySem.W.OpenLaw.row PySem.Challenge.rw_talkgrowth_k02_shares
def d_common : He.DefD := ⟨("common", none), "common", "common", defArgs s_common, defBody s_common, defScope s_common, [], []⟩
def d_share : He.DefD := ⟨("share", none), "share", "share", defArgs s_share, defBody s_share, defScope s_share, [], []⟩
def d_plus : He.DefD := ⟨("plus", none), "plus", "plus", defArgs s_plus, defBody s_plus, defScope s_plus, [], []⟩
def d_minus : He.DefD := ⟨("minus", none), "minus", "minus", defArgs s_minus, defBody s_minus, defScope s_minus, [], []⟩
def d_multiplied : He.DefD := ⟨("multiplied", none), "multiplied", "multiplied", defArgs s_multiplied, defBody s_multiplied, defScope s_multiplied, [], []⟩
def d_divided : He.DefD := ⟨("divided", none), "divided", "divided", defArgs s_divided, defBody s_divided, defScope s_divided, [], []⟩
def d_below : He.DefD := ⟨("below", none), "below", "below", defArgs s_below, defBody s_below, defScope s_below, [], []⟩
def d_total : He.DefD := ⟨("total", none), "total", "total", defArgs s_total, defBody s_total, defScope s_total, [], []⟩
def d_ceiling : He.DefD := ⟨("ceiling", none), "ceiling", "ceiling", defArgs s_ceiling, defBody s_ceiling, defScope s_ceiling, [], []⟩
def d_is_share : He.DefD := ⟨("is_share", none), "is_share", "is_share", defArgs s_is_share, defBody s_is_share, defScope s_is_share, [], []⟩
def d__law_source : He.DefD := ⟨("_law_source", none), "_law_source", "_law_source", defArgs s__law_source, defBody s__law_source, defScope s__law_source, [], []⟩
def d__law_pick : He.DefD := ⟨("_law_pick", none), "_law_pick", "_law_pick", defArgs s__law_pick, defBody s__law_pick, defScope s__law_pick, [], []⟩
def d__law_is_int : He.DefD := ⟨("_law_is_int", none), "_law_is_int", "_law_is_int", defArgs s__law_is_int, defBody s__law_is_int, defScope s__law_is_int, [], []⟩
def d__law_is_share : He.DefD := ⟨("_law_is_share", none), "_law_is_share", "_law_is_share", defArgs s__law_is_share, defBody s__law_is_share, defScope s__law_is_share, [], []⟩
def d__law_said : He.DefD := ⟨("_law_said", none), "_law_said", "_law_said", defArgs s__law_said, defBody s__law_said, defScope s__law_said, [], []⟩
def d__law_lowest : He.DefD := ⟨("_law_lowest", none), "_law_lowest", "_law_lowest", defArgs s__law_lowest, defBody s__law_lowest, defScope s__law_lowest, [], []⟩
def d__law_stands : He.DefD := ⟨("_law_stands", none), "_law_stands", "_law_stands", defArgs s__law_stands, defBody s__law_stands, defScope s__law_stands, [], []⟩
def d__law_integer : He.DefD := ⟨("_law_integer", none), "_law_integer", "_law_integer", defArgs s__law_integer, defBody s__law_integer, defScope s__law_integer, [], []⟩
def d__law_fraction : He.DefD := ⟨("_law_fraction", none), "_law_fraction", "_law_fraction", defArgs s__law_fraction, defBody s__law_fraction, defScope s__law_fraction, [], []⟩
def d__law_mate : He.DefD := ⟨("_law_mate", none), "_law_mate", "_law_mate", defArgs s__law_mate, defBody s__law_mate, defScope s__law_mate, [], []⟩
def d__law_refused : He.DefD := ⟨("_law_refused", none), "_law_refused", "_law_refused", defArgs s__law_refused, defBody s__law_refused, defScope s__law_refused, [], []⟩
def d__law_made_right : He.DefD := ⟨("_law_made_right", none), "_law_made_right", "_law_made_right", defArgs s__law_made_right, defBody s__law_made_right, defScope s__law_made_right, [], []⟩
def d__law_pair_right : He.DefD := ⟨("_law_pair_right", none), "_law_pair_right", "_law_pair_right", defArgs s__law_pair_right, defBody s__law_pair_right, defScope s__law_pair_right, [], []⟩
def d__law_ceiling_right : He.DefD := ⟨("_law_ceiling_right", none), "_law_ceiling_right", "_law_ceiling_right", defArgs s__law_ceiling_right, defBody s__law_ceiling_right, defScope s__law_ceiling_right, [], []⟩
def d__law_total_right : He.DefD := ⟨("_law_total_right", none), "_law_total_right", "_law_total_right", defArgs s__law_total_right, defBody s__law_total_right, defScope s__law_total_right, [], []⟩
def d__law_odd : He.DefD := ⟨("_law_odd", none), "_law_odd", "_law_odd", defArgs s__law_odd, defBody s__law_odd, defScope s__law_odd, [], []⟩
def d__law_spoilt : He.DefD := ⟨("_law_spoilt", none), "_law_spoilt", "_law_spoilt", defArgs s__law_spoilt, defBody s__law_spoilt, defScope s__law_spoilt, [], []⟩
def d__law_judged_right : He.DefD := ⟨("_law_judged_right", none), "_law_judged_right", "_law_judged_right", defArgs s__law_judged_right, defBody s__law_judged_right, defScope s__law_judged_right, [], []⟩
def d__law_fixed_right : He.DefD := ⟨("_law_fixed_right", none), "_law_fixed_right", "_law_fixed_right", defArgs s__law_fixed_right, defBody s__law_fixed_right, defScope s__law_fixed_right, [], []⟩
def d_law : He.DefD := ⟨("law", none), "law", "law", defArgs s_law, defBody s_law, defScope s_law, [], []⟩
def i_BadValue : Stmt := (clsBody (top 3)).getD 0 (.Pass ⟨0, 0, 0, 0⟩)
def er_BadValue : ErrD := ⟨"BadValue", "BadValue.__init__", "what", defArgs i_BadValue, defBody i_BadValue, defScope i_BadValue⟩
theorem ew_BadValue : ErrW R0.prog R0.prog.main.file er_BadValue "an argument is not right" (argAt (defArgs i_BadValue) 0) (argAt (defArgs i_BadValue) 1) (zOf (defBody i_BadValue)) := ⟨by kernel_rfl, by kernel_rfl, by kernel_rfl, by kernel_rfl, NdefX.nscope_by (by decide +kernel), by decide +kernel, by kernel_rfl, rfl, by kernel_rfl, fun _ _ _ => ⟨fun _ _ _ _ _ _ => by kernel_rfl, fun _ => by kernel_rfl, fun _ => by kernel_rfl, fun _ => ⟨_, rfl⟩⟩⟩
def fn : List He.DefD := ([d_common, d_share, d_plus, d_minus, d_multiplied, d_divided, d_below, d_total, d_ceiling, d_is_share, d__law_source, d__law_pick, d__law_is_int, d__law_is_share, d__law_said, d__law_lowest, d__law_stands, d__law_integer, d__law_fraction, d__law_mate, d__law_refused, d__law_made_right, d__law_pair_right, d__law_ceiling_right, d__law_total_right, d__law_odd, d__law_spoilt, d__law_judged_right, d__law_fixed_right, d_law] : List He.DefD)
def fa : List He.Fa := ([.glo "common", .glo "share", .glo "plus", .glo "minus", .glo "multiplied", .glo "divided", .glo "below", .glo "total", .glo "ceiling", .glo "is_share", .glo "_law_source", .glo "_law_pick", .glo "_law_is_int", .glo "_law_is_share", .glo "_law_said", .glo "_law_lowest", .glo "_law_stands", .glo "_law_integer", .glo "_law_fraction", .glo "_law_mate", .glo "_law_refused", .glo "_law_made_right", .glo "_law_pair_right", .glo "_law_ceiling_right", .glo "_law_total_right", .glo "_law_odd", .glo "_law_spoilt", .glo "_law_judged_right", .glo "_law_fixed_right", .glo "law"] : List He.Fa) ++ ([.free "abs", .free "bool", .free "int", .free "isinstance", .free "len", .free "list", .free "range", .free "tuple", .free "super"] : List He.Fa)
def tyB (y : Str) : Option String := if y = "ValueError" then some "ValueError" else none
def er : List ErrD := [er_BadValue]
def ck (K : PySem.W.Frag) : Bool := ckAll [kstB K "NOTHING" (.tup [(.int 0), (.int 1)]), kstB K "WHOLE" (.tup [(.int 1), (.int 1)])]
abbrev hk : PySem.W.Hook := hookX 4 fa fn R0.prog.main.file tyB hx er ck
def ob (s : PySem.W.SharedT) : AlX := obsXG 4 fa fn R0.prog.main.file tyB hx er ck (HandSHeadRun.getT s)
theorem ob_eq (s : PySem.W.SharedT) : ob s = hk.obs s.abs := obsXG_eq (HandSHeadRun.getT_eq s)
def names : List Str := (["TalkError", "BadText", "BadValue", "TooMany", "Unlike", "Unknown", "BadPaper", "NOTHING", "WHOLE", "common", "share", "plus", "minus", "multiplied", "divided", "below", "total", "ceiling", "is_share", "_law_source", "_law_pick", "_law_is_int", "_law_is_share", "_law_said", "_law_lowest", "_law_stands", "_law_integer", "_law_fraction", "_law_mate", "_law_refused"] : List Str) ++ (["_law_made_right", "_law_pair_right", "_law_ceiling_right", "_law_total_right", "_law_odd", "_law_spoilt", "_law_judged_right", "_law_fixed_right"] : List Str)
theorem run (w : World) : HandSHeadRun.RunEq R0 (PySem.W.view R0.prog [41]) hk ob 4000 names w := by
  intro os
  kernel_rfl
theorem txt {K : PySem.W.Frag} {h : Heap} {mg : Str → Option Value} (X : K.In h) (G : h.Ns mainGlobals mg) (c : obsX fa fn R0.prog.main.file tyB hx er ck K = valX fn er) : Txt R0.prog K mg where
  f_common := by
    obtain ⟨fd, F⟩ := (saysX_d c).def_ 0 (d := d_common) rfl
    exact ⟨_, fd, F, He.glo_ok X G ((saysX_d c).fact 0 (f := .glo "common") rfl)⟩
  f_share := by
    obtain ⟨fd, F⟩ := (saysX_d c).def_ 1 (d := d_share) rfl
    exact ⟨_, fd, F, He.glo_ok X G ((saysX_d c).fact 1 (f := .glo "share") rfl)⟩
  f_plus := by
    obtain ⟨fd, F⟩ := (saysX_d c).def_ 2 (d := d_plus) rfl
    exact ⟨_, fd, F, He.glo_ok X G ((saysX_d c).fact 2 (f := .glo "plus") rfl)⟩
  f_minus := by
    obtain ⟨fd, F⟩ := (saysX_d c).def_ 3 (d := d_minus) rfl
    exact ⟨_, fd, F, He.glo_ok X G ((saysX_d c).fact 3 (f := .glo "minus") rfl)⟩
  f_multiplied := by
    obtain ⟨fd, F⟩ := (saysX_d c).def_ 4 (d := d_multiplied) rfl
    exact ⟨_, fd, F, He.glo_ok X G ((saysX_d c).fact 4 (f := .glo "multiplied") rfl)⟩
  f_divided := by
    obtain ⟨fd, F⟩ := (saysX_d c).def_ 5 (d := d_divided) rfl
    exact ⟨_, fd, F, He.glo_ok X G ((saysX_d c).fact 5 (f := .glo "divided") rfl)⟩
  f_below := by
    obtain ⟨fd, F⟩ := (saysX_d c).def_ 6 (d := d_below) rfl
    exact ⟨_, fd, F, He.glo_ok X G ((saysX_d c).fact 6 (f := .glo "below") rfl)⟩
  f_total := by
    obtain ⟨fd, F⟩ := (saysX_d c).def_ 7 (d := d_total) rfl
    exact ⟨_, fd, F, He.glo_ok X G ((saysX_d c).fact 7 (f := .glo "total") rfl)⟩
  f_ceiling := by
    obtain ⟨fd, F⟩ := (saysX_d c).def_ 8 (d := d_ceiling) rfl
    exact ⟨_, fd, F, He.glo_ok X G ((saysX_d c).fact 8 (f := .glo "ceiling") rfl)⟩
  f_is_share := by
    obtain ⟨fd, F⟩ := (saysX_d c).def_ 9 (d := d_is_share) rfl
    exact ⟨_, fd, F, He.glo_ok X G ((saysX_d c).fact 9 (f := .glo "is_share") rfl)⟩
  f__law_source := by
    obtain ⟨fd, F⟩ := (saysX_d c).def_ 10 (d := d__law_source) rfl
    exact ⟨_, fd, F, He.glo_ok X G ((saysX_d c).fact 10 (f := .glo "_law_source") rfl)⟩
  f__law_pick := by
    obtain ⟨fd, F⟩ := (saysX_d c).def_ 11 (d := d__law_pick) rfl
    exact ⟨_, fd, F, He.glo_ok X G ((saysX_d c).fact 11 (f := .glo "_law_pick") rfl)⟩
  f__law_is_int := by
    obtain ⟨fd, F⟩ := (saysX_d c).def_ 12 (d := d__law_is_int) rfl
    exact ⟨_, fd, F, He.glo_ok X G ((saysX_d c).fact 12 (f := .glo "_law_is_int") rfl)⟩
  f__law_is_share := by
    obtain ⟨fd, F⟩ := (saysX_d c).def_ 13 (d := d__law_is_share) rfl
    exact ⟨_, fd, F, He.glo_ok X G ((saysX_d c).fact 13 (f := .glo "_law_is_share") rfl)⟩
  f__law_said := by
    obtain ⟨fd, F⟩ := (saysX_d c).def_ 14 (d := d__law_said) rfl
    exact ⟨_, fd, F, He.glo_ok X G ((saysX_d c).fact 14 (f := .glo "_law_said") rfl)⟩
  f__law_lowest := by
    obtain ⟨fd, F⟩ := (saysX_d c).def_ 15 (d := d__law_lowest) rfl
    exact ⟨_, fd, F, He.glo_ok X G ((saysX_d c).fact 15 (f := .glo "_law_lowest") rfl)⟩
  f__law_stands := by
    obtain ⟨fd, F⟩ := (saysX_d c).def_ 16 (d := d__law_stands) rfl
    exact ⟨_, fd, F, He.glo_ok X G ((saysX_d c).fact 16 (f := .glo "_law_stands") rfl)⟩
  f__law_integer := by
    obtain ⟨fd, F⟩ := (saysX_d c).def_ 17 (d := d__law_integer) rfl
    exact ⟨_, fd, F, He.glo_ok X G ((saysX_d c).fact 17 (f := .glo "_law_integer") rfl)⟩
  f__law_fraction := by
    obtain ⟨fd, F⟩ := (saysX_d c).def_ 18 (d := d__law_fraction) rfl
    exact ⟨_, fd, F, He.glo_ok X G ((saysX_d c).fact 18 (f := .glo "_law_fraction") rfl)⟩
  f__law_mate := by
    obtain ⟨fd, F⟩ := (saysX_d c).def_ 19 (d := d__law_mate) rfl
    exact ⟨_, fd, F, He.glo_ok X G ((saysX_d c).fact 19 (f := .glo "_law_mate") rfl)⟩
  f__law_refused := by
    obtain ⟨fd, F⟩ := (saysX_d c).def_ 20 (d := d__law_refused) rfl
    exact ⟨_, fd, F, He.glo_ok X G ((saysX_d c).fact 20 (f := .glo "_law_refused") rfl)⟩
  f__law_made_right := by
    obtain ⟨fd, F⟩ := (saysX_d c).def_ 21 (d := d__law_made_right) rfl
    exact ⟨_, fd, F, He.glo_ok X G ((saysX_d c).fact 21 (f := .glo "_law_made_right") rfl)⟩
  f__law_pair_right := by
    obtain ⟨fd, F⟩ := (saysX_d c).def_ 22 (d := d__law_pair_right) rfl
    exact ⟨_, fd, F, He.glo_ok X G ((saysX_d c).fact 22 (f := .glo "_law_pair_right") rfl)⟩
  f__law_ceiling_right := by
    obtain ⟨fd, F⟩ := (saysX_d c).def_ 23 (d := d__law_ceiling_right) rfl
    exact ⟨_, fd, F, He.glo_ok X G ((saysX_d c).fact 23 (f := .glo "_law_ceiling_right") rfl)⟩
  f__law_total_right := by
    obtain ⟨fd, F⟩ := (saysX_d c).def_ 24 (d := d__law_total_right) rfl
    exact ⟨_, fd, F, He.glo_ok X G ((saysX_d c).fact 24 (f := .glo "_law_total_right") rfl)⟩
  f__law_odd := by
    obtain ⟨fd, F⟩ := (saysX_d c).def_ 25 (d := d__law_odd) rfl
    exact ⟨_, fd, F, He.glo_ok X G ((saysX_d c).fact 25 (f := .glo "_law_odd") rfl)⟩
  f__law_spoilt := by
    obtain ⟨fd, F⟩ := (saysX_d c).def_ 26 (d := d__law_spoilt) rfl
    exact ⟨_, fd, F, He.glo_ok X G ((saysX_d c).fact 26 (f := .glo "_law_spoilt") rfl)⟩
  f__law_judged_right := by
    obtain ⟨fd, F⟩ := (saysX_d c).def_ 27 (d := d__law_judged_right) rfl
    exact ⟨_, fd, F, He.glo_ok X G ((saysX_d c).fact 27 (f := .glo "_law_judged_right") rfl)⟩
  f__law_fixed_right := by
    obtain ⟨fd, F⟩ := (saysX_d c).def_ 28 (d := d__law_fixed_right) rfl
    exact ⟨_, fd, F, He.glo_ok X G ((saysX_d c).fact 28 (f := .glo "_law_fixed_right") rfl)⟩
  f_law := by
    obtain ⟨fd, F⟩ := (saysX_d c).def_ 29 (d := d_law) rfl
    exact ⟨_, fd, F, He.glo_ok X G ((saysX_d c).fact 29 (f := .glo "law") rfl)⟩
  b_abs := He.free_ok X G ((saysX_d c).fact 30 (f := .free "abs") rfl)
  b_bool := He.free_ok X G ((saysX_d c).fact 31 (f := .free "bool") rfl)
  b_int := He.free_ok X G ((saysX_d c).fact 32 (f := .free "int") rfl)
  b_isinstance := He.free_ok X G ((saysX_d c).fact 33 (f := .free "isinstance") rfl)
  b_len := He.free_ok X G ((saysX_d c).fact 34 (f := .free "len") rfl)
  b_list := He.free_ok X G ((saysX_d c).fact 35 (f := .free "list") rfl)
  b_range := He.free_ok X G ((saysX_d c).fact 36 (f := .free "range") rfl)
  b_tuple := He.free_ok X G ((saysX_d c).fact 37 (f := .free "tuple") rfl)
  e_BadValue := fun w base => by
    obtain ⟨h1, h2⟩ := saysX_er c 0 (d := er_BadValue) rfl
    exact err_ok X G h1 h2 (He.free_ok X G ((saysX_d c).fact 38 (f := .free "super") rfl)) ew_BadValue
  x_BadValue := clsK_ok X G (saysX_hx c) rfl ⟨"BadValue", true, by decide +kernel⟩
  x_BadText := clsK_ok X G (saysX_hx c) rfl ⟨"BadValue", false, by decide +kernel⟩
  x_TooMany := clsK_ok X G (saysX_hx c) rfl ⟨"BadValue", false, by decide +kernel⟩
  x_Unlike := clsK_ok X G (saysX_hx c) rfl ⟨"BadValue", false, by decide +kernel⟩
  x_Unknown := clsK_ok X G (saysX_hx c) rfl ⟨"BadValue", false, by decide +kernel⟩
  x_BadPaper := clsK_ok X G (saysX_hx c) rfl ⟨"BadValue", false, by decide +kernel⟩
  x_TalkError := clsK_ok X G (saysX_hx c) rfl ⟨"BadValue", true, by decide +kernel⟩
  x_ValueError := clsB_ok X G (saysX_hx c) rfl ⟨"BadValue", true, by decide +kernel⟩
  t_NOTHING := kst_ok X G (ckAt (saysX_ck c) 0 rfl)
  t_WHOLE := kst_ok X G (ckAt (saysX_ck c) 1 rfl)
theorem facts (hl : LawTrue) {w : World} {K : PySem.W.Frag} {h : Heap} {mg : Str → Option Value} {f : Addr} (X : K.In h) (G : h.Ns mainGlobals mg) (hfa : mg ("law" : Str) = some (.ref f)) (c : obsX fa fn R0.prog.main.file tyB hx er ck K = valX fn er) :
    ∃ fd : FuncData, (∀ (s : Shared) (v : Value), BindsTo s fd ⟨[v], []⟩ [("script", v)]) ∧ ∀ base : Heap, K.In base → base.Ns mainGlobals mg → FnOk R0.prog w K mg base (L2.CX R0.prog w) 7 f fd ["script"] (spLaw K) := by
  have T := txt X G c
  obtain ⟨f2, fd, F, g⟩ := T.f_law
  have e := hfa.symm.trans g
  cases e
  have b := FunD.bindsA (ps := ["script"]) F fun _ _ _ _ _ _ us hl => match us, hl with | [_], _ => rfl
  exact ⟨fd, fun s v => b s [v] rfl, fun base _ _ => ok_law T hl F⟩

end K02

set_option Elab.async false
set_option linter.all false
set_option maxRecDepth 100000
set_option maxHeartbeats 4000000
set_option maxHeartbeats 0
open PySem PySem.W PySem.Calls PyProof.Rows
theorem PySem.Challenge.cw_talkgrowth_k02_shares_holds : PySem.Challenge.rw_talkgrowth_k02_shares.Holds := by
  w_on; o_law
  refine HandSHeadRun.head_any (r := OpenLaw.row PySem.Challenge.rw_talkgrowth_k02_shares) (q := view (OpenLaw.row PySem.Challenge.rw_talkgrowth_k02_shares).prog [41]) (H := K02.hk) (ob := K02.ob) (M := 4000) (loose := K02.names) (d := HandSHeadRun.topDef (OpenLaw.row PySem.Challenge.rw_talkgrowth_k02_shares).prog 41) (kwd := []) K02.ob_eq
    (by kernel_rfl) (fun s => by kernel_rfl) K02.run (by kernel_rfl) (by kernel_rfl) (by kernel_rfl) (by rfl) (by first | assumption | decide +kernel) (by decide +kernel) ⟨rfl, rfl, rfl, rfl, rfl, by decide +kernel⟩ ?hw ?hc
  case hw => w_witness2
  case hc =>
    refine K02.walk_ofW (l := PySem.Challenge.rw_talkgrowth_k02_shares) (n := 63) (k := 7) (x := "script") (CX := fun w => L2.CX (PySem.Challenge.rw_talkgrowth_k02_shares).prog w) rfl (by decide) (by kernel_rfl) ⟨rfl, by decide, by decide⟩ ?F (fun _ _ _ _ _ z => K02.cx_none z)
    intro w mg fa h Y G hmg0
    obtain ⟨K, KX, c⟩ := Y
    have hmg : mg ("law" : PySem.Str) = some (.ref fa) := by
      have e : (HandSHeadRun.topDef (OpenLaw.row PySem.Challenge.rw_talkgrowth_k02_shares).prog 41).name = ("law" : PySem.Str) := by kernel_rfl
      rw [← e]
      exact hmg0
    obtain ⟨fd, hb, hF⟩ := K02.facts K02.law_true (w := w) KX G hmg c
    exact ⟨K, fd, K02.spLaw K, KX, hb, fun H a ns hl _ hS => ⟨a, ns, rfl, hS, hl, fun _ => rfl⟩, hF⟩
