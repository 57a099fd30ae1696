import PyProof.Rows.All
import Wide.All
import OpenK.AllK
import Wide.FinOn
import HandS.ForMost
import HandS.ForExc
import HandS.IsInst
import HandS.Style
import HandS.CallSlots
import HandS.Conv
import HandS.Wide
import HandS.WideBits
import HandS.Zip
import HandS.TupAny
import HandS.SortInts
import HandS.Walk
import HandS.WordsExc
import HandS.Defaults
import HandS.HeadEnd
import KE.KRevSl
import HandS.ExcInit
import HandS.Nested
import KE.KExcSuper
import HandS.ExcField
import HandS.TryOnly
import HandS.TryMany
import KE.KExcIs
import HandS.HeadHook1
import HandS.HeadHook2
import KE.GoesEnum
import KE.GoesMore
import PyProof.EnumMake
import HandS.Text
import HandS.Codes
import PySem.Challenge.RW_talkgrowth_k32_views
import HandS.More
import HandS.Head0
import HandS.Head1
import HandS.Head2
import KE.KStateDown
set_option Elab.async false
set_option linter.all false
set_option maxRecDepth 100000
set_option maxHeartbeats 4000000
/-! TD: plain data over the hand layer -/
namespace TD
open PySem PySem.Spec PyProof.Rows L2

inductive D where
  | non | bl (b : Bool) | int (i : Int) | str (x : Str) | tup (l : List D) | lst (l : List D) | src

mutual
inductive Rp (K : PySem.W.Frag) (a0 : Addr) (F : Hp) : V → D → Prop
  | non : Rp K a0 F .non .non
  | bl (b : Bool) : Rp K a0 F (.bl b) (.bl b)
  | int (i : Int) : Rp K a0 F (.int i) (.int i)
  | str (x : Str) : Rp K a0 F (.str x) (.str x)
  | tup {a : Addr} {vs : List V} {ds : List D} : SqT K F a vs → RpAll K a0 F vs ds → Rp K a0 F (.ref a) (.tup ds)
  | lst {a : Addr} {vs : List V} {ds : List D} : F a = some (.lst vs) → RpAll K a0 F vs ds → Rp K a0 F (.ref a) (.lst ds)
  | src : Rp K a0 F (.ref a0) .src
inductive RpAll (K : PySem.W.Frag) (a0 : Addr) (F : Hp) : List V → List D → Prop
  | nil : RpAll K a0 F [] []
  | cons {v : V} {vs : List V} {d : D} {ds : List D} : Rp K a0 F v d → RpAll K a0 F vs ds → RpAll K a0 F (v :: vs) (d :: ds)
end

def Ex (H H' : Hp) : Prop := ∀ a o, H a = some o → H' a = some o
theorem Ex.refl (H : Hp) : Ex H H := fun _ _ h => h
theorem Ex.trans {H H1 H2 : Hp} (a : Ex H H1) (b : Ex H1 H2) : Ex H H2 := fun x o h => b x o (a x o h)
theorem Ex.new {H : Hp} {p : Addr} {o : HO} (h : H p = none) : Ex H (upd H p o) := fun a u e => by
  rw [upd_ne (ne_of_none e h)]
  exact e
theorem ex_rd {H H' : Hp} {a : Addr} {u : HO} (e : Ex H H') (h : Rd H a u) : Rd H' a u := by
  rcases h with h | ⟨o, h⟩
  · exact Or.inl (e a _ h)
  · exact Or.inr ⟨o, e a _ h⟩
theorem ex_l {K : PySem.W.Frag} {H H' : Hp} {a : Addr} {xs : List V} (e : Ex H H') (h : SqL K H a xs) : SqL K H' a xs := by
  rcases h with h | h
  · exact Or.inl (ex_rd e h)
  · exact Or.inr h
theorem ex_t {K : PySem.W.Frag} {H H' : Hp} {a : Addr} {xs : List V} (e : Ex H H') (h : SqT K H a xs) : SqT K H' a xs := by
  rcases h with h | h
  · exact Or.inl (ex_rd e h)
  · exact Or.inr h

mutual
theorem Rp.mono {K : PySem.W.Frag} {a0 : Addr} {F F' : Hp} (e : Ex F F') : ∀ (d : D) (v : V), Rp K a0 F v d → Rp K a0 F' v d
  | .non, _, h => by cases h; exact .non
  | .bl _, _, h => by cases h; exact .bl _
  | .int _, _, h => by cases h; exact .int _
  | .str _, _, h => by cases h; exact .str _
  | .src, _, h => by cases h; exact .src
  | .tup ds, _, h => by
    cases h with
    | tup hs ha => exact .tup (ex_t e hs) (RpAll.mono e ds _ ha)
  | .lst ds, _, h => by
    cases h with
    | lst hs ha => exact .lst (e _ _ hs) (RpAll.mono e ds _ ha)
theorem RpAll.mono {K : PySem.W.Frag} {a0 : Addr} {F F' : Hp} (e : Ex F F') : ∀ (ds : List D) (vs : List V), RpAll K a0 F vs ds → RpAll K a0 F' vs ds
  | [], _, h => by cases h; exact .nil
  | d :: ds, _, h => by
    cases h with
    | cons h1 h2 => exact .cons (Rp.mono e d _ h1) (RpAll.mono e ds _ h2)
end
theorem Rp.ex {K : PySem.W.Frag} {a0 : Addr} {F F' : Hp} {v : V} {d : D} (h : Rp K a0 F v d) (e : Ex F F') : Rp K a0 F' v d := Rp.mono e d v h
theorem RpAll.ex {K : PySem.W.Frag} {a0 : Addr} {F F' : Hp} {vs : List V} {ds : List D} (h : RpAll K a0 F vs ds) (e : Ex F F') : RpAll K a0 F' vs ds := RpAll.mono e ds vs h
section
variable {K : PySem.W.Frag} {a0 : Addr} {F : Hp}
theorem RpAll.len : ∀ {vs : List V} {ds : List D}, RpAll K a0 F vs ds → vs.length = ds.length
  | _, [], h => by cases h; rfl
  | _, d :: ds, h => by
    cases h with
    | cons h1 h2 => simp [h2.len]
theorem RpAll.app : ∀ {vs ws : List V} {ds es : List D}, RpAll K a0 F vs ds → RpAll K a0 F ws es → RpAll K a0 F (vs ++ ws) (ds ++ es)
  | _, _, [], _, h, g => by cases h; exact g
  | _, _, d :: ds, _, h, g => by
    cases h with
    | cons h1 h2 => exact .cons h1 (h2.app g)
theorem RpAll.one {v : V} {d : D} (h : Rp K a0 F v d) : RpAll K a0 F [v] [d] := .cons h .nil
theorem RpAll.take : ∀ (n : Nat) {vs : List V} {ds : List D}, RpAll K a0 F vs ds → RpAll K a0 F (vs.take n) (ds.take n)
  | 0, _, _, _ => .nil
  | n + 1, _, _, .nil => .nil
  | n + 1, _, _, .cons h1 h2 => .cons h1 (h2.take n)
theorem RpAll.drop : ∀ (n : Nat) {vs : List V} {ds : List D}, RpAll K a0 F vs ds → RpAll K a0 F (vs.drop n) (ds.drop n)
  | 0, _, _, h => h
  | n + 1, _, _, .nil => .nil
  | n + 1, _, _, .cons h1 h2 => h2.drop n
theorem RpAll.rev : ∀ {vs : List V} {ds : List D}, RpAll K a0 F vs ds → RpAll K a0 F vs.reverse ds.reverse
  | _, [], h => by cases h; exact .nil
  | _, d :: ds, h => by
    cases h with
    | cons h1 h2 =>
      rw [List.reverse_cons, List.reverse_cons]
      exact h2.rev.app (.one h1)
theorem RpAll.get : ∀ {vs : List V} {ds : List D} {i : Nat} {d : D}, RpAll K a0 F vs ds → ds[i]? = some d → ∃ v, vs[i]? = some v ∧ Rp K a0 F v d
  | _, [], _, _, _, e => by simp at e
  | _, x :: ds, 0, d, h, e => by
    cases h with
    | cons h1 h2 => simp at e; subst e; exact ⟨_, rfl, h1⟩
  | _, x :: ds, i + 1, d, h, e => by
    cases h with
    | cons h1 h2 =>
      obtain ⟨v, a, b⟩ := h2.get (i := i) (d := d) (by simpa using e)
      exact ⟨v, by simpa using a, b⟩
theorem RpAll.getv : ∀ {vs : List V} {ds : List D} {i : Nat} {v : V}, RpAll K a0 F vs ds → vs[i]? = some v → ∃ d, ds[i]? = some d ∧ Rp K a0 F v d
  | _, [], _, _, h, e => by cases h; simp at e
  | _, x :: ds, 0, v, h, e => by
    cases h with
    | cons h1 h2 => simp at e; subst e; exact ⟨_, rfl, h1⟩
  | _, x :: ds, i + 1, v, h, e => by
    cases h with
    | cons h1 h2 =>
      obtain ⟨d, a, b⟩ := h2.getv (i := i) (v := v) (by simpa using e)
      exact ⟨d, by simpa using a, b⟩
theorem RpAll.setv : ∀ {vs : List V} {ds : List D} (i : Nat) {v : V} {d : D}, RpAll K a0 F vs ds → Rp K a0 F v d → RpAll K a0 F (vs.set i v) (ds.set i d)
  | _, [], _, _, _, h, _ => by cases h; exact .nil
  | _, x :: ds, 0, v, d, h, g => by
    cases h with
    | cons h1 h2 => exact .cons g h2
  | _, x :: ds, i + 1, v, d, h, g => by
    cases h with
    | cons h1 h2 => exact .cons h1 (h2.setv i g)
theorem RpAll.dropLast {vs : List V} {ds : List D} (h : RpAll K a0 F vs ds) : RpAll K a0 F vs.dropLast ds.dropLast := by
  rw [List.dropLast_eq_take, List.dropLast_eq_take, h.len]
  exact h.take _
theorem RpAll.ints : ∀ {vs : List V} {ns : List Int}, RpAll K a0 F vs (ns.map D.int) → vs = ns.map V.int
  | _, [], h => by cases h; rfl
  | _, n :: ns, h => by
    cases h with
    | cons h1 h2 => cases h1; rw [h2.ints]; rfl
theorem RpAll.of_ints : ∀ (ns : List Int), RpAll K a0 F (ns.map V.int) (ns.map D.int)
  | [] => .nil
  | n :: ns => .cons (.int n) (RpAll.of_ints ns)
end

/-! ### the source of draws, what a def's names hold -/
structure SS where
  cells : List Int
  left : Int
  turn : Int
structure Exn where
  c : Str
  f : Str
  d : D
inductive Slot where
  | val (d : D)
  | own (xs : List D)
  | exn (c : Exn)
abbrev Env := List (Option Slot)
structure W where
  env : Env
  ss : SS
inductive R (α : Type) where
  | ok (a : α) (w : W)
  | exc (c : Exn) (w : W)
  | stuck
inductive RS where
  | nx (w : W)
  | ret (d : D) (w : W)
  | brk (w : W)
  | cnt (w : W)
  | exc (c : Exn) (w : W)
  | stuck

/-- what an own error's class must say, so that its field is read, isinstance asked -/
structure XCls (K : PySem.W.Frag) (C : Addr) (f : Str) : Prop where
  ga : PySem.W.findIn K (.ref C) "__getattribute__" = some (some (.builtin "BaseException.__getattribute__"))
  gg : PySem.W.findIn K (.ref C) "__getattr__" = some none
  exC : PySem.W.subIn K (.ref C) (.type "BaseException") = some true
  hdC : PySem.W.hasDictIn K C = true
  no : PySem.W.findIn K (.ref C) f = some none
  cl : PySem.W.findIn K (.ref C) "__class__" = some (some (.builtin "object.__class__"))
  sp : PySem.W.specialIn K (.builtin "object.__class__") "__get__" = some (some (.builtin "getset_descriptor.__get__"))
  tk : PySem.W.takesIn K (.builtin "object.__class__") = some true
  mo : PySem.W.mroIn K C (.type "object") = some true
/-- what is fixed while a def runs -/
structure Fm where
  a0 : Addr
  c0 : Addr
  G : Hp
  F0 : Hp
  xa : Addr
  xd : Addr
  xc : Str
  xk : Addr

structure SrcOk (a0 c0 : Addr) (F H : Hp) (ss : SS) : Prop where
  fr : F a0 = none
  at0 : H a0 = some (.lst [.ref c0, .int ss.left, .int ss.turn])
  cells : F c0 = some (.lst (ss.cells.map .int))
  ne : ss.cells ≠ []
  nn : ∀ c ∈ ss.cells, 0 ≤ c
  left : 0 ≤ ss.left
  turn : 0 ≤ ss.turn

def Own (K : PySem.W.Frag) (fm : Fm) (F H : Hp) (p : Addr) (xs : List D) : Prop :=
  p ≠ fm.a0 ∧ F p = none ∧ fm.G p = none ∧ ∃ vs, H p = some (.lst vs) ∧ RpAll K fm.a0 F vs xs
def SlotOk (K : PySem.W.Frag) (fm : Fm) (F H : Hp) (v : V) : Slot → Prop
  | .val d => Rp K fm.a0 F v d
  | .own xs => ∃ p, v = .ref p ∧ Own K fm F H p xs
  | .exn c => v = .ref fm.xa ∧ c.c = fm.xc ∧ XCls K fm.xk c.f ∧ ∃ vv : V, F fm.xd = some (.xd [(c.f, vv)]) ∧ Rp K fm.a0 F vv c.d
abbrev Exs := List (Addr × List D)

structure Rel (K : PySem.W.Frag) (fm : Fm) (ex : Exs) (σ : L2.St) (H F : Hp) (w : W) : Prop where
  f0 : Ex fm.F0 F
  fh : Ex F H
  gh : ∀ b o, b ≠ fm.a0 → fm.G b = some o → H b = some o
  fg : ∀ b o, F b = some o → fm.F0 b = some o ∨ fm.G b = none
  src : SrcOk fm.a0 fm.c0 F H w.ss
  len : w.env.length = σ.length
  slot : ∀ (i : Nat) (s : Slot), w.env[i]? = some (some s) → ∃ v : V, σ[i]? = some (some v) ∧ SlotOk K fm F H v s
  ap : ∀ (i j : Nat) (xs ys : List D) (p : Addr), w.env[i]? = some (some (.own xs)) → w.env[j]? = some (some (.own ys)) → σ[i]? = some (some (.ref p)) → σ[j]? = some (some (.ref p)) → i = j
  exo : ∀ q ∈ ex, Own K fm F H q.1 q.2
  exn : (ex.map (·.1)).Nodup
  exs : ∀ q ∈ ex, ∀ (i : Nat) (xs : List D), w.env[i]? = some (some (.own xs)) → σ[i]? ≠ some (some (.ref q.1))

/-- what stood stands (the source's list may have changed) -/
def Kp (a0 : Addr) (H H' : Hp) : Prop := ∀ b o, b ≠ a0 → H b = some o → H' b = some o
theorem Kp.refl {a0 : Addr} {H : Hp} : Kp a0 H H := fun _ _ _ h => h
theorem Kp.trans {a0 : Addr} {H H1 H2 : Hp} (a : Kp a0 H H1) (b : Kp a0 H1 H2) : Kp a0 H H2 := fun x o n h => b x o n (a x o n h)

/-- growth: what stood stands, but the source's list -/
structure Gk (a0 : Addr) (H F H' F' : Hp) : Prop where
  hh : Kp a0 H H'
  ff : Ex F F'
  fh : Ex F' H'
  fn : ∀ b o, F' b = some o → F b = some o ∨ H b = none
/-- pure growth -/
structure Gr (H F H' F' : Hp) : Prop where
  hh : Ex H H'
  ff : Ex F F'
  fh : Ex F' H'
  fn : ∀ b o, F' b = some o → F b = some o ∨ H b = none
theorem Gr.refl {H F : Hp} (h : Ex F H) : Gr H F H F := ⟨Ex.refl _, Ex.refl _, h, fun _ _ e => .inl e⟩
theorem Gr.gk {fm : Fm} {H F H' F' : Hp} (g : Gr H F H' F') : Gk fm.a0 H F H' F' := ⟨fun b o _ h => g.hh b o h, g.ff, g.fh, g.fn⟩
theorem Gr.kp {fm : Fm} {H F H' F' : Hp} (g : Gr H F H' F') : Kp fm.a0 H H' := fun b o _ h => g.hh b o h
theorem Gr.trans {H F H1 F1 H2 F2 : Hp} (a : Gr H F H1 F1) (b : Gr H1 F1 H2 F2) : Gr H F H2 F2 := ⟨a.hh.trans b.hh, a.ff.trans b.ff, b.fh, fun x o e => by
  rcases b.fn x o e with z | z
  · exact a.fn x o z
  · refine .inr ?_
    cases q : H x with
    | none => rfl
    | some u => rw [a.hh x u q] at z; cases z⟩
theorem none_of_ex {F H : Hp} {p : Addr} (h : Ex F H) (hp : H p = none) : F p = none := by
  cases e : F p with
  | none => rfl
  | some u => rw [h p u e] at hp; cases hp
/-- one new object, never to be changed -/
theorem Gr.new {H F : Hp} {p : Addr} {o : HO} (h : Ex F H) (hp : H p = none) : Gr H F (upd H p o) (upd F p o) := by
  have fp : F p = none := none_of_ex h hp
  refine ⟨Ex.new hp, Ex.new fp, fun b u e => ?_, fun b u e => ?_⟩
  · by_cases hb : b = p
    · subst hb; rw [upd_same] at e ⊢; exact e
    · rw [upd_ne hb] at e ⊢; exact h b u e
  · by_cases hb : b = p
    · subst hb; exact .inr hp
    · rw [upd_ne hb] at e; exact .inl e
/-- one new object that is not known -/
theorem Gr.dark {H F : Hp} {p : Addr} {o : HO} (h : Ex F H) (hp : H p = none) : Gr H F (upd H p o) F :=
  ⟨Ex.new hp, Ex.refl _, h.trans (Ex.new hp), fun _ _ e => .inl e⟩
section
variable {K : PySem.W.Frag} {fm : Fm} {ex : Exs} {σ : L2.St} {H F H' F' : Hp} {w : W} {ss' : SS}
theorem Own.gk {p : Addr} {xs : List D} (o : Own K fm F H p xs) (g : Gk fm.a0 H F H' F') : Own K fm F' H' p xs := by
  obtain ⟨h1, h2, h3, vs, h4, h5⟩ := o
  refine ⟨h1, ?_, h3, vs, g.hh _ _ h1 h4, h5.ex g.ff⟩
  cases e : F' p with
  | none => rfl
  | some u =>
    rcases g.fn p u e with z | z
    · rw [h2] at z; cases z
    · rw [h4] at z; cases z
theorem Rel.step (r : Rel K fm ex σ H F w) (g : Gk fm.a0 H F H' F') (s : SrcOk fm.a0 fm.c0 F' H' ss') : Rel K fm ex σ H' F' { w with ss := ss' } where
  f0 := r.f0.trans g.ff
  fh := g.fh
  gh := fun b o n h => g.hh b o n (r.gh b o n h)
  fg := fun b o h => by
    rcases g.fn b o h with z | z
    · exact r.fg b o z
    · refine .inr ?_
      cases e : fm.G b with
      | none => rfl
      | some u =>
        by_cases hb : b = fm.a0
        · subst hb; rw [r.src.at0] at z; cases z
        · have := r.gh b u hb e
          rw [z] at this; cases this
  src := s
  len := r.len
  slot := fun i s h => by
    obtain ⟨v, e, k⟩ := r.slot i s h
    refine ⟨v, e, ?_⟩
    cases s with
    | val d => exact Rp.ex k g.ff
    | own xs => obtain ⟨p, e, o⟩ := k; exact ⟨p, e, o.gk g⟩
    | exn c => obtain ⟨e1, e2, e3, vv, h1, h2⟩ := k; exact ⟨e1, e2, e3, vv, g.ff _ _ h1, h2.ex g.ff⟩
  ap := r.ap
  exo := fun q hq => (r.exo q hq).gk g
  exn := r.exn
  exs := r.exs
theorem SrcOk.gr {ss : SS} (s : SrcOk fm.a0 fm.c0 F H ss) (g : Gr H F H' F') : SrcOk fm.a0 fm.c0 F' H' ss := by
  refine ⟨?_, g.hh _ _ s.at0, g.ff _ _ s.cells, s.ne, s.nn, s.left, s.turn⟩
  cases e : F' fm.a0 with
  | none => rfl
  | some u =>
    rcases g.fn _ u e with z | z
    · rw [s.fr] at z; cases z
    · rw [s.at0] at z; cases z
theorem Rel.gr (r : Rel K fm ex σ H F w) (g : Gr H F H' F') : Rel K fm ex σ H' F' w := r.step g.gk (r.src.gr g)

theorem slot_set {i j : Nat} {s : Slot} {t : Option Slot} {env : Env} (h : (env.set i t)[j]? = some (some s)) : (j = i ∧ i < env.length ∧ t = some s) ∨ (j ≠ i ∧ env[j]? = some (some s)) := by
  by_cases hj : j = i
  · subst hj
    by_cases hl : j < env.length
    · rw [List.getElem?_set_self hl] at h
      exact .inl ⟨rfl, hl, Option.some.inj h⟩
    · rw [List.getElem?_eq_none (by simpa using hl)] at h; cases h
  · rw [List.getElem?_set_ne (Ne.symm hj)] at h
    exact .inr ⟨hj, h⟩
/-- a name is given a value -/
theorem Rel.setVal (r : Rel K fm ex σ H F w) (i : Nat) {v : V} {d : D} (hv : Rp K fm.a0 F v d) : Rel K fm ex (σ.set i (some v)) H F { w with env := w.env.set i (some (.val d)) } where
  f0 := r.f0
  fh := r.fh
  gh := r.gh
  fg := r.fg
  src := r.src
  len := by simp [r.len]
  slot := fun j s h => by
    rcases slot_set h with ⟨rfl, hl, e⟩ | ⟨hj, h⟩
    · cases e
      exact ⟨v, List.getElem?_set_self (by rw [← r.len]; exact hl), hv⟩
    · obtain ⟨u, e, k⟩ := r.slot j s h
      exact ⟨u, by rw [List.getElem?_set_ne (Ne.symm hj)]; exact e, k⟩
  ap := fun j k xs ys p h1 h2 h3 h4 => by
    rcases slot_set h1 with ⟨_, _, e⟩ | ⟨hj, h1⟩
    · cases e
    · rcases slot_set h2 with ⟨_, _, e⟩ | ⟨hk, h2⟩
      · cases e
      · rw [List.getElem?_set_ne (Ne.symm hj)] at h3
        rw [List.getElem?_set_ne (Ne.symm hk)] at h4
        exact r.ap j k xs ys p h1 h2 h3 h4
  exo := r.exo
  exn := r.exn
  exs := fun q hq j xs h1 h2 => by
    rcases slot_set h1 with ⟨_, _, e⟩ | ⟨hj, h1⟩
    · cases e
    · rw [List.getElem?_set_ne (Ne.symm hj)] at h2
      exact r.exs q hq j xs h1 h2
/-- a name is given a new list -/
theorem Rel.setOwn {p : Addr} {xs : List D} (r : Rel K fm ((p, xs) :: ex) σ H F w) (i : Nat) : Rel K fm ex (σ.set i (some (.ref p))) H F { w with env := w.env.set i (some (.own xs)) } where
  f0 := r.f0
  fh := r.fh
  gh := r.gh
  fg := r.fg
  src := r.src
  len := by simp [r.len]
  slot := fun j s h => by
    rcases slot_set h with ⟨rfl, hl, e⟩ | ⟨hj, h⟩
    · cases e
      exact ⟨.ref p, List.getElem?_set_self (by rw [← r.len]; exact hl), p, rfl, r.exo _ (List.mem_cons_self ..)⟩
    · obtain ⟨u, e, k⟩ := r.slot j s h
      exact ⟨u, by rw [List.getElem?_set_ne (Ne.symm hj)]; exact e, k⟩
  ap := fun j k ys zs q h1 h2 h3 h4 => by
    rcases slot_set h1 with ⟨rfl, hl, e⟩ | ⟨hj, h1⟩
    · rcases slot_set h2 with ⟨rfl, _, _⟩ | ⟨hk, h2⟩
      · rfl
      · rw [List.getElem?_set_self (by rw [← r.len]; exact hl)] at h3
        rw [List.getElem?_set_ne (Ne.symm hk)] at h4
        cases h3
        exact absurd h4 (r.exs _ (List.mem_cons_self ..) k zs h2)
    · have h1o := h1
      rcases slot_set h2 with ⟨rfl, hl, _⟩ | ⟨hk, h2⟩
      · rw [List.getElem?_set_self (by rw [← r.len]; exact hl)] at h4
        rw [List.getElem?_set_ne (Ne.symm hj)] at h3
        cases h4
        exact absurd h3 (r.exs _ (List.mem_cons_self ..) j ys h1o)
      · rw [List.getElem?_set_ne (Ne.symm hj)] at h3
        rw [List.getElem?_set_ne (Ne.symm hk)] at h4
        exact r.ap j k ys zs q h1 h2 h3 h4
  exo := fun q hq => r.exo q (List.mem_cons_of_mem _ hq)
  exn := (List.nodup_cons.mp r.exn).2
  exs := fun q hq j ys h1 h2 => by
    rcases slot_set h1 with ⟨rfl, hl, e⟩ | ⟨hj, h1⟩
    · rw [List.getElem?_set_self (by rw [← r.len]; exact hl)] at h2
      have e2 : p = q.1 := by cases h2; rfl
      exact (List.nodup_cons.mp r.exn).1 (List.mem_map.mpr ⟨q, hq, e2.symm⟩)
    · rw [List.getElem?_set_ne (Ne.symm hj)] at h2
      exact r.exs q (List.mem_cons_of_mem _ hq) j ys h1 h2
theorem Rel.drop1 {q : Addr × List D} (r : Rel K fm (q :: ex) σ H F w) : Rel K fm ex σ H F w :=
  ⟨r.f0, r.fh, r.gh, r.fg, r.src, r.len, r.slot, r.ap, fun q hq => r.exo q (List.mem_cons_of_mem _ hq), (List.nodup_cons.mp r.exn).2, fun q hq => r.exs q (List.mem_cons_of_mem _ hq)⟩
/-- a name is forgotten -/
theorem Rel.setNone (r : Rel K fm ex σ H F w) (i : Nat) (o : Option V) : Rel K fm ex (σ.set i o) H F { w with env := w.env.set i none } where
  f0 := r.f0
  fh := r.fh
  gh := r.gh
  fg := r.fg
  src := r.src
  len := by simp [r.len]
  slot := fun j s h => by
    rcases slot_set h with ⟨rfl, hl, e⟩ | ⟨hj, h⟩
    · cases e
    · obtain ⟨u, e, k⟩ := r.slot j s h
      exact ⟨u, by rw [List.getElem?_set_ne (Ne.symm hj)]; exact e, k⟩
  ap := fun j k xs ys p h1 h2 h3 h4 => by
    rcases slot_set h1 with ⟨_, _, e⟩ | ⟨hj, h1⟩
    · cases e
    · rcases slot_set h2 with ⟨_, _, e⟩ | ⟨hk, h2⟩
      · cases e
      · rw [List.getElem?_set_ne (Ne.symm hj)] at h3
        rw [List.getElem?_set_ne (Ne.symm hk)] at h4
        exact r.ap j k xs ys p h1 h2 h3 h4
  exo := r.exo
  exn := r.exn
  exs := fun q hq j xs h1 h2 => by
    rcases slot_set h1 with ⟨_, _, e⟩ | ⟨hj, h1⟩
    · cases e
    · rw [List.getElem?_set_ne (Ne.symm hj)] at h2
      exact r.exs q hq j xs h1 h2
/-- freezing at p -/
theorem Own.frz {p q : Addr} {xs : List D} {o : HO} (h : Own K fm F H q xs) (n : q ≠ p) (fp : F p = none) : Own K fm (upd F p o) H q xs := by
  obtain ⟨h1, h2, h3, vs, h4, h5⟩ := h
  exact ⟨h1, by rw [upd_ne n]; exact h2, h3, vs, h4, h5.ex (Ex.new fp)⟩
/-- a new list is never to be changed from here on -/
theorem Rel.frz {p : Addr} {xs : List D} (r : Rel K fm ((p, xs) :: ex) σ H F w) : ∃ F', Ex F F' ∧ Rel K fm ex σ H F' w ∧ Rp K fm.a0 F' (.ref p) (.lst xs) := by
  obtain ⟨h1, h2, h3, vs, h4, h5⟩ := r.exo _ (List.mem_cons_self ..)
  have h1 : p ≠ fm.a0 := h1
  have h2 : F p = none := h2
  have h3 : fm.G p = none := h3
  have h4 : H p = some (.lst vs) := h4
  have e : Ex F (upd F p (.lst vs)) := Ex.new h2
  refine ⟨upd F p (.lst vs), e, ?_, .lst upd_same (h5.ex e)⟩
  have r := r
  refine ⟨r.f0.trans e, fun b o q => ?_, r.gh, fun b o q => ?_, ⟨by rw [upd_ne (Ne.symm h1)]; exact r.src.fr, r.src.at0, e _ _ r.src.cells, r.src.ne, r.src.nn, r.src.left, r.src.turn⟩, r.len, fun i s q => ?_, r.ap, fun q hq => ?_, (List.nodup_cons.mp r.exn).2, fun q hq => r.exs q (List.mem_cons_of_mem _ hq)⟩
  · by_cases hb : b = p
    · subst hb; rw [upd_same] at q; cases q; exact h4
    · rw [upd_ne hb] at q; exact r.fh b o q
  · by_cases hb : b = p
    · subst hb; exact .inr h3
    · rw [upd_ne hb] at q; exact r.fg b o q
  · obtain ⟨v, e1, k⟩ := r.slot i s q
    refine ⟨v, e1, ?_⟩
    cases s with
    | val d => exact Rp.ex k e
    | own ys =>
      obtain ⟨p', rfl, o⟩ := k
      exact ⟨p', rfl, o.frz (fun z => r.exs _ (List.mem_cons_self ..) i ys q (by rw [e1, z])) h2⟩
    | exn c => obtain ⟨a1, a2, a3, vv, b1, b2⟩ := k; exact ⟨a1, a2, a3, vv, e _ _ b1, b2.ex e⟩
  · exact (r.exo q (List.mem_cons_of_mem _ hq)).frz (fun z => (List.nodup_cons.mp r.exn).1 (List.mem_map.mpr ⟨q, hq, z⟩)) h2
/-- the list of a name is taken out of the name -/
theorem Rel.takeOwn {i : Nat} {xs : List D} (r : Rel K fm ex σ H F w) (h : w.env[i]? = some (some (.own xs))) : ∃ p, σ[i]? = some (some (.ref p)) ∧ Rel K fm ((p, xs) :: ex) σ H F { w with env := w.env.set i none } := by
  obtain ⟨v, e, p, rfl, o⟩ := r.slot i _ h
  refine ⟨p, e, ?_⟩
  have r2 : Rel K fm ex σ H F { w with env := w.env.set i none } := by
    have z := r.setNone i (some (.ref p))
    have hl : i < σ.length := (List.getElem?_eq_some_iff.mp e).1
    have e2 : σ.set i (some (.ref p)) = σ := by
      have := (List.getElem?_eq_some_iff.mp e).2
      rw [← this]; exact List.set_getElem_self hl
    rw [e2] at z
    exact z
  refine ⟨r2.f0, r2.fh, r2.gh, r2.fg, r2.src, r2.len, r2.slot, r2.ap, fun q hq => ?_, ?_, fun q hq j ys h1 h2 => ?_⟩
  · rcases List.mem_cons.mp hq with rfl | hq
    · exact o
    · exact r.exo q hq
  · refine List.nodup_cons.mpr ⟨fun z => ?_, r.exn⟩
    obtain ⟨q, hq, z⟩ := List.mem_map.mp z
    exact r.exs q hq i xs h (by rw [e, z])
  · rcases List.mem_cons.mp hq with rfl | hq
    · rcases slot_set h1 with ⟨_, _, e⟩ | ⟨hj, h1⟩
      · cases e
      · exact hj (r.ap j i ys xs p h1 h h2 e)
    · exact r2.exs q hq j ys h1 h2
/-- a name's list is read as a value: it is never to be changed from here on -/
theorem Rel.frzSlot {i : Nat} {xs : List D} (r : Rel K fm ex σ H F w) (h : w.env[i]? = some (some (.own xs))) :
    ∃ p F', σ[i]? = some (some (.ref p)) ∧ Ex F F' ∧ Rel K fm ex σ H F' { w with env := w.env.set i (some (.val (.lst xs))) } ∧ Rp K fm.a0 F' (.ref p) (.lst xs) := by
  obtain ⟨p, e, r1⟩ := r.takeOwn h
  obtain ⟨F', ef, r2, k⟩ := r1.frz
  refine ⟨p, F', e, ef, ?_, k⟩
  have z := r2.setVal i k
  have hl : i < σ.length := (List.getElem?_eq_some_iff.mp e).1
  have e2 : σ.set i (some (.ref p)) = σ := by
    have := (List.getElem?_eq_some_iff.mp e).2
    rw [← this]; exact List.set_getElem_self hl
  rw [e2] at z
  simpa using z
/-- a new list is laid -/
theorem Rel.lay {p : Addr} {vs : List V} {xs : List D} (r : Rel K fm ex σ H F w) (hp : H p = none) (hv : RpAll K fm.a0 F vs xs) : Rel K fm ((p, xs) :: ex) σ (upd H p (.lst vs)) F w := by
  have r2 := r.gr (Gr.dark (o := .lst vs) r.fh hp)
  have n0 : p ≠ fm.a0 := fun z => by subst z; rw [r.src.at0] at hp; cases hp
  have ng : fm.G p = none := by
    cases e : fm.G p with
    | none => rfl
    | some u => rw [r.gh p u n0 e] at hp; cases hp
  refine ⟨r2.f0, r2.fh, r2.gh, r2.fg, r2.src, r2.len, r2.slot, r2.ap, fun q hq => ?_, ?_, fun q hq j ys h1 h2 => ?_⟩
  · rcases List.mem_cons.mp hq with rfl | hq
    · exact ⟨n0, none_of_ex r.fh hp, ng, vs, upd_same, hv⟩
    · exact r2.exo q hq
  · refine List.nodup_cons.mpr ⟨fun z => ?_, r.exn⟩
    obtain ⟨q, hq, z⟩ := List.mem_map.mp z
    obtain ⟨_, _, _, us, h4, _⟩ := r.exo q hq
    rw [z, hp] at h4; cases h4
  · rcases List.mem_cons.mp hq with rfl | hq
    · obtain ⟨v, e, p', e2, _, _, _, us, h4, _⟩ := r.slot j _ h1
      rw [h2] at e
      cases e
      cases e2
      rw [hp] at h4; cases h4
    · exact r2.exs q hq j ys h1 h2
/-- the first new list is changed -/
theorem Rel.mut {p : Addr} {vs : List V} {xs ys : List D} (r : Rel K fm ((p, xs) :: ex) σ H F w) (hv : RpAll K fm.a0 F vs ys) : Rel K fm ((p, ys) :: ex) σ (upd H p (.lst vs)) F w := by
  obtain ⟨h1, h2, h3, us, h4, h5⟩ := r.exo _ (List.mem_cons_self ..)
  have h1 : p ≠ fm.a0 := h1
  have h2 : F p = none := h2
  have h3 : fm.G p = none := h3
  have nf : ∀ b o, F b = some o → b ≠ p := fun b o e z => by subst z; rw [h2] at e; cases e
  have ow : ∀ {q : Addr} {zs : List D}, q ≠ p → Own K fm F H q zs → Own K fm F (upd H p (.lst vs)) q zs := fun n ⟨a, b, c, u, d, e⟩ => ⟨a, b, c, u, by rw [upd_ne n]; exact d, e⟩
  refine ⟨r.f0, fun b o e => by rw [upd_ne (nf b o e)]; exact r.fh b o e, fun b o n e => by rw [upd_ne (fun z => by subst z; rw [h3] at e; cases e)]; exact r.gh b o n e, r.fg,
    ⟨r.src.fr, by rw [upd_ne (Ne.symm h1)]; exact r.src.at0, r.src.cells, r.src.ne, r.src.nn, r.src.left, r.src.turn⟩, r.len, fun i s q => ?_, r.ap, fun q hq => ?_, r.exn, fun q hq j zs q1 q2 => ?_⟩
  · obtain ⟨v, e1, k⟩ := r.slot i s q
    refine ⟨v, e1, ?_⟩
    cases s with
    | val d => exact k
    | own zs =>
      obtain ⟨p', rfl, o⟩ := k
      exact ⟨p', rfl, ow (fun z => r.exs _ (List.mem_cons_self ..) i zs q (by rw [e1, z])) o⟩
    | exn c => exact k
  · rcases List.mem_cons.mp hq with rfl | hq
    · exact ⟨h1, h2, h3, vs, upd_same, hv⟩
    · exact ow (fun z => (List.nodup_cons.mp r.exn).1 (List.mem_map.mpr ⟨q, hq, z⟩)) (r.exo q (List.mem_cons_of_mem _ hq))
  · rcases List.mem_cons.mp hq with rfl | hq
    · exact r.exs _ (List.mem_cons_self ..) j zs q1 q2
    · exact r.exs q (List.mem_cons_of_mem _ hq) j zs q1 q2
/-- the new list goes back to its name -/
theorem Rel.putOwn {p : Addr} {i : Nat} {xs : List D} (r : Rel K fm ((p, xs) :: ex) σ H F w) (e : σ[i]? = some (some (.ref p))) : Rel K fm ex σ H F { w with env := w.env.set i (some (.own xs)) } := by
  have z := r.setOwn i
  have hl : i < σ.length := (List.getElem?_eq_some_iff.mp e).1
  have e2 : σ.set i (some (.ref p)) = σ := by
    have := (List.getElem?_eq_some_iff.mp e).2
    rw [← this]; exact List.set_getElem_self hl
  rw [e2] at z
  exact z
/-- behind an expression whose value bears no address the names hold what they held -/
theorem Rel.unf {w' : W} (r : Rel K fm ex σ H F w) (k : Kp fm.a0 H H') (f : Ex F F') (r' : Rel K fm ex σ H' F' w') : Rel K fm ex σ H' F { env := w.env, ss := w'.ss } := by
  have ow : ∀ {q : Addr} {zs : List D}, Own K fm F H q zs → Own K fm F H' q zs := fun ⟨a, b, c, u, d, e⟩ => ⟨a, b, c, u, k _ _ a d, e⟩
  refine ⟨r.f0, f.trans r'.fh, r'.gh, r.fg, ⟨r.src.fr, r'.src.at0, ?_, r'.src.ne, r'.src.nn, r'.src.left, r'.src.turn⟩, r.len, fun i s q => ?_, r.ap, fun q hq => ow (r.exo q hq), r.exn, r.exs⟩
  · have h1 := f _ _ r.src.cells
    rw [r'.src.cells] at h1
    rw [r.src.cells, ← h1]
  · obtain ⟨v, e1, kk⟩ := r.slot i s q
    refine ⟨v, e1, ?_⟩
    cases s with
    | val d => exact kk
    | own zs => obtain ⟨p', rfl, o⟩ := kk; exact ⟨p', rfl, ow o⟩
    | exn c => exact kk
/-! ### a caught exception's name -/
def noX (env : Env) : Env := env.map fun s => match s with
  | some (.exn _) => none
  | s => s
theorem noX_get {env : Env} {i : Nat} {s : Slot} (h : (noX env)[i]? = some (some s)) : env[i]? = some (some s) ∧ ∀ c, s ≠ .exn c := by
  unfold noX at h
  rw [List.getElem?_map] at h
  cases e : env[i]? with
  | none => rw [e] at h; cases h
  | some o =>
    rw [e] at h
    cases o with
    | none => cases h
    | some t =>
      cases t with
      | exn c => cases h
      | val d => cases h; exact ⟨rfl, fun _ z => by cases z⟩
      | own xs => cases h; exact ⟨rfl, fun _ z => by cases z⟩
theorem Rel.enter (r : Rel K fm ex σ H F w) (a d : Addr) (n : Str) (k : Addr) : Rel K { fm with xa := a, xd := d, xc := n, xk := k } ex σ H F { w with env := noX w.env } where
  f0 := r.f0
  fh := r.fh
  gh := r.gh
  fg := r.fg
  src := r.src
  len := by simp [noX, r.len]
  slot := fun i s h => by
    obtain ⟨h1, h2⟩ := noX_get h
    obtain ⟨v, e, k⟩ := r.slot i s h1
    refine ⟨v, e, ?_⟩
    cases s with
    | val d => exact k
    | own xs => exact k
    | exn c => exact absurd rfl (h2 c)
  ap := fun i j xs ys p h1 h2 h3 h4 => r.ap i j xs ys p (noX_get h1).1 (noX_get h2).1 h3 h4
  exo := r.exo
  exn := r.exn
  exs := fun q hq i xs h1 h2 => r.exs q hq i xs (noX_get h1).1 h2
theorem Rel.leave {a d : Addr} {n : Str} {k : Addr} (r : Rel K { fm with xa := a, xd := d, xc := n, xk := k } ex σ H F w) : Rel K fm ex σ H F { w with env := noX w.env } := (r.enter fm.xa fm.xd fm.xc fm.xk)
theorem Rel.frzX {d : Addr} {fs : List (Str × V)} (r : Rel K fm ex σ H F w) (hd : H d = some (.xd fs)) (hg : fm.G d = none) : ∃ F', Ex F F' ∧ F' d = some (.xd fs) ∧ Rel K fm ex σ H F' w := by
  have n0 : d ≠ fm.a0 := fun z => by subst z; rw [r.src.at0] at hd; cases hd
  have hF : ∀ o, F d = some o → o = .xd fs := fun o e => by have := r.fh d o e; rw [hd] at this; cases this; rfl
  have e : Ex F (upd F d (.xd fs)) := fun b o q => by
    by_cases hb : b = d
    · subst hb; rw [hF o q, upd_same]
    · rw [upd_ne hb]; exact q
  have ow : ∀ {q : Addr} {zs : List D}, Own K fm F H q zs → Own K fm (upd F d (.xd fs)) H q zs := fun ⟨a, b, c, u, x, y⟩ => by
    refine ⟨a, ?_, c, u, x, y.ex e⟩
    rw [upd_ne (fun z => by subst z; rw [x] at hd; cases hd)]
    exact b
  refine ⟨_, e, upd_same, r.f0.trans e, fun b o q => ?_, r.gh, fun b o q => ?_, ⟨by rw [upd_ne (Ne.symm n0)]; exact r.src.fr, r.src.at0, e _ _ r.src.cells, r.src.ne, r.src.nn, r.src.left, r.src.turn⟩, r.len, fun i s q => ?_, r.ap, fun q hq => ow (r.exo q hq), r.exn, r.exs⟩
  · by_cases hb : b = d
    · subst hb; rw [upd_same] at q; cases q; exact hd
    · rw [upd_ne hb] at q; exact r.fh b o q
  · by_cases hb : b = d
    · subst hb; exact .inr hg
    · rw [upd_ne hb] at q; exact r.fg b o q
  · obtain ⟨v, e1, k⟩ := r.slot i s q
    refine ⟨v, e1, ?_⟩
    cases s with
    | val d => exact Rp.ex k e
    | own zs => obtain ⟨p', rfl, o⟩ := k; exact ⟨p', rfl, ow o⟩
    | exn c => obtain ⟨a1, a2, a3, vv, b1, b2⟩ := k; exact ⟨a1, a2, a3, vv, e _ _ b1, b2.ex e⟩
theorem Rel.setX (r : Rel K fm ex σ H F w) (i : Nat) {c : Exn} {vv : V} (hc : c.c = fm.xc) (hk : XCls K fm.xk c.f) (hd : F fm.xd = some (.xd [(c.f, vv)])) (hv : Rp K fm.a0 F vv c.d) : Rel K fm ex (σ.set i (some (.ref fm.xa))) H F { w with env := w.env.set i (some (.exn c)) } where
  f0 := r.f0
  fh := r.fh
  gh := r.gh
  fg := r.fg
  src := r.src
  len := by simp [r.len]
  slot := fun j s h => by
    rcases slot_set h with ⟨rfl, hl, e⟩ | ⟨hj, h⟩
    · cases e
      exact ⟨_, List.getElem?_set_self (by rw [← r.len]; exact hl), rfl, hc, hk, vv, hd, hv⟩
    · obtain ⟨u, e, k⟩ := r.slot j s h
      exact ⟨u, by rw [List.getElem?_set_ne (Ne.symm hj)]; exact e, k⟩
  ap := fun j k xs ys p h1 h2 h3 h4 => by
    rcases slot_set h1 with ⟨_, _, e⟩ | ⟨hj, h1⟩
    · cases e
    · rcases slot_set h2 with ⟨_, _, e⟩ | ⟨hk, h2⟩
      · cases e
      · rw [List.getElem?_set_ne (Ne.symm hj)] at h3
        rw [List.getElem?_set_ne (Ne.symm hk)] at h4
        exact r.ap j k xs ys p h1 h2 h3 h4
  exo := r.exo
  exn := r.exn
  exs := fun q hq j xs h1 h2 => by
    rcases slot_set h1 with ⟨_, _, e⟩ | ⟨hj, h1⟩
    · cases e
    · rw [List.getElem?_set_ne (Ne.symm hj)] at h2
      exact r.exs q hq j xs h1 h2
end
end TD

set_option Elab.async false
set_option linter.all false
set_option maxRecDepth 100000
set_option maxHeartbeats 4000000
namespace TD
open PySem PySem.Spec PyProof.Rows L2

/-! ### the strongest readings -/
def WE (X : Cx) (e : Expr) : TE := fun σ H Q => ∀ (pins : List (Addr × Obj)) (s : Shared), Inv X pins σ H s → wpAny (model X.prog X.w) X.A (eval e X.env) (EP X pins σ Q) X.xe s
def WT (X : Cx) (e : Expr) : TT := fun σ H Q => ∀ (pins : List (Addr × Obj)) (s : Shared), Inv X pins σ H s → wpAny (model X.prog X.w) X.A (isTrue e X.env (eval e X.env)) (TP X pins σ Q) X.xe s
def WA (X : Cx) (es : List Expr) : TA := fun σ H Q => ∀ (pos : Pos) (pins : List (Addr × Obj)) (s : Shared), Inv X pins σ H s → wpAny (model X.prog X.w) X.A (spliced (backTo pos (starEach es X.env))) (AP X pins σ Q) X.xe s
def WS (X : Cx) (st : Stmt) : TS := fun D σ H => ∀ (pins : List (Addr × Obj)) (s : Shared), Inv X pins σ H s → wpAny (model X.prog X.w) X.A (exec st X.env) (SP X pins D) X.xe s
def WSs (X : Cx) (st : List Stmt) : TS := fun D σ H => ∀ (pins : List (Addr × Obj)) (s : Shared), Inv X pins σ H s → wpAny (model X.prog X.w) X.A (execs st X.env) (SP X pins D) X.xe s
section
variable {X : Cx} {e : Expr} {es : List Expr} {st : Stmt} {sts : List Stmt} {σ : L2.St} {H : Hp}
theorem pe_we : PE X e (WE X e) := ⟨fun pins s _ _ _ I h => h pins s I⟩
theorem pt_wt : PT X e (WT X e) := ⟨fun pins s _ _ _ I h => h pins s I⟩
theorem pa_wa : PA X es (WA X es) := ⟨fun pos pins s _ _ _ I h => h pos pins s I⟩
theorem ps_ws : PS X st (WS X st) := ⟨fun pins s _ _ _ I h => h pins s I⟩
theorem pss_wss : PSs X sts (WSs X sts) := ⟨fun pins s _ _ _ I h => h pins s I⟩
theorem WE.of {t : TE} {Q : VK} (h : PE X e t) (q : t σ H Q) : WE X e σ H Q := fun pins s I => h.run pins s σ H Q I q
theorem WT.of {t : TT} {Q : Bool → Hp → Prop} (h : PT X e t) (q : t σ H Q) : WT X e σ H Q := fun pins s I => h.run pins s σ H Q I q
theorem WA.of {t : TA} {Q : List V → Hp → Prop} (h : PA X es t) (q : t σ H Q) : WA X es σ H Q := fun pos pins s I => h.run pos pins s σ H Q I q
theorem WS.of {t : TS} {D : Ends} (h : PS X st t) (q : t D σ H) : WS X st D σ H := fun pins s I => h.run pins s σ H D I q
theorem WSs.of {t : TS} {D : Ends} (h : PSs X sts t) (q : t D σ H) : WSs X sts D σ H := fun pins s I => h.run pins s σ H D I q
end
/-- an operation upon two values, as strong as it can be said -/
def W2 (X : Cx) (f : Value → Value → Sem Value) : R2 := fun x y H Q => ∀ (pins : List (Addr × Obj)) (s : Shared) (σ : L2.St) (v u : Value), Inv X pins σ H s → RelV x v → RelV y u → wpAny (model X.prog X.w) X.A (f v u) (EP X pins σ Q) X.xe s
theorem opr_w2 {X : Cx} {f : Value → Value → Sem Value} : OpR X f (W2 X f) := fun pins s σ H x y v u Q I rx ry h => h pins s σ v u I rx ry
theorem W2.of {X : Cx} {f : Value → Value → Sem Value} {r : R2} {x y : V} {H : Hp} {Q : VK} (h : OpR X f r) (q : r x y H Q) : W2 X f x y H Q := fun pins s σ v u I rx ry => h pins s σ H x y v u Q I rx ry q
def W1 (X : Cx) (f : Value → Sem Value) : V → Hp → VK → Prop := fun x H Q => ∀ (pins : List (Addr × Obj)) (s : Shared) (σ : L2.St) (v : Value), Inv X pins σ H s → RelV x v → wpAny (model X.prog X.w) X.A (f v) (EP X pins σ Q) X.xe s
theorem unr_w1 {X : Cx} {f : Value → Sem Value} : UnR X f (W1 X f) := fun pins s σ H x v Q I rx h => h pins s σ v I rx
theorem W1.of {X : Cx} {f : Value → Sem Value} {r : V → Hp → VK → Prop} {x : V} {H : Hp} {Q : VK} (h : UnR X f r) (q : r x H Q) : W1 X f x H Q := fun pins s σ v I rx => h pins s σ H x v Q I rx q
/-- a call of a value -/
def WC (X : Cx) (f : Value) : List V → Hp → VK → Prop := fun xs H Q => ∀ (pins : List (Addr × Obj)) (s : Shared) (σ : L2.St) (us : List Value), Inv X pins σ H s → Vals xs us → wpAny (model X.prog X.w) X.A (call f us) (EP X pins σ Q) X.xe s
theorem callr_wc {X : Cx} {f : Value} : CallR X f (WC X f) := fun pins s σ H xs us Q I r h => h pins s σ us I r
theorem WC.of {X : Cx} {f : Value} {r : List V → Hp → VK → Prop} {xs : List V} {H : Hp} {Q : VK} (h : CallR X f r) (q : r xs H Q) : WC X f xs H Q := fun pins s σ us I rr => h pins s σ H xs us Q I rr q

/-! ### outcomes -/
def R.bind {α β : Type} (r : R α) (k : α → W → R β) : R β := match r with
  | .ok a w => k a w
  | .exc c w => .exc c w
  | .stuck => .stuck
def R.lift {α : Type} (o : Option α) (w : W) : R α := match o with
  | some a => .ok a w
  | none => .stuck
@[simp] theorem R.bind_ok {α β : Type} (a : α) (w : W) (k : α → W → R β) : (R.ok a w).bind k = k a w := rfl
@[simp] theorem R.bind_exc {α β : Type} (c : Exn) (w : W) (k : α → W → R β) : (R.exc c w : R α).bind k = .exc c w := rfl
@[simp] theorem R.bind_stuck {α β : Type} (k : α → W → R β) : (R.stuck : R α).bind k = .stuck := rfl
@[simp] theorem R.lift_some {α : Type} (a : α) (w : W) : R.lift (some a) w = .ok a w := rfl
@[simp] theorem R.lift_none {α : Type} (w : W) : R.lift (none : Option α) w = .stuck := rfl

def ExcIs (K : PySem.W.Frag) (mg : Str → Option Value) (a0 : Addr) (G : Hp) (c : Exn) (cls : Value) (dd : Option Addr) (F H : Hp) : Prop :=
  ∃ (C d : Addr) (v : V), mg c.c = some (.ref C) ∧ cls = .ref C ∧ dd = some d ∧ H d = some (.xd [(c.f, v)]) ∧ Rp K a0 F v c.d ∧ G d = none ∧ XCls K C c.f
theorem ExcIs.up {K : PySem.W.Frag} {mg : Str → Option Value} {fm : Fm} {c : Exn} {cls : Value} {dd : Option Addr} {F F1 H1 H : Hp} {ex : Exs} {σ : L2.St} {w : W} {ss : SS} (h : ExcIs K mg fm.a0 H1 c cls dd F H) (r : Rel K fm ex σ H1 F1 w) (s : SrcOk fm.a0 fm.c0 F H ss) : ExcIs K mg fm.a0 fm.G c cls dd F H := by
  obtain ⟨C, d, v, h1, h2, h3, h4, h5, h6, h7⟩ := h
  refine ⟨C, d, v, h1, h2, h3, h4, h5, ?_, h7⟩
  cases e : fm.G d with
  | none => rfl
  | some o =>
    have n : d ≠ fm.a0 := fun z => by subst z; rw [s.at0] at h4; cases h4
    rw [r.gh d o n e] at h6; cases h6

def Fin (X : Cx) (Wx : WX) (fm : Fm) (ex : Exs) (σ : L2.St) (H F : Hp) {α : Type} (k : α → W → Hp → Hp → Prop) : R α → Prop
  | .ok a w' => ∀ H' F', Kp fm.a0 H H' → Ex F F' → Rel X.K fm ex σ H' F' w' → k a w' H' F'
  | .exc c w' => ∀ H' F' cls dd, Kp fm.a0 H H' → Ex F F' → Rel X.K fm ex σ H' F' w' → ExcIs X.K X.mg fm.a0 fm.G c cls dd F' H' → Wx cls dd σ H'
  | .stuck => False
section
variable {X : Cx} {Wx : WX} {fm : Fm} {ex : Exs} {σ : L2.St} {H F H' F' : Hp} {α β : Type} {k : α → W → Hp → Hp → Prop}
theorem Fin.from (h : Fin X Wx fm ex σ H F k r) (kp : Kp fm.a0 H H') (e : Ex F F') : Fin X Wx fm ex σ H' F' k r := by
  cases r with
  | ok a w' => exact fun H2 F2 k2 e2 => h H2 F2 (kp.trans k2) (e.trans e2)
  | exc c w' => exact fun H2 F2 cls dd k2 e2 => h H2 F2 cls dd (kp.trans k2) (e.trans e2)
  | stuck => exact h
theorem Fin.bind {r : R α} {q : α → W → R β} {k : β → W → Hp → Hp → Prop} (h : Fin X Wx fm ex σ H F k (r.bind q)) :
    Fin X Wx fm ex σ H F (fun a w' H' F' => Rel X.K fm ex σ H' F' w' ∧ Kp fm.a0 H H' ∧ Ex F F' ∧ Fin X Wx fm ex σ H' F' k (q a w')) r := by
  cases r with
  | ok a w' => exact fun H' F' kp e r => ⟨r, kp, e, Fin.from (r := q a w') h kp e⟩
  | exc c w' => exact h
  | stuck => exact h
theorem Fin.imp {k k' : α → W → Hp → Hp → Prop} {r : R α} (h : Fin X Wx fm ex σ H F k r) (hi : ∀ a w H' F', k a w H' F' → k' a w H' F') : Fin X Wx fm ex σ H F k' r := by
  cases r with
  | ok a w' => exact fun H' F' kp e r => hi _ _ _ _ (h H' F' kp e r)
  | exc c w' => exact h
  | stuck => exact h
theorem Fin.lift {o : Option α} {w : W} (h : Fin X Wx fm ex σ H F k (R.lift o w)) : ∃ a, o = some a ∧ ∀ H' F', Kp fm.a0 H H' → Ex F F' → Rel X.K fm ex σ H' F' w → k a w H' F' := by
  cases o with
  | some a => exact ⟨a, rfl, h⟩
  | none => exact h.elim
end

/-! ### the judgements over plain data -/
abbrev SEr (X : Cx) (Wx : WX) (fm : Fm) (e : Expr) (m : W → R D) : Prop := ∀ (ex : Exs) (σ : L2.St) (H F : Hp) (w : W) (Q : VK), Rel X.K fm ex σ H F w →
  Fin X Wx fm ex σ H F (fun d _ H' F' => ∀ v, Rp X.K fm.a0 F' v d → Q v H') (m w) → WE X e σ H Q
structure SE (X : Cx) (Wx : WX) (fm : Fm) (e : Expr) (m : W → R D) : Prop where
  run : SEr X Wx fm e m
instance {X : Cx} {Wx : WX} {fm : Fm} {e : Expr} {m : W → R D} : CoeFun (SE X Wx fm e m) (fun _ => SEr X Wx fm e m) := ⟨SE.run⟩
abbrev STtr (X : Cx) (Wx : WX) (fm : Fm) (e : Expr) (m : W → R Bool) : Prop := ∀ (ex : Exs) (σ : L2.St) (H F : Hp) (w : W) (Q : Bool → Hp → Prop), Rel X.K fm ex σ H F w →
  Fin X Wx fm ex σ H F (fun b _ H' _ => Q b H') (m w) → WT X e σ H Q
structure STt (X : Cx) (Wx : WX) (fm : Fm) (e : Expr) (m : W → R Bool) : Prop where
  run : STtr X Wx fm e m
instance {X : Cx} {Wx : WX} {fm : Fm} {e : Expr} {m : W → R Bool} : CoeFun (STt X Wx fm e m) (fun _ => STtr X Wx fm e m) := ⟨STt.run⟩
abbrev SAsr (X : Cx) (Wx : WX) (fm : Fm) (es : List Expr) (m : W → R (List D)) : Prop := ∀ (ex : Exs) (σ : L2.St) (H F : Hp) (w : W) (Q : List V → Hp → Prop), Rel X.K fm ex σ H F w →
  Fin X Wx fm ex σ H F (fun ds _ H' F' => ∀ vs, RpAll X.K fm.a0 F' vs ds → Q vs H') (m w) → WA X es σ H Q
structure SAs (X : Cx) (Wx : WX) (fm : Fm) (es : List Expr) (m : W → R (List D)) : Prop where
  run : SAsr X Wx fm es m
instance {X : Cx} {Wx : WX} {fm : Fm} {es : List Expr} {m : W → R (List D)} : CoeFun (SAs X Wx fm es m) (fun _ => SAsr X Wx fm es m) := ⟨SAs.run⟩
/-- a new list -/
def FinF (X : Cx) (Wx : WX) (fm : Fm) (ex : Exs) (σ : L2.St) (H F : Hp) (Q : VK) : R (List D) → Prop
  | .ok xs w' => ∀ p H' F', Kp fm.a0 H H' → Ex F F' → Rel X.K fm ((p, xs) :: ex) σ H' F' w' → Q (.ref p) H'
  | .exc c w' => ∀ H' F' cls dd, Kp fm.a0 H H' → Ex F F' → Rel X.K fm ex σ H' F' w' → ExcIs X.K X.mg fm.a0 fm.G c cls dd F' H' → Wx cls dd σ H'
  | .stuck => False
abbrev SFr (X : Cx) (Wx : WX) (fm : Fm) (e : Expr) (m : W → R (List D)) : Prop := ∀ (ex : Exs) (σ : L2.St) (H F : Hp) (w : W) (Q : VK), Rel X.K fm ex σ H F w →
  FinF X Wx fm ex σ H F Q (m w) → WE X e σ H Q
structure SF (X : Cx) (Wx : WX) (fm : Fm) (e : Expr) (m : W → R (List D)) : Prop where
  run : SFr X Wx fm e m
instance {X : Cx} {Wx : WX} {fm : Fm} {e : Expr} {m : W → R (List D)} : CoeFun (SF X Wx fm e m) (fun _ => SFr X Wx fm e m) := ⟨SF.run⟩

section
variable {X : Cx} {Wx : WX} {fm : Fm}
/-- a new list as a value -/
def mFrz (m : W → R (List D)) : W → R D := fun w => (m w).bind fun xs w' => .ok (.lst xs) w'
theorem se_frz {e : Expr} {m : W → R (List D)} (h : SF X Wx fm e m) : SE X Wx fm e (mFrz m) := by
  refine ⟨?_⟩
  intro ex σ H F w Q r q
  refine h ex σ H F w Q r ?_
  revert q
  unfold mFrz
  cases m w with
  | ok xs w' =>
    intro q p H' F' kp e r'
    obtain ⟨F2, e2, r2, k2⟩ := r'.frz
    exact q H' F2 kp (e.trans e2) r2 _ k2
  | exc c w' => exact fun q => q
  | stuck => exact fun q => q
def D.flat : D → Bool
  | .non | .bl _ | .int _ | .str _ => true
  | _ => false
theorem Rp.flat {K : PySem.W.Frag} {a0 : Addr} {F F' : Hp} {v : V} {d : D} (h : Rp K a0 F v d) (f : d.flat = true) : Rp K a0 F' v d := by
  cases h with
  | non => exact .non
  | bl b => exact .bl b
  | int i => exact .int i
  | str x => exact .str x
  | tup _ _ => cases f
  | lst _ _ => cases f
  | src => cases f
/-- behind an expression whose value is no object, the names hold what they held -/
def mSc (m : W → R D) : W → R D := fun w => (m w).bind fun d w' => .ok d (if d.flat = true then { env := w.env, ss := w'.ss } else w')
theorem se_sc {e : Expr} {m : W → R D} (h : SE X Wx fm e m) : SE X Wx fm e (mSc m) := by
  refine ⟨?_⟩
  intro ex σ H F w Q r q
  refine h ex σ H F w Q r ?_
  revert q
  unfold mSc
  cases m w with
  | ok d w' =>
    intro q H' F' kp e r' v hv
    cases f : d.flat with
    | true =>
      have q' : Fin X Wx fm ex σ H F (fun d _ H' F' => ∀ v, Rp X.K fm.a0 F' v d → Q v H') (.ok d { env := w.env, ss := w'.ss }) := by
        simpa [f] using q
      exact q' H' F kp (Ex.refl _) (r.unf kp e r') v (hv.flat f)
    | false =>
      have q' : Fin X Wx fm ex σ H F (fun d _ H' F' => ∀ v, Rp X.K fm.a0 F' v d → Q v H') (.ok d w') := by
        simpa [f] using q
      exact q' H' F' kp e r' v hv
  | exc c w' => exact fun q => q
  | stuck => exact fun q => q
def mScT (m : W → R Bool) : W → R Bool := fun w => (m w).bind fun b w' => .ok b { env := w.env, ss := w'.ss }
theorem st_sc {e : Expr} {m : W → R Bool} (h : STt X Wx fm e m) : STt X Wx fm e (mScT m) := by
  refine ⟨?_⟩
  intro ex σ H F w Q r q
  refine h ex σ H F w Q r ?_
  revert q
  unfold mScT
  cases m w with
  | ok d w' => exact fun q H' F' kp e r' => q H' F kp (Ex.refl _) (r.unf kp e r')
  | exc c w' => exact fun q => q
  | stuck => exact fun q => q

/-! ### names, constants -/
def mVar (i : Nat) : W → R D := fun w => match w.env[i]? with
  | some (some (.val d)) => .ok d w
  | some (some (.own xs)) => .ok (.lst xs) { w with env := w.env.set i (some (.val (.lst xs))) }
  | _ => .stuck
theorem se_var {i : Nat} {x : Str} {pos : Pos} (hN : X.N[i]? = some x := by rfl) (hv : Vis X.env.scope x := by first | exact Or.inl rfl | exact Or.inr (Or.inl rfl) | exact Or.inr (Or.inr rfl)) (hd : (x == ("__debug__" : Str)) = false := by decide)
    (hcd : (x == ("__classdict__" : Str)) = false := by decide) : SE X Wx fm (.Name x pos) (mVar i) := by
  refine ⟨?_⟩
  intro ex σ H F w Q r q
  refine WE.of (pe_var hN hv hd hcd) ?_
  revert q
  unfold mVar
  split
  · rename_i d h
    intro q
    obtain ⟨v, e, k⟩ := r.slot i _ h
    exact ⟨v, e, q H F Kp.refl (Ex.refl _) r v k⟩
  · rename_i xs h
    intro q
    obtain ⟨p, F', e, ef, r', k⟩ := r.frzSlot h
    exact ⟨_, e, q H F' Kp.refl ef r' _ k⟩
  · exact fun q => q.elim
def mC (d : D) : W → R D := fun w => .ok d w
theorem se_int {i : Int} {j pos} : SE X Wx fm (.Constant (.int i) j pos) (mC (.int i)) := ⟨fun ex σ H F w Q r q => WE.of pe_int (q H F Kp.refl (Ex.refl _) r _ (.int i))⟩
theorem se_bl {b : Bool} {j pos} : SE X Wx fm (.Constant (.bool b) j pos) (mC (.bl b)) := ⟨fun ex σ H F w Q r q => WE.of pe_bl (q H F Kp.refl (Ex.refl _) r _ (.bl b))⟩
theorem se_non {j pos} : SE X Wx fm (.Constant .none j pos) (mC .non) := ⟨fun ex σ H F w Q r q => WE.of pe_non (q H F Kp.refl (Ex.refl _) r _ .non)⟩
theorem se_str {x : Str} {j pos} : SE X Wx fm (.Constant (.str x) j pos) (mC (.str x)) := ⟨fun ex σ H F w Q r q => WE.of pe_str (q H F Kp.refl (Ex.refl _) r _ (.str x))⟩
/-- a module's constant -/
theorem se_glob {x : Str} {v : V} {d : D} {u : Value} {pos : Pos} (hg : Gl X x) (hm : X.mg x = some u) (rv : RelV v u) (hr : ∀ F, Rp X.K fm.a0 F v d) (hd : (x == ("__debug__" : Str)) = false := by decide) : SE X Wx fm (.Name x pos) (mC d) :=
  ⟨fun ex σ H F w Q r q => WE.of (pe_glob hg hm rv hd) (q H F Kp.refl (Ex.refl _) r _ (hr F))⟩

/-! ### operators -/
/-- an operation on data: by values, the heap at most growing -/
def DOp (X : Cx) (a0 : Addr) (f : Value → Value → Sem Value) (g : D → D → Option D) : Prop :=
  ∀ (x y : V) (d e r : D) (H F : Hp) (Q : VK), Ex F H → Rp X.K a0 F x d → Rp X.K a0 F y e → g d e = some r → (∀ v H' F', Gr H F H' F' → Rp X.K a0 F' v r → Q v H') → W2 X f x y H Q
def mBin (g : D → D → Option D) (ma mb : W → R D) : W → R D := fun w => (ma w).bind fun x w1 => (mb w1).bind fun y w2 => R.lift (g x y) w2
theorem se2 {a b : Expr} {ma mb : W → R D} {f : Value → Value → Sem Value} {g : D → D → Option D} {ex : Exs} {σ : L2.St} {H F : Hp} {w : W} {Q : VK} (ho : DOp X fm.a0 f g) (ha : SE X Wx fm a ma) (hb : SE X Wx fm b mb) (r : Rel X.K fm ex σ H F w)
    (q : Fin X Wx fm ex σ H F (fun d _ H' F' => ∀ v, Rp X.K fm.a0 F' v d → Q v H') (mBin g ma mb w)) : tOp (W2 X f) (WE X a) (WE X b) σ H Q := by
  show WE X a σ H fun x H1 => WE X b σ H1 fun y H2 => W2 X f x y H2 Q
  refine ha ex σ H F w _ r ((Fin.bind q).imp fun x w1 H1 F1 ⟨r1, k1, e1, q1⟩ v hv => ?_)
  refine hb ex σ H1 F1 w1 _ r1 ((Fin.bind q1).imp fun y w2 H2 F2 ⟨r2, k2, e2, q2⟩ u hu => ?_)
  obtain ⟨z, hz, q3⟩ := q2.lift
  exact ho v u x y z H2 F2 Q r2.fh (hv.ex e2) hu hz fun t H' F' g hr => q3 H' F' g.kp g.ff (r2.gr g) t hr
theorem se_bin {a b : Expr} {op : Operator} {pos : Pos} {ma mb : W → R D} {g : D → D → Option D} (ho : DOp X fm.a0 (binaryOp op) g) (ha : SE X Wx fm a ma) (hb : SE X Wx fm b mb) : SE X Wx fm (.BinOp a op b pos) (mBin g ma mb) :=
  ⟨fun ex σ H F w Q r q => WE.of (pe_op opr_w2 pe_we pe_we) (se2 ho ha hb r q)⟩
/-- a comparison as a value, as a test -/
theorem se_cmp {a b : Expr} {op : CmpOp} {pos : Pos} {ma mb : W → R D} {g : D → D → Option D} (ho : DOp X fm.a0 (compareOp op) g) (ha : SE X Wx fm a ma) (hb : SE X Wx fm b mb) (hm : behindInMarks op b = false := by first | exact nomark _ | rfl) :
    SE X Wx fm (.Compare a [op] [b] pos) (mBin g ma mb) :=
  ⟨fun ex σ H F w Q r q => WE.of (pe_cmpR opr_w2 pe_we pe_we hm) (se2 ho ha hb r q)⟩
def D.b? : D → Option Bool
  | .bl b => some b
  | _ => none
theorem Rp.b {K : PySem.W.Frag} {a0 : Addr} {F : Hp} {v : V} {d : D} {b : Bool} (h : Rp K a0 F v d) (e : d.b? = some b) : v = .bl b := by
  cases h <;> cases e
  rfl
def mB (m : W → R D) : W → R Bool := fun w => (m w).bind fun d w' => R.lift d.b? w'
theorem fin_b {r : R D} {ex : Exs} {σ : L2.St} {H F : Hp} {Q : Bool → Hp → Prop} (q : Fin X Wx fm ex σ H F (fun b _ H' _ => Q b H') (r.bind fun d w' => R.lift d.b? w')) :
    Fin X Wx fm ex σ H F (fun d _ H' F' => ∀ v, Rp X.K fm.a0 F' v d → ∃ k, v = .bl k ∧ Q k H') r := by
  cases r with
  | ok d w' =>
    intro H' F' kp e r' v hv
    obtain ⟨b, hb, q⟩ := Fin.lift (o := d.b?) (w := w') q
    exact ⟨b, hv.b hb, q H' F' kp e r'⟩
  | exc c w' => exact q
  | stuck => exact q
theorem st_cmp {a b : Expr} {op : CmpOp} {pos : Pos} {ma mb : W → R D} {g : D → D → Option D} (ho : DOp X fm.a0 (compareOp op) g) (ha : SE X Wx fm a ma) (hb : SE X Wx fm b mb) (hm : behindInMarks op b = false := by first | exact nomark _ | rfl) :
    STt X Wx fm (.Compare a [op] [b] pos) (mB (mBin g ma mb)) :=
  ⟨fun ex σ H F w Q r q => WT.of (pt_cmpR opr_w2 pe_we pe_we hm) (se2 ho ha hb r (fin_b q))⟩
/-- two comparisons in a row -/
def mChain (g g' : D → D → Option D) (ma mb mc : W → R D) : W → R D := fun w => (ma w).bind fun x w1 => (mb w1).bind fun y w2 => (R.lift ((g x y).bind D.b?) w2).bind fun k w3 =>
  if k = true then (mc w3).bind fun z w4 => R.lift (g' y z) w4 else .ok (.bl false) w3
theorem se_chain0 {a b c : Expr} {op op' : CmpOp} {ma mb mc : W → R D} {g g' : D → D → Option D} {ex : Exs} {σ : L2.St} {H F : Hp} {w : W} {Q : VK} (ho : DOp X fm.a0 (compareOp op) g) (ho' : DOp X fm.a0 (compareOp op') g') (ha : SE X Wx fm a ma) (hb : SE X Wx fm b mb) (hc : SE X Wx fm c mc)
    (r : Rel X.K fm ex σ H F w) (q : Fin X Wx fm ex σ H F (fun d _ H' F' => ∀ v, Rp X.K fm.a0 F' v d → Q v H') (mChain g g' ma mb mc w)) :
    tChain (W2 X (compareOp op)) (W2 X (compareOp op')) (WE X a) (WE X b) (WE X c) σ H Q := by
  show WE X a σ H fun x H1 => WE X b σ H1 fun y H2 => W2 X (compareOp op) x y H2 fun z H3 => ∃ k, z = .bl k ∧ if k = true then WE X c σ H3 fun w' H4 => W2 X (compareOp op') y w' H4 Q else Q (.bl false) H3
  refine ha ex σ H F w _ r ((Fin.bind q).imp fun x w1 H1 F1 ⟨r1, k1, e1, q1⟩ v hv => ?_)
  refine hb ex σ H1 F1 w1 _ r1 ((Fin.bind q1).imp fun y w2 H2 F2 ⟨r2, k2, e2, q2⟩ u hu => ?_)
  cases hz : g x y with
  | none => rw [hz] at q2; exact (show False from q2).elim
  | some z =>
    rw [hz] at q2
    cases hb : z.b? with
    | none =>
      have q2 : Fin X Wx fm ex σ H2 F2 (fun d _ H' F' => ∀ v, Rp X.K fm.a0 F' v d → Q v H') ((R.lift (z.b?) w2).bind _) := q2
      rw [hb] at q2; exact (show False from q2).elim
    | some k =>
      have q2 : Fin X Wx fm ex σ H2 F2 (fun d _ H' F' => ∀ v, Rp X.K fm.a0 F' v d → Q v H') ((R.lift (z.b?) w2).bind _) := q2
      rw [hb] at q2
      refine ho v u x y z H2 F2 _ r2.fh (hv.ex e2) hu hz fun t H3 F3 g hr => ⟨k, hr.b hb, ?_⟩
      have r3 := r2.gr g
      cases k with
      | false => exact (show Q (.bl false) H3 from q2 H3 F3 g.kp g.ff r3 _ (.bl false))
      | true =>
        have q3 : Fin X Wx fm ex σ H2 F2 (fun d _ H' F' => ∀ v, Rp X.K fm.a0 F' v d → Q v H') ((mc w2).bind fun z w4 => R.lift (g' y z) w4) := q2
        show WE X c σ H3 fun w' H4 => W2 X (compareOp op') u w' H4 Q
        refine hc ex σ H3 F3 w2 _ r3 ((Fin.bind (q3.from g.kp g.ff)).imp fun z' w4 H4 F4 ⟨r4, k4, e4, q4⟩ t' ht' => ?_)
        obtain ⟨z2, hz2, q5⟩ := q4.lift
        exact ho' u t' y z' z2 H4 F4 Q r4.fh ((hu.ex g.ff).ex e4) ht' hz2 fun t H' F' g hr => q5 H' F' g.kp g.ff (r4.gr g) t hr
theorem se_chain {a b c : Expr} {op op' : CmpOp} {pos : Pos} {ma mb mc : W → R D} {g g' : D → D → Option D} (ho : DOp X fm.a0 (compareOp op) g) (ho' : DOp X fm.a0 (compareOp op') g') (ha : SE X Wx fm a ma) (hb : SE X Wx fm b mb) (hc : SE X Wx fm c mc)
    (hm : lastMarks [op, op'] [b, c] = false := by with_unfolding_all rfl) : SE X Wx fm (.Compare a [op, op'] [b, c] pos) (mChain g g' ma mb mc) :=
  ⟨fun ex σ H F w Q r q => WE.of (pe_chain opr_w2 opr_w2 pe_we pe_we pe_we hm) (se_chain0 ho ho' ha hb hc r q)⟩
theorem st_chain {a b c : Expr} {op op' : CmpOp} {pos : Pos} {ma mb mc : W → R D} {g g' : D → D → Option D} (ho : DOp X fm.a0 (compareOp op) g) (ho' : DOp X fm.a0 (compareOp op') g') (ha : SE X Wx fm a ma) (hb : SE X Wx fm b mb) (hc : SE X Wx fm c mc)
    (hm : lastMarks [op, op'] [b, c] = false := by with_unfolding_all rfl) : STt X Wx fm (.Compare a [op, op'] [b, c] pos) (mB (mChain g g' ma mb mc)) :=
  ⟨fun ex σ H F w Q r q => WT.of (pt_chain opr_w2 opr_w2 pe_we pe_we pe_we hm) (se_chain0 ho ho' ha hb hc r (fin_b q))⟩

/-! ### tests -/
def D.tru : D → Option Bool
  | .non => some false
  | .bl b => some b
  | .int i => some (i != 0)
  | .tup l => some (!l.isEmpty)
  | .lst l => some (!l.isEmpty)
  | _ => none
theorem RpAll.emp {K : PySem.W.Frag} {a0 : Addr} {F : Hp} {vs : List V} {ds : List D} (h : RpAll K a0 F vs ds) : vs.isEmpty = ds.isEmpty := by
  cases h <;> rfl
theorem Rp.tru {K : PySem.W.Frag} {a0 : Addr} {F H : Hp} {v : V} {d : D} {b : Bool} (h : Rp K a0 F v d) (hf : Ex F H) (e : d.tru = some b) : TruV K v H b := by
  cases h with
  | non => cases e; rfl
  | bl b => cases e; rfl
  | int i => cases e; rfl
  | str x => cases e
  | src => cases e
  | tup hs ha =>
    cases e
    exact Or.inr (Or.inl ⟨_, ex_t hf hs, by rw [ha.emp]⟩)
  | lst hs ha =>
    cases e
    exact Or.inl ⟨_, .inl (.inl (hf _ _ hs)), by rw [ha.emp]⟩
def mTru (m : W → R D) : W → R Bool := fun w => (m w).bind fun d w' => R.lift d.tru w'
theorem st_tru {e : Expr} {m : W → R D} (h : SE X Wx fm e m) (he : ∀ whole, isTrue e X.env whole = (do let v ← whole; standAt e.pos; holding [v] (truthy v)) := by intro _; rfl) : STt X Wx fm e (mTru m) := by
  refine ⟨?_⟩
  intro ex σ H F w Q r q
  refine WT.of (pt_truth pe_we he) ?_
  refine h ex σ H F w _ r ((Fin.bind q).imp fun d w1 H1 F1 ⟨r1, k1, e1, q1⟩ v hv => ?_)
  obtain ⟨b, hb, q2⟩ := q1.lift
  exact ⟨b, hv.tru r1.fh hb, q2 H1 F1 Kp.refl (Ex.refl _) r1⟩
def mNotT (m : W → R Bool) : W → R Bool := fun w => (m w).bind fun b w' => .ok (!b) w'
theorem st_not {a : Expr} {pos : Pos} {m : W → R Bool} (h : STt X Wx fm a m) : STt X Wx fm (.UnaryOp .Not a pos) (mNotT m) := by
  refine ⟨?_⟩
  intro ex σ H F w Q r q
  refine WT.of (pt_not pt_wt) ?_
  exact h ex σ H F w _ r ((Fin.bind q).imp fun b w1 H1 F1 ⟨r1, k1, e1, q1⟩ => q1 H1 F1 Kp.refl (Ex.refl _) r1)
def mAndT (m n : W → R Bool) : W → R Bool := fun w => (m w).bind fun b w' => if b = true then n w' else .ok false w'
def mOrT (m n : W → R Bool) : W → R Bool := fun w => (m w).bind fun b w' => if b = true then .ok true w' else n w'
/-- a chain of and, or: whatever its whole is -/
def SW (X : Cx) (Wx : WX) (fm : Fm) (e : Expr) (m : W → R Bool) : Prop := ∃ t, PW X e t ∧ ∀ (ex : Exs) (σ : L2.St) (H F : Hp) (w : W) (Q : Bool → Hp → Prop), Rel X.K fm ex σ H F w → Fin X Wx fm ex σ H F (fun b _ H' _ => Q b H') (m w) → t σ H Q
theorem SW.st {e : Expr} {m : W → R Bool} (h : SW X Wx fm e m) : STt X Wx fm e m := by
  refine ⟨fun ex σ H F w Q r q => ?_⟩
  obtain ⟨t, p, g⟩ := h
  exact WT.of p.pt (g ex σ H F w Q r q)
theorem sw_and1 {a : Expr} {pos : Pos} {m : W → R Bool} (h : STt X Wx fm a m) : SW X Wx fm (.BoolOp .And [a] pos) m := ⟨_, pw_and1 pt_wt, h⟩
theorem sw_or1 {a : Expr} {pos : Pos} {m : W → R Bool} (h : STt X Wx fm a m) : SW X Wx fm (.BoolOp .Or [a] pos) m := ⟨_, pw_or1 pt_wt, h⟩
theorem sw_and {a b : Expr} {rest : List Expr} {pos : Pos} {m n : W → R Bool} (h : STt X Wx fm a m) (g : SW X Wx fm (.BoolOp .And (b :: rest) pos) n) : SW X Wx fm (.BoolOp .And (a :: b :: rest) pos) (mAndT m n) := by
  obtain ⟨t, p, g⟩ := g
  refine ⟨_, pw_and pt_wt p, fun ex σ H F w Q r q => ?_⟩
  refine h ex σ H F w _ r ((Fin.bind q).imp fun b w1 H1 F1 ⟨r1, k1, e1, q1⟩ => ?_)
  cases b with
  | true => exact g ex σ H1 F1 w1 Q r1 q1
  | false => exact q1 H1 F1 Kp.refl (Ex.refl _) r1
theorem sw_or {a b : Expr} {rest : List Expr} {pos : Pos} {m n : W → R Bool} (h : STt X Wx fm a m) (g : SW X Wx fm (.BoolOp .Or (b :: rest) pos) n) : SW X Wx fm (.BoolOp .Or (a :: b :: rest) pos) (mOrT m n) := by
  obtain ⟨t, p, g⟩ := g
  refine ⟨_, pw_or pt_wt p, fun ex σ H F w Q r q => ?_⟩
  refine h ex σ H F w _ r ((Fin.bind q).imp fun b w1 H1 F1 ⟨r1, k1, e1, q1⟩ => ?_)
  cases b with
  | true => exact q1 H1 F1 Kp.refl (Ex.refl _) r1
  | false => exact g ex σ H1 F1 w1 Q r1 q1
/-- and, or as values: all but the last True or False -/
def mAndV (m n : W → R D) : W → R D := fun w => (m w).bind fun d w' => (R.lift d.b? w').bind fun b w2 => if b = true then n w2 else .ok (.bl false) w2
def mOrV (m n : W → R D) : W → R D := fun w => (m w).bind fun d w' => (R.lift d.b? w').bind fun b w2 => if b = true then .ok (.bl true) w2 else n w2
theorem se_one {op : BoolOp} {a : Expr} {pos : Pos} {m : W → R D} (h : SE X Wx fm a m) : SE X Wx fm (.BoolOp op [a] pos) m := ⟨fun ex σ H F w Q r q => WE.of (pe_one pe_we) (h ex σ H F w Q r q)⟩
theorem se_and {a b : Expr} {rest : List Expr} {pos : Pos} {m n : W → R D} (h : SE X Wx fm a m) (g : SE X Wx fm (.BoolOp .And (b :: rest) pos) n) : SE X Wx fm (.BoolOp .And (a :: b :: rest) pos) (mAndV m n) := by
  refine ⟨?_⟩
  intro ex σ H F w Q r q
  refine WE.of (pe_and pe_we pe_we) ?_
  refine h ex σ H F w _ r ((Fin.bind q).imp fun d w1 H1 F1 ⟨r1, k1, e1, q1⟩ v hv => ?_)
  cases hb : d.b? with
  | none => rw [hb] at q1; exact (show False from q1).elim
  | some b =>
    rw [hb] at q1
    refine ⟨b, hv.b hb, ?_⟩
    cases b with
    | true => exact g ex σ H1 F1 w1 Q r1 q1
    | false => exact q1 H1 F1 Kp.refl (Ex.refl _) r1 _ (.bl false)
theorem se_or {a b : Expr} {rest : List Expr} {pos : Pos} {m n : W → R D} (h : SE X Wx fm a m) (g : SE X Wx fm (.BoolOp .Or (b :: rest) pos) n) : SE X Wx fm (.BoolOp .Or (a :: b :: rest) pos) (mOrV m n) := by
  refine ⟨?_⟩
  intro ex σ H F w Q r q
  refine WE.of (pe_or pe_we pe_we) ?_
  refine h ex σ H F w _ r ((Fin.bind q).imp fun d w1 H1 F1 ⟨r1, k1, e1, q1⟩ v hv => ?_)
  cases hb : d.b? with
  | none => rw [hb] at q1; exact (show False from q1).elim
  | some b =>
    rw [hb] at q1
    refine ⟨b, hv.b hb, ?_⟩
    cases b with
    | true => exact q1 H1 F1 Kp.refl (Ex.refl _) r1 _ (.bl true)
    | false => exact g ex σ H1 F1 w1 Q r1 q1
def mNotV (m : W → R D) : W → R D := fun w => (m w).bind fun d w' => (R.lift d.b? w').bind fun b w2 => .ok (.bl (!b)) w2
theorem se_not {a : Expr} {pos : Pos} {m : W → R D} (h : SE X Wx fm a m) : SE X Wx fm (.UnaryOp .Not a pos) (mNotV m) := by
  refine ⟨?_⟩
  intro ex σ H F w Q r q
  refine WE.of (pe_not pe_we) ?_
  refine h ex σ H F w _ r ((Fin.bind q).imp fun d w1 H1 F1 ⟨r1, k1, e1, q1⟩ v hv => ?_)
  cases hb : d.b? with
  | none => rw [hb] at q1; exact (show False from q1).elim
  | some b =>
    rw [hb] at q1
    exact ⟨b, hv.b hb, q1 H1 F1 Kp.refl (Ex.refl _) r1 _ (.bl _)⟩
def mIfE (t : W → R Bool) (m n : W → R D) : W → R D := fun w => (t w).bind fun b w' => if b = true then m w' else n w'
theorem se_if {c a b : Expr} {pos : Pos} {t : W → R Bool} {m n : W → R D} (hc : STt X Wx fm c t) (ha : SE X Wx fm a m) (hb : SE X Wx fm b n) : SE X Wx fm (.IfExp c a b pos) (mIfE t m n) := by
  refine ⟨?_⟩
  intro ex σ H F w Q r q
  refine WE.of (pe_ifExp pt_wt pe_we pe_we) ?_
  refine hc ex σ H F w _ r ((Fin.bind q).imp fun b w1 H1 F1 ⟨r1, k1, e1, q1⟩ => ?_)
  cases b with
  | true => exact ha ex σ H1 F1 w1 Q r1 q1
  | false => exact hb ex σ H1 F1 w1 Q r1 q1
/-- -a, ~a -/
def DUn (X : Cx) (a0 : Addr) (f : Value → Sem Value) (g : D → Option D) : Prop :=
  ∀ (x : V) (d r : D) (H F : Hp) (Q : VK), Ex F H → Rp X.K a0 F x d → g d = some r → (∀ v H' F', Gr H F H' F' → Rp X.K a0 F' v r → Q v H') → W1 X f x H Q
def mUn (g : D → Option D) (m : W → R D) : W → R D := fun w => (m w).bind fun d w' => R.lift (g d) w'
theorem se_un {a : Expr} {op : UnaryOp} {pos : Pos} {m : W → R D} {g : D → Option D} (ho : DUn X fm.a0 (unaryOp op) g) (h : SE X Wx fm a m) : SE X Wx fm (.UnaryOp op a pos) (mUn g m) := by
  refine ⟨?_⟩
  intro ex σ H F w Q r q
  refine WE.of (pe_un unr_w1 pe_we) ?_
  refine h ex σ H F w _ r ((Fin.bind q).imp fun d w1 H1 F1 ⟨r1, k1, e1, q1⟩ v hv => ?_)
  obtain ⟨z, hz, q2⟩ := q1.lift
  exact ho v d z H1 F1 Q r1.fh hv hz fun t H' F' g hr => q2 H' F' g.kp g.ff (r1.gr g) t hr
def gNeg : D → Option D
  | .int i => some (.int (-i))
  | _ => none
theorem dun_neg {a0 : Addr} : DUn X a0 (unaryOp .USub) gNeg := by
  intro x d r H F Q hf hx hg k
  cases hx <;> cases hg
  exact W1.of un_neg ⟨_, rfl, k _ _ _ (Gr.refl hf) (.int _)⟩

/-! ### argument lists, tuples, lists -/
def mNil : W → R (List D) := fun w => .ok [] w
def mCons (m : W → R D) (n : W → R (List D)) : W → R (List D) := fun w => (m w).bind fun d w1 => (n w1).bind fun ds w2 => .ok (d :: ds) w2
theorem sa_nil : SAs X Wx fm [] mNil := ⟨fun ex σ H F w Q r q => WA.of pa_nil (q H F Kp.refl (Ex.refl _) r _ .nil)⟩
def noStar : Expr → Bool
  | .Starred .. => false
  | _ => true
theorem star_cons {e : Expr} {es : List Expr} {env : PySem.Env} (h : noStar e = true) : starEach (e :: es) env = (false, eval e env) :: starEach es env := by
  cases e <;> first | rfl | cases h
theorem sa_cons {e : Expr} {es : List Expr} {m : W → R D} {n : W → R (List D)} (h : SE X Wx fm e m) (g : SAs X Wx fm es n) (hn : noStar e = true := by rfl) : SAs X Wx fm (e :: es) (mCons m n) := by
  have hs : starEach (e :: es) X.env = (false, eval e X.env) :: starEach es X.env := star_cons hn
  refine ⟨?_⟩
  intro ex σ H F w Q r q
  refine WA.of (pa_cons pe_we pa_wa hs) ?_
  show WE X e σ H fun x H1 => WA X es σ H1 fun xs H2 => Q (x :: xs) H2
  refine h ex σ H F w _ r ((Fin.bind q).imp fun d w1 H1 F1 ⟨r1, k1, e1, q1⟩ v hv => ?_)
  refine g ex σ H1 F1 w1 _ r1 ((Fin.bind q1).imp fun ds w2 H2 F2 ⟨r2, k2, e2, q2⟩ vs hvs => ?_)
  exact q2 H2 F2 Kp.refl (Ex.refl _) r2 _ (.cons (hv.ex e2) hvs)
def mTup (m : W → R (List D)) : W → R D := fun w => (m w).bind fun ds w' => R.lift (if ds.length ≤ 1000000 then some (.tup ds) else none) w'
theorem line_of {n : Nat} (h : n ≤ 1000000) : n ≤ sizeLine := Nat.le_trans h (by rw [sizeLine_eq]; decide)
theorem line_lt {n : Nat} (h : n ≤ 1000000) : n < sizeLine := Nat.lt_of_le_of_lt h (by rw [sizeLine_eq]; decide)
theorem se_tup {es : List Expr} {x1} {pos : Pos} {m : W → R (List D)} (h : SAs X Wx fm es m) : SE X Wx fm (.Tuple es x1 pos) (mTup m) := by
  refine ⟨?_⟩
  intro ex σ H F w Q r q
  refine WE.of (pe_tup pa_wa) ?_
  refine h ex σ H F w _ r ((Fin.bind q).imp fun ds w1 H1 F1 ⟨r1, k1, e1, q1⟩ vs hvs => ?_)
  by_cases hl : ds.length ≤ 1000000
  · rw [if_pos hl] at q1
    refine ⟨line_of (by rw [hvs.len]; exact hl), fun p hp => ?_⟩
    have g : Gr H1 F1 (upd H1 p (.tup vs)) (upd F1 p (.tup vs)) := Gr.new r1.fh hp
    exact q1 _ _ g.kp g.ff (r1.gr g) _ (.tup (.inl (.inl upd_same)) (hvs.ex g.ff))
  · rw [if_neg hl] at q1
    exact (show False from q1).elim
def mLst (m : W → R (List D)) : W → R (List D) := fun w => (m w).bind fun ds w' => R.lift (if ds.length ≤ 1000000 then some ds else none) w'
theorem FinF.bind {r : R (List D)} {q : List D → W → R (List D)} {ex : Exs} {σ : L2.St} {H F : Hp} {Q : VK} (h : FinF X Wx fm ex σ H F Q (r.bind q)) :
    Fin X Wx fm ex σ H F (fun a w' H' F' => Rel X.K fm ex σ H' F' w' ∧ Kp fm.a0 H H' ∧ Ex F F' ∧ FinF X Wx fm ex σ H' F' Q (q a w')) r := by
  cases r with
  | ok a w' =>
    intro H' F' kp e r
    refine ⟨r, kp, e, ?_⟩
    have h : FinF X Wx fm ex σ H F Q (q a w') := h
    revert h
    cases q a w' with
    | ok b w2 => exact fun h p H2 F2 k2 e2 => h p H2 F2 (kp.trans k2) (e.trans e2)
    | exc c w2 => exact fun h H2 F2 cls dd k2 e2 => h H2 F2 cls dd (kp.trans k2) (e.trans e2)
    | stuck => exact fun h => h
  | exc c w' => exact h
  | stuck => exact h
theorem FinF.bindD {r : R D} {q : D → W → R (List D)} {ex : Exs} {σ : L2.St} {H F : Hp} {Q : VK} (h : FinF X Wx fm ex σ H F Q (r.bind q)) :
    Fin X Wx fm ex σ H F (fun a w' H' F' => Rel X.K fm ex σ H' F' w' ∧ Kp fm.a0 H H' ∧ Ex F F' ∧ FinF X Wx fm ex σ H' F' Q (q a w')) r := by
  cases r with
  | ok a w' =>
    intro H' F' kp e r
    refine ⟨r, kp, e, ?_⟩
    have h : FinF X Wx fm ex σ H F Q (q a w') := h
    revert h
    cases q a w' with
    | ok b w2 => exact fun h p H2 F2 k2 e2 => h p H2 F2 (kp.trans k2) (e.trans e2)
    | exc c w2 => exact fun h H2 F2 cls dd k2 e2 => h H2 F2 cls dd (kp.trans k2) (e.trans e2)
    | stuck => exact fun h => h
  | exc c w' => exact h
  | stuck => exact h
theorem sf_lst {es : List Expr} {pos : Pos} {m : W → R (List D)} (h : SAs X Wx fm es m) : SF X Wx fm (.List es pos) (mLst m) := by
  refine ⟨?_⟩
  intro ex σ H F w Q r q
  refine WE.of (pe_lst pa_wa) ?_
  refine h ex σ H F w _ r ((FinF.bind q).imp fun ds w1 H1 F1 ⟨r1, k1, e1, q1⟩ vs hvs => ?_)
  by_cases hl : ds.length ≤ 1000000
  · rw [if_pos hl] at q1
    refine ⟨line_of (by rw [hvs.len]; exact hl), fun p hp => ?_⟩
    exact q1 p _ F1 (Gr.dark r1.fh hp).kp (Ex.refl _) (r1.lay hp hvs)
  · rw [if_neg hl] at q1
    exact (show False from q1).elim
end
end TD

set_option Elab.async false
set_option linter.all false
set_option maxRecDepth 100000
set_option maxHeartbeats 4000000
namespace TD
open PySem PySem.Spec PyProof.Rows L2

/-! ### operations on data -/
def gAdd : D → D → Option D
  | .int a, .int b => some (.int (a + b))
  | .str a, .str b => if a.length + b.length ≤ 1000000 then some (.str (a ++ b)) else none
  | .tup a, .tup b => if a.length + b.length ≤ 1000000 then some (.tup (a ++ b)) else none
  | _, _ => none
def gSub : D → D → Option D
  | .int a, .int b => some (.int (a - b))
  | _, _ => none
def mulOk (i j : Int) : Bool := decide (i.natAbs < 2 ^ 64) || decide (j.natAbs < 2 ^ 64) || decide (i.natAbs.log2 + j.natAbs.log2 < 1000000)
def gMul : D → D → Option D
  | .int a, .int b => if mulOk a b = true then some (.int (a * b)) else none
  | _, _ => none
def divOk (j : Int) : Bool := decide (0 < j) && decide (j.natAbs.log2 < 9000)
def gDiv : D → D → Option D
  | .int a, .int b => if divOk b = true then some (.int (a / b)) else none
  | _, _ => none
def gMod : D → D → Option D
  | .int a, .int b => if 0 < b then some (.int (a % b)) else none
  | _, _ => none
def gPow : D → D → Option D
  | .int a, .int b => if 0 ≤ b ∧ b ≤ 1000000 ∧ a.natAbs < 2 ^ 64 then some (.int (a ^ b.toNat)) else none
  | _, _ => none
def gShl : D → D → Option D
  | .int a, .int b => if 0 ≤ b ∧ (Builtin.Int.intBits a : Int) + b ≤ 2 ^ 27 then some (.int (a * 2 ^ b.toNat)) else none
  | _, _ => none
def gShr : D → D → Option D
  | .int a, .int b => if 0 ≤ b then some (.int (a / 2 ^ b.toNat)) else none
  | _, _ => none
def gAnd : D → D → Option D
  | .int a, .int b => some (.int (Builtin.bitAnd a b))
  | _, _ => none
def gOr : D → D → Option D
  | .int a, .int b => some (.int (Builtin.bitOr a b))
  | _, _ => none
def gXor : D → D → Option D
  | .int a, .int b => some (.int (Builtin.bitXor a b))
  | _, _ => none
def gLt : D → D → Option D
  | .int a, .int b => some (.bl (decide (a < b)))
  | .str a, .str b => some (.bl (decide (a.cps.toList < b.cps.toList)))
  | _, _ => none
def gLe : D → D → Option D
  | .int a, .int b => some (.bl (decide (a ≤ b)))
  | _, _ => none
def gGt : D → D → Option D
  | .int a, .int b => some (.bl (decide (b < a)))
  | _, _ => none
def gGe : D → D → Option D
  | .int a, .int b => some (.bl (decide (b ≤ a)))
  | _, _ => none
mutual
def D.py : D → PyData
  | .non => .none
  | .bl b => .bool b
  | .int i => .int i
  | .str x => .str x
  | .tup l => .tuple (D.pys l)
  | .lst l => .list (D.pys l)
  | .src => .dict []
def D.pys : List D → List PyData
  | [] => []
  | d :: ds => d.py :: D.pys ds
end
mutual
def D.eqv : D → D → Bool
  | .non, .non => true
  | .bl a, .bl b => a == b
  | .bl a, .int j => (if a then 1 else 0) == j
  | .int i, .bl b => i == (if b then 1 else 0)
  | .int i, .int j => i == j
  | .str x, .str y => x == y
  | .lst xs, .lst ys => D.eqvs xs ys
  | .tup xs, .tup ys => D.eqvs xs ys
  | _, _ => false
def D.eqvs : List D → List D → Bool
  | [], [] => true
  | x :: xs, y :: ys => D.eqv x y && D.eqvs xs ys
  | _, _ => false
end
mutual
theorem eqv_py : ∀ d e : D, PyData.eqv d.py e.py = D.eqv d e
  | .non, e => by cases e <;> simp [D.py, PyData.eqv, D.eqv]
  | .bl _, e => by cases e <;> simp [D.py, PyData.eqv, D.eqv]
  | .int _, e => by cases e <;> simp [D.py, PyData.eqv, D.eqv]
  | .str _, e => by cases e <;> simp [D.py, PyData.eqv, D.eqv]
  | .src, e => by cases e <;> simp [D.py, PyData.eqv, D.eqv]
  | .tup l, e => by
    cases e with
    | tup m => simp only [D.py, PyData.eqv, D.eqv]; exact eqvs_py l m
    | _ => simp [D.py, PyData.eqv, D.eqv]
  | .lst l, e => by
    cases e with
    | lst m => simp only [D.py, PyData.eqv, D.eqv]; exact eqvs_py l m
    | _ => simp [D.py, PyData.eqv, D.eqv]
theorem eqvs_py : ∀ l m : List D, PyData.eqvAll (D.pys l) (D.pys m) = D.eqvs l m
  | [], [] => by simp [D.pys, PyData.eqvAll, D.eqvs]
  | [], _ :: _ => by simp [D.pys, PyData.eqvAll, D.eqvs]
  | _ :: _, [] => by simp [D.pys, PyData.eqvAll, D.eqvs]
  | x :: xs, y :: ys => by
    simp only [D.pys, PyData.eqvAll, D.eqvs]
    rw [eqv_py x y, eqvs_py xs ys]
end
mutual
/-- may be compared: no source, signs that are signs, not too deep -/
def D.okb : Nat → D → Bool
  | _, .non | _, .bl _ | _, .int _ => true
  | _, .str x => PyData.strOk x
  | 0, .tup _ | 0, .lst _ => false
  | n + 1, .tup l | n + 1, .lst l => D.oks n l
  | _, .src => false
def D.oks : Nat → List D → Bool
  | _, [] => true
  | n, d :: ds => d.okb n && D.oks n ds
end
mutual
theorem okb_py : ∀ (d : D) (n : Nat), d.okb n = true → d.py.canLay0 = true ∧ d.py.depth ≤ n
  | .non, n, _ => by simp [D.py, PyData.canLay0, PyData.depth]
  | .bl _, n, _ => by simp [D.py, PyData.canLay0, PyData.depth]
  | .int _, n, _ => by simp [D.py, PyData.canLay0, PyData.depth]
  | .str x, n, h => by
    have h' : PyData.strOk x = true := by cases n <;> simpa [D.okb] using h
    simp [D.py, PyData.canLay0, PyData.depth, h']
  | .src, n, h => by cases n <;> simp [D.okb] at h
  | .tup l, 0, h => by simp [D.okb] at h
  | .tup l, n + 1, h => by
    have := oks_py l n (by simpa [D.okb] using h)
    simp only [D.py, PyData.canLay0, PyData.depth]
    exact ⟨this.1, by omega⟩
  | .lst l, 0, h => by simp [D.okb] at h
  | .lst l, n + 1, h => by
    have := oks_py l n (by simpa [D.okb] using h)
    simp only [D.py, PyData.canLay0, PyData.depth]
    exact ⟨this.1, by omega⟩
theorem oks_py : ∀ (l : List D) (n : Nat), D.oks n l = true → PyData.canLayAll0 (D.pys l) = true ∧ PyData.depthAll (D.pys l) ≤ n
  | [], n, _ => by simp [D.pys, PyData.canLayAll0, PyData.depthAll]
  | d :: ds, n, h => by
    have h' : d.okb n = true ∧ D.oks n ds = true := by simpa [D.oks] using h
    have h1 := okb_py d n h'.1
    have h2 := oks_py ds n h'.2
    simp only [D.pys, PyData.canLayAll0, PyData.depthAll, h1.1, h2.1, Bool.and_self, true_and]
    omega
end
theorem shaped_of {d : D} (h : d.okb 64 = true) : SeqAt.shaped d.py = true := by
  have := okb_py d 64 h
  unfold SeqAt.shaped
  rw [this.1, decide_eq_true this.2]
  rfl
mutual
theorem Rp.dp {K : PySem.W.Frag} {a0 : Addr} {F : Hp} : ∀ (d : D) (v : V) (n : Nat), d.okb n = true → Rp K a0 F v d → Dp K F v d.py
  | .non, _, _, _, h => by cases h; exact .non
  | .bl _, _, _, _, h => by cases h; exact .bl _
  | .int _, _, _, _, h => by cases h; exact .int _
  | .str _, _, _, _, h => by cases h; exact .str _
  | .src, _, n, o, _ => by cases n <;> simp [D.okb] at o
  | .tup l, _, 0, o, _ => by simp [D.okb] at o
  | .tup l, _, n + 1, o, h => by
    cases h with
    | tup hs ha => exact .tup hs (RpAll.dp l _ n (by simpa [D.okb] using o) ha)
  | .lst l, _, 0, o, _ => by simp [D.okb] at o
  | .lst l, _, n + 1, o, h => by
    cases h with
    | lst hs ha => exact .lst (.inl (.inl hs)) (RpAll.dp l _ n (by simpa [D.okb] using o) ha)
theorem RpAll.dp {K : PySem.W.Frag} {a0 : Addr} {F : Hp} : ∀ (ds : List D) (vs : List V) (n : Nat), D.oks n ds = true → RpAll K a0 F vs ds → DpAll K F vs (D.pys ds)
  | [], _, _, _, h => by cases h; exact .nil
  | d :: ds, _, n, o, h => by
    have h' : d.okb n = true ∧ D.oks n ds = true := by simpa [D.oks] using o
    cases h with
    | cons h1 h2 => exact .cons (Rp.dp d _ n h'.1 h1) (RpAll.dp ds _ n h'.2 h2)
end
def gEq (d e : D) : Option D := if (d.okb 64 && e.okb 64) = true then some (.bl (D.eqv d e)) else none
def gNe (d e : D) : Option D := if (d.okb 64 && e.okb 64) = true then some (.bl (!D.eqv d e)) else none
def gIs : D → D → Option D
  | .bl a, .bl b => some (.bl (decide (a = b)))
  | .non, .non => some (.bl true)
  | .bl _, .non | .int _, .non | .str _, .non | .tup _, .non | .lst _, .non => some (.bl false)
  | _, _ => none
def gIsNot : D → D → Option D
  | .bl a, .bl b => some (.bl (!decide (a = b)))
  | .non, .non => some (.bl false)
  | .bl _, .non | .int _, .non | .str _, .non | .tup _, .non | .lst _, .non => some (.bl true)
  | _, _ => none
def D.any (d : D) (l : List D) : Bool := l.any fun y => D.eqv y d
def gIn : D → D → Option D
  | d, .tup l | d, .lst l => if (d.flat && l.all D.flat) = true then some (.bl (d.any l)) else none
  | _, _ => none
def gNotIn : D → D → Option D
  | d, .tup l | d, .lst l => if (d.flat && l.all D.flat) = true then some (.bl (!d.any l)) else none
  | _, _ => none
section
variable {X : Cx} {a0 : Addr}
theorem dop_add : DOp X a0 (binaryOp .Add) gAdd := by
  intro x y d e r H F Q hf hx hy hg k
  cases hx with
  | int a =>
    cases hy with
    | int b => cases hg; exact W2.of op_add ⟨_, _, rfl, rfl, k _ _ _ (Gr.refl hf) (.int _)⟩
    | _ => cases hg
  | str a =>
    cases hy with
    | str b =>
      by_cases hl : a.length + b.length ≤ 1000000
      · rw [gAdd, if_pos hl] at hg
        cases hg
        exact W2.of op_add_str ⟨_, _, rfl, rfl, line_of hl, k _ _ _ (Gr.refl hf) (.str _)⟩
      · rw [gAdd, if_neg hl] at hg; cases hg
    | _ => cases hg
  | tup hs ha =>
    cases hy with
    | tup hs2 ha2 =>
      rename_i p vs l p2 vs2 l2
      by_cases hl : l.length + l2.length ≤ 1000000
      · rw [gAdd, if_pos hl] at hg
        cases hg
        refine W2.of op_catA ⟨_, _, _, _, rfl, rfl, ex_t hf hs, ex_t hf hs2, line_of (by rw [ha.len, ha2.len]; exact hl), fun z => ?_, fun _ z => ?_, fun _ _ q hq => ?_⟩
        · subst z
          have : l = [] := List.length_eq_zero_iff.mp (by rw [← ha.len]; rfl)
          subst this
          exact k _ _ _ (Gr.refl hf) (.tup hs2 ha2)
        · subst z
          have : l2 = [] := List.length_eq_zero_iff.mp (by rw [← ha2.len]; rfl)
          subst this
          rw [List.append_nil] at k
          exact k _ _ _ (Gr.refl hf) (.tup hs ha)
        · exact k _ _ _ (Gr.new hf hq) (.tup (.inl (.inl upd_same)) ((ha.app ha2).ex (Gr.new (o := .tup (vs ++ vs2)) hf hq).ff))
      · rw [gAdd, if_neg hl] at hg; cases hg
    | _ => cases hg
  | _ => cases hy <;> cases hg
theorem dop_int0 {f : Value → Value → Sem Value} {g : D → D → Option D} {h : Int → Int → V} {h' : Int → Int → D} (ho : OpR X f (rI0 h)) (hr : ∀ F i j, Rp X.K a0 F (h i j) (h' i j)) (hg : ∀ d e r, g d e = some r → ∃ i j, d = .int i ∧ e = .int j ∧ r = h' i j) : DOp X a0 f g := by
  intro x y d e r H F Q hf hx hy hz k
  obtain ⟨i, j, rfl, rfl, rfl⟩ := hg d e r hz
  cases hx
  cases hy
  exact W2.of ho ⟨_, _, rfl, rfl, k _ _ _ (Gr.refl hf) (hr _ _ _)⟩
theorem dop_intC {f : Value → Value → Sem Value} {g : D → D → Option D} {C : Int → Int → Prop} {h : Int → Int → V} {h' : Int → Int → D} (ho : OpR X f (rI C h)) (hr : ∀ F i j, Rp X.K a0 F (h i j) (h' i j)) (hg : ∀ d e r, g d e = some r → ∃ i j, d = .int i ∧ e = .int j ∧ C i j ∧ r = h' i j) : DOp X a0 f g := by
  intro x y d e r H F Q hf hx hy hz k
  obtain ⟨i, j, rfl, rfl, hc, rfl⟩ := hg d e r hz
  cases hx
  cases hy
  exact W2.of ho ⟨_, _, rfl, rfl, hc, k _ _ _ (Gr.refl hf) (hr _ _ _)⟩
theorem dop_sub : DOp X a0 (binaryOp .Sub) gSub := dop_int0 (h' := fun i j => .int (i - j)) op_sub (fun _ _ _ => .int _) fun d e r h => by
  cases d <;> cases e <;> cases h; exact ⟨_, _, rfl, rfl, rfl⟩
theorem dop_mul : DOp X a0 (binaryOp .Mult) gMul := by
  intro x y d e r H F Q hf hx hy hg k
  cases hx with
  | int a =>
    cases hy with
    | int b =>
      by_cases hl : mulOk a b = true
      · rw [gMul, if_pos hl] at hg
        cases hg
        have kk : Q (.int (a * b)) H := k _ _ _ (Gr.refl hf) (.int _)
        unfold mulOk at hl
        simp only [Bool.or_eq_true, decide_eq_true_eq] at hl
        rcases hl with (hl | hl) | hl
        · exact W2.of op_mul ⟨_, _, rfl, rfl, .inl (by omega), kk⟩
        · exact W2.of op_mul ⟨_, _, rfl, rfl, .inr (by omega), kk⟩
        · exact W2.of op_mulW ⟨_, _, rfl, rfl, hl, kk⟩
      · rw [gMul, if_neg hl] at hg; cases hg
    | _ => cases hg
  | _ => cases hy <;> cases hg
theorem dop_div : DOp X a0 (binaryOp .FloorDiv) gDiv := dop_intC (C := CDivW) (h' := fun i j => .int (i / j)) op_fdivW (fun _ _ _ => .int _) fun d e r h => by
  cases d <;> cases e <;> try cases h
  rename_i i j
  by_cases hl : divOk j = true
  · rw [gDiv, if_pos hl] at h
    cases h
    unfold divOk at hl
    simp only [Bool.and_eq_true, decide_eq_true_eq] at hl
    exact ⟨_, _, rfl, rfl, hl, rfl⟩
  · rw [gDiv, if_neg hl] at h; cases h
theorem dop_mod : DOp X a0 (binaryOp .Mod) gMod := dop_intC (C := fun _ j => 0 < j) (h' := fun i j => .int (i % j)) op_mod (fun _ _ _ => .int _) fun d e r h => by
  cases d <;> cases e <;> try cases h
  rename_i i j
  by_cases hl : 0 < j
  · rw [gMod, if_pos hl] at h
    cases h
    exact ⟨_, _, rfl, rfl, hl, rfl⟩
  · rw [gMod, if_neg hl] at h; cases h
theorem dop_pow : DOp X a0 (binaryOp .Pow) gPow := dop_intC (C := CPow) (h' := fun i j => .int (i ^ j.toNat)) op_pow (fun _ _ _ => .int _) fun d e r h => by
  cases d <;> cases e <;> try cases h
  rename_i i j
  by_cases hl : 0 ≤ j ∧ j ≤ 1000000 ∧ i.natAbs < 2 ^ 64
  · rw [gPow, if_pos hl] at h
    cases h
    exact ⟨_, _, rfl, rfl, hl, rfl⟩
  · rw [gPow, if_neg hl] at h; cases h
theorem dop_shl : DOp X a0 (binaryOp .LShift) gShl := dop_intC (C := CShl) (h' := fun i j => .int (i * 2 ^ j.toNat)) op_shlW (fun _ _ _ => .int _) fun d e r h => by
  cases d <;> cases e <;> try cases h
  rename_i i j
  by_cases hl : 0 ≤ j ∧ (Builtin.Int.intBits i : Int) + j ≤ 2 ^ 27
  · rw [gShl, if_pos hl] at h
    cases h
    exact ⟨_, _, rfl, rfl, hl, rfl⟩
  · rw [gShl, if_neg hl] at h; cases h
theorem dop_shr : DOp X a0 (binaryOp .RShift) gShr := dop_intC (C := fun _ j => 0 ≤ j) (h' := fun i j => .int (i / 2 ^ j.toNat)) op_shr (fun _ _ _ => .int _) fun d e r h => by
  cases d <;> cases e <;> try cases h
  rename_i i j
  by_cases hl : 0 ≤ j
  · rw [gShr, if_pos hl] at h
    cases h
    exact ⟨_, _, rfl, rfl, hl, rfl⟩
  · rw [gShr, if_neg hl] at h; cases h
theorem dop_and : DOp X a0 (binaryOp .BitAnd) gAnd := dop_int0 (h' := fun i j => .int (Builtin.bitAnd i j)) op_and (fun _ _ _ => .int _) fun d e r h => by
  cases d <;> cases e <;> cases h; exact ⟨_, _, rfl, rfl, rfl⟩
theorem dop_or : DOp X a0 (binaryOp .BitOr) gOr := dop_int0 (h' := fun i j => .int (Builtin.bitOr i j)) op_or (fun _ _ _ => .int _) fun d e r h => by
  cases d <;> cases e <;> cases h; exact ⟨_, _, rfl, rfl, rfl⟩
theorem dop_xor : DOp X a0 (binaryOp .BitXor) gXor := dop_int0 (h' := fun i j => .int (Builtin.bitXor i j)) op_xor (fun _ _ _ => .int _) fun d e r h => by
  cases d <;> cases e <;> cases h; exact ⟨_, _, rfl, rfl, rfl⟩
theorem dop_lt : DOp X a0 (compareOp .Lt) gLt := by
  intro x y d e r H F Q hf hx hy hg k
  cases hx with
  | int a =>
    cases hy with
    | int b => cases hg; exact W2.of op_lt ⟨_, _, rfl, rfl, k _ _ _ (Gr.refl hf) (.bl _)⟩
    | _ => cases hg
  | str a =>
    cases hy with
    | str b => cases hg; exact W2.of op_lt_str ⟨_, _, rfl, rfl, k _ _ _ (Gr.refl hf) (.bl _)⟩
    | _ => cases hg
  | _ => cases hy <;> cases hg
theorem dop_le : DOp X a0 (compareOp .LtE) gLe := dop_int0 (h' := fun i j => .bl (decide (i ≤ j))) op_le (fun _ _ _ => .bl _) fun d e r h => by
  cases d <;> cases e <;> cases h; exact ⟨_, _, rfl, rfl, rfl⟩
theorem dop_gt : DOp X a0 (compareOp .Gt) gGt := dop_int0 (h' := fun i j => .bl (decide (j < i))) op_gt (fun _ _ _ => .bl _) fun d e r h => by
  cases d <;> cases e <;> cases h; exact ⟨_, _, rfl, rfl, rfl⟩
theorem dop_ge : DOp X a0 (compareOp .GtE) gGe := dop_int0 (h' := fun i j => .bl (decide (j ≤ i))) op_ge (fun _ _ _ => .bl _) fun d e r h => by
  cases d <;> cases e <;> cases h; exact ⟨_, _, rfl, rfl, rfl⟩
theorem dop_eq (hu : X.A.units + 64 < cLine) : DOp X a0 (compareOp .Eq) gEq := by
  intro x y d e r H F Q hf hx hy hg k
  unfold gEq at hg
  by_cases hl : (d.okb 64 && e.okb 64) = true
  · rw [if_pos hl] at hg
    cases hg
    have h' : d.okb 64 = true ∧ e.okb 64 = true := by simpa using hl
    refine W2.of (op_eqD hu) ⟨d.py, e.py, (Rp.dp d _ 64 h'.1 (hx.ex hf)), (Rp.dp e _ 64 h'.2 (hy.ex hf)), shaped_of h'.1, shaped_of h'.2, ?_⟩
    rw [eqv_py]
    exact k _ _ _ (Gr.refl hf) (.bl _)
  · rw [if_neg hl] at hg; cases hg
theorem dop_ne (hu : X.A.units + 64 < cLine) : DOp X a0 (compareOp .NotEq) gNe := by
  intro x y d e r H F Q hf hx hy hg k
  unfold gNe at hg
  by_cases hl : (d.okb 64 && e.okb 64) = true
  · rw [if_pos hl] at hg
    cases hg
    have h' : d.okb 64 = true ∧ e.okb 64 = true := by simpa using hl
    refine W2.of (op_neD hu) ⟨d.py, e.py, (Rp.dp d _ 64 h'.1 (hx.ex hf)), (Rp.dp e _ 64 h'.2 (hy.ex hf)), shaped_of h'.1, shaped_of h'.2, ?_⟩
    rw [eqv_py]
    exact k _ _ _ (Gr.refl hf) (.bl _)
  · rw [if_neg hl] at hg; cases hg
theorem dop_is : DOp X a0 (compareOp .Is) gIs := by
  intro x y d e r H F Q hf hx hy hg k
  cases hy with
  | non =>
    cases hx <;> cases hg
    all_goals exact W2.of op_isN ⟨rfl, k _ _ _ (Gr.refl hf) (.bl _)⟩
  | bl b =>
    cases hx <;> cases hg
    exact W2.of op_isBl ⟨_, _, rfl, rfl, k _ _ _ (Gr.refl hf) (.bl _)⟩
  | _ => cases hx <;> cases hg
theorem dop_isNot : DOp X a0 (compareOp .IsNot) gIsNot := by
  intro x y d e r H F Q hf hx hy hg k
  cases hy with
  | non =>
    cases hx <;> cases hg
    all_goals exact W2.of op_notN ⟨rfl, k _ _ _ (Gr.refl hf) (.bl _)⟩
  | bl b =>
    cases hx <;> cases hg
    exact W2.of op_notBl ⟨_, _, rfl, rfl, k _ _ _ (Gr.refl hf) (.bl _)⟩
  | _ => cases hx <;> cases hg
theorem Rp.flatV {F : Hp} {v : V} {d : D} (h : Rp X.K a0 F v d) (f : d.flat = true) : L2.flatV v = true := by
  cases h <;> first | rfl | cases f
theorem eqV_eqv {F : Hp} {v u : V} {d e : D} (h : Rp X.K a0 F v d) (g : Rp X.K a0 F u e) (f : d.flat = true) (f2 : e.flat = true) : L2.eqV v u = D.eqv d e := by
  cases h <;> first | (cases f; done) | (cases g <;> first | (cases f2; done) | simp [L2.eqV, D.eqv])
theorem inV_any {F : Hp} {v : V} {d : D} (h : Rp X.K a0 F v d) (f : d.flat = true) : ∀ {vs : List V} {l : List D}, RpAll X.K a0 F vs l → l.all D.flat = true → L2.inV v vs = d.any l ∧ vs.all L2.flatV = true
  | _, [], g, _ => by cases g; exact ⟨rfl, rfl⟩
  | _, e :: l, g, f2 => by
    cases g with
    | cons g1 g2 =>
      have f3 : e.flat = true ∧ l.all D.flat = true := by simpa using f2
      obtain ⟨i1, i2⟩ := inV_any h f g2 f3.2
      unfold L2.inV D.any at *
      rw [List.any_cons, List.any_cons, i1, eqV_eqv g1 h f3.1 f, List.all_cons, g1.flatV f3.1, i2]
      exact ⟨rfl, rfl⟩
theorem dop_in : DOp X a0 (compareOp .In) gIn := by
  intro x y d e r H F Q hf hx hy hg k
  cases hy with
  | tup hs ha =>
    rename_i p vs l
    have hg : (if (d.flat && l.all D.flat) = true then some (D.bl (d.any l)) else none) = some r := by cases d <;> exact hg
    by_cases hl : (d.flat && l.all D.flat) = true
    · rw [if_pos hl] at hg
      cases hg
      have h' : d.flat = true ∧ l.all D.flat = true := by simpa using hl
      obtain ⟨i1, i2⟩ := inV_any hx h'.1 ha h'.2
      refine W2.of op_in_seq ⟨_, _, rfl, .inr (ex_t hf hs), hx.flatV h'.1, i2, ?_⟩
      rw [i1]
      exact k _ _ _ (Gr.refl hf) (.bl _)
    · rw [if_neg hl] at hg; cases hg
  | lst hs ha =>
    rename_i p vs l
    have hg : (if (d.flat && l.all D.flat) = true then some (D.bl (d.any l)) else none) = some r := by cases d <;> exact hg
    by_cases hl : (d.flat && l.all D.flat) = true
    · rw [if_pos hl] at hg
      cases hg
      have h' : d.flat = true ∧ l.all D.flat = true := by simpa using hl
      obtain ⟨i1, i2⟩ := inV_any hx h'.1 ha h'.2
      refine W2.of op_in_seq ⟨_, _, rfl, .inl (.inl (.inl (hf _ _ hs))), hx.flatV h'.1, i2, ?_⟩
      rw [i1]
      exact k _ _ _ (Gr.refl hf) (.bl _)
    · rw [if_neg hl] at hg; cases hg
  | _ => cases d <;> cases hg
theorem dop_notIn : DOp X a0 (compareOp .NotIn) gNotIn := by
  intro x y d e r H F Q hf hx hy hg k
  cases hy with
  | tup hs ha =>
    rename_i p vs l
    have hg : (if (d.flat && l.all D.flat) = true then some (D.bl (!d.any l)) else none) = some r := by cases d <;> exact hg
    by_cases hl : (d.flat && l.all D.flat) = true
    · rw [if_pos hl] at hg
      cases hg
      have h' : d.flat = true ∧ l.all D.flat = true := by simpa using hl
      obtain ⟨i1, i2⟩ := inV_any hx h'.1 ha h'.2
      refine W2.of op_notIn_seq ⟨_, _, rfl, .inr (ex_t hf hs), hx.flatV h'.1, i2, ?_⟩
      rw [i1]
      exact k _ _ _ (Gr.refl hf) (.bl _)
    · rw [if_neg hl] at hg; cases hg
  | lst hs ha =>
    rename_i p vs l
    have hg : (if (d.flat && l.all D.flat) = true then some (D.bl (!d.any l)) else none) = some r := by cases d <;> exact hg
    by_cases hl : (d.flat && l.all D.flat) = true
    · rw [if_pos hl] at hg
      cases hg
      have h' : d.flat = true ∧ l.all D.flat = true := by simpa using hl
      obtain ⟨i1, i2⟩ := inV_any hx h'.1 ha h'.2
      refine W2.of op_notIn_seq ⟨_, _, rfl, .inl (.inl (.inl (hf _ _ hs))), hx.flatV h'.1, i2, ?_⟩
      rw [i1]
      exact k _ _ _ (Gr.refl hf) (.bl _)
    · rw [if_neg hl] at hg; cases hg
  | _ => cases d <;> cases hg
end

/-! ### subscripts -/
section
variable {X : Cx} {Wx : WX} {fm : Fm}
def gIx : D → D → Option D
  | .tup l, .int i => atI l i
  | .lst l, .int i => atI l i
  | .str z, .int i => if z.length ≤ 1000000 then (atI z.cps.toList i).map fun c => .str ⟨#[c]⟩ else none
  | _, _ => none
theorem rp_atI {K : PySem.W.Frag} {a0 : Addr} {F : Hp} {vs : List V} {l : List D} {i : Int} {d : D} (h : RpAll K a0 F vs l) (e : atI l i = some d) : ∃ v, atI vs i = some v ∧ Rp K a0 F v d := by
  unfold atI at e ⊢
  rw [h.len]
  cases hj : ixN l.length i with
  | none => rw [hj] at e; cases e
  | some j =>
    rw [hj] at e
    exact h.get (i := j) e
def W2i (X : Cx) : R2 := fun x y H Q => ∀ (pins : List (Addr × Obj)) (s : Shared) (σ : L2.St) (v u : Value), Inv X pins σ H s → RelV x v → RelV y u → wpAny (model X.prog X.w) X.A (getItem v u) (EP X pins σ Q) X.xe s
/-- the strongest rule for o[i] -/
def WIx (X : Cx) : R2 := fun x y H Q => rIx X.K x y H Q
theorem se_ix {a b : Expr} {pos : Pos} {ma mb : W → R D} (ha : SE X Wx fm a ma) (hb : SE X Wx fm b mb) (hs : PlainIx b := by exact fun _ _ => rfl) : SE X Wx fm (.Subscript a b pos) (mBin gIx ma mb) := by
  refine ⟨?_⟩
  intro ex σ H F w Q r q
  refine WE.of (pe_ix ix_seq pe_we pe_we hs) ?_
  show WE X a σ H fun x H1 => WE X b σ H1 fun y H2 => rIx X.K x y H2 Q
  refine ha ex σ H F w _ r ((Fin.bind q).imp fun x w1 H1 F1 ⟨r1, k1, e1, q1⟩ v hv => ?_)
  refine hb ex σ H1 F1 w1 _ r1 ((Fin.bind q1).imp fun y w2 H2 F2 ⟨r2, k2, e2, q2⟩ u hu => ?_)
  obtain ⟨z, hz, q3⟩ := q2.lift
  have hv := hv.ex e2
  cases hu with
  | int i =>
    cases hv with
    | tup h1 h2 =>
      obtain ⟨t, ht, rt⟩ := rp_atI h2 (show atI _ i = some z from hz)
      exact .inr (.inl ⟨_, _, _, _, rfl, rfl, ex_t r2.fh h1, ht, q3 H2 F2 Kp.refl (Ex.refl _) r2 t rt⟩)
    | lst h1 h2 =>
      obtain ⟨t, ht, rt⟩ := rp_atI h2 (show atI _ i = some z from hz)
      exact .inl ⟨_, _, _, _, rfl, rfl, .inl (.inl (r2.fh _ _ h1)), ht, q3 H2 F2 Kp.refl (Ex.refl _) r2 t rt⟩
    | str x =>
      have hz : (if x.length ≤ 1000000 then (atI x.cps.toList i).map fun c => D.str ⟨#[c]⟩ else none) = some z := hz
      by_cases hl : x.length ≤ 1000000
      · rw [if_pos hl] at hz
        cases hc : atI x.cps.toList i with
        | none => rw [hc] at hz; cases hz
        | some c =>
          rw [hc] at hz
          cases hz
          exact .inr (.inr ⟨_, _, _, rfl, rfl, line_of hl, hc, q3 H2 F2 Kp.refl (Ex.refl _) r2 _ (.str _)⟩)
      · rw [if_neg hl] at hz; cases hz
    | _ => cases hz
  | _ => cases hv <;> cases hz
/-- a part of a slice -/
def SO (X : Cx) (Wx : WX) (fm : Fm) (e : Option Expr) (m : W → R (Option Int)) : Prop := ∃ t, PO X e t ∧ ∀ (ex : Exs) (σ : L2.St) (H F : Hp) (w : W) (Q : Option Int → Hp → Prop), Rel X.K fm ex σ H F w → Fin X Wx fm ex σ H F (fun o _ H' _ => Q o H') (m w) → t σ H Q
def mNoP : W → R (Option Int) := fun w => .ok none w
def D.i? : D → Option Int
  | .int i => some i
  | _ => none
theorem Rp.i {K : PySem.W.Frag} {a0 : Addr} {F : Hp} {v : V} {d : D} {i : Int} (h : Rp K a0 F v d) (e : d.i? = some i) : v = .int i := by
  cases h <;> cases e
  rfl
def mP (m : W → R D) : W → R (Option Int) := fun w => (m w).bind fun d w' => R.lift (d.i?.map some) w'
theorem so_none : SO X Wx fm none mNoP := ⟨_, po_none, fun ex σ H F w Q r q => q H F Kp.refl (Ex.refl _) r⟩
theorem so_some {e : Expr} {m : W → R D} (h : SE X Wx fm e m) : SO X Wx fm (some e) (mP m) := by
  refine ⟨_, po_some pe_we, fun ex σ H F w Q r q => ?_⟩
  refine h ex σ H F w _ r ((Fin.bind q).imp fun d w1 H1 F1 ⟨r1, k1, e1, q1⟩ v hv => ?_)
  obtain ⟨z, hz, q2⟩ := q1.lift
  cases hi : d.i? with
  | none => rw [hi] at hz; cases hz
  | some i =>
    rw [hi] at hz
    cases hz
    exact ⟨i, hv.i hi, q2 H1 F1 Kp.refl (Ex.refl _) r1⟩
def cutD (xs : List D) (lo hi : Option Int) : List D := (xs.drop (HT.sIx xs.length 0 lo)).take (HT.sIx xs.length xs.length hi - HT.sIx xs.length 0 lo)
theorem rp_cut {K : PySem.W.Frag} {a0 : Addr} {F : Hp} {vs : List V} {l : List D} (h : RpAll K a0 F vs l) (lo hi : Option Int) : RpAll K a0 F (cutV vs lo hi) (cutD l lo hi) := by
  unfold cutV cutD
  rw [h.len]
  exact (h.drop _).take _
def D.t? : D → Option (List D)
  | .tup l => some l
  | _ => none
def D.l? : D → Option (List D)
  | .lst l => some l
  | _ => none
/-- t[a:b] of a tuple -/
def mSlT (m : W → R D) (lo hi : W → R (Option Int)) : W → R D := fun w => (m w).bind fun d w1 => (lo w1).bind fun a w2 => (hi w2).bind fun b w3 => R.lift (d.t?.map fun l => .tup (cutD l a b)) w3
theorem se_slT {e : Expr} {lo hi : Option Expr} {p2 pos : Pos} {m : W → R D} {ml mh : W → R (Option Int)} (h : SE X Wx fm e m) (hl : SO X Wx fm lo ml) (hh : SO X Wx fm hi mh) : SE X Wx fm (.Subscript e (.Slice lo hi none p2) pos) (mSlT m ml mh) := by
  refine ⟨?_⟩
  intro ex σ H F w Q r q
  obtain ⟨tl, pl, gl⟩ := hl
  obtain ⟨th, ph, gh⟩ := hh
  refine WE.of (pe_slice sl_tupA pe_we pl ph) ?_
  show WE X e σ H fun x H1 => tl σ H1 fun l H2 => th σ H2 fun u H3 => rSlA X.K x l u H3 Q
  refine h ex σ H F w _ r ((Fin.bind q).imp fun d w1 H1 F1 ⟨r1, k1, e1, q1⟩ v hv => ?_)
  refine gl ex σ H1 F1 w1 _ r1 ((Fin.bind q1).imp fun a w2 H2 F2 ⟨r2, k2, e2, q2⟩ => ?_)
  refine gh ex σ H2 F2 w2 _ r2 ((Fin.bind q2).imp fun b w3 H3 F3 ⟨r3, k3, e3, q3⟩ => ?_)
  obtain ⟨z, hz, q4⟩ := q3.lift
  have hv := (hv.ex e2).ex e3
  cases hv with
  | @tup p vs l h1 h2 =>
    cases hz
    refine ⟨_, _, rfl, ex_t r3.fh h1, fun hw => ?_, fun _ p' hp => ?_⟩
    · have ec : cutD l a b = l := by
        have hw' : HT.sIx l.length 0 a = 0 ∧ HT.sIx l.length l.length b = l.length := by rw [← h2.len]; exact hw
        unfold cutD
        rw [hw'.1, hw'.2]
        simp
      refine q4 H3 F3 Kp.refl (Ex.refl _) r3 _ ?_
      show Rp X.K fm.a0 F3 (V.ref p) (.tup (cutD l a b))
      rw [ec]
      exact .tup h1 h2
    · have g : Gr H3 F3 (upd H3 p' (.tup (cutV vs a b))) (upd F3 p' (.tup (cutV vs a b))) := Gr.new r3.fh hp
      exact q4 _ _ g.kp g.ff (r3.gr g) _ (.tup (.inl (.inl upd_same)) ((rp_cut h2 a b).ex g.ff))
  | _ => cases hz
/-- xs[a:b] of a list -/
def mSlL (m : W → R D) (lo hi : W → R (Option Int)) : W → R (List D) := fun w => (m w).bind fun d w1 => (lo w1).bind fun a w2 => (hi w2).bind fun b w3 => R.lift (d.l?.map fun l => cutD l a b) w3
theorem FinF.bindO {r : R (Option Int)} {q : Option Int → W → R (List D)} {ex : Exs} {σ : L2.St} {H F : Hp} {Q : VK} (h : FinF X Wx fm ex σ H F Q (r.bind q)) :
    Fin X Wx fm ex σ H F (fun a w' H' F' => Rel X.K fm ex σ H' F' w' ∧ Kp fm.a0 H H' ∧ Ex F F' ∧ FinF X Wx fm ex σ H' F' Q (q a w')) r := by
  cases r with
  | ok a w' =>
    intro H' F' kp e r
    refine ⟨r, kp, e, ?_⟩
    have h : FinF X Wx fm ex σ H F Q (q a w') := h
    revert h
    cases q a w' with
    | ok b w2 => exact fun h p H2 F2 k2 e2 => h p H2 F2 (kp.trans k2) (e.trans e2)
    | exc c w2 => exact fun h H2 F2 cls dd k2 e2 => h H2 F2 cls dd (kp.trans k2) (e.trans e2)
    | stuck => exact fun h => h
  | exc c w' => exact h
  | stuck => exact h
theorem sf_slL {e : Expr} {lo hi : Option Expr} {p2 pos : Pos} {m : W → R D} {ml mh : W → R (Option Int)} (h : SE X Wx fm e m) (hl : SO X Wx fm lo ml) (hh : SO X Wx fm hi mh) : SF X Wx fm (.Subscript e (.Slice lo hi none p2) pos) (mSlL m ml mh) := by
  refine ⟨?_⟩
  intro ex σ H F w Q r q
  obtain ⟨tl, pl, gl⟩ := hl
  obtain ⟨th, ph, gh⟩ := hh
  refine WE.of (pe_slice sl_list pe_we pl ph) ?_
  show WE X e σ H fun x H1 => tl σ H1 fun l H2 => th σ H2 fun u H3 => rSlL X.K x l u H3 Q
  refine h ex σ H F w _ r ((FinF.bindD q).imp fun d w1 H1 F1 ⟨r1, k1, e1, q1⟩ v hv => ?_)
  refine gl ex σ H1 F1 w1 _ r1 ((FinF.bindO q1).imp fun a w2 H2 F2 ⟨r2, k2, e2, q2⟩ => ?_)
  refine gh ex σ H2 F2 w2 _ r2 ((FinF.bindO q2).imp fun b w3 H3 F3 ⟨r3, k3, e3, q3⟩ => ?_)
  have hv := (hv.ex e2).ex e3
  cases hv with
  | @lst p0 vs l h1 h2 =>
    refine ⟨_, _, rfl, .inl (.inl (r3.fh _ _ h1)), fun p hp => ?_⟩
    have q3 : FinF X Wx fm ex σ H3 F3 Q (.ok (cutD l a b) w3) := q3
    exact q3 p _ F3 (Gr.dark r3.fh hp).kp (Ex.refl _) (r3.lay hp (rp_cut h2 a b))
  | _ => exact (show False from q3).elim
/-- xs[::-1] of a list -/
def mRevL (m : W → R D) : W → R (List D) := fun w => (m w).bind fun d w1 => R.lift (d.l?.map List.reverse) w1
theorem sf_revL {e : Expr} {k : Nat} {p1 p2 p3 pos : Pos} {m : W → R D} (h : SE X Wx fm e m) : SF X Wx fm (.Subscript e (.Slice none none (some (.UnaryOp .USub (.Constant (.int 1) k p1) p2)) p3) pos) (mRevL m) := by
  refine ⟨?_⟩
  intro ex σ H F w Q r q
  refine WE.of (pe_revL pe_we) ?_
  refine h ex σ H F w _ r ((FinF.bindD q).imp fun d w1 H1 F1 ⟨r1, k1, e1, q1⟩ v hv => ?_)
  cases hv with
  | @lst p0 vs l h1 h2 =>
    refine ⟨_, _, rfl, .inl (.inl (r1.fh _ _ h1)), fun p hp => ?_⟩
    have q1 : FinF X Wx fm ex σ H1 F1 Q (.ok l.reverse w1) := q1
    exact q1 p _ F1 (Gr.dark r1.fh hp).kp (Ex.refl _) (r1.lay hp h2.rev)
  | _ => exact (show False from q1).elim
/-- xs + ys, lists -/
def mCat (ma mb : W → R D) : W → R (List D) := fun w => (ma w).bind fun x w1 => (mb w1).bind fun y w2 => R.lift (match x, y with | .lst a, .lst b => if a.length + b.length ≤ 1000000 then some (a ++ b) else none | _, _ => none) w2
theorem sf_cat {a b : Expr} {pos : Pos} {ma mb : W → R D} (ha : SE X Wx fm a ma) (hb : SE X Wx fm b mb) : SF X Wx fm (.BinOp a .Add b pos) (mCat ma mb) := by
  refine ⟨?_⟩
  intro ex σ H F w Q r q
  refine WE.of (pe_op op_cat pe_we pe_we) ?_
  show WE X a σ H fun x H1 => WE X b σ H1 fun y H2 => rCat x y H2 Q
  refine ha ex σ H F w _ r ((FinF.bindD q).imp fun x w1 H1 F1 ⟨r1, k1, e1, q1⟩ v hv => ?_)
  refine hb ex σ H1 F1 w1 _ r1 ((FinF.bindD q1).imp fun y w2 H2 F2 ⟨r2, k2, e2, q2⟩ u hu => ?_)
  have hv := hv.ex e2
  cases hv with
  | @lst p0 vs l h1 h2 =>
    cases hu with
    | @lst p2 us l2 h3 h4 =>
      by_cases hl : l.length + l2.length ≤ 1000000
      · have q2 : FinF X Wx fm ex σ H2 F2 Q (R.lift (if l.length + l2.length ≤ 1000000 then some (l ++ l2) else none) w2) := q2
        rw [if_pos hl] at q2
        exact ⟨_, _, _, _, rfl, rfl, r2.fh _ _ h1, r2.fh _ _ h3, line_of (by rw [h2.len, h4.len]; exact hl), fun p hp => q2 p _ F2 (Gr.dark r2.fh hp).kp (Ex.refl _) (r2.lay hp (h2.app h4))⟩
      · have q2 : FinF X Wx fm ex σ H2 F2 Q (R.lift (if l.length + l2.length ≤ 1000000 then some (l ++ l2) else none) w2) := q2
        rw [if_neg hl] at q2
        exact (show False from q2).elim
    | _ => exact (show False from q2).elim
  | _ => exact (show False from (by cases y <;> exact q2)).elim
end
end TD

set_option Elab.async false
set_option linter.all false
set_option maxRecDepth 100000
set_option maxHeartbeats 4000000
namespace TD
open PySem PySem.Spec PyProof.Rows L2

section
variable {X : Cx} {Wx : WX} {fm : Fm}
/-! ### built-in calls -/
def DCall (X : Cx) (a0 : Addr) (f : Value) (g : List D → Option D) : Prop :=
  ∀ (vs : List V) (ds : List D) (r : D) (H F : Hp) (Q : VK), Ex F H → RpAll X.K a0 F vs ds → g ds = some r → (∀ v H' F', Gr H F H' F' → Rp X.K a0 F' v r → Q v H') → WC X f vs H Q
def mBlt (g : List D → Option D) (m : W → R (List D)) : W → R D := fun w => (m w).bind fun ds w' => R.lift (g ds) w'
theorem se_blt0 {es : List Expr} {m : W → R (List D)} {f : Value} {g : List D → Option D} {ex : Exs} {σ : L2.St} {H F : Hp} {w : W} {Q : VK} (hc : DCall X fm.a0 f g) (ha : SAs X Wx fm es m) (r : Rel X.K fm ex σ H F w)
    (q : Fin X Wx fm ex σ H F (fun d _ H' F' => ∀ v, Rp X.K fm.a0 F' v d → Q v H') (mBlt g m w)) : tCB (WC X f) (WA X es) σ H Q := by
  show WA X es σ H fun vs H1 => WC X f vs H1 Q
  refine ha ex σ H F w _ r ((Fin.bind q).imp fun ds w1 H1 F1 ⟨r1, k1, e1, q1⟩ vs hv => ?_)
  obtain ⟨z, hz, q2⟩ := q1.lift
  exact hc vs ds z H1 F1 Q r1.fh hv hz fun t H' F' g hr => q2 H' F' g.kp g.ff (r1.gr g) t hr
theorem se_callB {e : Expr} {es : List Expr} {x : Str} {p pos : Pos} {id : String} {m : W → R (List D)} {g : List D → Option D} (hc : DCall X fm.a0 (.builtin id) g) (hm : X.mg x = none) (hv : bootBuiltins x = some (.builtin id)) (ha : SAs X Wx fm (e :: es) m) (hg : Gl X x := by rfl)
    (hn : x ≠ "__name__" := by decide) (hdb : (x == ("__debug__" : Str)) = false := by decide)
    (he : starEach (e :: es) X.env = (false, eval e X.env) :: starEach es X.env := by rfl) (hpl : (backTo pos (starEach es X.env)).any (·.1) = false := by rfl) : SE X Wx fm (.Call (.Name x p) (e :: es) [] pos) (mBlt g m) :=
  ⟨fun ex σ H F w Q r q => WE.of (pe_callB callr_wc hg hm hv pa_wa hn hdb he hpl) (se_blt0 hc ha r q)⟩
theorem se_callTy {e : Expr} {es : List Expr} {x : Str} {p pos : Pos} {T : String} {m : W → R (List D)} {g : List D → Option D} (hc : DCall X fm.a0 (.type T) g) (hm : X.mg x = none) (hv : bootBuiltins x = some (.type T)) (ha : SAs X Wx fm (e :: es) m) (hg : Gl X x := by rfl)
    (hn : x ≠ "__name__" := by decide) (hdb : (x == ("__debug__" : Str)) = false := by decide)
    (he : starEach (e :: es) X.env = (false, eval e X.env) :: starEach es X.env := by rfl) (hpl : (backTo pos (starEach es X.env)).any (·.1) = false := by rfl) : SE X Wx fm (.Call (.Name x p) (e :: es) [] pos) (mBlt g m) :=
  ⟨fun ex σ H F w Q r q => WE.of (pe_callTy callr_wc hg hm hv pa_wa hn hdb he hpl) (se_blt0 hc ha r q)⟩
def gLen : List D → Option D
  | [.tup l] => some (.int l.length)
  | [.lst l] => some (.int l.length)
  | [.str z] => if z.length ≤ 1000000 then some (.int z.length) else none
  | _ => none
theorem dc_len {a0 : Addr} : DCall X a0 (.builtin "len") gLen := by
  intro vs ds r H F Q hf hv hg k
  cases hv with
  | nil => cases hg
  | cons h1 h2 =>
    cases h2 with
    | cons _ _ => cases h1 <;> cases hg
    | nil =>
      cases h1 with
      | tup hs ha =>
        cases hg
        have kk := k _ _ _ (Gr.refl hf) (.int _)
        rw [← ha.len] at kk
        exact WC.of call_len_seq ⟨_, _, rfl, .inr (ex_t hf hs), kk⟩
      | lst hs ha =>
        cases hg
        have kk := k _ _ _ (Gr.refl hf) (.int _)
        rw [← ha.len] at kk
        exact WC.of call_len_seq ⟨_, _, rfl, .inl (.inl (.inl (hf _ _ hs))), kk⟩
      | str z =>
        have hg : (if z.length ≤ 1000000 then some (D.int z.length) else none) = some r := hg
        by_cases hl : z.length ≤ 1000000
        · rw [if_pos hl] at hg
          cases hg
          exact WC.of call_len_str ⟨_, rfl, line_of hl, k _ _ _ (Gr.refl hf) (.int _)⟩
        · rw [if_neg hl] at hg; cases hg
      | _ => cases hg
def gAbs : List D → Option D
  | [.int i] => some (.int (if i < 0 then -i else i))
  | _ => none
theorem dc_abs {a0 : Addr} : DCall X a0 (.builtin "abs") gAbs := by
  intro vs ds r H F Q hf hv hg k
  cases hv with
  | nil => cases hg
  | cons h1 h2 =>
    cases h2 with
    | cons _ _ => cases h1 <;> cases hg
    | nil =>
      cases h1 <;> cases hg
      exact WC.of call_abs ⟨_, rfl, k _ _ _ (Gr.refl hf) (.int _)⟩
def gInt : List D → Option D
  | [.int i] => some (.int i)
  | [.bl b] => some (.int (if b then 1 else 0))
  | _ => none
theorem dc_int {a0 : Addr} : DCall X a0 (.type "int") gInt := by
  intro vs ds r H F Q hf hv hg k
  cases hv with
  | nil => cases hg
  | cons h1 h2 =>
    cases h2 with
    | cons _ _ => cases h1 <;> cases hg
    | nil =>
      cases h1 with
      | int i => cases hg; exact WC.of call_int1 (.inl ⟨_, rfl, k _ _ _ (Gr.refl hf) (.int _)⟩)
      | bl b => cases hg; exact WC.of call_int1 (.inr ⟨_, rfl, k _ _ _ (Gr.refl hf) (.int _)⟩)
      | _ => cases hg
def gTuple : List D → Option D
  | [.tup l] => some (.tup l)
  | [.lst l] => some (.tup l)
  | _ => none
theorem dc_tuple {a0 : Addr} : DCall X a0 (.type "tuple") gTuple := by
  intro vs ds r H F Q hf hv hg k
  cases hv with
  | nil => cases hg
  | cons h1 h2 =>
    cases h2 with
    | cons _ _ => cases h1 <;> cases hg
    | nil =>
      cases h1 with
      | tup hs ha => cases hg; exact WC.of call_tuple_of ⟨_, _, rfl, .inr ⟨ex_t hf hs, k _ _ _ (Gr.refl hf) (.tup hs ha)⟩⟩
      | lst hs ha => cases hg; exact WC.of call_tuple_of ⟨_, _, rfl, .inl ⟨.inl (.inl (hf _ _ hs)), fun p hp => k _ _ _ (Gr.new hf hp) (.tup (.inl (.inl upd_same)) (ha.ex (Gr.new hf hp).ff))⟩⟩
      | _ => cases hg
def ints? : List D → Option (List Int)
  | [] => some []
  | .int i :: l => (ints? l).map (i :: ·)
  | _ => none
theorem ints_rp {K : PySem.W.Frag} {a0 : Addr} {F : Hp} : ∀ {l : List D} {ns : List Int} {vs : List V}, ints? l = some ns → RpAll K a0 F vs l → vs = ns.map V.int
  | [], ns, _, e, h => by cases e; cases h; rfl
  | .int i :: l, ns, _, e, h => by
    unfold ints? at e
    cases q : ints? l with
    | none => rw [q] at e; cases e
    | some ms =>
      rw [q] at e
      cases e
      cases h with
      | cons h1 h2 =>
        cases h1
        rw [ints_rp q h2]
        rfl
  | .non :: _, _, _, e, _ => by cases e
  | .bl _ :: _, _, _, e, _ => by cases e
  | .str _ :: _, _, _, e, _ => by cases e
  | .tup _ :: _, _, _, e, _ => by cases e
  | .lst _ :: _, _, _, e, _ => by cases e
  | .src :: _, _, _, e, _ => by cases e
theorem ints_map (ns : List Int) : ints? (ns.map D.int) = some ns := by
  induction ns with
  | nil => rfl
  | cons n r ih => rw [List.map_cons, ints?, ih]; rfl
def maxL (ns : List Int) : Int := ns.foldl max (ns.headD 0)
def minL (ns : List Int) : Int := ns.foldl min (ns.headD 0)
theorem foldl_max_ge : ∀ (ns : List Int) (a : Int), a ≤ ns.foldl max a ∧ ∀ y ∈ ns, y ≤ ns.foldl max a
  | [], a => ⟨Int.le_refl _, fun _ h => nomatch h⟩
  | n :: r, a => by
    have := foldl_max_ge r (max a n)
    rw [List.foldl_cons]
    refine ⟨by omega, fun y hy => ?_⟩
    rcases List.mem_cons.mp hy with rfl | hy
    · omega
    · exact this.2 y hy
theorem foldl_max_mem : ∀ (ns : List Int) (a : Int), ns.foldl max a = a ∨ ns.foldl max a ∈ ns
  | [], a => .inl rfl
  | n :: r, a => by
    rw [List.foldl_cons]
    rcases foldl_max_mem r (max a n) with h | h
    · rw [h]
      by_cases c : a ≤ n
      · right; rw [Int.max_eq_right c]; exact List.mem_cons_self ..
      · left; exact Int.max_eq_left (by omega)
    · exact .inr (List.mem_cons_of_mem _ h)
theorem maxL_spec {ns : List Int} (h : ns ≠ []) : maxL ns ∈ ns ∧ ∀ y ∈ ns, y ≤ maxL ns := by
  cases ns with
  | nil => exact absurd rfl h
  | cons n r =>
    refine ⟨?_, (foldl_max_ge _ _).2⟩
    rcases foldl_max_mem (n :: r) n with e | e
    · show (n :: r).foldl max n ∈ _
      rw [e]; exact List.mem_cons_self ..
    · exact e
theorem maxL_eq {ns : List Int} {m : Int} (h : m ∈ ns) (hm : ∀ y ∈ ns, y ≤ m) : m = maxL ns := by
  have := maxL_spec (List.ne_nil_of_mem h)
  have h1 := this.2 m h
  have h2 := hm _ this.1
  omega
def gMax : List D → Option D
  | [.int i, .int j] => some (.int (if j > i then j else i))
  | [.lst l] => match ints? l with
    | some (n :: r) => some (.int (maxL (n :: r)))
    | _ => none
  | _ => none
theorem dc_max {a0 : Addr} (hc : X.calm = true) : DCall X a0 (.builtin "max") gMax := by
  intro vs ds r H F Q hf hv hg k
  cases hv with
  | nil => cases hg
  | cons h1 h2 =>
    cases h2 with
    | cons h3 h4 =>
      cases h4 with
      | cons _ _ => cases h1 <;> cases h3 <;> cases hg
      | nil =>
        cases h1 <;> cases h3 <;> cases hg
        exact WC.of (call_max2 hc) ⟨_, _, rfl, k _ _ _ (Gr.refl hf) (.int _)⟩
    | nil =>
      cases h1 with
      | @lst p us l hs ha =>
        have hg : (match ints? l with | some (n :: r) => some (D.int (maxL (n :: r))) | _ => none) = some r := hg
        cases q : ints? l with
        | none => rw [q] at hg; cases hg
        | some ns =>
          rw [q] at hg
          cases ns with
          | nil => cases hg
          | cons n ns =>
            cases hg
            have e := ints_rp q ha
            subst e
            exact WC.of (cr_max hc) ⟨_, _, rfl, .inl (.inl (hf _ _ hs)), by simp, fun m hm hle => by
              rw [maxL_eq hm hle]
              exact k _ _ _ (Gr.refl hf) (.int _)⟩
      | _ => cases hg
def gMin : List D → Option D
  | [.int i, .int j] => some (.int (if j < i then j else i))
  | _ => none
theorem dc_min {a0 : Addr} (hc : X.calm = true) : DCall X a0 (.builtin "min") gMin := by
  intro vs ds r H F Q hf hv hg k
  cases hv with
  | nil => cases hg
  | cons h1 h2 =>
    cases h2 with
    | cons h3 h4 =>
      cases h4 with
      | cons _ _ => cases h1 <;> cases h3 <;> cases hg
      | nil =>
        cases h1 <;> cases h3 <;> cases hg
        exact WC.of (call_min2 hc) ⟨_, _, rfl, k _ _ _ (Gr.refl hf) (.int _)⟩
    | nil => cases h1 <;> cases hg
def gSum : List D → Option D
  | [.lst l] => (ints? l).map fun ns => .int ns.sum
  | _ => none
theorem dc_sum {a0 : Addr} (hc : X.calm = true) : DCall X a0 (.builtin "sum") gSum := by
  intro vs ds r H F Q hf hv hg k
  cases hv with
  | nil => cases hg
  | cons h1 h2 =>
    cases h2 with
    | cons _ _ => cases h1 <;> cases hg
    | nil =>
      cases h1 with
      | @lst p us l hs ha =>
        have hg : ((ints? l).map fun ns => D.int ns.sum) = some r := hg
        cases q : ints? l with
        | none => rw [q] at hg; cases hg
        | some ns =>
          rw [q] at hg
          cases hg
          have e := ints_rp q ha
          subst e
          exact WC.of (cr_sum hc) ⟨_, _, rfl, .inl (.inl (hf _ _ hs)), k _ _ _ (Gr.refl hf) (.int _)⟩
      | _ => cases hg
/-- list(x): a new list -/
def D.seq? : D → Option (List D)
  | .tup l => some l
  | .lst l => some l
  | _ => none
def mListOf (m : W → R D) : W → R (List D) := fun w => (m w).bind fun d w' => R.lift d.seq? w'
theorem sf_listOf {e : Expr} {p pos : Pos} {m : W → R D} (h : SE X Wx fm e m) (hm : X.mg "list" = none) (hg : Gl X "list" := by rfl) (he : starEach [e] X.env = (false, eval e X.env) :: starEach [] X.env := by rfl) (hpl : (backTo pos (starEach [] X.env)).any (·.1) = false := by rfl) :
    SF X Wx fm (.Call (.Name "list" p) [e] [] pos) (mListOf m) := by
  refine ⟨?_⟩
  intro ex σ H F w Q r q
  refine WE.of (pe_callTy call_list_of hg hm (by decide +kernel) (pa_cons pe_we pa_nil he) (by decide) (by decide) he hpl) ?_
  show WE X e σ H fun x H1 => ∃ p ys, [x] = [.ref p] ∧ (SqL X.K H1 p ys ∨ SqT X.K H1 p ys) ∧ ∀ l, H1 l = none → Q (.ref l) (upd H1 l (.lst ys))
  refine h ex σ H F w _ r ((FinF.bindD q).imp fun d w1 H1 F1 ⟨r1, k1, e1, q1⟩ v hv => ?_)
  cases hv with
  | @tup p us l hs ha =>
    have q1 : FinF X Wx fm ex σ H1 F1 Q (.ok l w1) := q1
    exact ⟨_, _, rfl, .inr (ex_t r1.fh hs), fun p hp => q1 p _ F1 (Gr.dark r1.fh hp).kp (Ex.refl _) (r1.lay hp ha)⟩
  | @lst p us l hs ha =>
    have q1 : FinF X Wx fm ex σ H1 F1 Q (.ok l w1) := q1
    exact ⟨_, _, rfl, .inl (.inl (.inl (r1.fh _ _ hs))), fun p hp => q1 p _ F1 (Gr.dark r1.fh hp).kp (Ex.refl _) (r1.lay hp ha)⟩
  | _ => exact (show False from q1).elim
/-- isinstance(x, T), T a built-in type -/
def D.ty : D → Option String
  | .non => some "NoneType"
  | .bl _ => some "bool"
  | .int _ => some "int"
  | .str _ => some "str"
  | .tup _ => some "tuple"
  | .lst _ => some "list"
  | .src => none
def D.isi (T : String) (d : D) : Option Bool := d.ty.bind fun t => kitB t T
theorem Rp.tyx {F H : Hp} {v : V} {d : D} {t : String} (h : Rp X.K fm.a0 F v d) (hf : Ex F H) (e : d.ty = some t) : TyX X.K H v (.type t) := by
  cases h with
  | non => cases e; exact .base .non
  | bl b => cases e; exact .base (.bl b)
  | int i => cases e; exact .base (.int i)
  | str x => cases e; exact .base (.str x)
  | src => cases e
  | lst hs ha => cases e; exact .base (.lst (hf _ _ hs))
  | tup hs ha =>
    cases e
    rcases hs with (hs | ⟨o, hs⟩) | ⟨o, its, n, h1, h2, _⟩
    · exact .base (.tup (hf _ _ hs))
    · exact .fTuple (hf _ _ hs)
    · exact .kTuple h1 h2
def mIsi (T : String) (m : W → R D) : W → R D := fun w => (m w).bind fun d w' => R.lift ((d.isi T).map D.bl) w'
theorem se_isi {e : Expr} {x : Str} {T : String} {p p2 pos : Pos} {m : W → R D} (h : SE X Wx fm e m) (hm : X.mg "isinstance" = none) (hmT : X.mg x = none) (hT : bootBuiltins x = some (.type T)) (hg : Gl X "isinstance" := by rfl) (hgT : Gl X x := by rfl) (hn : x ≠ "__name__" := by decide) (hdb : (x == ("__debug__" : Str)) = false := by decide)
    (he : starEach [e, .Name x p2] X.env = (false, eval e X.env) :: starEach [.Name x p2] X.env := by rfl) (he2 : starEach [.Name x p2] X.env = (false, eval (.Name x p2) X.env) :: starEach [] X.env := by rfl) (hpl : (backTo pos (starEach [.Name x p2] X.env)).any (·.1) = false := by rfl) :
    SE X Wx fm (.Call (.Name "isinstance" p) [e, .Name x p2] [] pos) (mIsi T m) := by
  refine ⟨?_⟩
  intro ex σ H F w Q r q
  refine WE.of (pe_callB call_isi hg hm (by decide +kernel) (pa_cons pe_we (pa_cons (pe_bltn (v := .ty T) hgT hmT hT rfl hn hdb) pa_nil he2) he) (by decide) (by decide) he hpl) ?_
  show WE X e σ H fun y H1 => rIsi X.K [y, .ty T] H1 Q
  refine h ex σ H F w _ r ((Fin.bind q).imp fun d w1 H1 F1 ⟨r1, k1, e1, q1⟩ v hv => ?_)
  obtain ⟨z, hz, q2⟩ := q1.lift
  unfold D.isi at hz
  cases ht : d.ty with
  | none => rw [ht] at hz; cases hz
  | some t =>
    rw [ht] at hz
    cases hb : kitB t T with
    | none =>
      have hz : (kitB t T).map D.bl = some z := hz
      rw [hb] at hz; cases hz
    | some b =>
      have hz : (kitB t T).map D.bl = some z := hz
      rw [hb] at hz
      cases hz
      exact ⟨v, .ty T, .type t, .type T, b, rfl, .ty T, hv.tyx r1.fh ht, kit_ty hb, q2 H1 F1 Kp.refl (Ex.refl _) r1 _ (.bl b)⟩

/-! ### defs: the promise, the call -/
end
inductive RF where
  | ok (d : D) (ss : SS)
  | exc (c : Exn) (ss : SS)
  | stuck
def FinM (K : PySem.W.Frag) (mg : Str → Option Value) (a0 c0 : Addr) (F H : Hp) (Q : VK) (E : XK) : RF → Prop
  | .ok d ss' => ∀ v H' F', Gk a0 H F H' F' → SrcOk a0 c0 F' H' ss' → Rp K a0 F' v d → Q v H'
  | .exc c ss' => ∀ H' F' cls dd, Gk a0 H F H' F' → SrcOk a0 c0 F' H' ss' → ExcIs K mg a0 H c cls dd F' H' → E cls dd H'
  | .stuck => False
def spM (K : PySem.W.Frag) (mg : Str → Option Value) (n : Nat) (m : List D → SS → RF) : Sp := fun vs H Q E =>
  ∃ (a0 c0 : Addr) (F : Hp) (ds : List D) (ss : SS), vs.length = n ∧ Ex F H ∧ SrcOk a0 c0 F H ss ∧ RpAll K a0 F vs ds ∧ FinM K mg a0 c0 F H Q E (m ds ss)
/-- the module's def of the name x computes m of its n arguments, by at most level k -/
structure Cal (P : Program) (w : World) (K : PySem.W.Frag) (mg : Str → Option Value) (base : Heap) (k : Nat) (x : Str) (n : Nat) (m : List D → SS → RF) : Prop where
  ex : ∃ (f : Addr) (fd : FuncData) (ps : List Str), FnOk P w K mg base (L2.CX P w) k f fd ps (spM K mg n m) ∧ mg x = some (.ref f) ∧ PySem.W.keepIn K (.ref f) = true ∧ Binds K fd ps []
def mCall (n : Nat) (f : List D → SS → RF) (m : W → R (List D)) : W → R D := fun w => (m w).bind fun ds w1 => if ds.length = n then match f ds w1.ss with
  | .ok d ss' => .ok d { w1 with ss := ss' }
  | .exc c ss' => .exc c { w1 with ss := ss' }
  | .stuck => .stuck
  else .stuck
section
variable {X : Cx} {Wx : WX} {fm : Fm}
theorem se_call {e : Expr} {es : List Expr} {x : Str} {p pos : Pos} {k n : Nat} {f : List D → SS → RF} {m : W → R (List D)} (c : Cal X.prog X.w X.K X.mg X.base k x n f) (tk : Takes X Wx) (hr : Room k X.A) (ha : SAs X Wx fm (e :: es) m) (hg : Gl X x := by rfl)
    (hdb : (x == ("__debug__" : Str)) = false := by decide) (he : starEach (e :: es) X.env = (false, eval e X.env) :: starEach es X.env := by rfl) (hpl : (backTo pos (starEach es X.env)).any (·.1) = false := by rfl) :
    SE X Wx fm (.Call (.Name x p) (e :: es) [] pos) (mCall n f m) := by
  obtain ⟨fa, fd, ps, Fo, hm, hk, hb⟩ := c.ex
  refine ⟨?_⟩
  intro ex σ H F w Q r q
  refine WE.of (pe_callS Fo hr hg hm hk hb (fun σ => passAt tk σ) pa_wa hdb he hpl) ?_
  show WA X (e :: es) σ H fun vs H1 => spM X.K X.mg n f vs H1 Q (L2.WE Wx σ)
  refine ha ex σ H F w _ r ((Fin.bind q).imp fun ds w1 H1 F1 ⟨r1, k1, e1, q1⟩ vs hv => ?_)
  by_cases hl : ds.length = n
  · rw [if_pos hl] at q1
    refine ⟨fm.a0, fm.c0, F1, ds, w1.ss, hv.len.trans hl, r1.fh, r1.src, hv, ?_⟩
    revert q1
    cases f ds w1.ss with
    | ok d ss' => exact fun q1 v H' F' g s rv => q1 H' F' g.hh g.ff (r1.step g s) v rv
    | exc c ss' => exact fun q1 H' F' cls dd g s xc => q1 H' F' cls dd g.hh g.ff (r1.step g s) (xc.up r1 s)
    | stuck => exact fun q1 => q1
  · rw [if_neg hl] at q1
    exact (show False from q1).elim
/-- f(), no argument; it raises nothing -/
def mCall0 (f : List D → SS → RF) : W → R D := fun w1 => match f [] w1.ss with
  | .ok d ss' => .ok d { w1 with ss := ss' }
  | _ => .stuck
theorem se_call0 {x : Str} {p pos : Pos} {k : Nat} {f : List D → SS → RF} (c : Cal X.prog X.w X.K X.mg X.base k x 0 f) (hr : Room k X.A) (hg : Gl X x := by rfl)
    (hdb : (x == ("__debug__" : Str)) = false := by decide) : SE X Wx fm (.Call (.Name x p) [] [] pos) (mCall0 f) := by
  obtain ⟨fa, fd, ps, Fo, hm, hk, hb⟩ := c.ex
  refine ⟨?_⟩
  intro ex σ H F w Q r q
  refine WE.of (pe_call0 (dvs := []) Fo hr hg hm hk hb .nil passL hdb) ?_
  refine ⟨fm.a0, fm.c0, F, [], w.ss, rfl, r.fh, r.src, .nil, ?_⟩
  revert q
  unfold mCall0
  cases f [] w.ss with
  | ok d ss' => exact fun q1 v H' F' g s rv => q1 H' F' g.hh g.ff (r.step g s) v rv
  | exc c ss' => exact fun q1 => q1.elim
  | stuck => exact fun q1 => q1

/-! ### what a for walks -/
def WI (X : Cx) (tg iter : Expr) : TI := fun σ H R => ∀ (pins : List (Addr × Obj)) (s : Shared), Inv X pins σ H s →
  wpAny (model X.prog X.w) X.A (eval iter X.env) (fun v s1 => wpAny (model X.prog X.w) X.A (pyIter v) (PIE X pins σ tg R) X.xe s1) X.xe s
theorem pi_wi {tg iter : Expr} : PI X tg iter (WI X tg iter) := ⟨fun pins s _ _ _ I h => h pins s I⟩
theorem WI.of {tg iter : Expr} {t : TI} {σ : L2.St} {H : Hp} {R : It → Hp → Prop} (h : PI X tg iter t) (q : t σ H R) : WI X tg iter σ H R := fun pins s I => h.run pins s σ H R I q
structure Wk (K : PySem.W.Frag) (a0 : Addr) (J : It) (ds : List D) (F : Hp) : Prop where
  ex : ∃ (G : Hp → Prop) (Y : Nat → Hp → V → Hp → Prop), Walk J ds.length G Y ∧ (∀ H, Ex F H → G H) ∧
    ∀ i H F1 x H', i < ds.length → Ex F F1 → Ex F1 H → Y i H x H' → ∃ F2 d, ds[i]? = some d ∧ Gr H F1 H' F2 ∧ Rp K a0 F2 x d
abbrev SItr (X : Cx) (Wx : WX) (fm : Fm) (tg iter : Expr) (m : W → R (List D)) : Prop := ∀ (ex : Exs) (σ : L2.St) (H F : Hp) (w : W) (R : It → Hp → Prop), Rel X.K fm ex σ H F w →
  Fin X Wx fm ex σ H F (fun ds _ H' F' => ∀ J, Wk X.K fm.a0 J ds F' → R J H') (m w) → WI X tg iter σ H R
structure SIt (X : Cx) (Wx : WX) (fm : Fm) (tg iter : Expr) (m : W → R (List D)) : Prop where
  run : SItr X Wx fm tg iter m
instance {X : Cx} {Wx : WX} {fm : Fm} {tg iter : Expr} {m : W → R (List D)} : CoeFun (SIt X Wx fm tg iter m) (fun _ => SItr X Wx fm tg iter m) := ⟨SIt.run⟩
def signs (z : Str) : List D := z.cps.toList.map fun c => .str ⟨#[c]⟩
def D.items : D → Option (List D)
  | .tup l => some l
  | .lst l => some l
  | .str z => some (signs z)
  | _ => none
def mItems (m : W → R D) : W → R (List D) := fun w => (m w).bind fun d w' => R.lift d.items w'
theorem wk_at {K : PySem.W.Frag} {a0 : Addr} {J : It} {G : Hp → Prop} {vs : List V} {ds : List D} {F : Hp} (w : Walk J vs.length G (YAt vs)) (hG : ∀ H, Ex F H → G H) (ha : RpAll K a0 F vs ds) : Wk K a0 J ds F := by
  refine ⟨G, YAt vs, by rw [← ha.len]; exact w, hG, fun i H F1 x H' hi e1 e2 y => ?_⟩
  obtain ⟨rfl, y⟩ := y
  obtain ⟨d, h1, h2⟩ := ha.getv y
  exact ⟨F1, d, h1, Gr.refl e2, h2.ex e1⟩
/-- the iterator of a value that is there -/
def ItrOk (X : Cx) (tg : Expr) (R : It → Hp → Prop) (x : V) (H : Hp) : Prop := ∀ (pins : List (Addr × Obj)) (s : Shared) (σ : L2.St) (u : Value), Inv X pins σ H s → RelV x u → wpAny (model X.prog X.w) X.A (pyIter u) (PIE X pins σ tg R) X.xe s
theorem iter_list {tg : Expr} {R : It → Hp → Prop} {a : Addr} {H : Hp} {vs : List V} (hq : SqL X.K H a vs) (q : R (Itl X.K a) H) : ItrOk X tg R (.ref a) H := by
  intro pins s σ u I r
  cases r
  obtain ⟨its, rv, p, hz⟩ := I.list hq
  refine wpAny_pyIter_list p.isList ?_
  refine ⟨s.heap.objs.size, [s.heap.objs.size], _, _, H, rfl, I.kept (t' := s.toks) fun b o e => Heap.get?_push_of_some _ e, turn_list a _, ⟨_, Heap.get?_push_size _ rfl, rfl, rfl⟩, fun b hb => ?_, q⟩
  have e : b = s.heap.objs.size := by simpa using hb
  subst e
  exact I.fpOk (Nat.le_refl _) (I.hok.fresh (Nat.le_refl _))
theorem iter_tup {tg : Expr} {R : It → Hp → Prop} {a : Addr} {H : Hp} {vs : List V} (hq : SqT X.K H a vs) (q : R (Itt X.K a) H) : ItrOk X tg R (.ref a) H := by
  intro pins s σ u I r
  cases r
  obtain ⟨its, rv, p, hz⟩ := I.tuple hq
  refine wpAny_pyIter_tuple (show s.heap.IsTuple a its.toArray from p) ?_
  refine ⟨s.heap.objs.size, [s.heap.objs.size], _, _, H, rfl, I.kept (t' := s.toks) fun b o e => Heap.get?_push_of_some _ e, turn_tuple a _, ⟨_, Heap.get?_push_size _ rfl, rfl, rfl⟩, fun b hb => ?_, q⟩
  have e : b = s.heap.objs.size := by simpa using hb
  subst e
  exact I.fpOk (Nat.le_refl _) (I.hok.fresh (Nat.le_refl _))
theorem iter_str {tg : Expr} {R : It → Hp → Prop} {x : Str} {H : Hp} (q : R (Its x) H) : ItrOk X tg R (.str x) H := by
  intro pins s σ u I r
  obtain ⟨t, rfl⟩ := r
  cases ha : x.cps.all (· < 128)
  · exact wpAny_pyIter_wide ha (pi_one (tk := s.toks) I _ (turn_str _ x t "str_iterator" (.inr rfl)) ⟨_, Heap.get?_push_size _ rfl, rfl, rfl⟩ q)
  · exact wpAny_pyIter_ascii ha (pi_one (tk := s.toks) I _ (turn_str _ x t "str_ascii_iterator" (.inl rfl)) ⟨_, Heap.get?_push_size _ rfl, rfl, rfl⟩ q)
theorem si_seq {tg e : Expr} {m : W → R D} (h : SE X Wx fm e m) : SIt X Wx fm tg e (mItems m) := by
  refine ⟨?_⟩
  intro ex σ H F w R r q
  intro pins s I
  have key : WE X e σ H fun v H1 => ItrOk X tg R v H1 := by
    refine h ex σ H F w _ r ((Fin.bind q).imp fun d w1 H1 F1 ⟨r1, k1, e1, q1⟩ v hv => ?_)
    cases hv with
    | @lst p us l hs ha =>
      have q1 : ∀ H' F', Kp fm.a0 H1 H' → Ex F1 F' → Rel X.K fm ex σ H' F' w1 → ∀ J, Wk X.K fm.a0 J l F' → R J H' := q1
      exact iter_list (.inl (.inl (r1.fh _ _ hs))) (q1 H1 F1 Kp.refl (Ex.refl _) r1 _ (wk_at walk_list (fun H' e => .inl (.inl (e _ _ hs))) ha))
    | @tup p us l hs ha =>
      have q1 : ∀ H' F', Kp fm.a0 H1 H' → Ex F1 F' → Rel X.K fm ex σ H' F' w1 → ∀ J, Wk X.K fm.a0 J l F' → R J H' := q1
      exact iter_tup (ex_t r1.fh hs) (q1 H1 F1 Kp.refl (Ex.refl _) r1 _ (wk_at walk_tup (fun H' e => ex_t e hs) ha))
    | str z =>
      have q1 : ∀ H' F', Kp fm.a0 H1 H' → Ex F1 F' → Rel X.K fm ex σ H' F' w1 → ∀ J, Wk X.K fm.a0 J (signs z) F' → R J H' := q1
      refine iter_str (q1 H1 F1 Kp.refl (Ex.refl _) r1 _ ⟨fun _ => True, (fun i H v H' => H' = H ∧ ∃ c, z.cps[i]? = some c ∧ v = .str ⟨#[c]⟩), ?_, fun _ _ => trivial, fun i H F1 x H' hi e1 e2 y => ?_⟩)
      · have e : (signs z).length = z.cps.size := by simp [signs]
        rw [e]
        exact walk_str
      · obtain ⟨rfl, c, hc, rfl⟩ := y
        refine ⟨F1, .str ⟨#[c]⟩, ?_, Gr.refl e2, .str _⟩
        have hc' : z.cps.toList[i]? = some c := by simpa using hc
        unfold signs
        rw [List.getElem?_map, hc']
        rfl
    | _ => exact (show False from q1).elim
  exact thn (key pins s I) fun u s1 ⟨v, H1, I1, rv, hv⟩ => hv pins s1 σ u I1 rv
/-- range(n), range(a, b) -/
def rngD (a b : Int) : List D := (List.range (b - a).toNat).map fun (i : Nat) => D.int (a + (i : Int))
def small (i : Int) : Bool := decide (-(2 ^ 62) ≤ i) && decide (i < 2 ^ 62)
theorem small_b {i : Int} (h : small i = true) : -(2 ^ 62) ≤ i ∧ i < 2 ^ 62 := by
  unfold small at h
  simpa using h
def mRng1 (m : W → R (List D)) : W → R (List D) := fun w => (m w).bind fun ds w' => R.lift (match ds with | [.int b] => if small b = true then some (rngD 0 b) else none | _ => none) w'
def mRng2 (m : W → R (List D)) : W → R (List D) := fun w => (m w).bind fun ds w' => R.lift (match ds with | [.int a, .int b] => if (small a && small b) = true then some (rngD a b) else none | _ => none) w'
theorem wk_rng {K : PySem.W.Frag} {a0 : Addr} {a b : Int} {F : Hp} : Wk K a0 (Itr a (b - a).toNat) (rngD a b) F := by
  have e : (rngD a b).length = (b - a).toNat := by simp [rngD]
  refine ⟨fun _ => True, (YFn fun i => .int (a + i)), by rw [e]; exact walk_range, fun _ _ => trivial, fun i H F1 x H' hi e1 e2 y => ?_⟩
  obtain ⟨rfl, rfl⟩ := y
  refine ⟨F1, .int (a + i), ?_, Gr.refl e2, .int _⟩
  unfold rngD
  rw [List.getElem?_map, List.getElem?_range (by omega)]
  rfl
theorem si_rng1 {tg a : Expr} {p pos : Pos} {m : W → R (List D)} (ha : SAs X Wx fm [a] m) (hm : X.mg "range" = none) (hg : Gl X "range" := by rfl) (hs : starEach [a] X.env = [(false, eval a X.env)] := by rfl) : SIt X Wx fm tg (.Call (.Name "range" p) [a] [] pos) (mRng1 m) := by
  refine ⟨?_⟩
  intro ex σ H F w R r q
  refine WI.of (pi_range1 hg hm pa_wa hs) ?_
  show WA X [a] σ H fun vs H1 => ∃ j : Int, vs = [.int j] ∧ -(2 ^ 62) ≤ j ∧ j < 2 ^ 62 ∧ R (Itr 0 j.toNat) H1
  refine ha ex σ H F w _ r ((Fin.bind q).imp fun ds w1 H1 F1 ⟨r1, k1, e1, q1⟩ vs hv => ?_)
  obtain ⟨z, hz, q2⟩ := q1.lift
  split at hz
  · rename_i b _
    by_cases hb : small b = true
    · rw [if_pos hb] at hz
      cases hz
      cases hv with
      | cons h1 h2 =>
        cases h1
        cases h2
        have k := wk_rng (K := X.K) (a0 := fm.a0) (a := 0) (b := b) (F := F1)
        rw [Int.sub_zero] at k
        exact ⟨b, rfl, (small_b hb).1, (small_b hb).2, q2 H1 F1 Kp.refl (Ex.refl _) r1 _ k⟩
    · rw [if_neg hb] at hz; cases hz
  · cases hz
theorem si_rng2 {tg a b : Expr} {p pos : Pos} {m : W → R (List D)} (ha : SAs X Wx fm [a, b] m) (hm : X.mg "range" = none) (hg : Gl X "range" := by rfl) (hs : starEach [a, b] X.env = [(false, eval a X.env), (false, eval b X.env)] := by rfl) (hs2 : starEach [b] X.env = [(false, eval b X.env)] := by rfl) :
    SIt X Wx fm tg (.Call (.Name "range" p) [a, b] [] pos) (mRng2 m) := by
  refine ⟨?_⟩
  intro ex σ H F w R r q
  refine WI.of (pi_range2 hg hm pa_wa hs hs2) ?_
  show WA X [a, b] σ H fun vs H1 => ∃ i j : Int, vs = [.int i, .int j] ∧ (-(2 ^ 62) ≤ i ∧ i < 2 ^ 62 ∧ -(2 ^ 62) ≤ j ∧ j < 2 ^ 62) ∧ R (Itr i (j - i).toNat) H1
  refine ha ex σ H F w _ r ((Fin.bind q).imp fun ds w1 H1 F1 ⟨r1, k1, e1, q1⟩ vs hv => ?_)
  obtain ⟨z, hz, q2⟩ := q1.lift
  split at hz
  · rename_i a b _
    by_cases hb : (small a && small b) = true
    · rw [if_pos hb] at hz
      cases hz
      have hb' : small a = true ∧ small b = true := by simpa using hb
      cases hv with
      | cons h1 h2 =>
        cases h1
        cases h2 with
        | cons h3 h4 =>
          cases h3
          cases h4
          exact ⟨a, b, rfl, ⟨(small_b hb'.1).1, (small_b hb'.1).2, (small_b hb'.2).1, (small_b hb'.2).2⟩, q2 H1 F1 Kp.refl (Ex.refl _) r1 _ wk_rng⟩
    · rw [if_neg hb] at hz; cases hz
  · cases hz
end
end TD

set_option Elab.async false
set_option linter.all false
set_option maxRecDepth 100000
set_option maxHeartbeats 4000000
namespace TD
open PySem PySem.Spec PyProof.Rows L2

/-! ### names wiped, given back -/
def wipeE (env : Env) : List Nat → Env
  | [] => env
  | v :: vs => (wipeE env vs).set v none
theorem Rel.wipe {K : PySem.W.Frag} {fm : Fm} {ex : Exs} {σ : L2.St} {H F : Hp} {w : W} (r : Rel K fm ex σ H F w) : ∀ vs : List Nat, Rel K fm ex (L2.wipe σ vs) H F { w with env := wipeE w.env vs }
  | [] => r
  | v :: vs => (r.wipe vs).setNone v none
def resE (env0 env : Env) : List Nat → Env
  | [] => env
  | v :: vs => (resE env0 env vs).set v (match env0[v]? with | some (some (.val d)) => some (.val d) | _ => none)
def resS (σ τ : L2.St) : List Nat → L2.St
  | [] => τ
  | v :: vs => (resS σ τ vs).set v (σ[v]?.getD none)
theorem Rel.restore {K : PySem.W.Frag} {fm : Fm} {ex ex' : Exs} {σ τ : L2.St} {H F H' F' : Hp} {w w' : W} (r : Rel K fm ex σ H F w) (e : Ex F F') (r' : Rel K fm ex' τ H' F' w') : ∀ vs : List Nat, Rel K fm ex' (resS σ τ vs) H' F' { w' with env := resE w.env w'.env vs }
  | [] => r'
  | v :: vs => by
    have ih := r.restore e r' vs
    unfold resS resE
    split
    · rename_i d h
      obtain ⟨u, e1, k⟩ := r.slot v _ h
      rw [e1]
      exact ih.setVal v (Rp.ex k e)
    · exact ih.setNone v _
theorem resS_get {σ τ : L2.St} (hl : τ.length = σ.length) : ∀ (vs : List Nat) (i : Nat), (resS σ τ vs)[i]? = if i ∈ vs then σ[i]? else τ[i]?
  | [], i => by simp [resS]
  | v :: vs, i => by
    have ih := resS_get hl vs i
    have len : ∀ us : List Nat, (resS σ τ us).length = σ.length := fun us => by
      induction us with
      | nil => exact hl
      | cons u us ih => unfold resS; rw [List.length_set]; exact ih
    unfold resS
    by_cases hi : i = v
    · subst hi
      rw [if_pos (List.mem_cons_self ..)]
      by_cases hv : i < σ.length
      · rw [List.getElem?_set_self (by rw [len]; exact hv), List.getElem?_eq_getElem hv]
        rfl
      · rw [List.getElem?_eq_none (by rw [List.length_set, len]; omega), List.getElem?_eq_none (by omega)]
    · rw [List.getElem?_set_ne (Ne.symm hi), ih]
      by_cases hm : i ∈ vs
      · rw [if_pos hm, if_pos (List.mem_cons_of_mem _ hm)]
      · rw [if_neg hm, if_neg (by simp [hi, hm])]
theorem wipe_get {σ : L2.St} : ∀ (vs : List Nat) (i : Nat), (L2.wipe σ vs)[i]? = if i ∈ vs then σ[i]?.map fun _ => none else σ[i]?
  | [], i => by simp [L2.wipe]
  | v :: vs, i => by
    have ih := wipe_get (σ := σ) vs i
    unfold L2.wipe
    by_cases hi : i = v
    · subst hi
      rw [if_pos (List.mem_cons_self ..)]
      by_cases hv : i < σ.length
      · rw [List.getElem?_set_self (by rw [wipe_length]; exact hv), List.getElem?_eq_getElem hv]
        rfl
      · rw [List.getElem?_eq_none (by rw [List.length_set, wipe_length]; omega), List.getElem?_eq_none (by omega)]
        rfl
    · rw [List.getElem?_set_ne (Ne.symm hi), ih]
      by_cases hm : i ∈ vs
      · rw [if_pos hm, if_pos (List.mem_cons_of_mem _ hm)]
      · rw [if_neg hm, if_neg (by simp [hi, hm])]
theorem resS_wipe (σ : L2.St) (vs : List Nat) : resS σ (L2.wipe σ vs) vs = σ := by
  refine List.ext_getElem? fun i => ?_
  rw [resS_get (wipe_length σ vs), wipe_get]
  split <;> rfl
theorem wipe_same {σ σ' : L2.St} {vs js : List Nat} (hl : σ'.length = σ.length) (h : ∀ i, i ∉ js → σ'[i]? = (L2.wipe σ vs)[i]?) (hj : ∀ j ∈ js, j ∈ vs) : L2.wipe σ' vs = L2.wipe σ vs := by
  refine List.ext_getElem? fun i => ?_
  rw [wipe_get, wipe_get]
  by_cases hm : i ∈ vs
  · rw [if_pos hm, if_pos hm]
    by_cases hi : i < σ.length
    · rw [List.getElem?_eq_getElem hi, List.getElem?_eq_getElem (by omega)]
      rfl
    · rw [List.getElem?_eq_none (by omega), List.getElem?_eq_none (by omega)]
  · rw [if_neg hm, if_neg hm, h i (fun z => hm (hj i z)), wipe_get, if_neg hm]

section
variable {X : Cx} {Wx : WX} {fm : Fm}
/-! ### targets -/
def WG (X : Cx) (tg : Expr) : TG := fun v σ H Q => ∀ (pins : List (Addr × Obj)) (s : Shared) (u : Value), Inv X pins σ H s → RelV v u → wpAny (model X.prog X.w) X.A (assign tg X.env u) (fun _ s' => ∃ σ' H', Inv X pins σ' H' s' ∧ Q σ' H') X.xe s
theorem pg_wg {tg : Expr} : PG X tg (WG X tg) := ⟨fun pins s _ _ _ u _ I r h => h pins s u I r⟩
theorem WG.of {tg : Expr} {t : TG} {v : V} {σ : L2.St} {H : Hp} {Q : L2.St → Hp → Prop} (h : PG X tg t) (q : t v σ H Q) : WG X tg v σ H Q := fun pins s u I r => h.run pins s σ H v u Q I r q
abbrev SGr (X : Cx) (fm : Fm) (js : List Nat) (tg : Expr) (set : D → W → Option W) : Prop := ∀ (ex : Exs) (σ : L2.St) (H F : Hp) (w : W) (v : V) (d : D) (w' : W) (Q : L2.St → Hp → Prop), Rel X.K fm ex σ H F w → Rp X.K fm.a0 F v d → set d w = some w' →
  (∀ σ', σ'.length = σ.length → (∀ i, i ∉ js → σ'[i]? = σ[i]?) → Rel X.K fm ex σ' H F w' → Q σ' H) → WG X tg v σ H Q
structure SG (X : Cx) (fm : Fm) (js : List Nat) (tg : Expr) (set : D → W → Option W) : Prop where
  run : SGr X fm js tg set
instance {X : Cx} {fm : Fm} {js : List Nat} {tg : Expr} {set : D → W → Option W} : CoeFun (SG X fm js tg set) (fun _ => SGr X fm js tg set) := ⟨SG.run⟩
def gsName (i : Nat) : D → W → Option W := fun d w => some { w with env := w.env.set i (some (.val d)) }
theorem sg_name {i : Nat} {x : Str} {pos : Pos} (hN : X.N.Nodup) (hi : X.N[i]? = some x := by rfl) (hx : Loc X.env.scope x := by first | exact Or.inl rfl | exact Or.inr rfl) (hf : X.fn x = true ∨ X.env.scope.names.lookup x = some .local := by first | exact .inl rfl | exact .inr rfl | assumption) :
    SG X fm [i] (.Name x pos) (gsName i) := by
  refine ⟨?_⟩
  intro ex σ H F w v d w' Q r rv e k
  cases e
  refine WG.of (pg_name hN hi hx hf) ?_
  exact k _ (List.length_set ..) (fun j hj => by
    have : j ≠ i := by simpa using hj
    rw [List.getElem?_set_ne (Ne.symm this)]) (r.setVal i rv)
def WGs (X : Cx) (ts : List Expr) : TGs := fun vs σ H Q => ∃ t, PGs X ts t ∧ t vs σ H Q
def SGs (X : Cx) (fm : Fm) (js : List Nat) (ts : List Expr) (set : List D → W → Option W) : Prop := ∃ t, PGs X ts t ∧ ∀ (ex : Exs) (σ : L2.St) (H F : Hp) (w : W) (vs : List V) (ds : List D) (w' : W) (Q : L2.St → Hp → Prop), Rel X.K fm ex σ H F w → RpAll X.K fm.a0 F vs ds → set ds w = some w' →
  (∀ σ', σ'.length = σ.length → (∀ i, i ∉ js → σ'[i]? = σ[i]?) → Rel X.K fm ex σ' H F w' → Q σ' H) → t vs σ H Q
def gsNil : List D → W → Option W
  | [], w => some w
  | _, _ => none
def gsCons (s : D → W → Option W) (t : List D → W → Option W) : List D → W → Option W
  | d :: ds, w => (s d w).bind (t ds)
  | [], _ => none
theorem sgs_nil : SGs X fm [] [] gsNil := ⟨_, pgs_nil, fun ex σ H F w vs ds w' Q r rv e k => by
  cases rv with
  | nil => cases e; exact ⟨rfl, k σ rfl (fun _ _ => rfl) r⟩
  | cons _ _ => cases e⟩
theorem sgs_cons {e : Expr} {es : List Expr} {js ks : List Nat} {s : D → W → Option W} {t : List D → W → Option W} (h : SG X fm js e s) (g : SGs X fm ks es t) (hs : (assignEach (e :: es) X.env).map (·.2) = assign e X.env :: (assignEach es X.env).map (·.2) := by rfl) : SGs X fm (js ++ ks) (e :: es) (gsCons s t) := by
  obtain ⟨u, pu, gu⟩ := g
  refine ⟨_, pgs_cons pg_wg pu hs, fun ex σ H F w vs ds w' Q r rv eq k => ?_⟩
  cases rv with
  | nil => cases eq
  | @cons v vs d ds h1 h2 =>
    have eq : (s d w).bind (t ds) = some w' := eq
    cases hs : s d w with
    | none => rw [hs] at eq; cases eq
    | some w1 =>
      rw [hs] at eq
      refine ⟨v, vs, rfl, h ex σ H F w v d w1 _ r h1 hs fun σ1 l1 a1 r1 => ?_⟩
      exact gu ex σ1 H F w1 vs ds w' Q r1 h2 eq fun σ2 l2 a2 r2 => k σ2 (l2.trans l1) (fun i hi => (a2 i (fun z => hi (List.mem_append_right _ z))).trans (a1 i fun z => hi (List.mem_append_left _ z))) r2
def gsTup (n : Nat) (t : List D → W → Option W) : D → W → Option W
  | .tup ds, w => if ds.length = n then t ds w else none
  | _, _ => none
theorem sg_tup {es : List Expr} {k n : Nat} {pos : Pos} {js : List Nat} {t : List D → W → Option W} (hc : X.calm = true) (h : SGs X fm js es t) (hn : (assignEach es X.env).length = n := by rfl) (hst : (assignEach es X.env).findIdx? (·.1) = none := by rfl) : SG X fm js (.Tuple es k pos) (gsTup n t) := by
  obtain ⟨u, pu, gu⟩ := h
  refine ⟨?_⟩
  intro ex σ H F w v d w' Q r rv eq kk
  refine WG.of (pg_tup hc pu hn hst) ?_
  cases rv with
  | @tup a vs ds h1 h2 =>
    have eq : (if ds.length = n then t ds w else none) = some w' := eq
    by_cases hl : ds.length = n
    · rw [if_pos hl] at eq
      exact ⟨a, vs, rfl, ex_t r.fh h1, h2.len.trans hl, gu ex σ H F w vs ds w' Q r h2 eq kk⟩
    · rw [if_neg hl] at eq; cases eq
  | _ => cases eq

/-! ### list comprehensions -/
def W0 : WX := fun _ _ _ _ => False
def R.nox {α : Type} : R α → R α
  | .ok a w => .ok a w
  | _ => .stuck
def WTs (X : Cx) (ifs : List Expr) : TT := fun σ H Q => ∀ (pins : List (Addr × Obj)) (s : Shared), Inv X pins σ H s →
  wpAny (model X.prog X.w) X.A (forIn ifs true fun c r => if r = true then do let ok ← isTrue c X.env (eval c X.env); pure (ForInStep.yield ok) else pure (ForInStep.yield r)) (TP X pins σ Q) X.xe s
abbrev STsr (X : Cx) (Wx : WX) (fm : Fm) (ifs : List Expr) (m : W → R Bool) : Prop := ∀ (ex : Exs) (σ : L2.St) (H F : Hp) (w : W) (Q : Bool → Hp → Prop), Rel X.K fm ex σ H F w →
  Fin X Wx fm ex σ H F (fun b _ H' _ => Q b H') (m w) → WTs X ifs σ H Q
structure STs (X : Cx) (Wx : WX) (fm : Fm) (ifs : List Expr) (m : W → R Bool) : Prop where
  run : STsr X Wx fm ifs m
instance {X : Cx} {Wx : WX} {fm : Fm} {ifs : List Expr} {m : W → R Bool} : CoeFun (STs X Wx fm ifs m) (fun _ => STsr X Wx fm ifs m) := ⟨STs.run⟩
def mYes : W → R Bool := fun w => .ok true w
theorem sts_nil : STs X Wx fm [] mYes := ⟨fun ex σ H F w Q r q pins s I => pts_nil.run pins s σ H Q I (q H F Kp.refl (Ex.refl _) r)⟩
theorem sts_one {c : Expr} {m : W → R Bool} (h : STt X Wx fm c m) : STs X Wx fm [c] m := ⟨fun ex σ H F w Q r q pins s I => (pts_one (pt_wt (X := X) (e := c))).run pins s σ H Q I (h ex σ H F w Q r q)⟩
def lcGo (vs : List Nat) (set : D → W → Option W) (mt : W → R Bool) (me : W → R D) : List D → List D → W → R (List D)
  | [], acc, w => .ok acc w
  | d :: ds, acc, w => match set d w with
    | none => .stuck
    | some w1 => (mt w1).nox.bind fun b w2 => if b = true then (me w2).nox.bind fun y w3 => if acc.length < 1000000 then lcGo vs set mt me ds (acc ++ [y]) { w3 with env := wipeE w3.env vs } else .stuck
      else lcGo vs set mt me ds acc { w2 with env := wipeE w2.env vs }
def mLc (vs : List Nat) (mi : W → R (List D)) (set : D → W → Option W) (mt : W → R Bool) (me : W → R D) : W → R (List D) := fun w => (mi w).bind fun ds w1 =>
  (lcGo vs set mt me ds [] { w1 with env := wipeE w1.env vs }).bind fun acc w2 => .ok acc { w2 with env := resE w1.env w2.env vs }
theorem FinF.bindL {r : R (List D)} {q : List D → W → R (List D)} {ex : Exs} {σ : L2.St} {H F : Hp} {Q : VK} (h : FinF X Wx fm ex σ H F Q (r.bind q)) :
    Fin X Wx fm ex σ H F (fun a w' H' F' => Rel X.K fm ex σ H' F' w' ∧ Kp fm.a0 H H' ∧ Ex F F' ∧ FinF X Wx fm ex σ H' F' Q (q a w')) r := FinF.bind h
theorem nox_ok {α : Type} {r : R α} {k : α → W → R (List D)} {P : R (List D) → Prop} (hs : ¬ P .stuck) (h : P (r.nox.bind k)) : ∃ a w, r = .ok a w ∧ P (k a w) := by
  cases r with
  | ok a w => exact ⟨a, w, rfl, h⟩
  | exc c w => exact absurd h hs
  | stuck => exact absurd h hs
def bG (X : Cx) (scope : Scope) (tg : Expr) : TG := fun v σ H Q => ∀ (s : Shared) (H0 : Hp) (C : Addr) (cl : List (Str × Addr)) (fp : List Addr), WG (X.blk s H0 scope (compEnvC scope cl C X.env) fp) tg v σ H Q
def bT (X : Cx) (scope : Scope) (ifs : List Expr) : TT := fun σ H Q => ∀ (s : Shared) (H0 : Hp) (C : Addr) (cl : List (Str × Addr)) (fp : List Addr), WTs (X.blk s H0 scope (compEnvC scope cl C X.env) fp) ifs σ H Q
def bE (X : Cx) (scope : Scope) (elt : Expr) : TE := fun σ H Q => ∀ (s : Shared) (H0 : Hp) (C : Addr) (cl : List (Str × Addr)) (fp : List Addr), WE (X.blk s H0 scope (compEnvC scope cl C X.env) fp) elt σ H Q
theorem tlc_ok {elt tg iter : Expr} {ifs : List Expr} {scope : Scope} {vs : List Nat} {js : List Nat} {mi : W → R (List D)} {set : D → W → Option W} {mt : W → R Bool} {me : W → R D} (hi : SIt X Wx fm tg iter mi)
    (hg : ∀ (s : Shared) (H : Hp) (C : Addr) (cl : List (Str × Addr)) (fp : List Addr), SG (X.blk s H scope (compEnvC scope cl C X.env) fp) fm js tg set) (hj : ∀ j ∈ js, j ∈ vs)
    (ht : ∀ (s : Shared) (H : Hp) (C : Addr) (cl : List (Str × Addr)) (fp : List Addr), STs (X.blk s H scope (compEnvC scope cl C X.env) fp) W0 fm ifs mt)
    (he : ∀ (s : Shared) (H : Hp) (C : Addr) (cl : List (Str × Addr)) (fp : List Addr), SE (X.blk s H scope (compEnvC scope cl C X.env) fp) W0 fm elt me)
    {ex : Exs} {σ : L2.St} {H F : Hp} {w : W} {Q : VK} (r : Rel X.K fm ex σ H F w) (q : FinF X Wx fm ex σ H F Q (mLc vs mi set mt me w)) : tLc (WI X tg iter) (bG X scope tg) (bT X scope ifs) (bE X scope elt) vs σ H Q := by
  refine hi ex σ H F w _ r ((FinF.bind q).imp fun ds w1 H1 F1 ⟨r1, k1, e1, q1⟩ J wk Dl hD => ?_)
  obtain ⟨G, Y, walk, hG, hY⟩ := wk.ex
  have rw1 := r1.wipe vs
  refine lc_it (g := bG X scope tg) (tt := bT X scope ifs) (te := bE X scope elt) (vs := vs) (σ := σ) walk (fun i H' => ∃ F' w' acc, Kp fm.a0 H1 H' ∧ Ex F1 F' ∧ Rel X.K fm ((Dl, acc) :: ex) (L2.wipe σ vs) H' F' w' ∧
      FinF X Wx fm ex σ H1 F1 Q ((lcGo vs set mt me (ds.drop i) acc w').bind fun acc w2 => .ok acc { w2 with env := resE w1.env w2.env vs }))
    ⟨F1, _, [], (Gr.dark r1.fh hD).kp, Ex.refl _, rw1.lay hD .nil, q1⟩ (fun i H' hi' ⟨F', w', acc, a, b, c, d⟩ => hG H' (b.trans c.fh)) (fun i x Ha Hb hi' ⟨F', w', acc, kp, ef, rr, fin⟩ y => ?_) (fun H' ⟨F', w', acc, kp, ef, rr, fin⟩ => ?_)
  · -- one turn
    obtain ⟨F2, d, hd, gr, rv⟩ := hY i Ha F' x Hb hi' ef rr.fh y
    have hdrop : ds.drop i = d :: ds.drop (i + 1) := by
      obtain ⟨hlt, e⟩ := List.getElem?_eq_some_iff.mp hd
      rw [List.drop_eq_getElem_cons hlt, e]
    rw [hdrop] at fin
    unfold lcGo at fin
    cases hset : set d w' with
    | none => rw [hset] at fin; exact (show False from fin).elim
    | some wa =>
      rw [hset] at fin
      have r2 := rr.gr gr
      intro s H0 C cl fp
      refine hg s H0 C cl fp _ _ _ _ _ _ _ _ _ r2 rv hset fun σ2 hl2 ha2 ra => ?_
      have ew : L2.wipe σ2 vs = L2.wipe σ vs := wipe_same (by rw [hl2, wipe_length]) ha2 hj
      refine ⟨ew, ?_⟩
      have fin : FinF X Wx fm ex σ H1 F1 Q (((mt wa).nox.bind fun b w2 => if b = true then (me w2).nox.bind fun y w3 => if acc.length < 1000000 then lcGo vs set mt me (ds.drop (i + 1)) (acc ++ [y]) { w3 with env := wipeE w3.env vs } else .stuck
        else lcGo vs set mt me (ds.drop (i + 1)) acc { w2 with env := wipeE w2.env vs }).bind fun acc w2 => .ok acc { w2 with env := resE w1.env w2.env vs }) := fin
      obtain ⟨b, wb, hmt, fin⟩ := nox_ok (P := fun r => FinF X Wx fm ex σ H1 F1 Q (r.bind fun acc w2 => .ok acc { w2 with env := resE w1.env w2.env vs })) (fun z => z) fin
      intro s2 H02 C2 cl2 fp2
      refine ht s2 H02 C2 cl2 fp2 _ σ2 Hb F2 wa _ ra ?_
      rw [hmt]
      intro Hc Fc kc ec rc
      have kp2 : Kp fm.a0 H1 Hc := (kp.trans gr.kp).trans kc
      have ef2 : Ex F1 Fc := (ef.trans gr.ff).trans ec
      cases b with
      | false =>
        have rn := rc.wipe vs
        rw [ew] at rn
        exact ⟨Fc, _, acc, kp2, ef2, rn, fin⟩
      | true =>
        have fin : FinF X Wx fm ex σ H1 F1 Q (((me wb).nox.bind fun y w3 => if acc.length < 1000000 then lcGo vs set mt me (ds.drop (i + 1)) (acc ++ [y]) { w3 with env := wipeE w3.env vs } else .stuck).bind fun acc w2 => .ok acc { w2 with env := resE w1.env w2.env vs }) := fin
        obtain ⟨z, wc, hme, fin⟩ := nox_ok (P := fun r => FinF X Wx fm ex σ H1 F1 Q (r.bind fun acc w2 => .ok acc { w2 with env := resE w1.env w2.env vs })) (fun z => z) fin
        show bE X scope elt σ2 Hc _
        intro s3 H03 C3 cl3 fp3
        refine he s3 H03 C3 cl3 fp3 _ σ2 Hc Fc wb _ rc ?_
        rw [hme]
        intro Hd Fd kd ed rd v hv
        by_cases hz : acc.length < 1000000
        · rw [if_pos hz] at fin
          obtain ⟨h1, h2, h3, us, h4, h5⟩ := rd.exo _ (List.mem_cons_self ..)
          have h4 : Hd Dl = some (.lst us) := h4
          have h5 : RpAll X.K fm.a0 Fd us acc := h5
          refine ⟨us, h4, line_lt (by rw [h5.len]; omega), ?_⟩
          have rm := rd.mut (h5.app (.one hv))
          have rn := rm.wipe vs
          rw [ew] at rn
          have nd : ∀ b o, H1 b = some o → b ≠ Dl := fun b o e z => by subst z; rw [hD] at e; cases e
          exact ⟨Fd, _, acc ++ [z], fun b o n e => by rw [upd_ne (nd b o e)]; exact kd b o n (kp2 b o n e), ef2.trans ed, rn, fin⟩
        · rw [if_neg hz] at fin
          exact (show False from fin).elim
  · -- the end
    rw [List.drop_eq_nil_of_le (Nat.le_refl _)] at fin
    have rr2 := r1.restore ef rr vs
    rw [resS_wipe] at rr2
    exact fin Dl H' F' kp ef rr2

theorem sf_lc {elt tg iter : Expr} {ifs : List Expr} {scope : Scope} {own : List (Str × Nat)} {pos : Pos} {js : List Nat} {mi : W → R (List D)} {set : D → W → Option W} {mt : W → R Bool} {me : W → R D} (hc : X.calm = true) (hN : X.N.Nodup) (hi : SIt X Wx fm tg iter mi) (ok : BlkOk X.N X.env.scope scope own)
    (hg : ∀ (s : Shared) (H : Hp) (C : Addr) (cl : List (Str × Addr)) (fp : List Addr), SG (X.blk s H scope (compEnvC scope cl C X.env) fp) fm js tg set) (hj : ∀ j ∈ js, j ∈ own.map (·.2))
    (ht : ∀ (s : Shared) (H : Hp) (C : Addr) (cl : List (Str × Addr)) (fp : List Addr), STs (X.blk s H scope (compEnvC scope cl C X.env) fp) W0 fm ifs mt)
    (he : ∀ (s : Shared) (H : Hp) (C : Addr) (cl : List (Str × Addr)) (fp : List Addr), SE (X.blk s H scope (compEnvC scope cl C X.env) fp) W0 fm elt me)
    (hs : ∀ x, foldedSetIterable iter X.env x = pure x := by intro _; rfl) : SF X Wx fm (.ListComp elt [⟨tg, iter, ifs, 0⟩] scope pos) (mLc (own.map (·.2)) mi set mt me) := by
  refine ⟨?_⟩
  intro ex σ H F w Q r q
  exact WE.of (pe_lc (wi := WI X tg iter) (g := bG X scope tg) (tt := bT X scope ifs) (te := bE X scope elt)
    hc hN pi_wi ok (fun s H C cl fp => ⟨fun pins s' σ' H' v u Q' I rv h => h s H C cl fp pins s' u I rv⟩) (fun s H C cl fp => ⟨fun pins s' σ' H' Q' I h => h s H C cl fp pins s' I⟩) (fun s H C cl fp => ⟨fun pins s' σ' H' Q' I h => h s H C cl fp pins s' I⟩) hs) (tlc_ok hi hg hj ht he r q)

/-! ### statements -/
def FinS (X : Cx) (Wx : WX) (fm : Fm) (ex : Exs) (F : Hp) (D : Ends) : RS → Prop
  | .nx w' => ∀ σ' H' F', Ex F F' → Rel X.K fm ex σ' H' F' w' → D.nx σ' H'
  | .brk w' => ∀ σ' H' F', Ex F F' → Rel X.K fm ex σ' H' F' w' → D.bk σ' H'
  | .cnt w' => ∀ σ' H' F', Ex F F' → Rel X.K fm ex σ' H' F' w' → D.ct σ' H'
  | .ret d w' => ∀ v σ' H' F', Ex F F' → Rel X.K fm ex σ' H' F' w' → Rp X.K fm.a0 F' v d → D.rt v H'
  | .exc c w' => ∀ σ' H' F' cls dd, Ex F F' → Rel X.K fm ex σ' H' F' w' → ExcIs X.K X.mg fm.a0 fm.G c cls dd F' H' → Wx cls dd σ' H'
  | .stuck => False
abbrev SStr (X : Cx) (Wx : WX) (fm : Fm) (st : Stmt) (m : W → RS) : Prop := ∀ (ex : Exs) (σ : L2.St) (H F : Hp) (w : W) (D : Ends), Rel X.K fm ex σ H F w → FinS X Wx fm ex F D (m w) → WS X st D σ H
structure SSt (X : Cx) (Wx : WX) (fm : Fm) (st : Stmt) (m : W → RS) : Prop where
  run : SStr X Wx fm st m
instance {X : Cx} {Wx : WX} {fm : Fm} {st : Stmt} {m : W → RS} : CoeFun (SSt X Wx fm st m) (fun _ => SStr X Wx fm st m) := ⟨SSt.run⟩
abbrev SSsr (X : Cx) (Wx : WX) (fm : Fm) (sts : List Stmt) (m : W → RS) : Prop := ∀ (ex : Exs) (σ : L2.St) (H F : Hp) (w : W) (D : Ends), Rel X.K fm ex σ H F w → FinS X Wx fm ex F D (m w) → WSs X sts D σ H
structure SSs (X : Cx) (Wx : WX) (fm : Fm) (sts : List Stmt) (m : W → RS) : Prop where
  run : SSsr X Wx fm sts m
instance {X : Cx} {Wx : WX} {fm : Fm} {sts : List Stmt} {m : W → RS} : CoeFun (SSs X Wx fm sts m) (fun _ => SSsr X Wx fm sts m) := ⟨SSs.run⟩
def RS.bind (r : RS) (k : W → RS) : RS := match r with
  | .nx w => k w
  | r => r
def R.toS {α : Type} (r : R α) (k : α → W → RS) : RS := match r with
  | .ok a w => k a w
  | .exc c w => .exc c w
  | .stuck => .stuck
def oS {α : Type} (o : Option α) (k : α → RS) : RS := match o with
  | some a => k a
  | none => .stuck
@[simp] theorem RS.bind_nx (w : W) (k : W → RS) : (RS.nx w).bind k = k w := rfl
@[simp] theorem RS.bind_ret (d : D) (w : W) (k : W → RS) : (RS.ret d w).bind k = .ret d w := rfl
@[simp] theorem RS.bind_brk (w : W) (k : W → RS) : (RS.brk w).bind k = .brk w := rfl
@[simp] theorem RS.bind_cnt (w : W) (k : W → RS) : (RS.cnt w).bind k = .cnt w := rfl
@[simp] theorem RS.bind_exc (c : Exn) (w : W) (k : W → RS) : (RS.exc c w).bind k = .exc c w := rfl
@[simp] theorem RS.bind_stuck (k : W → RS) : RS.stuck.bind k = .stuck := rfl
@[simp] theorem R.toS_ok {α : Type} (a : α) (w : W) (k : α → W → RS) : (R.ok a w).toS k = k a w := rfl
@[simp] theorem R.toS_exc {α : Type} (c : Exn) (w : W) (k : α → W → RS) : (R.exc c w : R α).toS k = .exc c w := rfl
@[simp] theorem R.toS_stuck {α : Type} (k : α → W → RS) : (R.stuck : R α).toS k = .stuck := rfl
theorem FinS.from {F F' : Hp} {ex : Exs} {D : Ends} {r : RS} (h : FinS X Wx fm ex F D r) (e : Ex F F') : FinS X Wx fm ex F' D r := by
  cases r with
  | nx w => exact fun σ' H' F2 e2 => h σ' H' F2 (e.trans e2)
  | brk w => exact fun σ' H' F2 e2 => h σ' H' F2 (e.trans e2)
  | cnt w => exact fun σ' H' F2 e2 => h σ' H' F2 (e.trans e2)
  | ret d w => exact fun v σ' H' F2 e2 => h v σ' H' F2 (e.trans e2)
  | exc c w => exact fun σ' H' F2 cls dd e2 => h σ' H' F2 cls dd (e.trans e2)
  | stuck => exact h
theorem FinS.ofR {α : Type} {r : R α} {k : α → W → RS} {ex : Exs} {σ : L2.St} {H F : Hp} {D : Ends} (h : FinS X Wx fm ex F D (r.toS k)) :
    Fin X Wx fm ex σ H F (fun a w' H' F' => Rel X.K fm ex σ H' F' w' ∧ Ex F F' ∧ FinS X Wx fm ex F' D (k a w')) r := by
  cases r with
  | ok a w' => exact fun H' F' kp e r => ⟨r, e, FinS.from (r := k a w') h e⟩
  | exc c w' => exact fun H' F' cls dd kp e r x => h σ H' F' cls dd e r x
  | stuck => exact h
theorem FinS.ofF {r : R (List D)} {k : List D → W → RS} {ex : Exs} {σ : L2.St} {H F : Hp} {D : Ends} {Q : VK} (h : FinS X Wx fm ex F D (r.toS k)) (hq : ∀ xs w' p H' F', r = .ok xs w' → Ex F F' → Rel X.K fm ((p, xs) :: ex) σ H' F' w' → FinS X Wx fm ex F' D (k xs w') → Q (.ref p) H') :
    FinF X Wx fm ex σ H F Q r := by
  cases r with
  | ok a w' => exact fun p H' F' kp e r => hq a w' p H' F' rfl e r (FinS.from (r := k a w') h e)
  | exc c w' => exact fun H' F' cls dd kp e r x => h σ H' F' cls dd e r x
  | stuck => exact h
def sNil : W → RS := fun w => .nx w
def sCons (a b : W → RS) : W → RS := fun w => (a w).bind b
theorem sss_nil : SSs X Wx fm [] sNil := ⟨fun ex σ H F w D r q => WSs.of pss_nil (q σ H F (Ex.refl _) r)⟩
theorem sss_cons {st : Stmt} {rest : List Stmt} {a b : W → RS} (h : SSt X Wx fm st a) (g : SSs X Wx fm rest b) : SSs X Wx fm (st :: rest) (sCons a b) := by
  refine ⟨?_⟩
  intro ex σ H F w D r q
  refine WSs.of (pss_cons ps_ws pss_wss) ?_
  show WS X st { D with nx := WSs X rest D } σ H
  refine h ex σ H F w _ r ?_
  revert q
  unfold sCons
  cases a w with
  | nx w1 => exact fun q σ' H' F' e r' => g ex σ' H' F' w1 D r' (FinS.from q e)
  | brk w1 => exact fun q => q
  | cnt w1 => exact fun q => q
  | ret d w1 => exact fun q => q
  | exc c w1 => exact fun q => q
  | stuck => exact fun q => q
theorem ss_pass {pos : Pos} : SSt X Wx fm (.Pass pos) sNil := ⟨fun ex σ H F w D r q => WS.of ps_pass (q σ H F (Ex.refl _) r)⟩
theorem ss_brk {pos : Pos} : SSt X Wx fm (.Break pos) RS.brk := ⟨fun ex σ H F w D r q => WS.of ps_break (q σ H F (Ex.refl _) r)⟩
theorem ss_cnt {pos : Pos} : SSt X Wx fm (.Continue pos) RS.cnt := ⟨fun ex σ H F w D r q => WS.of ps_continue (q σ H F (Ex.refl _) r)⟩
def sSet (i : Nat) (m : W → R D) : W → RS := fun w => (m w).toS fun d w' => .nx { w' with env := w'.env.set i (some (.val d)) }
theorem ss_set {i : Nat} {x : Str} {e : Expr} {pos pos' : Pos} {m : W → R D} (hN : X.N.Nodup) (h : SE X Wx fm e m) (hi : X.N[i]? = some x := by rfl) (hx : Loc X.env.scope x := by first | exact Or.inl rfl | exact Or.inr rfl) (hs : swapsWith e (some (.Name x pos')) pos.line X.env = pure false := by rfl)
    (hf : X.fn x = true ∨ X.env.scope.names.lookup x = some .local := by first | exact .inl rfl | exact .inr rfl | assumption) : SSt X Wx fm (.Assign [.Name x pos'] e pos) (sSet i m) := by
  refine ⟨?_⟩
  intro ex σ H F w D r q
  refine WS.of (ps_set hN hi hx pe_we hs hf) ?_
  show WE X e σ H fun v H1 => D.nx (σ.set i (some v)) H1
  exact h ex σ H F w _ r ((FinS.ofR q).imp fun d w1 H1 F1 ⟨r1, e1, q1⟩ v hv => q1 _ H1 F1 (Ex.refl _) (r1.setVal i hv))
/-- a name is given a new list -/
def sSetF (i : Nat) (m : W → R (List D)) : W → RS := fun w => (m w).toS fun xs w' => .nx { w' with env := w'.env.set i (some (.own xs)) }
theorem ss_setF {i : Nat} {x : Str} {e : Expr} {pos pos' : Pos} {m : W → R (List D)} (hN : X.N.Nodup) (h : SF X Wx fm e m) (hi : X.N[i]? = some x := by rfl) (hx : Loc X.env.scope x := by first | exact Or.inl rfl | exact Or.inr rfl) (hs : swapsWith e (some (.Name x pos')) pos.line X.env = pure false := by rfl)
    (hf : X.fn x = true ∨ X.env.scope.names.lookup x = some .local := by first | exact .inl rfl | exact .inr rfl | assumption) : SSt X Wx fm (.Assign [.Name x pos'] e pos) (sSetF i m) := by
  refine ⟨?_⟩
  intro ex σ H F w D r q
  refine WS.of (ps_set hN hi hx pe_we hs hf) ?_
  show WE X e σ H fun v H1 => D.nx (σ.set i (some v)) H1
  exact h ex σ H F w _ r (FinS.ofF q fun xs w1 p H1 F1 _ e1 r1 q1 => q1 _ H1 F1 (Ex.refl _) (r1.setOwn i))
theorem ss_setLcF {i : Nat} {y : Str} {py : Pos} {elt tg iter : Expr} {ifs : List Expr} {scope : Scope} {own : List (Str × Nat)} {pos spos : Pos} {js : List Nat} {mi : W → R (List D)} {set : D → W → Option W} {mt : W → R Bool} {me : W → R D} (hc : X.calm = true) (hN : X.N.Nodup) (hi : SIt X Wx fm tg iter mi) (ok : BlkOk X.N X.env.scope scope own)
    (hg : ∀ (s : Shared) (H : Hp) (C : Addr) (cl : List (Str × Addr)) (fp : List Addr), SG (X.blk s H scope (compEnvC scope cl C X.env) fp) fm js tg set) (hj : ∀ j ∈ js, j ∈ own.map (·.2))
    (ht : ∀ (s : Shared) (H : Hp) (C : Addr) (cl : List (Str × Addr)) (fp : List Addr), STs (X.blk s H scope (compEnvC scope cl C X.env) fp) W0 fm ifs mt)
    (he : ∀ (s : Shared) (H : Hp) (C : Addr) (cl : List (Str × Addr)) (fp : List Addr), SE (X.blk s H scope (compEnvC scope cl C X.env) fp) W0 fm elt me)
    (hy : X.N[i]? = some y := by rfl) (hyl : X.env.scope.names.lookup y = some .local := by rfl)
    (hsw : swapsWith (.ListComp elt [⟨tg, iter, ifs, 0⟩] scope pos) (some (.Name y py)) spos.line X.env = pure true := by exact sw_true rfl rfl rfl (by decide +kernel))
    (hs : ∀ x, foldedSetIterable iter X.env x = pure x := by intro _; rfl) : SSt X Wx fm (.Assign [.Name y py] (.ListComp elt [⟨tg, iter, ifs, 0⟩] scope pos) spos) (sSetF i (mLc (own.map (·.2)) mi set mt me)) := by
  refine ⟨?_⟩
  intro ex σ H F w D r q
  refine WS.of (ps_setLc (wi := WI X tg iter) (g := bG X scope tg) (tt := bT X scope ifs) (te := bE X scope elt)
    hc hN hy hyl hsw pi_wi ok (fun s H C cl fp => ⟨fun pins s' σ' H' v u Q' I rv h => h s H C cl fp pins s' u I rv⟩) (fun s H C cl fp => ⟨fun pins s' σ' H' Q' I h => h s H C cl fp pins s' I⟩) (fun s H C cl fp => ⟨fun pins s' σ' H' Q' I h => h s H C cl fp pins s' I⟩) hs) ?_
  exact tlc_ok (Q := fun x H1 => gName i x σ H1 D.nx) hi hg hj ht he r (FinS.ofF q fun xs w1 p H1 F1 _ e1 r1 q1 => q1 _ H1 F1 (Ex.refl _) (r1.setOwn i))
/-- a target of any form -/
def sAsg (set : D → W → Option W) (m : W → R D) : W → RS := fun w => (m w).toS fun d w' => oS (set d w') .nx
theorem finS_o {o : Option W} {ex : Exs} {F : Hp} {D : Ends} (h : FinS X Wx fm ex F D (oS o .nx)) : ∃ w', o = some w' ∧ ∀ σ' H' F', Ex F F' → Rel X.K fm ex σ' H' F' w' → D.nx σ' H' := by
  cases o with
  | none => exact (show False from h).elim
  | some w => exact ⟨w, rfl, h⟩
theorem ss_asg {tg e : Expr} {pos : Pos} {js : List Nat} {set : D → W → Option W} {m : W → R D} (hg : SG X fm js tg set) (h : SE X Wx fm e m) (hs : swapsWithSole [tg] e pos.line X.env = pure false := by rfl) (hw : swappedStores [tg] e X.env = pure none := by rfl)
    (h1 : (assignEach [tg] X.env).map (·.2) = [assign tg X.env] := by rfl) : SSt X Wx fm (.Assign [tg] e pos) (sAsg set m) := by
  refine ⟨?_⟩
  intro ex σ H F w D r q
  refine WS.of (ps_asg pe_we pg_wg hs hw h1) ?_
  show WE X e σ H fun v H1 => WG X tg v σ H1 D.nx
  refine h ex σ H F w _ r ((FinS.ofR q).imp fun d w1 H1 F1 ⟨r1, e1, q1⟩ v hv => ?_)
  obtain ⟨w2, hw2, q2⟩ := finS_o q1
  exact hg ex σ H1 F1 w1 v d w2 _ r1 hv hw2 fun σ' _ _ r2 => q2 σ' H1 F1 (Ex.refl _) r2
/-- a, b = x, y -/
def sPar (i j : Nat) (m : W → R (List D)) : W → RS := fun w => (m w).toS fun ds w' => match ds with
  | [d, e] => .nx { w' with env := (w'.env.set i (some (.val d))).set j (some (.val e)) }
  | _ => .stuck
theorem ss_par {i j : Nat} {x y : Str} {a b : Expr} {px py pt pos : Pos} {kt k2 pt2} {m : W → R (List D)} (hc : X.calm = true) (hN : X.N.Nodup) (ha : SAs X Wx fm [a, b] m) (hi : X.N[i]? = some x := by rfl) (hj : X.N[j]? = some y := by rfl) (hij : i ≠ j := by decide)
    (hx : X.env.scope.names.lookup x = some .local := by rfl) (hy : X.env.scope.names.lookup y = some .local := by rfl)
    (hw : swappedStores [.Tuple [.Name x px, .Name y py] kt pt] (.Tuple [a, b] k2 pt2) X.env = pure (some [x, y]) := by rfl)
    (hs : swapsWithSole [.Tuple [.Name x px, .Name y py] kt pt] (.Tuple [a, b] k2 pt2) pos.line X.env = pure false := by rfl) :
    SSt X Wx fm (.Assign [.Tuple [.Name x px, .Name y py] kt pt] (.Tuple [a, b] k2 pt2) pos) (sPar i j m) := by
  refine ⟨?_⟩
  intro ex σ H F w D r q
  refine WS.of (ps_par hc hN hi hj hij hx hy pa_wa hw hs) ?_
  show WA X [a, b] σ H fun vs H1 => ∃ v w, vs = [v, w] ∧ D.nx ((σ.set i (some v)).set j (some w)) H1
  refine ha ex σ H F w _ r ((FinS.ofR q).imp fun ds w1 H1 F1 ⟨r1, e1, q1⟩ vs hv => ?_)
  cases hv with
  | nil => exact (show False from q1).elim
  | @cons v vs d ds h1 h2 =>
    cases h2 with
    | nil => exact (show False from q1).elim
    | @cons u vs e ds h3 h4 =>
      cases h4 with
      | cons _ _ => exact (show False from q1).elim
      | nil => exact ⟨v, u, rfl, q1 _ H1 F1 (Ex.refl _) ((r1.setVal i h1).setVal j h3)⟩
/-- x op= e -/
def sAug (i : Nat) (g : D → D → Option D) (m : W → R D) : W → RS := fun w => match w.env[i]? with
  | some (some (.val x)) => (m w).toS fun y w' => oS (g x y) fun z => .nx { w' with env := w'.env.set i (some (.val z)) }
  | _ => .stuck
theorem ss_aug {i : Nat} {x : Str} {e : Expr} {op : Operator} {pos pos' : Pos} {g : D → D → Option D} {m : W → R D} (hN : X.N.Nodup) (ho : DOp X fm.a0 (inplaceOp op) g) (h : SE X Wx fm e m) (hi : X.N[i]? = some x := by rfl) (hx : Loc X.env.scope x := by first | exact Or.inl rfl | exact Or.inr rfl)
    (hf : X.fn x = true ∨ X.env.scope.names.lookup x = some .local := by first | exact .inl rfl | exact .inr rfl | assumption) : SSt X Wx fm (.AugAssign (.Name x pos') op e pos) (sAug i g m) := by
  refine ⟨?_⟩
  intro ex σ H F w D r q
  refine WS.of (ps_aug hN hi hx pe_we opr_w2 hf) ?_
  revert q
  unfold sAug
  split
  · rename_i d hd
    intro q
    obtain ⟨v, e1, k⟩ := r.slot i _ hd
    refine ⟨v, e1, ?_⟩
    refine h ex σ H F w _ r ((FinS.ofR q).imp fun y w1 H1 F1 ⟨r1, e1, q1⟩ u hu => ?_)
    cases hz : g d y with
    | none => rw [hz] at q1; exact (show False from q1).elim
    | some z =>
      rw [hz] at q1
      exact ho v u d y z H1 F1 _ r1.fh (Rp.ex k e1) hu hz fun t H' F' gr hr => q1 _ H' F' gr.ff ((r1.gr gr).setVal i hr)
  · exact fun q => q.elim
def sExpr (m : W → R D) : W → RS := fun w => (m w).toS fun _ w' => .nx w'
theorem ss_expr {e : Expr} {pos : Pos} {m : W → R D} (h : SE X Wx fm e m) (hs : swapsWith e none pos.line X.env = pure false := by rfl) : SSt X Wx fm (.Expr e pos) (sExpr m) := by
  refine ⟨?_⟩
  intro ex σ H F w D r q
  refine WS.of (ps_expr pe_we hs) ?_
  show WE X e σ H fun _ H1 => D.nx σ H1
  exact h ex σ H F w _ r ((FinS.ofR q).imp fun d w1 H1 F1 ⟨r1, e1, q1⟩ v hv => q1 σ H1 F1 (Ex.refl _) r1)
/-- xs.append(e) -/
def sApp (i : Nat) (m : W → R D) : W → RS := fun w => match w.env[i]? with
  | some (some (.own _)) => (m w).toS fun d w' => match w'.env[i]? with
    | some (some (.own xs)) => if xs.length < 1000000 then .nx { w' with env := w'.env.set i (some (.own (xs ++ [d]))) } else .stuck
    | _ => .stuck
  | _ => .stuck
theorem ss_append {i : Nat} {x : Str} {e : Expr} {p apos cpos pos : Pos} {m : W → R D} (h : SE X Wx fm e m) (hN : X.N[i]? = some x := by rfl) (hv : Vis X.env.scope x := by first | exact Or.inl rfl | exact Or.inr (Or.inl rfl) | exact Or.inr (Or.inr rfl)) (hd : (x == ("__debug__" : Str)) = false := by decide)
    (hcd : (x == ("__classdict__" : Str)) = false := by decide) (hbase : attributeBase (.Name x p) "append" X.env (eval (.Name x p) X.env) = eval (.Name x p) X.env := by rfl)
    (hfew : ((backTo cpos (starEach [e] X.env)).all (fun x => !x.1) && (backToKw cpos (keywordEach [] X.env)).all (fun x => x.1.isSome)
      && decide ([e].length + ([] : List Keyword).length + (if ([] : List Keyword).isEmpty then 0 else 1) < 30)) = true := by rfl)
    (hline : (apos.endLine == cpos.line) = true := by rfl) (hs : starEach [e] X.env = (false, eval e X.env) :: starEach [] X.env := by rfl) (hplain : (backTo cpos (starEach [] X.env)).any (·.1) = false := by rfl)
    (hsw : swapsWith (.Call (.Attribute (.Name x p) "append" apos) [e] [] cpos) none pos.line X.env = pure false := by rfl) :
    SSt X Wx fm (.Expr (.Call (.Attribute (.Name x p) "append" apos) [e] [] cpos) pos) (sApp i m) := by
  refine ⟨?_⟩
  intro ex σ H F w D r q
  refine WS.of (ps_expr (pe_bm PySem.F.plainAttrs_list PySem.F.slot_list_append PySem.F.type_list_append mt_append (pe_var hN hv hd hcd) (pa_cons pe_we pa_nil hs) hbase hfew hline hs hplain) hsw) ?_
  revert q
  unfold sApp
  split
  · rename_i xs0 hx0
    intro q
    obtain ⟨p0, e0, r0⟩ := r.takeOwn hx0
    obtain ⟨a1, a2, a3, vs0, a4, a5⟩ := r0.exo _ (List.mem_cons_self ..)
    refine ⟨.ref p0, e0, .inl ⟨rfl, _, .inl (.inl a4)⟩, ?_⟩
    refine h ex σ H F w _ r ((FinS.ofR q).imp fun d w1 H1 F1 ⟨r1, e1, q1⟩ v hv => ?_)
    split at q1
    · rename_i xs hx
      obtain ⟨p1, e1', r2⟩ := r1.takeOwn hx
      rw [e0] at e1'
      cases e1'
      obtain ⟨b1, b2, b3, vs, b4, b5⟩ := r2.exo _ (List.mem_cons_self ..)
      have b5 : RpAll X.K fm.a0 F1 vs xs := b5
      by_cases hl : xs.length < 1000000
      · rw [if_pos hl] at q1
        refine ⟨p0, vs, v, rfl, rfl, b4, line_lt (by rw [b5.len]; omega), ?_⟩
        have r3 := (r2.mut (b5.app (.one hv))).putOwn e0
        refine q1 σ _ F1 (Ex.refl _) ?_
        simpa using r3
      · rw [if_neg hl] at q1
        exact (show False from q1).elim
    · exact (show False from q1).elim
  · exact fun q => q.elim
/-- target = xs.pop() -/
def sPop (i : Nat) (set : D → W → Option W) : W → RS := fun w => match w.env[i]? with
  | some (some (.own xs)) => oS (xs[xs.length - 1]?) fun d => oS (set d { w with env := w.env.set i (some (.own xs.dropLast)) }) .nx
  | _ => .stuck
theorem ss_pop {i : Nat} {x : Str} {tg : Expr} {p apos cpos pos : Pos} {js : List Nat} {set : D → W → Option W} (hg : SG X fm js tg set) (hN : X.N[i]? = some x := by rfl) (hv : Vis X.env.scope x := by first | exact Or.inl rfl | exact Or.inr (Or.inl rfl) | exact Or.inr (Or.inr rfl)) (hd : (x == ("__debug__" : Str)) = false := by decide)
    (hcd : (x == ("__classdict__" : Str)) = false := by decide) (hbase : attributeBase (.Name x p) "pop" X.env (eval (.Name x p) X.env) = eval (.Name x p) X.env := by rfl) (hline : (apos.endLine == cpos.line) = true := by rfl)
    (hs : swapsWithSole [tg] (.Call (.Attribute (.Name x p) "pop" apos) [] [] cpos) pos.line X.env = pure false := by rfl) (hw : swappedStores [tg] (.Call (.Attribute (.Name x p) "pop" apos) [] [] cpos) X.env = pure none := by rfl)
    (h1 : (assignEach [tg] X.env).map (·.2) = [assign tg X.env] := by rfl) : SSt X Wx fm (.Assign [tg] (.Call (.Attribute (.Name x p) "pop" apos) [] [] cpos) pos) (sPop i set) := by
  refine ⟨?_⟩
  intro ex σ H F w D r q
  refine WS.of (ps_asg (pe_bm0 PySem.F.plainAttrs_list PySem.F.slot_list_pop PySem.F.type_list_pop mt_pop (pe_var hN hv hd hcd) hbase hline) pg_wg hs hw h1) ?_
  revert q
  unfold sPop
  split
  · rename_i xs hx
    intro q
    obtain ⟨p0, e0, r0⟩ := r.takeOwn hx
    obtain ⟨a1, a2, a3, vs, a4, a5⟩ := r0.exo _ (List.mem_cons_self ..)
    have a4 : H p0 = some (.lst vs) := a4
    have a5 : RpAll X.K fm.a0 F vs xs := a5
    cases hd : xs[xs.length - 1]? with
    | none => rw [hd] at q; exact (show False from q).elim
    | some d =>
      rw [hd] at q
      obtain ⟨v, hv, rv⟩ := a5.get hd
      obtain ⟨w2, hw2, q2⟩ := finS_o q
      refine ⟨.ref p0, e0, .inl ⟨rfl, _, .inl (.inl a4)⟩, p0, vs, v, rfl, rfl, a4, by rw [a5.len]; exact hv, ?_⟩
      have r3 := (r0.mut a5.dropLast).putOwn e0
      have r3' : Rel X.K fm ex σ (upd H p0 (.lst vs.dropLast)) F { w with env := w.env.set i (some (.own xs.dropLast)) } := by simpa using r3
      exact hg ex σ _ F _ v d w2 _ r3' rv hw2 fun σ' _ _ r4 => q2 σ' _ F (Ex.refl _) r4
  · exact fun q => q.elim
def sIf (t : W → R Bool) (a b : W → RS) : W → RS := fun w => (t w).toS fun c w' => if c = true then a w' else b w'
theorem ss_if {c : Expr} {as bs : List Stmt} {pos : Pos} {t : W → R Bool} {a b : W → RS} (hc : STt X Wx fm c t) (ha : SSs X Wx fm as a) (hb : SSs X Wx fm bs b) : SSt X Wx fm (.If c as bs pos) (sIf t a b) := by
  refine ⟨?_⟩
  intro ex σ H F w D r q
  refine WS.of (ps_if pt_wt pss_wss pss_wss) ?_
  refine hc ex σ H F w _ r ((FinS.ofR q).imp fun b w1 H1 F1 ⟨r1, e1, q1⟩ => ?_)
  cases b with
  | true => exact ha ex σ H1 F1 w1 D r1 q1
  | false => exact hb ex σ H1 F1 w1 D r1 q1
def sRet (m : W → R D) : W → RS := fun w => (m w).toS fun d w' => .ret d w'
theorem ss_ret {e : Expr} {pos : Pos} {m : W → R D} (h : SE X Wx fm e m) : SSt X Wx fm (.Return (some e) pos) (sRet m) := by
  refine ⟨?_⟩
  intro ex σ H F w D r q
  refine WS.of (ps_ret pe_we) ?_
  exact h ex σ H F w _ r ((FinS.ofR q).imp fun d w1 H1 F1 ⟨r1, e1, q1⟩ v hv => q1 v σ H1 F1 (Ex.refl _) r1 hv)
def sRetN : W → RS := fun w => .ret .non w
theorem ss_retN {pos : Pos} : SSt X Wx fm (.Return none pos) sRetN := ⟨fun ex σ H F w D r q => WS.of ps_retN (q .non σ H F (Ex.refl _) r .non)⟩
/-- for -/
def sForGo (set : D → W → Option W) (body : W → RS) : List D → W → RS
  | [], w => .nx w
  | d :: ds, w => oS (set d w) fun w1 => match body w1 with
    | .nx w2 => sForGo set body ds w2
    | .cnt w2 => sForGo set body ds w2
    | .brk w2 => .nx w2
    | r => r
def sFor (mi : W → R (List D)) (set : D → W → Option W) (body : W → RS) : W → RS := fun w => (mi w).toS fun ds w1 => sForGo set body ds w1
theorem ss_for {tg iter : Expr} {body : List Stmt} {pos : Pos} {js : List Nat} {mi : W → R (List D)} {set : D → W → Option W} {m : W → RS} (hp : PassesOwn (model X.prog X.w) X.A X.env X.xe) (hc : X.calm = true) (hi : SIt X Wx fm tg iter mi) (hg : SG X fm js tg set) (hb : SSs X Wx fm body m)
    (hs : ∀ x, foldedSetIterable iter X.env x = pure x := by intro _; rfl) : SSt X Wx fm (.For tg iter body [] pos) (sFor mi set m) := by
  refine ⟨?_⟩
  intro ex σ H F w D r q
  refine WS.of (ps_for hp hc pi_wi pg_wg pss_wss hs) ?_
  refine hi ex σ H F w _ r ((FinS.ofR q).imp fun ds w1 H1 F1 ⟨r1, e1, q1⟩ J wk => ?_)
  obtain ⟨G, Y, walk, hG, hY⟩ := wk.ex
  refine for_it walk (fun i σ' H' => ∃ F' w', Ex F1 F' ∧ Rel X.K fm ex σ' H' F' w' ∧ FinS X Wx fm ex F1 D (sForGo set m (ds.drop i) w')) ⟨F1, w1, Ex.refl _, r1, q1⟩ (fun i σ' H' _ ⟨F', w', a, b, _⟩ => hG H' (a.trans b.fh)) (fun i x σa Ha Hb hi' ⟨F', w', ef, rr, fin⟩ y => ?_) (fun σ' H' ⟨F', w', ef, rr, fin⟩ => ?_)
  · obtain ⟨F2, d, hd, gr, rv⟩ := hY i Ha F' x Hb hi' ef rr.fh y
    have hdrop : ds.drop i = d :: ds.drop (i + 1) := by
      obtain ⟨hlt, e⟩ := List.getElem?_eq_some_iff.mp hd
      rw [List.drop_eq_getElem_cons hlt, e]
    rw [hdrop] at fin
    unfold sForGo at fin
    cases hset : set d w' with
    | none => rw [hset] at fin; exact (show False from fin).elim
    | some wa =>
      rw [hset] at fin
      have fin : FinS X Wx fm ex F1 D (match m wa with
        | .nx w2 => sForGo set m (ds.drop (i + 1)) w2
        | .cnt w2 => sForGo set m (ds.drop (i + 1)) w2
        | .brk w2 => .nx w2
        | r => r) := fin
      have ef2 : Ex F1 F2 := ef.trans gr.ff
      refine hg ex σa Hb F2 w' x d wa _ (rr.gr gr) rv hset fun σ2 _ _ ra => ?_
      refine hb ex σ2 Hb F2 wa _ ra ?_
      revert fin
      cases m wa with
      | nx w2 => exact fun fin σ' H' F' e r' => ⟨F', w2, ef2.trans e, r', fin⟩
      | cnt w2 => exact fun fin σ' H' F' e r' => ⟨F', w2, ef2.trans e, r', fin⟩
      | brk w2 => exact fun fin => FinS.from (r := .nx w2) fin ef2
      | ret d w2 => exact fun fin => FinS.from (r := .ret d w2) fin ef2
      | exc c w2 => exact fun fin => FinS.from (r := .exc c w2) fin ef2
      | stuck => exact fun fin => fin
  · rw [List.drop_eq_nil_of_le (Nat.le_refl _)] at fin
    exact fin σ' H' F' ef rr
/-- while -/
def sWhGo (t : W → R Bool) (body : W → RS) : Nat → W → RS
  | 0, _ => .stuck
  | n + 1, w => (t w).toS fun c w1 => if c = true then (match body w1 with
    | .nx w2 => sWhGo t body n w2
    | .cnt w2 => sWhGo t body n w2
    | .brk w2 => .nx w2
    | r => r) else .nx w1
def fuel : Nat := 1000000000
def sWhile (t : W → R Bool) (body : W → RS) : W → RS := sWhGo t body fuel
theorem ss_while {c : Expr} {body : List Stmt} {pos : Pos} {t : W → R Bool} {m : W → RS} (hp : PassesOwn (model X.prog X.w) X.A X.env X.xe) (hc : STt X Wx fm c t) (hb : SSs X Wx fm body m) : SSt X Wx fm (.While c body [] pos) (sWhile t m) := by
  refine ⟨?_⟩
  intro ex σ H F w D r q
  refine WS.of (ps_while hp pt_wt pss_wss) ?_
  refine ⟨fun n σ' H' => ∃ F' w', Rel X.K fm ex σ' H' F' w' ∧ FinS X Wx fm ex F' D (sWhGo t m n w'), ⟨fuel, F, w, r, q⟩, ?_⟩
  rintro n σ1 H1 ⟨F1, w1, r1, fin⟩
  cases n with
  | zero => exact (show False from fin).elim
  | succ n =>
    unfold sWhGo at fin
    refine hc ex σ1 H1 F1 w1 _ r1 ((FinS.ofR fin).imp fun b w2 H2 F2 ⟨r2, e2, q2⟩ => ?_)
    cases b with
    | false => exact q2 σ1 H2 F2 (Ex.refl _) r2
    | true =>
      refine ⟨fun σ' H' => ∃ F' w', Rel X.K fm ex σ' H' F' w' ∧ FinS X Wx fm ex F' D (sWhGo t m n w'), fun σ' H' z => ⟨n, Nat.lt_succ_self n, z⟩, ?_⟩
      refine hb ex σ1 H2 F2 w2 _ r2 ?_
      have q2 : FinS X Wx fm ex F2 D (match m w2 with
        | .nx w2 => sWhGo t m n w2
        | .cnt w2 => sWhGo t m n w2
        | .brk w2 => .nx w2
        | r => r) := q2
      revert q2
      cases m w2 with
      | nx w3 => exact fun q2 σ' H' F' e r' => ⟨F', w3, r', FinS.from q2 e⟩
      | cnt w3 => exact fun q2 σ' H' F' e r' => ⟨F', w3, r', FinS.from q2 e⟩
      | brk w3 => exact fun q2 => q2
      | ret d w3 => exact fun q2 => q2
      | exc c w3 => exact fun q2 => q2
      | stuck => exact fun q2 => q2
/-! ### a def -/
def startE (n : Nat) (ds : List D) : Env := ds.map (fun d => some (.val d)) ++ List.replicate (n - ds.length) none
def RS.fin : RS → RF
  | .ret d w => .ok d w.ss
  | .nx w => .ok .non w.ss
  | .exc c w => .exc c w.ss
  | _ => .stuck
def fnM (n : Nat) (m : W → RS) : List D → SS → RF := fun ds ss => (m ⟨startE n ds, ss⟩).fin
theorem rel_start {K : PySem.W.Frag} {a0 c0 : Addr} {F H : Hp} {vs : List V} {ds : List D} {ss : SS} {N : List Str} (hf : Ex F H) (hs : SrcOk a0 c0 F H ss) (hv : RpAll K a0 F vs ds) :
    Rel K ⟨a0, c0, H, F, 0, 0, "", 0⟩ [] (start N vs) H F ⟨startE N.length ds, ss⟩ := by
  have hl := hv.len
  refine ⟨Ex.refl _, hf, fun _ _ _ h => h, fun _ _ h => .inl h, hs, ?_, fun i s h => ?_, fun i j xs ys p h => ?_, (fun q hq => nomatch hq), List.nodup_nil, (fun q hq => nomatch hq)⟩
  · show (startE N.length ds).length = (start N vs).length
    unfold startE L2.start
    simp [hl]
  · have h : (startE N.length ds)[i]? = some (some s) := h
    unfold startE at h
    by_cases hi : i < ds.length
    · rw [List.getElem?_append_left (by simpa using hi), List.getElem?_map, List.getElem?_eq_getElem hi] at h
      cases h
      obtain ⟨v, e, k⟩ := hv.get (List.getElem?_eq_getElem hi)
      refine ⟨v, ?_, k⟩
      unfold L2.start
      rw [List.getElem?_append_left (by simpa [hl] using hi), List.getElem?_map, e]
      rfl
    · rw [List.getElem?_append_right (by simpa using hi)] at h
      have := List.mem_of_getElem? h
      rw [List.mem_replicate] at this
      cases this.2
  · have h : (startE N.length ds)[i]? = some (some (.own xs)) := h
    unfold startE at h
    by_cases hi : i < ds.length
    · rw [List.getElem?_append_left (by simpa using hi), List.getElem?_map, List.getElem?_eq_getElem hi] at h
      cases h
    · rw [List.getElem?_append_right (by simpa using hi)] at h
      have := List.mem_of_getElem? h
      rw [List.mem_replicate] at this
      cases this.2
end
section
variable {P : Program} {w : World} {K : PySem.W.Frag} {mg : Str → Option Value} {base : Heap}
theorem Rel.gk {fm : Fm} {ex : Exs} {σ : L2.St} {H F : Hp} {w : W} (r : Rel K fm ex σ H F w) : Gk fm.a0 fm.G fm.F0 H F := ⟨r.gh, r.f0, r.fh, r.fg⟩
end
end TD

set_option Elab.async false
set_option linter.all false
set_option maxRecDepth 100000
set_option maxHeartbeats 4000000
namespace TD
open PySem PySem.Spec PyProof.Rows L2

section
variable {X : Cx} {Wx : WX} {fm : Fm} {a0 : Addr}
/-! ### more rules -/
theorem se_gint {x : Str} {i : Int} {pos : Pos} (hm : ∃ t, X.mg x = some (.int i t)) (hg : Gl X x := by rfl) (hd : (x == ("__debug__" : Str)) = false := by decide) : SE X Wx fm (.Name x pos) (mC (.int i)) := by
  obtain ⟨t, hm⟩ := hm
  exact se_glob (v := .int i) hg hm ⟨t, rfl⟩ (fun _ => .int i) hd
def gAddI : D → D → Option D
  | .int a, .int b => some (.int (a + b))
  | _, _ => none
theorem dop_iadd : DOp X a0 (inplaceOp .Add) gAddI := dop_int0 (h' := fun i j => .int (i + j)) iop_add (fun _ _ _ => .int _) fun d e r h => by
  cases d <;> cases e <;> cases h; exact ⟨_, _, rfl, rfl, rfl⟩
theorem dop_isub : DOp X a0 (inplaceOp .Sub) gSub := dop_int0 (h' := fun i j => .int (i - j)) iop_sub (fun _ _ _ => .int _) fun d e r h => by
  cases d <;> cases e <;> cases h; exact ⟨_, _, rfl, rfl, rfl⟩
/-- the parts of the source -/
def mSrc (i j : Nat) : W → R D := fun w => match w.env[i]? with
  | some (some (.val .src)) => match j with
    | 0 => .ok (.lst (w.ss.cells.map .int)) w
    | 1 => .ok (.int w.ss.left) w
    | 2 => .ok (.int w.ss.turn) w
    | _ => .stuck
  | _ => .stuck
theorem se_src {i j : Nat} {x : Str} {p q pos : Pos} {c : Nat} (hN : X.N[i]? = some x := by rfl) (hv : Vis X.env.scope x := by first | exact Or.inl rfl | exact Or.inr (Or.inl rfl) | exact Or.inr (Or.inr rfl)) (hd : (x == ("__debug__" : Str)) = false := by decide)
    (hcd : (x == ("__classdict__" : Str)) = false := by decide) (hs : PlainIx (.Constant (.int (j : Int)) c q) := by exact fun _ _ => rfl) : SE X Wx fm (.Subscript (.Name x p) (.Constant (.int (j : Int)) c q) pos) (mSrc i j) := by
  refine ⟨?_⟩
  intro ex σ H F w Q r fin
  refine WE.of (pe_ix ix_list (pe_var hN hv hd hcd) pe_int hs) ?_
  revert fin
  unfold mSrc
  split
  · rename_i h
    obtain ⟨v, e, k⟩ := r.slot i _ h
    cases k
    have hl : SqL X.K H fm.a0 [.ref fm.c0, .int w.ss.left, .int w.ss.turn] := .inl (.inl r.src.at0)
    split
    · exact fun fin => ⟨_, e, fm.a0, _, _, _, rfl, rfl, hl, atI_nat (j := 0) rfl, fin H F Kp.refl (Ex.refl _) r _ (.lst r.src.cells (.of_ints _))⟩
    · exact fun fin => ⟨_, e, fm.a0, _, _, _, rfl, rfl, hl, atI_nat (j := 1) rfl, fin H F Kp.refl (Ex.refl _) r _ (.int _)⟩
    · exact fun fin => ⟨_, e, fm.a0, _, _, _, rfl, rfl, hl, atI_nat (j := 2) rfl, fin H F Kp.refl (Ex.refl _) r _ (.int _)⟩
    · exact fun fin => fin.elim
  · exact fun fin => fin.elim
def sSrc (i j : Nat) (m : W → R D) : W → RS := fun w => (m w).toS fun d w' => match w'.env[i]?, d, j with
  | some (some (.val .src)), .int v, 1 => if 0 ≤ v then .nx { w' with ss := { w'.ss with left := v } } else .stuck
  | some (some (.val .src)), .int v, 2 => if 0 ≤ v then .nx { w' with ss := { w'.ss with turn := v } } else .stuck
  | _, _, _ => .stuck
theorem Rel.srcSet {K : PySem.W.Frag} {ex : Exs} {σ : L2.St} {H F : Hp} {w : W} (r : Rel K fm ex σ H F w) {l t : Int} (hl : 0 ≤ l) (ht : 0 ≤ t) : Rel K fm ex σ (upd H fm.a0 (.lst [.ref fm.c0, .int l, .int t])) F { w with ss := { w.ss with left := l, turn := t } } := by
  refine r.step (ss' := { w.ss with left := l, turn := t }) ⟨fun b o n e => by rw [upd_ne n]; exact e, Ex.refl _, fun b o e => ?_, fun b o e => .inl e⟩ ⟨r.src.fr, upd_same, r.src.cells, r.src.ne, r.src.nn, hl, ht⟩
  rw [upd_ne (fun z => by subst z; rw [r.src.fr] at e; cases e)]
  exact r.fh b o e
theorem ss_src {i j : Nat} {x : Str} {p q tp pos : Pos} {c : Nat} {e : Expr} {m : W → R D} (h : SE X Wx fm e m) (hN : X.N[i]? = some x := by rfl) (hv : Vis X.env.scope x := by first | exact Or.inl rfl | exact Or.inr (Or.inl rfl) | exact Or.inr (Or.inr rfl)) (hd : (x == ("__debug__" : Str)) = false := by decide)
    (hcd : (x == ("__classdict__" : Str)) = false := by decide)
    (hpg : ∀ {to ti : TE}, PE X (.Name x p) to → PE X (.Constant (.int (j : Int)) c q) ti → PG X (.Subscript (.Name x p) (.Constant (.int (j : Int)) c q) tp) (L2.gSub to ti rSetL) := by exact fun a b => pg_sub a b set_list)
    (hs : swapsWithSole [.Subscript (.Name x p) (.Constant (.int (j : Int)) c q) tp] e pos.line X.env = pure false := by rfl) (hw : swappedStores [.Subscript (.Name x p) (.Constant (.int (j : Int)) c q) tp] e X.env = pure none := by rfl)
    (h1 : (assignEach [.Subscript (.Name x p) (.Constant (.int (j : Int)) c q) tp] X.env).map (·.2) = [assign (.Subscript (.Name x p) (.Constant (.int (j : Int)) c q) tp) X.env] := by rfl) :
    SSt X Wx fm (.Assign [.Subscript (.Name x p) (.Constant (.int (j : Int)) c q) tp] e pos) (sSrc i j m) := by
  refine ⟨?_⟩
  intro ex σ H F w D r fin
  refine WS.of (ps_asg pe_we (hpg (pe_var hN hv hd hcd) pe_int) hs hw h1) ?_
  refine h ex σ H F w _ r ((FinS.ofR fin).imp fun d w1 H1 F1 ⟨r1, e1, q1⟩ v hv => ?_)
  revert q1
  split
  · rename_i k hi _
    intro q1
    obtain ⟨u, e, kk⟩ := r1.slot i _ hi
    cases kk
    cases hv
    by_cases h0 : 0 ≤ k
    · rw [if_pos h0] at q1
      exact ⟨_, e, _, [.ref fm.c0, .int w1.ss.left, .int w1.ss.turn], _, 1, rfl, rfl, r1.src.at0, rfl, q1 σ _ F1 (Ex.refl _) (r1.srcSet h0 r1.src.turn)⟩
    · rw [if_neg h0] at q1
      exact (show False from q1).elim
  · rename_i k hi _
    intro q1
    obtain ⟨u, e, kk⟩ := r1.slot i _ hi
    cases kk
    cases hv
    by_cases h0 : 0 ≤ k
    · rw [if_pos h0] at q1
      exact ⟨_, e, _, [.ref fm.c0, .int w1.ss.left, .int w1.ss.turn], _, 2, rfl, rfl, r1.src.at0, rfl, q1 σ _ F1 (Ex.refl _) (r1.srcSet r1.src.left h0)⟩
    · rw [if_neg h0] at q1
      exact (show False from q1).elim
  · exact fun q1 => q1.elim
/-- xs.extend(t) -/
theorem list_extend_tuple (l : Addr) (items : Array Value) (n : Nat) (b : Addr) (items2 : Array Value) (n2 : Nat) (dd : Option Addr) (sl : Array (Option Value)) (hs0 : ¬(!items.isEmpty && Builtin.List.listTooLong (items.size + items2.size)) = true) (hs1 : items.size ≤ sizeLine) (hs2 : items.size + items2.size ≤ sizeLine + 1) :
    Meets (Builtin.«list.extend» ⟨[.ref l, .ref b], []⟩) (fun _ R s => s.heap.get? l = some { cls := .type "list", dict := none, data := .seq items n, slots := #[] } ∧ s.heap.get? b = some { cls := .type "tuple", dict := dd, data := .seq items2 n2, slots := sl } ∧ R (.ok (.ret Value.none)) { s with heap := s.heap.update l (Obj.mapSeq fun x => x ++ items2), toks := s.toks }) :=
  .of_wp fun prog w A R s h => by
    obtain ⟨hp, g, d, tk, os⟩ := s; obtain ⟨hl, hb, h⟩ := h; have f1 := PySem.AutoSeq1.idx_int; have f2 := PySem.AutoSeq1.sub_tuple_tuple; have f3 := PySem.AutoSeq1.sub_list_list; have f4 := PySem.AutoSeq1.sub_tuple_list; have f5 := PySem.AutoSeq1.sub_list_tuple;
    have hz' : (items ++ items2).size ≤ sizeLine + 1 := by rw [Array.size_append]; exact hs2
    wp_walk using (wpAny_updateSeq hl rfl (hz := hs1) (_hz' := hz')), wpAny_loadPart' hl, wpAny_loadPart' hb; exact ⟨_, rfl, h⟩
def rExtendT (K : PySem.W.Frag) : V → List V → Hp → VK → Prop := fun x vs H Q => ∃ l b xs zs, x = .ref l ∧ vs = [.ref b] ∧ H l = some (.lst xs) ∧ (SqT K H b zs ∨ H b = some (.lst zs)) ∧ xs.length + zs.length ≤ sizeLine ∧ Q .non (upd H l (.lst (xs ++ zs)))
theorem mt_extendT : MtR X "list.extend" (rExtendT X.K) := by
  intro pins s σ H x vs v us Q I rx rv h
  obtain ⟨l, b, xs, zs, rfl, rfl, hH, hB, hz, q⟩ := h
  rcases hB with hB | hB
  · cases rx
    obtain ⟨u, rfl, ru⟩ := rv.one
    cases ru
    obtain ⟨z, its, n, r, hl, e⟩ := I.lstM hH
    obtain ⟨its2, r2, ⟨o, e2, hc, n2, hd⟩, hz2⟩ := I.tuple hB
    obtain ⟨cls, dd, dt, sl⟩ := o
    simp only at hc hd
    subst hc hd
    have l2 : zs.length = its2.length := r2.length
    have hsz : its.toArray.size + its2.toArray.size ≤ sizeLine := by rw [List.size_toArray, List.size_toArray]; omega
    have hlong : ¬ (!its.toArray.isEmpty && Builtin.List.listTooLong (its.toArray.size + its2.toArray.size)) = true := by
      rw [notLongL hsz, Bool.and_false]
      exact Bool.false_ne_true
    refine call_meets F.slot_list_extend ⟨_, e, rfl⟩ F.entry_list_extend (F.args_list_extend_2 _ _)
      (list_extend_tuple l its.toArray n b its2.toArray n2 dd sl hlong (by rw [List.size_toArray]; omega) (by omega)) ⟨e, e2, ?_⟩
    refine ⟨.non, _, I.lset (its' := its ++ its2) hH e (by simp) (r.append r2) ?_, rfl, q⟩
    rw [List.length_append]
    omega
  · exact mt_extend pins s σ H _ _ v us Q I rx rv ⟨l, b, xs, zs, rfl, rfl, hH, hB, hz, q⟩
def sExt (i : Nat) (m : W → R D) : W → RS := fun w => match w.env[i]? with
  | some (some (.own _)) => (m w).toS fun d w' => match w'.env[i]?, d.seq? with
    | some (some (.own xs)), some ys => if xs.length + ys.length ≤ 1000000 then .nx { w' with env := w'.env.set i (some (.own (xs ++ ys))) } else .stuck
    | _, _ => .stuck
  | _ => .stuck
theorem ss_extend {i : Nat} {x : Str} {e : Expr} {p apos cpos pos : Pos} {m : W → R D} (h : SE X Wx fm e m) (hN : X.N[i]? = some x := by rfl) (hv : Vis X.env.scope x := by first | exact Or.inl rfl | exact Or.inr (Or.inl rfl) | exact Or.inr (Or.inr rfl)) (hd : (x == ("__debug__" : Str)) = false := by decide)
    (hcd : (x == ("__classdict__" : Str)) = false := by decide) (hbase : attributeBase (.Name x p) "extend" X.env (eval (.Name x p) X.env) = eval (.Name x p) X.env := by rfl)
    (hfew : ((backTo cpos (starEach [e] X.env)).all (fun x => !x.1) && (backToKw cpos (keywordEach [] X.env)).all (fun x => x.1.isSome)
      && decide ([e].length + ([] : List Keyword).length + (if ([] : List Keyword).isEmpty then 0 else 1) < 30)) = true := by rfl)
    (hline : (apos.endLine == cpos.line) = true := by rfl) (hs : starEach [e] X.env = (false, eval e X.env) :: starEach [] X.env := by rfl) (hplain : (backTo cpos (starEach [] X.env)).any (·.1) = false := by rfl)
    (hsw : swapsWith (.Call (.Attribute (.Name x p) "extend" apos) [e] [] cpos) none pos.line X.env = pure false := by rfl) :
    SSt X Wx fm (.Expr (.Call (.Attribute (.Name x p) "extend" apos) [e] [] cpos) pos) (sExt i m) := by
  refine ⟨?_⟩
  intro ex σ H F w D r q
  refine WS.of (ps_expr (pe_bm PySem.F.plainAttrs_list PySem.F.slot_list_extend PySem.F.type_list_extend mt_extendT (pe_var hN hv hd hcd) (pa_cons pe_we pa_nil hs) hbase hfew hline hs hplain) hsw) ?_
  revert q
  unfold sExt
  split
  · rename_i xs0 hx0
    intro q
    obtain ⟨p0, e0, r0⟩ := r.takeOwn hx0
    obtain ⟨a1, a2, a3, vs0, a4, a5⟩ := r0.exo _ (List.mem_cons_self ..)
    refine ⟨.ref p0, e0, .inl ⟨rfl, _, .inl (.inl a4)⟩, ?_⟩
    refine h ex σ H F w _ r ((FinS.ofR q).imp fun d w1 H1 F1 ⟨r1, e1, q1⟩ v hv => ?_)
    split at q1
    · rename_i xs ys hx hy
      obtain ⟨p1, e1', r2⟩ := r1.takeOwn hx
      rw [e0] at e1'
      cases e1'
      obtain ⟨b1, b2, b3, vs, b4, b5⟩ := r2.exo _ (List.mem_cons_self ..)
      have b5 : RpAll X.K fm.a0 F1 vs xs := b5
      by_cases hl : xs.length + ys.length ≤ 1000000
      · rw [if_pos hl] at q1
        cases hv with
        | @tup pb us l h1 h2 =>
          cases hy
          refine ⟨p0, pb, vs, us, rfl, rfl, b4, .inl (ex_t r1.fh h1), line_of (by rw [b5.len, h2.len]; exact hl), ?_⟩
          have r3 := (r2.mut (b5.app h2)).putOwn e0
          exact q1 σ _ F1 (Ex.refl _) (by simpa using r3)
        | @lst pb us l h1 h2 =>
          cases hy
          refine ⟨p0, pb, vs, us, rfl, rfl, b4, .inr (r1.fh _ _ h1), line_of (by rw [b5.len, h2.len]; exact hl), ?_⟩
          have r3 := (r2.mut (b5.app h2)).putOwn e0
          exact q1 σ _ F1 (Ex.refl _) (by simpa using r3)
        | _ => cases hy
      · rw [if_neg hl] at q1
        exact (show False from q1).elim
    · exact (show False from q1).elim
  · exact fun q => q.elim
end
section
variable {P : Program} {w : World} {K : PySem.W.Frag} {mg : Str → Option Value} {base : Heap}
theorem tk_of {N : List Str} {qual : Str} {scope : Scope} {f : Addr} {cd : Value} {A : Around} {outer : List PySem.Env} {s : Shared} {H : Hp} {E : XK} : Takes (cxOf (L2.CX P w) P w K mg base N qual scope f cd A outer s H E) (fun c d _ H => E c d H) := takes_of rfl rfl rfl rfl
theorem po_of {N : List Str} {qual : Str} {scope : Scope} {f : Addr} {cd : Value} {A : Around} {outer : List PySem.Env} {s : Shared} {H : Hp} {E : XK} :
    PassesOwn (model (cxOf (L2.CX P w) P w K mg base N qual scope f cd A outer s H E).prog (cxOf (L2.CX P w) P w K mg base N qual scope f cd A outer s H E).w) (cxOf (L2.CX P w) P w K mg base N qual scope f cd A outer s H E).A (cxOf (L2.CX P w) P w K mg base N qual scope f cd A outer s H E).env (cxOf (L2.CX P w) P w K mg base N qual scope f cd A outer s H E).xe := passes_of rfl
/-- THE RULE for a def -/
theorem fn_td {x qual : Str} {params : Arguments} {body : List Stmt} {scope : Scope} {f : Addr} {fd : FuncData} {N ps : List Str} {k : Nat} {m : W → RS} (F : FunD K x qual params body scope [] [] f fd) (S : FnScope N ps scope)
    (hb : ∀ (cdv : Value) (A : Around) (outer : List PySem.Env) (s : Shared) (H : Hp) (E : XK) (fm : Fm), Room k (A.deeper (envOfC qual scope s.heap.objs.size f cdv)) → SSs (cxOf (L2.CX P w) P w K mg base N qual scope f cdv A outer s H E) (fun c d _ H => E c d H) fm body m) :
    FnOk P w K mg base (L2.CX P w) (k + 1) f fd ps (spM K mg ps.length (fnM N.length m)) := by
  refine F.ok S (fun vs H Q E h => h.choose_spec.choose_spec.choose_spec.choose_spec.choose_spec.1) (fun cdv A outer s H vs Q E hr h => ?_)
  obtain ⟨a0, c0, F0, ds, ss, hl, hf, hs, hv, q⟩ := h
  refine ⟨_, pss_wss, ?_⟩
  refine hb cdv A outer s H E ⟨a0, c0, H, F0, 0, 0, "", 0⟩ hr [] _ H F0 ⟨startE N.length ds, ss⟩ _ (rel_start hf hs hv) ?_
  revert q
  unfold fnM
  cases m ⟨startE N.length ds, ss⟩ with
  | nx w1 => exact fun q σ' H' F' e r => q .non H' F' r.gk r.src .non
  | ret d w1 => exact fun q v σ' H' F' e r k => q v H' F' r.gk r.src k
  | exc c w1 => exact fun q σ' H' F' cls dd e r k => q H' F' cls dd r.gk r.src k
  | brk w1 => exact fun q => q.elim
  | cnt w1 => exact fun q => q.elim
  | stuck => exact fun q => q
theorem fn_stuck {x qual : Str} {params : Arguments} {body : List Stmt} {scope : Scope} {f : Addr} {fd : FuncData} {N ps : List Str} {k : Nat} (F : FunD K x qual params body scope [] [] f fd) (S : FnScope N ps scope) :
    FnOk P w K mg base (L2.CX P w) (k + 1) f fd ps (spM K mg ps.length (fun _ _ => .stuck)) :=
  F.ok S (fun vs H Q E h => h.choose_spec.choose_spec.choose_spec.choose_spec.choose_spec.1) (fun cdv A outer s H vs Q E hr h => by
    obtain ⟨a0, c0, F0, ds, ss, hl, hf, hs, hv, q⟩ := h
    exact (show False from q).elim)
end
end TD
namespace TD
open PySem PySem.Spec PySem.Calls PyProof.Rows L2
section
variable {prog : Program} {w : World} {A : Around} {s : Shared}
theorem adjust_rev (n : Nat) : Builtin.Slice.sliceAdjust none none (-1) (n : Int) = ((n : Int) - 1, -1) := by
  simp [Builtin.Slice.sliceAdjust]
theorem places_rev (n : Nat) : Builtin.Slice.slicePlaces ((n : Int) - 1) (-1) (-1) = n := by
  unfold Builtin.Slice.slicePlaces
  have h1 : ¬ ((-1 : Int) > 0) := by omega
  simp only [h1, if_false]
  rw [show (- -1 : Int) = 1 by decide, Int.ediv_one]
  split <;> omega
theorem pick_rev {α : Type} (xs : Array α) : ((List.range xs.size).filterMap fun (m : Nat) => xs[((((xs.size : Nat) : Int) - 1) + (m : Int) * (-1)).toNat]?).toArray = xs.toList.reverse.toArray := by
  have e : (List.range xs.size).filterMap (fun (m : Nat) => xs[((((xs.size : Nat) : Int) - 1) + (m : Int) * (-1)).toNat]?) = ((List.range xs.size).map fun k => xs.size - 1 - k).filterMap (xs[·]?) := by
    rw [List.filterMap_map]
    congr 1
    funext m
    show _ = xs[xs.size - 1 - m]?
    rw [show ((((xs.size : Nat) : Int) - 1) + (m : Int) * (-1)).toNat = xs.size - 1 - m by omega]
  rw [e, PySem.W.krv_range, List.filterMap_reverse, PySem.W.krv_all]
theorem sliceApplied_rev {sl : Addr} {vl vu vs : Value} {n : Nat} {Q : Int × Int × Nat → Shared → Prop} (hs : s.heap.IsSliceOf sl vl vu vs) (pl : IsPart vl none) (pu : IsPart vu none) (ps : IsPart vs (some (-1)))
    (h : Q ((n : Int) - 1, -1, n) s) : wpAny (model prog w) A (Builtin.Slice.sliceApplied (.ref sl) (pure (n : Int))) Q E s := by
  obtain ⟨os, hos, hcs, hds⟩ := id hs
  unfold Builtin.Slice.sliceApplied Builtin.Slice.sliceFields
  refine wpAny_bind (wpAny_bind (wpAny_field hos hds (x := vl) rfl (wpAny_bind (wpAny_field hos hds (x := vu) rfl (wpAny_bind (wpAny_field hos hds (x := vs) rfl (wpAny_pure ?_)))))))
  refine wpAny_bind (HT.slicePart_ ps ?_)
  show wpAny _ _ (if ((-1 : Int) == 0) = true then _ else _) _ _ s
  rw [if_neg (by decide)]
  refine wpAny_bind (HT.slicePart_ pl (wpAny_bind (HT.slicePart_ pu (wpAny_bind (wpAny_pure ?_)))))
  show wpAny _ _ (match Builtin.Slice.sliceAdjust none none (-1) (n : Int) with | (lo, hi) => pure (lo, (-1 : Int), Builtin.Slice.slicePlaces lo hi (-1))) _ _ s
  rw [adjust_rev n]
  show wpAny _ _ (pure ((n : Int) - 1, (-1 : Int), Builtin.Slice.slicePlaces ((n : Int) - 1) (-1) (-1))) _ _ s
  rw [places_rev]
  exact wpAny_pure h
theorem getItem_tuple_rev {t sl : Addr} {items : Array Value} {vl vu vs : Value} {Q : Value → Shared → Prop} (ht : IsTup s.heap t items) (hs : s.heap.IsSliceOf sl vl vu vs) (pl : IsPart vl none) (pu : IsPart vu none) (ps : IsPart vs (some (-1)))
    (h : Q (.ref s.heap.objs.size) { s with heap := s.heap.push { cls := .type "tuple", data := .seq items.toList.reverse.toArray } })
    (hsz : items.size ≤ sizeLine) : wpAny (model prog w) A (getItem (.ref t) (.ref sl)) Q E s := by
  have htake : sizeOk (.seq items.toList.reverse.toArray) := by
    show items.toList.reverse.toArray.size ≤ sizeLine
    rw [List.size_toArray, List.length_reverse, Array.length_toList]
    exact hsz
  obtain ⟨os, hos, hcs, hds⟩ := id hs
  have hTs : s.TypeIs (.ref sl) "slice" := ⟨os, hos, hcs⟩
  unfold getItem
  try with_reducible refine wpAny_holding ?_
  first | refine wpAny_bind (wpAny_pure ?_) | skip
  refine wpAny_bind (wpAny_sequenceKey ht.typeIs (by decide) ?_)
  refine wpAny_bind (wpAny_callSpecial?_slot (name := Str.ofString "__getitem__") ht.typeIs PyProof.Rows.slot_tuple_getitem
    (wpAny_call_entry PyProof.Rows.slot_tuple_getitem ht.typeIs entry_tuple_getitem ?_ (args_tuple_getitem _ _)))
  show wpAny _ _ (Builtin.Tuple.tupleItemsOf (.ref t) >>= _) _ _ s
  refine wpAny_bind (tupleItemsOf_ ht ?_)
  refine wpAny_bind (wpAny_typeOf hTs ?_)
  rw [if_pos (by decide)]
  refine wpAny_bind (sliceApplied_rev hs pl pu ps ?_)
  have hno : ¬ ((((items.size : Nat) : Int) - 1 == 0 && (-1 : Int) == 1 && items.size == items.size) = true) := by
    intro q
    rw [Bool.and_eq_true, Bool.and_eq_true] at q
    exact absurd q.1.2 (by decide)
  show wpAny _ _ (if (((items.size : Nat) : Int) - 1 == 0 && (-1 : Int) == 1 && items.size == items.size) = true then _ else _) _ _ s
  rw [if_neg hno, pick_rev]
  first
    | exact wpAny_bind (m := Builtin.Tuple.tupleExact _) (wpAny_newObj_type (wpAny_pure ⟨_, rfl, wpAny_pure h⟩) htake)
    | exact wpAny_bind (m := Builtin.Tuple.tupleExact _) (wpAny_newObj_type (wpAny_bind (wpAny_pure (wpAny_pure ⟨_, rfl, wpAny_pure h⟩))) htake)
    | exact wpAny_bind (wpAny_bind (m := Builtin.Tuple.tupleExact _) (wpAny_newObj_type (wpAny_pure (wpAny_pure ⟨_, rfl, wpAny_pure h⟩)) htake))
    | exact wpAny_bind (wpAny_bind (m := Builtin.Tuple.tupleExact _) (wpAny_newObj_type (wpAny_pure ⟨_, rfl, wpAny_pure h⟩) htake))
end
section
variable {X : Cx} {Wx : WX} {fm : Fm}
def tRevT (K : PySem.W.Frag) (te : TE) : TE := fun σ H Q => te σ H fun x H1 => ∃ a xs, x = .ref a ∧ SqT K H1 a xs ∧ ∀ p, H1 p = none → Q (.ref p) (upd H1 p (.tup xs.reverse))
theorem pe_revT {e : Expr} {te : TE} {k : Nat} {p1 p2 p3 pos : Pos} (he : PE X e te) : PE X (.Subscript e (.Slice none none (some (.UnaryOp .USub (.Constant (.int 1) k p1) p2)) p3) pos) (tRevT X.K te) := by
  refine ⟨fun pins s σ H Q I h => ?_⟩
  refine Subscript_ (thn (he.run pins s σ H _ I h) fun v s1 ⟨x, H1, I1, r1, q1⟩ => ?_)
  obtain ⟨a, xs, ex, hx, q⟩ := q1
  subst ex
  cases r1
  have hst : PO X (some (.UnaryOp .USub (.Constant (.int 1) k p1) p2)) (tPart (tUn (rU fun i => .int (-i)) (tC (.int 1)))) := po_some (pe_un un_neg pe_int)
  refine wpAny_Slice (thn (po_none.run pins s1 σ H1 (fun o H2 => o = none ∧ H2 = H1) I1 ⟨rfl, rfl⟩) fun vl s2 ⟨l, H2, I2, pl, el, e2⟩ => ?_)
  subst el e2
  refine thn (po_none.run pins s2 σ H2 (fun o H3 => o = none ∧ H3 = H2) I2 ⟨rfl, rfl⟩) fun vu s3 ⟨u, H3, I3, pu, eu, e3⟩ => ?_
  subst eu e3
  refine thn (hst.run pins s3 σ H3 (fun o H4 => o = some (-1) ∧ H4 = H3) I3 ⟨1, rfl, -1, rfl, rfl, rfl⟩) fun vs s4 ⟨o, H4, I4, ps, eo, e4⟩ => ?_
  subst eo e4
  have I5 : Inv X pins σ H4 { s4 with heap := s4.heap.push { cls := .type "slice", data := .fields #[vl, vu, vs] } } := I4.kept (t' := s4.toks) fun b ob q => Heap.get?_push_of_some _ q
  obtain ⟨its, r, ht, hz⟩ := I5.tuple hx
  have hlen : its.toArray.size = xs.length := by rw [List.size_toArray]; exact r.length.symm
  show wpAny (model X.prog X.w) X.A (subscriptTail e (.Slice none none (some (.UnaryOp .USub (.Constant (.int 1) k p1) p2)) p3) (.ref a) (.ref s4.heap.objs.size)) (EP X pins σ Q) X.xe { s4 with heap := s4.heap.push { cls := .type "slice", data := .fields #[vl, vu, vs] } }
  refine tail_any (ops := [.ref a, .ref s4.heap.objs.size]) ht.typeIs (PyProof.Rows.slot_tuple_getitem.lookup) ?_ (by with_unfolding_all rfl)
  refine getItem_tuple_rev ht (Heap.IsSliceOf.new _ vl vu vs) pl pu ps ?_ (by rw [hlen]; exact hz)
  refine ⟨.ref _, _, I5.laid (t' := s4.toks) (o := .tup xs.reverse) (fun b ob q => Heap.get?_push_of_some _ q) (Nat.le_refl _) ?_, rfl, q _ (I5.hok.fresh (Nat.le_refl _))⟩
  exact ⟨by rw [List.length_reverse]; exact hz, _, r.reverse, IsTup.new _ _⟩
def mRevT (m : W → R D) : W → R D := fun w => (m w).bind fun d w1 => R.lift (d.t?.map fun l => .tup l.reverse) w1
theorem se_revT {e : Expr} {k : Nat} {p1 p2 p3 pos : Pos} {m : W → R D} (h : SE X Wx fm e m) : SE X Wx fm (.Subscript e (.Slice none none (some (.UnaryOp .USub (.Constant (.int 1) k p1) p2)) p3) pos) (mRevT m) := by
  refine ⟨?_⟩
  intro ex σ H F w Q r q
  refine WE.of (pe_revT pe_we) ?_
  refine h ex σ H F w _ r ((Fin.bind q).imp fun d w1 H1 F1 ⟨r1, k1, e1, q1⟩ v hv => ?_)
  cases hv with
  | @tup p0 vs l h1 h2 =>
    refine ⟨_, _, rfl, ex_t r1.fh h1, fun p' hp => ?_⟩
    have g : Gr H1 F1 (upd H1 p' (.tup vs.reverse)) (upd F1 p' (.tup vs.reverse)) := Gr.new r1.fh hp
    exact q1 _ _ g.kp g.ff (r1.gr g) _ (.tup (.inl (.inl upd_same)) (h2.rev.ex g.ff))
  | _ => exact (show False from q1).elim
end
section
variable {X : Cx} {Wx : WX} {fm : Fm}
/-- x[k] of a list that is being built: it stays so -/
def mIxO (i : Nat) (m : W → R D) : W → R D := fun w => match w.env[i]? with
  | some (some (.own _)) => (m w).bind fun k w1 => match w1.env[i]? with
    | some (some (.own xs)) => R.lift (gIx (.lst xs) k) w1
    | _ => .stuck
  | _ => mBin gIx (mVar i) m w
theorem se_ixO {i : Nat} {x : Str} {b : Expr} {p pos : Pos} {m : W → R D} (hb : SE X Wx fm b m) (hN : X.N[i]? = some x := by rfl) (hv : Vis X.env.scope x := by first | exact Or.inl rfl | exact Or.inr (Or.inl rfl) | exact Or.inr (Or.inr rfl)) (hd : (x == ("__debug__" : Str)) = false := by decide)
    (hcd : (x == ("__classdict__" : Str)) = false := by decide) (hs : PlainIx b := by exact fun _ _ => rfl) : SE X Wx fm (.Subscript (.Name x p) b pos) (mIxO i m) := by
  refine ⟨?_⟩
  intro ex σ H F w Q r fin
  revert fin
  unfold mIxO
  split
  · rename_i xs0 hx0
    intro fin
    refine WE.of (pe_ix ix_list (pe_var hN hv hd hcd) pe_we hs) ?_
    obtain ⟨p0, e0, r0⟩ := r.takeOwn hx0
    refine ⟨.ref p0, e0, ?_⟩
    refine hb ex σ H F w _ r ((Fin.bind fin).imp fun k w1 H1 F1 ⟨r1, k1, e1, q1⟩ u hu => ?_)
    split at q1
    · rename_i xs hx
      obtain ⟨p1, e1', r2⟩ := r1.takeOwn hx
      rw [e0] at e1'
      cases e1'
      obtain ⟨b1, b2, b3, vs, b4, b5⟩ := r2.exo _ (List.mem_cons_self ..)
      have b5 : RpAll X.K fm.a0 F1 vs xs := b5
      obtain ⟨z, hz, q3⟩ := q1.lift
      cases hu with
      | int j =>
        obtain ⟨t, ht, rt⟩ := rp_atI b5 (show atI xs j = some z from hz)
        exact ⟨_, _, _, _, rfl, rfl, .inl (.inl b4), ht, q3 H1 F1 Kp.refl (Ex.refl _) r1 t rt⟩
      | _ => cases hz
    · exact (show False from q1).elim
  · intro fin
    exact se_ix (se_var hN hv hd hcd) hb hs ex σ H F w Q r fin
end
end TD

set_option Elab.async false
set_option linter.all false
set_option maxRecDepth 100000
set_option maxHeartbeats 4000000
namespace TD
open PySem PySem.Spec PyProof.Rows L2
/-! ### how the mirrors are reckoned -/
section
variable {env : Env} {ss : SS} {w : W}
@[simp] theorem mVar_ap (i : Nat) : mVar i ⟨env, ss⟩ = match env[i]? with
  | some (some (.val d)) => .ok d ⟨env, ss⟩
  | some (some (.own xs)) => .ok (.lst xs) ⟨env.set i (some (.val (.lst xs))), ss⟩
  | _ => .stuck := rfl
@[simp] theorem mC_ap (d : D) : mC d w = .ok d w := rfl
@[simp] theorem mBin_ap (g : D → D → Option D) (a b : W → R D) : mBin g a b w = (a w).bind fun x w1 => (b w1).bind fun y w2 => R.lift (g x y) w2 := rfl
@[simp] theorem mChain_ap (g g' : D → D → Option D) (a b c : W → R D) : mChain g g' a b c w = (a w).bind fun x w1 => (b w1).bind fun y w2 => (R.lift ((g x y).bind D.b?) w2).bind fun k w3 => if k = true then (c w3).bind fun z w4 => R.lift (g' y z) w4 else .ok (.bl false) w3 := rfl
@[simp] theorem mUn_ap (g : D → Option D) (a : W → R D) : mUn g a w = (a w).bind fun x w1 => R.lift (g x) w1 := rfl
@[simp] theorem mIxO_ap (i : Nat) (m : W → R D) : mIxO i m ⟨env, ss⟩ = match env[i]? with
  | some (some (.own _)) => (m ⟨env, ss⟩).bind fun k w1 => match w1.env[i]? with
    | some (some (.own xs)) => R.lift (gIx (.lst xs) k) w1
    | _ => .stuck
  | _ => mBin gIx (mVar i) m ⟨env, ss⟩ := rfl
@[simp] theorem mTru_ap (a : W → R D) : mTru a w = (a w).bind fun x w1 => R.lift x.tru w1 := rfl
@[simp] theorem mB_ap (a : W → R D) : mB a w = (a w).bind fun x w1 => R.lift x.b? w1 := rfl
@[simp] theorem mNotT_ap (a : W → R Bool) : mNotT a w = (a w).bind fun b w1 => .ok (!b) w1 := rfl
@[simp] theorem mAndT_ap (a b : W → R Bool) : mAndT a b w = (a w).bind fun c w1 => if c = true then b w1 else .ok false w1 := rfl
@[simp] theorem mOrT_ap (a b : W → R Bool) : mOrT a b w = (a w).bind fun c w1 => if c = true then .ok true w1 else b w1 := rfl
@[simp] theorem mAndV_ap (a b : W → R D) : mAndV a b w = (a w).bind fun d w1 => (R.lift d.b? w1).bind fun c w2 => if c = true then b w2 else .ok (.bl false) w2 := rfl
@[simp] theorem mOrV_ap (a b : W → R D) : mOrV a b w = (a w).bind fun d w1 => (R.lift d.b? w1).bind fun c w2 => if c = true then .ok (.bl true) w2 else b w2 := rfl
@[simp] theorem mNotV_ap (a : W → R D) : mNotV a w = (a w).bind fun d w1 => (R.lift d.b? w1).bind fun c w2 => .ok (.bl (!c)) w2 := rfl
@[simp] theorem mIfE_ap (t : W → R Bool) (a b : W → R D) : mIfE t a b w = (t w).bind fun c w1 => if c = true then a w1 else b w1 := rfl
@[simp] theorem mNil_ap : mNil w = .ok [] w := rfl
@[simp] theorem mCons_ap (a : W → R D) (b : W → R (List D)) : mCons a b w = (a w).bind fun d w1 => (b w1).bind fun ds w2 => .ok (d :: ds) w2 := rfl
@[simp] theorem mTup_ap (a : W → R (List D)) : mTup a w = (a w).bind fun ds w1 => R.lift (if ds.length ≤ 1000000 then some (.tup ds) else none) w1 := rfl
@[simp] theorem mLst_ap (a : W → R (List D)) : mLst a w = (a w).bind fun ds w1 => R.lift (if ds.length ≤ 1000000 then some ds else none) w1 := rfl
@[simp] theorem mFrz_ap (a : W → R (List D)) : mFrz a w = (a w).bind fun xs w1 => .ok (.lst xs) w1 := rfl
@[simp] theorem mSc_ap (a : W → R D) : mSc a w = (a w).bind fun d w1 => .ok d (if d.flat = true then { env := w.env, ss := w1.ss } else w1) := rfl
@[simp] theorem mScT_ap (a : W → R Bool) : mScT a w = (a w).bind fun b w1 => .ok b { env := w.env, ss := w1.ss } := rfl
@[simp] theorem mBlt_ap (g : List D → Option D) (a : W → R (List D)) : mBlt g a w = (a w).bind fun ds w1 => R.lift (g ds) w1 := rfl
@[simp] theorem mIsi_ap (T : String) (a : W → R D) : mIsi T a w = (a w).bind fun d w1 => R.lift ((d.isi T).map D.bl) w1 := rfl
def RF.toR (r : RF) (w : W) : R D := match r with
  | .ok d ss' => .ok d { w with ss := ss' }
  | .exc c ss' => .exc c { w with ss := ss' }
  | .stuck => .stuck
@[simp] theorem RF.toR_ok (d : D) (s : SS) : (RF.ok d s).toR w = .ok d { w with ss := s } := rfl
@[simp] theorem RF.toR_exc (c : Exn) (s : SS) : (RF.exc c s).toR w = .exc c { w with ss := s } := rfl
@[simp] theorem RF.toR_stuck : RF.stuck.toR w = .stuck := rfl
@[simp] theorem mCall_ap (n : Nat) (f : List D → SS → RF) (a : W → R (List D)) : mCall n f a w = (a w).bind fun ds w1 => if ds.length = n then (f ds w1.ss).toR w1 else .stuck := rfl
@[simp] theorem mCall0_ap (f : List D → SS → RF) : mCall0 f w = match f [] w.ss with | .ok d ss' => .ok d { w with ss := ss' } | _ => .stuck := rfl
@[simp] theorem mSlT_ap (a : W → R D) (lo hi : W → R (Option Int)) : mSlT a lo hi w = (a w).bind fun d w1 => (lo w1).bind fun x w2 => (hi w2).bind fun y w3 => R.lift (d.t?.map fun l => .tup (cutD l x y)) w3 := rfl
@[simp] theorem mSlL_ap (a : W → R D) (lo hi : W → R (Option Int)) : mSlL a lo hi w = (a w).bind fun d w1 => (lo w1).bind fun x w2 => (hi w2).bind fun y w3 => R.lift (d.l?.map fun l => cutD l x y) w3 := rfl
@[simp] theorem mRevL_ap (a : W → R D) : mRevL a w = (a w).bind fun d w1 => R.lift (d.l?.map List.reverse) w1 := rfl
@[simp] theorem mRevT_ap (a : W → R D) : mRevT a w = (a w).bind fun d w1 => R.lift (d.t?.map fun l => .tup l.reverse) w1 := rfl
@[simp] theorem mCat_ap (a b : W → R D) : mCat a b w = (a w).bind fun x w1 => (b w1).bind fun y w2 => R.lift (match x, y with | .lst a, .lst b => if a.length + b.length ≤ 1000000 then some (a ++ b) else none | _, _ => none) w2 := rfl
@[simp] theorem mP_ap (a : W → R D) : mP a w = (a w).bind fun d w1 => R.lift (d.i?.map some) w1 := rfl
@[simp] theorem mNoP_ap : mNoP w = .ok none w := rfl
@[simp] theorem mItems_ap (a : W → R D) : mItems a w = (a w).bind fun d w1 => R.lift d.items w1 := rfl
@[simp] theorem mListOf_ap (a : W → R D) : mListOf a w = (a w).bind fun d w1 => R.lift d.seq? w1 := rfl
@[simp] theorem mRng1_ap (a : W → R (List D)) : mRng1 a w = (a w).bind fun ds w1 => R.lift (match ds with | [.int b] => if small b = true then some (rngD 0 b) else none | _ => none) w1 := rfl
@[simp] theorem mRng2_ap (a : W → R (List D)) : mRng2 a w = (a w).bind fun ds w1 => R.lift (match ds with | [.int a, .int b] => if (small a && small b) = true then some (rngD a b) else none | _ => none) w1 := rfl
@[simp] theorem mLc_ap (vs : List Nat) (mi : W → R (List D)) (set : D → W → Option W) (mt : W → R Bool) (me : W → R D) : mLc vs mi set mt me w = (mi w).bind fun ds w1 =>
  (lcGo vs set mt me ds [] { w1 with env := wipeE w1.env vs }).bind fun acc w2 => .ok acc { w2 with env := resE w1.env w2.env vs } := rfl
@[simp] theorem lcGo_nil (vs : List Nat) (set : D → W → Option W) (mt : W → R Bool) (me : W → R D) (acc : List D) : lcGo vs set mt me [] acc w = .ok acc w := rfl
theorem lcGo_cons (vs : List Nat) (set : D → W → Option W) (mt : W → R Bool) (me : W → R D) (d : D) (ds acc : List D) : lcGo vs set mt me (d :: ds) acc w = match set d w with
    | none => .stuck
    | some w1 => (mt w1).nox.bind fun b w2 => if b = true then (me w2).nox.bind fun y w3 => if acc.length < 1000000 then lcGo vs set mt me ds (acc ++ [y]) { w3 with env := wipeE w3.env vs } else .stuck
      else lcGo vs set mt me ds acc { w2 with env := wipeE w2.env vs } := rfl
@[simp] theorem nox_okk {α : Type} (a : α) : (R.ok a w).nox = .ok a w := rfl
@[simp] theorem mYes_ap : mYes w = .ok true w := rfl
@[simp] theorem gsName_ap (i : Nat) (d : D) : gsName i d ⟨env, ss⟩ = some ⟨env.set i (some (.val d)), ss⟩ := rfl
@[simp] theorem gsTup_ap (n : Nat) (t : List D → W → Option W) (ds : List D) : gsTup n t (.tup ds) w = if ds.length = n then t ds w else none := rfl
@[simp] theorem gsCons_ap (s : D → W → Option W) (t : List D → W → Option W) (d : D) (ds : List D) : gsCons s t (d :: ds) w = (s d w).bind (t ds) := rfl
@[simp] theorem gsNil_ap : gsNil [] w = some w := rfl
@[simp] theorem wipeE_nil : wipeE env [] = env := rfl
@[simp] theorem wipeE_cons (v : Nat) (vs : List Nat) : wipeE env (v :: vs) = (wipeE env vs).set v none := rfl
@[simp] theorem resE_nil (e0 : Env) : resE e0 env [] = env := rfl
@[simp] theorem resE_cons (e0 : Env) (v : Nat) (vs : List Nat) : resE e0 env (v :: vs) = (resE e0 env vs).set v (match e0[v]? with | some (some (.val d)) => some (.val d) | _ => none) := rfl
@[simp] theorem sNil_ap : sNil w = .nx w := rfl
@[simp] theorem sCons_ap (a b : W → RS) : sCons a b w = (a w).bind b := rfl
@[simp] theorem sSet_ap (i : Nat) (m : W → R D) : sSet i m w = (m w).toS fun d w' => .nx { w' with env := w'.env.set i (some (.val d)) } := rfl
@[simp] theorem sSetF_ap (i : Nat) (m : W → R (List D)) : sSetF i m w = (m w).toS fun xs w' => .nx { w' with env := w'.env.set i (some (.own xs)) } := rfl
@[simp] theorem sAsg_ap (set : D → W → Option W) (m : W → R D) : sAsg set m w = (m w).toS fun d w' => oS (set d w') .nx := rfl
@[simp] theorem oS_some {α : Type} (a : α) (k : α → RS) : oS (some a) k = k a := rfl
@[simp] theorem oS_none {α : Type} (k : α → RS) : oS (none : Option α) k = .stuck := rfl
@[simp] theorem sPar_ap (i j : Nat) (m : W → R (List D)) : sPar i j m w = (m w).toS fun ds w' => match ds with
  | [d, e] => .nx { w' with env := (w'.env.set i (some (.val d))).set j (some (.val e)) }
  | _ => .stuck := rfl
@[simp] theorem sAug_ap (i : Nat) (g : D → D → Option D) (m : W → R D) : sAug i g m w = match w.env[i]? with
  | some (some (.val x)) => (m w).toS fun y w' => oS (g x y) fun z => .nx { w' with env := w'.env.set i (some (.val z)) }
  | _ => .stuck := rfl
@[simp] theorem sExpr_ap (m : W → R D) : sExpr m w = (m w).toS fun _ w' => .nx w' := rfl
@[simp] theorem sApp_ap (i : Nat) (m : W → R D) : sApp i m w = match w.env[i]? with
  | some (some (.own _)) => (m w).toS fun d w' => match w'.env[i]? with
    | some (some (.own xs)) => if xs.length < 1000000 then .nx { w' with env := w'.env.set i (some (.own (xs ++ [d]))) } else .stuck
    | _ => .stuck
  | _ => .stuck := rfl
@[simp] theorem sExt_ap (i : Nat) (m : W → R D) : sExt i m w = match w.env[i]? with
  | some (some (.own _)) => (m w).toS fun d w' => match w'.env[i]?, d.seq? with
    | some (some (.own xs)), some ys => if xs.length + ys.length ≤ 1000000 then .nx { w' with env := w'.env.set i (some (.own (xs ++ ys))) } else .stuck
    | _, _ => .stuck
  | _ => .stuck := rfl
@[simp] theorem sPop_ap (i : Nat) (set : D → W → Option W) : sPop i set w = match w.env[i]? with
  | some (some (.own xs)) => oS (xs[xs.length - 1]?) fun d => oS (set d { w with env := w.env.set i (some (.own xs.dropLast)) }) .nx
  | _ => .stuck := rfl
@[simp] theorem sIf_ap (t : W → R Bool) (a b : W → RS) : sIf t a b w = (t w).toS fun c w' => if c = true then a w' else b w' := rfl
@[simp] theorem sRet_ap (m : W → R D) : sRet m w = (m w).toS fun d w' => .ret d w' := rfl
@[simp] theorem sRetN_ap : sRetN w = .ret .non w := rfl
@[simp] theorem sFor_ap (mi : W → R (List D)) (set : D → W → Option W) (body : W → RS) : sFor mi set body w = (mi w).toS fun ds w1 => sForGo set body ds w1 := rfl
@[simp] theorem sForGo_nil (set : D → W → Option W) (body : W → RS) : sForGo set body [] w = .nx w := rfl
/-- one turn's outcome handed on -/
def RS.loop (r : RS) (k : W → RS) : RS := match r with
  | .nx w2 => k w2
  | .cnt w2 => k w2
  | .brk w2 => .nx w2
  | r => r
@[simp] theorem RS.loop_nx (k : W → RS) : (RS.nx w).loop k = k w := rfl
@[simp] theorem RS.loop_cnt (k : W → RS) : (RS.cnt w).loop k = k w := rfl
@[simp] theorem RS.loop_brk (k : W → RS) : (RS.brk w).loop k = .nx w := rfl
@[simp] theorem RS.loop_ret (d : D) (k : W → RS) : (RS.ret d w).loop k = .ret d w := rfl
@[simp] theorem RS.loop_exc (c : Exn) (k : W → RS) : (RS.exc c w).loop k = .exc c w := rfl
@[simp] theorem RS.loop_stuck (k : W → RS) : RS.stuck.loop k = .stuck := rfl
theorem sForGo_cons (set : D → W → Option W) (body : W → RS) (d : D) (ds : List D) : sForGo set body (d :: ds) w = oS (set d w) fun w1 => (body w1).loop (sForGo set body ds) := by
  show oS _ _ = _
  congr 1
theorem sWhGo_succ (t : W → R Bool) (body : W → RS) (n : Nat) : sWhGo t body (n + 1) w = (t w).toS fun c w1 => if c = true then (body w1).loop (sWhGo t body n) else .nx w1 := by
  show R.toS _ _ = _
  congr 1
@[simp] theorem fnM_ap (n : Nat) (m : W → RS) (ds : List D) : fnM n m ds ss = (m ⟨startE n ds, ss⟩).fin := rfl
@[simp] theorem fin_ret (d : D) : (RS.ret d w).fin = .ok d w.ss := rfl
@[simp] theorem fin_nx : (RS.nx w).fin = .ok .non w.ss := rfl
@[simp] theorem fin_exc (c : Exn) : (RS.exc c w).fin = .exc c w.ss := rfl
@[simp] theorem startE_ap (n : Nat) (ds : List D) : startE n ds = ds.map (fun d => some (.val d)) ++ List.replicate (n - ds.length) none := rfl
@[simp] theorem gAdd_int (a b : Int) : gAdd (.int a) (.int b) = some (.int (a + b)) := rfl
@[simp] theorem gAdd_tup (a b : List D) : gAdd (.tup a) (.tup b) = if a.length + b.length ≤ 1000000 then some (.tup (a ++ b)) else none := rfl
@[simp] theorem gAddI_int (a b : Int) : gAddI (.int a) (.int b) = some (.int (a + b)) := rfl
@[simp] theorem gSub_int (a b : Int) : TD.gSub (.int a) (.int b) = some (.int (a - b)) := rfl
@[simp] theorem gMul_int (a b : Int) : gMul (.int a) (.int b) = if mulOk a b = true then some (.int (a * b)) else none := rfl
@[simp] theorem gDiv_int (a b : Int) : gDiv (.int a) (.int b) = if divOk b = true then some (.int (a / b)) else none := rfl
@[simp] theorem gMod_int (a b : Int) : gMod (.int a) (.int b) = if 0 < b then some (.int (a % b)) else none := rfl
@[simp] theorem gNeg_int (a : Int) : gNeg (.int a) = some (.int (-a)) := rfl
@[simp] theorem gLt_int (a b : Int) : gLt (.int a) (.int b) = some (.bl (decide (a < b))) := rfl
@[simp] theorem gLe_int (a b : Int) : gLe (.int a) (.int b) = some (.bl (decide (a ≤ b))) := rfl
@[simp] theorem gGt_int (a b : Int) : gGt (.int a) (.int b) = some (.bl (decide (b < a))) := rfl
@[simp] theorem gGe_int (a b : Int) : gGe (.int a) (.int b) = some (.bl (decide (b ≤ a))) := rfl
@[simp] theorem gIx_tup (l : List D) (i : Int) : gIx (.tup l) (.int i) = atI l i := rfl
@[simp] theorem gIx_lst (l : List D) (i : Int) : gIx (.lst l) (.int i) = atI l i := rfl
@[simp] theorem b_bl (b : Bool) : (D.bl b).b? = some b := rfl
@[simp] theorem tru_bl (b : Bool) : (D.bl b).tru = some b := rfl
@[simp] theorem tru_int (i : Int) : (D.int i).tru = some (i != 0) := rfl
@[simp] theorem tru_tup (l : List D) : (D.tup l).tru = some (!l.isEmpty) := rfl
@[simp] theorem tru_lst (l : List D) : (D.lst l).tru = some (!l.isEmpty) := rfl
@[simp] theorem tru_non : D.non.tru = some false := rfl
@[simp] theorem items_tup (l : List D) : (D.tup l).items = some l := rfl
@[simp] theorem items_lst (l : List D) : (D.lst l).items = some l := rfl
@[simp] theorem seq_tup (l : List D) : (D.tup l).seq? = some l := rfl
@[simp] theorem seq_lst (l : List D) : (D.lst l).seq? = some l := rfl
@[simp] theorem t_tup (l : List D) : (D.tup l).t? = some l := rfl
@[simp] theorem l_lst (l : List D) : (D.lst l).l? = some l := rfl
@[simp] theorem i_int (i : Int) : (D.int i).i? = some i := rfl
@[simp] theorem flat_int (i : Int) : (D.int i).flat = true := rfl
@[simp] theorem flat_bl (b : Bool) : (D.bl b).flat = true := rfl
@[simp] theorem flat_str (x : Str) : (D.str x).flat = true := rfl
@[simp] theorem flat_non : D.non.flat = true := rfl
@[simp] theorem flat_tup (l : List D) : (D.tup l).flat = false := rfl
@[simp] theorem flat_lst (l : List D) : (D.lst l).flat = false := rfl
@[simp] theorem gLen_tup (l : List D) : gLen [.tup l] = some (.int l.length) := rfl
@[simp] theorem gLen_lst (l : List D) : gLen [.lst l] = some (.int l.length) := rfl
@[simp] theorem gTuple_tup (l : List D) : gTuple [.tup l] = some (.tup l) := rfl
@[simp] theorem gTuple_lst (l : List D) : gTuple [.lst l] = some (.tup l) := rfl
@[simp] theorem gInt_int (i : Int) : gInt [.int i] = some (.int i) := rfl
@[simp] theorem gAbs_int (i : Int) : gAbs [.int i] = some (.int (if i < 0 then -i else i)) := rfl
@[simp] theorem gMax_2 (i j : Int) : gMax [.int i, .int j] = some (.int (if j > i then j else i)) := rfl
theorem small_eq (i : Int) : (small i = true) = (-(2 ^ 62) ≤ i ∧ i < 2 ^ 62) := by simp [small]
end
section
open D
@[simp] theorem isi_int_int (i : Int) : (D.int i).isi "int" = some true := by show kitB "int" "int" = _; decide +kernel
@[simp] theorem isi_bl_int (b : Bool) : (D.bl b).isi "int" = some true := by show kitB "bool" "int" = _; decide +kernel
@[simp] theorem isi_str_int (x : Str) : (D.str x).isi "int" = some false := by show kitB "str" "int" = _; decide +kernel
@[simp] theorem isi_non_int : D.non.isi "int" = some false := by show kitB "NoneType" "int" = _; decide +kernel
@[simp] theorem isi_tup_int (l : List D) : (D.tup l).isi "int" = some false := by show kitB "tuple" "int" = _; decide +kernel
@[simp] theorem isi_lst_int (l : List D) : (D.lst l).isi "int" = some false := by show kitB "list" "int" = _; decide +kernel
@[simp] theorem isi_int_bool (i : Int) : (D.int i).isi "bool" = some false := by show kitB "int" "bool" = _; decide +kernel
@[simp] theorem isi_bl_bool (b : Bool) : (D.bl b).isi "bool" = some true := by show kitB "bool" "bool" = _; decide +kernel
@[simp] theorem isi_str_bool (x : Str) : (D.str x).isi "bool" = some false := by show kitB "str" "bool" = _; decide +kernel
@[simp] theorem isi_non_bool : D.non.isi "bool" = some false := by show kitB "NoneType" "bool" = _; decide +kernel
@[simp] theorem isi_tup_bool (l : List D) : (D.tup l).isi "bool" = some false := by show kitB "tuple" "bool" = _; decide +kernel
@[simp] theorem isi_lst_bool (l : List D) : (D.lst l).isi "bool" = some false := by show kitB "list" "bool" = _; decide +kernel
@[simp] theorem isi_int_tuple (i : Int) : (D.int i).isi "tuple" = some false := by show kitB "int" "tuple" = _; decide +kernel
@[simp] theorem isi_bl_tuple (b : Bool) : (D.bl b).isi "tuple" = some false := by show kitB "bool" "tuple" = _; decide +kernel
@[simp] theorem isi_str_tuple (x : Str) : (D.str x).isi "tuple" = some false := by show kitB "str" "tuple" = _; decide +kernel
@[simp] theorem isi_non_tuple : D.non.isi "tuple" = some false := by show kitB "NoneType" "tuple" = _; decide +kernel
@[simp] theorem isi_tup_tuple (l : List D) : (D.tup l).isi "tuple" = some true := by show kitB "tuple" "tuple" = _; decide +kernel
@[simp] theorem isi_lst_tuple (l : List D) : (D.lst l).isi "tuple" = some false := by show kitB "list" "tuple" = _; decide +kernel
@[simp] theorem isi_int_list (i : Int) : (D.int i).isi "list" = some false := by show kitB "int" "list" = _; decide +kernel
@[simp] theorem isi_bl_list (b : Bool) : (D.bl b).isi "list" = some false := by show kitB "bool" "list" = _; decide +kernel
@[simp] theorem isi_str_list (x : Str) : (D.str x).isi "list" = some false := by show kitB "str" "list" = _; decide +kernel
@[simp] theorem isi_non_list : D.non.isi "list" = some false := by show kitB "NoneType" "list" = _; decide +kernel
@[simp] theorem isi_tup_list (l : List D) : (D.tup l).isi "list" = some false := by show kitB "tuple" "list" = _; decide +kernel
@[simp] theorem isi_lst_list (l : List D) : (D.lst l).isi "list" = some true := by show kitB "list" "list" = _; decide +kernel
@[simp] theorem isi_str_str (x : Str) : (D.str x).isi "str" = some true := by show kitB "str" "str" = _; decide +kernel
end
end TD

set_option Elab.async false
set_option linter.all false
set_option maxRecDepth 100000
set_option maxHeartbeats 4000000
namespace TD
open PySem PySem.Spec PyProof.Rows L2
open PySem.W (ksFn ksEnv)
/-! ### an own error whose __init__ says super().__init__(text) and stores one field -/
def eArgs (a1 a2 : PySem.Arg) : Arguments := { posonlyargs := [], args := [a1, a2], vararg := none, kwonlyargs := [], kw_defaults := [], kwarg := none, defaults := [] }
structure EPos where
  p0 : Pos
  p1 : Pos
  p2 : Pos
  p3 : Pos
  p4 : Pos
  p5 : Pos
  q1 : Pos
  q2 : Pos
  q3 : Pos
  q4 : Pos
  k : Nat
def eBody (msg fld : Str) (z : EPos) : List Stmt :=
  [.Expr (.Call (.Attribute (.Call (.Name "super" z.p0) [] [] z.p1) "__init__" z.p2) [.Constant (.str msg) z.k z.p3] [] z.p4) z.p5, .Assign [.Attribute (.Name "self" z.q1) fld z.q2] (.Name fld z.q3) z.q4]
structure OwnE (P : Program) (K : PySem.W.Frag) (mg : Str → Option Value) (nm qual msg fld : Str) (C fI cc cda : Addr) (a1 a2 : PySem.Arg) (z : EPos) (scope : Scope) : Prop where
  T : OexC K C
  gC : mg nm = some (.ref C)
  iC : PySem.W.findIn K (.ref C) "__init__" = some (some (.ref fI))
  tI : PySem.W.typeIn K (.ref fI) = some (.type "function")
  no : PySem.W.findIn K (.ref C) fld = some none
  fn : ∃ (oc : Value) (od : Option Addr) (doc pm : Value) (an : Option Addr) (ct : Value) (osl : Array (Option Value)), K.lookup fI = some ⟨oc, od, .func (ksFn "__init__" qual (eArgs a1 a2) (eBody msg fld z) scope .none .none doc pm an (.ref cda) ct cc), osl⟩
  code : PySem.W.codeIn K (.ref cda) qual = true
  cdo : ∃ (ccl : Value) (cdd : Option Addr) (vs : Array Value) (ccs : Array (Option Value)) (file : Str) (tf : Tok), K.lookup cda = some ⟨ccl, cdd, .fields vs, ccs⟩ ∧ vs[2]? = some (.str file tf) ∧ ((P.main.file : Str) == file) = true
  cell : ∃ (cl : Value) (cld : Option Addr) (csl : Array (Option Value)), K.lookup cc = some ⟨cl, cld, .cell (some (.ref C)), csl⟩
  sup : PySem.W.ks_superIn K C C "__init__" = some (some (.builtin "ValueError.__init__"))
  subV : PySem.W.subIn K (.ref C) (.type "ValueError") = some true
  mroC : PySem.W.mroIn K C (.ref C) = some true
  nosup : mg "super" = none
  third : PySem.W.nsIn K cStatics "thirdparty.any" = some none
  top : (P.main.scope.names.lookup ("super" : Str)).isSome = false
  arg1 : a1.arg = "self"
  arg2 : a2.arg = fld
  sc : NdefX.NScope ["self", fld, "__class__"] ["self", fld] ["__class__"] scope
  dbg : (fld == ("__debug__" : Str)) = false
  scs : scope.names.lookup ("super" : Str) = some .globalImplicit
/-- what the kernel reads off the body's words -/
structure OwnB (qual msg fld : Str) (fI cc cda : Addr) (a1 a2 : PySem.Arg) (z : EPos) (scope : Scope) : Prop where
  bd : ∀ (doc pm : Value) (an : Option Addr) (ct u1 u2 : Value), bindArgs (ksFn "__init__" qual (eArgs a1 a2) (eBody msg fld z) scope .none .none doc pm an (.ref cda) ct cc) ⟨[u1, u2], []⟩ = pure ([("self", u1), (fld, u2)] : List (Str × Value))
  hi : ∀ L, interactive (NdefX.envF (⟨"__init__", qual, eArgs a1 a2, eBody msg fld z, scope, [("__class__", cc)], cda⟩ : NdefX.NF) fI L) = false
  sw : ∀ L, swapsWith (.Call (.Attribute (.Call (.Name "super" z.p0) [] [] z.p1) "__init__" z.p2) [.Constant (.str msg) z.k z.p3] [] z.p4) none z.p5.line (NdefX.envF (⟨"__init__", qual, eArgs a1 a2, eBody msg fld z, scope, [("__class__", cc)], cda⟩ : NdefX.NF) fI L) = pure false
  he : ∀ L, ∃ pl, eval (.Call (.Attribute (.Call (.Name "super" z.p0) [] [] z.p1) "__init__" z.p2) [.Constant (.str msg) z.k z.p3] [] z.p4) (NdefX.envF (⟨"__init__", qual, eArgs a1 a2, eBody msg fld z, scope, [("__class__", cc)], cda⟩ : NdefX.NF) fI L) = (do
      let ov ← attributeBase (.Call (.Name "super" z.p0) [] [] z.p1) "__init__" (NdefX.envF (⟨"__init__", qual, eArgs a1 a2, eBody msg fld z, scope, [("__class__", cc)], cda⟩ : NdefX.NF) fI L) (eval (.Call (.Name "super" z.p0) [] [] z.p1) (NdefX.envF (⟨"__init__", qual, eArgs a1 a2, eBody msg fld z, scope, [("__class__", cc)], cda⟩ : NdefX.NF) fI L))
      standAt z.p2.atName
      let (f, first) ← holding [ov] (getMethod ov "__init__" pl)
      callWith z.p4 f first (backTo z.p4 (starEach [.Constant (.str msg) z.k z.p3] (NdefX.envF (⟨"__init__", qual, eArgs a1 a2, eBody msg fld z, scope, [("__class__", cc)], cda⟩ : NdefX.NF) fI L))) [])
/-- what __init__ promises -/
def spInit (C : Addr) (fld : Str) : Sp := fun vs H Q _ => ∃ (a : Addr) (v : V), vs = [.ref a, v] ∧ H a = some (exo a C none) ∧ ∀ dx, H dx = none → dx ≠ a → Q .non (upd (upd H dx (exd dx [(fld, v)])) a (exo a C (some dx)))
section
variable {P : Program} {w : World} {K : PySem.W.Frag} {mg : Str → Option Value} {base : Heap} {CX : CXT} {nm qual msg fld : Str} {C fI cc cda : Addr} {a1 a2 : PySem.Arg} {z : EPos} {scope : Scope}
abbrev OwnE.F (qual msg fld : Str) (cc cda : Addr) (a1 a2 : PySem.Arg) (z : EPos) (scope : Scope) : NdefX.NF := ⟨"__init__", qual, eArgs a1 a2, eBody msg fld z, scope, [("__class__", cc)], cda⟩
theorem own_init (O : OwnE P K mg nm qual msg fld C fI cc cda a1 a2 z scope) (B : OwnB qual msg fld fI cc cda a1 a2 z scope) : ∃ fd : FuncData, FnOk P w K mg base CX 1 fI fd ["self", fld] (spInit C fld) ∧ Binds K fd ["self", fld] [] := by
  obtain ⟨oc, od, doc, pm, an, ct, osl, lk⟩ := O.fn
  obtain ⟨ccl, cdd, vc, ccs, file, tf, lc, hvs, hfile⟩ := O.cdo
  obtain ⟨cl, cld, csl, lcell⟩ := O.cell
  refine ⟨ksFn "__init__" qual (eArgs a1 a2) (eBody msg fld z) scope .none .none doc pm an (.ref cda) ct cc, ⟨fun vs H Q E ⟨a, v, e, _⟩ => by rw [e]; rfl, fun A outer s H args us vs Q E hr e0 hb r hsp => ?_⟩, ?_⟩
  rotate_left
  · intro s us hk hl
    rw [List.append_nil] at hl ⊢
    refine .of_eq ?_
    match us, hl with
    | [u1, u2], _ =>
      exact B.bd doc pm an ct u1 u2
  obtain ⟨a, v, rfl, ha, q⟩ := hsp
  cases r with
  | @cons _ u1 _ ur ra rw' =>
  cases rw' with
  | @cons _ u2 _ ur2 rv rn =>
  cases rn
  obtain rfl : u1 = Value.ref a := ra
  have hne : fld ≠ "self" := fun e => by have := O.sc.nd; rw [e] at this; simp at this
  have hne' : (("self" : Str) == fld) = false := by simpa using Ne.symm hne
  have lk1 : List.lookup ("self" : Str) ((["self", fld] : List Str).zip [Value.ref a, u2]).reverse = some (.ref a) := by simp [List.lookup, hne']
  have lk2 : List.lookup fld ((["self", fld] : List Str).zip [Value.ref a, u2]).reverse = some u2 := by simp [List.lookup]
  have KX : K.In s.heap := e0.mod.kin.keeps fun b o e => (e0.bs b o e).1
  have lim : s.heap.NoLimit := e0.mod.nolimit.keeps fun b o e => (e0.bs b o e).1
  have hcell := KX _ _ lcell
  have hcellH : H cc = none := (e0.bs _ _ (e0.mod.kin _ _ lcell)).2
  have hC0 : NdefX.CellsAt [("__class__", cc)] ["__class__"] [some (.ref C)] s.heap H := by
    refine ⟨rfl, fun y c e => ?_, fun x y c e1 e2 => ?_, fun i y e => ?_⟩
    · have hy : y = "__class__" := by
        by_cases hy : y = "__class__"
        · exact hy
        · have : (y == ("__class__" : Str)) = false := by simpa using hy
          simp [List.lookup, this] at e
      subst hy
      have : cc = c := by simpa [List.lookup] using e
      subst this
      exact ⟨hcellH, some (.ref C), _, hcell, rfl⟩
    · have hh : ∀ y : Str, ∀ c, List.lookup y [(("__class__" : Str), cc)] = some c → y = "__class__" := fun y c e => by
        by_cases hy : y = "__class__"
        · exact hy
        · have : (y == ("__class__" : Str)) = false := by simpa using hy
          simp [List.lookup, this] at e
      rw [hh x c e1, hh y c e2]
    · match i, e with
      | 0, e =>
        cases e
        exact ⟨cc, by simp [List.lookup], fun v hv => by cases hv; exact ⟨.ref C, rfl, _, hcell, rfl⟩⟩
  refine PySem.ks_codeAny_call_defAt (fd := ksFn "__init__" qual (eArgs a1 a2) (eBody msg fld z) scope .none .none doc pm an (.ref cda) ct cc) (body := eBody msg fld z) (binds := (["self", fld] : List Str).zip [.ref a, u2]) hr.depth (KX _ _ lk) rfl lim (PySem.W.codeRec_of KX O.code) rfl hb
    (fun y hy => O.sc.nocell y hy) (fun y hy => O.sc.par y.1 (List.of_mem_zip hy).1) (fun h₁ hns kp => ?_) O.sc.co O.sc.gen O.sc.kind
  have I := NdefX.inv_startN (CX := CX) (P := P) (w := w) (F := OwnE.F qual msg fld cc cda a1 a2 z scope) (f := fI) (A := A) (outer := outer) (H := H) (E := E) (us := [.ref a, u2]) (vs := [.ref a, v]) (ws := [some (.ref C)]) (tk := s.toks + 2) O.sc hr.hd e0 rfl (.cons rfl (.cons rv .nil)) hC0 hns kp
  show _root_.PySem.wpAt _ _ (.func (eBody msg fld z) (NdefX.envF (OwnE.F qual msg fld cc cda a1 a2 z scope) fI s.heap.objs.size)) (execs (eBody msg fld z) (NdefX.envF (OwnE.F qual msg fld cc cda a1 a2 z scope) fI s.heap.objs.size)) _ _ _
  obtain ⟨pl, hpl⟩ := B.he s.heap.objs.size
  refine PySem.ks_wpAt_execs_cons (PySem.ks_wpAt_Expr_any (PySem.ks_wpAt_MethodCall (pl := pl) ?_ hpl) (B.hi _) (B.sw _))
  refine PySem.ks_wpAt_super_base (of := ⟨oc, od, .func (ksFn "__init__" qual (eArgs a1 a2) (eBody msg fld z) scope .none .none doc pm an (.ref cda) ct cc), osl⟩) (ar := a1) (vs := vc) (tf := tf) O.scs (O.sc.frk _ (List.mem_cons_self ..)) (by decide) rfl (kp _ _ (KX _ _ lk)) rfl rfl rfl (kp _ _ (KX _ _ lc)) rfl hvs hfile O.top ?_
  refine PySem.W.ks_loadName_global O.sc.kind O.scs ?_
  obtain ⟨mb, b1, b2⟩ := I.mod.blt
  refine PySem.Calls.loadGlobal_builtin (by exact I.mod.glob.keeps I.bk) O.nosup (by exact b1.keeps I.bk) ((b2 "super" (by decide)).trans (show bootBuiltins "super" = some (.type "super") by kernel_rfl)) ⟨rfl, ?_⟩
  refine wpAny_loadName_free O.sc.kind (O.sc.frk _ (List.mem_cons_self ..)) rfl ⟨_, kp _ _ hcell, rfl⟩ ?_
  rw [O.arg1]
  refine wpAny_loadName_local O.sc.kind (O.sc.par "self" (List.mem_cons_self ..)) hns (v := .ref a) lk1 ?_
  obtain ⟨nmC, qC, NC, bs, bm, sn, sub, ab, col, dd, k0, k1, k2, k3, k5, hC, hbm⟩ := O.T.cls
  have hCls := I.kIn _ _ hC
  refine PySem.ks_wpAny_isType_cls hCls rfl ⟨rfl, ?_⟩
  obtain ⟨t1, hx⟩ := exo_at I.hok ha
  refine PySem.ks_wpAny_call_super hCls rfl hx rfl (fun c e => by cases e) (PySem.W.looks_mroIn I.kIn O.mroC) (fun h' hso k' => ?_)
  have I2 := I.kept (t' := s.toks + 2) k'
  have hx2 := k' _ _ hx
  have IA : PySem.W.InstAt h' a { cls := .ref C, dict := none, data := .fields #[.ref t1, .none, .none, .none, .bool false, .none] } C none := ⟨hx2, rfl, rfl, trivial⟩
  have hcd : PySem.W.clsIn K C = some { name := nmC, bases := bs, mro := .ref C :: bm, ns := NC, qualname := qC, hasDict := true, slotNames := sn, subclasses := sub, abstract := ab, collection := col, hasDel := false } := by unfold PySem.W.clsIn; rw [hC] <;> rfl
  have hsup := O.sup
  unfold PySem.W.ks_superIn at hsup
  rw [hcd] at hsup
  refine PySem.W.kxs_getMethod PySem.W.kxs_ValueError hso (PySem.W.looks_opaque I2.kIn O.third) (l₀ := .ref C :: bm) (fun A Q E s k q => wpAny_bind ((PySem.W.looks_clsIn I2.kIn hcd) A _ E s k (wpAny_pure q))) rfl I2.kIn hsup
    (IA.type.andThen (PySem.W.looks_subIn I2.kIn O.subV)) (PySem.W.ks_ne I2.kIn IA hcd) (by decide) ?_
  have I3 : L2.Inv _ _ _ _ _ := I2.kept (t' := s.toks + 3) (h' := h'.push (PySem.W.kxs_mw "ValueError.__init__" a)) (fun b u e => Heap.get?_push_of_some _ e)
  refine PySem.W.kxs_callWith (i := "ValueError.__init__") (x := a) (by rfl) (Calls.evalArgs_plain (Calls.spliced_cons (Calls.Constant_str (pos := z.p3) (k := z.k) (Calls.spliced_nil ⟨Heap.get?_push_size _ rfl, ?_⟩))))
  have hC3 := I3.kIn _ _ hC
  have hx3 : (h'.push (PySem.W.kxs_mw "ValueError.__init__" a)).get? a = some { cls := .ref C, dict := none, data := .fields #[.ref t1, .none, .none, .none, .bool false, .none] } := Heap.get?_push_of_some _ hx2
  have hu3 : (h'.push (PySem.W.kxs_mw "ValueError.__init__" a)).get? h'.objs.size = some (PySem.W.kxs_mw "ValueError.__init__" a) := Heap.get?_push_size _ rfl
  refine wpAny_call (codeAny_of_tree ?_)
  show wpAny _ _ (callAny (.ref h'.objs.size) ⟨_, []⟩) _ _ _
  simp only [callAny]
  refine wpAny_bind (wpAny_load hu3 ?_)
  simp only [PySem.W.kxs_mw, show (Value.type "method-wrapper" == Value.type "method" || Value.type "method-wrapper" == Value.type "builtin_function_or_method" || Value.type "method-wrapper" == Value.type "method-wrapper") = true by decide, if_true]
  refine PySem.W.KFB.if_so (by decide) ?_
  refine wpAny_bind (PySem.W.check_bound_init F.excBase_ValueError.toExcCallFacts hC3 hx3 rfl ?_)
  refine wpAny_bind (wpAny_pure (wpAny_pure ?_))
  refine ⟨plainId_quiet F.excBase_ValueError.init.plain _, codeAny_builtin F.excBase_ValueError.initEntry ?_⟩
  refine PySem.W.exc_init_tree (cls := .ref C) (t0 := t1) (dv := none) (c2 := .none) (c3 := .none) (b4 := .bool false) hx3 (by rw [sizeLine_eq]; exact (by decide : (1 : Nat) ≤ 16777216)) fun h4 k4 hx4 _ => ?_
  have I4 := I3.write (t' := s.toks + 4) (x := a) (e := a) (o := exo a C none) (by rw [ha]; exact True.intro) (.inl rfl) k4 ⟨_, hx4⟩ (exo_ok hx4)
  have eu : upd H a (exo a C none) = H := by
    funext b
    by_cases hb : b = a
    · rw [hb, upd_same, ha]
    · rw [upd_ne hb]
  rw [eu] at I4
  refine PySem.ks_wpAt_execs_cons (PySem.wpAt_of_wpAny ?_)
  have la : a < s.heap.objs.size := by
    obtain ⟨t0, hx0⟩ := exo_at e0.hok ha
    exact Heap.lt_size hx0
  have hns4 : h4.Ns s.heap.objs.size (fun x => List.lookup x ((["self", fld] : List Str).zip [Value.ref a, u2]).reverse) := by
    obtain ⟨oL, es, ep, hL, r⟩ := hns
    exact ⟨oL, es, ep, k4 _ _ (Nat.ne_of_gt la) (Heap.get?_push_of_some _ (k' _ _ hL)), r⟩
  refine plainObj_wpAny_Assign_Attribute (wpAny_Name (wpAny_loadName_local O.sc.kind (O.sc.par fld (List.mem_cons_of_mem _ (List.mem_cons_self ..))) hns4 (v := u2) lk2 (wpAny_Name (wpAny_loadName_local O.sc.kind (O.sc.par "self" (List.mem_cons_self ..)) hns4 (v := .ref a) lk1 (ost_new (X := NdefX.ncx CX P w K mg base ["self", fld, "__class__"] (OwnE.F qual msg fld cc cda a1 a2 z scope) fI A outer s H E) O.T I4 ha O.no rv fun dx s' n ne J => ?_)) (by decide))) O.dbg)
  show _root_.PySem.wpAt _ _ _ (execs [] _) _ _ _
  refine PySem.wpAt_of_wpAny (wpAny_execs_nil ?_)
  exact ⟨V.non, _, J.os, J.bare, J.base, J.hok, rfl, q dx n ne⟩
end
end TD

set_option Elab.async false
set_option linter.all false
set_option maxRecDepth 100000
set_option maxHeartbeats 4000000
namespace TD
open PySem PySem.Spec PyProof.Rows L2
/-- what is known of an own error: its class, its one field, its __init__ -/
structure Err (P : Program) (w : World) (K : PySem.W.Frag) (mg : Str → Option Value) (base : Heap) (nm fld : Str) : Prop where
  ex : ∃ (C fI : Addr) (fd : FuncData), mg nm = some (.ref C) ∧ OexC K C ∧ XCls K C fld ∧ PySem.W.findIn K (.ref C) "__init__" = some (some (.ref fI)) ∧ PySem.W.typeIn K (.ref fI) = some (.type "function") ∧
    FnOk P w K mg base (L2.CX P w) 1 fI fd ["self", fld] (spInit C fld) ∧ Binds K fd ["self", fld] []
def sRaise (nm fld : Str) (m : W → R (List D)) : W → RS := fun w => (m w).toS fun ds w' => match ds with
  | [d] => .exc ⟨nm, fld, d⟩ w'
  | _ => .stuck
section
variable {X : Cx} {Wx : WX} {fm : Fm}
theorem ss_raise {nm fld : Str} {e : Expr} {p pos pos2 : Pos} {m : W → R (List D)} (hc : X.calm = true) (tk : Takes X Wx) (O : Err X.prog X.w X.K X.mg X.base nm fld) (hr : Room 2 X.A) (hx : Passes (L2.CX X.prog X.w) X (fun _ _ _ => False)) (ha : SAs X Wx fm [e] m) (hg : Gl X nm := by rfl)
    (hdb : (nm == ("__debug__" : Str)) = false := by decide) (he : starEach (e :: []) X.env = (false, eval e X.env) :: starEach [] X.env := by rfl) (hpl : (backTo pos (starEach [] X.env)).any (·.1) = false := by rfl) :
    SSt X Wx fm (.Raise (some (.Call (.Name nm p) [e] [] pos)) none pos2) (sRaise nm fld m) := by
  refine ⟨?_⟩
  intro ex σ H F w D r q
  obtain ⟨C, fI, fd, gC, T, xK, iC, tI, F1, B1⟩ := O.ex
  refine WS.of (ps_raise hc tk (pmk_oex T iC tI F1 hr B1 .nil hx hg gC pa_wa hdb he hpl)) ?_
  show WA X [e] σ H _
  refine ha ex σ H F w _ r ((FinS.ofR q).imp fun ds w1 H1 F1 ⟨r1, e1, q1⟩ vs hv => ?_)
  match ds, q1, hv with
  | [d], q1, hv =>
    cases hv with
    | @cons v _ _ _ hv0 hv1 =>
      cases hv1
      refine ⟨by simp, fun a hna => ⟨a, v, rfl, upd_same, fun dx hdx hne => ⟨rfl, dx, [(fld, v)], upd_same, (upd_ne hne).trans upd_same, ?_, ?_⟩⟩⟩
      · rw [upd_ne hne] at hdx; exact hdx
      · have hd1 : H1 dx = none := by rw [upd_ne hne] at hdx; exact hdx
        have ng : fm.G dx = none := by
          cases e : fm.G dx with
          | none => rfl
          | some o =>
            have n : dx ≠ fm.a0 := fun z => by rw [z, r1.src.at0] at hd1; cases hd1
            rw [r1.gh dx o n e] at hd1; cases hd1
        have eH : upd (del (upd (upd (upd H1 a (exo a C none)) dx (exd dx [(fld, v)])) a (exo a C (some dx))) a) dx (.xd [(fld, v)]) = upd H1 dx (.xd [(fld, v)]) := by
          funext b
          by_cases hb : b = dx
          · subst hb; rw [upd_same, upd_same]
          · rw [upd_ne hb, upd_ne hb]
            by_cases hb2 : b = a
            · subst hb2; rw [del_same, hna]
            · rw [del_ne hb2, upd_ne hb2, upd_ne hb, upd_ne hb2]
        rw [eH]
        have g : Gr H1 F1 (upd H1 dx (.xd [(fld, v)])) F1 := ⟨Ex.new hd1, Ex.refl _, fun b o e => (Ex.new hd1) b o (r1.fh b o e), fun b o e => .inl e⟩
        exact q1 σ _ F1 (.ref C) (some dx) (Ex.refl _) (r1.gr g) ⟨C, dx, v, gC, rfl, rfl, upd_same, hv0, ng, xK⟩
end
end TD

set_option Elab.async false
set_option linter.all false
set_option maxRecDepth 100000
set_option maxHeartbeats 4000000
namespace TD
open PySem PySem.Spec PyProof.Rows L2
/-! ### try .. except C as x -/
def sLeave (i : Nat) : RS → RS
  | .nx w => .nx { w with env := (noX w.env).set i none }
  | .brk w => .brk { w with env := (noX w.env).set i none }
  | .cnt w => .cnt { w with env := (noX w.env).set i none }
  | .ret d w => .ret d { w with env := noX w.env }
  | _ => .stuck
def sTry (tab : Str → Option Bool) (i : Nat) (body suite : W → RS) : W → RS := fun w => match body w with
  | .exc c w1 => (match tab c.c with
    | some true => sLeave i (suite { w1 with env := (noX w1.env).set i (some (.exn c)) })
    | some false => .exc c w1
    | none => .stuck)
  | r => r
def sLeaveO : RS → RS
  | .nx w => .nx { w with env := noX w.env }
  | .brk w => .brk { w with env := noX w.env }
  | .cnt w => .cnt { w with env := noX w.env }
  | .ret d w => .ret d { w with env := noX w.env }
  | _ => .stuck
def sTryO (tab : Str → Option Bool) (body suite : W → RS) : W → RS := fun w => match body w with
  | .exc c w1 => (match tab c.c with
    | some true => sLeaveO (suite { w1 with env := noX w1.env })
    | some false => .exc c w1
    | none => .stuck)
  | r => r
/-- the classes of the law's errors: (class, class asked) ↦ is it under it -/
abbrev HxT := List ((Str × Str) × Bool)
def xT (hx : HxT) (y : Str) : Str → Option Bool := fun nm => hx.lookup (nm, y)
/-- the value cv is the class that y names -/
structure ClsV (K : PySem.W.Frag) (mg : Str → Option Value) (hx : HxT) (y : Str) (cv : Value) : Prop where
  exm : ∀ nm b C, xT hx y nm = some b → mg nm = some (.ref C) → PySem.W.exmOne K (.ref C) cv = some b
  kit : ∀ nm b C, xT hx y nm = some b → mg nm = some (.ref C) → PySem.W.kitOne K (.ref C) cv = some b
structure ClsK (K : PySem.W.Frag) (mg : Str → Option Value) (hx : HxT) (y : Str) : Prop where
  ex : ∃ T : Addr, mg y = some (.ref T) ∧ ClsV K mg hx y (.ref T)
structure ClsB (K : PySem.W.Frag) (mg : Str → Option Value) (hx : HxT) (y : Str) (T : String) : Prop where
  none : mg y = none
  kit : ∀ nm b C, xT hx y nm = some b → mg nm = some (.ref C) → PySem.W.kitOne K (.ref C) (.type T) = some b
/-- the suite's exception -/
structure InS (X : Cx) (fm : Fm) (oe : Obj) : Prop where
  z : Zc (.ref fm.xk) (some fm.xd) oe
  f : ∃ vs, oe.data = .fields vs
  g : X.mg fm.xc = some (.ref fm.xk)
section
variable {X : Cx} {Wx : WX} {fm : Fm}
theorem ss_try_as {i : Nat} {x n : Str} {body suite : List Stmt} {b₀ : Stmt} {np pos pos' : Pos} {hx : HxT} {mb ms : W → RS} (hs : X.stack = X.env :: X.outer) (hf : X.env.frame = some X.env.locals) (hN : X.N.Nodup) (hi : X.N[i]? = some n) (hln : X.env.kindOf n = some .local)
    (hc : ClsK X.K X.mg hx x) (hg : Gl X x) (hd : (x == ("__debug__" : Str)) = false) (tk : Takes X Wx)
    (hb : ∀ (Wt : WX) (pn : List (Addr × Obj)) (xe : Value → Shared → Prop), Takes (X.tr pn xe) Wt → PassesOwn (model X.prog X.w) X.A X.env xe → SSs (X.tr pn xe) Wt fm body mb)
    (hsu : ∀ (a d k : Addr) (c : Str) (oe : Obj) (pn : List (Addr × Obj)), InS X { fm with xa := a, xd := d, xc := c, xk := k } oe → SSs (X.suite a ((a, oe) :: pn)) W0 { fm with xa := a, xd := d, xc := c, xk := k } (b₀ :: suite) ms) :
    SSt X Wx fm (.Try body [.ExceptHandler (some (.Name x np)) (some n) (b₀ :: suite) pos'] [] [] pos) (sTry (xT hx x) i mb ms) := by
  obtain ⟨T, mT, cT⟩ := hc.ex
  refine ⟨?_⟩
  intro ex σ H F w D r q
  refine WS.of (ps_try_as (x := x) (c := .ref T) (i := i)
    (tb := fun Wt D σ H => ∀ (pn : List (Addr × Obj)) (xe : Value → Shared → Prop), Takes (X.tr pn xe) Wt → PassesOwn (model X.prog X.w) X.A X.env xe → WSs (X.tr pn xe) body D σ H)
    (ts := fun a cls d D σ H => ∀ (oe : Obj) (pn : List (Addr × Obj)), Zc cls d oe → (∃ vs, oe.data = .fields vs) → WSs (X.suite a ((a, oe) :: pn)) (b₀ :: suite) D σ H)
    hs hf hN hi hln ⟨hg, hd, .inl mT⟩ tk (fun Wt pn xe t p => ⟨fun pins s σ H D I h => h pn xe t p pins s I⟩) (fun a oe cls d pn hz hv => ⟨fun pins s σ H D I h => h oe pn hz hv pins s I⟩)) ?_
  intro pn xe t p
  refine hb _ pn xe t p ex σ H F w D r ?_
  revert q
  unfold sTry
  cases mb w with
  | nx w1 => exact fun q => q
  | brk w1 => exact fun q => q
  | cnt w1 => exact fun q => q
  | ret d w1 => exact fun q => q
  | stuck => exact fun q => q
  | exc c w1 =>
    intro q σ1 H1 F1 cls dd e1 r1 xi
    have r1 : Rel X.K fm ex σ1 H1 F1 w1 := r1
    obtain ⟨C, d, v, h1, h2, h3, h4, h5, h6, h7⟩ := id xi
    cases ht : xT hx x c.c with
    | none =>
      have q : FinS X Wx fm ex F D (match xT hx x c.c with
        | some true => sLeave i (ms { w1 with env := (noX w1.env).set i (some (.exn c)) })
        | some false => .exc c w1
        | none => .stuck) := q
      rw [ht] at q
      exact (show False from q).elim
    | some b =>
      refine ⟨b, ?_, fun hb1 a ha => ?_, fun hb0 => ?_⟩
      · rw [h2]; exact cT.exm _ _ _ ht h1
      · subst hb1
        have q : FinS X Wx fm ex F D (match xT hx x c.c with
          | some true => sLeave i (ms { w1 with env := (noX w1.env).set i (some (.exn c)) })
          | some false => .exc c w1
          | none => .stuck) := q
        rw [ht] at q
        have q : FinS X Wx fm ex F D (sLeave i (ms { w1 with env := (noX w1.env).set i (some (.exn c)) })) := q
        intro oe pn hz hv
        rw [h2, h3] at hz
        obtain ⟨F2, e2, h8, r2⟩ := (r1.enter a d c.c C).frzX h4 h6
        have r3 := r2.setX i (c := c) (vv := v) rfl h7 h8 (h5.ex e2)
        refine (hsu a d C c.c oe pn ⟨hz, hv, h1⟩) ex _ H1 F2 _ _ r3 ?_
        have eF : Ex F F2 := e1.trans e2
        revert q
        cases ms { w1 with env := (noX w1.env).set i (some (.exn c)) } with
        | nx w2 => exact fun q σ' H' F' e r => q _ H' F' (eF.trans e) (r.leave.setNone i none)
        | brk w2 => exact fun q σ' H' F' e r => q _ H' F' (eF.trans e) (r.leave.setNone i none)
        | cnt w2 => exact fun q σ' H' F' e r => q _ H' F' (eF.trans e) (r.leave.setNone i none)
        | ret d w2 => exact fun q v σ' H' F' e r k => q v σ' H' F' (eF.trans e) r.leave k
        | exc c w2 => exact fun q => (show False from q).elim
        | stuck => exact fun q => (show False from q).elim
      · subst hb0
        have q : FinS X Wx fm ex F D (match xT hx x c.c with
          | some true => sLeave i (ms { w1 with env := (noX w1.env).set i (some (.exn c)) })
          | some false => .exc c w1
          | none => .stuck) := q
        rw [ht] at q
        have q : FinS X Wx fm ex F D (.exc c w1) := q
        exact q σ1 H1 F1 cls dd e1 r1 xi
theorem ss_try_only {x : Str} {body suite : List Stmt} {b₀ : Stmt} {np pos pos' : Pos} {hx : HxT} {mb ms : W → RS} (hs : X.stack = X.env :: X.outer) (hf : X.env.frame = some X.env.locals)
    (hc : ClsK X.K X.mg hx x) (hg : Gl X x) (hd : (x == ("__debug__" : Str)) = false) (tk : Takes X Wx)
    (hb : ∀ (Wt : WX) (pn : List (Addr × Obj)) (xe : Value → Shared → Prop), Takes (X.tr pn xe) Wt → PassesOwn (model X.prog X.w) X.A X.env xe → SSs (X.tr pn xe) Wt fm body mb)
    (hsu : ∀ (a d k : Addr) (c : Str) (oe : Obj) (pn : List (Addr × Obj)), InS X { fm with xa := a, xd := d, xc := c, xk := k } oe → SSs (X.suite a ((a, oe) :: pn)) W0 { fm with xa := a, xd := d, xc := c, xk := k } (b₀ :: suite) ms) :
    SSt X Wx fm (.Try body [.ExceptHandler (some (.Name x np)) none (b₀ :: suite) pos'] [] [] pos) (sTryO (xT hx x) mb ms) := by
  obtain ⟨T, mT, cT⟩ := hc.ex
  refine ⟨?_⟩
  intro ex σ H F w D r q
  refine WS.of (ps_try_only (x := x) (c := .ref T)
    (tb := fun Wt D σ H => ∀ (pn : List (Addr × Obj)) (xe : Value → Shared → Prop), Takes (X.tr pn xe) Wt → PassesOwn (model X.prog X.w) X.A X.env xe → WSs (X.tr pn xe) body D σ H)
    (ts := fun a cls d D σ H => ∀ (oe : Obj) (pn : List (Addr × Obj)), Zc cls d oe → (∃ vs, oe.data = .fields vs) → WSs (X.suite a ((a, oe) :: pn)) (b₀ :: suite) D σ H)
    hs hf ⟨hg, hd, .inl mT⟩ tk (fun Wt pn xe t p => ⟨fun pins s σ H D I h => h pn xe t p pins s I⟩) (fun a oe cls d pn hz hv => ⟨fun pins s σ H D I h => h oe pn hz hv pins s I⟩)) ?_
  intro pn xe t p
  refine hb _ pn xe t p ex σ H F w D r ?_
  revert q
  unfold sTryO
  cases mb w with
  | nx w1 => exact fun q => q
  | brk w1 => exact fun q => q
  | cnt w1 => exact fun q => q
  | ret d w1 => exact fun q => q
  | stuck => exact fun q => q
  | exc c w1 =>
    intro q σ1 H1 F1 cls dd e1 r1 xi
    have r1 : Rel X.K fm ex σ1 H1 F1 w1 := r1
    obtain ⟨C, d, v, h1, h2, h3, h4, h5, h6, h7⟩ := id xi
    have q : FinS X Wx fm ex F D (match xT hx x c.c with
        | some true => sLeaveO (ms { w1 with env := noX w1.env })
        | some false => .exc c w1
        | none => .stuck) := q
    cases ht : xT hx x c.c with
    | none =>
      rw [ht] at q
      exact (show False from q).elim
    | some b =>
      refine ⟨b, ?_, fun hb1 a ha => ?_, fun hb0 => ?_⟩
      · rw [h2]; exact cT.exm _ _ _ ht h1
      · subst hb1
        rw [ht] at q
        have q : FinS X Wx fm ex F D (sLeaveO (ms { w1 with env := noX w1.env })) := q
        intro oe pn hz hv
        rw [h2, h3] at hz
        refine (hsu a d C c.c oe pn ⟨hz, hv, h1⟩) ex _ H1 F1 _ _ (r1.enter a d c.c C) ?_
        revert q
        cases ms { w1 with env := noX w1.env } with
        | nx w2 => exact fun q σ' H' F' e r => q _ H' F' (e1.trans e) r.leave
        | brk w2 => exact fun q σ' H' F' e r => q _ H' F' (e1.trans e) r.leave
        | cnt w2 => exact fun q σ' H' F' e r => q _ H' F' (e1.trans e) r.leave
        | ret d w2 => exact fun q v σ' H' F' e r k => q v σ' H' F' (e1.trans e) r.leave k
        | exc c w2 => exact fun q => (show False from q).elim
        | stuck => exact fun q => (show False from q).elim
      · subst hb0
        rw [ht] at q
        have q : FinS X Wx fm ex F D (.exc c w1) := q
        exact q σ1 H1 F1 cls dd e1 r1 xi
/-! ### in the suite -/
def mExf (i : Nat) (f : Str) : W → R D := fun w => match w.env[i]? with
  | some (some (.exn c)) => if c.f = f then .ok c.d w else .stuck
  | _ => .stuck
theorem se_exf {oe : Obj} {pn : List (Addr × Obj)} {i : Nat} {x f : Str} {p pos : Pos} (h : InS X fm oe) (hN : X.N[i]? = some x := by rfl) (hv : Vis X.env.scope x := by first | exact Or.inl rfl | exact Or.inr (Or.inl rfl) | exact Or.inr (Or.inr rfl)) (hd : (x == ("__debug__" : Str)) = false := by decide)
    (hcd : (x == ("__classdict__" : Str)) = false := by decide) (hb : attributeBase (.Name x p) f X.env (eval (.Name x p) X.env) = eval (.Name x p) X.env := by rfl) : SE (X.suite fm.xa ((fm.xa, oe) :: pn)) Wx fm (.Attribute (.Name x p) f pos) (mExf i f) := by
  refine ⟨?_⟩
  intro ex σ H F w Q r q
  revert q
  unfold mExf
  split
  · rename_i c hc
    by_cases hf : c.f = f
    · rw [if_pos hf]
      intro q
      obtain ⟨v, e, rfl, k1, k2, vv, k3, k4⟩ := r.slot i _ hc
      subst hf
      refine WE.of (pe_xf (X := X) (C := fm.xk) ⟨k2.ga, k2.gg, k2.exC, k2.hdC⟩ k2.no h.z h.f (pe_var (X := X.suite fm.xa ((fm.xa, oe) :: pn)) hN hv hd hcd) hb) ?_
      refine ⟨_, e, rfl, rfl, fm.xd, _, vv, rfl, r.fh _ _ k3, by simp [List.lookup], ?_⟩
      exact q H F Kp.refl (Ex.refl _) r vv k4
    · rw [if_neg hf]
      exact fun q => (show False from q).elim
  · exact fun q => (show False from q).elim
/-- isinstance(x, C) -/
def rIsX (K : PySem.W.Frag) (D a d : Addr) (P : V → Prop) : List V → Hp → VK → Prop := fun xs H Q => ∃ (c : V) (b : Bool), xs = [.ref a, c] ∧ (∃ fs, H d = some (.xd fs)) ∧ ((∃ cv : Value, (∀ u, RelV c u → u = cv) ∧ PySem.W.kitOne K (.ref D) cv = some b) ∨
  ∃ (p : Addr) (vs : List V) (cvs : List Value), c = .ref p ∧ SqT K H p vs ∧ (∀ us, Vals vs us → us = cvs) ∧ PySem.W.kitAny K (.ref D) cvs = some b) ∧ Q (.bl b) H
theorem call_isX {oe : Obj} {pn : List (Addr × Obj)} {f : Str} (C : XCls X.K fm.xk f) (h : InS X fm oe) : CallR (X.suite fm.xa ((fm.xa, oe) :: pn)) (.builtin "isinstance") (rIsX X.K fm.xk fm.xa fm.xd fun _ => True) := by
  intro pins s σ H xs us Q I r hh
  obtain ⟨c, b, rfl, ⟨fs, hd⟩, alt, q⟩ := hh
  cases r with
  | cons rx rr =>
    cases rr with
    | cons rt rr =>
      cases rr
      cases rx
      obtain ⟨hget, _⟩ := I.pin (fm.xa, oe) (List.mem_append.mpr (.inl List.mem_cons_self))
      obtain ⟨vs, hv⟩ := h.f
      have hxo : ObjOk X.prog X.w H s.heap fm.xd (.xd fs) := I.hok fm.xd _ hd
      obtain ⟨mA, hns, hr⟩ := hxo
      obtain ⟨oL, ho, hns2⟩ := lookIn_ns hns
      have J : PySem.W.InstAt s.heap fm.xa oe fm.xk (some oL) := ⟨hget, h.z.1, by unfold PySem.W.notCls; rw [hv] <;> rfl, by rw [h.z.2]; exact ho⟩
      obtain ⟨cd, hcd, _⟩ := PySem.W.any_some C.hdC
      have Z := PySem.W.kitx_exc (K := X.K) (x := fm.xa) (C := fm.xk) (ox := oe) (od := some oL) (by rw [hcd]; rfl) C.ga C.gg C.exC C.cl C.sp C.tk C.mo
      rcases alt with ⟨cv, hcv, e⟩ | ⟨p, vs, cvs, rfl, hq, hcv, e⟩
      · have ec := hcv _ rt
        subst ec
        exact PySem.W.kia_one Z I.kIn J e (fun z => nomatch z) fun tk => ⟨.bl b, H, I.kept (t' := tk) fun _ _ z => z, rfl, q⟩
      · cases rt
        obtain ⟨its, rr2, ht, hz⟩ := I.tuple hq
        obtain ⟨dd, n, sl, hg2⟩ : ∃ dd n sl, s.heap.get? p = some ⟨.type "tuple", dd, .seq its.toArray n, sl⟩ := by
          obtain ⟨⟨oc, od, odt, osl⟩, h1, h2, n, h3⟩ := ht
          dsimp only at h2 h3
          subst h2 h3
          exact ⟨_, _, _, h1⟩
        have ec := hcv _ rr2
        subst ec
        exact PySem.W.kia_tup Z I.kIn J hg2 e (fun z => nomatch z) fun tk => ⟨.bl b, H, I.kept (t' := tk) fun _ _ z => z, rfl, q⟩
def mIsX (i : Nat) (t : Str → Option Bool) : W → R D := fun w => match w.env[i]? with
  | some (some (.exn c)) => R.lift ((t c.c).map D.bl) w
  | _ => .stuck
def anyX : List (Str → Option Bool) → Str → Option Bool
  | [], _ => some false
  | t :: r, c => match t c with
    | some true => some true
    | some false => anyX r c
    | none => none
theorem se_isX {oe : Obj} {pn : List (Addr × Obj)} {i : Nat} {x y : Str} {hx : HxT} {p p1 p2 pos : Pos} (h : InS X fm oe) (hm : X.mg "isinstance" = none) (hc : ClsK X.K X.mg hx y) (hN : X.N[i]? = some x := by rfl)
    (hv : Vis X.env.scope x := by first | exact Or.inl rfl | exact Or.inr (Or.inl rfl) | exact Or.inr (Or.inr rfl)) (hd : (x == ("__debug__" : Str)) = false := by decide) (hcd : (x == ("__classdict__" : Str)) = false := by decide)
    (hg : Gl X "isinstance" := by rfl) (hgy : Gl X y := by rfl) (hdy : (y == ("__debug__" : Str)) = false := by decide) (he : starEach [.Name x p1, .Name y p2] X.env = (false, eval (.Name x p1) X.env) :: starEach [.Name y p2] X.env := by rfl)
    (he2 : starEach [.Name y p2] X.env = (false, eval (.Name y p2) X.env) :: starEach [] X.env := by rfl) (hpl : (backTo pos (starEach [.Name y p2] X.env)).any (·.1) = false := by rfl) :
    SE (X.suite fm.xa ((fm.xa, oe) :: pn)) Wx fm (.Call (.Name "isinstance" p) [.Name x p1, .Name y p2] [] pos) (mIsX i (xT hx y)) := by
  obtain ⟨T, mT, cT⟩ := hc.ex
  refine ⟨?_⟩
  intro ex σ H F w Q r q
  revert q
  unfold mIsX
  split
  · rename_i c hc
    intro q
    obtain ⟨v, e, rfl, k1, k2, vv, k3, k4⟩ := r.slot i _ hc
    have k1 : c.c = fm.xc := k1
    refine WE.of (pe_callB (X := X.suite fm.xa ((fm.xa, oe) :: pn)) (call_isX k2 h) hg hm (by decide +kernel) (pa_cons (pe_var (X := X.suite fm.xa ((fm.xa, oe) :: pn)) hN hv hd hcd) (pa_cons (pe_glob (X := X.suite fm.xa ((fm.xa, oe) :: pn)) (v := .ref T) hgy mT rfl hdy) pa_nil he2) he) (by decide) (by decide) he hpl) ?_
    obtain ⟨z, hz, q2⟩ := q.lift
    cases ht : xT hx y c.c with
    | none => rw [ht] at hz; cases hz
    | some b =>
      rw [ht] at hz
      cases hz
      exact ⟨_, e, .ref T, b, rfl, ⟨_, r.fh _ _ k3⟩, .inl ⟨.ref T, fun u hu => hu, cT.kit _ _ _ ht (by rw [k1]; exact h.g)⟩, q2 H F Kp.refl (Ex.refl _) r _ (.bl b)⟩
  · exact fun q => (show False from q).elim
theorem se_isXB {oe : Obj} {pn : List (Addr × Obj)} {i : Nat} {x y : Str} {T : String} {hx : HxT} {p p1 p2 pos : Pos} (h : InS X fm oe) (hm : X.mg "isinstance" = none) (hc : ClsB X.K X.mg hx y T) (hby : bootBuiltins y = some (.type T)) (hN : X.N[i]? = some x := by rfl)
    (hv : Vis X.env.scope x := by first | exact Or.inl rfl | exact Or.inr (Or.inl rfl) | exact Or.inr (Or.inr rfl)) (hd : (x == ("__debug__" : Str)) = false := by decide) (hcd : (x == ("__classdict__" : Str)) = false := by decide)
    (hg : Gl X "isinstance" := by rfl) (hgy : Gl X y := by rfl) (hny : y ≠ "__name__" := by decide) (hdy : (y == ("__debug__" : Str)) = false := by decide) (he : starEach [.Name x p1, .Name y p2] X.env = (false, eval (.Name x p1) X.env) :: starEach [.Name y p2] X.env := by rfl)
    (he2 : starEach [.Name y p2] X.env = (false, eval (.Name y p2) X.env) :: starEach [] X.env := by rfl) (hpl : (backTo pos (starEach [.Name y p2] X.env)).any (·.1) = false := by rfl) :
    SE (X.suite fm.xa ((fm.xa, oe) :: pn)) Wx fm (.Call (.Name "isinstance" p) [.Name x p1, .Name y p2] [] pos) (mIsX i (xT hx y)) := by
  refine ⟨?_⟩
  intro ex σ H F w Q r q
  revert q
  unfold mIsX
  split
  · rename_i c hc'
    intro q
    obtain ⟨v, e, rfl, k1, k2, vv, k3, k4⟩ := r.slot i _ hc'
    have k1 : c.c = fm.xc := k1
    refine WE.of (pe_callB (X := X.suite fm.xa ((fm.xa, oe) :: pn)) (call_isX k2 h) hg hm (by decide +kernel) (pa_cons (pe_var (X := X.suite fm.xa ((fm.xa, oe) :: pn)) hN hv hd hcd) (pa_cons (pe_bltn (X := X.suite fm.xa ((fm.xa, oe) :: pn)) (v := .ty T) hgy hc.none hby rfl hny hdy) pa_nil he2) he) (by decide) (by decide) he hpl) ?_
    obtain ⟨z, hz, q2⟩ := q.lift
    cases ht : xT hx y c.c with
    | none => rw [ht] at hz; cases hz
    | some b =>
      rw [ht] at hz
      cases hz
      exact ⟨_, e, .ty T, b, rfl, ⟨_, r.fh _ _ k3⟩, .inl ⟨.type T, fun u hu => hu, hc.kit _ _ _ ht (by rw [k1]; exact h.g)⟩, q2 H F Kp.refl (Ex.refl _) r _ (.bl b)⟩
  · exact fun q => (show False from q).elim
inductive ClsN (X : Cx) (hx : HxT) : List Expr → List (Str → Option Bool) → Prop
  | nil : ClsN X hx [] []
  | cons {y : Str} {p : Pos} {es : List Expr} {ts : List (Str → Option Bool)} (h : ClsK X.K X.mg hx y) (hg : Gl X y) (hd : (y == ("__debug__" : Str)) = false) (r : ClsN X hx es ts) : ClsN X hx (.Name y p :: es) (xT hx y :: ts)
theorem ClsN.pa {hx : HxT} {a : Addr} {pn : List (Addr × Obj)} : ∀ {es : List Expr} {ts : List (Str → Option Bool)}, ClsN X hx es ts → ∃ (Ts : List Addr) (t : TA), Ts.length = es.length ∧ PA (X.suite a pn) es t ∧ (∀ σ H Q, Q (Ts.map V.ref) H → t σ H Q) ∧
    ∀ nm b C, anyX ts nm = some b → X.mg nm = some (.ref C) → PySem.W.kitAny X.K (.ref C) (Ts.map Value.ref) = some b
  | _, _, .nil => ⟨[], _, rfl, pa_nil, fun _ _ _ h => h, fun nm b C h _ => h⟩
  | _, _, .cons (y := y) (es := es) h hg hd r => by
    obtain ⟨Ts, t, h0, h1, h2, h3⟩ := r.pa (a := a) (pn := pn)
    obtain ⟨T, mT, cT⟩ := h.ex
    refine ⟨T :: Ts, _, by simp [h0], pa_cons (pe_glob (X := X.suite a pn) (v := .ref T) hg mT rfl hd) h1 rfl, fun σ H Q q => h2 σ H _ q, fun nm b C e m => ?_⟩
    have e : (match xT hx y nm with
      | some true => some true
      | some false => anyX _ nm
      | none => none) = some b := e
    show PySem.W.kitAny X.K (.ref C) (.ref T :: Ts.map Value.ref) = some b
    unfold PySem.W.kitAny
    cases ht : xT hx y nm with
    | none => rw [ht] at e; cases e
    | some c =>
      rw [cT.kit _ _ _ ht m]
      rw [ht] at e
      cases c with
      | true => exact e
      | false => exact h3 nm b C e m
theorem vals_refs : ∀ (Ts : List Addr) (us : List Value), Vals (Ts.map V.ref) us → us = Ts.map Value.ref
  | [], us, h => by cases h; rfl
  | T :: Ts, us, h => by
    cases h with
    | cons hu h =>
      rw [vals_refs Ts _ h, List.map_cons]
      exact congrArg (· :: _) hu
theorem se_isXT {oe : Obj} {pn : List (Addr × Obj)} {i k : Nat} {x : Str} {hx : HxT} {es : List Expr} {ts : List (Str → Option Bool)} {p p1 p2 pos : Pos} (h : InS X fm oe) (hm : X.mg "isinstance" = none) (hc : ClsN X hx es ts) (hlen : es.length ≤ 1000000) (hN : X.N[i]? = some x := by rfl)
    (hv : Vis X.env.scope x := by first | exact Or.inl rfl | exact Or.inr (Or.inl rfl) | exact Or.inr (Or.inr rfl)) (hd : (x == ("__debug__" : Str)) = false := by decide) (hcd : (x == ("__classdict__" : Str)) = false := by decide)
    (hg : Gl X "isinstance" := by rfl) (he : starEach [.Name x p1, .Tuple es k p2] X.env = (false, eval (.Name x p1) X.env) :: starEach [.Tuple es k p2] X.env := by rfl)
    (he2 : starEach [.Tuple es k p2] X.env = (false, eval (.Tuple es k p2) X.env) :: starEach [] X.env := by rfl) (hpl : (backTo pos (starEach [.Tuple es k p2] X.env)).any (·.1) = false := by rfl) :
    SE (X.suite fm.xa ((fm.xa, oe) :: pn)) Wx fm (.Call (.Name "isinstance" p) [.Name x p1, .Tuple es k p2] [] pos) (mIsX i (anyX ts)) := by
  obtain ⟨Ts, t, h0, h1, h2, h3⟩ := hc.pa (a := fm.xa) (pn := (fm.xa, oe) :: pn)
  refine ⟨?_⟩
  intro ex σ H F w Q r q
  revert q
  unfold mIsX
  split
  · rename_i c hc'
    intro q
    obtain ⟨v, e, rfl, k1, k2, vv, k3, k4⟩ := r.slot i _ hc'
    have k1 : c.c = fm.xc := k1
    refine WE.of (pe_callB (X := X.suite fm.xa ((fm.xa, oe) :: pn)) (call_isX k2 h) hg hm (by decide +kernel) (pa_cons (pe_var (X := X.suite fm.xa ((fm.xa, oe) :: pn)) hN hv hd hcd) (pa_cons (pe_tup h1) pa_nil he2) he) (by decide) (by decide) he hpl) ?_
    obtain ⟨z, hz, q2⟩ := q.lift
    cases ht : anyX ts c.c with
    | none => rw [ht] at hz; cases hz
    | some b =>
      rw [ht] at hz
      cases hz
      refine ⟨_, e, h2 _ _ _ ⟨?_, fun tp htp => ?_⟩⟩
      · rw [List.length_map, h0]
        exact line_of hlen
      · have g : Gr H F (upd H tp (.tup (Ts.map V.ref))) F := Gr.dark r.fh htp
        exact ⟨.ref tp, b, rfl, ⟨_, g.hh _ _ (r.fh _ _ k3)⟩, .inr ⟨tp, _, _, rfl, .inl (.inl upd_same), vals_refs Ts, h3 _ _ _ ht (by rw [k1]; exact h.g)⟩, q2 _ _ g.kp g.ff (r.gr g) _ (.bl b)⟩
  · exact fun q => (show False from q).elim
end
end TD

set_option Elab.async false
set_option linter.all false
set_option maxRecDepth 100000
set_option maxHeartbeats 4000000
namespace TD
open PySem PySem.Spec PyProof.Rows L2 He
open PySem.W (findIn typeIn subIn mroIn nsIn keepIn codeIn hasDictIn specialIn takesIn ks_superIn exmOne kitOne ksFn)
/-! ### the head's facts of own errors -/
structure ErrD where
  nm : Str
  qual : Str
  fld : Str
  params : Arguments
  body : List Stmt
  scope : Scope
abbrev FnI : Type := Option (Str × Str × Arguments × FuncBody × Scope × Addr × List Str × Addr)
def iAd (K : PySem.W.Frag) (x : Str) : Addr := ma K (ga K x) "__init__"
def fnI (K : PySem.W.Frag) (x : Str) : FnI := match K.lookup (iAd K x) with
  | some ⟨_, _, .func fd, _⟩ => some (fd.name, fd.qualname, fd.params, fd.body, fd.scope, fd.globals, fd.closure.map (·.1), fd.builtins)
  | _ => none
def ErrD.val (d : ErrD) : FnI := some (("__init__" : Str), d.qual, d.params, FuncBody.stmts d.body, d.scope, mainGlobals, [("__class__" : Str)], builtinsNs)
def oexB (K : PySem.W.Frag) (C : Addr) : Bool := match K.lookup C with
  | some ⟨.type "type", _, .cls cd, sl⟩ => (match cd.mro, sl.toList with
    | .ref C' :: bm, [_, _, _, _, some (.builtin n), _] => C' == C && n == "ValueError.__new__" && !cd.hasDel && cd.hasDict && PySem.HandSPX.refsVE bm
    | _, _ => false)
  | _ => false
theorem oexB_ok {K : PySem.W.Frag} {C : Addr} (q : oexB K C = true) : ∃ nm q N bs bm sn sub ab col dd k0 k1 k2 k3 k5, K.lookup C = some (excClassObj nm q C N bs bm true sn sub ab col dd k0 k1 k2 k3 k5 "ValueError.__new__") ∧ PySem.HandSPX.refsVE bm = true := by
  unfold oexB at q
  split at q
  · rename_i dd cd sl ho
    split at q
    · rename_i C' bm k0 k1 k2 k3 n k5 hm hs
      simp only [Bool.and_eq_true, beq_iff_eq, Bool.not_eq_true'] at q
      obtain ⟨⟨⟨⟨rfl, rfl⟩, hdel⟩, hd'⟩, ht⟩ := q
      obtain ⟨nm, bs, mro, ns, qn, hd, sn, sub, ab, col, del⟩ := cd
      dsimp only at hm hdel hd'
      subst hm hdel hd'
      have hsl : sl = #[k0, k1, k2, k3, some (.builtin "ValueError.__new__"), k5] := by
        obtain ⟨l⟩ := sl
        simp only at hs
        rw [hs]
      subst hsl
      exact ⟨nm, qn, ns, bs, bm, sn, sub, ab, col, dd, k0, k1, k2, k3, k5, ho, ht⟩
    · cases q
  · cases q
def xclsB (K : PySem.W.Frag) (C : Addr) (f : Str) : Bool :=
  eqO (findIn K (.ref C) "__getattribute__") (some (some (.builtin "BaseException.__getattribute__"))) && (eqO (findIn K (.ref C) "__getattr__") (some none) && (decide (subIn K (.ref C) (.type "BaseException") = some true) && (hasDictIn K C && (eqO (findIn K (.ref C) f) (some none) &&
  (eqO (findIn K (.ref C) "__class__") (some (some (.builtin "object.__class__"))) && (eqO (specialIn K (.builtin "object.__class__") "__get__") (some (some (.builtin "getset_descriptor.__get__"))) && (decide (takesIn K (.builtin "object.__class__") = some true) && decide (mroIn K C (.type "object") = some true))))))))
theorem xclsB_ok {K : PySem.W.Frag} {C : Addr} {f : Str} (h : xclsB K C f = true) : XCls K C f := by
  obtain ⟨h1, h⟩ := ba h
  obtain ⟨h2, h⟩ := ba h
  obtain ⟨h3, h⟩ := ba h
  obtain ⟨h4, h⟩ := ba h
  obtain ⟨h5, h⟩ := ba h
  obtain ⟨h6, h⟩ := ba h
  obtain ⟨h7, h⟩ := ba h
  obtain ⟨h8, h9⟩ := ba h
  exact ⟨eqO_ok h1, eqO_ok h2, of_decide_eq_true h3, h4, eqO_ok h5, eqO_ok h6, eqO_ok h7, of_decide_eq_true h8, of_decide_eq_true h9⟩
def isN : Value → Bool
  | .none => true
  | _ => false
theorem isN_ok {v : Value} (h : isN v = true) : v = .none := by cases v <;> first | rfl | cases h
def cellB (K : PySem.W.Frag) (cc C : Addr) : Bool := match K.lookup cc with
  | some ⟨_, _, .cell (some (.ref C')), _⟩ => C' == C
  | _ => false
theorem cellB_ok {K : PySem.W.Frag} {cc C : Addr} (h : cellB K cc C = true) : ∃ (cl : Value) (cld : Option Addr) (csl : Array (Option Value)), K.lookup cc = some ⟨cl, cld, .cell (some (.ref C)), csl⟩ := by
  unfold cellB at h
  split at h
  · rename_i e
    rw [beq_iff_eq.mp h] at e
    exact ⟨_, _, _, e⟩
  · cases h
def cdoB (K : PySem.W.Frag) (file : Str) (cda : Addr) : Bool := match K.lookup cda with
  | some ⟨_, _, .fields vs, _⟩ => (match (vs[2]? : Option Value) with
    | some (Value.str f _) => file == f
    | _ => false)
  | _ => false
theorem cdoB_ok {K : PySem.W.Frag} {file : Str} {cda : Addr} (h : cdoB K file cda = true) : ∃ (ccl : Value) (cdd : Option Addr) (vs : Array Value) (ccs : Array (Option Value)) (f : Str) (tf : Tok), K.lookup cda = some ⟨ccl, cdd, .fields vs, ccs⟩ ∧ vs[2]? = some (.str f tf) ∧ (file == f) = true := by
  unfold cdoB at h
  split at h
  · rename_i e
    split at h
    · rename_i e2
      exact ⟨_, _, _, _, _, _, e, e2, h⟩
    · cases h
  · cases h
def initC (K : PySem.W.Frag) (file : Str) (d : ErrD) (cl : List (Str × Addr)) (code df kw : Value) : Bool := match cl, code with
  | [(_, cc)], .ref cda => isN df && (isN kw && (codeIn K code d.qual && (cellB K cc (ga K d.nm) && cdoB K file cda)))
  | _, _ => false
def initB (K : PySem.W.Frag) (file : Str) (d : ErrD) : Bool := match K.lookup (iAd K d.nm) with
  | some ⟨_, _, .func fd, _⟩ => initC K file d fd.closure fd.code fd.defaults fd.kwdefaults
  | _ => false
def errB (file : Str) (K : PySem.W.Frag) (d : ErrD) : Bool :=
  eqO (nsIn K mainGlobals d.nm) (some (some (.ref (ga K d.nm)))) && (oexB K (ga K d.nm) && (eqO (findIn K (.ref (ga K d.nm)) "__setattr__") (some (some (.builtin "object.__setattr__"))) && (decide (typeIn K (.ref (ga K d.nm)) = some (.type "type")) && (keepIn K (.ref (ga K d.nm)) && (xclsB K (ga K d.nm) d.fld &&
  (eqO (findIn K (.ref (ga K d.nm)) "__init__") (some (some (.ref (iAd K d.nm)))) && (decide (typeIn K (.ref (iAd K d.nm)) = some (.type "function")) && (initB K file d && (eqO (ks_superIn K (ga K d.nm) (ga K d.nm) "__init__") (some (some (.builtin "ValueError.__init__"))) &&
  (decide (subIn K (.ref (ga K d.nm)) (.type "ValueError") = some true) && (decide (mroIn K (ga K d.nm) (.ref (ga K d.nm)) = some true) && eqO (nsIn K cStatics "thirdparty.any") (some none))))))))))))
theorem init_ok {K : PySem.W.Frag} {file : Str} {d : ErrD} (c : initB K file d = true) (e : fnI K d.nm = d.val) : ∃ (cc cda : Addr), (∃ (oc : Value) (od : Option Addr) (doc pm : Value) (an : Option Addr) (ct : Value) (osl : Array (Option Value)), K.lookup (iAd K d.nm) = some ⟨oc, od, .func (ksFn "__init__" d.qual d.params d.body d.scope .none .none doc pm an (.ref cda) ct cc), osl⟩) ∧
    codeIn K (.ref cda) d.qual = true ∧ cellB K cc (ga K d.nm) = true ∧ cdoB K file cda = true := by
  unfold initB at c
  unfold fnI at e
  cases q : K.lookup (iAd K d.nm) with
  | none => rw [q] at c; cases c
  | some o =>
    obtain ⟨oc, od, dt, osl⟩ := o
    rw [q] at c e
    cases dt with
    | func fd =>
      obtain ⟨n1, n2, n3, n4, n5, n6, n7, n8, n9, n10, n11, n12, n13, n14, n15⟩ := fd
      have e2 : (some (n1, n2, n3, n4, n5, n6, n7.map (·.1), n15) : FnI) = some (("__init__" : Str), d.qual, d.params, FuncBody.stmts d.body, d.scope, mainGlobals, [("__class__" : Str)], builtinsNs) := e
      simp only [Option.some.injEq, Prod.mk.injEq] at e2
      obtain ⟨h1, h2, h3, h4, h5, h6, h7, h8⟩ := e2
      subst h1 h2 h3 h4 h5 h6 h8
      have c : initC K file d n7 n13 n8 n9 = true := c
      unfold initC at c
      split at c
      · rename_i fst cc cda _
        obtain ⟨k1, c⟩ := ba c
        obtain ⟨k2, c⟩ := ba c
        obtain ⟨k3, c⟩ := ba c
        obtain ⟨k4, k5⟩ := ba c
        have k1 := isN_ok k1
        have k2 := isN_ok k2
        subst k1 k2
        have hx : fst = ("__class__" : Str) := by simpa using h7
        subst hx
        exact ⟨cc, cda, ⟨_, _, _, _, _, _, _, rfl⟩, k3, k4, k5⟩
      · cases c
    | _ => cases c
/-- what the words of an own error's __init__ must be -/
structure ErrW (P : Program) (file : Str) (d : ErrD) (msg : Str) (a1 a2 : PySem.Arg) (z : EPos) : Prop where
  par : d.params = eArgs a1 a2
  bdy : d.body = eBody msg d.fld z
  arg1 : a1.arg = "self"
  arg2 : a2.arg = d.fld
  sc : NdefX.NScope ["self", d.fld, "__class__"] ["self", d.fld] ["__class__"] d.scope
  dbg : (d.fld == ("__debug__" : Str)) = false
  scs : d.scope.names.lookup ("super" : Str) = some .globalImplicit
  file : P.main.file = file
  top : (P.main.scope.names.lookup ("super" : Str)).isSome = false
  B : ∀ fI cc cda : Addr, OwnB d.qual msg d.fld fI cc cda a1 a2 z d.scope
theorem err_ok {P : Program} {w : World} {K : PySem.W.Frag} {h : Heap} {mg : Str → Option Value} {base : Heap} {file msg : Str} {d : ErrD} {a1 a2 : PySem.Arg} {z : EPos} (X : K.In h) (G : h.Ns mainGlobals mg) (c : errB file K d = true) (e : fnI K d.nm = d.val) (hs : mg "super" = none) (Wd : ErrW P file d msg a1 a2 z) : Err P w K mg base d.nm d.fld := by
  unfold errB at c
  obtain ⟨c1, c⟩ := ba c
  obtain ⟨c2, c⟩ := ba c
  obtain ⟨c3, c⟩ := ba c
  obtain ⟨c4, c⟩ := ba c
  obtain ⟨c5, c⟩ := ba c
  obtain ⟨c6, c⟩ := ba c
  obtain ⟨c7, c⟩ := ba c
  obtain ⟨c8, c⟩ := ba c
  obtain ⟨c9, c⟩ := ba c
  obtain ⟨c10, c⟩ := ba c
  obtain ⟨c11, c⟩ := ba c
  obtain ⟨c12, c13⟩ := ba c
  have xK := xclsB_ok c6
  have gC := PySem.W.mg_of X G (eqO_ok c1)
  have T : OexC K (ga K d.nm) := ⟨oexB_ok c2, eqO_ok c3, xK.exC, of_decide_eq_true c4, c5⟩
  obtain ⟨cc, cda, hf, hcode, hcell, hcdo⟩ := init_ok c9 e
  have hf2 := hf
  rw [Wd.par, Wd.bdy] at hf2
  have cdo := cdoB_ok hcdo
  rw [← Wd.file] at cdo
  have O : OwnE P K mg d.nm d.qual msg d.fld (ga K d.nm) (iAd K d.nm) cc cda a1 a2 z d.scope :=
    ⟨T, gC, eqO_ok c7, of_decide_eq_true c8, xK.no, hf2, hcode, cdo, cellB_ok hcell, eqO_ok c10, of_decide_eq_true c11, of_decide_eq_true c12, hs, eqO_ok c13, Wd.top, Wd.arg1, Wd.arg2, Wd.sc, Wd.dbg, Wd.scs⟩
  obtain ⟨fd, F1, B1⟩ := own_init (w := w) (base := base) (CX := L2.CX P w) O (Wd.B _ _ _)
  exact ⟨_, _, fd, gC, T, xK, eqO_ok c7, of_decide_eq_true c8, F1, B1⟩
/-- the table of classes -/
def hxB (K : PySem.W.Frag) (tyB : Str → Option String) (hx : HxT) : Bool := hx.all fun q => eqO (nsIn K mainGlobals q.1.1) (some (some (.ref (ga K q.1.1)))) && (match tyB q.1.2 with
  | some T => eqO (nsIn K mainGlobals q.1.2) (some none) && decide (kitOne K (.ref (ga K q.1.1)) (.type T) = some q.2)
  | none => eqO (nsIn K mainGlobals q.1.2) (some (some (.ref (ga K q.1.2)))) && (decide (kitOne K (.ref (ga K q.1.1)) (.ref (ga K q.1.2)) = some q.2) && decide (exmOne K (.ref (ga K q.1.1)) (.ref (ga K q.1.2)) = some q.2)))
theorem hx_mem {hx : HxT} {y nm : Str} {b : Bool} (h : xT hx y nm = some b) : ((nm, y), b) ∈ hx := by
  unfold xT at h
  induction hx with
  | nil => cases h
  | cons q r ih =>
    obtain ⟨⟨q1, q2⟩, c⟩ := q
    rw [List.lookup_cons] at h
    split at h
    · rename_i e
      have e := beq_iff_eq.mp e
      cases e
      cases h
      exact List.mem_cons_self ..
    · exact List.mem_cons_of_mem _ (ih h)
theorem clsK_ok {K : PySem.W.Frag} {h : Heap} {mg : Str → Option Value} {tyB : Str → Option String} {hx : HxT} {y : Str} (X : K.In h) (G : h.Ns mainGlobals mg) (c : hxB K tyB hx = true) (hy : tyB y = none) (hin : ∃ nm b, ((nm, y), b) ∈ hx) : ClsK K mg hx y := by
  have all := List.all_eq_true.mp c
  have key : ∀ nm b, ((nm, y), b) ∈ hx → mg nm = some (.ref (ga K nm)) ∧ mg y = some (.ref (ga K y)) ∧ kitOne K (.ref (ga K nm)) (.ref (ga K y)) = some b ∧ exmOne K (.ref (ga K nm)) (.ref (ga K y)) = some b := fun nm b hm => by
    have z := all _ hm
    obtain ⟨z1, z2⟩ := ba z
    dsimp only at z2
    rw [hy] at z2
    obtain ⟨z3, z4⟩ := ba z2
    obtain ⟨z5, z6⟩ := ba z4
    exact ⟨PySem.W.mg_of X G (eqO_ok z1), PySem.W.mg_of X G (eqO_ok z3), of_decide_eq_true z5, of_decide_eq_true z6⟩
  obtain ⟨nm0, b0, h0⟩ := hin
  refine ⟨ga K y, (key _ _ h0).2.1, fun nm b C e m => ?_, fun nm b C e m => ?_⟩
  · obtain ⟨k1, k2, k3, k4⟩ := key nm b (hx_mem e)
    rw [k1] at m; cases m
    exact k4
  · obtain ⟨k1, k2, k3, k4⟩ := key nm b (hx_mem e)
    rw [k1] at m; cases m
    exact k3
theorem clsB_ok {K : PySem.W.Frag} {h : Heap} {mg : Str → Option Value} {tyB : Str → Option String} {hx : HxT} {y : Str} {T : String} (X : K.In h) (G : h.Ns mainGlobals mg) (c : hxB K tyB hx = true) (hy : tyB y = some T) (hin : ∃ nm b, ((nm, y), b) ∈ hx) : ClsB K mg hx y T := by
  have all := List.all_eq_true.mp c
  have key : ∀ nm b, ((nm, y), b) ∈ hx → mg nm = some (.ref (ga K nm)) ∧ mg y = none ∧ kitOne K (.ref (ga K nm)) (.type T) = some b := fun nm b hm => by
    have z := all _ hm
    obtain ⟨z1, z2⟩ := ba z
    dsimp only at z2
    rw [hy] at z2
    obtain ⟨z3, z4⟩ := ba z2
    exact ⟨PySem.W.mg_of X G (eqO_ok z1), PySem.W.mg_none_of X G (eqO_ok z3), of_decide_eq_true z4⟩
  obtain ⟨nm0, b0, h0⟩ := hin
  refine ⟨(key _ _ h0).2.1, fun nm b C e m => ?_⟩
  obtain ⟨k1, k2, k3⟩ := key nm b (hx_mem e)
  rw [k1] at m; cases m
  exact k3
/-! ### the Hook -/
abbrev AlX : Type := AlD × Bool × List FnI
def obsX (fa : List Fa) (fn : List DefD) (file : Str) (tyB : Str → Option String) (hx : HxT) (er : List ErrD) (ck : PySem.W.Frag → Bool) (K : PySem.W.Frag) : AlX := (obsD fa fn K, (er.all fun d => errB file K d) && (hxB K tyB hx && ck K), er.map fun d => fnI K d.nm)
def valX (fn : List DefD) (er : List ErrD) : AlX := (valD fn, true, er.map ErrD.val)
def frX (n : Nat) (g : Addr → Option Obj) : PySem.W.Frag := frG g (asD g n ++ [cStatics])
def obsXG (n : Nat) (fa : List Fa) (fn : List DefD) (file : Str) (tyB : Str → Option String) (hx : HxT) (er : List ErrD) (ck : PySem.W.Frag → Bool) (g : Addr → Option Obj) : AlX := obsX fa fn file tyB hx er ck (frX n g)
def hookX (n : Nat) (fa : List Fa) (fn : List DefD) (file : Str) (tyB : Str → Option String) (hx : HxT) (er : List ErrD) (ck : PySem.W.Frag → Bool) : PySem.W.Hook where
  α := AlX
  obs := fun s => obsXG n fa fn file tyB hx er ck s.heap.get?
  val := fun _ => valX fn er
  says := fun _ h => ∃ K : PySem.W.Frag, K.In h ∧ obsX fa fn file tyB hx er ck K = valX fn er
  of := fun _ _ e => ⟨_, frG_in, e⟩
  keeps := fun _ _ _ ⟨K, hK, c⟩ k => ⟨K, PySem.W.Frag.In.keeps hK k, c⟩
theorem obsXG_eq {n : Nat} {fa : List Fa} {fn : List DefD} {file : Str} {tyB : Str → Option String} {hx : HxT} {er : List ErrD} {ck : PySem.W.Frag → Bool} {g : Addr → Option Obj} {s : Shared} (h : ∀ a, g a = s.heap.get? a) : obsXG n fa fn file tyB hx er ck g = (hookX n fa fn file tyB hx er ck).obs s := by
  have e : g = s.heap.get? := funext h
  rw [e] <;> rfl
section
variable {fa : List Fa} {fn : List DefD} {file : Str} {tyB : Str → Option String} {hx : HxT} {er : List ErrD} {ck : PySem.W.Frag → Bool} {K : PySem.W.Frag}
theorem saysX_d (c : obsX fa fn file tyB hx er ck K = valX fn er) : SaysD fa fn K := congrArg (fun z : AlX => z.1) c
theorem saysX_hx (c : obsX fa fn file tyB hx er ck K = valX fn er) : hxB K tyB hx = true := (ba (ba (show ((er.all fun d => errB file K d) && (hxB K tyB hx && ck K)) = true from congrArg (fun z : AlX => z.2.1) c)).2).1
theorem saysX_ck (c : obsX fa fn file tyB hx er ck K = valX fn er) : ck K = true := (ba (ba (show ((er.all fun d => errB file K d) && (hxB K tyB hx && ck K)) = true from congrArg (fun z : AlX => z.2.1) c)).2).2
theorem saysX_er (c : obsX fa fn file tyB hx er ck K = valX fn er) (i : Nat) {d : ErrD} (h : er[i]? = some d) : errB file K d = true ∧ fnI K d.nm = d.val := by
  have c1 := (ba (show ((er.all fun d => errB file K d) && (hxB K tyB hx && ck K)) = true from congrArg (fun z : AlX => z.2.1) c)).1
  have e : er.map (fun d => fnI K d.nm) = er.map ErrD.val := congrArg (fun z : AlX => z.2.2) c
  have e2 : (er.map fun d => fnI K d.nm)[i]? = (er.map ErrD.val)[i]? := by rw [e]
  rw [List.getElem?_map, List.getElem?_map, h] at e2
  exact ⟨List.all_eq_true.mp c1 d (List.mem_of_getElem? h), Option.some.inj e2⟩
end
end TD
namespace TD
open PySem
/-! ### the words of a class -/
def clsBody : Stmt → List Stmt
  | .ClassDef _ _ _ b _ _ _ _ _ _ _ => b
  | _ => []
def argAt (a : Arguments) (i : Nat) : PySem.Arg := a.args.getD i { arg := "", annotation := none, pos := ⟨0, 0, 0, 0⟩ }
def zOf : List Stmt → EPos
  | [.Expr (.Call (.Attribute (.Call (.Name _ p0) _ _ p1) _ p2) [.Constant _ k p3] _ p4) p5, .Assign [.Attribute (.Name _ q1) _ q2] (.Name _ q3) q4] => ⟨p0, p1, p2, p3, p4, p5, q1, q2, q3, q4, k⟩
  | _ => ⟨⟨0, 0, 0, 0⟩, ⟨0, 0, 0, 0⟩, ⟨0, 0, 0, 0⟩, ⟨0, 0, 0, 0⟩, ⟨0, 0, 0, 0⟩, ⟨0, 0, 0, 0⟩, ⟨0, 0, 0, 0⟩, ⟨0, 0, 0, 0⟩, ⟨0, 0, 0, 0⟩, ⟨0, 0, 0, 0⟩, 0⟩
end TD

set_option Elab.async false
set_option linter.all false
set_option maxRecDepth 100000
set_option maxHeartbeats 4000000
namespace TD
open PySem PySem.Spec PyProof.Rows L2
section
variable {X : Cx} {Wx : WX} {fm : Fm}
/-! ### zip, enumerate of lists -/
theorem wk_pair {K : PySem.W.Frag} {a0 : Addr} {J : It} {G : Hp → Prop} {f g : Nat → Option V} {ds : List D} {F : Hp} (w : Walk J ds.length G (YPair f g)) (hG : ∀ H, Ex F H → G H)
    (h : ∀ i x y, i < ds.length → f i = some x → g i = some y → ∃ d e, ds[i]? = some (.tup [d, e]) ∧ Rp K a0 F x d ∧ Rp K a0 F y e) : Wk K a0 J ds F := by
  refine ⟨G, YPair f g, w, hG, fun i H F1 v H' hi e1 e2 y => ?_⟩
  obtain ⟨T, x, y, rfl, hT, rfl, hx, hy⟩ := y
  obtain ⟨d, e, h1, h2, h3⟩ := h i x y hi hx hy
  have gr : Gr H F1 (upd H T (.tup [x, y])) (upd F1 T (.tup [x, y])) := Gr.new e2 hT
  exact ⟨_, .tup [d, e], h1, gr, .tup (.inl (.inl upd_same)) (.cons ((h2.ex e1).ex gr.ff) (.cons ((h3.ex e1).ex gr.ff) .nil))⟩
def zipD (xs ys : List D) : List D := List.zipWith (fun a b => D.tup [a, b]) xs ys
def mZip (ma mb : W → R D) : W → R (List D) := fun w => (ma w).bind fun x w1 => (mb w1).bind fun y w2 => R.lift (match x, y with | .lst a, .lst b => some (zipD a b) | _, _ => none) w2
theorem si_zip {e e2 : Expr} {p pos tpos : Pos} {elts : List Expr} {kk : Nat} {ma mb : W → R D} (ha : SE X Wx fm e ma) (hb : SE X Wx fm e2 mb) (hm : X.mg "zip" = none) (hg : Gl X "zip" := by rfl)
    (hs : starEach [e, e2] X.env = (false, eval e X.env) :: starEach [e2] X.env := by rfl) (hs2 : starEach [e2] X.env = (false, eval e2 X.env) :: starEach [] X.env := by rfl) (hpl : (backTo pos (starEach [e2] X.env)).any (·.1) = false := by rfl) :
    SIt X Wx fm (.Tuple elts kk tpos) (.Call (.Name "zip" p) [e, e2] [] pos) (mZip ma mb) := by
  refine ⟨?_⟩
  intro ex σ H F w R r q
  refine WI.of (pi_zip hg hm (pa_cons pe_we (pa_cons pe_we pa_nil hs2) hs) hs hpl) ?_
  show WE X e σ H fun x H1 => WE X e2 σ H1 fun y H2 => ∃ a b xs ys, [x, y] = [.ref a, .ref b] ∧ SqL X.K H2 a xs ∧ SqL X.K H2 b ys ∧ R (Itz X.K a b) H2
  refine ha ex σ H F w _ r ((Fin.bind q).imp fun x w1 H1 F1 ⟨r1, k1, e1, q1⟩ v hv => ?_)
  refine hb ex σ H1 F1 w1 _ r1 ((Fin.bind q1).imp fun y w2 H2 F2 ⟨r2, k2, e2, q2⟩ u hu => ?_)
  obtain ⟨z, hz, q3⟩ := q2.lift
  have hv := hv.ex e2
  cases hv with
  | @lst p1 vs l h1 h2 =>
    cases hu with
    | @lst p2 us l2 h3 h4 =>
      cases hz
      refine ⟨p1, p2, vs, us, rfl, .inl (.inl (r2.fh _ _ h1)), .inl (.inl (r2.fh _ _ h3)), q3 H2 F2 Kp.refl (Ex.refl _) r2 _ ?_⟩
      have hn : (zipD l l2).length = min vs.length us.length := by simp [zipD, h2.len, h4.len]
      refine wk_pair (walk_zip hn) (fun H' e => ⟨.inl (.inl (e _ _ h1)), .inl (.inl (e _ _ h3))⟩) fun i x y hi hx hy => ?_
      obtain ⟨d, g1, g2⟩ := h2.getv hx
      obtain ⟨d2, g3, g4⟩ := h4.getv hy
      exact ⟨d, d2, by simp [zipD, List.getElem?_zipWith, g1, g3], g2, g4⟩
    | _ => cases hz
  | _ => cases hu <;> cases hz
def enumD (n : Nat) : List D → List D
  | [] => []
  | d :: ds => .tup [.int n, d] :: enumD (n + 1) ds
theorem enumD_len : ∀ (n : Nat) (ds : List D), (enumD n ds).length = ds.length
  | _, [] => rfl
  | n, d :: ds => by simp [enumD, enumD_len (n + 1) ds]
theorem enumD_get : ∀ (n i : Nat) (ds : List D) (d : D), ds[i]? = some d → (enumD n ds)[i]? = some (.tup [.int ((n + i : Nat) : Int), d])
  | n, i, [], d, h => by simp at h
  | n, 0, x :: ds, d, h => by simp at h; subst h; simp [enumD]
  | n, i + 1, x :: ds, d, h => by
    have h : ds[i]? = some d := by simpa using h
    have := enumD_get (n + 1) i ds d h
    rw [show n + (i + 1) = n + 1 + i by omega]
    simpa [enumD] using this
def mEnum (ma : W → R D) : W → R (List D) := fun w => (ma w).bind fun x w1 => R.lift (match x with | .lst a => some (enumD 0 a) | _ => none) w1
theorem si_enum {e : Expr} {p pos tpos : Pos} {elts : List Expr} {kk : Nat} {ma : W → R D} (ha : SE X Wx fm e ma) (hm : X.mg "enumerate" = none) (hg : Gl X "enumerate" := by rfl)
    (hs : starEach [e] X.env = [(false, eval e X.env)] := by rfl) (hs2 : starEach [e] X.env = (false, eval e X.env) :: starEach [] X.env := by rfl) :
    SIt X Wx fm (.Tuple elts kk tpos) (.Call (.Name "enumerate" p) [e] [] pos) (mEnum ma) := by
  refine ⟨?_⟩
  intro ex σ H F w R r q
  refine WI.of (pi_enum hg hm (pa_cons pe_we pa_nil hs2) hs) ?_
  show WE X e σ H fun x H1 => ∃ a xs, [x] = [.ref a] ∧ SqL X.K H1 a xs ∧ R (Ite X.K a) H1
  refine ha ex σ H F w _ r ((Fin.bind q).imp fun x w1 H1 F1 ⟨r1, k1, e1, q1⟩ v hv => ?_)
  obtain ⟨z, hz, q3⟩ := q1.lift
  cases hv with
  | @lst p1 vs l h1 h2 =>
    cases hz
    refine ⟨p1, vs, rfl, .inl (.inl (r1.fh _ _ h1)), q3 H1 F1 Kp.refl (Ex.refl _) r1 _ ?_⟩
    refine wk_pair (G := fun H' => SqL X.K H' p1 vs) (f := fun i => some (.int (i : Nat))) (g := fun i => vs[i]?) (by rw [enumD_len, ← h2.len]; exact walk_enum) (fun H' e => .inl (.inl (e _ _ h1))) fun i x y hi hx hy => ?_
    cases hx
    obtain ⟨d, g1, g2⟩ := h2.getv hy
    exact ⟨.int i, d, by simpa using enumD_get 0 i l d g1, .int _, g2⟩
  | _ => cases hz
/-! ### sorted of few whole numbers -/
def insI (n : Int) : List Int → List Int
  | [] => [n]
  | m :: r => if n ≤ m then n :: m :: r else m :: insI n r
def sortI : List Int → List Int
  | [] => []
  | n :: r => insI n (sortI r)
theorem insI_perm (n : Int) : ∀ l, (insI n l).Perm (n :: l)
  | [] => .refl _
  | m :: r => by
    unfold insI
    split
    · exact .refl _
    · exact ((insI_perm n r).cons m).trans (.swap n m r)
theorem sortI_perm : ∀ l, (sortI l).Perm l
  | [] => .refl _
  | n :: r => (insI_perm n _).trans ((sortI_perm r).cons n)
theorem insI_sorted (n : Int) : ∀ l, l.Pairwise (· ≤ ·) → (insI n l).Pairwise (· ≤ ·)
  | [], _ => by simp [insI]
  | m :: r, h => by
    unfold insI
    have h' := List.pairwise_cons.mp h
    split
    · rename_i c
      refine List.pairwise_cons.mpr ⟨fun x hx => ?_, h⟩
      rcases List.mem_cons.mp hx with rfl | hx
      · exact c
      · exact Int.le_trans c (h'.1 x hx)
    · rename_i c
      refine List.pairwise_cons.mpr ⟨fun x hx => ?_, insI_sorted n r h'.2⟩
      rcases List.mem_cons.mp ((insI_perm n r).mem_iff.mp hx) with rfl | hx
      · omega
      · exact h'.1 x hx
theorem sortI_sorted : ∀ l, (sortI l).Pairwise (· ≤ ·)
  | [] => .nil
  | n :: r => insI_sorted n _ (sortI_sorted r)
theorem sortI_uniq {a b : List Int} (h : a.Perm b) (h1 : a.Pairwise (· ≤ ·)) (h2 : b.Pairwise (· ≤ ·)) : a = b :=
  h.eq_of_pairwise (fun x y _ _ h1 h2 => Int.le_antisymm h1 h2) h1 h2
def mSorted (ma : W → R D) : W → R (List D) := fun w => (ma w).bind fun x w1 => R.lift (match x with | .lst a => (ints? a).bind fun ns => if ns.length < 64 then some ((sortI ns).map D.int) else none | _ => none) w1
theorem sf_sorted {e : Expr} {p pos : Pos} {m : W → R D} (h : SE X Wx fm e m) (hm : X.mg "sorted" = none) (hg : Gl X "sorted" := by rfl) (he : starEach [e] X.env = (false, eval e X.env) :: starEach [] X.env := by rfl) (hpl : (backTo pos (starEach [] X.env)).any (·.1) = false := by rfl) :
    SF X Wx fm (.Call (.Name "sorted" p) [e] [] pos) (mSorted m) := by
  refine ⟨?_⟩
  intro ex σ H F w Q r q
  refine WE.of (pe_callB cr_sorted hg hm (by decide +kernel) (pa_cons pe_we pa_nil he) (by decide) (by decide) he hpl) ?_
  show WE X e σ H fun x H1 => rSorted X.K [x] H1 Q
  refine h ex σ H F w _ r ((FinF.bindD q).imp fun d w1 H1 F1 ⟨r1, k1, e1, q1⟩ v hv => ?_)
  cases hv with
  | @lst p0 vs l h1 h2 =>
    have q1 : FinF X Wx fm ex σ H1 F1 Q (R.lift ((ints? l).bind fun ns => if ns.length < 64 then some ((sortI ns).map D.int) else none) w1) := q1
    cases hi : ints? l with
    | none => rw [hi] at q1; exact (show False from q1).elim
    | some ns =>
      rw [hi] at q1
      have q1 : FinF X Wx fm ex σ H1 F1 Q (R.lift (if ns.length < 64 then some ((sortI ns).map D.int) else none) w1) := q1
      by_cases hl : ns.length < 64
      · rw [if_pos hl] at q1
        have ev := ints_rp hi h2
        subst ev
        refine ⟨p0, ns, rfl, .inl (.inl (r1.fh _ _ h1)), hl, fun ns' p hp hs hn => ?_⟩
        have e2 : ns' = sortI ns := sortI_uniq (hp.trans (sortI_perm ns).symm) hs (sortI_sorted ns)
        subst e2
        exact q1 p _ F1 (Gr.dark r1.fh hn).kp (Ex.refl _) (r1.lay hn (RpAll.of_ints _))
      · rw [if_neg hl] at q1; exact (show False from q1).elim
  | _ => exact (show False from q1).elim
/-! ### a call that leaves the defaults -/
structure CalD (P : Program) (w : World) (K : PySem.W.Frag) (mg : Str → Option Value) (base : Heap) (k : Nat) (x : Str) (n : Nat) (dd : List D) (m : List D → SS → RF) : Prop where
  ex : ∃ (f : Addr) (fd : FuncData) (ps : List Str) (ds : List Value) (dvs : List V), FnOk P w K mg base (L2.CX P w) k f fd ps (spM K mg n m) ∧ mg x = some (.ref f) ∧ PySem.W.keepIn K (.ref f) = true ∧ Binds K fd ps ds ∧ Vals dvs ds ∧ ∀ (a0 : Addr) (F : Hp), RpAll K a0 F dvs dd
def mApp (dd : List D) (m : W → R (List D)) : W → R (List D) := fun w => (m w).bind fun ds w1 => .ok (ds ++ dd) w1
theorem run_fnSD {CX : CXT} {k : Nat} {f : Addr} {fd : FuncData} {ps : List Str} {ds : List Value} {dvs : List V} {sp : Sp} {E : L2.St → XK} {pins : List (Addr × Obj)} {σ : L2.St} {H : Hp} {s : Shared} {Q : VK} {us : List Value} {vs : List V} (F : FnOk X.prog X.w X.K X.mg X.base CX k f fd ps sp) (hr : Room k X.A) (hb : Binds X.K fd ps ds) (hd : Vals dvs ds) (hx : PassesAt CX X σ (E σ))
    (I : L2.Inv X pins σ H s) (r : Vals vs us) (h : sp (vs ++ dvs) H Q (E σ)) : wpAny (model X.prog X.w) X.A (call (.ref f) us) (EP X pins σ Q) X.xe s := by
  have r2 : Vals (vs ++ dvs) (us ++ ds) := r.append hd
  have hl : (us ++ ds).length = ps.length := by rw [← r2.length]; exact F.len _ _ _ _ h
  have b := hb s us I.kIn hl
  refine wpAny_call (codeAny_mono (F.run X.A X.stack s H ⟨us, []⟩ (us ++ ds) (vs ++ dvs) Q (E σ) hr I.env0 b r2 h) fun r s' hq => ?_)
  cases r with
  | error e => exact hx pins H s e s' I hq
  | ok fl =>
    cases fl with
    | ret u => exact I.after hq
    | next => exact False.elim hq
    | brk => exact False.elim hq
    | cont => exact False.elim hq
theorem pe_callSD {CX : CXT} {k : Nat} {f : Addr} {fd : FuncData} {ps : List Str} {ds : List Value} {dvs : List V} {sp : Sp} {E : L2.St → XK} {x : Str} {e : Expr} {es : List Expr} {p pos : Pos} {t : TA} (F : FnOk X.prog X.w X.K X.mg X.base CX k f fd ps sp) (hr : Room k X.A) (hg : Gl X x) (hm : X.mg x = some (.ref f)) (hk : PySem.W.keepIn X.K (.ref f) = true) (hb : Binds X.K fd ps ds) (hd : Vals dvs ds) (hx : ∀ σ, PassesAt CX X σ (E σ))
    (ha : PA X (e :: es) t) (hdb : (x == ("__debug__" : Str)) = false := by decide) (he : starEach (e :: es) X.env = (false, eval e X.env) :: starEach es X.env := by rfl) (hpl : (backTo pos (starEach es X.env)).any (·.1) = false := by rfl) :
    PE X (.Call (.Name x p) (e :: es) [] pos) (fun σ H Q => t σ H fun vs H1 => sp (vs ++ dvs) H1 Q (E σ)) := by
  refine ⟨fun pins s σ H Q I h => ?_⟩
  refine wpAny_Call_Name_kw (ld_glob I hg hm ?_ hdb)
  refine PySem.W.callWith_K (h₀ := X.base) I.ok.mod.kin hk (thn (ha.run pos pins s σ H _ I h) fun us s1 ⟨vs, H1, I1, r, q⟩ => ⟨I1.kIn, ?_⟩) he hpl
  exact run_fnSD F hr hb hd (hx σ) I1 r q
theorem se_callD {e : Expr} {es : List Expr} {x : Str} {p pos : Pos} {k n : Nat} {dd : List D} {f : List D → SS → RF} {m : W → R (List D)} (c : CalD X.prog X.w X.K X.mg X.base k x n dd f) (tk : Takes X Wx) (hr : Room k X.A) (ha : SAs X Wx fm (e :: es) m) (hg : Gl X x := by rfl)
    (hdb : (x == ("__debug__" : Str)) = false := by decide) (he : starEach (e :: es) X.env = (false, eval e X.env) :: starEach es X.env := by rfl) (hpl : (backTo pos (starEach es X.env)).any (·.1) = false := by rfl) :
    SE X Wx fm (.Call (.Name x p) (e :: es) [] pos) (mCall n f (mApp dd m)) := by
  obtain ⟨fa, fd, ps, ds0, dvs, Fo, hm, hk, hb, hdv, hrp⟩ := c.ex
  refine ⟨?_⟩
  intro ex σ H F w Q r q
  refine WE.of (pe_callSD Fo hr hg hm hk hb hdv (fun σ => passAt tk σ) pa_wa hdb he hpl) ?_
  show WA X (e :: es) σ H fun vs H1 => spM X.K X.mg n f (vs ++ dvs) H1 Q (L2.WE Wx σ)
  have q' : Fin X Wx fm ex σ H F (fun d _ H' F' => ∀ v, Rp X.K fm.a0 F' v d → Q v H') ((m w).bind fun ds w1 => if (ds ++ dd).length = n then match f (ds ++ dd) w1.ss with
    | .ok d ss' => .ok d { w1 with ss := ss' }
    | .exc c ss' => .exc c { w1 with ss := ss' }
    | .stuck => .stuck
    else .stuck) := by
    revert q
    unfold mCall mApp
    cases m w <;> exact fun q => q
  refine ha ex σ H F w _ r ((Fin.bind q').imp fun ds w1 H1 F1 ⟨r1, k1, e1, q1⟩ vs hv => ?_)
  have hv2 := hv.app (hrp fm.a0 F1)
  by_cases hl : (ds ++ dd).length = n
  · rw [if_pos hl] at q1
    refine ⟨fm.a0, fm.c0, F1, ds ++ dd, w1.ss, hv2.len.trans hl, r1.fh, r1.src, hv2, ?_⟩
    revert q1
    cases f (ds ++ dd) w1.ss with
    | ok d ss' => exact fun q1 v H' F' g s rv => q1 H' F' g.hh g.ff (r1.step g s) v rv
    | exc c ss' => exact fun q1 H' F' cls dd g s xc => q1 H' F' cls dd g.hh g.ff (r1.step g s) (xc.up r1 s)
    | stuck => exact fun q1 => q1
  · rw [if_neg hl] at q1
    exact (show False from q1).elim
end
/-! ### how the new mirrors are reckoned -/
section
variable {env : Env} {ss : SS} {w : W}
@[simp] theorem sRaise_ap (nm fld : Str) (m : W → R (List D)) : sRaise nm fld m w = (m w).toS fun ds w' => match ds with
  | [d] => .exc ⟨nm, fld, d⟩ w'
  | _ => .stuck := rfl
@[simp] theorem mExf_ap (i : Nat) (f : Str) : mExf i f ⟨env, ss⟩ = match env[i]? with
  | some (some (.exn c)) => if c.f = f then .ok c.d ⟨env, ss⟩ else .stuck
  | _ => .stuck := rfl
@[simp] theorem mIsX_ap (i : Nat) (t : Str → Option Bool) : mIsX i t ⟨env, ss⟩ = match env[i]? with
  | some (some (.exn c)) => R.lift ((t c.c).map D.bl) ⟨env, ss⟩
  | _ => .stuck := rfl
/-- what a try does with its body's outcome -/
def RS.tryC (tab : Str → Option Bool) (i : Nat) (suite : W → RS) : RS → RS
  | .exc c w1 => (match tab c.c with
    | some true => sLeave i (suite { w1 with env := (noX w1.env).set i (some (.exn c)) })
    | some false => .exc c w1
    | none => .stuck)
  | r => r
def RS.tryO (tab : Str → Option Bool) (suite : W → RS) : RS → RS
  | .exc c w1 => (match tab c.c with
    | some true => sLeaveO (suite { w1 with env := noX w1.env })
    | some false => .exc c w1
    | none => .stuck)
  | r => r
@[simp] theorem sTry_ap (tab : Str → Option Bool) (i : Nat) (body suite : W → RS) : sTry tab i body suite w = RS.tryC tab i suite (body w) := by
  unfold sTry RS.tryC; cases body w <;> rfl
@[simp] theorem sTryO_ap (tab : Str → Option Bool) (body suite : W → RS) : sTryO tab body suite w = RS.tryO tab suite (body w) := by
  unfold sTryO RS.tryO; cases body w <;> rfl
@[simp] theorem tryC_nx (tab : Str → Option Bool) (i : Nat) (s : W → RS) : RS.tryC tab i s (.nx w) = .nx w := rfl
@[simp] theorem tryC_ret (tab : Str → Option Bool) (i : Nat) (s : W → RS) (d : D) : RS.tryC tab i s (.ret d w) = .ret d w := rfl
@[simp] theorem tryC_exc (tab : Str → Option Bool) (i : Nat) (s : W → RS) (c : Exn) : RS.tryC tab i s (.exc c w) = match tab c.c with
    | some true => sLeave i (s { w with env := (noX w.env).set i (some (.exn c)) })
    | some false => .exc c w
    | none => .stuck := rfl
@[simp] theorem tryO_nx (tab : Str → Option Bool) (s : W → RS) : RS.tryO tab s (.nx w) = .nx w := rfl
@[simp] theorem tryO_ret (tab : Str → Option Bool) (s : W → RS) (d : D) : RS.tryO tab s (.ret d w) = .ret d w := rfl
@[simp] theorem tryO_exc (tab : Str → Option Bool) (s : W → RS) (c : Exn) : RS.tryO tab s (.exc c w) = match tab c.c with
    | some true => sLeaveO (s { w with env := noX w.env })
    | some false => .exc c w
    | none => .stuck := rfl
@[simp] theorem sLeave_ret (i : Nat) (d : D) : sLeave i (.ret d w) = .ret d { w with env := noX w.env } := rfl
@[simp] theorem sLeave_nx (i : Nat) : sLeave i (.nx w) = .nx { w with env := (noX w.env).set i none } := rfl
@[simp] theorem sLeaveO_ret (d : D) : sLeaveO (.ret d w) = .ret d { w with env := noX w.env } := rfl
@[simp] theorem sLeaveO_nx : sLeaveO (.nx w) = .nx { w with env := noX w.env } := rfl
@[simp] theorem noX_nil : noX [] = [] := rfl
@[simp] theorem noX_val (d : D) (e : Env) : noX (some (.val d) :: e) = some (.val d) :: noX e := rfl
@[simp] theorem noX_own (l : List D) (e : Env) : noX (some (.own l) :: e) = some (.own l) :: noX e := rfl
@[simp] theorem noX_exn (c : Exn) (e : Env) : noX (some (.exn c) :: e) = none :: noX e := rfl
@[simp] theorem noX_none (e : Env) : noX (none :: e) = none :: noX e := rfl
@[simp] theorem mApp_ap (dd : List D) (m : W → R (List D)) : mApp dd m w = (m w).bind fun ds w1 => .ok (ds ++ dd) w1 := rfl
@[simp] theorem mZip_ap (ma mb : W → R D) : mZip ma mb w = (ma w).bind fun x w1 => (mb w1).bind fun y w2 => R.lift (match x, y with | .lst a, .lst b => some (zipD a b) | _, _ => none) w2 := rfl
@[simp] theorem mEnum_ap (ma : W → R D) : mEnum ma w = (ma w).bind fun x w1 => R.lift (match x with | .lst a => some (enumD 0 a) | _ => none) w1 := rfl
@[simp] theorem mSorted_ap (ma : W → R D) : mSorted ma w = (ma w).bind fun x w1 => R.lift (match x with | .lst a => (ints? a).bind fun ns => if ns.length < 64 then some ((sortI ns).map D.int) else none | _ => none) w1 := rfl
end
section
variable {P : Program} {w : World} {K : PySem.W.Frag} {mg : Str → Option Value} {base : Heap}
/-- THE RULE for a def, defaults or none -/
theorem fn_tdD {x qual : Str} {params : Arguments} {body : List Stmt} {scope : Scope} {dvs : List V} {kws : List (Str × V)} {f : Addr} {fd : FuncData} {N ps : List Str} {k : Nat} {m : W → RS} (F : FunD K x qual params body scope dvs kws f fd) (S : FnScope N ps scope)
    (hb : ∀ (cdv : Value) (A : Around) (outer : List PySem.Env) (s : Shared) (H : Hp) (E : XK) (fm : Fm), Room k (A.deeper (envOfC qual scope s.heap.objs.size f cdv)) → SSs (cxOf (L2.CX P w) P w K mg base N qual scope f cdv A outer s H E) (fun c d _ H => E c d H) fm body m) :
    FnOk P w K mg base (L2.CX P w) (k + 1) f fd ps (spM K mg ps.length (fnM N.length m)) := by
  refine F.ok S (fun vs H Q E h => h.choose_spec.choose_spec.choose_spec.choose_spec.choose_spec.1) (fun cdv A outer s H vs Q E hr h => ?_)
  obtain ⟨a0, c0, F0, ds, ss, hl, hf, hs, hv, q⟩ := h
  refine ⟨_, pss_wss, ?_⟩
  refine hb cdv A outer s H E ⟨a0, c0, H, F0, 0, 0, "", 0⟩ hr [] _ H F0 ⟨startE N.length ds, ss⟩ _ (rel_start hf hs hv) ?_
  revert q
  unfold fnM
  cases m ⟨startE N.length ds, ss⟩ with
  | nx w1 => exact fun q σ' H' F' e r => q .non H' F' r.gk r.src .non
  | ret d w1 => exact fun q v σ' H' F' e r k => q v H' F' r.gk r.src k
  | exc c w1 => exact fun q σ' H' F' cls dd e r k => q H' F' cls dd r.gk r.src k
  | brk w1 => exact fun q => q.elim
  | cnt w1 => exact fun q => q.elim
  | stuck => exact fun q => q
end
end TD

set_option Elab.async false
set_option linter.all false
set_option maxRecDepth 100000
set_option maxHeartbeats 4000000
namespace TD
open PySem PySem.Spec PyProof.Rows L2
/-! ### several clauses, some with a name -/
abbrev Hd1 := Value × Option Nat × (Addr → Value → Option Addr → TS)
def Ends.off (D : Ends) (i : Nat) : Ends := { nx := fun σ' H' => D.nx (σ'.set i none) H', rt := D.rt, bk := fun σ' H' => D.bk (σ'.set i none) H', ct := fun σ' H' => D.ct (σ'.set i none) H' }
def wMix (K : PySem.W.Frag) (Wout : WX) (D : Ends) : List Hd1 → WX
  | [] => Wout
  | (c, o, ts) :: r => fun cls d σ H => ∃ b, PySem.W.exmOne K cls c = some b ∧
      (b = true → ∀ a, H a = none → match o with
        | none => ts a cls d D σ H
        | some i => ts a cls d (Ends.off D i) (σ.set i (some (.ref a))) H) ∧ (b = false → wMix K Wout D r cls d σ H)
inductive HdsMix (X : Cx) : List ExceptHandler → List Hd1 → Prop
  | nil : HdsMix X [] []
  | only {x : Str} {c : Value} {ts : Addr → Value → Option Addr → TS} {b₀ : Stmt} {suite : List Stmt} {np pos' : Pos} {hds : List ExceptHandler} {l : List Hd1} (hc : Names X x c)
      (hsu : ∀ (a : Addr) (oe : Obj) (cls : Value) (d : Option Addr) (pn : List (Addr × Obj)), Zc cls d oe → (∃ vs, oe.data = .fields vs) → PSs (X.suite a ((a, oe) :: pn)) (b₀ :: suite) (ts a cls d)) (r : HdsMix X hds l) :
      HdsMix X (.ExceptHandler (some (.Name x np)) none (b₀ :: suite) pos' :: hds) ((c, none, ts) :: l)
  | named {x n : Str} {i : Nat} {c : Value} {ts : Addr → Value → Option Addr → TS} {b₀ : Stmt} {suite : List Stmt} {np pos' : Pos} {hds : List ExceptHandler} {l : List Hd1} (hi : X.N[i]? = some n) (hln : X.env.kindOf n = some .local) (hc : Names X x c)
      (hsu : ∀ (a : Addr) (oe : Obj) (cls : Value) (d : Option Addr) (pn : List (Addr × Obj)), Zc cls d oe → (∃ vs, oe.data = .fields vs) → PSs (X.suite a ((a, oe) :: pn)) (b₀ :: suite) (ts a cls d)) (r : HdsMix X hds l) :
      HdsMix X (.ExceptHandler (some (.Name x np)) (some n) (b₀ :: suite) pos' :: hds) ((c, some i, ts) :: l)
section
variable {X : Cx} {body : List Stmt} {h₀ : ExceptHandler} {hds : List ExceptHandler} {l : List Hd1} {pos : Pos} {tb : WX → TS} {Wout : WX}
theorem ps_try_mix (hs : X.stack = X.env :: X.outer) (hf : X.env.frame = some X.env.locals) (hN : X.N.Nodup) (tk : Takes X Wout)
    (hb : ∀ (W : WX) (pn : List (Addr × Obj)) (xe : Value → Shared → Prop), Takes (X.tr pn xe) W → PassesOwn (model X.prog X.w) X.A X.env xe → PSs (X.tr pn xe) body (tb W))
    (hh : HdsMix X (h₀ :: hds) l) : PS X (.Try body (h₀ :: hds) [] [] pos) (fun D σ H => tb (wMix X.K Wout D l) D σ H) := by
  refine ⟨fun pins s σ H D I h => ?_⟩
  have ok := I.ok
  have hfr : X.A.frames = some (X.env :: X.outer) := by rw [ok.frames, hs]
  refine wpAny_Try_except ?_
  refine wpAny_mono ((hb (wMix X.K Wout D l) (X.pn ++ pins) (fun e s₁ => wpAny (model X.prog X.w) X.A (noteFrame e X.env) (fun _ s₂ => wpAny (model X.prog X.w) X.A (setFlight e none) (fun _ s₃ =>
    wpAny (model X.prog X.w) X.A (handleBy e X.env (h₀ :: hds)) (SP X pins D) X.xe s₃) X.xe s₂) X.xe s₁) (fun u s' xx => ?_) PassesOwn.looking).run [] s σ H D (I.toTry _) h) (fun f s1 hsp => ?_) (fun e s1 he => he)
  · obtain ⟨a, B, sI, pins', σ', H', cls, d, rfl, J', nb, up, sky, na, os, ag, w⟩ := xx
    have J : L2.Inv X pins σ' H' sI := J'.ofTry ok
    have sky' : Sky B (X.env :: X.outer) a (Zc cls d) X.env.locals s'.heap := by rw [← hs]; exact sky
    show wpAny (model X.prog X.w) X.A (noteFrame (.ref a) X.env) _ _ _
    refine Sky.land Zc.steady hfr hf sky' fun h3 fl3 up3 => ?_
    have J3 : L2.Inv X pins σ' H' { s' with heap := h3 } := J.landed nb fl3.1 (up.trans up3) os ag
    obtain ⟨oe3, vs3, he3, hz3, hd3⟩ := fl3.there
    have notFr : ∀ {h : Heap} {o : Obj} {vs : Array Value}, h.FunFrames B (X.env :: X.outer) → h.get? a = some o → o.data = .fields vs → a ∉ frs (X.env :: X.outer) := fun {h o vs} ff e dd hm => by
      obtain ⟨_, o', e', hnf⟩ := ff.mem hm
      rw [e] at e'; cases e'
      exact hnf _ dd
    have nfr := notFr fl3.2.2.1 he3 hd3
    have nL : a ≠ X.env.locals := fun z => nfr (List.mem_filterMap.mpr ⟨X.env, List.mem_cons_self, by rw [hf, z]⟩)
    have nF : a ∉ X.fs := fun hm => by
      obtain ⟨e, he, q⟩ := List.mem_filterMap.mp hm
      exact nfr (List.mem_filterMap.mpr ⟨e, List.mem_cons_of_mem _ he, q⟩)
    have S3 := J3.suite he3 hd3 na nL nF
    have test : ∀ {x : Str} {c : Value} {np : Pos} {Q : Value → Shared → Prop} {E : Value → Shared → Prop}, Names X x c → Q c { s' with heap := h3 } → wpAny (model X.prog X.w) (X.A.mark (some (.ref a))) (eval (.Name x np) X.env) Q E { s' with heap := h3 } := fun {x c np Q E} hc q => by
      obtain ⟨hg, hdbg, hm | ⟨hm, hv, hnn⟩⟩ := hc
      · exact ld_glob (X := X.suite a ((a, oe3) :: (X.pn ++ pins))) S3 hg hm q hdbg
      · exact ld_blt (X := X.suite a ((a, oe3) :: (X.pn ++ pins))) S3 hg hm hv q hnn hdbg
    have LT : PySem.W.Looks (model X.prog X.w) h3 (typeOf (.ref a)) cls := fun A Q E s k q => wpAny_typeOf_ref (k _ _ he3) (by rw [hz3.1]; exact q)
    have go : ∀ {hds' : List ExceptHandler} {l' : List Hd1}, HdsMix X hds' l' → wMix X.K Wout D l' cls d σ' H' → wpAny (model X.prog X.w) X.A (handleBy (.ref a) X.env hds') (SP X pins D) X.xe { s' with heap := h3 } := by
      intro hds' l' hk
      induction hk with
      | nil =>
        intro w
        refine wpAny_handleBy_nil ?_
        obtain ⟨k1, k2, k3, oe, vs, T, oT, ts', he, hz, hd, h1, hr⟩ := id fl3
        unfold PySem.passOn
        refine wpAny_bind (wpAny_field he hd h1 ?_)
        rw [if_neg (show ¬ ((Value.ref T == Value.none) = true) from by simp)]
        have fin : wpAny (model X.prog X.w) X.A (setFlight (.ref a) X.env.frame) (fun _ s4 => wpAny (model X.prog X.w) X.A (throw (.ref a) : Sem Flow) (SP X pins D) X.xe s4) X.xe { s' with heap := h3 } := by
          rw [hf]
          refine HandSPX.setFlight_upZ fl3 fun h4 hh4 up4 => wpAny_throw (tk _ _ ?_)
          exact ⟨a, B, sI, pins, σ', H', cls, d, rfl, J, nb, (up.trans up3).trans up4, .inr (.inr (by rw [hs]; exact hh4)), na, os, ag, w⟩
        first
          | exact wpAny_bind (wpAny_pure (wpAny_bind fin))
          | exact wpAny_bind fin
      | @only x c ts b₀ suite np pos' hds2 l2 hc hsu r ih =>
        intro w
        obtain ⟨b, hb1, hyes, hno⟩ := w
        refine wpAny_handleBy_cons (codeAny_handlers_test ?_) (by intro q; cases q)
        refine test hc ((PySem.W.exm_one (M := model X.prog X.w) (J3.kIn) LT hb1).here ?_)
        cases b with
        | true =>
          refine codeAny_handlers_suite ?_
          refine HandSPX.lands_againZ fl3 fun h4 fl4 up4 => ?_
          have J4 : L2.Inv X pins σ' H' { s' with heap := h4 } := J.landed nb fl4.1 ((up.trans up3).trans up4) os ag
          obtain ⟨oe4, vs4, he4, hz4, hd4⟩ := fl4.there
          have S4 := J4.suite he4 hd4 na nL nF
          refine wpAny_mono ((hsu a oe4 cls d (X.pn ++ pins) hz4 ⟨_, hd4⟩).run [] _ _ H' _ S4 (hyes rfl a na)) (fun f s6 hsp => ?_) (fun _ _ z => False.elim z)
          cases f with
          | next => obtain ⟨σ6, H6, S6, q6⟩ := hsp; exact ⟨_, _, S6.unsuite ok, q6⟩
          | brk => obtain ⟨σ6, H6, S6, q6⟩ := hsp; exact ⟨_, _, S6.unsuite ok, q6⟩
          | cont => obtain ⟨σ6, H6, S6, q6⟩ := hsp; exact ⟨_, _, S6.unsuite ok, q6⟩
          | ret u => obtain ⟨v6, σ6, H6, S6, r6, q6⟩ := hsp; exact ⟨_, _, _, S6.unsuite ok, r6, q6⟩
        | false => exact ih (hno rfl)
      | @named x n i c ts b₀ suite np pos' hds2 l2 hi hln hc hsu r ih =>
        intro w
        obtain ⟨b, hb1, hyes, hno⟩ := w
        refine wpAny_handleBy_cons (codeAny_handlers_test ?_) (by intro q; cases q)
        refine test hc ((PySem.W.exm_one (M := model X.prog X.w) (J3.kIn) LT hb1).here ?_)
        cases b with
        | true =>
          refine codeAny_handlers_suite_as ?_
          refine HandSPX.lands_againZ fl3 fun h4 fl4 up4 => ?_
          have J4 : L2.Inv X pins σ' H' { s' with heap := h4 } := J.landed nb fl4.1 ((up.trans up3).trans up4) os ag
          obtain ⟨oe4, vs4, he4, hz4, hd4⟩ := fl4.there
          have S4 := J4.suite he4 hd4 na nL nF
          refine store_ok (X := X.suite a ((a, oe4) :: (X.pn ++ pins))) (v := .ref a) S4 hN hi (.inl hln) rfl (fun s5 S5 => ?_) (.inr hln)
          refine wpAny_mono ((hsu a oe4 cls d (X.pn ++ pins) hz4 ⟨_, hd4⟩).run [] s5 _ H' _ S5 (hyes rfl a na)) (fun f s6 hsp => ?_) (fun _ _ z => False.elim z)
          have end_ : ∀ {σ6 : L2.St} {H6 : Hp} {Q : Shared → Prop}, L2.Inv (X.suite a ((a, oe4) :: (X.pn ++ pins))) [] σ6 H6 s6 → (∀ s7, L2.Inv X pins (σ6.set i none) H6 s7 → Q s7) →
              wpAny (model X.prog X.w) X.A (do bindName X.env n .none; unbindBehindTheSuite X.env n pos') (fun _ s7 => Q s7) X.xe s6 := fun {σ6 H6 Q} S6 hq => gone_ok (S6.unsuite ok) hN hi hln hq
          cases f with
          | next => obtain ⟨σ6, H6, S6, q6⟩ := hsp; exact end_ S6 fun s7 J7 => ⟨_, _, J7, q6⟩
          | brk => obtain ⟨σ6, H6, S6, q6⟩ := hsp; exact end_ S6 fun s7 J7 => ⟨_, _, J7, q6⟩
          | cont => obtain ⟨σ6, H6, S6, q6⟩ := hsp; exact end_ S6 fun s7 J7 => ⟨_, _, J7, q6⟩
          | ret u => obtain ⟨v6, σ6, H6, S6, r6, q6⟩ := hsp; exact end_ S6 fun s7 J7 => ⟨_, _, _, J7, r6, q6⟩
        | false => exact ih (hno rfl)
    exact go hh w
  · cases f with
    | next => obtain ⟨σ', H', J', q⟩ := hsp; exact wpAny_execs_nil ⟨σ', H', J'.ofTry ok, q⟩
    | brk => obtain ⟨σ', H', J', q⟩ := hsp; exact ⟨σ', H', J'.ofTry ok, q⟩
    | cont => obtain ⟨σ', H', J', q⟩ := hsp; exact ⟨σ', H', J'.ofTry ok, q⟩
    | ret u => obtain ⟨v, σ', H', J', r, q⟩ := hsp; exact ⟨v, σ', H', J'.ofTry ok, r, q⟩
end
/-- the clauses' mirrors: the class's table, the name's place, the suite -/
abbrev HdM := (Str → Option Bool) × Option Nat × (W → RS)
def hPick : List HdM → Exn → W → RS
  | [], c, w1 => .exc c w1
  | (tab, o, ms) :: r, c, w1 => match tab c.c with
    | some true => (match o with
      | some i => sLeave i (ms { w1 with env := (noX w1.env).set i (some (.exn c)) })
      | none => sLeaveO (ms { w1 with env := noX w1.env }))
    | some false => hPick r c w1
    | none => .stuck
def RS.tryL (hs : List HdM) : RS → RS
  | .exc c w1 => hPick hs c w1
  | r => r
def sTryL (hs : List HdM) (body : W → RS) : W → RS := fun w => RS.tryL hs (body w)
inductive HdsT (X : Cx) (fm : Fm) (hx : HxT) : List ExceptHandler → List HdM → Prop
  | nil : HdsT X fm hx [] []
  | only {x : Str} {b₀ : Stmt} {suite : List Stmt} {np pos' : Pos} {hds : List ExceptHandler} {l : List HdM} {ms : W → RS} (hc : ClsK X.K X.mg hx x) (hg : Gl X x) (hd : (x == ("__debug__" : Str)) = false)
      (hsu : ∀ (a d k : Addr) (c : Str) (oe : Obj) (pn : List (Addr × Obj)), InS X { fm with xa := a, xd := d, xc := c, xk := k } oe → SSs (X.suite a ((a, oe) :: pn)) W0 { fm with xa := a, xd := d, xc := c, xk := k } (b₀ :: suite) ms) (r : HdsT X fm hx hds l) :
      HdsT X fm hx (.ExceptHandler (some (.Name x np)) none (b₀ :: suite) pos' :: hds) ((xT hx x, none, ms) :: l)
  | named {x n : Str} {i : Nat} {b₀ : Stmt} {suite : List Stmt} {np pos' : Pos} {hds : List ExceptHandler} {l : List HdM} {ms : W → RS} (hi : X.N[i]? = some n) (hln : X.env.kindOf n = some .local) (hc : ClsK X.K X.mg hx x) (hg : Gl X x) (hd : (x == ("__debug__" : Str)) = false)
      (hsu : ∀ (a d k : Addr) (c : Str) (oe : Obj) (pn : List (Addr × Obj)), InS X { fm with xa := a, xd := d, xc := c, xk := k } oe → SSs (X.suite a ((a, oe) :: pn)) W0 { fm with xa := a, xd := d, xc := c, xk := k } (b₀ :: suite) ms) (r : HdsT X fm hx hds l) :
      HdsT X fm hx (.ExceptHandler (some (.Name x np)) (some n) (b₀ :: suite) pos' :: hds) ((xT hx x, some i, ms) :: l)
section
variable {X : Cx} {Wx : WX} {fm : Fm}
theorem HdsT.mix {hx : HxT} : ∀ {hds : List ExceptHandler} {l : List HdM}, HdsT X fm hx hds l → ∃ l1 : List Hd1, HdsMix X hds l1 ∧
    ∀ (ex : Exs) (F : Hp) (D : Ends) (c : Exn) (w1 : W) (σ1 : L2.St) (H1 F1 : Hp) (cls : Value) (dd : Option Addr), FinS X Wx fm ex F D (hPick l c w1) → Ex F F1 → Rel X.K fm ex σ1 H1 F1 w1 → ExcIs X.K X.mg fm.a0 fm.G c cls dd F1 H1 → wMix X.K Wx D l1 cls dd σ1 H1
  | _, _, .nil => ⟨[], .nil, fun ex F D c w1 σ1 H1 F1 cls dd q e1 r1 xi => q σ1 H1 F1 cls dd e1 r1 xi⟩
  | _, _, .only (x := x) (b₀ := b₀) (suite := suite) (l := l) (ms := ms) hc hg hd hsu r => by
    obtain ⟨l1, m1, ih⟩ := r.mix
    obtain ⟨T, mT, cT⟩ := hc.ex
    refine ⟨(.ref T, none, fun a cls d D σ H => ∀ (oe : Obj) (pn : List (Addr × Obj)), Zc cls d oe → (∃ vs, oe.data = .fields vs) → WSs (X.suite a ((a, oe) :: pn)) (b₀ :: suite) D σ H) :: l1, .only ⟨hg, hd, .inl mT⟩ (fun a oe cls d pn hz hv => ⟨fun pins s σ H D I h => h oe pn hz hv pins s I⟩) m1, ?_⟩
    intro ex F D c w1 σ1 H1 F1 cls dd q e1 r1 xi
    obtain ⟨C, d, v, h1, h2, h3, h4, h5, h6, h7⟩ := id xi
    have q : FinS X Wx fm ex F D (match xT hx x c.c with
      | some true => sLeaveO (ms { w1 with env := noX w1.env })
      | some false => hPick l c w1
      | none => .stuck) := q
    cases ht : xT hx x c.c with
    | none => rw [ht] at q; exact (show False from q).elim
    | some b =>
      rw [ht] at q
      refine ⟨b, by rw [h2]; exact cT.exm _ _ _ ht h1, fun hb1 a ha => ?_, fun hb0 => ?_⟩
      · subst hb1
        have q : FinS X Wx fm ex F D (sLeaveO (ms { w1 with env := noX w1.env })) := q
        intro oe pn hz hv
        rw [h2, h3] at hz
        refine (hsu a d C c.c oe pn ⟨hz, hv, h1⟩) ex _ H1 F1 _ _ (r1.enter a d c.c C) ?_
        revert q
        cases ms { w1 with env := noX w1.env } with
        | nx w2 => exact fun q σ' H' F' e r => q _ H' F' (e1.trans e) r.leave
        | brk w2 => exact fun q σ' H' F' e r => q _ H' F' (e1.trans e) r.leave
        | cnt w2 => exact fun q σ' H' F' e r => q _ H' F' (e1.trans e) r.leave
        | ret d w2 => exact fun q v σ' H' F' e r k => q v σ' H' F' (e1.trans e) r.leave k
        | exc c w2 => exact fun q => (show False from q).elim
        | stuck => exact fun q => (show False from q).elim
      · subst hb0
        exact ih ex F D c w1 σ1 H1 F1 cls dd q e1 r1 xi
  | _, _, .named (x := x) (i := i) (b₀ := b₀) (suite := suite) (l := l) (ms := ms) hi hln hc hg hd hsu r => by
    obtain ⟨l1, m1, ih⟩ := r.mix
    obtain ⟨T, mT, cT⟩ := hc.ex
    refine ⟨(.ref T, some i, fun a cls d D σ H => ∀ (oe : Obj) (pn : List (Addr × Obj)), Zc cls d oe → (∃ vs, oe.data = .fields vs) → WSs (X.suite a ((a, oe) :: pn)) (b₀ :: suite) D σ H) :: l1, .named hi hln ⟨hg, hd, .inl mT⟩ (fun a oe cls d pn hz hv => ⟨fun pins s σ H D I h => h oe pn hz hv pins s I⟩) m1, ?_⟩
    intro ex F D c w1 σ1 H1 F1 cls dd q e1 r1 xi
    obtain ⟨C, d, v, h1, h2, h3, h4, h5, h6, h7⟩ := id xi
    have q : FinS X Wx fm ex F D (match xT hx x c.c with
      | some true => sLeave i (ms { w1 with env := (noX w1.env).set i (some (.exn c)) })
      | some false => hPick l c w1
      | none => .stuck) := q
    cases ht : xT hx x c.c with
    | none => rw [ht] at q; exact (show False from q).elim
    | some b =>
      rw [ht] at q
      refine ⟨b, by rw [h2]; exact cT.exm _ _ _ ht h1, fun hb1 a ha => ?_, fun hb0 => ?_⟩
      · subst hb1
        have q : FinS X Wx fm ex F D (sLeave i (ms { w1 with env := (noX w1.env).set i (some (.exn c)) })) := q
        intro oe pn hz hv
        rw [h2, h3] at hz
        obtain ⟨F2, e2, h8, r2⟩ := (r1.enter a d c.c C).frzX h4 h6
        have r3 := r2.setX i (c := c) (vv := v) rfl h7 h8 (h5.ex e2)
        refine (hsu a d C c.c oe pn ⟨hz, hv, h1⟩) ex _ H1 F2 _ _ r3 ?_
        have eF : Ex F F2 := e1.trans e2
        revert q
        cases ms { w1 with env := (noX w1.env).set i (some (.exn c)) } with
        | nx w2 => exact fun q σ' H' F' e r => q _ H' F' (eF.trans e) (r.leave.setNone i none)
        | brk w2 => exact fun q σ' H' F' e r => q _ H' F' (eF.trans e) (r.leave.setNone i none)
        | cnt w2 => exact fun q σ' H' F' e r => q _ H' F' (eF.trans e) (r.leave.setNone i none)
        | ret d w2 => exact fun q v σ' H' F' e r k => q v σ' H' F' (eF.trans e) r.leave k
        | exc c w2 => exact fun q => (show False from q).elim
        | stuck => exact fun q => (show False from q).elim
      · subst hb0
        exact ih ex F D c w1 σ1 H1 F1 cls dd q e1 r1 xi
theorem ss_try {body : List Stmt} {h₀ : ExceptHandler} {hds : List ExceptHandler} {pos : Pos} {hx : HxT} {l : List HdM} {mb : W → RS} (hs : X.stack = X.env :: X.outer) (hf : X.env.frame = some X.env.locals) (hN : X.N.Nodup) (tk : Takes X Wx)
    (hb : ∀ (Wt : WX) (pn : List (Addr × Obj)) (xe : Value → Shared → Prop), Takes (X.tr pn xe) Wt → PassesOwn (model X.prog X.w) X.A X.env xe → SSs (X.tr pn xe) Wt fm body mb) (hh : HdsT X fm hx (h₀ :: hds) l) :
    SSt X Wx fm (.Try body (h₀ :: hds) [] [] pos) (sTryL l mb) := by
  obtain ⟨l1, m1, key⟩ := hh.mix (Wx := Wx)
  refine ⟨?_⟩
  intro ex σ H F w D r q
  refine WS.of (ps_try_mix (l := l1) (tb := fun Wt D σ H => ∀ (pn : List (Addr × Obj)) (xe : Value → Shared → Prop), Takes (X.tr pn xe) Wt → PassesOwn (model X.prog X.w) X.A X.env xe → WSs (X.tr pn xe) body D σ H)
    hs hf hN tk (fun Wt pn xe t p => ⟨fun pins s σ H D I h => h pn xe t p pins s I⟩) m1) ?_
  intro pn xe t p
  refine hb _ pn xe t p ex σ H F w D r ?_
  revert q
  unfold sTryL
  cases mb w with
  | exc c w1 => exact fun q σ1 H1 F1 cls dd e1 r1 xi => key ex F D c w1 σ1 H1 F1 cls dd q e1 r1 xi
  | _ => exact fun q => q
end
section
variable {w : W}
@[simp] theorem sTryL_ap (hs : List HdM) (body : W → RS) : sTryL hs body w = RS.tryL hs (body w) := rfl
@[simp] theorem tryL_nx (hs : List HdM) : RS.tryL hs (.nx w) = .nx w := rfl
@[simp] theorem tryL_ret (hs : List HdM) (d : D) : RS.tryL hs (.ret d w) = .ret d w := rfl
@[simp] theorem tryL_exc (hs : List HdM) (c : Exn) : RS.tryL hs (.exc c w) = hPick hs c w := rfl
@[simp] theorem hPick_nil (c : Exn) : hPick [] c w = .exc c w := rfl
@[simp] theorem hPick_some (tab : Str → Option Bool) (i : Nat) (ms : W → RS) (r : List HdM) (c : Exn) : hPick ((tab, some i, ms) :: r) c w = match tab c.c with
    | some true => sLeave i (ms { w with env := (noX w.env).set i (some (.exn c)) })
    | some false => hPick r c w
    | none => .stuck := rfl
@[simp] theorem hPick_none (tab : Str → Option Bool) (ms : W → RS) (r : List HdM) (c : Exn) : hPick ((tab, none, ms) :: r) c w = match tab c.c with
    | some true => sLeaveO (ms { w with env := noX w.env })
    | some false => hPick r c w
    | none => .stuck := rfl
end
end TD
namespace TD
open PySem PySem.Spec PyProof.Rows L2
/-! ### the module's fixed rows -/
mutual
def dIn (K : PySem.W.Frag) : D → Value → Bool
  | .non, .none => true
  | .bl b, .bool c => b == c
  | .int i, .int j _ => i == j
  | .str x, .str y _ => x == y
  | .tup ds, .ref a => (match K.lookup a with
    | some ⟨.type c, none, .seq its _, _⟩ => c == "tuple" && (decide (its.size ≤ 1000000) && dIns K ds its.toList)
    | _ => false)
  | _, _ => false
def dIns (K : PySem.W.Frag) : List D → List Value → Bool
  | [], [] => true
  | d :: ds, v :: vs => dIn K d v && dIns K ds vs
  | _, _ => false
end
mutual
theorem dIn_ok {K : PySem.W.Frag} : ∀ (d : D) (v : Value), dIn K d v = true → ∃ u : V, RelV u v ∧ ∀ a0 F, Rp K a0 F u d
  | .non, v, h => by cases v <;> simp [dIn] at h; exact ⟨.non, rfl, fun _ _ => .non⟩
  | .bl b, v, h => by
    cases v <;> simp [dIn] at h
    subst h
    exact ⟨.bl b, rfl, fun _ _ => .bl b⟩
  | .int i, v, h => by
    cases v <;> simp [dIn] at h
    subst h
    exact ⟨.int i, ⟨_, rfl⟩, fun _ _ => .int i⟩
  | .str x, v, h => by
    cases v <;> simp [dIn] at h
    subst h
    exact ⟨.str x, ⟨_, rfl⟩, fun _ _ => .str x⟩
  | .src, v, h => by cases v <;> simp [dIn] at h
  | .lst _, v, h => by cases v <;> simp [dIn] at h
  | .tup ds, v, h => by
    cases v with
    | ref a =>
      rw [dIn] at h
      split at h
      · rename_i c its n sl hl
        simp only [Bool.and_eq_true, beq_iff_eq, decide_eq_true_eq] at h
        obtain ⟨rfl, hz, h⟩ := h
        obtain ⟨us, hu, hr⟩ := dIns_ok ds its.toList h
        exact ⟨.ref a, rfl, fun a0 F => .tup (.inr ⟨_, its, n, hl, rfl, rfl, line_of hz, hu⟩) (hr a0 F)⟩
      · cases h
    | _ => simp [dIn] at h
theorem dIns_ok {K : PySem.W.Frag} : ∀ (ds : List D) (vs : List Value), dIns K ds vs = true → ∃ us : List V, Vals us vs ∧ ∀ a0 F, RpAll K a0 F us ds
  | [], vs, h => by
    cases vs <;> simp [dIns] at h
    exact ⟨[], .nil, fun _ _ => .nil⟩
  | d :: ds, vs, h => by
    cases vs with
    | nil => simp [dIns] at h
    | cons v vs =>
      simp only [dIns, Bool.and_eq_true] at h
      obtain ⟨u, h1, h2⟩ := dIn_ok d v h.1
      obtain ⟨us, h3, h4⟩ := dIns_ok ds vs h.2
      exact ⟨u :: us, .cons h1 h3, fun a0 F => .cons (h2 a0 F) (h4 a0 F)⟩
end
/-- the module's name x is the fixed row d -/
structure KstX (K : PySem.W.Frag) (mg : Str → Option Value) (x : Str) (d : D) : Prop where
  ex : ∃ (u : V) (v : Value), mg x = some v ∧ RelV u v ∧ ∀ a0 F, Rp K a0 F u d
def kstB (K : PySem.W.Frag) (x : Str) (d : D) : Bool := match PySem.W.nsIn K mainGlobals x with
  | some (some v) => dIn K d v
  | _ => false
theorem kst_ok {K : PySem.W.Frag} {h : Heap} {mg : Str → Option Value} {x : Str} {d : D} (X : K.In h) (G : h.Ns mainGlobals mg) (c : kstB K x d = true) : KstX K mg x d := by
  unfold kstB at c
  split at c
  · rename_i v e
    obtain ⟨u, h1, h2⟩ := dIn_ok d v c
    exact ⟨u, v, PySem.W.mg_of X G e, h1, h2⟩
  · cases c
theorem se_kst {X : Cx} {Wx : WX} {fm : Fm} {x : Str} {d : D} {pos : Pos} (h : KstX X.K X.mg x d) (hg : Gl X x := by rfl) (hd : (x == ("__debug__" : Str)) = false := by decide) : SE X Wx fm (.Name x pos) (mC d) := by
  obtain ⟨u, v, h1, h2, h3⟩ := h.ex
  exact se_glob hg h1 h2 (h3 _) hd
def ckAll (l : List Bool) : Bool := l.all id
theorem ckAt {l : List Bool} (h : ckAll l = true) (i : Nat) {b : Bool} (e : l[i]? = some b) : b = true := by
  have := List.all_eq_true.mp h b (List.mem_of_getElem? e)
  simpa using this
end TD

set_option Elab.async false
set_option linter.all false
set_option maxRecDepth 100000
set_option maxHeartbeats 4000000
namespace TD
open PySem PySem.Spec PySem.Calls PyProof.Rows L2
/-! ### enumerate of a tuple -/
theorem meets_enumerate_new1 {v : Value} {o : Obj} {H : Heap → Prop} (B : Begins v o H) :
    Meets (Builtin.«enumerate.__new__» ⟨[.type "enumerate", v], []⟩) (fun _ R s => H s.heap ∧
      R (.ok (.ret (.ref (s.heap.push o).objs.size))) { s with heap := (s.heap.push o).push { cls := .type "enumerate", data := .fields #[.none, .bool false, .ref s.heap.objs.size, rawInt 0, .none, .none] } }) :=
  .of_wp fun prog w A R s h => by
    obtain ⟨hp, g, d, tk, os⟩ := s; obtain ⟨h1, h⟩ := h
    have hsub := sub_enumerate
    have q1 : ∀ {A' : Around} {E : Value → Shared → Prop} {Q : Value → Shared → Prop}, Q (.ref hp.objs.size) ⟨hp.push o, g, d, tk, os⟩ → wpAny (model prog w) A' (pyIter v) Q E ⟨hp, g, d, tk, os⟩ :=
      fun q => B.iter prog w _ _ ⟨hp, g, d, tk, os⟩ _ h1 q
    wp_walk using q1
    refine wpAny_stack_any fun st => wpAny_pure ?_
    split
    · rename_i c _ _ _ _ _
      cases (c == Value.type "enumerate")
      · wp_walk using q1
        exact ⟨_, rfl, h⟩
      · wp_walk using q1
        exact ⟨_, rfl, h⟩
    · wp_walk using q1
      exact ⟨_, rfl, h⟩
section
variable {prog : Program} {w : World} {A : Around} {E : Value → Shared → Prop} {s : Shared}
theorem enum_begins1 {v : Value} {o : Obj} {H : Heap → Prop} {Q : Value → Shared → Prop} (B : Begins v o H) (h1 : H s.heap)
    (h : ∀ h', IsEnum h' (s.heap.objs.size + 1) s.heap.objs.size 0 .none → h'.get? s.heap.objs.size = some o → (∀ b o, s.heap.get? b = some o → h'.get? b = some o) → Q (.ref (s.heap.objs.size + 1)) { s with heap := h' }) :
    wpAny (model prog w) A (call (.type "enumerate") [v]) Q E s := by
  refine callType_new F.called_enumerate (by decide) (F.typeCall_enumerate_1 _) (F.newCall_enumerate_1 _) (fun obj => F.args_object_init_2 obj _) F.entry_enumerate_new (meets_enumerate_new1 B) ⟨h1, ?_⟩
  have hz : (s.heap.push o).objs.size = s.heap.objs.size + 1 := Heap.size_push ..
  show _ ∧ _
  rw [hz]
  have he : IsEnum ((s.heap.push o).push { cls := .type "enumerate", data := .fields #[.none, .bool false, .ref s.heap.objs.size, rawInt 0, .none, .none] }) (s.heap.objs.size + 1) s.heap.objs.size 0 .none := by
    have := Heap.get?_push_size (s.heap.push o) (o := { cls := .type "enumerate", data := .fields #[.none, .bool false, .ref s.heap.objs.size, rawInt 0, .none, .none] }) rfl
    rw [hz] at this; exact this
  exact ⟨⟨_, he, rfl⟩, h _ he (Heap.get?_push_of_some _ (Heap.get?_push_size _ B.free)) fun b o x => Heap.get?_push_of_some _ (Heap.get?_push_of_some _ x)⟩
end
def IteT (K : PySem.W.Frag) (a : Addr) : It :=
  ⟨fun i H => ∃ (xs : List V) (x : V), SqT K H a xs ∧ xs[i]? = some x, fun i H v H' => ∃ T x, v = .ref T ∧ H T = none ∧ H' = upd H T (.tup [.int (i : Nat), x]) ∧ ∀ xs, SqT K H a xs → xs[i]? = some x, fun i H => ∃ xs : List V, SqT K H a xs ∧ xs.length ≤ i⟩
theorem turn_enumT {P : Program} {w : World} {K : PySem.W.Frag} {elts : List Expr} {kk : Nat} {tpos : Pos} (a e it : Addr) :
    Turn P w K (.Tuple elts kk tpos) (IteT K a) [e, it] e (fun i h => (∃ old, IsEnum h e it ((i : Nat) : Int) old) ∧ h.IsTupleIter it a i ∧ e ≠ it ∧ e ≠ a ∧ a ≠ it) where
  mem := by simp
  obj := fun i h st b hb => by
    obtain ⟨⟨old, he⟩, ⟨o, ho, hc, hd⟩, _⟩ := st
    have e' : b = e ∨ b = it := by simpa using hb
    rcases e' with z | z
    · rw [z]; exact ⟨_, he, fun v q => nomatch q⟩
    · rw [z]; exact ⟨o, ho, fun v q => by rw [hd] at q; cases q⟩
  keep := fun i h h' st k => let ⟨⟨old, he⟩, hi, hne⟩ := st; ⟨⟨old, k e (by simp) _ he⟩, hi.at fun o q => k it (by simp) o q, hne⟩
  item := by
    intro X hP hw hK hc i pins s σ H E I hf st hg
    subst hP hw hK
    obtain ⟨⟨old, he⟩, hit, hne, hea, hai⟩ := st
    obtain ⟨xs, x, hq, hx⟩ := hg
    obtain ⟨its, rv, p, hz⟩ := I.tuple hq
    obtain ⟨u, hu, ru⟩ := rv.get hx
    have hel : e < s.heap.objs.size := Heap.lt_size he
    have hil : it < s.heap.objs.size := by obtain ⟨_, q, _⟩ := hit; exact Heap.lt_size q
    have hlt : i < its.toArray.size := by
      have := (List.getElem?_eq_some_iff.mp hu).1
      simpa using this
    have Dr : Draws X.prog X.w X.A.in1 it [it, a] its.toArray.size (fun i v => its.toArray[i]? = some v) (fun i h => h.IsTupleIter it a i ∧ h.IsTuple a its.toArray) := Draws.tuple (by rw [show X.A.in1.handled = X.A.handled from rfl]; exact I.ok.hd hc) it a hai its.toArray
    refine wpAny_pyNext_enum_itemC Dr he ⟨hit, show s.heap.IsTuple a its.toArray from p⟩ hlt hne (by simp [hne, hea]) fun y h' tk hy ho hst' hT hsz hk => ?_
    have hyu : y = u := by
      have e1 : its.toArray[i]? = some y := hy
      have e2 : its.toArray[i]? = some u := by simpa using hu
      rw [e1] at e2; exact Option.some.inj e2
    subst hyu
    refine ⟨_, rfl, wpAny_letOwnedTupleGo_enum (s := { s with heap := h', toks := tk + 1 }) ho fun h'' he' sb => ?_⟩
    have hT2 : h''.get? s.heap.objs.size = some { cls := .type "tuple", data := .seq #[.int i tk, y] } := (sb.2 _ (Nat.ne_of_gt hel)).trans hT
    have new : ObjOk X.prog X.w (upd H s.heap.objs.size (.tup [.int (i : Nat), x])) h'' s.heap.objs.size (.tup [.int (i : Nat), x]) :=
      ⟨by show 2 ≤ sizeLine; decide, [.int i tk, y], .cons ⟨_, rfl⟩ (.cons ru .nil), ⟨_, hT2, rfl, _, rfl⟩⟩
    have I1 : L2.Inv X pins σ (upd H s.heap.objs.size (.tup [.int (i : Nat), x])) { s with heap := h'', toks := tk + 1 } :=
      I.turnedNew (ch := [e, it]) (fun b ob hb q => (sb.2 b (fun z => hb (by simp [z]))).trans (hk b ob (fun z => hb (by simp [z])) (fun z => hb (by simp [z])) q)) hf (Nat.le_refl _) new
    refine ⟨.ref s.heap.objs.size, _, I1, rfl, ⟨_, x, rfl, I.hok.fresh (Nat.le_refl _), rfl, fun ys hy => by rw [I.tuple_inj hy hq]; exact hx⟩, ⟨⟨y, ?_⟩, hst'.1.at fun o q => (sb.2 it (Ne.symm hne)).trans q, hne, hea, hai⟩, fun b hb => ?_⟩
    · have e1 : ((i + 1 : Nat) : Int) = (i : Int) + 1 := by omega
      rw [e1]; exact he'
    · have hb' : b < s.heap.objs.size := by
        have e' : b = e ∨ b = it := by simpa using hb
        rcases e' with z | z
        · rw [z]; exact hel
        · rw [z]; exact hil
      rw [upd_ne (Nat.ne_of_lt hb')]
      exact (hf b hb).1
  done := by
    intro X hP hw hK hc i pins s σ H E I hf st hg
    subst hP hw hK
    obtain ⟨⟨old, he⟩, hit, hne, hea, hai⟩ := st
    obtain ⟨xs, hq, hx⟩ := hg
    obtain ⟨its, rv, p, hz⟩ := I.tuple hq
    obtain ⟨f0, f1, f2, f3, f4, f5⟩ := hf it (by simp)
    have hl := rv.length
    have hh : X.A.in1.handled = none := by rw [show X.A.in1.handled = X.A.handled from rfl]; exact I.ok.hd hc
    have Dr : Draws X.prog X.w X.A.in1 it [it, a] i (fun _ _ => False) (fun j h => j = i ∧ h.IsTupleIter it a j ∧ h.IsTuple a its.toArray ∧ its.toArray.size ≤ j) := by
      refine ⟨fun _ _ st => let ⟨o, ho, _⟩ := st.2.1; ⟨o, ho⟩, fun _ _ _ st hk => ⟨st.1, st.2.1.at fun o e => hk it (by simp) o e, st.2.2.1.at fun o e => hk a (by simp) o e, st.2.2.2⟩, fun j s Q E hj st hQ => absurd st.1 (Nat.ne_of_lt hj), fun s Q E st hE => ?_⟩
      exact wpAny_nextOf_tuple_end hh st.2.1 st.2.2.1 (by have := st.2.2.2; simp only [Array.getElem?_eq_none_iff]; exact this) hE
    exact wpAny_pyNext_enum_endD Dr he ⟨rfl, hit, show s.heap.IsTuple a its.toArray from p, by simp; omega⟩ fun h' eb => ⟨rfl, I.turned (t' := s.toks) (fun b o hb q => eb b o hb q) f0 f1 f3 f4 f5⟩
  self := fun A i s Q E st h => let ⟨⟨_, he⟩, _⟩ := st; wpAny_pyIter_enum he h
def iEnumT (K : PySem.W.Frag) (ta : TA) : TI := fun σ H R => ta σ H fun vs H1 => ∃ a xs, vs = [.ref a] ∧ ((SqL K H1 a xs ∧ R (Ite K a) H1) ∨ (SqT K H1 a xs ∧ R (IteT K a) H1))
theorem pi_enumA {X : Cx} {e : Expr} {ta : TA} {p pos tpos : Pos} {elts : List Expr} {kk : Nat} (hg : Gl X "enumerate") (hm : X.mg "enumerate" = none) (ha : PA X [e] ta) (hs : starEach [e] X.env = [(false, eval e X.env)] := by rfl) :
    PI X (.Tuple elts kk tpos) (.Call (.Name "enumerate" p) [e] [] pos) (iEnumT X.K ta) := by
  refine ⟨fun pins s σ H R I h => ?_⟩
  refine Call_ (ld_blt I hg hm boot_enumerate (PyProof.Rows.callWith_type1 (thn (ha.run pos pins s σ H _ I h) fun us s1 ⟨vs, H1, I1, r1, q1⟩ => ?_) hs rfl))
  obtain ⟨a, xs, ex, q1⟩ := q1
  subst ex
  cases r1 with
  | cons r rr =>
    cases rr
    cases r
    have two : ∀ b, b ∈ [s1.heap.objs.size + 1, s1.heap.objs.size] → FpOk X pins H1 b := fun b hb => by
      have e' : b = s1.heap.objs.size + 1 ∨ b = s1.heap.objs.size := by simpa using hb
      have hle : s1.heap.objs.size ≤ b := by
        rcases e' with z | z
        · rw [z]; exact Nat.le_add_right _ _
        · rw [z]; exact Nat.le_refl _
      exact I1.fpOk hle (I1.hok.fresh hle)
    rcases q1 with ⟨hq, q⟩ | ⟨hq, q⟩
    · obtain ⟨its, rv, p', hz⟩ := I1.list hq
      refine call_enumerate_list p'.isList fun h' he hit hsz hk => wpAny_pyIter_enum he ?_
      have I2 : L2.Inv X pins σ H1 { s1 with heap := h' } := I1.kept (t' := s1.toks) hk
      exact ⟨s1.heap.objs.size + 1, [s1.heap.objs.size + 1, s1.heap.objs.size], _, _, H1, rfl, I2, turn_enum a (s1.heap.objs.size + 1) s1.heap.objs.size, ⟨⟨.none, he⟩, hit, Nat.succ_ne_self _⟩, two, q⟩
    · obtain ⟨its, rv, p', hz⟩ := I1.tuple hq
      obtain ⟨o', ho', _⟩ := id p'
      have hlt := Heap.lt_size ho'
      refine enum_begins1 (begins_tuple a its.toArray) (show s1.heap.IsTuple a its.toArray from p') fun h' he hit hk => wpAny_pyIter_enum he ?_
      have I2 : L2.Inv X pins σ H1 { s1 with heap := h' } := I1.kept (t' := s1.toks) hk
      exact ⟨s1.heap.objs.size + 1, [s1.heap.objs.size + 1, s1.heap.objs.size], _, _, H1, rfl, I2, turn_enumT a (s1.heap.objs.size + 1) s1.heap.objs.size, ⟨⟨.none, he⟩, ⟨_, hit, rfl, rfl⟩, Nat.succ_ne_self _, Nat.ne_of_gt (Nat.lt_succ_of_lt hlt), Nat.ne_of_lt hlt⟩, two, q⟩
theorem walk_enumT {K : PySem.W.Frag} {a : Addr} {xs : List V} : Walk (IteT K a) xs.length (fun H => SqT K H a xs) (YPair (fun i => some (.int (i : Nat))) (fun i => xs[i]?)) := by
  refine ⟨fun i _ hi q => ⟨xs, xs[i], q, by simp [hi]⟩, fun _ q => ⟨xs, q, Nat.le_refl _⟩, fun i H v H' _ q y => ?_⟩
  obtain ⟨T, x, h1, h2, h3, h4⟩ := y
  exact ⟨T, .int (i : Nat), x, h1, h2, h3, rfl, h4 xs q⟩
theorem walk_zipT {K : PySem.W.Frag} {a b : Addr} {xs ys : List V} {n : Nat} (hn : n = min xs.length ys.length) : Walk (RZ.ItzT K a b) n (fun H => SqT K H a xs ∧ SqT K H b ys) (YPair (fun i => xs[i]?) (fun i => ys[i]?)) := by
  subst hn
  refine ⟨fun i _ hi q => ?_, fun _ q => ⟨xs, ys, q.1, q.2, by omega⟩, fun i H v H' _ q y => ?_⟩
  · have h1 : i < xs.length := by omega
    have h2 : i < ys.length := by omega
    exact ⟨xs, ys, xs[i], ys[i], q.1, q.2, by simp [h1], by simp [h2]⟩
  · obtain ⟨T, x, z, h1, h2, h3, h4, h5⟩ := y
    exact ⟨T, x, z, h1, h2, h3, h4 xs q.1, h5 ys q.2⟩
section
variable {X : Cx} {Wx : WX} {fm : Fm}
/-- zip of two lists, of two tuples -/
def mZipA (ma mb : W → R D) : W → R (List D) := fun w => (ma w).bind fun x w1 => (mb w1).bind fun y w2 => R.lift (match x, y with | .lst a, .lst b => some (zipD a b) | .tup a, .tup b => some (zipD a b) | _, _ => none) w2
theorem si_zipA {e e2 : Expr} {p pos tpos : Pos} {elts : List Expr} {kk : Nat} {ma mb : W → R D} (ha : SE X Wx fm e ma) (hb : SE X Wx fm e2 mb) (hm : X.mg "zip" = none) (hg : Gl X "zip" := by rfl)
    (hs : starEach [e, e2] X.env = (false, eval e X.env) :: starEach [e2] X.env := by rfl) (hs2 : starEach [e2] X.env = (false, eval e2 X.env) :: starEach [] X.env := by rfl) (hpl : (backTo pos (starEach [e2] X.env)).any (·.1) = false := by rfl) :
    SIt X Wx fm (.Tuple elts kk tpos) (.Call (.Name "zip" p) [e, e2] [] pos) (mZipA ma mb) := by
  refine ⟨?_⟩
  intro ex σ H F w R r q
  refine WI.of (RZ.pi_zipA hg hm (pa_cons pe_we (pa_cons pe_we pa_nil hs2) hs) hs hpl) ?_
  show WE X e σ H fun x H1 => WE X e2 σ H1 fun y H2 => ∃ a b xs ys, [x, y] = [.ref a, .ref b] ∧ ((SqL X.K H2 a xs ∧ SqL X.K H2 b ys ∧ R (Itz X.K a b) H2) ∨ (SqT X.K H2 a xs ∧ SqT X.K H2 b ys ∧ R (RZ.ItzT X.K a b) H2))
  refine ha ex σ H F w _ r ((Fin.bind q).imp fun x w1 H1 F1 ⟨r1, k1, e1, q1⟩ v hv => ?_)
  refine hb ex σ H1 F1 w1 _ r1 ((Fin.bind q1).imp fun y w2 H2 F2 ⟨r2, k2, e2, q2⟩ u hu => ?_)
  obtain ⟨z, hz, q3⟩ := q2.lift
  have hv := hv.ex e2
  cases hv with
  | @lst p1 vs l h1 h2 =>
    cases hu with
    | @lst p2 us l2 h3 h4 =>
      cases hz
      refine ⟨p1, p2, vs, us, rfl, .inl ⟨.inl (.inl (r2.fh _ _ h1)), .inl (.inl (r2.fh _ _ h3)), q3 H2 F2 Kp.refl (Ex.refl _) r2 _ ?_⟩⟩
      have hn : (zipD l l2).length = min vs.length us.length := by simp [zipD, h2.len, h4.len]
      refine wk_pair (walk_zip hn) (fun H' e => ⟨.inl (.inl (e _ _ h1)), .inl (.inl (e _ _ h3))⟩) fun i x y hi hx hy => ?_
      obtain ⟨d, g1, g2⟩ := h2.getv hx
      obtain ⟨d2, g3, g4⟩ := h4.getv hy
      exact ⟨d, d2, by simp [zipD, List.getElem?_zipWith, g1, g3], g2, g4⟩
    | _ => cases hz
  | @tup p1 vs l h1 h2 =>
    cases hu with
    | @tup p2 us l2 h3 h4 =>
      cases hz
      refine ⟨p1, p2, vs, us, rfl, .inr ⟨ex_t r2.fh h1, ex_t r2.fh h3, q3 H2 F2 Kp.refl (Ex.refl _) r2 _ ?_⟩⟩
      have hn : (zipD l l2).length = min vs.length us.length := by simp [zipD, h2.len, h4.len]
      refine wk_pair (walk_zipT hn) (fun H' e => ⟨ex_t e h1, ex_t e h3⟩) fun i x y hi hx hy => ?_
      obtain ⟨d, g1, g2⟩ := h2.getv hx
      obtain ⟨d2, g3, g4⟩ := h4.getv hy
      exact ⟨d, d2, by simp [zipD, List.getElem?_zipWith, g1, g3], g2, g4⟩
    | _ => cases hz
  | _ => cases hu <;> cases hz
def mEnumA (ma : W → R D) : W → R (List D) := fun w => (ma w).bind fun x w1 => R.lift (match x with | .lst a => some (enumD 0 a) | .tup a => some (enumD 0 a) | _ => none) w1
theorem si_enumA {e : Expr} {p pos tpos : Pos} {elts : List Expr} {kk : Nat} {ma : W → R D} (ha : SE X Wx fm e ma) (hm : X.mg "enumerate" = none) (hg : Gl X "enumerate" := by rfl)
    (hs : starEach [e] X.env = [(false, eval e X.env)] := by rfl) (hs2 : starEach [e] X.env = (false, eval e X.env) :: starEach [] X.env := by rfl) :
    SIt X Wx fm (.Tuple elts kk tpos) (.Call (.Name "enumerate" p) [e] [] pos) (mEnumA ma) := by
  refine ⟨?_⟩
  intro ex σ H F w R r q
  refine WI.of (pi_enumA hg hm (pa_cons pe_we pa_nil hs2) hs) ?_
  show WE X e σ H fun x H1 => ∃ a xs, [x] = [.ref a] ∧ ((SqL X.K H1 a xs ∧ R (Ite X.K a) H1) ∨ (SqT X.K H1 a xs ∧ R (IteT X.K a) H1))
  refine ha ex σ H F w _ r ((Fin.bind q).imp fun x w1 H1 F1 ⟨r1, k1, e1, q1⟩ v hv => ?_)
  obtain ⟨z, hz, q3⟩ := q1.lift
  cases hv with
  | @lst p1 vs l h1 h2 =>
    cases hz
    refine ⟨p1, vs, rfl, .inl ⟨.inl (.inl (r1.fh _ _ h1)), q3 H1 F1 Kp.refl (Ex.refl _) r1 _ ?_⟩⟩
    refine wk_pair (G := fun H' => SqL X.K H' p1 vs) (f := fun i => some (.int (i : Nat))) (g := fun i => vs[i]?) (by rw [enumD_len, ← h2.len]; exact walk_enum) (fun H' e => .inl (.inl (e _ _ h1))) fun i x y hi hx hy => ?_
    cases hx
    obtain ⟨d, g1, g2⟩ := h2.getv hy
    exact ⟨.int i, d, by simpa using enumD_get 0 i l d g1, .int _, g2⟩
  | @tup p1 vs l h1 h2 =>
    cases hz
    refine ⟨p1, vs, rfl, .inr ⟨ex_t r1.fh h1, q3 H1 F1 Kp.refl (Ex.refl _) r1 _ ?_⟩⟩
    refine wk_pair (G := fun H' => SqT X.K H' p1 vs) (f := fun i => some (.int (i : Nat))) (g := fun i => vs[i]?) (by rw [enumD_len, ← h2.len]; exact walk_enumT) (fun H' e => ex_t e h1) fun i x y hi hx hy => ?_
    cases hx
    obtain ⟨d, g1, g2⟩ := h2.getv hy
    exact ⟨.int i, d, by simpa using enumD_get 0 i l d g1, .int _, g2⟩
  | _ => cases hz
/-! ### a part of a tuple, of a text -/
def D.slc (d : D) (a b : Option Int) : Option D := match d with
  | .tup l => some (.tup (cutD l a b))
  | .str z => if z.length ≤ 1000000 then some (.str (cutS z a b)) else none
  | _ => none
def mSlX (m : W → R D) (lo hi : W → R (Option Int)) : W → R D := fun w => (m w).bind fun d w1 => (lo w1).bind fun a w2 => (hi w2).bind fun b w3 => R.lift (d.slc a b) w3
theorem se_slX {e : Expr} {lo hi : Option Expr} {p2 pos : Pos} {m : W → R D} {ml mh : W → R (Option Int)} (h : SE X Wx fm e m) (hl : SO X Wx fm lo ml) (hh : SO X Wx fm hi mh) : SE X Wx fm (.Subscript e (.Slice lo hi none p2) pos) (mSlX m ml mh) := by
  refine ⟨?_⟩
  intro ex σ H F w Q r q
  obtain ⟨tl, pl, gl⟩ := hl
  obtain ⟨th, ph, gh⟩ := hh
  refine WE.of (pe_slice (sl_tupA.or sl_str) pe_we pl ph) ?_
  show WE X e σ H fun x H1 => tl σ H1 fun l H2 => th σ H2 fun u H3 => rSlA X.K x l u H3 Q ∨ rSlS x l u H3 Q
  refine h ex σ H F w _ r ((Fin.bind q).imp fun d w1 H1 F1 ⟨r1, k1, e1, q1⟩ v hv => ?_)
  refine gl ex σ H1 F1 w1 _ r1 ((Fin.bind q1).imp fun a w2 H2 F2 ⟨r2, k2, e2, q2⟩ => ?_)
  refine gh ex σ H2 F2 w2 _ r2 ((Fin.bind q2).imp fun b w3 H3 F3 ⟨r3, k3, e3, q3⟩ => ?_)
  obtain ⟨z, hz, q4⟩ := q3.lift
  have hv := (hv.ex e2).ex e3
  cases hv with
  | @tup p vs l h1 h2 =>
    cases hz
    refine .inl ⟨_, _, rfl, ex_t r3.fh h1, fun hw => ?_, fun _ p' hp => ?_⟩
    · have ec : cutD l a b = l := by
        have hw' : HT.sIx l.length 0 a = 0 ∧ HT.sIx l.length l.length b = l.length := by rw [← h2.len]; exact hw
        unfold TD.cutD
        rw [hw'.1, hw'.2]
        simp
      refine q4 H3 F3 Kp.refl (Ex.refl _) r3 _ ?_
      show Rp X.K fm.a0 F3 (V.ref p) (.tup (cutD l a b))
      rw [ec]
      exact .tup h1 h2
    · have g : Gr H3 F3 (upd H3 p' (.tup (cutV vs a b))) (upd F3 p' (.tup (cutV vs a b))) := Gr.new r3.fh hp
      exact q4 _ _ g.kp g.ff (r3.gr g) _ (.tup (.inl (.inl upd_same)) ((rp_cut h2 a b).ex g.ff))
  | str z' =>
    have hz : (if z'.length ≤ 1000000 then some (D.str (cutS z' a b)) else none) = some z := hz
    by_cases hl : z'.length ≤ 1000000
    · rw [if_pos hl] at hz
      cases hz
      exact .inr ⟨z', rfl, line_of hl, q4 H3 F3 Kp.refl (Ex.refl _) r3 _ (.str _)⟩
    · rw [if_neg hl] at hz; cases hz
  | _ => cases hz
/-! ### in, of texts too -/
def subS (i j : Str) : Bool := !(Builtin.Str.occurrences j i 0 j.length 1).isEmpty
def gInX : D → D → Option D
  | .str i, .str j => some (.bl (subS i j))
  | d, e => gIn d e
def gNotInX : D → D → Option D
  | .str i, .str j => some (.bl (!subS i j))
  | d, e => gNotIn d e
theorem dop_inX {a0 : Addr} : DOp X a0 (compareOp .In) gInX := by
  intro x y d e r H F Q hf hx hy hg k
  cases hy with
  | str j =>
    cases hx with
    | str i =>
      cases hg
      exact W2.of op_in_str ⟨_, _, rfl, rfl, k _ _ _ (Gr.refl hf) (.bl _)⟩
    | _ => cases hg
  | tup h1 h2 => exact dop_in x _ d _ r H F Q hf hx (.tup h1 h2) (by cases d <;> exact hg) k
  | lst h1 h2 => exact dop_in x _ d _ r H F Q hf hx (.lst h1 h2) (by cases d <;> exact hg) k
  | _ => cases d <;> cases hg
theorem dop_notInX {a0 : Addr} : DOp X a0 (compareOp .NotIn) gNotInX := by
  intro x y d e r H F Q hf hx hy hg k
  cases hy with
  | str j =>
    cases hx with
    | str i =>
      cases hg
      exact W2.of op_notIn_str ⟨_, _, rfl, rfl, k _ _ _ (Gr.refl hf) (.bl _)⟩
    | _ => cases hg
  | tup h1 h2 => exact dop_notIn x _ d _ r H F Q hf hx (.tup h1 h2) (by cases d <;> exact hg) k
  | lst h1 h2 => exact dop_notIn x _ d _ r H F Q hf hx (.lst h1 h2) (by cases d <;> exact hg) k
  | _ => cases d <;> cases hg
/-! ### join, upper -/
def strs? : List D → Option (List Str)
  | [] => some []
  | .str x :: l => (strs? l).map (x :: ·)
  | _ => none
theorem strs_rp {K : PySem.W.Frag} {a0 : Addr} {F : Hp} : ∀ {l : List D} {ns : List Str} {vs : List V}, strs? l = some ns → RpAll K a0 F vs l → vs = ns.map V.str
  | [], ns, _, e, h => by cases e; cases h; rfl
  | .str i :: l, ns, _, e, h => by
    unfold strs? at e
    cases q : strs? l with
    | none => rw [q] at e; cases e
    | some ms =>
      rw [q] at e
      cases e
      cases h with
      | cons h1 h2 =>
        cases h1
        rw [strs_rp q h2]
        rfl
  | .non :: _, _, _, e, _ => by cases e
  | .bl _ :: _, _, _, e, _ => by cases e
  | .int _ :: _, _, _, e, _ => by cases e
  | .tup _ :: _, _, _, e, _ => by cases e
  | .lst _ :: _, _, _, e, _ => by cases e
  | .src :: _, _, _, e, _ => by cases e
def joinD (a : Str) (d : D) : Option D := (d.seq?.bind strs?).bind fun ys => if (ys.map (·.length)).sum + ys.length * a.length ≤ 1000000 then some (.str (Txt.join a ys)) else none
def mJoin (ma mb : W → R D) : W → R D := fun w => (ma w).bind fun x w1 => match x with
  | .str a => (mb w1).bind fun y w2 => R.lift (joinD a y) w2
  | _ => .stuck
theorem se_join {o e : Expr} {apos pos : Pos} {ma mb : W → R D} (ha : SE X Wx fm o ma) (hb : SE X Wx fm e mb) (hs : starEach [e] X.env = [(false, eval e X.env)] := by rfl) (hbase : attributeBase o "join" X.env (eval o X.env) = eval o X.env := by rfl) (hline : (apos.endLine == pos.line) = true := by rfl) :
    SE X Wx fm (.Call (.Attribute o "join" apos) [e] [] pos) (mJoin ma mb) := by
  refine ⟨?_⟩
  intro ex σ H F w Q r q
  refine WE.of (pe_join pe_we pe_we hs hbase hline) ?_
  show WE X o σ H fun x H1 => (∃ a, x = .str a) ∧ WE X e σ H1 fun y H2 => ∃ a p, ∃ ys : List Str, x = .str a ∧ [y] = [.ref p] ∧ (SqL X.K H2 p (ys.map V.str) ∨ SqT X.K H2 p (ys.map V.str)) ∧ (ys.map (·.length)).sum + ys.length * a.length ≤ 16777216 ∧ Q (.str (Txt.join a ys)) H2
  refine ha ex σ H F w _ r ((Fin.bind q).imp fun x w1 H1 F1 ⟨r1, k1, e1, q1⟩ v hv => ?_)
  cases hv with
  | str a =>
    refine ⟨⟨a, rfl⟩, hb ex σ H1 F1 w1 _ r1 ((Fin.bind q1).imp fun y w2 H2 F2 ⟨r2, k2, e2, q2⟩ u hu => ?_)⟩
    obtain ⟨z, hz, q3⟩ := q2.lift
    have hz : joinD a y = some z := hz
    unfold joinD at hz
    cases hu with
    | @tup p us l h1 h2 =>
      have hz : (strs? l).bind (fun ys => if (ys.map (·.length)).sum + ys.length * a.length ≤ 1000000 then some (D.str (Txt.join a ys)) else none) = some z := hz
      cases hs : strs? l with
      | none => rw [hs] at hz; cases hz
      | some ys =>
        rw [hs] at hz
        have hz : (if (ys.map (·.length)).sum + ys.length * a.length ≤ 1000000 then some (D.str (Txt.join a ys)) else none) = some z := hz
        by_cases hl : (ys.map (·.length)).sum + ys.length * a.length ≤ 1000000
        · rw [if_pos hl] at hz
          cases hz
          have ev := strs_rp hs h2
          subst ev
          exact ⟨a, p, ys, rfl, rfl, .inr (ex_t r2.fh h1), by omega, q3 H2 F2 Kp.refl (Ex.refl _) r2 _ (.str _)⟩
        · rw [if_neg hl] at hz; cases hz
    | @lst p us l h1 h2 =>
      have hz : (strs? l).bind (fun ys => if (ys.map (·.length)).sum + ys.length * a.length ≤ 1000000 then some (D.str (Txt.join a ys)) else none) = some z := hz
      cases hs : strs? l with
      | none => rw [hs] at hz; cases hz
      | some ys =>
        rw [hs] at hz
        have hz : (if (ys.map (·.length)).sum + ys.length * a.length ≤ 1000000 then some (D.str (Txt.join a ys)) else none) = some z := hz
        by_cases hl : (ys.map (·.length)).sum + ys.length * a.length ≤ 1000000
        · rw [if_pos hl] at hz
          cases hz
          have ev := strs_rp hs h2
          subst ev
          exact ⟨a, p, ys, rfl, rfl, .inl (.inl (.inl (r2.fh _ _ h1))), by omega, q3 H2 F2 Kp.refl (Ex.refl _) r2 _ (.str _)⟩
        · rw [if_neg hl] at hz; cases hz
    | _ => cases hz
  | _ => exact (show False from q1).elim
def mUpper (ma : W → R D) : W → R D := fun w => (ma w).bind fun x w1 => R.lift (match x with | .str a => if a.length ≤ 1000000 then some (.str (Txt.upper a)) else none | _ => none) w1
theorem se_upper {o : Expr} {apos pos : Pos} {ma : W → R D} (ha : SE X Wx fm o ma) (hbase : attributeBase o "upper" X.env (eval o X.env) = eval o X.env := by rfl) (hline : (apos.endLine == pos.line) = true := by rfl) : SE X Wx fm (.Call (.Attribute o "upper" apos) [] [] pos) (mUpper ma) := by
  refine ⟨?_⟩
  intro ex σ H F w Q r q
  refine WE.of (pe_upper pe_we hbase hline) ?_
  show WE X o σ H fun x H1 => (∃ a, x = .str a) ∧ ∃ a, x = .str a ∧ ([] : List V) = [] ∧ a.length ≤ 5592405 ∧ Q (.str (Txt.upper a)) H1
  refine ha ex σ H F w _ r ((Fin.bind q).imp fun x w1 H1 F1 ⟨r1, k1, e1, q1⟩ v hv => ?_)
  obtain ⟨z, hz, q2⟩ := q1.lift
  cases hv with
  | str a =>
    have hz : (if a.length ≤ 1000000 then some (D.str (Txt.upper a)) else none) = some z := hz
    by_cases hl : a.length ≤ 1000000
    · rw [if_pos hl] at hz
      cases hz
      exact ⟨⟨a, rfl⟩, a, rfl, rfl, by omega, q2 H1 F1 Kp.refl (Ex.refl _) r1 _ (.str _)⟩
    · rw [if_neg hl] at hz; cases hz
  | _ => cases hz
/-! ### lists that are being built: their length, a place of them set -/
def mLenO (i : Nat) : W → R D := fun w => match w.env[i]? with
  | some (some (.own xs)) => .ok (.int xs.length) w
  | some (some (.val d)) => R.lift (gLen [d]) w
  | _ => .stuck
theorem se_lenO {i : Nat} {x : Str} {p p2 pos : Pos} (hm : X.mg "len" = none) (hN : X.N[i]? = some x := by rfl) (hv : Vis X.env.scope x := by first | exact Or.inl rfl | exact Or.inr (Or.inl rfl) | exact Or.inr (Or.inr rfl)) (hd : (x == ("__debug__" : Str)) = false := by decide)
    (hcd : (x == ("__classdict__" : Str)) = false := by decide) (hg : Gl X "len" := by rfl) (he : starEach [.Name x p2] X.env = (false, eval (.Name x p2) X.env) :: starEach [] X.env := by rfl) (hpl : (backTo pos (starEach [] X.env)).any (·.1) = false := by rfl) :
    SE X Wx fm (.Call (.Name "len" p) [.Name x p2] [] pos) (mLenO i) := by
  refine ⟨?_⟩
  intro ex σ H F w Q r fin
  revert fin
  unfold mLenO
  split
  · rename_i xs hx
    intro fin
    refine WE.of (pe_callB call_len_seq hg hm (by decide +kernel) (pa_cons (pe_var hN hv hd hcd) pa_nil he) (by decide) (by decide) he hpl) ?_
    obtain ⟨p0, e0, r0⟩ := r.takeOwn hx
    obtain ⟨b1, b2, b3, vs, b4, b5⟩ := r0.exo _ (List.mem_cons_self ..)
    have b5 : RpAll X.K fm.a0 F vs xs := b5
    refine ⟨.ref p0, e0, p0, vs, rfl, .inl (.inl (.inl b4)), ?_⟩
    rw [b5.len]
    exact fin H F Kp.refl (Ex.refl _) r _ (.int _)
  · rename_i d hx
    intro fin
    have h1 : SE X Wx fm (.Call (.Name "len" p) [.Name x p2] [] pos) (mBlt gLen (mCons (mVar i) mNil)) := se_callB dc_len hm (by decide +kernel) (sa_cons (se_var (i := i) hN hv hd hcd) sa_nil) hg (by decide) (by decide) he hpl
    refine h1 ex σ H F w Q r ?_
    have e : mBlt gLen (mCons (mVar i) mNil) w = R.lift (gLen [d]) w := by
      simp only [mBlt, mCons, mVar, hx, R.bind_ok, mNil]
    rw [e]
    exact fin
  · exact fun fin => fin.elim
/-- x[k] = e, x a list that is being built -/
def sSetIx (i : Nat) (mk me : W → R D) : W → RS := fun w => (me w).toS fun d w1 => match w1.env[i]? with
  | some (some (.own _)) => (mk w1).toS fun k w2 => match w2.env[i]?, k with
    | some (some (.own xs)), .int j => oS (ixN xs.length j) fun n => .nx { w2 with env := w2.env.set i (some (.own (xs.set n d))) }
    | _, _ => .stuck
  | _ => .stuck
theorem ss_setIx {i : Nat} {x : Str} {k e : Expr} {p tp pos : Pos} {mk me : W → R D} (h : SE X Wx fm e me) (hk : SE X Wx fm k mk) (hN : X.N[i]? = some x := by rfl) (hv : Vis X.env.scope x := by first | exact Or.inl rfl | exact Or.inr (Or.inl rfl) | exact Or.inr (Or.inr rfl)) (hd : (x == ("__debug__" : Str)) = false := by decide)
    (hcd : (x == ("__classdict__" : Str)) = false := by decide)
    (hpg : ∀ {to ti : TE}, PE X (.Name x p) to → PE X k ti → PG X (.Subscript (.Name x p) k tp) (L2.gSub to ti rSetL) := by exact fun a b => pg_sub a b set_list)
    (hs : swapsWithSole [.Subscript (.Name x p) k tp] e pos.line X.env = pure false := by rfl) (hw : swappedStores [.Subscript (.Name x p) k tp] e X.env = pure none := by rfl)
    (h1 : (assignEach [.Subscript (.Name x p) k tp] X.env).map (·.2) = [assign (.Subscript (.Name x p) k tp) X.env] := by rfl) :
    SSt X Wx fm (.Assign [.Subscript (.Name x p) k tp] e pos) (sSetIx i mk me) := by
  refine ⟨?_⟩
  intro ex σ H F w D r fin
  refine WS.of (ps_asg pe_we (hpg (pe_var hN hv hd hcd) pe_we) hs hw h1) ?_
  refine h ex σ H F w _ r ((FinS.ofR fin).imp fun d w1 H1 F1 ⟨r1, e1, q1⟩ v hv => ?_)
  revert q1
  split
  · rename_i xs0 hx0
    intro q1
    obtain ⟨p0, e0, r0⟩ := r1.takeOwn hx0
    refine ⟨.ref p0, e0, ?_⟩
    refine hk ex σ H1 F1 w1 _ r1 ((FinS.ofR q1).imp fun kd w2 H2 F2 ⟨r2, e2, q2⟩ u hu => ?_)
    cases hw2 : w2.env[i]? with
    | none => rw [hw2] at q2; exact (show False from q2).elim
    | some o =>
      rw [hw2] at q2
      match o, hw2, q2 with
      | none, _, q2 => exact (show False from q2).elim
      | some (.val _), _, q2 => exact (show False from q2).elim
      | some (.exn _), _, q2 => exact (show False from q2).elim
      | some (.own xs), hx, q2 =>
        cases hu with
        | int j =>
          obtain ⟨p1, e1', r3⟩ := r2.takeOwn hx
          rw [e0] at e1'
          cases e1'
          obtain ⟨b1, b2, b3, vs, b4, b5⟩ := r3.exo _ (List.mem_cons_self ..)
          have b5 : RpAll X.K fm.a0 F2 vs xs := b5
          have q2 : FinS X Wx fm ex F2 D (oS (ixN xs.length j) fun n => .nx { w2 with env := w2.env.set i (some (.own (xs.set n d))) }) := q2
          cases hj : ixN xs.length j with
          | none => rw [hj] at q2; exact (show False from q2).elim
          | some n =>
            rw [hj] at q2
            refine ⟨p0, vs, j, n, rfl, rfl, b4, by rw [b5.len]; exact hj, ?_⟩
            have r4 := (r3.mut (b5.setv n (hv.ex e2))).putOwn e0
            exact q2 σ _ F2 (Ex.refl _) (by simpa using r4)
        | _ => exact (show False from q2).elim
  · exact fun q1 => (show False from q1).elim
/-- tuple(range(n)) -/
def mTupRg (m : W → R D) : W → R D := fun w => (m w).bind fun d w1 => R.lift (match d with | .int n => if 0 ≤ n ∧ n ≤ 1000000 then some (.tup (rngD 0 n)) else none | _ => none) w1
theorem se_tupRg {e : Expr} {p p2 pos pos2 : Pos} {m : W → R D} (hc : X.calm = true) (h : SE X Wx fm e m) (hm : X.mg "tuple" = none) (hm2 : X.mg "range" = none) (hg : Gl X "tuple" := by rfl) (hg2 : Gl X "range" := by rfl)
    (na : starEach [.Call (.Name "range" p2) [e] [] pos2] X.env = (false, eval (.Call (.Name "range" p2) [e] [] pos2) X.env) :: starEach [] X.env := by rfl) (nb : starEach [e] X.env = (false, eval e X.env) :: starEach [] X.env := by rfl) :
    SE X Wx fm (.Call (.Name "tuple" p) [.Call (.Name "range" p2) [e] [] pos2] [] pos) (mTupRg m) := by
  refine ⟨?_⟩
  intro ex σ H F w Q r q
  refine WE.of (pe_tupRg hc hg hm (prg_1 hg2 hm2 pe_we nb) na) ?_
  show WE X e σ H fun x H1 => ∃ n, x = .int n ∧ RgOk 0 n ∧ ∀ q, H1 q = none → Q (.ref q) (upd H1 q (.tup (rgV 0 n)))
  refine h ex σ H F w _ r ((Fin.bind q).imp fun d w1 H1 F1 ⟨r1, k1, e1, q1⟩ v hv => ?_)
  obtain ⟨z, hz, q2⟩ := q1.lift
  cases hv with
  | int n =>
    have hz : (if 0 ≤ n ∧ n ≤ 1000000 then some (D.tup (rngD 0 n)) else none) = some z := hz
    by_cases hl : 0 ≤ n ∧ n ≤ 1000000
    · rw [if_pos hl] at hz
      cases hz
      refine ⟨n, rfl, RgOk.of_le (by omega) (by omega) (by omega) hl.1, fun p' hp => ?_⟩
      have g : Gr H1 F1 (upd H1 p' (.tup (rgV 0 n))) (upd F1 p' (.tup (rgV 0 n))) := Gr.new r1.fh hp
      refine q2 _ _ g.kp g.ff (r1.gr g) _ (.tup (.inl (.inl upd_same)) ?_)
      have e1 : rgV 0 n = ((List.range (n - 0).toNat).map fun (i : Nat) => (0 : Int) + (i : Int)).map V.int := by simp [rgV]
      have e2 : rngD 0 n = ((List.range (n - 0).toNat).map fun (i : Nat) => (0 : Int) + (i : Int)).map D.int := by simp [rngD]
      rw [e1, e2]
      exact RpAll.of_ints _
    · rw [if_neg hl] at hz; cases hz
  | _ => cases hz
end
section
variable {env : Env} {ss : SS} {w : W}
@[simp] theorem mZipA_ap (ma mb : W → R D) : mZipA ma mb w = (ma w).bind fun x w1 => (mb w1).bind fun y w2 => R.lift (match x, y with | .lst a, .lst b => some (zipD a b) | .tup a, .tup b => some (zipD a b) | _, _ => none) w2 := rfl
@[simp] theorem mEnumA_ap (ma : W → R D) : mEnumA ma w = (ma w).bind fun x w1 => R.lift (match x with | .lst a => some (enumD 0 a) | .tup a => some (enumD 0 a) | _ => none) w1 := rfl
@[simp] theorem mSlX_ap (m : W → R D) (lo hi : W → R (Option Int)) : mSlX m lo hi w = (m w).bind fun d w1 => (lo w1).bind fun a w2 => (hi w2).bind fun b w3 => R.lift (d.slc a b) w3 := rfl
@[simp] theorem slc_tup (l : List D) (a b : Option Int) : (D.tup l).slc a b = some (.tup (TD.cutD l a b)) := rfl
@[simp] theorem slc_str (z : Str) (a b : Option Int) : (D.str z).slc a b = if z.length ≤ 1000000 then some (.str (cutS z a b)) else none := rfl
@[simp] theorem gInX_str (i j : Str) : gInX (.str i) (.str j) = some (.bl (subS i j)) := rfl
@[simp] theorem gNotInX_str (i j : Str) : gNotInX (.str i) (.str j) = some (.bl (!subS i j)) := rfl
@[simp] theorem gInX_tup (d : D) (l : List D) : gInX d (.tup l) = gIn d (.tup l) := by cases d <;> rfl
@[simp] theorem gInX_lst (d : D) (l : List D) : gInX d (.lst l) = gIn d (.lst l) := by cases d <;> rfl
@[simp] theorem gNotInX_tup (d : D) (l : List D) : gNotInX d (.tup l) = gNotIn d (.tup l) := by cases d <;> rfl
@[simp] theorem gNotInX_lst (d : D) (l : List D) : gNotInX d (.lst l) = gNotIn d (.lst l) := by cases d <;> rfl
@[simp] theorem mJoin_ap (ma mb : W → R D) : mJoin ma mb w = (ma w).bind fun x w1 => match x with
  | .str a => (mb w1).bind fun y w2 => R.lift (joinD a y) w2
  | _ => .stuck := rfl
@[simp] theorem mUpper_ap (ma : W → R D) : mUpper ma w = (ma w).bind fun x w1 => R.lift (match x with | .str a => if a.length ≤ 1000000 then some (.str (Txt.upper a)) else none | _ => none) w1 := rfl
@[simp] theorem mLenO_ap (i : Nat) : mLenO i ⟨env, ss⟩ = match env[i]? with
  | some (some (.own xs)) => .ok (.int xs.length) ⟨env, ss⟩
  | some (some (.val d)) => R.lift (gLen [d]) ⟨env, ss⟩
  | _ => .stuck := rfl
@[simp] theorem sSetIx_ap (i : Nat) (mk me : W → R D) : sSetIx i mk me w = (me w).toS fun d w1 => match w1.env[i]? with
  | some (some (.own _)) => (mk w1).toS fun k w2 => match w2.env[i]?, k with
    | some (some (.own xs)), .int j => oS (ixN xs.length j) fun n => .nx { w2 with env := w2.env.set i (some (.own (xs.set n d))) }
    | _, _ => .stuck
  | _ => .stuck := rfl
@[simp] theorem mTupRg_ap (m : W → R D) : mTupRg m w = (m w).bind fun d w1 => R.lift (match d with | .int n => if 0 ≤ n ∧ n ≤ 1000000 then some (.tup (rngD 0 n)) else none | _ => none) w1 := rfl
@[simp] theorem gAdd_str (a b : Str) : gAdd (.str a) (.str b) = if a.length + b.length ≤ 1000000 then some (.str (a ++ b)) else none := rfl
@[simp] theorem gIx_str (z : Str) (i : Int) : gIx (.str z) (.int i) = if z.length ≤ 1000000 then (atI z.cps.toList i).map fun c => .str ⟨#[c]⟩ else none := rfl
@[simp] theorem gLen_str (z : Str) : gLen [.str z] = if z.length ≤ 1000000 then some (.int z.length) else none := rfl
@[simp] theorem items_str (z : Str) : (D.str z).items = some (signs z) := rfl
end
end TD


set_option Elab.async false
set_option linter.all false
set_option maxRecDepth 100000
set_option maxHeartbeats 4000000
namespace TP
open PySem PySem.Spec PyProof.Rows L2 TD
@[simp] theorem okb_str (n : Nat) (x : Str) : (D.str x).okb n = PyData.strOk x := by cases n <;> rfl
@[simp] theorem okb_int (n : Nat) (x : Int) : (D.int x).okb n = true := by cases n <;> rfl
@[simp] theorem okb_bl (n : Nat) (x : Bool) : (D.bl x).okb n = true := by cases n <;> rfl
@[simp] theorem okb_non (n : Nat) : D.non.okb n = true := by cases n <;> rfl
@[simp] theorem gNotIn_tup (d : D) (l : List D) : gNotIn d (.tup l) = if (d.flat && l.all D.flat) = true then some (.bl (!d.any l)) else none := by cases d <;> rfl
@[simp] theorem gIn_tup (d : D) (l : List D) : gIn d (.tup l) = if (d.flat && l.all D.flat) = true then some (.bl (d.any l)) else none := by cases d <;> rfl
@[simp] theorem gEq_def (d e : D) : gEq d e = if (d.okb 64 && e.okb 64) = true then some (.bl (D.eqv d e)) else none := rfl
@[simp] theorem gNe_def (d e : D) : gNe d e = if (d.okb 64 && e.okb 64) = true then some (.bl (!D.eqv d e)) else none := rfl
@[simp] theorem atI_0 {α : Type} (a : α) (l : List α) : atI (a :: l) 0 = some a := atI_nat (j := 0) rfl
@[simp] theorem atI_1 {α : Type} (a b : α) (l : List α) : atI (a :: b :: l) 1 = some b := atI_nat (j := 1) rfl
@[simp] theorem atI_2 {α : Type} (a b c : α) (l : List α) : atI (a :: b :: c :: l) 2 = some c := atI_nat (j := 2) rfl
@[simp] theorem atI_3 {α : Type} (a b c d : α) (l : List α) : atI (a :: b :: c :: d :: l) 3 = some d := atI_nat (j := 3) rfl
@[simp] theorem eqv_non_non   : D.eqv (.non) (.non) = true := by rw [D.eqv]
@[simp] theorem eqv_non_bl  (b : Bool) : D.eqv (.non) (.bl b) = false := by rw [D.eqv] <;> simp
@[simp] theorem eqv_non_int  (b : Int) : D.eqv (.non) (.int b) = false := by rw [D.eqv] <;> simp
@[simp] theorem eqv_non_str  (b : Str) : D.eqv (.non) (.str b) = false := by rw [D.eqv] <;> simp
@[simp] theorem eqv_non_tup  (b : List D) : D.eqv (.non) (.tup b) = false := by rw [D.eqv] <;> simp
@[simp] theorem eqv_bl_non (a : Bool)  : D.eqv (.bl a) (.non) = false := by rw [D.eqv] <;> simp
@[simp] theorem eqv_bl_bl (a : Bool) (b : Bool) : D.eqv (.bl a) (.bl b) = (a == b) := by rw [D.eqv]
@[simp] theorem eqv_bl_int (a : Bool) (b : Int) : D.eqv (.bl a) (.int b) = ((if a then 1 else 0) == b) := by rw [D.eqv]
@[simp] theorem eqv_bl_str (a : Bool) (b : Str) : D.eqv (.bl a) (.str b) = false := by rw [D.eqv] <;> simp
@[simp] theorem eqv_bl_tup (a : Bool) (b : List D) : D.eqv (.bl a) (.tup b) = false := by rw [D.eqv] <;> simp
@[simp] theorem eqv_int_non (a : Int)  : D.eqv (.int a) (.non) = false := by rw [D.eqv] <;> simp
@[simp] theorem eqv_int_bl (a : Int) (b : Bool) : D.eqv (.int a) (.bl b) = (a == (if b then 1 else 0)) := by rw [D.eqv]
@[simp] theorem eqv_int_int (a : Int) (b : Int) : D.eqv (.int a) (.int b) = (a == b) := by rw [D.eqv]
@[simp] theorem eqv_int_str (a : Int) (b : Str) : D.eqv (.int a) (.str b) = false := by rw [D.eqv] <;> simp
@[simp] theorem eqv_int_tup (a : Int) (b : List D) : D.eqv (.int a) (.tup b) = false := by rw [D.eqv] <;> simp
@[simp] theorem eqv_str_non (a : Str)  : D.eqv (.str a) (.non) = false := by rw [D.eqv] <;> simp
@[simp] theorem eqv_str_bl (a : Str) (b : Bool) : D.eqv (.str a) (.bl b) = false := by rw [D.eqv] <;> simp
@[simp] theorem eqv_str_int (a : Str) (b : Int) : D.eqv (.str a) (.int b) = false := by rw [D.eqv] <;> simp
@[simp] theorem eqv_str_str (a : Str) (b : Str) : D.eqv (.str a) (.str b) = (a == b) := by rw [D.eqv]
@[simp] theorem eqv_str_tup (a : Str) (b : List D) : D.eqv (.str a) (.tup b) = false := by rw [D.eqv] <;> simp
@[simp] theorem eqv_tup_non (a : List D)  : D.eqv (.tup a) (.non) = false := by rw [D.eqv] <;> simp
@[simp] theorem eqv_tup_bl (a : List D) (b : Bool) : D.eqv (.tup a) (.bl b) = false := by rw [D.eqv] <;> simp
@[simp] theorem eqv_tup_int (a : List D) (b : Int) : D.eqv (.tup a) (.int b) = false := by rw [D.eqv] <;> simp
@[simp] theorem eqv_tup_str (a : List D) (b : Str) : D.eqv (.tup a) (.str b) = false := by rw [D.eqv] <;> simp
@[simp] theorem eqv_tup_tup (a : List D) (b : List D) : D.eqv (.tup a) (.tup b) = D.eqvs a b := by rw [D.eqv]
@[simp] theorem eqvs_nil : D.eqvs [] [] = true := by rw [D.eqvs]
@[simp] theorem eqvs_cons (a b : D) (l m : List D) : D.eqvs (a :: l) (b :: m) = (D.eqv a b && D.eqvs l m) := by rw [D.eqvs]
@[simp] theorem eqvs_nc (b : D) (m : List D) : D.eqvs [] (b :: m) = false := by rw [D.eqvs] <;> simp
@[simp] theorem eqvs_cn (b : D) (m : List D) : D.eqvs (b :: m) [] = false := by rw [D.eqvs] <;> simp
@[simp] theorem any_def (d : D) (l : List D) : d.any l = l.any fun y => D.eqv y d := rfl
structure SsOk (ss : SS) : Prop where
  ne : ss.cells ≠ []
  nn : ∀ c ∈ ss.cells, (0 : Int) ≤ c
  l : 0 ≤ ss.left
  t : 0 ≤ ss.turn
theorem pow_18 : gPow (.int 10) (.int 18) = some (.int 1000000000000000000) := by rfl
theorem mulOk_r (i j : Int) (h : j.natAbs < 18446744073709551616) : mulOk i j = true := by
  unfold mulOk
  rw [decide_eq_true (show j.natAbs < 2 ^ 64 from h)]
  simp
theorem log2_lt (n : Nat) (h : n < 2 ^ 9000) : n.log2 < 9000 := by
  by_cases h0 : n = 0
  · subst h0; decide
  · exact (Nat.log2_lt h0).mpr h
theorem divOk_of (m : Int) (h : 0 < m) (h2 : m < 2 ^ 9000) : divOk m = true := by
  unfold divOk
  rw [decide_eq_true h, decide_eq_true (log2_lt m.natAbs (by omega))]
  rfl
theorem atI_cells {cells : List Int} {i : Int} (h : 0 ≤ i) (h2 : i < cells.length) : ∃ c, c ∈ cells ∧ atI (cells.map D.int) i = some (.int c) := by
  obtain ⟨n, rfl⟩ := Int.eq_ofNat_of_zero_le h
  have hn : n < cells.length := by omega
  refine ⟨cells[n], List.getElem_mem hn, atI_nat ?_⟩
  simp [hn]
def PickR (many : Int) : RF → Prop
  | .ok (.int r) ss' => 0 ≤ r ∧ r < many ∧ SsOk ss'
  | _ => False
theorem PickR_ok (many r : Int) (ss : SS) : PickR many (.ok (.int r) ss) = (0 ≤ r ∧ r < many ∧ SsOk ss) := rfl
theorem PickR.ex {many : Int} {x : RF} (h : PickR many x) : ∃ r ss', x = .ok (.int r) ss' ∧ 0 ≤ r ∧ r < many ∧ SsOk ss' := by
  match x, h with
  | .ok (.int r) ss', h => exact ⟨r, ss', rfl, h⟩
/-- the laws' draw -/
def e_pick : W → RS :=
  sCons (sIf (mB (mBin gGt (mSrc 0 1) (mC (.int 0)))) (
    sCons (sSet 2 (mSrc 0 1)) (
    sCons (sSrc 0 1 (mBin gDiv (mVar 2) (mVar 1))) (
    sCons (sRet (mBin gMod (mBlt gInt (mCons (mVar 2) (mNil))) (mVar 1))) (sNil)))) (sNil)) (
  sCons (sSet 3 (mSrc 0 2)) (
  sCons (sSrc 0 2 (mBin gAdd (mVar 3) (mC (.int 1)))) (
  sCons (sSet 4 (mSrc 0 0)) (
  sCons (sSet 5 (mBin gIx (mVar 4) (mBin gMod (mBlt gInt (mCons (mVar 3) (mNil))) (mBlt gLen (mCons (mVar 4) (mNil)))))) (
  sCons (sIf (mAndT (mB (mBin gGe (mVar 5) (mBin gPow (mC (.int 10)) (mC (.int 18))))) (mB (mBin gLt (mVar 3) (mBlt gLen (mCons (mVar 4) (mNil)))))) (
    sCons (sSrc 0 1 (mBin gDiv (mVar 5) (mVar 1))) (
    sCons (sRet (mBin gMod (mBlt gInt (mCons (mVar 5) (mNil))) (mVar 1))) (sNil))) (sNil)) (
  sCons (sSet 6 (mBin gMod (mBlt gInt (mCons (mBin gAdd (mBin gAdd (mBin gMul (mBin gMod (mBlt gInt (mCons (mVar 5) (mNil))) (mC (.int 2147483647))) (mC (.int 48271))) (mBin gMul (mVar 3) (mC (.int 69621)))) (mC (.int 40692))) (mNil))) (mC (.int 2147483399)))) (
  sCons (sSet 7 (mBin gMod (mBlt gInt (mCons (mBin gAdd (mBin gAdd (mBin gMul (mVar 6) (mBin gAdd (mBin gMod (mBlt gInt (mCons (mVar 6) (mNil))) (mC (.int 65537))) (mC (.int 3)))) (mBin gMul (mVar 3) (mC (.int 7919)))) (mC (.int 17))) (mNil))) (mC (.int 2147483647)))) (
  sCons (sRet (mBin gMod (mBlt gInt (mCons (mBin gDiv (mVar 7) (mC (.int 5))) (mNil))) (mVar 1))) (sNil)))))))))
def pickM : List D → SS → RF := fnM 8 e_pick
theorem pick_ok (ss : SS) (h : SsOk ss) (many : Int) (hm : 0 < many) (hb : many < 1000000) : PickR many (pickM [.src, .int many] ss) := by
  obtain ⟨cells, left, turn⟩ := ss
  obtain ⟨ne, nn, hl, ht⟩ := h
  simp only at ne nn hl ht
  have hd : divOk many = true := divOk_of many hm (Int.lt_trans hb (by decide +kernel))
  have hpos : (0 : Int) < cells.length := by
    cases cells with
    | nil => exact absurd rfl ne
    | cons a l => simp only [List.length_cons]; omega
  have hposN : 0 < cells.length := by omega
  by_cases h1 : 0 < left
  · have h2 : 0 ≤ left / many := Int.ediv_nonneg hl (by omega)
    simp [pickM, e_pick, mSrc, sSrc, h1, hm, hd, h2, PickR_ok]
    exact ⟨Int.emod_nonneg _ (by omega), Int.emod_lt_of_pos _ hm, ⟨ne, nn, h2, ht⟩⟩
  · obtain ⟨c, hc, hc2⟩ := atI_cells (cells := cells) (i := turn % cells.length) (Int.emod_nonneg _ (by omega)) (Int.emod_lt_of_pos _ hpos)
    have hc0 := nn c hc
    have ht1 : 0 ≤ turn + 1 := by omega
    have d5 : divOk 5 = true := by decide +kernel
    have mA : ∀ i : Int, mulOk i 48271 = true := fun i => mulOk_r i _ (by decide)
    have mB : ∀ i : Int, mulOk i 69621 = true := fun i => mulOk_r i _ (by decide)
    have mC : ∀ i : Int, mulOk i 7919 = true := fun i => mulOk_r i _ (by decide)
    have mD : ∀ i j : Int, mulOk i (j % 65537 + 3) = true := fun i j => mulOk_r i _ (by have := Int.emod_nonneg j (show (65537 : Int) ≠ 0 by decide); have := Int.emod_lt_of_pos j (show (0 : Int) < 65537 by decide); omega)
    by_cases h3 : 1000000000000000000 ≤ c
    · by_cases h4 : turn < cells.length
      · have h2 : 0 ≤ c / many := Int.ediv_nonneg hc0 (by omega)
        simp [pickM, e_pick, mSrc, sSrc, h1, hm, hd, h2, ht1, hposN, hc2, pow_18, h3, h4, PickR_ok]
        exact ⟨Int.emod_nonneg _ (by omega), Int.emod_lt_of_pos _ hm, ⟨ne, nn, h2, ht1⟩⟩
      · simp [PickR_ok, pickM, e_pick, mSrc, sSrc, h1, hm, hd, ht1, hposN, hc2, pow_18, h3, h4, d5, mA, mB, mC, mD]
        exact ⟨Int.emod_nonneg _ (by omega), Int.emod_lt_of_pos _ hm, ⟨ne, nn, hl, ht1⟩⟩
    · simp [PickR_ok, pickM, e_pick, mSrc, sSrc, h1, hm, hd, ht1, hposN, hc2, pow_18, h3, d5, mA, mB, mC, mD]
      exact ⟨Int.emod_nonneg _ (by omega), Int.emod_lt_of_pos _ hm, ⟨ne, nn, hl, ht1⟩⟩
theorem rngD_nil {a b : Int} (h : b ≤ a) : rngD a b = [] := by
  unfold rngD
  rw [show (b - a).toNat = 0 by omega]
  rfl
theorem rngD_cons {a b : Int} (h : a < b) : rngD a b = .int a :: rngD (a + 1) b := by
  unfold rngD
  rw [show (b - a).toNat = (b - (a + 1)).toNat + 1 by omega, List.range_succ_eq_map, List.map_cons, List.map_map]
  congr 1
  · congr 1; simp
  · apply List.map_congr_left
    intro i _
    simp only [Function.comp]
    congr 1
    push_cast
    omega
@[simp] theorem okbl (w : W) (b : Bool) : (R.lift (D.bl b).b? w) = .ok b w := rfl
/-! ### comprehensions -/
def lcStep (vs : List Nat) (set : D → W → Option W) (mt : W → R Bool) (me : W → R D) (d : D) (w : W) : R (Option D) := match set d w with
  | none => .stuck
  | some w1 => (mt w1).nox.bind fun b w2 => if b = true then (me w2).nox.bind fun y w3 => .ok (some y) { w3 with env := wipeE w3.env vs } else .ok none { w2 with env := wipeE w2.env vs }
theorem lcGo_step (vs : List Nat) (set : D → W → Option W) (mt : W → R Bool) (me : W → R D) (d : D) (ds acc : List D) (w : W) : lcGo vs set mt me (d :: ds) acc w = (lcStep vs set mt me d w).bind fun o w' => match o with
    | some y => if acc.length < 1000000 then lcGo vs set mt me ds (acc ++ [y]) w' else .stuck
    | none => lcGo vs set mt me ds acc w' := by
  rw [lcGo_cons]
  unfold lcStep
  cases set d w with
  | none => rfl
  | some w1 =>
    show (mt w1).nox.bind _ = ((mt w1).nox.bind _).bind _
    cases mt w1 with
    | ok b w2 =>
      cases b with
      | true =>
        show (me w2).nox.bind _ = ((me w2).nox.bind _).bind _
        cases me w2 <;> rfl
      | false => rfl
    | _ => rfl
theorem lc_pure {vs : List Nat} {set : D → W → Option W} {mt : W → R Bool} {me : W → R D} (h : D → Option D) (w : W) : ∀ (ds acc : List D), (∀ d ∈ ds, lcStep vs set mt me d w = .ok (h d) w) → acc.length + ds.length ≤ 1000000 → lcGo vs set mt me ds acc w = .ok (acc ++ ds.filterMap h) w
  | [], acc, _, _ => by simp
  | d :: ds, acc, hs, hl => by
    rw [lcGo_step, hs d (List.mem_cons_self ..)]
    have ih := fun a => lc_pure h w ds a (fun e he => hs e (List.mem_cons_of_mem _ he))
    simp only [List.length_cons] at hl
    show (match h d with
      | some y => if acc.length < 1000000 then lcGo vs set mt me ds (acc ++ [y]) w else .stuck
      | none => lcGo vs set mt me ds acc w) = _
    cases e : h d with
    | none =>
      rw [List.filterMap_cons_none e]
      exact ih acc (by omega)
    | some y =>
      rw [List.filterMap_cons_some e]
      show (if acc.length < 1000000 then _ else _) = _
      rw [if_pos (by omega), ih (acc ++ [y]) (by simp; omega)]
      simp
/-- each element is made of draws -/
theorem lc_draw {vs : List Nat} {set : D → W → Option W} {mt : W → R Bool} {me : W → R D} (P : SS → Prop) (Q : D → D → Prop) (env : TD.Env) : ∀ (ds acc : List D) (ss : SS), P ss → (∀ d ∈ ds, ∀ ss, P ss → ∃ y ss', lcStep vs set mt me d ⟨env, ss⟩ = .ok (some y) ⟨env, ss'⟩ ∧ P ss' ∧ Q d y) → acc.length + ds.length ≤ 1000000 →
    ∃ (ys : List D) (ss' : SS), lcGo vs set mt me ds acc ⟨env, ss⟩ = .ok (acc ++ ys) ⟨env, ss'⟩ ∧ P ss' ∧ ys.length = ds.length ∧ ∀ (i : Nat) (d y : D), ds[i]? = some d → ys[i]? = some y → Q d y
  | [], acc, ss, hp, _, _ => ⟨[], ss, by simp, hp, rfl, fun i d y h => by simp at h⟩
  | d :: ds, acc, ss, hp, hs, hl => by
    obtain ⟨y, ss1, e1, hp1, hq⟩ := hs d (List.mem_cons_self ..) ss hp
    simp only [List.length_cons] at hl
    obtain ⟨ys, ss2, e2, hp2, hl2, hq2⟩ := lc_draw P Q env ds (acc ++ [y]) ss1 hp1 (fun e he => hs e (List.mem_cons_of_mem _ he)) (by simp; omega)
    refine ⟨y :: ys, ss2, ?_, hp2, by simp [hl2], fun i d' y' h1 h2 => ?_⟩
    · rw [lcGo_step, e1]
      show (if acc.length < 1000000 then _ else _) = _
      rw [if_pos (by omega), e2]
      simp
    · cases i with
      | zero => simp at h1 h2; subst h1 h2; exact hq
      | succ i => exact hq2 i d' y' (by simpa using h1) (by simpa using h2)
theorem ints_map : ∀ L : List Int, ints? (L.map .int) = some L
  | [] => rfl
  | a :: L => by rw [List.map_cons, ints?, ints_map L]; rfl
theorem gMax_map {α : Type} (l : List α) (f : α → Nat) (m : Nat) (hm : ∀ a ∈ l, f a ≤ m) (hx : ∃ a ∈ l, f a = m) : gMax [.lst (l.map fun a => .int (f a))] = some (.int m) := by
  have e : l.map (fun a => D.int (f a)) = (l.map fun a => (f a : Int)).map .int := by simp
  obtain ⟨a, ha, hfa⟩ := hx
  have h1 : (m : Int) ∈ l.map fun a => (f a : Int) := List.mem_map.mpr ⟨a, ha, by rw [hfa]⟩
  have h2 := maxL_eq h1 (fun y hy => by obtain ⟨b, hb, rfl⟩ := List.mem_map.mp hy; have := hm b hb; omega)
  rw [e]
  unfold gMax
  simp only [ints_map]
  cases hL : l.map fun a => (f a : Int) with
  | nil => rw [hL] at h1; cases h1
  | cons b r => rw [hL] at h2; rw [h2]

/-! ### parts of rows -/
theorem cutD_from (l : List D) (k : Nat) : TD.cutD l (some (k : Int)) none = l.drop k := by
  unfold TD.cutD
  rw [HT.sIx_nat, HT.sIx_none]
  by_cases h : k ≤ l.length
  · rw [Nat.min_eq_left h]
    exact List.take_of_length_le (by simp)
  · rw [Nat.min_eq_right (by omega), List.drop_eq_nil_of_le (Nat.le_refl _), List.drop_eq_nil_of_le (by omega)]
    simp
theorem cutD_to (l : List D) (k : Nat) : TD.cutD l none (some (k : Int)) = l.take k := by
  unfold TD.cutD
  rw [HT.sIx_nat, HT.sIx_none]
  simp
theorem atI_map {α β : Type} (f : α → β) (l : List α) (i : Int) : atI (l.map f) i = (atI l i).map f := by
  unfold atI
  rw [List.length_map]
  cases ixN l.length i <;> simp
theorem atI_mem {α : Type} (l : List α) (i : Int) (h : 0 ≤ i) (h2 : i < l.length) : ∃ a, a ∈ l ∧ atI l i = some a := by
  obtain ⟨n, rfl⟩ := Int.eq_ofNat_of_zero_le h
  have hn : n < l.length := by omega
  exact ⟨l[n], List.getElem_mem hn, atI_nat (by simp [hn])⟩
theorem atI_pre {α : Type} (pre : List α) (x : α) (xs : List α) (i : Int) (h : i = pre.length) : atI (pre ++ x :: xs) i = some x := by
  subst h
  exact atI_nat (by simp)
@[simp] theorem cutD_one (l : List D) : TD.cutD l (some 1) none = l.drop 1 := cutD_from l 1
theorem small_le {i : Int} (h1 : -1000000 ≤ i) (h2 : i ≤ 1000000) : small i = true := by
  rw [small_eq]
  omega
theorem small_len {n : Nat} (h2 : n ≤ 1000000) : small (n : Int) = true := small_le (by omega) (by omega)
theorem small_len1 {n : Nat} (h2 : n ≤ 100000) : small ((n : Int) + 1) = true := small_le (by omega) (by omega)
@[simp] theorem small_0 : small 0 = true := by decide
@[simp] theorem small_1 : small 1 = true := by decide
@[simp] theorem small_2 : small 2 = true := by decide
@[simp] theorem small_3 : small 3 = true := by decide
@[simp] theorem small_4 : small 4 = true := by decide
@[simp] theorem small_6 : small 6 = true := by decide
@[simp] theorem okb_tup (n : Nat) (l : List D) : (D.tup l).okb (n + 1) = D.oks n l := rfl
@[simp] theorem okb_lst (n : Nat) (l : List D) : (D.lst l).okb (n + 1) = D.oks n l := rfl
@[simp] theorem okb64_tup (l : List D) : (D.tup l).okb 64 = D.oks 63 l := rfl
@[simp] theorem okb63_tup (l : List D) : (D.tup l).okb 63 = D.oks 62 l := rfl
@[simp] theorem okb62_tup (l : List D) : (D.tup l).okb 62 = D.oks 61 l := rfl
@[simp] theorem okb61_tup (l : List D) : (D.tup l).okb 61 = D.oks 60 l := rfl
@[simp] theorem okb64_lst (l : List D) : (D.lst l).okb 64 = D.oks 63 l := rfl
@[simp] theorem okb63_lst (l : List D) : (D.lst l).okb 63 = D.oks 62 l := rfl
@[simp] theorem oks_nil (n : Nat) : D.oks n [] = true := by cases n <;> rfl
@[simp] theorem oks_cons (n : Nat) (d : D) (l : List D) : D.oks n (d :: l) = (d.okb n && D.oks n l) := by cases n <;> rfl
@[simp] theorem oks_ints (n : Nat) : ∀ l : List Int, D.oks n (l.map D.int) = true
  | [] => oks_nil n
  | i :: l => by simp [oks_ints n l]
mutual
theorem eqv_self : ∀ (d : D) (n : Nat), d.okb n = true → D.eqv d d = true
  | .non, _, _ => by simp
  | .bl _, _, _ => by simp
  | .int _, _, _ => by simp
  | .str _, _, _ => by simp
  | .src, n, h => by cases n <;> simp [D.okb] at h
  | .tup l, n, h => by
    cases n with
    | zero => simp [D.okb] at h
    | succ n => rw [D.eqv]; exact eqvs_self l n h
  | .lst l, n, h => by
    cases n with
    | zero => simp [D.okb] at h
    | succ n => rw [D.eqv]; exact eqvs_self l n h
theorem eqvs_self : ∀ (l : List D) (n : Nat), D.oks n l = true → D.eqvs l l = true
  | [], _, _ => by simp
  | d :: l, n, h => by
    rw [oks_cons] at h
    have h' := Bool.and_eq_true_iff.mp h
    simp [eqv_self d n h'.1, eqvs_self l n h'.2]
end
theorem gNe_self {d : D} (h : d.okb 64 = true) : gNe d d = some (.bl false) := by simp [h, eqv_self d 64 h]
theorem gEq_self {d : D} (h : d.okb 64 = true) : gEq d d = some (.bl true) := by simp [h, eqv_self d 64 h]
theorem rng_map (n : Nat) (f : D → Option D) (g : Nat → D) (h : ∀ i < n, f (.int (i : Nat)) = some (g i)) : (rngD 0 n).filterMap f = (List.range n).map g := by
  unfold rngD
  rw [show ((n : Int) - 0).toNat = n by omega, List.filterMap_map]
  have : ∀ L : List Nat, (∀ i ∈ L, i < n) → L.filterMap (f ∘ fun (i : Nat) => D.int (0 + (i : Int))) = L.map g := by
    intro L
    induction L with
    | nil => intro _; rfl
    | cons i L ih =>
      intro hL
      rw [List.filterMap_cons_some (b := g i) (by simp [h i (hL i (List.mem_cons_self ..))]), ih fun j hj => hL j (List.mem_cons_of_mem _ hj), List.map_cons]
  exact this _ fun i hi => by simpa using hi
theorem rng_mem {n : Nat} {d : D} (h : d ∈ rngD 0 n) : ∃ i : Nat, i < n ∧ d = .int i := by
  unfold rngD at h
  obtain ⟨i, hi, rfl⟩ := List.mem_map.mp h
  exact ⟨i, by simpa using hi, by simp⟩
/-- [e for v in range(n)] -/
theorem lc_rng {v : Nat} {me : W → R D} (g : Nat → D) (env : TD.Env) (n : Nat) (hn : n ≤ 1000000) (ss : SS) (h : ∀ i : Nat, i < n → lcStep [v] (gsName v) mYes me (.int i) ⟨env, ss⟩ = .ok (some (g i)) ⟨env, ss⟩) :
    lcGo [v] (gsName v) mYes me (rngD 0 n) [] ⟨env, ss⟩ = .ok ((List.range n).map g) ⟨env, ss⟩ := by
  have q := lc_pure (vs := [v]) (set := gsName v) (mt := mYes) (me := me) (fun d => match d with | .int i => some (g i.toNat) | _ => none) ⟨env, ss⟩ (rngD 0 n) [] (fun d hd => by
    obtain ⟨i, hi, rfl⟩ := rng_mem hd
    simpa using h i hi) (by simp [rngD]; omega)
  rw [rng_map n _ g (fun i hi => by simp)] at q
  rw [q]
  simp
/-- one statement, then the rest -/
theorem nxtF {s k : W → RS} {w w' : W} {X : RF} (h : s w = .nx w') (h2 : (k w').fin = X) : (sCons s k w).fin = X := by
  show ((s w).bind k).fin = X
  rw [h]; exact h2
theorem nxtR {s k : W → RS} {w w' : W} {X : RS} (h : s w = .nx w') (h2 : k w' = X) : sCons s k w = X := by
  show (s w).bind k = X
  rw [h]; exact h2
theorem nxt {s k : W → RS} {w w' : W} {d : D} (h : s w = .nx w') (h2 : ∃ w2, k w' = .ret d w2) : ∃ w2, sCons s k w = .ret d w2 := by
  obtain ⟨w2, e⟩ := h2
  exact ⟨w2, by show (s w).bind k = _; rw [h]; exact e⟩
theorem cutD_from1 (l : List D) (k : Nat) : TD.cutD l (some ((k : Int) + 1)) none = l.drop (k + 1) := cutD_from l (k + 1)
@[simp] theorem cutD_240 (l : List D) : TD.cutD l none (some 240) = l.take 240 := cutD_to l 240
@[simp] theorem bind_sNil (r : RS) : r.bind sNil = r := by cases r <;> rfl
theorem lcGo_first {vs : List Nat} {set : D → W → Option W} {mt : W → R Bool} {me : W → R D} {w w' : W} {d : D} {ds acc : List D} (h : lcStep vs set mt me d w = lcStep vs set mt me d w') : lcGo vs set mt me (d :: ds) acc w = lcGo vs set mt me (d :: ds) acc w' := by
  rw [lcGo_step, lcGo_step, h]
/-- return f(..) -/
@[simp] theorem toR_ret (r : RF) (w : W) : ((r.toR w).toS fun d w' => RS.ret d w').fin = r := by cases r <;> rfl
@[simp] theorem eqv_lst_lst (a b : List D) : D.eqv (.lst a) (.lst b) = D.eqvs a b := by rw [D.eqv]
@[simp] theorem eqv_lst_tup (a b : List D) : D.eqv (.lst a) (.tup b) = false := by rw [D.eqv] <;> simp
@[simp] theorem eqv_tup_lst (a b : List D) : D.eqv (.tup a) (.lst b) = false := by rw [D.eqv] <;> simp
@[simp] theorem eqv_lst_non (a : List D) : D.eqv (.lst a) .non = false := by rw [D.eqv] <;> simp
@[simp] theorem eqv_non_lst (a : List D) : D.eqv .non (.lst a) = false := by rw [D.eqv] <;> simp
@[simp] theorem cutD_to1 (l : List D) : TD.cutD l none (some 1) = l.take 1 := cutD_to l 1
end TP

set_option Elab.async false
set_option linter.all false
set_option maxRecDepth 100000
set_option maxHeartbeats 4000000
namespace TP
open PySem PySem.Spec PyProof.Rows L2 TD
/-! ### texts as rows of signs -/
abbrev S (a : List Nat) : Str := ⟨a.toArray⟩
theorem S_app (a b : List Nat) : S a ++ S b = S (a ++ b) := by
  show Str.append (S a) (S b) = _
  unfold Str.append
  simp
theorem S_len (a : List Nat) : (S a).length = a.length := by show a.toArray.size = _; simp
theorem S_inj {a b : List Nat} : S a = S b ↔ a = b := by simp [S]
theorem S_beq (a b : List Nat) : (S a == S b) = decide (a = b) := by
  rw [Bool.eq_iff_iff, beq_iff_eq, S_inj, decide_eq_true_iff]
theorem S_nil : ("" : Str) = S [] := by decide +kernel
theorem join_S : ∀ ls : List (List Nat), Txt.join (S []) (ls.map S) = S ls.flatten
  | [] => rfl
  | x :: ls => by
    show Builtin.Str.glued (S []) (S x :: ls.map S) = _
    unfold Builtin.Str.glued
    have key : ∀ (ls : List (List Nat)) (acc : List Nat), (ls.map S).foldl (fun acc p => acc ++ (S []).cps ++ p.cps) acc.toArray = (acc ++ ls.flatten).toArray := by
      intro ls
      induction ls with
      | nil => intro acc; simp
      | cons y ls ih =>
        intro acc
        rw [List.map_cons, List.foldl_cons]
        have e : acc.toArray ++ (S []).cps ++ (S y).cps = (acc ++ y).toArray := by simp
        rw [e, ih]
        simp
    show (⟨(ls.map S).foldl (fun acc p => acc ++ (S []).cps ++ p.cps) x.toArray⟩ : Str) = _
    rw [key]
    simp
theorem strs_S : ∀ ls : List (List Nat), TD.strs? (ls.map fun t => D.str (S t)) = some (ls.map S)
  | [] => rfl
  | x :: ls => by rw [List.map_cons, TD.strs?, strs_S ls]; rfl
theorem lens_S (ls : List (List Nat)) : ((ls.map S).map (·.length)).sum = (ls.map List.length).sum := by
  rw [List.map_map]; congr 1
theorem joinD_tup (ls : List (List Nat)) (h : (ls.map List.length).sum ≤ 1000000) : joinD (S []) (.tup (ls.map fun t => D.str (S t))) = some (.str (S ls.flatten)) := by
  show ((TD.strs? (ls.map fun t => D.str (S t))).bind fun ys => if (ys.map (·.length)).sum + ys.length * (S []).length ≤ 1000000 then some (D.str (Txt.join (S []) ys)) else none) = _
  rw [strs_S]
  show (if ((ls.map S).map (·.length)).sum + (ls.map S).length * (S []).length ≤ 1000000 then some (D.str (Txt.join (S []) (ls.map S))) else none) = _
  have e : ((ls.map S).map (·.length)).sum + (ls.map S).length * (S []).length ≤ 1000000 := by
    rw [lens_S, S_len]; simpa using h
  rw [if_pos e, join_S]
theorem cutS_S (a : List Nat) (lo hi : Option Int) : cutS (S a) lo hi = S ((a.drop (HT.sIx a.length 0 lo)).take (HT.sIx a.length a.length hi - HT.sIx a.length 0 lo)) := by
  unfold cutS
  rw [S_len]
theorem cutS_to (a : List Nat) (k : Nat) : cutS (S a) none (some (k : Int)) = S (a.take k) := by
  rw [cutS_S, HT.sIx_nat, HT.sIx_none]
  simp
theorem cutS_from (a : List Nat) (k : Nat) : cutS (S a) (some (k : Int)) none = S (a.drop k) := by
  rw [cutS_S, HT.sIx_nat, HT.sIx_none]
  by_cases h : k ≤ a.length
  · rw [Nat.min_eq_left h, List.take_of_length_le (by simp)]
  · rw [Nat.min_eq_right (by omega), List.drop_eq_nil_of_le (Nat.le_refl _), List.drop_eq_nil_of_le (by omega)]
    simp
theorem subS_one (c : Nat) (a : List Nat) : subS (S [c]) (S a) = decide (c ∈ a) := StrLaws.found_one (S a) c
theorem signs_S (a : List Nat) : TD.signs (S a) = a.map fun c => D.str (S [c]) := by simp [TD.signs]
theorem gIx_S (a : List Nat) (i : Int) (h : a.length ≤ 1000000) : gIx (.str (S a)) (.int i) = (atI a i).map fun c => D.str (S [c]) := by
  rw [gIx_str, S_len, if_pos h]
theorem strOk_S {a : List Nat} (h : ∀ c ∈ a, c < 128) : PyData.strOk (S a) = true := by
  show (S a).cps.all (· < 0x110000) = true
  rw [Array.all_eq_true']
  intro c hc
  have := h c (by simpa [S] using hc)
  exact decide_eq_true (by omega)
@[simp] theorem isi_int_str (i : Int) : (D.int i).isi "str" = some false := by show kitB "int" "str" = _; decide +kernel
@[simp] theorem isi_bl_str (i : Bool) : (D.bl i).isi "str" = some false := by show kitB "bool" "str" = _; decide +kernel
@[simp] theorem isi_str_str (i : Str) : (D.str i).isi "str" = some true := by show kitB "str" "str" = _; decide +kernel
@[simp] theorem isi_non_str : D.non.isi "str" = some false := by show kitB "NoneType" "str" = _; decide +kernel
@[simp] theorem isi_tup_str (i : List D) : (D.tup i).isi "str" = some false := by show kitB "tuple" "str" = _; decide +kernel
@[simp] theorem isi_lst_str (i : List D) : (D.lst i).isi "str" = some false := by show kitB "list" "str" = _; decide +kernel
/-- a pure comprehension whose first step freezes a list -/
theorem lc_two {vs : List Nat} {set : D → W → Option W} {mt : W → R Bool} {me : W → R D} (h : D → Option D) (w w' : W) (ds : List D) (h1 : ∀ d ∈ ds, lcStep vs set mt me d w' = .ok (h d) w') (h2 : ∀ d ∈ ds, lcStep vs set mt me d w = .ok (h d) w') (hl : ds.length ≤ 1000000) :
    ∃ w2, (w2 = w ∨ w2 = w') ∧ lcGo vs set mt me ds [] w = .ok (ds.filterMap h) w2 := by
  cases ds with
  | nil => exact ⟨w, .inl rfl, rfl⟩
  | cons d ds =>
    refine ⟨w', .inr rfl, ?_⟩
    have := lc_pure h w' (d :: ds) [] h1 (by simpa using hl)
    rw [List.nil_append] at this
    rw [← this]
    exact lcGo_first ((h2 d (List.mem_cons_self ..)).trans (h1 d (List.mem_cons_self ..)).symm)
/-! ### draws -/
/-- a row of draws -/
theorem lc_picks (v : Nat) (many : Int) (m : W → R D) (hm : 0 < many ∧ many < 1000000) (env : TD.Env) (n : Int) (hn : 0 ≤ n ∧ n ≤ 1000) (ss : SS) (hs : SsOk ss)
    (h : ∀ (d : D) (ss ss' : SS) (r : Int), pickM [.src, .int many] ss = .ok (.int r) ss' → lcStep [v] (gsName v) mYes m d ⟨env, ss⟩ = .ok (some (.int r)) ⟨env, ss'⟩) :
    ∃ (l : List Int) (ss' : SS), lcGo [v] (gsName v) mYes m (rngD 0 n) [] ⟨env, ss⟩ = .ok (l.map D.int) ⟨env, ss'⟩ ∧ SsOk ss' ∧ l.length = n.toNat ∧ ∀ x ∈ l, 0 ≤ x ∧ x < many := by
  obtain ⟨ys, ss', e, h1, h2, h3⟩ := lc_draw (vs := [v]) (set := gsName v) (mt := mYes) (me := m) SsOk (fun _ y => ∃ r : Int, y = .int r ∧ 0 ≤ r ∧ r < many) env (rngD 0 n) [] ss hs (fun d _ s hs => by
    obtain ⟨r, s', e, r1, r2, hs'⟩ := (pick_ok s hs many hm.1 hm.2).ex
    exact ⟨.int r, s', h d s s' r e, hs', r, rfl, r1, r2⟩) (by simp [rngD]; omega)
  have hlen : (rngD 0 n).length = n.toNat := by simp [rngD]
  have key : ∀ (ys : List D), (∀ (i : Nat) (y : D), ys[i]? = some y → ∃ r : Int, y = .int r ∧ 0 ≤ r ∧ r < many) → ∃ l : List Int, ys = l.map D.int ∧ ∀ x ∈ l, 0 ≤ x ∧ x < many := by
    intro ys
    induction ys with
    | nil => intro _; exact ⟨[], rfl, fun _ h => nomatch h⟩
    | cons y ys ih =>
      intro hy
      obtain ⟨r, rfl, r1, r2⟩ := hy 0 y rfl
      obtain ⟨l, rfl, hl⟩ := ih fun i z hz => hy (i + 1) z (by simpa using hz)
      exact ⟨r :: l, rfl, fun x hx => by
        rcases List.mem_cons.mp hx with rfl | hx
        · exact ⟨r1, r2⟩
        · exact hl x hx⟩
  obtain ⟨l, rfl, hl⟩ := key ys fun i y hy => by
    have hi : i < (rngD 0 n).length := by rw [← h2]; exact (List.getElem?_eq_some_iff.mp hy).1
    exact h3 i _ y (List.getElem?_eq_getElem hi) hy
  exact ⟨l, ss', by simpa using e, h1, by simpa [hlen] using h2, hl⟩
end TP

set_option Elab.async false
set_option linter.all false
set_option maxRecDepth 100000
set_option maxHeartbeats 4000000
namespace K31
open PySem PySem.Spec PyProof.Rows L2 TD
def hx : HxT := [(("BadValue", "TalkError"), true), (("BadValue", "BadValue"), true), (("BadValue", "ValueError"), true), (("BadValue", "BadText"), false), (("BadValue", "TooMany"), false), (("BadValue", "Unlike"), false), (("BadValue", "Unknown"), false), (("BadValue", "BadPaper"), false)]
@[simp] theorem hx_BadValue_TalkError : xT hx "TalkError" "BadValue" = some true := by decide +kernel
@[simp] theorem hx_BadValue_BadValue : xT hx "BadValue" "BadValue" = some true := by decide +kernel
@[simp] theorem hx_BadValue_ValueError : xT hx "ValueError" "BadValue" = some true := by decide +kernel
@[simp] theorem hx_BadValue_BadText : xT hx "BadText" "BadValue" = some false := by decide +kernel
@[simp] theorem hx_BadValue_TooMany : xT hx "TooMany" "BadValue" = some false := by decide +kernel
@[simp] theorem hx_BadValue_Unlike : xT hx "Unlike" "BadValue" = some false := by decide +kernel
@[simp] theorem hx_BadValue_Unknown : xT hx "Unknown" "BadValue" = some false := by decide +kernel
@[simp] theorem hx_BadValue_BadPaper : xT hx "BadPaper" "BadValue" = some false := by decide +kernel
def e_is_count : W → RS := 
  sCons (sRet (mAndV (mIsi "int" (mVar 0)) (mAndV (mNotV (mIsi "bool" (mVar 0))) (mChain gLe gLe (mVar 1) (mVar 0) (mVar 2))))) (sNil)
def m_is_count : List D → SS → RF := fnM 3 e_is_count
def e_is_deal : W → RS := 
  sCons (sIf (mOrT (mNotT (mTru (mIsi "tuple" (mVar 0)))) (mB (mBin gGt (mBlt gLen (mCons (mVar 0) (mNil))) (mC (.int 240))))) (
    sCons (sRet (mC (.bl false))) (sNil)) (sNil)) (
  sCons (sRet (mBin gEq (mBlt gLen (mCons (mFrz (mLc [1] (mItems (mVar 0)) (gsName 1) (mNotT (mTru (mCall 3 m_is_count (mCons (mVar 1) (mCons (mC (.int 0)) (mCons (mBin gSub (mC (.int 4)) (mC (.int 1))) (mNil))))))) (mVar 1))) (mNil))) (mC (.int 0)))) (sNil))
def m_is_deal : List D → SS → RF := fnM 2 e_is_deal
def e_must_be_deal : W → RS := 
  sCons (sIf (mNotT (mTru (mCall 1 m_is_deal (mCons (mVar 0) (mNil))))) (
    sCons (sRaise "BadValue" "what" (mCons (mC (.str "deal")) (mNil))) (sNil)) (sNil)) (sNil)
def m_must_be_deal : List D → SS → RF := fnM 1 e_must_be_deal
def e_hands_of : W → RS := 
  sCons (sExpr (mCall 1 m_must_be_deal (mCons (mVar 0) (mNil)))) (
  sCons (sRet (mBin gAdd (mBlt gMax (mCons (mFrz (mCat (mFrz (mListOf (mVar 0))) (mFrz (mLst (mCons (mUn gNeg (mC (.int 1))) (mNil)))))) (mNil))) (mC (.int 1)))) (sNil))
def m_hands_of : List D → SS → RF := fnM 1 e_hands_of
def g_blocks_of_0 : D → W → Option W := gsName 3
def b_blocks_of_0 : W → RS := 
    sCons (sIf (mOrT (mB (mBin gEq (mVar 3) (mBlt gLen (mCons (mVar 0) (mNil))))) (mB (mBin gNe (mBin gIx (mVar 0) (mVar 3)) (mBin gIx (mVar 0) (mVar 2))))) (
      sCons (sApp 1 (mTup (mCons (mBin gIx (mVar 0) (mVar 2)) (mCons (mVar 2) (mCons (mVar 3) (mNil)))))) (
      sCons (sSet 2 (mVar 3)) (sNil))) (sNil)) (sNil)
def e_blocks_of : W → RS := 
  sCons (sExpr (mCall 1 m_must_be_deal (mCons (mVar 0) (mNil)))) (
  sCons (sSetF 1 (mLst (mNil))) (
  sCons (sSet 2 (mC (.int 0))) (
  sCons (sFor (mRng2 (mCons (mC (.int 1)) (mCons (mBin gAdd (mBlt gLen (mCons (mVar 0) (mNil))) (mC (.int 1))) (mNil)))) (g_blocks_of_0) (b_blocks_of_0)) (
  sCons (sRet (mBlt gTuple (mCons (mVar 1) (mNil)))) (sNil)))))
def m_blocks_of : List D → SS → RF := fnM 4 e_blocks_of
def e_short_deal : W → RS := 
  sCons (sRet (mBlt gTuple (mCons (mFrz (mLc [1] (mItems (mCall 1 m_blocks_of (mCons (mVar 0) (mNil)))) (gsName 1) (mYes) (mBin gIx (mVar 1) (mC (.int 0))))) (mNil)))) (sNil)
def m_short_deal : List D → SS → RF := fnM 2 e_short_deal
def e_turning_deal : W → RS := 
  sCons (sIf (mOrT (mNotT (mTru (mCall 3 m_is_count (mCons (mVar 0) (mCons (mC (.int 0)) (mCons (mC (.int 240)) (mNil))))))) (mB (mBin gNotIn (mVar 1) (mTup (mCons (mC (.int 0)) (mCons (mC (.int 1)) (mNil))))))) (
    sCons (sRaise "BadValue" "what" (mCons (mC (.str "deal")) (mNil))) (sNil)) (sNil)) (
  sCons (sRet (mBlt gTuple (mCons (mFrz (mLc [2] (mRng1 (mCons (mVar 0) (mNil))) (gsName 2) (mYes) (mBin gAnd (mBin gAdd (mVar 1) (mVar 2)) (mC (.int 1))))) (mNil)))) (sNil))
def m_turning_deal : List D → SS → RF := fnM 3 e_turning_deal
def e__law_pick : W → RS := 
  sCons (sIf (mB (mBin gGt (mSrc 0 1) (mC (.int 0)))) (
    sCons (sSet 2 (mSrc 0 1)) (
    sCons (sSrc 0 1 (mBin gDiv (mVar 2) (mVar 1))) (
    sCons (sRet (mBin gMod (mBlt gInt (mCons (mVar 2) (mNil))) (mVar 1))) (sNil)))) (sNil)) (
  sCons (sSet 3 (mSrc 0 2)) (
  sCons (sSrc 0 2 (mBin gAdd (mVar 3) (mC (.int 1)))) (
  sCons (sSet 4 (mSrc 0 0)) (
  sCons (sSet 5 (mBin gIx (mVar 4) (mBin gMod (mBlt gInt (mCons (mVar 3) (mNil))) (mBlt gLen (mCons (mVar 4) (mNil)))))) (
  sCons (sIf (mAndT (mB (mBin gGe (mVar 5) (mBin gPow (mC (.int 10)) (mC (.int 18))))) (mB (mBin gLt (mVar 3) (mBlt gLen (mCons (mVar 4) (mNil)))))) (
    sCons (sSrc 0 1 (mBin gDiv (mVar 5) (mVar 1))) (
    sCons (sRet (mBin gMod (mBlt gInt (mCons (mVar 5) (mNil))) (mVar 1))) (sNil))) (sNil)) (
  sCons (sSet 6 (mBin gMod (mBlt gInt (mCons (mBin gAdd (mBin gAdd (mBin gMul (mBin gMod (mBlt gInt (mCons (mVar 5) (mNil))) (mC (.int 2147483647))) (mC (.int 48271))) (mBin gMul (mVar 3) (mC (.int 69621)))) (mC (.int 40692))) (mNil))) (mC (.int 2147483399)))) (
  sCons (sSet 7 (mBin gMod (mBlt gInt (mCons (mBin gAdd (mBin gAdd (mBin gMul (mVar 6) (mBin gAdd (mBin gMod (mBlt gInt (mCons (mVar 6) (mNil))) (mC (.int 65537))) (mC (.int 3)))) (mBin gMul (mVar 3) (mC (.int 7919)))) (mC (.int 17))) (mNil))) (mC (.int 2147483647)))) (
  sCons (sRet (mBin gMod (mBlt gInt (mCons (mBin gDiv (mVar 7) (mC (.int 5))) (mNil))) (mVar 1))) (sNil)))))))))
def m__law_pick : List D → SS → RF := fnM 8 e__law_pick
def e__law_deal : W → RS := 
  sCons (sRet (mBlt gTuple (mCons (mFrz (mLc [3] (mRng1 (mCons (mVar 1) (mNil))) (gsName 3) (mYes) (mCall 2 m__law_pick (mCons (mVar 0) (mCons (mVar 2) (mNil)))))) (mNil)))) (sNil)
def m__law_deal : List D → SS → RF := fnM 4 e__law_deal
def e__law_is_int : W → RS := 
  sCons (sRet (mAndV (mIsi "int" (mVar 0)) (mNotV (mIsi "bool" (mVar 0))))) (sNil)
def m__law_is_int : List D → SS → RF := fnM 1 e__law_is_int
def g__law_wide_deal_0 : D → W → Option W := gsName 4
def b__law_wide_deal_0 : W → RS := 
      sCons (sSet 5 (mCall 2 m__law_pick (mCons (mVar 0) (mCons (mVar 1) (mNil))))) (
      sCons (sSetF 3 (mCat (mVar 3) (mFrz (mLc [6] (mRng1 (mCons (mBin gAdd (mC (.int 1)) (mCall 2 m__law_pick (mCons (mVar 0) (mCons (mC (.int 20)) (mNil))))) (mNil))) (gsName 6) (mYes) (mVar 5))))) (sNil))
def e__law_wide_deal : W → RS := 
  sCons (sSet 1 (mBin gAdd (mC (.int 1)) (mCall 2 m__law_pick (mCons (mVar 0) (mCons (mC (.int 4)) (mNil)))))) (
  sCons (sSet 2 (mCall 2 m__law_pick (mCons (mVar 0) (mCons (mC (.int 4)) (mNil))))) (
  sCons (sIf (mB (mBin gEq (mVar 2) (mC (.int 0)))) (
    sCons (sRet (mCall 3 m__law_deal (mCons (mVar 0) (mCons (mCall 2 m__law_pick (mCons (mVar 0) (mCons (mC (.int 13)) (mNil)))) (mCons (mVar 1) (mNil)))))) (sNil)) (sNil)) (
  sCons (sIf (mB (mBin gEq (mVar 2) (mC (.int 1)))) (
    sCons (sSetF 3 (mLst (mNil))) (
    sCons (sFor (mRng1 (mCons (mCall 2 m__law_pick (mCons (mVar 0) (mCons (mC (.int 13)) (mNil)))) (mNil))) (g__law_wide_deal_0) (b__law_wide_deal_0)) (
    sCons (sRet (mBlt gTuple (mCons (mFrz (mSlL (mVar 3) (mNoP) (mP (mC (.int 240))))) (mNil)))) (sNil)))) (sNil)) (
  sCons (sSet 7 (mCall 2 m__law_pick (mCons (mVar 0) (mCons (mC (.int 241)) (mNil))))) (
  sCons (sIf (mB (mBin gEq (mVar 2) (mC (.int 2)))) (
    sCons (sSet 7 (mBin gIx (mFrz (mLst (mCons (mC (.int 0)) (mCons (mC (.int 1)) (mCons (mC (.int 2)) (mCons (mC (.int 60)) (mCons (mC (.int 239)) (mCons (mC (.int 240)) (mNil))))))))) (mBin gMod (mBlt gInt (mCons (mVar 7) (mNil))) (mC (.int 6))))) (sNil)) (sNil)) (
  sCons (sSetF 8 (mLc [6] (mRng1 (mCons (mBin gAdd (mC (.int 1)) (mCall 2 m__law_pick (mCons (mVar 0) (mCons (mC (.int 6)) (mNil))))) (mNil))) (gsName 6) (mYes) (mCall 2 m__law_pick (mCons (mVar 0) (mCons (mVar 1) (mNil)))))) (
  sCons (sRet (mBlt gTuple (mCons (mFrz (mLc [6] (mRng1 (mCons (mVar 7) (mNil))) (gsName 6) (mYes) (mBin gIx (mVar 8) (mBin gMod (mBlt gInt (mCons (mVar 6) (mNil))) (mBlt gLen (mCons (mVar 8) (mNil))))))) (mNil)))) (sNil))))))))
def m__law_wide_deal : List D → SS → RF := fnM 9 e__law_wide_deal
def e__law_asked : W → RS := 
  sCons (sTry (xT hx "TalkError") 3 (
    sCons (sIf (mB (mBin gEq (mVar 0) (mC (.int 0)))) (
      sCons (sRet (mTup (mCons (mC (.str "told")) (mCons (mCall 1 m_hands_of (mCons (mVar 1) (mNil))) (mNil))))) (sNil)) (sNil)) (
    sCons (sIf (mB (mBin gEq (mVar 0) (mC (.int 1)))) (
      sCons (sRet (mTup (mCons (mC (.str "told")) (mCons (mCall 1 m_blocks_of (mCons (mVar 1) (mNil))) (mNil))))) (sNil)) (sNil)) (
    sCons (sIf (mB (mBin gEq (mVar 0) (mC (.int 2)))) (
      sCons (sRet (mTup (mCons (mC (.str "told")) (mCons (mCall 1 m_short_deal (mCons (mVar 1) (mNil))) (mNil))))) (sNil)) (sNil)) (
    sCons (sIf (mB (mBin gEq (mVar 0) (mC (.int 3)))) (
      sCons (sRet (mTup (mCons (mC (.str "told")) (mCons (mCall 2 m_turning_deal (mApp [.int (0)] (mCons (mVar 1) (mNil)))) (mNil))))) (sNil)) (sNil)) (
    sCons (sRet (mTup (mCons (mC (.str "told")) (mCons (mCall 2 m_turning_deal (mCons (mVar 1) (mCons (mVar 2) (mNil)))) (mNil))))) (sNil)))))) (
    sCons (sIf (mOrT (mNotT (mTru (mIsX 3 (xT hx "BadValue")))) (mNotT (mTru (mIsX 3 (xT hx "ValueError"))))) (
      sCons (sRet (mTup (mCons (mC (.str "other")) (mCons (mC .non) (mNil))))) (sNil)) (sNil)) (
    sCons (sIf (mTru (mIsX 3 (anyX [(xT hx "BadText"), (xT hx "TooMany"), (xT hx "Unlike"), (xT hx "Unknown"), (xT hx "BadPaper")]))) (
      sCons (sRet (mTup (mCons (mC (.str "other")) (mCons (mC .non) (mNil))))) (sNil)) (sNil)) (
    sCons (sRet (mTup (mCons (mC (.str "refused")) (mCons (mExf 3 "what") (mNil))))) (sNil))))) (sNil)
def m__law_asked : List D → SS → RF := fnM 4 e__law_asked
def g__law_hands_0 : D → W → Option W := gsName 2
def b__law_hands_0 : W → RS := 
    sCons (sSet 1 (mBlt gMax (mCons (mVar 1) (mCons (mBin gAdd (mVar 2) (mC (.int 1))) (mNil))))) (sNil)
def e__law_hands : W → RS := 
  sCons (sSet 1 (mC (.int 0))) (
  sCons (sFor (mItems (mVar 0)) (g__law_hands_0) (b__law_hands_0)) (
  sCons (sRet (mVar 1)) (sNil)))
def m__law_hands : List D → SS → RF := fnM 3 e__law_hands
def e__law_blocks : W → RS := 
  sCons (sSetF 1 (mLc [2] (mRng1 (mCons (mBlt gLen (mCons (mVar 0) (mNil))) (mNil))) (gsName 2) (mOrT (mB (mBin gEq (mVar 2) (mC (.int 0)))) (mB (mBin gNe (mBin gIx (mVar 0) (mVar 2)) (mBin gIx (mVar 0) (mBin gSub (mVar 2) (mC (.int 1))))))) (mVar 2))) (
  sCons (sSetF 3 (mCat (mFrz (mSlL (mVar 1) (mP (mC (.int 1))) (mNoP))) (mFrz (mLst (mCons (mBlt gLen (mCons (mVar 0) (mNil))) (mNil)))))) (
  sCons (sRet (mBlt gTuple (mCons (mFrz (mLc [4, 5] (mZip (mVar 1) (mVar 3)) (gsTup 2 (gsCons (gsName 4) (gsCons (gsName 5) (gsNil)))) (mYes) (mTup (mCons (mBin gIx (mVar 0) (mVar 4)) (mCons (mVar 4) (mCons (mVar 5) (mNil))))))) (mNil)))) (sNil)))
def m__law_blocks : List D → SS → RF := fnM 6 e__law_blocks
def e__law_are_hands : W → RS := 
  sCons (sIf (mNotT (mTru (mIsi "tuple" (mVar 0)))) (
    sCons (sRet (mC (.bl false))) (sNil)) (sNil)) (
  sCons (sRet (mBin gEq (mBlt gLen (mCons (mFrz (mLc [1] (mItems (mVar 0)) (gsName 1) (mNotT (mTru (mCall 1 m__law_is_int (mCons (mVar 1) (mNil))))) (mVar 1))) (mNil))) (mC (.int 0)))) (sNil))
def m__law_are_hands : List D → SS → RF := fnM 2 e__law_are_hands
def g__law_blocks_stand_0 : D → W → Option W := gsName 4
def b__law_blocks_stand_0 : W → RS := 
    sCons (sIf (mOrT (mNotT (mTru (mCall 1 m__law_are_hands (mCons (mVar 4) (mNil))))) (mB (mBin gNe (mBlt gLen (mCons (mVar 4) (mNil))) (mC (.int 3))))) (
      sCons (sRet (mC (.bl false))) (sNil)) (sNil)) (
    sCons (sAsg (gsTup 3 (gsCons (gsName 5) (gsCons (gsName 6) (gsCons (gsName 7) (gsNil))))) (mVar 4)) (
    sCons (sIf (mOrT (mB (mBin gNe (mVar 6) (mVar 2))) (mOrT (mB (mBin gLe (mVar 7) (mVar 6))) (mOrT (mB (mBin gGt (mVar 7) (mBlt gLen (mCons (mVar 0) (mNil))))) (mB (mBin gEq (mVar 5) (mVar 3)))))) (
      sCons (sRet (mC (.bl false))) (sNil)) (sNil)) (
    sCons (sIf (mB (mBin gGt (mBlt gLen (mCons (mFrz (mLc [8] (mRng2 (mCons (mVar 6) (mCons (mVar 7) (mNil)))) (gsName 8) (mB (mBin gNe (mBin gIx (mVar 0) (mVar 8)) (mVar 5))) (mVar 8))) (mNil))) (mC (.int 0)))) (
      sCons (sRet (mC (.bl false))) (sNil)) (sNil)) (
    sCons (sSet 2 (mVar 7)) (
    sCons (sSet 3 (mVar 5)) (sNil))))))
def e__law_blocks_stand : W → RS := 
  sCons (sIf (mNotT (mTru (mIsi "tuple" (mVar 1)))) (
    sCons (sRet (mC (.bl false))) (sNil)) (sNil)) (
  sCons (sSet 2 (mC (.int 0))) (
  sCons (sSet 3 (mC (.int 4))) (
  sCons (sFor (mItems (mVar 1)) (g__law_blocks_stand_0) (b__law_blocks_stand_0)) (
  sCons (sRet (mBin gEq (mVar 2) (mBlt gLen (mCons (mVar 0) (mNil))))) (sNil)))))
def m__law_blocks_stand : List D → SS → RF := fnM 9 e__law_blocks_stand
def e__law_deal_right : W → RS := 
  sCons (sIf (mB (mBin gIsNot (mCall 1 m_is_deal (mCons (mVar 0) (mNil))) (mC (.bl true)))) (
    sCons (sRet (mC (.bl false))) (sNil)) (sNil)) (
  sCons (sSet 1 (mCall 3 m__law_asked (mCons (mC (.int 0)) (mCons (mVar 0) (mCons (mC (.int 0)) (mNil)))))) (
  sCons (sIf (mOrT (mB (mBin gNe (mVar 1) (mTup (mCons (mC (.str "told")) (mCons (mCall 1 m__law_hands (mCons (mVar 0) (mNil))) (mNil)))))) (mNotT (mTru (mCall 1 m__law_is_int (mCons (mBin gIx (mVar 1) (mC (.int 1))) (mNil)))))) (
    sCons (sRet (mC (.bl false))) (sNil)) (sNil)) (
  sCons (sSet 2 (mCall 1 m__law_blocks (mCons (mVar 0) (mNil)))) (
  sCons (sSet 1 (mCall 3 m__law_asked (mCons (mC (.int 1)) (mCons (mVar 0) (mCons (mC (.int 0)) (mNil)))))) (
  sCons (sIf (mOrT (mB (mBin gNe (mVar 1) (mTup (mCons (mC (.str "told")) (mCons (mVar 2) (mNil)))))) (mNotT (mTru (mCall 2 m__law_blocks_stand (mCons (mVar 0) (mCons (mBin gIx (mVar 1) (mC (.int 1))) (mNil))))))) (
    sCons (sRet (mC (.bl false))) (sNil)) (sNil)) (
  sCons (sSet 3 (mBlt gTuple (mCons (mFrz (mLc [4] (mItems (mVar 2)) (gsName 4) (mYes) (mBin gIx (mVar 4) (mC (.int 0))))) (mNil)))) (
  sCons (sSet 1 (mCall 3 m__law_asked (mCons (mC (.int 2)) (mCons (mVar 0) (mCons (mC (.int 0)) (mNil)))))) (
  sCons (sIf (mOrT (mB (mBin gNe (mVar 1) (mTup (mCons (mC (.str "told")) (mCons (mVar 3) (mNil)))))) (mNotT (mTru (mCall 1 m__law_are_hands (mCons (mBin gIx (mVar 1) (mC (.int 1))) (mNil)))))) (
    sCons (sRet (mC (.bl false))) (sNil)) (sNil)) (
  sCons (sIf (mOrT (mB (mBin gIsNot (mCall 1 m_is_deal (mCons (mBin gIx (mVar 1) (mC (.int 1))) (mNil))) (mC (.bl true)))) (mB (mBin gNe (mCall 3 m__law_asked (mCons (mC (.int 2)) (mCons (mBin gIx (mVar 1) (mC (.int 1))) (mCons (mC (.int 0)) (mNil))))) (mTup (mCons (mC (.str "told")) (mCons (mVar 3) (mNil))))))) (
    sCons (sRet (mC (.bl false))) (sNil)) (sNil)) (
  sCons (sRet (mBin gEq (mCall 3 m__law_asked (mCons (mC (.int 0)) (mCons (mBin gIx (mVar 1) (mC (.int 1))) (mCons (mC (.int 0)) (mNil))))) (mTup (mCons (mC (.str "told")) (mCons (mCall 1 m__law_hands (mCons (mVar 0) (mNil))) (mNil)))))) (sNil)))))))))))
def m__law_deal_right : List D → SS → RF := fnM 5 e__law_deal_right
def g__law_turning_right_0 : D → W → Option W := gsTup 3 (gsCons (gsName 4) (gsCons (gsName 5) (gsCons (gsName 6) (gsNil))))
def b__law_turning_right_0 : W → RS := 
    sCons (sSet 7 (mCall 3 m__law_asked (mCons (mVar 4) (mCons (mVar 0) (mCons (mVar 5) (mNil)))))) (
    sCons (sIf (mOrT (mB (mBin gNe (mVar 7) (mTup (mCons (mC (.str "told")) (mCons (mVar 6) (mNil)))))) (mNotT (mTru (mCall 1 m__law_are_hands (mCons (mBin gIx (mVar 7) (mC (.int 1))) (mNil)))))) (
      sCons (sRet (mC (.bl false))) (sNil)) (sNil)) (
    sCons (sIf (mB (mBin gNe (mCall 3 m__law_asked (mCons (mC (.int 2)) (mCons (mBin gIx (mVar 7) (mC (.int 1))) (mCons (mC (.int 0)) (mNil))))) (mTup (mCons (mC (.str "told")) (mCons (mVar 6) (mNil)))))) (
      sCons (sRet (mC (.bl false))) (sNil)) (sNil)) (
    sCons (sIf (mB (mBin gNe (mCall 3 m__law_asked (mCons (mC (.int 1)) (mCons (mBin gIx (mVar 7) (mC (.int 1))) (mCons (mC (.int 0)) (mNil))))) (mTup (mCons (mC (.str "told")) (mCons (mBlt gTuple (mCons (mFrz (mLc [2] (mRng1 (mCons (mVar 0) (mNil))) (gsName 2) (mYes) (mTup (mCons (mBin gIx (mVar 6) (mVar 2)) (mCons (mVar 2) (mCons (mBin gAdd (mVar 2) (mC (.int 1))) (mNil))))))) (mNil))) (mNil)))))) (
      sCons (sRet (mC (.bl false))) (sNil)) (sNil)) (sNil))))
def e__law_turning_right : W → RS := 
  sCons (sSet 1 (mBlt gTuple (mCons (mFrz (mLc [2] (mRng1 (mCons (mVar 0) (mNil))) (gsName 2) (mYes) (mBin gMod (mBlt gInt (mCons (mVar 2) (mNil))) (mC (.int 2))))) (mNil)))) (
  sCons (sSet 3 (mBlt gTuple (mCons (mFrz (mLc [2] (mRng1 (mCons (mVar 0) (mNil))) (gsName 2) (mYes) (mBin gSub (mC (.int 1)) (mBin gMod (mBlt gInt (mCons (mVar 2) (mNil))) (mC (.int 2)))))) (mNil)))) (
  sCons (sFor (mItems (mTup (mCons (mTup (mCons (mC (.int 4)) (mCons (mC (.int 1)) (mCons (mVar 3) (mNil))))) (mCons (mTup (mCons (mC (.int 3)) (mCons (mC (.int 1)) (mCons (mVar 1) (mNil))))) (mCons (mTup (mCons (mC (.int 4)) (mCons (mC (.int 0)) (mCons (mVar 1) (mNil))))) (mNil)))))) (g__law_turning_right_0) (b__law_turning_right_0)) (
  sCons (sRet (mC (.bl true))) (sNil))))
def m__law_turning_right : List D → SS → RF := fnM 8 e__law_turning_right
def g__law_is_refused_0 : D → W → Option W := gsName 1
def b__law_is_refused_0 : W → RS := 
    sCons (sIf (mB (mBin gNe (mCall 3 m__law_asked (mCons (mVar 1) (mCons (mVar 0) (mCons (mC (.int 0)) (mNil))))) (mTup (mCons (mC (.str "refused")) (mCons (mC (.str "deal")) (mNil)))))) (
      sCons (sRet (mC (.bl false))) (sNil)) (sNil)) (sNil)
def e__law_is_refused : W → RS := 
  sCons (sIf (mB (mBin gIsNot (mCall 1 m_is_deal (mCons (mVar 0) (mNil))) (mC (.bl false)))) (
    sCons (sRet (mC (.bl false))) (sNil)) (sNil)) (
  sCons (sFor (mRng1 (mCons (mC (.int 3)) (mNil))) (g__law_is_refused_0) (b__law_is_refused_0)) (
  sCons (sRet (mC (.bl true))) (sNil)))
def m__law_is_refused : List D → SS → RF := fnM 2 e__law_is_refused
def g__law_refusals_right_0 : D → W → Option W := gsName 8
def b__law_refusals_right_0 : W → RS := 
    sCons (sIf (mNotT (mTru (mCall 1 m__law_is_refused (mCons (mVar 8) (mNil))))) (
      sCons (sRet (mC (.bl false))) (sNil)) (sNil)) (sNil)
def g__law_refusals_right_1 : D → W → Option W := gsName 8
def b__law_refusals_right_1 : W → RS := 
    sCons (sIf (mNotT (mTru (mCall 1 m__law_deal_right (mCons (mVar 8) (mNil))))) (
      sCons (sRet (mC (.bl false))) (sNil)) (sNil)) (sNil)
def g__law_refusals_right_2 : D → W → Option W := gsName 10
def b__law_refusals_right_2 : W → RS := 
    sCons (sIf (mOrT (mB (mBin gNe (mCall 3 m__law_asked (mCons (mC (.int 3)) (mCons (mVar 10) (mCons (mC (.int 0)) (mNil))))) (mTup (mCons (mC (.str "refused")) (mCons (mC (.str "deal")) (mNil)))))) (mB (mBin gNe (mCall 3 m__law_asked (mCons (mC (.int 4)) (mCons (mVar 10) (mCons (mC (.int 1)) (mNil))))) (mTup (mCons (mC (.str "refused")) (mCons (mC (.str "deal")) (mNil))))))) (
      sCons (sRet (mC (.bl false))) (sNil)) (sNil)) (sNil)
def g__law_refusals_right_3 : D → W → Option W := gsName 11
def b__law_refusals_right_3 : W → RS := 
    sCons (sIf (mB (mBin gNe (mCall 3 m__law_asked (mCons (mC (.int 4)) (mCons (mBlt gLen (mCons (mVar 1) (mNil))) (mCons (mVar 11) (mNil))))) (mTup (mCons (mC (.str "refused")) (mCons (mC (.str "deal")) (mNil)))))) (
      sCons (sRet (mC (.bl false))) (sNil)) (sNil)) (sNil)
def e__law_refusals_right : W → RS := 
  sCons (sSet 2 (mCall 2 m__law_pick (mCons (mVar 0) (mCons (mBin gAdd (mBlt gLen (mCons (mVar 1) (mNil))) (mC (.int 1))) (mNil))))) (
  sCons (sSetF 3 (mLst (mCons (mC (.int 4)) (mCons (mBin gSub (mC (.int 0)) (mC (.int 1))) (mCons (mC (.int 1000000)) (mCons (mC .non) (mCons (mC (.str "0")) (mCons (mTup (mCons (mC (.int 0)) (mNil))) (mNil))))))))) (
  sCons (sSet 4 (mCall 2 m__law_pick (mCons (mVar 0) (mCons (mC (.int 6)) (mNil))))) (
  sCons (sSet 5 (mBlt gTuple (mCons (mFrz (mLc [6] (mRng1 (mCons (mC (.int 241)) (mNil))) (gsName 6) (mYes) (mIfE (mB (mBin gGt (mBlt gLen (mCons (mVar 1) (mNil))) (mC (.int 0)))) (mBin gIx (mVar 1) (mBin gMod (mBlt gInt (mCons (mVar 6) (mNil))) (mBlt gLen (mCons (mVar 1) (mNil))))) (mC (.int 3))))) (mNil)))) (
  sCons (sSetF 7 (mLst (mCons (mBin gAdd (mBin gAdd (mSlT (mVar 1) (mNoP) (mP (mVar 2))) (mTup (mCons (mIxO 3 (mVar 4)) (mNil)))) (mSlT (mVar 1) (mP (mBin gAdd (mVar 2) (mC (.int 1)))) (mNoP))) (mCons (mVar 5) (mCons (mBin gAdd (mBin gAdd (mSlT (mVar 1) (mNoP) (mP (mVar 2))) (mTup (mCons (mIxO 3 (mBin gSub (mVar 4) (mC (.int 1)))) (mNil)))) (mSlT (mVar 1) (mP (mBin gAdd (mVar 2) (mC (.int 1)))) (mNoP))) (mNil)))))) (
  sCons (sFor (mItems (mFrz (mCat (mVar 7) (mFrz (mLst (mCons (mC .non) (mCons (mC (.str "01")) (mCons (mBlt gLen (mCons (mVar 1) (mNil))) (mNil))))))))) (g__law_refusals_right_0) (b__law_refusals_right_0)) (
  sCons (sSetF 9 (mLst (mCons (mSlT (mBin gAdd (mBin gAdd (mSlT (mVar 1) (mNoP) (mP (mVar 2))) (mTup (mCons (mC (.int 3)) (mNil)))) (mSlT (mVar 1) (mP (mBin gAdd (mVar 2) (mC (.int 1)))) (mNoP))) (mNoP) (mP (mC (.int 240)))) (mCons (mSlT (mBin gAdd (mBin gAdd (mSlT (mVar 1) (mNoP) (mP (mVar 2))) (mTup (mCons (mC (.int 0)) (mNil)))) (mSlT (mVar 1) (mP (mBin gAdd (mVar 2) (mC (.int 1)))) (mNoP))) (mNoP) (mP (mC (.int 240)))) (mCons (mSlT (mVar 5) (mNoP) (mP (mC (.int 240)))) (mNil)))))) (
  sCons (sFor (mItems (mVar 9)) (g__law_refusals_right_1) (b__law_refusals_right_1)) (
  sCons (sFor (mItems (mTup (mCons (mBin gSub (mC (.int 0)) (mC (.int 1))) (mCons (mC (.int 241)) (mCons (mC (.int 1000000)) (mCons (mC .non) (mCons (mC (.str "2")) (mCons (mTup (mCons (mC (.int 2)) (mNil))) (mNil))))))))) (g__law_refusals_right_2) (b__law_refusals_right_2)) (
  sCons (sFor (mItems (mTup (mCons (mC (.int 2)) (mCons (mBin gSub (mC (.int 0)) (mC (.int 1))) (mCons (mC (.int 3)) (mCons (mC .non) (mNil))))))) (g__law_refusals_right_3) (b__law_refusals_right_3)) (
  sCons (sRet (mC (.bl true))) (sNil)))))))))))
def m__law_refusals_right : List D → SS → RF := fnM 12 e__law_refusals_right
def g_law_0 : D → W → Option W := gsName 4
def b_law_0 : W → RS := 
    sCons (sIf (mNotT (mTru (mCall 1 m__law_deal_right (mCons (mVar 4) (mNil))))) (
      sCons (sRet (mC (.bl false))) (sNil)) (sNil)) (sNil)
def g_law_1 : D → W → Option W := gsName 6
def b_law_1 : W → RS := 
    sCons (sIf (mNotT (mTru (mCall 1 m__law_turning_right (mCons (mVar 6) (mNil))))) (
      sCons (sRet (mC (.bl false))) (sNil)) (sNil)) (sNil)
def e_law : W → RS := 
  sCons (sSet 2 (mCall 1 m__law_wide_deal (mCons (mVar 1) (mNil)))) (
  sCons (sSet 3 (mCall 1 m__law_wide_deal (mCons (mVar 1) (mNil)))) (
  sCons (sFor (mItems (mTup (mCons (mVar 2) (mCons (mVar 3) (mCons (mVar 2) (mNil)))))) (g_law_0) (b_law_0)) (
  sCons (sSet 5 (mCall 2 m__law_pick (mCons (mVar 1) (mCons (mC (.int 241)) (mNil))))) (
  sCons (sFor (mItems (mTup (mCons (mVar 5) (mCons (mBin gIx (mFrz (mLst (mCons (mC (.int 0)) (mCons (mC (.int 1)) (mCons (mC (.int 2)) (mCons (mC (.int 3)) (mCons (mC (.int 239)) (mCons (mC (.int 240)) (mNil))))))))) (mBin gMod (mBlt gInt (mCons (mVar 5) (mNil))) (mC (.int 6)))) (mNil))))) (g_law_1) (b_law_1)) (
  sCons (sIf (mNotT (mTru (mCall 2 m__law_refusals_right (mCons (mVar 1) (mCons (mVar 3) (mNil)))))) (
    sCons (sRet (mC (.bl false))) (sNil)) (sNil)) (
  sCons (sRet (mCall 1 m__law_deal_right (mCons (mVar 2) (mNil)))) (sNil)))))))
def envL : TD.Env := none :: some (.val .src) :: List.replicate 5 none
def LawTrue : Prop := ∀ cells : List Int, cells ≠ [] → (∀ c ∈ cells, (0 : Int) ≤ c) → ∃ w', e_law ⟨envL, ⟨cells, 0, 0⟩⟩ = .ret (.bl true) w'

end K31

set_option Elab.async false
set_option linter.all false
set_option maxRecDepth 100000
set_option maxHeartbeats 4000000
namespace K31
open PySem PySem.Spec PyProof.Rows L2 TD TP
theorem pick_eq : m__law_pick = pickM := rfl
def isCnt (d : D) (a b : Int) : Bool := match d with
  | .int i => decide (a ≤ i) && decide (i ≤ b)
  | _ => false
theorem is_count_eq (d : D) (hd : d ≠ .src) (a b : Int) (ss : SS) : m_is_count [d, .int a, .int b] ss = .ok (.bl (isCnt d a b)) ss := by
  cases d with
  | src => exact absurd rfl hd
  | int i =>
    simp [m_is_count, e_is_count, isCnt]
    by_cases h : a ≤ i <;> simp [h]
  | _ => simp [m_is_count, e_is_count, isCnt]
def isDeal : D → Bool
  | .tup ds => decide (ds.length ≤ 240) && ds.all fun d => isCnt d 0 3
  | _ => false
def NoS (d : D) : Prop := match d with
  | .src => False
  | .tup ds => ∀ e ∈ ds, e ≠ .src
  | _ => True
theorem NoS.ne {d : D} (h : NoS d) : d ≠ .src := by rintro rfl; exact h
theorem is_deal_eq (d : D) (h : NoS d) (ss : SS) : m_is_deal [d] ss = .ok (.bl (isDeal d)) ss := by
  cases d with
  | src => exact h.elim
  | tup ds =>
    have h : ∀ e ∈ ds, e ≠ .src := h
    by_cases hl : ds.length ≤ 240
    · have hl' : ¬ (240 : Int) < ds.length := by omega
      have q := lc_pure (vs := [1]) (set := gsName 1) (mt := mNotT (mTru (mCall 3 m_is_count (mCons (mVar 1) (mCons (mC (.int 0)) (mCons (mBin gSub (mC (.int 4)) (mC (.int 1))) (mNil))))))) (me := mVar 1)
        (fun e => if isCnt e 0 3 = true then none else some e) ⟨[some (.val (.tup ds)), none], ss⟩ ds [] (fun e he => by
          simp [lcStep, is_count_eq e (h e he)]
          cases isCnt e 0 3 <;> simp) (by simp; omega)
      have e : (ds.filterMap fun e => if isCnt e 0 3 = true then none else some e) = ds.filter fun d => !isCnt d 0 3 := by
        rw [← List.filterMap_eq_filter]
        congr 1
        funext e
        cases c : isCnt e 0 3 <;> simp [Option.guard, c]
      rw [e] at q
      have e2 : decide ((ds.filter fun d => !isCnt d 0 3).length = 0) = ds.all fun d => isCnt d 0 3 := by
        rw [Bool.eq_iff_iff]
        simp
      simp [m_is_deal, e_is_deal, hl', q, isDeal, hl]
      rw [← e2]
      cases h0 : (ds.filter fun d => !isCnt d 0 3) with
      | nil => simp [h0]
      | cons a r =>
        simp [h0]
        omega
    · have hl' : (240 : Int) < ds.length := by omega
      have hl2 : ¬ ds.length ≤ 240 := hl
      simp [m_is_deal, e_is_deal, hl', isDeal, hl2]
  | _ => simp [m_is_deal, e_is_deal, isDeal]
def bad : Exn := ⟨"BadValue", "what", .str "deal"⟩
theorem must_yes (d : D) (h : NoS d) (hd : isDeal d = true) (ss : SS) : m_must_be_deal [d] ss = .ok .non ss := by
  simp [m_must_be_deal, e_must_be_deal, is_deal_eq d h, hd]
theorem must_no (d : D) (h : NoS d) (hd : isDeal d = false) (ss : SS) : m_must_be_deal [d] ss = .exc bad ss := by
  simp [m_must_be_deal, e_must_be_deal, is_deal_eq d h, hd, bad]
structure Dl (l : List Int) : Prop where
  len : l.length ≤ 240
  rng : ∀ h ∈ l, 0 ≤ h ∧ h ≤ 3
abbrev dI (l : List Int) : D := .tup (l.map D.int)
theorem nos_dI (l : List Int) : NoS (dI l) := fun e he => by
  obtain ⟨i, _, rfl⟩ := List.mem_map.mp he
  simp
theorem Dl.deal {l : List Int} (h : Dl l) : isDeal (dI l) = true := by
  have h1 := h.len
  simp [isDeal, h1]
  intro i hi
  have := h.rng i hi
  simp [isCnt, this]
/-! ### hands -/
def hnd (l : List Int) : Int := l.foldl (fun m h => if h + 1 > m then h + 1 else m) 0
theorem hnd_go : ∀ (l : List Int) (a : Int), l.foldl max a + 1 = l.foldl (fun m h => if h + 1 > m then h + 1 else m) (a + 1)
  | [], a => rfl
  | h :: l, a => by
    rw [List.foldl_cons, List.foldl_cons, hnd_go l]
    congr 1
    rw [Int.max_def]
    split <;> split <;> omega
theorem maxL_app (l : List Int) (h : ∀ x ∈ l, 0 ≤ x) : maxL (l ++ [-1]) + 1 = hnd l := by
  have e : maxL (l ++ [-1]) = l.foldl max (-1) := by
    refine (maxL_eq ?_ ?_).symm
    · rcases foldl_max_mem l (-1) with q | q
      · rw [q]; simp
      · exact List.mem_append_left _ q
    · intro y hy
      rcases List.mem_append.mp hy with hy | hy
      · exact (foldl_max_ge l (-1)).2 y hy
      · have : y = -1 := by simpa using hy
        subst this
        exact (foldl_max_ge l (-1)).1
  rw [e, hnd_go]
  rfl
theorem ints_app (l : List Int) : ints? (l.map D.int ++ [.int (-1)]) = some (l ++ [-1]) := by
  have := TD.ints_map (l ++ [-1])
  rw [List.map_append] at this
  exact this
theorem gMax_app (l : List Int) : gMax [.lst (l.map D.int ++ [.int (-1)])] = some (.int (maxL (l ++ [-1]))) := by
  show (match ints? (l.map D.int ++ [.int (-1)]) with | some (n :: r) => some (D.int (maxL (n :: r))) | _ => none) = _
  rw [ints_app]
  cases l <;> rfl
theorem hands_eq {l : List Int} (h : Dl l) (ss : SS) : m_hands_of [dI l] ss = .ok (.int (hnd l)) ss := by
  have h1 := h.len
  have h2 : l.length + 1 ≤ 1000000 := by omega
  have m := must_yes (dI l) (nos_dI l) h.deal ss
  simp [m_hands_of, e_hands_of, m, h2, gMax_app, maxL_app l fun x hx => (h.rng x hx).1]
theorem hands_no {d : D} (h : NoS d) (hd : isDeal d = false) (ss : SS) : m_hands_of [d] ss = .exc bad ss := by
  simp [m_hands_of, e_hands_of, must_no d h hd]
theorem law_hands_go (V : Option TD.Slot) (ss : SS) : ∀ (l : List Int) (m : Int) (x : Option TD.Slot), ∃ y, sForGo g__law_hands_0 b__law_hands_0 (l.map D.int) ⟨[V, some (.val (.int m)), x], ss⟩ = .nx ⟨[V, some (.val (.int (l.foldl (fun m h => if h + 1 > m then h + 1 else m) m))), y], ss⟩
  | [], m, x => ⟨x, by simp⟩
  | h :: l, m, x => by
    rw [List.map_cons, sForGo_cons, List.foldl_cons]
    obtain ⟨y, e⟩ := law_hands_go V ss l (if h + 1 > m then h + 1 else m) (some (.val (.int h)))
    refine ⟨y, ?_⟩
    rw [← e]
    generalize sForGo g__law_hands_0 b__law_hands_0 (l.map D.int) = kk
    simp [g__law_hands_0, b__law_hands_0]
theorem law_hands_eq (l : List Int) (ss : SS) : m__law_hands [dI l] ss = .ok (.int (hnd l)) ss := by
  obtain ⟨y, e⟩ := law_hands_go (some (.val (dI l))) ss l 0 none
  simp [m__law_hands, e__law_hands, e, hnd]
end K31

set_option Elab.async false
set_option linter.all false
set_option maxRecDepth 100000
set_option maxHeartbeats 4000000
namespace K31
open PySem PySem.Spec PyProof.Rows L2 TD TP
abbrev B3 := Int × Int × Int
def encB (b : B3) : D := .tup [.int b.1, .int b.2.1, .int b.2.2]
def go (h low a : Int) : List Int → List B3
  | [] => [(h, low, a)]
  | x :: xs => if x = h then go h low (a + 1) xs else (h, low, a) :: go x a (a + 1) xs
def blks : List Int → List B3
  | [] => []
  | x :: xs => go x 0 1 xs
theorem go_len (h low a : Int) (xs : List Int) : (go h low a xs).length ≤ xs.length + 1 := by
  induction xs generalizing h low a with
  | nil => simp [go]
  | cons x xs ih =>
    unfold go
    split
    · have := ih h low (a + 1); simp; omega
    · have := ih x a (a + 1); simp; omega
theorem blks_len (l : List Int) : (blks l).length ≤ l.length := by
  cases l with
  | nil => simp [blks]
  | cons x xs => exact go_len x 0 1 xs
theorem blocks_go (l : List Int) (hl : l.length ≤ 240) (ss : SS) : ∀ (xs pre : List Int) (h low : Int) (acc : List D) (n : Int) (x : Option TD.Slot), l = pre ++ xs → n = pre.length → 1 ≤ n → atI l low = some h → acc.length + xs.length < 1000 →
    ∃ y z, sForGo g_blocks_of_0 b_blocks_of_0 (rngD n (l.length + 1)) ⟨[some (.val (dI l)), some (.own acc), some (.val (.int low)), x], ss⟩ = .nx ⟨[some (.val (dI l)), some (.own (acc ++ (go h low n xs).map encB)), y, z], ss⟩
  | [], pre, h, low, acc, n, x, e, hn, h1, hlow, ha => by
    have hn2 : n = (l.length : Int) := by rw [e, hn]; simp
    rw [hn2, rngD_cons (by omega), rngD_nil (Int.le_refl _), sForGo_cons]
    have hc : acc.length < 1000000 := by simp at ha; omega
    refine ⟨some (.val (.int l.length)), some (.val (.int l.length)), ?_⟩
    simp [g_blocks_of_0, b_blocks_of_0, atI_map, hlow, hc, go, encB]
  | y :: xs, pre, h, low, acc, n, x, e, hn, h1, hlow, ha => by
    have hlt : n < l.length := by rw [e, hn]; simp; omega
    have hat : atI l n = some y := by rw [e]; exact atI_pre pre y xs n hn
    have hne : ¬ n = (l.length : Int) := by omega
    rw [rngD_cons (by omega), sForGo_cons]
    have hc : acc.length < 1000000 := by simp at ha; omega
    simp at ha
    by_cases hy : y = h
    · obtain ⟨u, v, ih⟩ := blocks_go l hl ss xs (pre ++ [y]) h low acc (n + 1) (some (.val (.int n))) (by simp [e]) (by simp [hn]) (by omega) hlow (by omega)
      refine ⟨u, v, ?_⟩
      have e2 : go h low n (y :: xs) = go h low (n + 1) xs := by simp [go, hy]
      rw [e2, ← ih]
      generalize sForGo g_blocks_of_0 b_blocks_of_0 (rngD (n + 1) (l.length + 1)) = kk
      simp [g_blocks_of_0, b_blocks_of_0, atI_map, hlow, hat, hne, hy]
    · obtain ⟨u, v, ih⟩ := blocks_go l hl ss xs (pre ++ [y]) y n (acc ++ [encB (h, low, n)]) (n + 1) (some (.val (.int n))) (by simp [e]) (by simp [hn]) (by omega) hat (by simp; omega)
      refine ⟨u, v, ?_⟩
      have e2 : go h low n (y :: xs) = (h, low, n) :: go y n (n + 1) xs := by simp [go, hy]
      rw [e2, List.map_cons, show acc ++ encB (h, low, n) :: (go y n (n + 1) xs).map encB = acc ++ [encB (h, low, n)] ++ (go y n (n + 1) xs).map encB by simp, ← ih]
      generalize sForGo g_blocks_of_0 b_blocks_of_0 (rngD (n + 1) (l.length + 1)) = kk
      simp [g_blocks_of_0, b_blocks_of_0, atI_map, hlow, hat, hne, hy, hc, encB]
theorem blocks_run (T : D) (L : Int) (BB : List D) (y z : Option TD.Slot) (ss : SS) (hg : gLen [T] = some (.int L)) (hs : small (L + 1) = true) (m : m_must_be_deal [T] ss = .ok .non ss)
    (e : sForGo g_blocks_of_0 b_blocks_of_0 (rngD 1 (L + 1)) ⟨[some (.val T), some (.own []), some (.val (.int 0)), none], ss⟩ = .nx ⟨[some (.val T), some (.own BB), y, z], ss⟩) : m_blocks_of [T] ss = .ok (.tup BB) ss := by
  simp [m_blocks_of, e_blocks_of, m, hs, e, hg]
theorem blocks_eq {l : List Int} (h : Dl l) (ss : SS) : m_blocks_of [dI l] ss = .ok (.tup ((blks l).map encB)) ss := by
  have h1 := h.len
  have m := must_yes (dI l) (nos_dI l) h.deal ss
  have s1 : small ((l.length : Int) + 1) = true := small_len1 (by omega)
  have key : ∃ y z, sForGo g_blocks_of_0 b_blocks_of_0 (rngD 1 (l.length + 1)) ⟨[some (.val (dI l)), some (.own []), some (.val (.int 0)), none], ss⟩ = .nx ⟨[some (.val (dI l)), some (.own ((blks l).map encB)), y, z], ss⟩ := by
    cases l with
    | nil => exact ⟨_, _, by rw [rngD_nil (by simp)]; rfl⟩
    | cons x xs => exact blocks_go (x :: xs) h1 ss xs [x] x 0 [] 1 none rfl rfl (by decide) (by simp) (by simp at h1; simp; omega)
  obtain ⟨y, z, e⟩ := key
  exact blocks_run _ _ _ y z ss (by simp) s1 m e
theorem blocks_no {d : D} (h : NoS d) (hd : isDeal d = false) (ss : SS) : m_blocks_of [d] ss = .exc bad ss := by
  simp [m_blocks_of, e_blocks_of, must_no d h hd]
end K31

set_option Elab.async false
set_option linter.all false
set_option maxRecDepth 100000
set_option maxHeartbeats 4000000
namespace K31
open PySem PySem.Spec PyProof.Rows L2 TD TP
/-! ### the law's own blocks -/
def lowsFrom (prev a : Int) : List Int → List Int
  | [] => []
  | x :: xs => if x = prev then lowsFrom x (a + 1) xs else a :: lowsFrom x (a + 1) xs
def hL (l : List Int) (d : D) : Option D := match d with
  | .int i => if i = 0 then some d else if atI l i = atI l (i - 1) then none else some d
  | _ => none
theorem lows_eq (l : List Int) : ∀ (xs pre : List Int) (p n : Int), l = pre ++ p :: xs → n = pre.length + 1 → (rngD n l.length).filterMap (hL l) = (lowsFrom p n xs).map D.int
  | [], pre, p, n, e, hn => by
    rw [rngD_nil (by rw [e, hn]; simp)]
    rfl
  | x :: xs, pre, p, n, e, hn => by
    have hlt : n < l.length := by rw [e, hn]; simp; omega
    rw [rngD_cons hlt]
    have ih := lows_eq l xs (pre ++ [p]) x (n + 1) (by simp [e]) (by simp [hn])
    have h1 : atI l n = some x := by
      have : l = (pre ++ [p]) ++ x :: xs := by simp [e]
      rw [this]; exact atI_pre _ x xs n (by simp [hn])
    have h2 : atI l (n - 1) = some p := by rw [e]; exact atI_pre pre p _ _ (by omega)
    have h0 : ¬ n = 0 := by omega
    by_cases hx : x = p
    · have e3 : hL l (.int n) = none := by simp [hL, h0, h1, h2, hx]
      rw [List.filterMap_cons_none e3, ih]
      simp [lowsFrom, hx]
    · have e3 : hL l (.int n) = some (.int n) := by simp [hL, h0, h1, h2, hx]
      rw [List.filterMap_cons_some e3, ih]
      simp [lowsFrom, hx]
def hZ (l : List Int) (d : D) : Option D := match d with
  | .tup [.int lo, .int hi] => (atI l lo).map fun v => encB (v, lo, hi)
  | _ => none
theorem zip_eq (l : List Int) : ∀ (xs pre : List Int) (h low n : Int), l = pre ++ xs → n = pre.length → atI l low = some h → (∀ k : Nat, pre.length = k + 1 → l[k]? = some h) → 1 ≤ n →
    (zipD (.int low :: (lowsFrom h n xs).map D.int) ((lowsFrom h n xs).map D.int ++ [.int l.length])).filterMap (hZ l) = (go h low n xs).map encB
  | [], pre, h, low, n, e, hn, hlow, hp, h1 => by
    have : n = (l.length : Int) := by rw [e, hn]; simp
    simp [lowsFrom, zipD, hZ, hlow, go, this]
  | x :: xs, pre, h, low, n, e, hn, hlow, hp, h1 => by
    have h1' : atI l n = some x := by rw [e]; exact atI_pre _ x xs n hn
    have hp' : ∀ k : Nat, (pre ++ [x]).length = k + 1 → l[k]? = some x := fun k hk => by
      have : k = pre.length := by simp at hk; omega
      subst this
      rw [e]; simp
    by_cases hx : x = h
    · have ih := zip_eq l xs (pre ++ [x]) h low (n + 1) (by simp [e]) (by simp [hn]) hlow (by rw [← hx]; exact hp') (by omega)
      simp [lowsFrom, hx, go] at ih ⊢
      exact ih
    · have ih := zip_eq l xs (pre ++ [x]) x n (n + 1) (by simp [e]) (by simp [hn]) h1' hp' (by omega)
      have e1 : lowsFrom h n (x :: xs) = n :: lowsFrom x (n + 1) xs := by simp [lowsFrom, hx]
      have e2 : go h low n (x :: xs) = (h, low, n) :: go x n (n + 1) xs := by simp [go, hx]
      rw [e1, e2, List.map_cons, List.map_cons, ← ih]
      simp [zipD, hZ, hlow]
theorem atI_some {α : Type} {l : List α} {i : Int} {a : α} (h : atI l i = some a) : ∃ j : Nat, l[j]? = some a := by
  unfold atI at h
  cases e : ixN l.length i with
  | none => rw [e] at h; cases h
  | some j => rw [e] at h; exact ⟨j, h⟩
theorem low_step (l : List Int) (i : Nat) (hi : i < l.length) (ss : SS) : lcStep [2] (gsName 2) (mOrT (mB (mBin gEq (mVar 2) (mC (.int 0)))) (mB (mBin gNe (mBin gIx (mVar 0) (mVar 2)) (mBin gIx (mVar 0) (mBin gSub (mVar 2) (mC (.int 1))))))) (mVar 2) (.int i) ⟨[some (.val (dI l)), none, none, none, none, none], ss⟩ = .ok (hL l (.int i)) ⟨[some (.val (dI l)), none, none, none, none, none], ss⟩ := by
  by_cases h0 : i = 0
  · subst h0
    simp [lcStep, hL]
  · have h0' : ¬ (i : Int) = 0 := by omega
    obtain ⟨a, _, ha⟩ := atI_mem l i (by omega) (by omega)
    obtain ⟨b, _, hb⟩ := atI_mem l ((i : Int) - 1) (by omega) (by omega)
    by_cases hab : a = b
    · simp [lcStep, hL, h0, h0', atI_map, ha, hb, hab]
    · simp [lcStep, hL, h0, h0', atI_map, ha, hb, hab]
theorem zip_step (l : List Int) (lo hi v : Int) (x1 x2 x3 : Option TD.Slot) (ss : SS) (hv : atI l lo = some v) : lcStep [4, 5] (gsTup 2 (gsCons (gsName 4) (gsCons (gsName 5) (gsNil)))) (mYes) (mTup (mCons (mBin gIx (mVar 0) (mVar 4)) (mCons (mVar 4) (mCons (mVar 5) (mNil))))) (.tup [.int lo, .int hi]) ⟨[some (.val (dI l)), x1, x2, x3, none, none], ss⟩ = .ok (hZ l (.tup [.int lo, .int hi])) ⟨[some (.val (dI l)), x1, x2, x3, none, none], ss⟩ := by
  simp [lcStep, hZ, atI_map, hv, encB]
theorem law_blocks_run (T : D) (L : Int) (lows BB : List D) (ss : SS) (hg : gLen [T] = some (.int L)) (hs : small L = true) (hl : lows.length ≤ 1000)
    (q : lcGo [2] (gsName 2) (mOrT (mB (mBin gEq (mVar 2) (mC (.int 0)))) (mB (mBin gNe (mBin gIx (mVar 0) (mVar 2)) (mBin gIx (mVar 0) (mBin gSub (mVar 2) (mC (.int 1))))))) (mVar 2) (rngD 0 L) [] ⟨[some (.val T), none, none, none, none, none], ss⟩ = .ok lows ⟨[some (.val T), none, none, none, none, none], ss⟩)
    (q2 : lcGo [4, 5] (gsTup 2 (gsCons (gsName 4) (gsCons (gsName 5) (gsNil)))) (mYes) (mTup (mCons (mBin gIx (mVar 0) (mVar 4)) (mCons (mVar 4) (mCons (mVar 5) (mNil))))) (zipD lows (lows.drop 1 ++ [.int L])) [] ⟨[some (.val T), some (.val (.lst lows)), none, some (.val (.lst (lows.drop 1 ++ [.int L]))), none, none], ss⟩ = .ok BB ⟨[some (.val T), some (.val (.lst lows)), none, some (.val (.lst (lows.drop 1 ++ [.int L]))), none, none], ss⟩) :
    m__law_blocks [T] ss = .ok (.tup BB) ss := by
  have h2 : lows.length - 1 + 1 ≤ 1000000 := by omega
  simp only [List.drop_one] at q2
  simp [m__law_blocks, e__law_blocks, hg, hs, q, h2, q2]
theorem lowsFrom_len (p a : Int) (xs : List Int) : (lowsFrom p a xs).length ≤ xs.length := by
  induction xs generalizing p a with
  | nil => simp [lowsFrom]
  | cons x xs ih =>
    unfold lowsFrom
    split
    · have := ih x (a + 1); simp; omega
    · have := ih x (a + 1); simp; omega
theorem lowsFrom_rng (p : Int) : ∀ (xs : List Int) (a : Int), ∀ y ∈ lowsFrom p a xs, a ≤ y ∧ y < a + xs.length := by
  intro xs
  induction xs generalizing p with
  | nil => intro a y h; simp [lowsFrom] at h
  | cons x xs ih =>
    intro a y h
    unfold lowsFrom at h
    split at h
    · have := ih x (a + 1) y h; simp; omega
    · rcases List.mem_cons.mp h with rfl | h
      · simp; omega
      · have := ih x (a + 1) y h; simp; omega
theorem law_blocks_eq {l : List Int} (hd : Dl l) (ss : SS) : m__law_blocks [dI l] ss = .ok (.tup ((blks l).map encB)) ss := by
  have h1 := hd.len
  have q := lc_pure (vs := [2]) (set := gsName 2) (mt := mOrT (mB (mBin gEq (mVar 2) (mC (.int 0)))) (mB (mBin gNe (mBin gIx (mVar 0) (mVar 2)) (mBin gIx (mVar 0) (mBin gSub (mVar 2) (mC (.int 1))))))) (me := mVar 2) (hL l) ⟨[some (.val (dI l)), none, none, none, none, none], ss⟩ (rngD 0 l.length) [] (fun d hm => by
    unfold rngD at hm
    obtain ⟨i, hi, rfl⟩ := List.mem_map.mp hm
    have hi : i < l.length := by simpa using hi
    have := low_step l i hi ss
    simpa using this) (by simp [rngD]; omega)
  rw [List.nil_append] at q
  cases l with
  | nil =>
    refine law_blocks_run (dI []) 0 [] [] ss rfl rfl (by simp) ?_ ?_
    · rw [rngD_nil (Int.le_refl _)]; rfl
    · rfl
  | cons x xs =>
    have lows : (rngD 0 (x :: xs).length).filterMap (hL (x :: xs)) = (0 :: lowsFrom x 1 xs).map D.int := by
      rw [rngD_cons (by simp), List.filterMap_cons_some (b := .int 0) (by simp [hL]), lows_eq (x :: xs) xs [] x (0 + 1) rfl (by simp)]
      simp
    rw [lows] at q
    have hll := lowsFrom_len x 1 xs
    have hz := zip_eq (x :: xs) xs [x] x 0 1 rfl rfl (by simp) (fun k hk => by have : k = 0 := by simpa using hk.symm
                                                                               subst this; rfl) (by decide)
    refine law_blocks_run (dI (x :: xs)) (x :: xs).length _ _ ss (by simp) (small_len (by omega)) (by simp at h1 ⊢; omega) q ?_
    have q2 := lc_pure (vs := [4, 5]) (set := gsTup 2 (gsCons (gsName 4) (gsCons (gsName 5) (gsNil)))) (mt := mYes) (me := mTup (mCons (mBin gIx (mVar 0) (mVar 4)) (mCons (mVar 4) (mCons (mVar 5) (mNil))))) (hZ (x :: xs))
      ⟨[some (.val (dI (x :: xs))), some (.val (.lst ((0 :: lowsFrom x 1 xs).map D.int))), none, some (.val (.lst (((0 :: lowsFrom x 1 xs).map D.int).drop 1 ++ [.int (x :: xs).length]))), none, none], ss⟩
      (zipD ((0 :: lowsFrom x 1 xs).map D.int) (((0 :: lowsFrom x 1 xs).map D.int).drop 1 ++ [.int (x :: xs).length])) [] (fun d hm => by
        unfold zipD at hm
        obtain ⟨i, hi⟩ := List.getElem?_of_mem hm
        rw [List.getElem?_zipWith] at hi
        cases ha : ((0 :: lowsFrom x 1 xs).map D.int)[i]? with
        | none => rw [ha] at hi; simp at hi
        | some da =>
          cases hb : (((0 :: lowsFrom x 1 xs).map D.int).drop 1 ++ [.int (x :: xs).length])[i]? with
          | none => rw [ha, hb] at hi; simp at hi
          | some db =>
            rw [ha, hb] at hi
            simp only [Option.some.injEq] at hi
            obtain ⟨lo, hlo, rfl⟩ := List.mem_map.mp (List.mem_of_getElem? ha)
            have hdb : ∃ hi : Int, db = .int hi := by
              rcases List.mem_append.mp (List.mem_of_getElem? hb) with h | h
              · obtain ⟨z, _, rfl⟩ := List.mem_map.mp (List.mem_of_mem_drop h)
                exact ⟨z, rfl⟩
              · exact ⟨_, by simpa using h⟩
            obtain ⟨h', rfl⟩ := hdb
            subst hi
            have hr : 0 ≤ lo ∧ lo < (x :: xs).length := by
              rcases List.mem_cons.mp hlo with rfl | hlo
              · simp
              · have := lowsFrom_rng x xs 1 lo hlo
                simp; omega
            obtain ⟨v, _, hv⟩ := atI_mem (x :: xs) lo hr.1 hr.2
            exact zip_step _ _ _ v _ _ _ ss hv) (by simp [zipD] at h1 ⊢; omega)
    rw [List.nil_append] at q2
    rw [q2]
    have e : (zipD ((0 :: lowsFrom x 1 xs).map D.int) (((0 :: lowsFrom x 1 xs).map D.int).drop 1 ++ [.int (x :: xs).length])).filterMap (hZ (x :: xs)) = (blks (x :: xs)).map encB := by
      simpa [blks] using hz
    rw [e]
end K31

set_option Elab.async false
set_option linter.all false
set_option maxRecDepth 100000
set_option maxHeartbeats 4000000
namespace K31
open PySem PySem.Spec PyProof.Rows L2 TD TP
/-! ### the short deal -/
def shrt (l : List Int) : List Int := (blks l).map (·.1)
theorem head_lc (i : Nat) (rest : TD.Env) (hv : rest[i]? = some none) (bs : List B3) (ss : SS) (hb : bs.length ≤ 1000) :
    lcGo [i] (gsName i) mYes (mBin gIx (mVar i) (mC (.int 0))) (bs.map encB) [] ⟨rest, ss⟩ = .ok (bs.map fun b => .int b.1) ⟨rest, ss⟩ := by
  have hlt : i < rest.length := by
    by_cases h : i < rest.length
    · exact h
    · rw [List.getElem?_eq_none (by omega)] at hv; cases hv
  have hset : rest.set i none = rest := by
    refine List.ext_getElem? fun j => ?_
    by_cases hj : j = i
    · subst hj; rw [List.getElem?_set_self hlt, hv]
    · rw [List.getElem?_set_ne (Ne.symm hj)]
  have q := lc_pure (vs := [i]) (set := gsName i) (mt := mYes) (me := mBin gIx (mVar i) (mC (.int 0))) (fun d => match d with | .tup (h :: _) => some h | _ => none) ⟨rest, ss⟩ (bs.map encB) [] (fun d hd => by
    obtain ⟨b, _, rfl⟩ := List.mem_map.mp hd
    simp [lcStep, encB, hlt, hset]) (by simp; omega)
  rw [q]
  simp only [List.nil_append, List.filterMap_map]
  congr 1
  induction bs with
  | nil => rfl
  | cons b bs ih =>
    rw [List.filterMap_cons_some (b := .int b.1) (by simp [encB]), List.map_cons]
    congr 1
    exact ih (by simp at hb; omega) (lc_pure _ _ _ _ (fun d hd => by
      obtain ⟨b, _, rfl⟩ := List.mem_map.mp hd
      simp [lcStep, encB, hlt, hset]) (by simp at hb ⊢; omega))
theorem map_fst (bs : List B3) : (bs.map fun b => D.int b.1) = (bs.map (·.1)).map D.int := by simp
theorem short_run (T : D) (bs : List B3) (ss : SS) (hb : bs.length ≤ 1000) (e : m_blocks_of [T] ss = .ok (.tup (bs.map encB)) ss) : m_short_deal [T] ss = .ok (dI (bs.map (·.1))) ss := by
  have q := head_lc 1 [some (.val T), none] rfl bs ss hb
  simp [m_short_deal, e_short_deal, e, q]
theorem short_eq {l : List Int} (h : Dl l) (ss : SS) : m_short_deal [dI l] ss = .ok (dI (shrt l)) ss := by
  have h1 := h.len
  have h2 := blks_len l
  exact short_run _ _ ss (by omega) (blocks_eq h ss)
theorem short_no {d : D} (h : NoS d) (hd : isDeal d = false) (ss : SS) : m_short_deal [d] ss = .exc bad ss := by
  simp [m_short_deal, e_short_deal, blocks_no h hd]
/-! ### the turning deal -/
def trn (f : Int) (n : Nat) : List Int := (List.range n).map fun (i : Nat) => (f + (i : Int)) % 2
theorem and_one (i : Int) (h : 0 ≤ i) : Builtin.bitAnd i 1 = i % 2 := by
  obtain ⟨n, rfl⟩ := Int.eq_ofNat_of_zero_le h
  show ((n &&& 1 : Nat) : Int) = _
  rw [Nat.and_one_is_mod]
  omega
theorem turn_run (N f : Int) (hf : f = 0 ∨ f = 1) (R : List D) (ss : SS) (h1 : isCnt (.int N) 0 240 = true) (s1 : small N = true)
    (q : lcGo [2] (gsName 2) mYes (mBin gAnd (mBin gAdd (mVar 1) (mVar 2)) (mC (.int 1))) (rngD 0 N) [] ⟨[some (.val (.int N)), some (.val (.int f)), none], ss⟩ = .ok R ⟨[some (.val (.int N)), some (.val (.int f)), none], ss⟩) : m_turning_deal [.int N, .int f] ss = .ok (.tup R) ss := by
  rcases hf with rfl | rfl <;> simp [m_turning_deal, e_turning_deal, is_count_eq, h1, s1, q]
theorem turn_eq (n : Nat) (hn : n ≤ 240) (f : Int) (hf : f = 0 ∨ f = 1) (ss : SS) : m_turning_deal [.int n, .int f] ss = .ok (dI (trn f n)) ss := by
  have h1 : isCnt (.int n) 0 240 = true := by simp [isCnt]; omega
  have q := lc_pure (vs := [2]) (set := gsName 2) (mt := mYes) (me := mBin gAnd (mBin gAdd (mVar 1) (mVar 2)) (mC (.int 1))) (fun d => match d with | .int i => some (.int ((f + i) % 2)) | _ => none) ⟨[some (.val (.int n)), some (.val (.int f)), none], ss⟩ (rngD 0 n) [] (fun d hd => by
    obtain ⟨i, hi, rfl⟩ := rng_mem hd
    have e : gAnd (.int (f + i)) (.int 1) = some (.int ((f + i) % 2)) := by
      show some (D.int (Builtin.bitAnd (f + i) 1)) = _
      rw [and_one _ (by omega)]
    simp [lcStep, e]) (by simp [rngD]; omega)
  rw [rng_map n _ (fun i => .int ((f + (i : Int)) % 2)) (fun i hi => rfl)] at q
  have e2 : (List.range n).map (fun (i : Nat) => D.int ((f + (i : Int)) % 2)) = (trn f n).map D.int := by simp [trn]
  rw [e2] at q
  exact turn_run n f hf _ ss h1 (small_len (by omega)) q
theorem turn_no1 (d : D) (hd : d ≠ .src) (h : isCnt d 0 240 = false) (f : D) (ss : SS) : m_turning_deal [d, f] ss = .exc bad ss := by
  simp [m_turning_deal, e_turning_deal, is_count_eq d hd, h, bad]
theorem turn_no2 (n : Int) (h : 0 ≤ n ∧ n ≤ 240) (f : D) (hf : f.flat = true) (h2 : (D.eqv (.int 0) f || D.eqv (.int 1) f) = false) (ss : SS) : m_turning_deal [.int n, f] ss = .exc bad ss := by
  have h1 : isCnt (.int n) 0 240 = true := by simp [isCnt, h]
  simp at h2
  simp [m_turning_deal, e_turning_deal, is_count_eq, h1, hf, h2, bad]
/-! ### asked -/
theorem asked_ok (w : Int) (v f r : D) (ss : SS) (h : (w = 0 ∧ m_hands_of [v] ss = .ok r ss) ∨ (w = 1 ∧ m_blocks_of [v] ss = .ok r ss) ∨ (w = 2 ∧ m_short_deal [v] ss = .ok r ss) ∨ (w = 3 ∧ m_turning_deal [v, .int 0] ss = .ok r ss) ∨ (w = 4 ∧ m_turning_deal [v, f] ss = .ok r ss)) :
    m__law_asked [.int w, v, f] ss = .ok (.tup [.str "told", r]) ss := by
  rcases h with ⟨rfl, h⟩ | ⟨rfl, h⟩ | ⟨rfl, h⟩ | ⟨rfl, h⟩ | ⟨rfl, h⟩ <;> simp [m__law_asked, e__law_asked, h]
theorem asked_no (w : Int) (v f : D) (ss : SS) (h : (w = 0 ∧ m_hands_of [v] ss = .exc bad ss) ∨ (w = 1 ∧ m_blocks_of [v] ss = .exc bad ss) ∨ (w = 2 ∧ m_short_deal [v] ss = .exc bad ss) ∨ (w = 3 ∧ m_turning_deal [v, .int 0] ss = .exc bad ss) ∨ (w = 4 ∧ m_turning_deal [v, f] ss = .exc bad ss)) :
    m__law_asked [.int w, v, f] ss = .ok (.tup [.str "refused", .str "deal"]) ss := by
  rcases h with ⟨rfl, h⟩ | ⟨rfl, h⟩ | ⟨rfl, h⟩ | ⟨rfl, h⟩ | ⟨rfl, h⟩ <;> simp [m__law_asked, e__law_asked, h, bad, anyX]
end K31

set_option Elab.async false
set_option linter.all false
set_option maxRecDepth 100000
set_option maxHeartbeats 4000000
namespace K31
open PySem PySem.Spec PyProof.Rows L2 TD TP
theorem law_is_int_eq (d : D) (hd : d ≠ .src) (ss : SS) : m__law_is_int [d] ss = .ok (.bl (match d with | .int _ => true | _ => false)) ss := by
  cases d with
  | src => exact absurd rfl hd
  | _ => simp [m__law_is_int, e__law_is_int]
theorem are_hands_eq (l : List Int) (hl : l.length ≤ 1000) (ss : SS) : m__law_are_hands [dI l] ss = .ok (.bl true) ss := by
  have q := lc_pure (vs := [1]) (set := gsName 1) (mt := mNotT (mTru (mCall 1 m__law_is_int (mCons (mVar 1) (mNil))))) (me := mVar 1) (fun _ => none) ⟨[some (.val (dI l)), none], ss⟩ (l.map D.int) [] (fun d hd => by
    obtain ⟨i, _, rfl⟩ := List.mem_map.mp hd
    simp [lcStep, law_is_int_eq]) (by simp; omega)
  have e : (l.map D.int).filterMap (fun _ => (none : Option D)) = [] := by simp
  rw [e, List.append_nil] at q
  simp [m__law_are_hands, e__law_are_hands, q]
theorem encB_dI (b : B3) : encB b = dI [b.1, b.2.1, b.2.2] := rfl
/-! ### the blocks stand -/
theorem same_lc (T : D) (B5 x3 x4 x5 x6 : Option TD.Slot) (h low n a : Int) (l : List Int) (hT : T = dI l) (hr : 0 ≤ low ∧ low ≤ n ∧ n ≤ l.length) (hn : l.length ≤ 1000) (hh : ∀ j : Int, low ≤ j → j < n → atI l j = some h) (ss : SS) :
    lcGo [8] (gsName 8) (mB (mBin gNe (mBin gIx (mVar 0) (mVar 8)) (mVar 5))) (mVar 8) (rngD low n) [] ⟨[some (.val T), B5, x3, x4, x5, some (.val (.int h)), x6, some (.val (.int n)), none], ss⟩ = .ok [] ⟨[some (.val T), B5, x3, x4, x5, some (.val (.int h)), x6, some (.val (.int n)), none], ss⟩ := by
  have q := lc_pure (vs := [8]) (set := gsName 8) (mt := mB (mBin gNe (mBin gIx (mVar 0) (mVar 8)) (mVar 5))) (me := mVar 8) (fun _ => none) ⟨[some (.val T), B5, x3, x4, x5, some (.val (.int h)), x6, some (.val (.int n)), none], ss⟩ (rngD low n) [] (fun d hd => by
    unfold rngD at hd
    obtain ⟨i, hi, rfl⟩ := List.mem_map.mp hd
    have hi : i < (n - low).toNat := by simpa using hi
    have e := hh (low + i) (by omega) (by omega)
    subst hT
    simp [lcStep, atI_map, e]) (by simp [rngD]; omega)
  have e : (rngD low n).filterMap (fun _ => (none : Option D)) = [] := by simp
  rw [e, List.append_nil] at q
  exact q
theorem stand_step (T : D) (B5 : Option TD.Slot) (L h low n last : Int) (x4 x5 x6 x7 : Option TD.Slot) (ss : SS) (hg : gLen [T] = some (.int L)) (hlt : low < n) (hn : n ≤ L) (hh : h ≠ last) (s1 : small low = true) (s2 : small n = true)
    (q : ∀ x, lcGo [8] (gsName 8) (mB (mBin gNe (mBin gIx (mVar 0) (mVar 8)) (mVar 5))) (mVar 8) (rngD low n) [] ⟨[some (.val T), B5, some (.val (.int low)), some (.val (.int last)), x, some (.val (.int h)), some (.val (.int low)), some (.val (.int n)), none], ss⟩ = .ok [] ⟨[some (.val T), B5, some (.val (.int low)), some (.val (.int last)), x, some (.val (.int h)), some (.val (.int low)), some (.val (.int n)), none], ss⟩)
    (k : W → RS) : oS (g__law_blocks_stand_0 (encB (h, low, n)) ⟨[some (.val T), B5, some (.val (.int low)), some (.val (.int last)), x4, x5, x6, x7, none], ss⟩) (fun w => (b__law_blocks_stand_0 w).loop k) =
      k ⟨[some (.val T), B5, some (.val (.int n)), some (.val (.int h)), some (.val (encB (h, low, n))), some (.val (.int h)), some (.val (.int low)), some (.val (.int n)), none], ss⟩ := by
  have a := are_hands_eq [h, low, n] (by simp) ss
  have h1 : ¬ n ≤ low := by omega
  have h2 : ¬ L < n := by omega
  simp [dI] at a
  simp [g__law_blocks_stand_0, b__law_blocks_stand_0, encB, a, hg, h1, h2, hh, s1, s2, q]
theorem stand_go (l : List Int) (hl : l.length ≤ 240) (B5 : Option TD.Slot) (ss : SS) : ∀ (xs pre : List Int) (h low n last : Int) (x4 x5 x6 x7 : Option TD.Slot), l = pre ++ xs → n = pre.length → 0 ≤ low → low < n → h ≠ last → (∀ j : Int, low ≤ j → j < n → atI l j = some h) →
    ∃ y3 y4 y5 y6 y7, sForGo g__law_blocks_stand_0 b__law_blocks_stand_0 ((go h low n xs).map encB) ⟨[some (.val (dI l)), B5, some (.val (.int low)), some (.val (.int last)), x4, x5, x6, x7, none], ss⟩ = .nx ⟨[some (.val (dI l)), B5, some (.val (.int l.length)), y3, y4, y5, y6, y7, none], ss⟩
  | [], pre, h, low, n, last, x4, x5, x6, x7, e, hn, h0, hlt, hh, hj => by
    have hn2 : n = l.length := by rw [e, hn]; simp
    simp only [go, List.map_cons, List.map_nil]
    rw [sForGo_cons, stand_step (dI l) B5 l.length h low n last x4 x5 x6 x7 ss (by simp) hlt (by omega) hh (small_le (by omega) (by omega)) (small_le (by omega) (by omega)) (fun x => same_lc _ _ _ _ _ _ h low n 0 l rfl (by omega) (by omega) hj ss)]
    subst hn2
    exact ⟨_, _, _, _, _, rfl⟩
  | x :: xs, pre, h, low, n, last, x4, x5, x6, x7, e, hn, h0, hlt, hh, hj => by
    have hlen : n < l.length := by rw [e, hn]; simp; omega
    have hat : atI l n = some x := by rw [e]; exact atI_pre pre x xs n hn
    by_cases hx : x = h
    · have e2 : go h low n (x :: xs) = go h low (n + 1) xs := by simp [go, hx]
      rw [e2]
      refine stand_go l hl B5 ss xs (pre ++ [x]) h low (n + 1) last x4 x5 x6 x7 (by simp [e]) (by simp [hn]) h0 (by omega) hh fun j h1 h2 => ?_
      by_cases hjn : j = n
      · subst hjn; rw [hat, hx]
      · exact hj j h1 (by omega)
    · have e2 : go h low n (x :: xs) = (h, low, n) :: go x n (n + 1) xs := by simp [go, hx]
      rw [e2, List.map_cons, sForGo_cons, stand_step (dI l) B5 l.length h low n last x4 x5 x6 x7 ss (by simp) hlt (by omega) hh (small_le (by omega) (by omega)) (small_le (by omega) (by omega)) (fun x => same_lc _ _ _ _ _ _ h low n 0 l rfl (by omega) (by omega) hj ss)]
      refine stand_go l hl B5 ss xs (pre ++ [x]) x n (n + 1) h _ _ _ _ (by simp [e]) (by simp [hn]) (by omega) (by omega) hx fun j h1 h2 => ?_
      have : j = n := by omega
      subst this
      exact hat
theorem stand_run (T : D) (L : Int) (bs : List D) (y3 y4 y5 y6 y7 : Option TD.Slot) (ss : SS) (hg : gLen [T] = some (.int L))
    (e : sForGo g__law_blocks_stand_0 b__law_blocks_stand_0 bs ⟨[some (.val T), some (.val (.tup bs)), some (.val (.int 0)), some (.val (.int 4)), none, none, none, none, none], ss⟩ = .nx ⟨[some (.val T), some (.val (.tup bs)), some (.val (.int L)), y3, y4, y5, y6, y7, none], ss⟩) :
    m__law_blocks_stand [T, .tup bs] ss = .ok (.bl true) ss := by
  simp [m__law_blocks_stand, e__law_blocks_stand, e, hg]
theorem stand_eq {l : List Int} (hd : Dl l) (ss : SS) : m__law_blocks_stand [dI l, .tup ((blks l).map encB)] ss = .ok (.bl true) ss := by
  have key : ∃ y3 y4 y5 y6 y7, sForGo g__law_blocks_stand_0 b__law_blocks_stand_0 ((blks l).map encB) ⟨[some (.val (dI l)), some (.val (.tup ((blks l).map encB))), some (.val (.int 0)), some (.val (.int 4)), none, none, none, none, none], ss⟩ = .nx ⟨[some (.val (dI l)), some (.val (.tup ((blks l).map encB))), some (.val (.int l.length)), y3, y4, y5, y6, y7, none], ss⟩ := by
    cases l with
    | nil => exact ⟨_, _, _, _, _, rfl⟩
    | cons x xs =>
      have hx := (hd.rng x (List.mem_cons_self ..)).2
      exact stand_go (x :: xs) hd.len _ ss xs [x] x 0 1 4 none none none none rfl rfl (by decide) (by decide) (by omega) fun j h1 h2 => by
        have : j = 0 := by omega
        subst this
        simp
  obtain ⟨y3, y4, y5, y6, y7, e⟩ := key
  exact stand_run _ _ _ y3 y4 y5 y6 y7 ss (by simp) e
/-! ### facts of the short row -/
theorem shrt_go_mem (y : Int) : ∀ (xs : List Int) (h low n : Int), y ∈ (go h low n xs).map (·.1) ↔ y = h ∨ y ∈ xs
  | [], h, low, n => by simp [go]
  | x :: xs, h, low, n => by
    by_cases hx : x = h
    · have e2 : go h low n (x :: xs) = go h low (n + 1) xs := by simp [go, hx]
      rw [e2, shrt_go_mem y xs]
      subst hx
      rw [List.mem_cons]
      exact ⟨fun q => q.elim .inl fun q => .inr (.inr q), fun q => q.elim .inl fun q => q.elim .inl .inr⟩
    · have e2 : go h low n (x :: xs) = (h, low, n) :: go x n (n + 1) xs := by simp [go, hx]
      rw [e2, List.map_cons, List.mem_cons, shrt_go_mem y xs]
      simp
theorem shrt_mem (y : Int) (l : List Int) : y ∈ shrt l ↔ y ∈ l := by
  cases l with
  | nil => simp [shrt, blks]
  | cons x xs =>
    show y ∈ (go x 0 1 xs).map (·.1) ↔ _
    rw [shrt_go_mem]
    simp
theorem shrt_dl {l : List Int} (h : Dl l) : Dl (shrt l) := by
  refine ⟨?_, fun y hy => h.rng y ((shrt_mem y l).mp hy)⟩
  have := blks_len l
  have := h.len
  simp [shrt]; omega
def nb : Int → List Int → Prop
  | _, [] => True
  | p, x :: xs => x ≠ p ∧ nb x xs
theorem nb_go : ∀ (xs : List Int) (h low n p : Int), h ≠ p → nb p ((go h low n xs).map (·.1))
  | [], h, low, n, p, hp => ⟨hp, trivial⟩
  | x :: xs, h, low, n, p, hp => by
    by_cases hx : x = h
    · have e2 : go h low n (x :: xs) = go h low (n + 1) xs := by simp [go, hx]
      rw [e2]; exact nb_go xs h low (n + 1) p hp
    · have e2 : go h low n (x :: xs) = (h, low, n) :: go x n (n + 1) xs := by simp [go, hx]
      rw [e2]; exact ⟨hp, nb_go xs x n (n + 1) h hx⟩
def each (a : Int) : List Int → List B3
  | [] => []
  | x :: xs => (x, a, a + 1) :: each (a + 1) xs
theorem go_nb : ∀ (xs : List Int) (h low : Int), nb h xs → go h low (low + 1) xs = (h, low, low + 1) :: each (low + 1) xs
  | [], h, low, _ => rfl
  | x :: xs, h, low, hn => by
    obtain ⟨hx, hn⟩ := hn
    have e2 : go h low (low + 1) (x :: xs) = (h, low, low + 1) :: go x (low + 1) (low + 1 + 1) xs := by simp [go, hx]
    rw [e2, go_nb xs x (low + 1) hn]
    rfl
theorem blks_nb (l : List Int) (p : Int) (h : nb p l) : blks l = each 0 l := by
  cases l with
  | nil => rfl
  | cons x xs => exact go_nb xs x 0 h.2
theorem each_fst : ∀ (l : List Int) (a : Int), (each a l).map (·.1) = l
  | [], _ => rfl
  | x :: xs, a => by simp [each, each_fst xs]
theorem shrt_nb (l : List Int) (p : Int) (h : nb p l) : shrt l = l := by
  unfold shrt
  rw [blks_nb l p h, each_fst]
theorem shrt_shrt {l : List Int} (h : Dl l) : shrt (shrt l) = shrt l := by
  refine shrt_nb _ 4 ?_
  cases l with
  | nil => exact trivial
  | cons x xs =>
    have := (h.rng x (List.mem_cons_self ..)).2
    exact nb_go xs x 0 1 4 (by omega)
theorem hnd_spec : ∀ (l : List Int) (a : Int), a ≤ l.foldl (fun m h => if h + 1 > m then h + 1 else m) a ∧ (∀ y ∈ l, y + 1 ≤ l.foldl (fun m h => if h + 1 > m then h + 1 else m) a) ∧ (l.foldl (fun m h => if h + 1 > m then h + 1 else m) a = a ∨ ∃ y ∈ l, l.foldl (fun m h => if h + 1 > m then h + 1 else m) a = y + 1)
  | [], a => ⟨Int.le_refl _, fun _ h => (nomatch h), .inl rfl⟩
  | x :: xs, a => by
    obtain ⟨h1, h2, h3⟩ := hnd_spec xs (if x + 1 > a then x + 1 else a)
    rw [List.foldl_cons]
    have m1 : a ≤ (if x + 1 > a then x + 1 else a) := by split <;> omega
    have m2 : x + 1 ≤ (if x + 1 > a then x + 1 else a) := by split <;> omega
    refine ⟨Int.le_trans m1 h1, fun y hy => ?_, ?_⟩
    · rcases List.mem_cons.mp hy with rfl | hy
      · exact Int.le_trans m2 h1
      · exact h2 y hy
    · rcases h3 with h3 | ⟨y, hy, h3⟩
      · by_cases c : x + 1 > a
        · rw [if_pos c] at h3 ⊢; exact .inr ⟨x, List.mem_cons_self .., h3⟩
        · rw [if_neg c] at h3 ⊢; exact .inl h3
      · exact .inr ⟨y, List.mem_cons_of_mem _ hy, h3⟩
theorem hnd_mem (l m : List Int) (h : ∀ y, y ∈ l ↔ y ∈ m) (h0 : ∀ y ∈ l, 0 ≤ y) : hnd l = hnd m := by
  obtain ⟨a1, a2, a3⟩ := hnd_spec l 0
  obtain ⟨b1, b2, b3⟩ := hnd_spec m 0
  unfold hnd
  have h1 : l.foldl (fun m h => if h + 1 > m then h + 1 else m) 0 ≤ m.foldl (fun m h => if h + 1 > m then h + 1 else m) 0 := by
    rcases a3 with a3 | ⟨y, hy, a3⟩
    · omega
    · have := b2 y ((h y).mp hy); omega
  have h2 : m.foldl (fun m h => if h + 1 > m then h + 1 else m) 0 ≤ l.foldl (fun m h => if h + 1 > m then h + 1 else m) 0 := by
    rcases b3 with b3 | ⟨y, hy, b3⟩
    · omega
    · have := a2 y ((h y).mpr hy); omega
  omega
end K31

set_option Elab.async false
set_option linter.all false
set_option maxRecDepth 100000
set_option maxHeartbeats 4000000
namespace K32
open PySem PySem.Spec PyProof.Rows L2 TD
def hx : HxT := [(("BadValue", "TalkError"), true), (("Unlike", "TalkError"), true), (("BadValue", "BadText"), false), (("Unlike", "BadText"), false), (("BadValue", "TooMany"), false), (("Unlike", "TooMany"), false), (("BadValue", "Unknown"), false), (("Unlike", "Unknown"), false), (("BadValue", "BadPaper"), false), (("Unlike", "BadPaper"), false), (("BadValue", "ValueError"), true), (("Unlike", "ValueError"), true), (("BadValue", "BadValue"), true), (("Unlike", "BadValue"), false), (("BadValue", "Unlike"), false), (("Unlike", "Unlike"), true)]
@[simp] theorem hx_BadValue_TalkError : xT hx "TalkError" "BadValue" = some true := by decide +kernel
@[simp] theorem hx_Unlike_TalkError : xT hx "TalkError" "Unlike" = some true := by decide +kernel
@[simp] theorem hx_BadValue_BadText : xT hx "BadText" "BadValue" = some false := by decide +kernel
@[simp] theorem hx_Unlike_BadText : xT hx "BadText" "Unlike" = some false := by decide +kernel
@[simp] theorem hx_BadValue_TooMany : xT hx "TooMany" "BadValue" = some false := by decide +kernel
@[simp] theorem hx_Unlike_TooMany : xT hx "TooMany" "Unlike" = some false := by decide +kernel
@[simp] theorem hx_BadValue_Unknown : xT hx "Unknown" "BadValue" = some false := by decide +kernel
@[simp] theorem hx_Unlike_Unknown : xT hx "Unknown" "Unlike" = some false := by decide +kernel
@[simp] theorem hx_BadValue_BadPaper : xT hx "BadPaper" "BadValue" = some false := by decide +kernel
@[simp] theorem hx_Unlike_BadPaper : xT hx "BadPaper" "Unlike" = some false := by decide +kernel
@[simp] theorem hx_BadValue_ValueError : xT hx "ValueError" "BadValue" = some true := by decide +kernel
@[simp] theorem hx_Unlike_ValueError : xT hx "ValueError" "Unlike" = some true := by decide +kernel
@[simp] theorem hx_BadValue_BadValue : xT hx "BadValue" "BadValue" = some true := by decide +kernel
@[simp] theorem hx_Unlike_BadValue : xT hx "BadValue" "Unlike" = some false := by decide +kernel
@[simp] theorem hx_BadValue_Unlike : xT hx "Unlike" "BadValue" = some false := by decide +kernel
@[simp] theorem hx_Unlike_Unlike : xT hx "Unlike" "Unlike" = some true := by decide +kernel
def e_is_count : W → RS := 
  sCons (sRet (mAndV (mIsi "int" (mVar 0)) (mAndV (mNotV (mIsi "bool" (mVar 0))) (mChain gLe gLe (mVar 1) (mVar 0) (mVar 2))))) (sNil)
def m_is_count : List D → SS → RF := fnM 3 e_is_count
def e_is_deal : W → RS := 
  sCons (sIf (mOrT (mNotT (mTru (mIsi "tuple" (mVar 0)))) (mB (mBin gGt (mBlt gLen (mCons (mVar 0) (mNil))) (mC (.int 240))))) (
    sCons (sRet (mC (.bl false))) (sNil)) (sNil)) (
  sCons (sRet (mBin gEq (mBlt gLen (mCons (mFrz (mLc [1] (mItems (mVar 0)) (gsName 1) (mNotT (mTru (mCall 3 m_is_count (mCons (mVar 1) (mCons (mC (.int 0)) (mCons (mBin gSub (mC (.int 4)) (mC (.int 1))) (mNil))))))) (mVar 1))) (mNil))) (mC (.int 0)))) (sNil))
def m_is_deal : List D → SS → RF := fnM 2 e_is_deal
def e_must_be_deal : W → RS := 
  sCons (sIf (mNotT (mTru (mCall 1 m_is_deal (mCons (mVar 0) (mNil))))) (
    sCons (sRaise "BadValue" "what" (mCons (mC (.str "deal")) (mNil))) (sNil)) (sNil)) (sNil)
def m_must_be_deal : List D → SS → RF := fnM 1 e_must_be_deal
def e_hands_of : W → RS := 
  sCons (sExpr (mCall 1 m_must_be_deal (mCons (mVar 0) (mNil)))) (
  sCons (sRet (mBin gAdd (mBlt gMax (mCons (mFrz (mCat (mFrz (mListOf (mVar 0))) (mFrz (mLst (mCons (mUn gNeg (mC (.int 1))) (mNil)))))) (mNil))) (mC (.int 1)))) (sNil))
def m_hands_of : List D → SS → RF := fnM 1 e_hands_of
def g_blocks_of_0 : D → W → Option W := gsName 3
def b_blocks_of_0 : W → RS := 
    sCons (sIf (mOrT (mB (mBin gEq (mVar 3) (mBlt gLen (mCons (mVar 0) (mNil))))) (mB (mBin gNe (mBin gIx (mVar 0) (mVar 3)) (mBin gIx (mVar 0) (mVar 2))))) (
      sCons (sApp 1 (mTup (mCons (mBin gIx (mVar 0) (mVar 2)) (mCons (mVar 2) (mCons (mVar 3) (mNil)))))) (
      sCons (sSet 2 (mVar 3)) (sNil))) (sNil)) (sNil)
def e_blocks_of : W → RS := 
  sCons (sExpr (mCall 1 m_must_be_deal (mCons (mVar 0) (mNil)))) (
  sCons (sSetF 1 (mLst (mNil))) (
  sCons (sSet 2 (mC (.int 0))) (
  sCons (sFor (mRng2 (mCons (mC (.int 1)) (mCons (mBin gAdd (mBlt gLen (mCons (mVar 0) (mNil))) (mC (.int 1))) (mNil)))) (g_blocks_of_0) (b_blocks_of_0)) (
  sCons (sRet (mBlt gTuple (mCons (mVar 1) (mNil)))) (sNil)))))
def m_blocks_of : List D → SS → RF := fnM 4 e_blocks_of
def g_is_row_0 : D → W → Option W := gsName 2
def b_is_row_0 : W → RS := 
    sCons (sIf (mNotT (mTru (mIsi "str" (mVar 2)))) (
      sCons (sRet (mC (.bl false))) (sNil)) (sNil)) (
    sCons (sIf (mB (mBin gGt (mBlt gLen (mCons (mFrz (mLc [3] (mItems (mVar 2)) (gsName 3) (mB (mBin gNotInX (mVar 3) (mVar 1))) (mVar 3))) (mNil))) (mC (.int 0)))) (
      sCons (sRet (mC (.bl false))) (sNil)) (sNil)) (sNil))
def e_is_row : W → RS := 
  sCons (sIf (mOrT (mNotT (mTru (mIsi "tuple" (mVar 0)))) (mB (mBin gGt (mBlt gLen (mCons (mVar 0) (mNil))) (mC (.int 240))))) (
    sCons (sRet (mC (.bl false))) (sNil)) (sNil)) (
  sCons (sFor (mItems (mVar 0)) (g_is_row_0) (b_is_row_0)) (
  sCons (sRet (mC (.bl true))) (sNil)))
def m_is_row : List D → SS → RF := fnM 4 e_is_row
def e_view_of : W → RS := 
  sCons (sExpr (mCall 1 m_must_be_deal (mCons (mVar 0) (mNil)))) (
  sCons (sIf (mB (mBin gNe (mBlt gLen (mCons (mVar 1) (mNil))) (mBlt gLen (mCons (mVar 0) (mNil))))) (
    sCons (sRaise "Unlike" "what" (mCons (mC (.str "row")) (mNil))) (sNil)) (sNil)) (
  sCons (sRet (mBlt gTuple (mCons (mFrz (mLc [3, 4] (mZipA (mVar 0) (mVar 1)) (gsTup 2 (gsCons (gsName 3) (gsCons (gsName 4) (gsNil)))) (mYes) (mIfE (mB (mBin gEq (mVar 3) (mVar 2))) (mVar 4) (mC .non)))) (mNil)))) (sNil)))
def m_view_of : List D → SS → RF := fnM 5 e_view_of
def g_put_together_0 : D → W → Option W := gsName 2
def b_put_together_0 : W → RS := 
    sCons (sIf (mB (mBin gNe (mBlt gLen (mCons (mVar 2) (mNil))) (mBlt gLen (mCons (mVar 0) (mNil))))) (
      sCons (sRaise "Unlike" "what" (mCons (mC (.str "views")) (mNil))) (sNil)) (sNil)) (sNil)
def e_put_together : W → RS := 
  sCons (sExpr (mCall 1 m_must_be_deal (mCons (mVar 0) (mNil)))) (
  sCons (sIf (mB (mBin gLt (mBlt gLen (mCons (mVar 1) (mNil))) (mCall 1 m_hands_of (mCons (mVar 0) (mNil))))) (
    sCons (sRaise "Unlike" "what" (mCons (mC (.str "views")) (mNil))) (sNil)) (sNil)) (
  sCons (sFor (mItems (mVar 1)) (g_put_together_0) (b_put_together_0)) (
  sCons (sRet (mBlt gTuple (mCons (mFrz (mLc [3, 4] (mEnumA (mVar 0)) (gsTup 2 (gsCons (gsName 3) (gsCons (gsName 4) (gsNil)))) (mYes) (mBin gIx (mBin gIx (mVar 1) (mVar 4)) (mVar 3)))) (mNil)))) (sNil))))
def m_put_together : List D → SS → RF := fnM 5 e_put_together
def e_shortened : W → RS := 
  sCons (sExpr (mCall 1 m_must_be_deal (mCons (mVar 0) (mNil)))) (
  sCons (sIf (mB (mBin gNe (mBlt gLen (mCons (mVar 1) (mNil))) (mBlt gLen (mCons (mVar 0) (mNil))))) (
    sCons (sRaise "Unlike" "what" (mCons (mC (.str "row")) (mNil))) (sNil)) (sNil)) (
  sCons (sRet (mBlt gTuple (mCons (mFrz (mLc [2, 3, 4] (mItems (mCall 1 m_blocks_of (mCons (mVar 0) (mNil)))) (gsTup 3 (gsCons (gsName 2) (gsCons (gsName 3) (gsCons (gsName 4) (gsNil))))) (mYes) (mJoin (mC (.str "")) (mSlX (mVar 1) (mP (mVar 3)) (mP (mVar 4)))))) (mNil)))) (sNil)))
def m_shortened : List D → SS → RF := fnM 5 e_shortened
def e__law_pick : W → RS := 
  sCons (sIf (mB (mBin gGt (mSrc 0 1) (mC (.int 0)))) (
    sCons (sSet 2 (mSrc 0 1)) (
    sCons (sSrc 0 1 (mBin gDiv (mVar 2) (mVar 1))) (
    sCons (sRet (mBin gMod (mBlt gInt (mCons (mVar 2) (mNil))) (mVar 1))) (sNil)))) (sNil)) (
  sCons (sSet 3 (mSrc 0 2)) (
  sCons (sSrc 0 2 (mBin gAdd (mVar 3) (mC (.int 1)))) (
  sCons (sSet 4 (mSrc 0 0)) (
  sCons (sSet 5 (mBin gIx (mVar 4) (mBin gMod (mBlt gInt (mCons (mVar 3) (mNil))) (mBlt gLen (mCons (mVar 4) (mNil)))))) (
  sCons (sIf (mAndT (mB (mBin gGe (mVar 5) (mBin gPow (mC (.int 10)) (mC (.int 18))))) (mB (mBin gLt (mVar 3) (mBlt gLen (mCons (mVar 4) (mNil)))))) (
    sCons (sSrc 0 1 (mBin gDiv (mVar 5) (mVar 1))) (
    sCons (sRet (mBin gMod (mBlt gInt (mCons (mVar 5) (mNil))) (mVar 1))) (sNil))) (sNil)) (
  sCons (sSet 6 (mBin gMod (mBlt gInt (mCons (mBin gAdd (mBin gAdd (mBin gMul (mBin gMod (mBlt gInt (mCons (mVar 5) (mNil))) (mC (.int 2147483647))) (mC (.int 48271))) (mBin gMul (mVar 3) (mC (.int 69621)))) (mC (.int 40692))) (mNil))) (mC (.int 2147483399)))) (
  sCons (sSet 7 (mBin gMod (mBlt gInt (mCons (mBin gAdd (mBin gAdd (mBin gMul (mVar 6) (mBin gAdd (mBin gMod (mBlt gInt (mCons (mVar 6) (mNil))) (mC (.int 65537))) (mC (.int 3)))) (mBin gMul (mVar 3) (mC (.int 7919)))) (mC (.int 17))) (mNil))) (mC (.int 2147483647)))) (
  sCons (sRet (mBin gMod (mBlt gInt (mCons (mBin gDiv (mVar 7) (mC (.int 5))) (mNil))) (mVar 1))) (sNil)))))))))
def m__law_pick : List D → SS → RF := fnM 8 e__law_pick
def g__law_text_0 : D → W → Option W := gsName 4
def b__law_text_0 : W → RS := 
    sCons (sSet 3 (mBin gAdd (mVar 3) (mBin gIx (mVar 1) (mCall 2 m__law_pick (mCons (mVar 0) (mCons (mBlt gLen (mCons (mVar 1) (mNil))) (mNil))))))) (sNil)
def e__law_text : W → RS := 
  sCons (sSet 3 (mC (.str ""))) (
  sCons (sFor (mRng1 (mCons (mCall 2 m__law_pick (mCons (mVar 0) (mCons (mBin gAdd (mVar 2) (mC (.int 1))) (mNil)))) (mNil))) (g__law_text_0) (b__law_text_0)) (
  sCons (sRet (mVar 3)) (sNil)))
def m__law_text : List D → SS → RF := fnM 5 e__law_text
def e__law_deal : W → RS := 
  sCons (sRet (mBlt gTuple (mCons (mFrz (mLc [3] (mRng1 (mCons (mVar 1) (mNil))) (gsName 3) (mYes) (mCall 2 m__law_pick (mCons (mVar 0) (mCons (mVar 2) (mNil)))))) (mNil)))) (sNil)
def m__law_deal : List D → SS → RF := fnM 4 e__law_deal
def e__law_row : W → RS := 
  sCons (sRet (mBlt gTuple (mCons (mFrz (mLc [4] (mRng1 (mCons (mVar 2) (mNil))) (gsName 4) (mYes) (mCall 3 m__law_text (mCons (mVar 0) (mCons (mVar 1) (mCons (mVar 3) (mNil))))))) (mNil)))) (sNil)
def m__law_row : List D → SS → RF := fnM 5 e__law_row
def g__law_any_letters_0 : D → W → Option W := gsName 4
def b__law_any_letters_0 : W → RS := 
    sCons (sIf (mB (mBin gLt (mVar 3) (mC (.int 26)))) (
      sCons (sSet 3 (mBin gAdd (mVar 3) (mCall 2 m__law_pick (mCons (mVar 0) (mCons (mBin gSub (mC (.int 26)) (mVar 3)) (mNil)))))) (
      sCons (sSet 2 (mBin gAdd (mVar 2) (mBin gIx (mVar 1) (mVar 3)))) (
      sCons (sSet 3 (mBin gAdd (mVar 3) (mC (.int 1)))) (sNil)))) (sNil)) (sNil)
def e__law_any_letters : W → RS := 
  sCons (sSet 1 (mC (.str "abcdefghijklmnopqrstuvwxyz"))) (
  sCons (sSet 2 (mC (.str ""))) (
  sCons (sSet 3 (mC (.int 0))) (
  sCons (sFor (mRng1 (mCons (mBin gAdd (mC (.int 1)) (mCall 2 m__law_pick (mCons (mVar 0) (mCons (mC (.int 4)) (mNil))))) (mNil))) (g__law_any_letters_0) (b__law_any_letters_0)) (
  sCons (sRet (mVar 2)) (sNil)))))
def m__law_any_letters : List D → SS → RF := fnM 5 e__law_any_letters
def g__law_wide_deal_0 : D → W → Option W := gsName 4
def b__law_wide_deal_0 : W → RS := 
      sCons (sSet 5 (mCall 2 m__law_pick (mCons (mVar 0) (mCons (mVar 1) (mNil))))) (
      sCons (sSetF 3 (mCat (mVar 3) (mFrz (mLc [6] (mRng1 (mCons (mBin gAdd (mC (.int 1)) (mCall 2 m__law_pick (mCons (mVar 0) (mCons (mC (.int 5)) (mNil))))) (mNil))) (gsName 6) (mYes) (mVar 5))))) (sNil))
def e__law_wide_deal : W → RS := 
  sCons (sSet 1 (mBin gAdd (mC (.int 1)) (mCall 2 m__law_pick (mCons (mVar 0) (mCons (mC (.int 4)) (mNil)))))) (
  sCons (sSet 2 (mCall 2 m__law_pick (mCons (mVar 0) (mCons (mC (.int 6)) (mNil))))) (
  sCons (sIf (mB (mBin gLt (mVar 2) (mC (.int 3)))) (
    sCons (sRet (mCall 3 m__law_deal (mCons (mVar 0) (mCons (mCall 2 m__law_pick (mCons (mVar 0) (mCons (mC (.int 13)) (mNil)))) (mCons (mVar 1) (mNil)))))) (sNil)) (sNil)) (
  sCons (sIf (mB (mBin gLt (mVar 2) (mC (.int 5)))) (
    sCons (sSetF 3 (mLst (mNil))) (
    sCons (sFor (mRng1 (mCons (mCall 2 m__law_pick (mCons (mVar 0) (mCons (mC (.int 8)) (mNil)))) (mNil))) (g__law_wide_deal_0) (b__law_wide_deal_0)) (
    sCons (sRet (mBlt gTuple (mCons (mVar 3) (mNil)))) (sNil)))) (sNil)) (
  sCons (sSet 7 (mBin gIx (mFrz (mLst (mCons (mC (.int 1)) (mCons (mC (.int 60)) (mCons (mC (.int 239)) (mCons (mC (.int 240)) (mNil))))))) (mCall 2 m__law_pick (mCons (mVar 0) (mCons (mC (.int 4)) (mNil)))))) (
  sCons (sSetF 8 (mLc [6] (mRng1 (mCons (mBin gAdd (mC (.int 1)) (mCall 2 m__law_pick (mCons (mVar 0) (mCons (mC (.int 6)) (mNil))))) (mNil))) (gsName 6) (mYes) (mCall 2 m__law_pick (mCons (mVar 0) (mCons (mVar 1) (mNil)))))) (
  sCons (sRet (mBlt gTuple (mCons (mFrz (mLc [6] (mRng1 (mCons (mVar 7) (mNil))) (gsName 6) (mYes) (mBin gIx (mVar 8) (mBin gMod (mBlt gInt (mCons (mVar 6) (mNil))) (mBlt gLen (mCons (mVar 8) (mNil))))))) (mNil)))) (sNil)))))))
def m__law_wide_deal : List D → SS → RF := fnM 9 e__law_wide_deal
def e__law_asked : W → RS := 
  sCons (sTry (xT hx "TalkError") 4 (
    sCons (sIf (mB (mBin gEq (mVar 0) (mC (.int 0)))) (
      sCons (sRet (mTup (mCons (mC (.str "told")) (mCons (mCall 3 m_view_of (mCons (mVar 1) (mCons (mVar 2) (mCons (mVar 3) (mNil))))) (mNil))))) (sNil)) (sNil)) (
    sCons (sIf (mB (mBin gEq (mVar 0) (mC (.int 1)))) (
      sCons (sRet (mTup (mCons (mC (.str "told")) (mCons (mCall 2 m_shortened (mCons (mVar 1) (mCons (mVar 2) (mNil)))) (mNil))))) (sNil)) (sNil)) (
    sCons (sRet (mTup (mCons (mC (.str "told")) (mCons (mCall 2 m_put_together (mCons (mVar 1) (mCons (mVar 2) (mNil)))) (mNil))))) (sNil)))) (
    sCons (sIf (mOrT (mTru (mIsX 4 (anyX [(xT hx "BadText"), (xT hx "TooMany"), (xT hx "Unknown"), (xT hx "BadPaper")]))) (mNotT (mTru (mIsX 4 (xT hx "ValueError"))))) (
      sCons (sRet (mTup (mCons (mC (.str "other")) (mCons (mC .non) (mNil))))) (sNil)) (sNil)) (
    sCons (sIf (mTru (mIsX 4 (xT hx "BadValue"))) (
      sCons (sRet (mIfE (mTru (mIsX 4 (xT hx "Unlike"))) (mTup (mCons (mC (.str "other")) (mCons (mC .non) (mNil)))) (mTup (mCons (mC (.str "value")) (mCons (mExf 4 "what") (mNil)))))) (sNil)) (sNil)) (
    sCons (sIf (mTru (mIsX 4 (xT hx "Unlike"))) (
      sCons (sRet (mTup (mCons (mC (.str "unlike")) (mCons (mExf 4 "what") (mNil))))) (sNil)) (sNil)) (
    sCons (sRet (mTup (mCons (mC (.str "other")) (mCons (mC .non) (mNil))))) (sNil)))))) (sNil)
def m__law_asked : List D → SS → RF := fnM 5 e__law_asked
def g__law_hands_0 : D → W → Option W := gsName 2
def b__law_hands_0 : W → RS := 
    sCons (sSet 1 (mBlt gMax (mCons (mVar 1) (mCons (mBin gAdd (mVar 2) (mC (.int 1))) (mNil))))) (sNil)
def e__law_hands : W → RS := 
  sCons (sSet 1 (mC (.int 0))) (
  sCons (sFor (mItems (mVar 0)) (g__law_hands_0) (b__law_hands_0)) (
  sCons (sRet (mVar 1)) (sNil)))
def m__law_hands : List D → SS → RF := fnM 3 e__law_hands
def g__law_view_0 : D → W → Option W := gsName 4
def b__law_view_0 : W → RS := 
    sCons (sApp 3 (mIfE (mB (mBin gEq (mBin gIx (mVar 0) (mVar 4)) (mVar 2))) (mBin gIx (mVar 1) (mVar 4)) (mC .non))) (sNil)
def e__law_view : W → RS := 
  sCons (sSetF 3 (mLst (mNil))) (
  sCons (sFor (mRng1 (mCons (mBlt gLen (mCons (mVar 0) (mNil))) (mNil))) (g__law_view_0) (b__law_view_0)) (
  sCons (sRet (mBlt gTuple (mCons (mVar 3) (mNil)))) (sNil)))
def m__law_view : List D → SS → RF := fnM 5 e__law_view
def g__law_shortened_0 : D → W → Option W := gsName 3
def b__law_shortened_0 : W → RS := 
    sCons (sIf (mAndT (mB (mBin gGt (mVar 3) (mC (.int 0)))) (mB (mBin gEq (mBin gIx (mVar 0) (mVar 3)) (mBin gIx (mVar 0) (mBin gSub (mVar 3) (mC (.int 1))))))) (
      sCons (sSetIx 2 (mBin gSub (mLenO 2) (mC (.int 1))) (mSc (mBin gAdd (mIxO 2 (mBin gSub (mLenO 2) (mC (.int 1)))) (mBin gIx (mVar 1) (mVar 3))))) (sNil)) (
      sCons (sApp 2 (mBin gIx (mVar 1) (mVar 3))) (sNil))) (sNil)
def e__law_shortened : W → RS := 
  sCons (sSetF 2 (mLst (mNil))) (
  sCons (sFor (mRng1 (mCons (mBlt gLen (mCons (mVar 0) (mNil))) (mNil))) (g__law_shortened_0) (b__law_shortened_0)) (
  sCons (sRet (mBlt gTuple (mCons (mVar 2) (mNil)))) (sNil)))
def m__law_shortened : List D → SS → RF := fnM 4 e__law_shortened
def e__law_short : W → RS := 
  sCons (sRet (mBlt gTuple (mCons (mFrz (mLc [1] (mRng1 (mCons (mBlt gLen (mCons (mVar 0) (mNil))) (mNil))) (gsName 1) (mOrT (mB (mBin gEq (mVar 1) (mC (.int 0)))) (mB (mBin gNe (mBin gIx (mVar 0) (mVar 1)) (mBin gIx (mVar 0) (mBin gSub (mVar 1) (mC (.int 1))))))) (mBin gIx (mVar 0) (mVar 1)))) (mNil)))) (sNil)
def m__law_short : List D → SS → RF := fnM 2 e__law_short
def e__law_is_told : W → RS := 
  sCons (sRet (mAndV (mBin gEq (mBin gIx (mVar 0) (mC (.int 0))) (mC (.str "told"))) (mAndV (mIsi "tuple" (mBin gIx (mVar 0) (mC (.int 1)))) (mBin gEq (mBin gIx (mVar 0) (mC (.int 1))) (mVar 1))))) (sNil)
def m__law_is_told : List D → SS → RF := fnM 2 e__law_is_told
def g__law_views_right_0 : D → W → Option W := gsName 4
def b__law_views_right_0 : W → RS := 
    sCons (sIf (mNotT (mTru (mCall 2 m__law_is_told (mCons (mCall 4 m__law_asked (mCons (mC (.int 0)) (mCons (mVar 0) (mCons (mVar 1) (mCons (mVar 4) (mNil)))))) (mCons (mCall 3 m__law_view (mCons (mVar 0) (mCons (mVar 1) (mCons (mVar 4) (mNil))))) (mNil)))))) (
      sCons (sRet (mC (.bl false))) (sNil)) (sNil)) (
    sCons (sIf (mNotT (mTru (mCall 2 m__law_is_told (mCons (mCall 4 m__law_asked (mCons (mC (.int 0)) (mCons (mVar 0) (mCons (mVar 2) (mCons (mVar 4) (mNil)))))) (mCons (mCall 3 m__law_view (mCons (mVar 0) (mCons (mVar 2) (mCons (mVar 4) (mNil))))) (mNil)))))) (
      sCons (sRet (mC (.bl false))) (sNil)) (sNil)) (sNil))
def g__law_views_right_1 : D → W → Option W := gsName 10
def b__law_views_right_1 : W → RS := 
    sCons (sSetF 6 (mLc [4] (mRng1 (mCons (mCall 1 m__law_hands (mCons (mVar 0) (mNil))) (mNil))) (gsName 4) (mYes) (mCall 3 m_view_of (mCons (mVar 0) (mCons (mVar 10) (mCons (mVar 4) (mNil))))))) (
    sCons (sIf (mScT (mNotT (mTru (mCall 2 m__law_is_told (mCons (mCall 4 m__law_asked (mCons (mC (.int 2)) (mCons (mVar 0) (mCons (mBlt gTuple (mCons (mVar 6) (mNil))) (mCons (mC (.int 0)) (mNil)))))) (mCons (mVar 10) (mNil))))))) (
      sCons (sRet (mC (.bl false))) (sNil)) (sNil)) (
    sCons (sSet 11 (mCall 2 m__law_shortened (mCons (mVar 0) (mCons (mVar 10) (mNil))))) (
    sCons (sSet 12 (mCall 4 m__law_asked (mCons (mC (.int 1)) (mCons (mVar 0) (mCons (mVar 10) (mCons (mC (.int 0)) (mNil))))))) (
    sCons (sIf (mOrT (mNotT (mTru (mCall 2 m__law_is_told (mCons (mVar 12) (mCons (mVar 11) (mNil)))))) (mB (mBin gIsNot (mCall 2 m_is_row (mCons (mBin gIx (mVar 12) (mC (.int 1))) (mCons (mVar 3) (mNil)))) (mC (.bl true))))) (
      sCons (sRet (mC (.bl false))) (sNil)) (sNil)) (
    sCons (sIf (mNotT (mTru (mCall 2 m__law_is_told (mCons (mCall 4 m__law_asked (mCons (mC (.int 1)) (mCons (mCall 1 m__law_short (mCons (mVar 0) (mNil))) (mCons (mBin gIx (mVar 12) (mC (.int 1))) (mCons (mC (.int 0)) (mNil)))))) (mCons (mVar 11) (mNil)))))) (
      sCons (sRet (mC (.bl false))) (sNil)) (sNil)) (
    sCons (sIf (mB (mBin gNe (mJoin (mC (.str "")) (mBin gIx (mVar 12) (mC (.int 1)))) (mJoin (mC (.str "")) (mVar 10)))) (
      sCons (sRet (mC (.bl false))) (sNil)) (sNil)) (sNil)))))))
def e__law_views_right : W → RS := 
  sCons (sFor (mItems (mTup (mCons (mC (.int 3)) (mCons (mC (.int 0)) (mCons (mC (.int 2)) (mCons (mC (.int 1)) (mCons (mC (.int 3)) (mNil)))))))) (g__law_views_right_0) (b__law_views_right_0)) (
  sCons (sSetF 5 (mLst (mCons (mVar 1) (mCons (mVar 2) (mNil))))) (
  sCons (sSetF 6 (mLc [4] (mRng1 (mCons (mCall 1 m__law_hands (mCons (mVar 0) (mNil))) (mNil))) (gsName 4) (mYes) (mCall 3 m__law_view (mCons (mVar 0) (mCons (mBin gIx (mVar 5) (mBin gMod (mBlt gInt (mCons (mVar 4) (mNil))) (mC (.int 2)))) (mCons (mVar 4) (mNil))))))) (
  sCons (sSet 7 (mSc (mBlt gTuple (mCons (mFrz (mLc [8, 9] (mEnumA (mVar 0)) (gsTup 2 (gsCons (gsName 8) (gsCons (gsName 9) (gsNil)))) (mYes) (mBin gIx (mBin gIx (mVar 5) (mBin gMod (mBlt gInt (mCons (mVar 9) (mNil))) (mC (.int 2)))) (mVar 8)))) (mNil))))) (
  sCons (sIf (mScT (mNotT (mTru (mCall 2 m__law_is_told (mCons (mCall 4 m__law_asked (mCons (mC (.int 2)) (mCons (mVar 0) (mCons (mBlt gTuple (mCons (mVar 6) (mNil))) (mCons (mC (.int 0)) (mNil)))))) (mCons (mVar 7) (mNil))))))) (
    sCons (sRet (mC (.bl false))) (sNil)) (sNil)) (
  sCons (sFor (mItems (mVar 5)) (g__law_views_right_1) (b__law_views_right_1)) (
  sCons (sRet (mC (.bl true))) (sNil)))))))
def m__law_views_right : List D → SS → RF := fnM 13 e__law_views_right
def g__law_is_row_right_0 : D → W → Option W := gsName 12
def b__law_is_row_right_0 : W → RS := 
    sCons (sIf (mB (mBin gIsNot (mCall 2 m_is_row (mCons (mVar 12) (mCons (mVar 2) (mNil)))) (mC (.bl true)))) (
      sCons (sRet (mC (.bl false))) (sNil)) (sNil)) (sNil)
def g__law_is_row_right_1 : D → W → Option W := gsName 14
def b__law_is_row_right_1 : W → RS := 
    sCons (sApp 13 (mBin gAdd (mBin gAdd (mSlX (mVar 1) (mNoP) (mP (mVar 3))) (mTup (mCons (mVar 14) (mNil)))) (mSlX (mVar 1) (mP (mBin gAdd (mVar 3) (mC (.int 1)))) (mNoP)))) (sNil)
def g__law_is_row_right_2 : D → W → Option W := gsName 12
def b__law_is_row_right_2 : W → RS := 
    sCons (sIf (mB (mBin gIsNot (mCall 2 m_is_row (mCons (mVar 12) (mCons (mVar 2) (mNil)))) (mC (.bl false)))) (
      sCons (sRet (mC (.bl false))) (sNil)) (sNil)) (sNil)
def e__law_is_row_right : W → RS := 
  sCons (sSet 3 (mCall 2 m__law_pick (mCons (mVar 0) (mCons (mBin gAdd (mBlt gLen (mCons (mVar 1) (mNil))) (mC (.int 1))) (mNil))))) (
  sCons (sSet 4 (mCall 3 m__law_text (mCons (mVar 0) (mCons (mVar 2) (mCons (mC (.int 5)) (mNil)))))) (
  sCons (sSet 5 (mCall 2 m__law_pick (mCons (mVar 0) (mCons (mBin gAdd (mBlt gLen (mCons (mVar 4) (mNil))) (mC (.int 1))) (mNil))))) (
  sCons (sSet 6 (mBin gIx (mFrz (mLc [7] (mItems (mC (.str "abcde"))) (gsName 7) (mB (mBin gNotInX (mVar 7) (mVar 2))) (mVar 7))) (mC (.int 0)))) (
  sCons (sSet 7 (mBin gIx (mFrz (mLst (mCons (mVar 6) (mCons (mC (.str "A")) (mCons (mC (.str "0")) (mCons (mC (.str " ")) (mCons (mC (.str "-")) (mCons (mUpper (mBin gIx (mVar 2) (mC (.int 0)))) (mNil))))))))) (mCall 2 m__law_pick (mCons (mVar 0) (mCons (mC (.int 6)) (mNil)))))) (
  sCons (sSet 8 (mBin gAdd (mBin gAdd (mSlX (mVar 4) (mNoP) (mP (mVar 5))) (mVar 7)) (mSlX (mVar 4) (mP (mVar 5)) (mNoP)))) (
  sCons (sSet 9 (mBlt gTuple (mCons (mFrz (mLc [10] (mRng1 (mCons (mC (.int 241)) (mNil))) (gsName 10) (mYes) (mIfE (mB (mBin gGt (mBlt gLen (mCons (mVar 1) (mNil))) (mC (.int 0)))) (mBin gIx (mVar 1) (mBin gMod (mBlt gInt (mCons (mVar 10) (mNil))) (mBlt gLen (mCons (mVar 1) (mNil))))) (mVar 4)))) (mNil)))) (
  sCons (sSetF 11 (mLst (mCons (mVar 1) (mCons (mTup (mNil)) (mCons (mSlX (mBin gAdd (mBin gAdd (mSlX (mVar 1) (mNoP) (mP (mVar 3))) (mTup (mCons (mVar 4) (mNil)))) (mSlX (mVar 1) (mP (mBin gAdd (mVar 3) (mC (.int 1)))) (mNoP))) (mNoP) (mP (mC (.int 240)))) (mCons (mSlX (mVar 9) (mNoP) (mP (mC (.int 240)))) (mCons (mTup (mCons (mC (.str "")) (mNil))) (mNil)))))))) (
  sCons (sFor (mItems (mVar 11)) (g__law_is_row_right_0) (b__law_is_row_right_0)) (
  sCons (sSetF 13 (mLst (mCons (mVar 9) (mCons (mVar 4) (mCons (mVar 2) (mCons (mC .non) (mCons (mBlt gLen (mCons (mVar 1) (mNil))) (mNil)))))))) (
  sCons (sFor (mItems (mTup (mCons (mVar 8) (mCons (mC .non) (mCons (mBlt gLen (mCons (mVar 1) (mNil))) (mCons (mTup (mCons (mVar 4) (mNil))) (mCons (mVar 6) (mNil)))))))) (g__law_is_row_right_1) (b__law_is_row_right_1)) (
  sCons (sFor (mItems (mVar 13)) (g__law_is_row_right_2) (b__law_is_row_right_2)) (
  sCons (sRet (mBin gIs (mCall 2 m_is_row (mCons (mVar 1) (mCons (mVar 2) (mNil)))) (mC (.bl true)))) (sNil)))))))))))))
def m__law_is_row_right : List D → SS → RF := fnM 15 e__law_is_row_right
def g__law_lengths_right_0 : D → W → Option W := gsName 6
def b__law_lengths_right_0 : W → RS := 
      sCons (sIf (mB (mBin gNe (mCall 4 m__law_asked (mCons (mVar 6) (mCons (mVar 0) (mCons (mVar 5) (mCons (mC (.int 0)) (mNil)))))) (mTup (mCons (mC (.str "unlike")) (mCons (mC (.str "row")) (mNil)))))) (
        sCons (sRet (mC (.bl false))) (sNil)) (sNil)) (sNil)
def g__law_lengths_right_1 : D → W → Option W := gsName 7
def b__law_lengths_right_1 : W → RS := 
      sCons (sSetF 8 (mListOf (mVar 2))) (
      sCons (sSetIx 8 (mVar 7) (mIfE (mB (mBin gGt (mBlt gLen (mCons (mVar 4) (mNil))) (mC (.int 0)))) (mBin gAdd (mBin gIx (mVar 2) (mVar 7)) (mTup (mCons (mC .non) (mNil)))) (mSlX (mBin gIx (mVar 2) (mVar 7)) (mP (mC (.int 1))) (mNoP)))) (
      sCons (sIf (mScT (mB (mBin gNe (mCall 4 m__law_asked (mCons (mC (.int 2)) (mCons (mVar 0) (mCons (mBlt gTuple (mCons (mVar 8) (mNil))) (mCons (mC (.int 0)) (mNil)))))) (mTup (mCons (mC (.str "unlike")) (mCons (mC (.str "views")) (mNil))))))) (
        sCons (sRet (mC (.bl false))) (sNil)) (sNil)) (sNil)))
def g__law_lengths_right_2 : D → W → Option W := gsName 4
def b__law_lengths_right_2 : W → RS := 
    sCons (sSet 5 (mIfE (mB (mBin gGt (mBlt gLen (mCons (mVar 4) (mNil))) (mC (.int 0)))) (mBin gAdd (mVar 1) (mVar 4)) (mSlX (mVar 1) (mP (mC (.int 1))) (mNoP)))) (
    sCons (sFor (mRng1 (mCons (mC (.int 2)) (mNil))) (g__law_lengths_right_0) (b__law_lengths_right_0)) (
    sCons (sFor (mRng1 (mCons (mBlt gLen (mCons (mVar 2) (mNil))) (mNil))) (g__law_lengths_right_1) (b__law_lengths_right_1)) (sNil)))
def g__law_lengths_right_3 : D → W → Option W := gsName 9
def b__law_lengths_right_3 : W → RS := 
    sCons (sIf (mB (mBin gNe (mCall 4 m__law_asked (mCons (mC (.int 2)) (mCons (mVar 0) (mCons (mSlX (mVar 2) (mNoP) (mP (mVar 9))) (mCons (mC (.int 0)) (mNil)))))) (mTup (mCons (mC (.str "unlike")) (mCons (mC (.str "views")) (mNil)))))) (
      sCons (sRet (mC (.bl false))) (sNil)) (sNil)) (sNil)
def e__law_lengths_right : W → RS := 
  sCons (sSetF 3 (mLst (mNil))) (
  sCons (sIf (mB (mBin gLt (mBlt gLen (mCons (mVar 1) (mNil))) (mC (.int 240)))) (
    sCons (sApp 3 (mTup (mCons (mC (.str "")) (mNil)))) (sNil)) (sNil)) (
  sCons (sIf (mB (mBin gGt (mBlt gLen (mCons (mVar 1) (mNil))) (mC (.int 0)))) (
    sCons (sApp 3 (mTup (mNil))) (sNil)) (sNil)) (
  sCons (sFor (mItems (mVar 3)) (g__law_lengths_right_2) (b__law_lengths_right_2)) (
  sCons (sFor (mRng1 (mCons (mBlt gLen (mCons (mVar 2) (mNil))) (mNil))) (g__law_lengths_right_3) (b__law_lengths_right_3)) (
  sCons (sRet (mCall 2 m__law_is_told (mCons (mCall 4 m__law_asked (mCons (mC (.int 2)) (mCons (mVar 0) (mCons (mVar 2) (mCons (mC (.int 0)) (mNil)))))) (mCons (mVar 1) (mNil))))) (sNil))))))
def m__law_lengths_right : List D → SS → RF := fnM 10 e__law_lengths_right
def g__law_refusals_right_0 : D → W → Option W := gsName 13
def b__law_refusals_right_0 : W → RS := 
        sCons (sIf (mB (mBin gNe (mCall 4 m__law_asked (mCons (mVar 13) (mCons (mVar 11) (mCons (mVar 12) (mCons (mC (.int 0)) (mNil)))))) (mTup (mCons (mC (.str "value")) (mCons (mC (.str "deal")) (mNil)))))) (
          sCons (sRet (mC (.bl false))) (sNil)) (sNil)) (sNil)
def g__law_refusals_right_1 : D → W → Option W := gsName 12
def b__law_refusals_right_1 : W → RS := 
      sCons (sFor (mRng1 (mCons (mC (.int 2)) (mNil))) (g__law_refusals_right_0) (b__law_refusals_right_0)) (sNil)
def g__law_refusals_right_2 : D → W → Option W := gsName 12
def b__law_refusals_right_2 : W → RS := 
      sCons (sIf (mB (mBin gNe (mCall 4 m__law_asked (mCons (mC (.int 2)) (mCons (mVar 11) (mCons (mVar 12) (mCons (mC (.int 0)) (mNil)))))) (mTup (mCons (mC (.str "value")) (mCons (mC (.str "deal")) (mNil)))))) (
        sCons (sRet (mC (.bl false))) (sNil)) (sNil)) (sNil)
def g__law_refusals_right_3 : D → W → Option W := gsName 11
def b__law_refusals_right_3 : W → RS := 
    sCons (sFor (mItems (mTup (mCons (mVar 2) (mCons (mSlX (mVar 2) (mP (mC (.int 1))) (mNoP)) (mNil))))) (g__law_refusals_right_1) (b__law_refusals_right_1)) (
    sCons (sFor (mItems (mTup (mCons (mVar 8) (mCons (mSlX (mVar 8) (mP (mC (.int 1))) (mNoP)) (mNil))))) (g__law_refusals_right_2) (b__law_refusals_right_2)) (sNil))
def e__law_refusals_right : W → RS := 
  sCons (sSet 3 (mCall 2 m__law_pick (mCons (mVar 0) (mCons (mBin gAdd (mBlt gLen (mCons (mVar 1) (mNil))) (mC (.int 1))) (mNil))))) (
  sCons (sSetF 4 (mLst (mCons (mC (.int 4)) (mCons (mBin gSub (mC (.int 0)) (mC (.int 1))) (mCons (mC (.int 1000000)) (mCons (mC .non) (mCons (mC (.str "0")) (mCons (mTup (mCons (mC (.int 0)) (mNil))) (mNil))))))))) (
  sCons (sSet 5 (mCall 2 m__law_pick (mCons (mVar 0) (mCons (mC (.int 6)) (mNil))))) (
  sCons (sSet 6 (mBlt gTuple (mCons (mFrz (mLc [7] (mRng1 (mCons (mC (.int 241)) (mNil))) (gsName 7) (mYes) (mIfE (mB (mBin gGt (mBlt gLen (mCons (mVar 1) (mNil))) (mC (.int 0)))) (mBin gIx (mVar 1) (mBin gMod (mBlt gInt (mCons (mVar 7) (mNil))) (mBlt gLen (mCons (mVar 1) (mNil))))) (mC (.int 2))))) (mNil)))) (
  sCons (sSet 8 (mBlt gTuple (mCons (mFrz (mLc [9] (mRng1 (mCons (mCall 1 m__law_hands (mCons (mVar 1) (mNil))) (mNil))) (gsName 9) (mYes) (mCall 3 m__law_view (mCons (mVar 1) (mCons (mVar 2) (mCons (mVar 9) (mNil))))))) (mNil)))) (
  sCons (sSetF 10 (mLst (mCons (mBin gAdd (mBin gAdd (mSlX (mVar 1) (mNoP) (mP (mVar 3))) (mTup (mCons (mIxO 4 (mVar 5)) (mNil)))) (mSlX (mVar 1) (mP (mBin gAdd (mVar 3) (mC (.int 1)))) (mNoP))) (mCons (mVar 6) (mCons (mBin gAdd (mBin gAdd (mSlX (mVar 1) (mNoP) (mP (mVar 3))) (mTup (mCons (mIxO 4 (mBin gSub (mVar 5) (mC (.int 1)))) (mNil)))) (mSlX (mVar 1) (mP (mBin gAdd (mVar 3) (mC (.int 1)))) (mNoP))) (mCons (mC .non) (mCons (mC (.str "01")) (mNil)))))))) (
  sCons (sFor (mItems (mVar 10)) (g__law_refusals_right_3) (b__law_refusals_right_3)) (
  sCons (sRet (mCall 3 m__law_lengths_right (mCons (mVar 1) (mCons (mVar 2) (mCons (mVar 8) (mNil)))))) (sNil))))))))
def m__law_refusals_right : List D → SS → RF := fnM 14 e__law_refusals_right
def g_law_0 : D → W → Option W := gsName 3
def b_law_0 : W → RS := 
    sCons (sSet 4 (mCall 1 m__law_any_letters (mCons (mVar 1) (mNil)))) (
    sCons (sSet 5 (mCall 1 m__law_wide_deal (mCons (mVar 1) (mNil)))) (
    sCons (sSet 6 (mCall 4 m__law_row (mCons (mVar 1) (mCons (mVar 4) (mCons (mBlt gLen (mCons (mVar 5) (mNil))) (mCons (mC (.int 4)) (mNil))))))) (
    sCons (sSet 7 (mCall 4 m__law_row (mCons (mVar 1) (mCons (mVar 4) (mCons (mBlt gLen (mCons (mVar 5) (mNil))) (mCons (mC (.int 4)) (mNil))))))) (
    sCons (sApp 2 (mTup (mCons (mVar 5) (mCons (mVar 6) (mCons (mVar 7) (mCons (mVar 4) (mNil))))))) (sNil)))))
def g_law_1 : D → W → Option W := gsTup 4 (gsCons (gsName 5) (gsCons (gsName 6) (gsCons (gsName 7) (gsCons (gsName 4) (gsNil)))))
def b_law_1 : W → RS := 
    sCons (sIf (mNotT (mTru (mCall 4 m__law_views_right (mCons (mVar 5) (mCons (mVar 6) (mCons (mVar 7) (mCons (mVar 4) (mNil)))))))) (
      sCons (sRet (mC (.bl false))) (sNil)) (sNil)) (sNil)
def g_law_2 : D → W → Option W := gsTup 4 (gsCons (gsName 5) (gsCons (gsName 6) (gsCons (gsName 7) (gsCons (gsName 4) (gsNil)))))
def b_law_2 : W → RS := 
    sCons (sIf (mNotT (mTru (mCall 3 m__law_is_row_right (mCons (mVar 1) (mCons (mVar 6) (mCons (mVar 4) (mNil))))))) (
      sCons (sRet (mC (.bl false))) (sNil)) (sNil)) (
    sCons (sIf (mNotT (mTru (mCall 3 m__law_refusals_right (mCons (mVar 1) (mCons (mVar 5) (mCons (mVar 7) (mNil))))))) (
      sCons (sRet (mC (.bl false))) (sNil)) (sNil)) (sNil))
def e_law : W → RS := 
  sCons (sSetF 2 (mLst (mNil))) (
  sCons (sFor (mRng1 (mCons (mC (.int 2)) (mNil))) (g_law_0) (b_law_0)) (
  sCons (sFor (mItems (mFrz (mCat (mVar 2) (mFrz (mSlL (mVar 2) (mNoP) (mP (mC (.int 1)))))))) (g_law_1) (b_law_1)) (
  sCons (sFor (mItems (mVar 2)) (g_law_2) (b_law_2)) (
  sCons (sAsg (gsTup 4 (gsCons (gsName 5) (gsCons (gsName 6) (gsCons (gsName 7) (gsCons (gsName 4) (gsNil)))))) (mSc (mIxO 2 (mC (.int 0))))) (
  sCons (sRet (mCall 4 m__law_views_right (mCons (mVar 5) (mCons (mVar 7) (mCons (mVar 6) (mCons (mVar 4) (mNil))))))) (sNil))))))
def envL : TD.Env := none :: some (.val .src) :: List.replicate 6 none
def LawTrue : Prop := ∀ cells : List Int, cells ≠ [] → (∀ c ∈ cells, (0 : Int) ≤ c) → ∃ w', e_law ⟨envL, ⟨cells, 0, 0⟩⟩ = .ret (.bl true) w'

end K32

set_option Elab.async false
set_option linter.all false
set_option maxRecDepth 100000
set_option maxHeartbeats 4000000
namespace K32
open PySem PySem.Spec PyProof.Rows L2 TD
def top (i : Nat) : Stmt := PySem.Challenge.pw_talkgrowth_k32_views.main.body.getD i (.Pass ⟨0, 0, 0, 0⟩)
abbrev s_is_count : Stmt := top 9
abbrev s_is_deal : Stmt := top 13
abbrev s_must_be_deal : Stmt := top 14
abbrev s_hands_of : Stmt := top 15
abbrev s_blocks_of : Stmt := top 16
abbrev s_is_row : Stmt := top 17
abbrev s_view_of : Stmt := top 18
abbrev s_put_together : Stmt := top 19
abbrev s_shortened : Stmt := top 20
abbrev s__law_source : Stmt := top 22
abbrev s__law_pick : Stmt := top 23
abbrev s__law_text : Stmt := top 24
abbrev s__law_deal : Stmt := top 25
abbrev s__law_row : Stmt := top 26
abbrev s__law_any_letters : Stmt := top 27
abbrev s__law_wide_deal : Stmt := top 28
abbrev s__law_asked : Stmt := top 29
abbrev s__law_hands : Stmt := top 30
abbrev s__law_view : Stmt := top 31
abbrev s__law_shortened : Stmt := top 32
abbrev s__law_short : Stmt := top 33
abbrev s__law_is_told : Stmt := top 34
abbrev s__law_views_right : Stmt := top 35
abbrev s__law_is_row_right : Stmt := top 36
abbrev s__law_lengths_right : Stmt := top 37
abbrev s__law_refusals_right : Stmt := top 38
abbrev s_law : Stmt := top 39
structure Txt (P : Program) (K : PySem.W.Frag) (mg : Str → Option Value) : Prop where
  f_is_count : ∃ (f : Addr) (fd : FuncData), FunD K "is_count" "is_count" (defArgs s_is_count) (defBody s_is_count) (defScope s_is_count) [] [] f fd ∧ mg "is_count" = some (.ref f)
  f_is_deal : ∃ (f : Addr) (fd : FuncData), FunD K "is_deal" "is_deal" (defArgs s_is_deal) (defBody s_is_deal) (defScope s_is_deal) [] [] f fd ∧ mg "is_deal" = some (.ref f)
  f_must_be_deal : ∃ (f : Addr) (fd : FuncData), FunD K "must_be_deal" "must_be_deal" (defArgs s_must_be_deal) (defBody s_must_be_deal) (defScope s_must_be_deal) [] [] f fd ∧ mg "must_be_deal" = some (.ref f)
  f_hands_of : ∃ (f : Addr) (fd : FuncData), FunD K "hands_of" "hands_of" (defArgs s_hands_of) (defBody s_hands_of) (defScope s_hands_of) [] [] f fd ∧ mg "hands_of" = some (.ref f)
  f_blocks_of : ∃ (f : Addr) (fd : FuncData), FunD K "blocks_of" "blocks_of" (defArgs s_blocks_of) (defBody s_blocks_of) (defScope s_blocks_of) [] [] f fd ∧ mg "blocks_of" = some (.ref f)
  f_is_row : ∃ (f : Addr) (fd : FuncData), FunD K "is_row" "is_row" (defArgs s_is_row) (defBody s_is_row) (defScope s_is_row) [] [] f fd ∧ mg "is_row" = some (.ref f)
  f_view_of : ∃ (f : Addr) (fd : FuncData), FunD K "view_of" "view_of" (defArgs s_view_of) (defBody s_view_of) (defScope s_view_of) [] [] f fd ∧ mg "view_of" = some (.ref f)
  f_put_together : ∃ (f : Addr) (fd : FuncData), FunD K "put_together" "put_together" (defArgs s_put_together) (defBody s_put_together) (defScope s_put_together) [] [] f fd ∧ mg "put_together" = some (.ref f)
  f_shortened : ∃ (f : Addr) (fd : FuncData), FunD K "shortened" "shortened" (defArgs s_shortened) (defBody s_shortened) (defScope s_shortened) [] [] f fd ∧ mg "shortened" = some (.ref f)
  f__law_source : ∃ (f : Addr) (fd : FuncData), FunD K "_law_source" "_law_source" (defArgs s__law_source) (defBody s__law_source) (defScope s__law_source) [] [] f fd ∧ mg "_law_source" = some (.ref f)
  f__law_pick : ∃ (f : Addr) (fd : FuncData), FunD K "_law_pick" "_law_pick" (defArgs s__law_pick) (defBody s__law_pick) (defScope s__law_pick) [] [] f fd ∧ mg "_law_pick" = some (.ref f)
  f__law_text : ∃ (f : Addr) (fd : FuncData), FunD K "_law_text" "_law_text" (defArgs s__law_text) (defBody s__law_text) (defScope s__law_text) [] [] f fd ∧ mg "_law_text" = some (.ref f)
  f__law_deal : ∃ (f : Addr) (fd : FuncData), FunD K "_law_deal" "_law_deal" (defArgs s__law_deal) (defBody s__law_deal) (defScope s__law_deal) [] [] f fd ∧ mg "_law_deal" = some (.ref f)
  f__law_row : ∃ (f : Addr) (fd : FuncData), FunD K "_law_row" "_law_row" (defArgs s__law_row) (defBody s__law_row) (defScope s__law_row) [] [] f fd ∧ mg "_law_row" = some (.ref f)
  f__law_any_letters : ∃ (f : Addr) (fd : FuncData), FunD K "_law_any_letters" "_law_any_letters" (defArgs s__law_any_letters) (defBody s__law_any_letters) (defScope s__law_any_letters) [] [] f fd ∧ mg "_law_any_letters" = some (.ref f)
  f__law_wide_deal : ∃ (f : Addr) (fd : FuncData), FunD K "_law_wide_deal" "_law_wide_deal" (defArgs s__law_wide_deal) (defBody s__law_wide_deal) (defScope s__law_wide_deal) [] [] f fd ∧ mg "_law_wide_deal" = some (.ref f)
  f__law_asked : ∃ (f : Addr) (fd : FuncData), FunD K "_law_asked" "_law_asked" (defArgs s__law_asked) (defBody s__law_asked) (defScope s__law_asked) [] [] f fd ∧ mg "_law_asked" = some (.ref f)
  f__law_hands : ∃ (f : Addr) (fd : FuncData), FunD K "_law_hands" "_law_hands" (defArgs s__law_hands) (defBody s__law_hands) (defScope s__law_hands) [] [] f fd ∧ mg "_law_hands" = some (.ref f)
  f__law_view : ∃ (f : Addr) (fd : FuncData), FunD K "_law_view" "_law_view" (defArgs s__law_view) (defBody s__law_view) (defScope s__law_view) [] [] f fd ∧ mg "_law_view" = some (.ref f)
  f__law_shortened : ∃ (f : Addr) (fd : FuncData), FunD K "_law_shortened" "_law_shortened" (defArgs s__law_shortened) (defBody s__law_shortened) (defScope s__law_shortened) [] [] f fd ∧ mg "_law_shortened" = some (.ref f)
  f__law_short : ∃ (f : Addr) (fd : FuncData), FunD K "_law_short" "_law_short" (defArgs s__law_short) (defBody s__law_short) (defScope s__law_short) [] [] f fd ∧ mg "_law_short" = some (.ref f)
  f__law_is_told : ∃ (f : Addr) (fd : FuncData), FunD K "_law_is_told" "_law_is_told" (defArgs s__law_is_told) (defBody s__law_is_told) (defScope s__law_is_told) [] [] f fd ∧ mg "_law_is_told" = some (.ref f)
  f__law_views_right : ∃ (f : Addr) (fd : FuncData), FunD K "_law_views_right" "_law_views_right" (defArgs s__law_views_right) (defBody s__law_views_right) (defScope s__law_views_right) [] [] f fd ∧ mg "_law_views_right" = some (.ref f)
  f__law_is_row_right : ∃ (f : Addr) (fd : FuncData), FunD K "_law_is_row_right" "_law_is_row_right" (defArgs s__law_is_row_right) (defBody s__law_is_row_right) (defScope s__law_is_row_right) [] [] f fd ∧ mg "_law_is_row_right" = some (.ref f)
  f__law_lengths_right : ∃ (f : Addr) (fd : FuncData), FunD K "_law_lengths_right" "_law_lengths_right" (defArgs s__law_lengths_right) (defBody s__law_lengths_right) (defScope s__law_lengths_right) [] [] f fd ∧ mg "_law_lengths_right" = some (.ref f)
  f__law_refusals_right : ∃ (f : Addr) (fd : FuncData), FunD K "_law_refusals_right" "_law_refusals_right" (defArgs s__law_refusals_right) (defBody s__law_refusals_right) (defScope s__law_refusals_right) [] [] f fd ∧ mg "_law_refusals_right" = some (.ref f)
  f_law : ∃ (f : Addr) (fd : FuncData), FunD K "law" "law" (defArgs s_law) (defBody s_law) (defScope s_law) [] [] f fd ∧ mg "law" = some (.ref f)
  e_BadValue : ∀ (w : World) (base : Heap), Err P w K mg base "BadValue" "what"
  e_Unlike : ∀ (w : World) (base : Heap), Err P w K mg base "Unlike" "what"
  x_TalkError : ClsK K mg hx "TalkError"
  x_BadText : ClsK K mg hx "BadText"
  x_TooMany : ClsK K mg hx "TooMany"
  x_Unknown : ClsK K mg hx "Unknown"
  x_BadPaper : ClsK K mg hx "BadPaper"
  x_ValueError : ClsB K mg hx "ValueError" "ValueError"
  x_BadValue : ClsK K mg hx "BadValue"
  x_Unlike : ClsK K mg hx "Unlike"
  b_abs : mg "abs" = none
  b_bool : mg "bool" = none
  b_enumerate : mg "enumerate" = none
  b_int : mg "int" = none
  b_isinstance : mg "isinstance" = none
  b_len : mg "len" = none
  b_list : mg "list" = none
  b_max : mg "max" = none
  b_range : mg "range" = none
  b_str : mg "str" = none
  b_tuple : mg "tuple" = none
  b_zip : mg "zip" = none
  k_MOST_CELLS : ∃ t, mg "MOST_CELLS" = some (.int 240 t)
  k_MOST_HANDS : ∃ t, mg "MOST_HANDS" = some (.int 4 t)
section
variable {P : Program} {w : World} {K : PySem.W.Frag} {mg : Str → Option Value} {base : Heap}
abbrev n_is_count : List Str := ["value", "least", "most"]
theorem sc_is_count : FnScope n_is_count ["value", "least", "most"] (defScope s_is_count) := ⟨rfl, rfl, rfl, by decide +kernel, rfl, by decide +kernel, by decide +kernel⟩
theorem c_is_count (T : Txt P K mg) : Cal P w K mg base 1 "is_count" 3 m_is_count := by
  obtain ⟨f, fd, F, g⟩ := T.f_is_count
  refine ⟨f, fd, ["value", "least", "most"], fn_td F sc_is_count fun cdv A outer s H E fm hr => ?_, g, F.kp, F.bindsN fun _ _ _ _ _ _ us hl => match us, hl with | [_, _, _], _ => rfl⟩
  have hN : n_is_count.Nodup := sc_is_count.nd
  have tk := tk_of (P := P) (w := w) (K := K) (mg := mg) (base := base) (N := n_is_count) (qual := "is_count") (scope := defScope s_is_count) (f := f) (cd := cdv) (A := A) (outer := outer) (s := s) (H := H) (E := E)
  have po := po_of (P := P) (w := w) (K := K) (mg := mg) (base := base) (N := n_is_count) (qual := "is_count") (scope := defScope s_is_count) (f := f) (cd := cdv) (A := A) (outer := outer) (s := s) (H := H) (E := E)
  exact 
  sss_cons (ss_ret (se_and (se_isi (T := "int") (se_var (i := 0)) T.b_isinstance T.b_int (by decide +kernel)) (se_and (se_not (se_isi (T := "bool") (se_var (i := 0)) T.b_isinstance T.b_bool (by decide +kernel))) (se_one (se_chain dop_le dop_le (se_var (i := 1)) (se_var (i := 0)) (se_var (i := 2))))))) (sss_nil)
abbrev n_is_deal : List Str := ["value", "hand"]
theorem sc_is_deal : FnScope n_is_deal ["value"] (defScope s_is_deal) := ⟨rfl, rfl, rfl, by decide +kernel, rfl, by decide +kernel, by decide +kernel⟩
theorem c_is_deal (T : Txt P K mg) : Cal P w K mg base 2 "is_deal" 1 m_is_deal := by
  obtain ⟨f, fd, F, g⟩ := T.f_is_deal
  refine ⟨f, fd, ["value"], fn_td F sc_is_deal fun cdv A outer s H E fm hr => ?_, g, F.kp, F.bindsN fun _ _ _ _ _ _ us hl => match us, hl with | [_], _ => rfl⟩
  have hN : n_is_deal.Nodup := sc_is_deal.nd
  have tk := tk_of (P := P) (w := w) (K := K) (mg := mg) (base := base) (N := n_is_deal) (qual := "is_deal") (scope := defScope s_is_deal) (f := f) (cd := cdv) (A := A) (outer := outer) (s := s) (H := H) (E := E)
  have po := po_of (P := P) (w := w) (K := K) (mg := mg) (base := base) (N := n_is_deal) (qual := "is_deal") (scope := defScope s_is_deal) (f := f) (cd := cdv) (A := A) (outer := outer) (s := s) (H := H) (E := E)
  exact 
  sss_cons (ss_if (SW.st (sw_or (st_not (st_tru (se_isi (T := "tuple") (se_var (i := 0)) T.b_isinstance T.b_tuple (by decide +kernel)))) (sw_or1 (st_cmp dop_gt (se_callB dc_len T.b_len (by decide +kernel) (sa_cons (se_var (i := 0)) (sa_nil))) (se_gint T.k_MOST_CELLS))))) (
    sss_cons (ss_ret (se_bl)) (sss_nil)) (sss_nil)) (
  sss_cons (ss_ret (se_cmp (dop_eq hr.units) (se_callB dc_len T.b_len (by decide +kernel) (sa_cons (se_frz (sf_lc (own := [("hand", 1)]) rfl hN (si_seq (se_var (i := 0))) (blkOk_by (by kernel_rfl)) (fun _ _ _ _ _ => sg_name (i := 1) hN) (by decide) (fun _ _ _ _ _ => sts_one (st_not (st_tru (se_call (c_is_count T) takes0 (hr.mono (by decide)) (sa_cons (se_var (i := 1)) (sa_cons (se_int) (sa_cons (se_bin dop_sub (se_gint T.k_MOST_HANDS) (se_int)) (sa_nil)))))))) (fun _ _ _ _ _ => se_var (i := 1)))) (sa_nil))) (se_int))) (sss_nil))
abbrev n_must_be_deal : List Str := ["value"]
theorem sc_must_be_deal : FnScope n_must_be_deal ["value"] (defScope s_must_be_deal) := ⟨rfl, rfl, rfl, by decide +kernel, rfl, by decide +kernel, by decide +kernel⟩
theorem c_must_be_deal (T : Txt P K mg) : Cal P w K mg base 3 "must_be_deal" 1 m_must_be_deal := by
  obtain ⟨f, fd, F, g⟩ := T.f_must_be_deal
  refine ⟨f, fd, ["value"], fn_td F sc_must_be_deal fun cdv A outer s H E fm hr => ?_, g, F.kp, F.bindsN fun _ _ _ _ _ _ us hl => match us, hl with | [_], _ => rfl⟩
  have hN : n_must_be_deal.Nodup := sc_must_be_deal.nd
  have tk := tk_of (P := P) (w := w) (K := K) (mg := mg) (base := base) (N := n_must_be_deal) (qual := "must_be_deal") (scope := defScope s_must_be_deal) (f := f) (cd := cdv) (A := A) (outer := outer) (s := s) (H := H) (E := E)
  have po := po_of (P := P) (w := w) (K := K) (mg := mg) (base := base) (N := n_must_be_deal) (qual := "must_be_deal") (scope := defScope s_must_be_deal) (f := f) (cd := cdv) (A := A) (outer := outer) (s := s) (H := H) (E := E)
  exact 
  sss_cons (ss_if (st_not (st_tru (se_call (c_is_deal T) tk (hr.mono (by decide)) (sa_cons (se_var (i := 0)) (sa_nil))))) (
    sss_cons (ss_raise rfl tk (T.e_BadValue _ _) (hr.mono (by decide)) passL (sa_cons (se_str) (sa_nil))) (sss_nil)) (sss_nil)) (sss_nil)
abbrev n_hands_of : List Str := ["deal"]
theorem sc_hands_of : FnScope n_hands_of ["deal"] (defScope s_hands_of) := ⟨rfl, rfl, rfl, by decide +kernel, rfl, by decide +kernel, by decide +kernel⟩
theorem c_hands_of (T : Txt P K mg) : Cal P w K mg base 4 "hands_of" 1 m_hands_of := by
  obtain ⟨f, fd, F, g⟩ := T.f_hands_of
  refine ⟨f, fd, ["deal"], fn_td F sc_hands_of fun cdv A outer s H E fm hr => ?_, g, F.kp, F.bindsN fun _ _ _ _ _ _ us hl => match us, hl with | [_], _ => rfl⟩
  have hN : n_hands_of.Nodup := sc_hands_of.nd
  have tk := tk_of (P := P) (w := w) (K := K) (mg := mg) (base := base) (N := n_hands_of) (qual := "hands_of") (scope := defScope s_hands_of) (f := f) (cd := cdv) (A := A) (outer := outer) (s := s) (H := H) (E := E)
  have po := po_of (P := P) (w := w) (K := K) (mg := mg) (base := base) (N := n_hands_of) (qual := "hands_of") (scope := defScope s_hands_of) (f := f) (cd := cdv) (A := A) (outer := outer) (s := s) (H := H) (E := E)
  exact 
  sss_cons (ss_expr (se_call (c_must_be_deal T) tk (hr.mono (by decide)) (sa_cons (se_var (i := 0)) (sa_nil)))) (
  sss_cons (ss_ret (se_bin dop_add (se_callB (dc_max rfl) T.b_max (by decide +kernel) (sa_cons (se_frz (sf_cat (se_frz (sf_listOf (se_var (i := 0)) T.b_list)) (se_frz (sf_lst (sa_cons (se_un dun_neg (se_int)) (sa_nil)))))) (sa_nil))) (se_int))) (sss_nil))
abbrev n_blocks_of : List Str := ["deal", "told", "low", "at"]
theorem sc_blocks_of : FnScope n_blocks_of ["deal"] (defScope s_blocks_of) := ⟨rfl, rfl, rfl, by decide +kernel, rfl, by decide +kernel, by decide +kernel⟩
theorem c_blocks_of (T : Txt P K mg) : Cal P w K mg base 4 "blocks_of" 1 m_blocks_of := by
  obtain ⟨f, fd, F, g⟩ := T.f_blocks_of
  refine ⟨f, fd, ["deal"], fn_td F sc_blocks_of fun cdv A outer s H E fm hr => ?_, g, F.kp, F.bindsN fun _ _ _ _ _ _ us hl => match us, hl with | [_], _ => rfl⟩
  have hN : n_blocks_of.Nodup := sc_blocks_of.nd
  have tk := tk_of (P := P) (w := w) (K := K) (mg := mg) (base := base) (N := n_blocks_of) (qual := "blocks_of") (scope := defScope s_blocks_of) (f := f) (cd := cdv) (A := A) (outer := outer) (s := s) (H := H) (E := E)
  have po := po_of (P := P) (w := w) (K := K) (mg := mg) (base := base) (N := n_blocks_of) (qual := "blocks_of") (scope := defScope s_blocks_of) (f := f) (cd := cdv) (A := A) (outer := outer) (s := s) (H := H) (E := E)
  exact 
  sss_cons (ss_expr (se_call (c_must_be_deal T) tk (hr.mono (by decide)) (sa_cons (se_var (i := 0)) (sa_nil)))) (
  sss_cons (ss_setF (i := 1) hN (sf_lst (sa_nil))) (
  sss_cons (ss_set (i := 2) hN (se_int)) (
  sss_cons (ss_for po rfl (si_rng2 (sa_cons (se_int) (sa_cons (se_bin dop_add (se_callB dc_len T.b_len (by decide +kernel) (sa_cons (se_var (i := 0)) (sa_nil))) (se_int)) (sa_nil))) T.b_range) (sg_name (i := 3) hN) (
    sss_cons (ss_if (SW.st (sw_or (st_cmp (dop_eq hr.units) (se_var (i := 3)) (se_callB dc_len T.b_len (by decide +kernel) (sa_cons (se_var (i := 0)) (sa_nil)))) (sw_or1 (st_cmp (dop_ne hr.units) (se_ix (se_var (i := 0)) (se_var (i := 3))) (se_ix (se_var (i := 0)) (se_var (i := 2))))))) (
      sss_cons (ss_append (i := 1) (se_tup (sa_cons (se_ix (se_var (i := 0)) (se_var (i := 2))) (sa_cons (se_var (i := 2)) (sa_cons (se_var (i := 3)) (sa_nil)))))) (
      sss_cons (ss_set (i := 2) hN (se_var (i := 3))) (sss_nil))) (sss_nil)) (sss_nil))) (
  sss_cons (ss_ret (se_callTy dc_tuple T.b_tuple (by decide +kernel) (sa_cons (se_var (i := 1)) (sa_nil)))) (sss_nil)))))
abbrev n_is_row : List Str := ["value", "letters", "text", "sign"]
theorem sc_is_row : FnScope n_is_row ["value", "letters"] (defScope s_is_row) := ⟨rfl, rfl, rfl, by decide +kernel, rfl, by decide +kernel, by decide +kernel⟩
theorem c_is_row (T : Txt P K mg) : Cal P w K mg base 1 "is_row" 2 m_is_row := by
  obtain ⟨f, fd, F, g⟩ := T.f_is_row
  refine ⟨f, fd, ["value", "letters"], fn_td F sc_is_row fun cdv A outer s H E fm hr => ?_, g, F.kp, F.bindsN fun _ _ _ _ _ _ us hl => match us, hl with | [_, _], _ => rfl⟩
  have hN : n_is_row.Nodup := sc_is_row.nd
  have tk := tk_of (P := P) (w := w) (K := K) (mg := mg) (base := base) (N := n_is_row) (qual := "is_row") (scope := defScope s_is_row) (f := f) (cd := cdv) (A := A) (outer := outer) (s := s) (H := H) (E := E)
  have po := po_of (P := P) (w := w) (K := K) (mg := mg) (base := base) (N := n_is_row) (qual := "is_row") (scope := defScope s_is_row) (f := f) (cd := cdv) (A := A) (outer := outer) (s := s) (H := H) (E := E)
  exact 
  sss_cons (ss_if (SW.st (sw_or (st_not (st_tru (se_isi (T := "tuple") (se_var (i := 0)) T.b_isinstance T.b_tuple (by decide +kernel)))) (sw_or1 (st_cmp dop_gt (se_callB dc_len T.b_len (by decide +kernel) (sa_cons (se_var (i := 0)) (sa_nil))) (se_gint T.k_MOST_CELLS))))) (
    sss_cons (ss_ret (se_bl)) (sss_nil)) (sss_nil)) (
  sss_cons (ss_for po rfl (si_seq (se_var (i := 0))) (sg_name (i := 2) hN) (
    sss_cons (ss_if (st_not (st_tru (se_isi (T := "str") (se_var (i := 2)) T.b_isinstance T.b_str (by decide +kernel)))) (
      sss_cons (ss_ret (se_bl)) (sss_nil)) (sss_nil)) (
    sss_cons (ss_if (st_cmp dop_gt (se_callB dc_len T.b_len (by decide +kernel) (sa_cons (se_frz (sf_lc (own := [("sign", 3)]) rfl hN (si_seq (se_var (i := 2))) (blkOk_by (by kernel_rfl)) (fun _ _ _ _ _ => sg_name (i := 3) hN) (by decide) (fun _ _ _ _ _ => sts_one (st_cmp dop_notInX (se_var (i := 3)) (se_var (i := 1)))) (fun _ _ _ _ _ => se_var (i := 3)))) (sa_nil))) (se_int)) (
      sss_cons (ss_ret (se_bl)) (sss_nil)) (sss_nil)) (sss_nil)))) (
  sss_cons (ss_ret (se_bl)) (sss_nil)))
abbrev n_view_of : List Str := ["deal", "row", "hand", "holder", "text"]
theorem sc_view_of : FnScope n_view_of ["deal", "row", "hand"] (defScope s_view_of) := ⟨rfl, rfl, rfl, by decide +kernel, rfl, by decide +kernel, by decide +kernel⟩
theorem c_view_of (T : Txt P K mg) : Cal P w K mg base 4 "view_of" 3 m_view_of := by
  obtain ⟨f, fd, F, g⟩ := T.f_view_of
  refine ⟨f, fd, ["deal", "row", "hand"], fn_td F sc_view_of fun cdv A outer s H E fm hr => ?_, g, F.kp, F.bindsN fun _ _ _ _ _ _ us hl => match us, hl with | [_, _, _], _ => rfl⟩
  have hN : n_view_of.Nodup := sc_view_of.nd
  have tk := tk_of (P := P) (w := w) (K := K) (mg := mg) (base := base) (N := n_view_of) (qual := "view_of") (scope := defScope s_view_of) (f := f) (cd := cdv) (A := A) (outer := outer) (s := s) (H := H) (E := E)
  have po := po_of (P := P) (w := w) (K := K) (mg := mg) (base := base) (N := n_view_of) (qual := "view_of") (scope := defScope s_view_of) (f := f) (cd := cdv) (A := A) (outer := outer) (s := s) (H := H) (E := E)
  exact 
  sss_cons (ss_expr (se_call (c_must_be_deal T) tk (hr.mono (by decide)) (sa_cons (se_var (i := 0)) (sa_nil)))) (
  sss_cons (ss_if (st_cmp (dop_ne hr.units) (se_callB dc_len T.b_len (by decide +kernel) (sa_cons (se_var (i := 1)) (sa_nil))) (se_callB dc_len T.b_len (by decide +kernel) (sa_cons (se_var (i := 0)) (sa_nil)))) (
    sss_cons (ss_raise rfl tk (T.e_Unlike _ _) (hr.mono (by decide)) passL (sa_cons (se_str) (sa_nil))) (sss_nil)) (sss_nil)) (
  sss_cons (ss_ret (se_callTy dc_tuple T.b_tuple (by decide +kernel) (sa_cons (se_frz (sf_lc (own := [("holder", 3), ("text", 4)]) rfl hN (si_zipA (se_var (i := 0)) (se_var (i := 1)) T.b_zip) (blkOk_by (by kernel_rfl)) (fun _ _ _ _ _ => sg_tup (n := 2) rfl (sgs_cons (sg_name (i := 3) hN) (sgs_cons (sg_name (i := 4) hN) (sgs_nil)))) (by decide) (fun _ _ _ _ _ => sts_nil) (fun _ _ _ _ _ => se_if (st_cmp (dop_eq hr.units) (se_var (i := 3)) (se_var (i := 2))) (se_var (i := 4)) (se_non)))) (sa_nil)))) (sss_nil)))
abbrev n_put_together : List Str := ["deal", "views", "view", "at", "hand"]
theorem sc_put_together : FnScope n_put_together ["deal", "views"] (defScope s_put_together) := ⟨rfl, rfl, rfl, by decide +kernel, rfl, by decide +kernel, by decide +kernel⟩
theorem c_put_together (T : Txt P K mg) : Cal P w K mg base 5 "put_together" 2 m_put_together := by
  obtain ⟨f, fd, F, g⟩ := T.f_put_together
  refine ⟨f, fd, ["deal", "views"], fn_td F sc_put_together fun cdv A outer s H E fm hr => ?_, g, F.kp, F.bindsN fun _ _ _ _ _ _ us hl => match us, hl with | [_, _], _ => rfl⟩
  have hN : n_put_together.Nodup := sc_put_together.nd
  have tk := tk_of (P := P) (w := w) (K := K) (mg := mg) (base := base) (N := n_put_together) (qual := "put_together") (scope := defScope s_put_together) (f := f) (cd := cdv) (A := A) (outer := outer) (s := s) (H := H) (E := E)
  have po := po_of (P := P) (w := w) (K := K) (mg := mg) (base := base) (N := n_put_together) (qual := "put_together") (scope := defScope s_put_together) (f := f) (cd := cdv) (A := A) (outer := outer) (s := s) (H := H) (E := E)
  exact 
  sss_cons (ss_expr (se_call (c_must_be_deal T) tk (hr.mono (by decide)) (sa_cons (se_var (i := 0)) (sa_nil)))) (
  sss_cons (ss_if (st_cmp dop_lt (se_callB dc_len T.b_len (by decide +kernel) (sa_cons (se_var (i := 1)) (sa_nil))) (se_call (c_hands_of T) tk (hr.mono (by decide)) (sa_cons (se_var (i := 0)) (sa_nil)))) (
    sss_cons (ss_raise rfl tk (T.e_Unlike _ _) (hr.mono (by decide)) passL (sa_cons (se_str) (sa_nil))) (sss_nil)) (sss_nil)) (
  sss_cons (ss_for po rfl (si_seq (se_var (i := 1))) (sg_name (i := 2) hN) (
    sss_cons (ss_if (st_cmp (dop_ne hr.units) (se_callB dc_len T.b_len (by decide +kernel) (sa_cons (se_var (i := 2)) (sa_nil))) (se_callB dc_len T.b_len (by decide +kernel) (sa_cons (se_var (i := 0)) (sa_nil)))) (
      sss_cons (ss_raise rfl tk (T.e_Unlike _ _) (hr.mono (by decide)) passL (sa_cons (se_str) (sa_nil))) (sss_nil)) (sss_nil)) (sss_nil))) (
  sss_cons (ss_ret (se_callTy dc_tuple T.b_tuple (by decide +kernel) (sa_cons (se_frz (sf_lc (own := [("at", 3), ("hand", 4)]) rfl hN (si_enumA (se_var (i := 0)) T.b_enumerate) (blkOk_by (by kernel_rfl)) (fun _ _ _ _ _ => sg_tup (n := 2) rfl (sgs_cons (sg_name (i := 3) hN) (sgs_cons (sg_name (i := 4) hN) (sgs_nil)))) (by decide) (fun _ _ _ _ _ => sts_nil) (fun _ _ _ _ _ => se_ix (se_ix (se_var (i := 1)) (se_var (i := 4))) (se_var (i := 3))))) (sa_nil)))) (sss_nil))))
abbrev n_shortened : List Str := ["deal", "row", "hand", "low", "high"]
theorem sc_shortened : FnScope n_shortened ["deal", "row"] (defScope s_shortened) := ⟨rfl, rfl, rfl, by decide +kernel, rfl, by decide +kernel, by decide +kernel⟩
theorem c_shortened (T : Txt P K mg) : Cal P w K mg base 5 "shortened" 2 m_shortened := by
  obtain ⟨f, fd, F, g⟩ := T.f_shortened
  refine ⟨f, fd, ["deal", "row"], fn_td F sc_shortened fun cdv A outer s H E fm hr => ?_, g, F.kp, F.bindsN fun _ _ _ _ _ _ us hl => match us, hl with | [_, _], _ => rfl⟩
  have hN : n_shortened.Nodup := sc_shortened.nd
  have tk := tk_of (P := P) (w := w) (K := K) (mg := mg) (base := base) (N := n_shortened) (qual := "shortened") (scope := defScope s_shortened) (f := f) (cd := cdv) (A := A) (outer := outer) (s := s) (H := H) (E := E)
  have po := po_of (P := P) (w := w) (K := K) (mg := mg) (base := base) (N := n_shortened) (qual := "shortened") (scope := defScope s_shortened) (f := f) (cd := cdv) (A := A) (outer := outer) (s := s) (H := H) (E := E)
  exact 
  sss_cons (ss_expr (se_call (c_must_be_deal T) tk (hr.mono (by decide)) (sa_cons (se_var (i := 0)) (sa_nil)))) (
  sss_cons (ss_if (st_cmp (dop_ne hr.units) (se_callB dc_len T.b_len (by decide +kernel) (sa_cons (se_var (i := 1)) (sa_nil))) (se_callB dc_len T.b_len (by decide +kernel) (sa_cons (se_var (i := 0)) (sa_nil)))) (
    sss_cons (ss_raise rfl tk (T.e_Unlike _ _) (hr.mono (by decide)) passL (sa_cons (se_str) (sa_nil))) (sss_nil)) (sss_nil)) (
  sss_cons (ss_ret (se_callTy dc_tuple T.b_tuple (by decide +kernel) (sa_cons (se_frz (sf_lc (own := [("hand", 2), ("low", 3), ("high", 4)]) rfl hN (si_seq (se_call (c_blocks_of T) tk (hr.mono (by decide)) (sa_cons (se_var (i := 0)) (sa_nil)))) (blkOk_by (by kernel_rfl)) (fun _ _ _ _ _ => sg_tup (n := 3) rfl (sgs_cons (sg_name (i := 2) hN) (sgs_cons (sg_name (i := 3) hN) (sgs_cons (sg_name (i := 4) hN) (sgs_nil))))) (by decide) (fun _ _ _ _ _ => sts_nil) (fun _ _ _ _ _ => se_join (se_str) (se_slX (se_var (i := 1)) (so_some (se_var (i := 3))) (so_some (se_var (i := 4))))))) (sa_nil)))) (sss_nil)))
abbrev n__law_source : List Str := ["script", "cells", "cell"]
theorem sc__law_source : FnScope n__law_source ["script"] (defScope s__law_source) := ⟨rfl, rfl, rfl, by decide +kernel, rfl, by decide +kernel, by decide +kernel⟩
abbrev n__law_pick : List Str := ["source", "many", "left", "turn", "cells", "cell", "first", "second"]
theorem sc__law_pick : FnScope n__law_pick ["source", "many"] (defScope s__law_pick) := ⟨rfl, rfl, rfl, by decide +kernel, rfl, by decide +kernel, by decide +kernel⟩
theorem c__law_pick (T : Txt P K mg) : Cal P w K mg base 1 "_law_pick" 2 m__law_pick := by
  obtain ⟨f, fd, F, g⟩ := T.f__law_pick
  refine ⟨f, fd, ["source", "many"], fn_td F sc__law_pick fun cdv A outer s H E fm hr => ?_, g, F.kp, F.bindsN fun _ _ _ _ _ _ us hl => match us, hl with | [_, _], _ => rfl⟩
  have hN : n__law_pick.Nodup := sc__law_pick.nd
  have tk := tk_of (P := P) (w := w) (K := K) (mg := mg) (base := base) (N := n__law_pick) (qual := "_law_pick") (scope := defScope s__law_pick) (f := f) (cd := cdv) (A := A) (outer := outer) (s := s) (H := H) (E := E)
  have po := po_of (P := P) (w := w) (K := K) (mg := mg) (base := base) (N := n__law_pick) (qual := "_law_pick") (scope := defScope s__law_pick) (f := f) (cd := cdv) (A := A) (outer := outer) (s := s) (H := H) (E := E)
  exact 
  sss_cons (ss_if (st_cmp dop_gt (se_src (i := 0)) (se_int)) (
    sss_cons (ss_set (i := 2) hN (se_src (i := 0))) (
    sss_cons (ss_src (i := 0) (se_bin dop_div (se_var (i := 2)) (se_var (i := 1)))) (
    sss_cons (ss_ret (se_bin dop_mod (se_callTy dc_int T.b_int (by decide +kernel) (sa_cons (se_var (i := 2)) (sa_nil))) (se_var (i := 1)))) (sss_nil)))) (sss_nil)) (
  sss_cons (ss_set (i := 3) hN (se_src (i := 0))) (
  sss_cons (ss_src (i := 0) (se_bin dop_add (se_var (i := 3)) (se_int))) (
  sss_cons (ss_set (i := 4) hN (se_src (i := 0))) (
  sss_cons (ss_set (i := 5) hN (se_ix (se_var (i := 4)) (se_bin dop_mod (se_callTy dc_int T.b_int (by decide +kernel) (sa_cons (se_var (i := 3)) (sa_nil))) (se_callB dc_len T.b_len (by decide +kernel) (sa_cons (se_var (i := 4)) (sa_nil)))))) (
  sss_cons (ss_if (SW.st (sw_and (st_cmp dop_ge (se_var (i := 5)) (se_bin dop_pow (se_int) (se_int))) (sw_and1 (st_cmp dop_lt (se_var (i := 3)) (se_callB dc_len T.b_len (by decide +kernel) (sa_cons (se_var (i := 4)) (sa_nil))))))) (
    sss_cons (ss_src (i := 0) (se_bin dop_div (se_var (i := 5)) (se_var (i := 1)))) (
    sss_cons (ss_ret (se_bin dop_mod (se_callTy dc_int T.b_int (by decide +kernel) (sa_cons (se_var (i := 5)) (sa_nil))) (se_var (i := 1)))) (sss_nil))) (sss_nil)) (
  sss_cons (ss_set (i := 6) hN (se_bin dop_mod (se_callTy dc_int T.b_int (by decide +kernel) (sa_cons (se_bin dop_add (se_bin dop_add (se_bin dop_mul (se_bin dop_mod (se_callTy dc_int T.b_int (by decide +kernel) (sa_cons (se_var (i := 5)) (sa_nil))) (se_int)) (se_int)) (se_bin dop_mul (se_var (i := 3)) (se_int))) (se_int)) (sa_nil))) (se_int))) (
  sss_cons (ss_set (i := 7) hN (se_bin dop_mod (se_callTy dc_int T.b_int (by decide +kernel) (sa_cons (se_bin dop_add (se_bin dop_add (se_bin dop_mul (se_var (i := 6)) (se_bin dop_add (se_bin dop_mod (se_callTy dc_int T.b_int (by decide +kernel) (sa_cons (se_var (i := 6)) (sa_nil))) (se_int)) (se_int))) (se_bin dop_mul (se_var (i := 3)) (se_int))) (se_int)) (sa_nil))) (se_int))) (
  sss_cons (ss_ret (se_bin dop_mod (se_callTy dc_int T.b_int (by decide +kernel) (sa_cons (se_bin dop_div (se_var (i := 7)) (se_int)) (sa_nil))) (se_var (i := 1)))) (sss_nil)))))))))
abbrev n__law_text : List Str := ["source", "letters", "most", "text", "at"]
theorem sc__law_text : FnScope n__law_text ["source", "letters", "most"] (defScope s__law_text) := ⟨rfl, rfl, rfl, by decide +kernel, rfl, by decide +kernel, by decide +kernel⟩
theorem c__law_text (T : Txt P K mg) : Cal P w K mg base 2 "_law_text" 3 m__law_text := by
  obtain ⟨f, fd, F, g⟩ := T.f__law_text
  refine ⟨f, fd, ["source", "letters", "most"], fn_td F sc__law_text fun cdv A outer s H E fm hr => ?_, g, F.kp, F.bindsN fun _ _ _ _ _ _ us hl => match us, hl with | [_, _, _], _ => rfl⟩
  have hN : n__law_text.Nodup := sc__law_text.nd
  have tk := tk_of (P := P) (w := w) (K := K) (mg := mg) (base := base) (N := n__law_text) (qual := "_law_text") (scope := defScope s__law_text) (f := f) (cd := cdv) (A := A) (outer := outer) (s := s) (H := H) (E := E)
  have po := po_of (P := P) (w := w) (K := K) (mg := mg) (base := base) (N := n__law_text) (qual := "_law_text") (scope := defScope s__law_text) (f := f) (cd := cdv) (A := A) (outer := outer) (s := s) (H := H) (E := E)
  exact 
  sss_cons (ss_set (i := 3) hN (se_str)) (
  sss_cons (ss_for po rfl (si_rng1 (sa_cons (se_call (c__law_pick T) tk (hr.mono (by decide)) (sa_cons (se_var (i := 0)) (sa_cons (se_bin dop_add (se_var (i := 2)) (se_int)) (sa_nil)))) (sa_nil)) T.b_range) (sg_name (i := 4) hN) (
    sss_cons (ss_set (i := 3) hN (se_bin dop_add (se_var (i := 3)) (se_ix (se_var (i := 1)) (se_call (c__law_pick T) tk (hr.mono (by decide)) (sa_cons (se_var (i := 0)) (sa_cons (se_callB dc_len T.b_len (by decide +kernel) (sa_cons (se_var (i := 1)) (sa_nil))) (sa_nil))))))) (sss_nil))) (
  sss_cons (ss_ret (se_var (i := 3))) (sss_nil)))
abbrev n__law_deal : List Str := ["source", "cells", "hands", "at"]
theorem sc__law_deal : FnScope n__law_deal ["source", "cells", "hands"] (defScope s__law_deal) := ⟨rfl, rfl, rfl, by decide +kernel, rfl, by decide +kernel, by decide +kernel⟩
theorem c__law_deal (T : Txt P K mg) : Cal P w K mg base 2 "_law_deal" 3 m__law_deal := by
  obtain ⟨f, fd, F, g⟩ := T.f__law_deal
  refine ⟨f, fd, ["source", "cells", "hands"], fn_td F sc__law_deal fun cdv A outer s H E fm hr => ?_, g, F.kp, F.bindsN fun _ _ _ _ _ _ us hl => match us, hl with | [_, _, _], _ => rfl⟩
  have hN : n__law_deal.Nodup := sc__law_deal.nd
  have tk := tk_of (P := P) (w := w) (K := K) (mg := mg) (base := base) (N := n__law_deal) (qual := "_law_deal") (scope := defScope s__law_deal) (f := f) (cd := cdv) (A := A) (outer := outer) (s := s) (H := H) (E := E)
  have po := po_of (P := P) (w := w) (K := K) (mg := mg) (base := base) (N := n__law_deal) (qual := "_law_deal") (scope := defScope s__law_deal) (f := f) (cd := cdv) (A := A) (outer := outer) (s := s) (H := H) (E := E)
  exact 
  sss_cons (ss_ret (se_callTy dc_tuple T.b_tuple (by decide +kernel) (sa_cons (se_frz (sf_lc (own := [("at", 3)]) rfl hN (si_rng1 (sa_cons (se_var (i := 1)) (sa_nil)) T.b_range) (blkOk_by (by kernel_rfl)) (fun _ _ _ _ _ => sg_name (i := 3) hN) (by decide) (fun _ _ _ _ _ => sts_nil) (fun _ _ _ _ _ => se_call (c__law_pick T) takes0 (hr.mono (by decide)) (sa_cons (se_var (i := 0)) (sa_cons (se_var (i := 2)) (sa_nil)))))) (sa_nil)))) (sss_nil)
abbrev n__law_row : List Str := ["source", "letters", "cells", "most", "at"]
theorem sc__law_row : FnScope n__law_row ["source", "letters", "cells", "most"] (defScope s__law_row) := ⟨rfl, rfl, rfl, by decide +kernel, rfl, by decide +kernel, by decide +kernel⟩
theorem c__law_row (T : Txt P K mg) : Cal P w K mg base 3 "_law_row" 4 m__law_row := by
  obtain ⟨f, fd, F, g⟩ := T.f__law_row
  refine ⟨f, fd, ["source", "letters", "cells", "most"], fn_td F sc__law_row fun cdv A outer s H E fm hr => ?_, g, F.kp, F.bindsN fun _ _ _ _ _ _ us hl => match us, hl with | [_, _, _, _], _ => rfl⟩
  have hN : n__law_row.Nodup := sc__law_row.nd
  have tk := tk_of (P := P) (w := w) (K := K) (mg := mg) (base := base) (N := n__law_row) (qual := "_law_row") (scope := defScope s__law_row) (f := f) (cd := cdv) (A := A) (outer := outer) (s := s) (H := H) (E := E)
  have po := po_of (P := P) (w := w) (K := K) (mg := mg) (base := base) (N := n__law_row) (qual := "_law_row") (scope := defScope s__law_row) (f := f) (cd := cdv) (A := A) (outer := outer) (s := s) (H := H) (E := E)
  exact 
  sss_cons (ss_ret (se_callTy dc_tuple T.b_tuple (by decide +kernel) (sa_cons (se_frz (sf_lc (own := [("at", 4)]) rfl hN (si_rng1 (sa_cons (se_var (i := 2)) (sa_nil)) T.b_range) (blkOk_by (by kernel_rfl)) (fun _ _ _ _ _ => sg_name (i := 4) hN) (by decide) (fun _ _ _ _ _ => sts_nil) (fun _ _ _ _ _ => se_call (c__law_text T) takes0 (hr.mono (by decide)) (sa_cons (se_var (i := 0)) (sa_cons (se_var (i := 1)) (sa_cons (se_var (i := 3)) (sa_nil))))))) (sa_nil)))) (sss_nil)
abbrev n__law_any_letters : List Str := ["source", "signs", "told", "at", "turn"]
theorem sc__law_any_letters : FnScope n__law_any_letters ["source"] (defScope s__law_any_letters) := ⟨rfl, rfl, rfl, by decide +kernel, rfl, by decide +kernel, by decide +kernel⟩
theorem c__law_any_letters (T : Txt P K mg) : Cal P w K mg base 2 "_law_any_letters" 1 m__law_any_letters := by
  obtain ⟨f, fd, F, g⟩ := T.f__law_any_letters
  refine ⟨f, fd, ["source"], fn_td F sc__law_any_letters fun cdv A outer s H E fm hr => ?_, g, F.kp, F.bindsN fun _ _ _ _ _ _ us hl => match us, hl with | [_], _ => rfl⟩
  have hN : n__law_any_letters.Nodup := sc__law_any_letters.nd
  have tk := tk_of (P := P) (w := w) (K := K) (mg := mg) (base := base) (N := n__law_any_letters) (qual := "_law_any_letters") (scope := defScope s__law_any_letters) (f := f) (cd := cdv) (A := A) (outer := outer) (s := s) (H := H) (E := E)
  have po := po_of (P := P) (w := w) (K := K) (mg := mg) (base := base) (N := n__law_any_letters) (qual := "_law_any_letters") (scope := defScope s__law_any_letters) (f := f) (cd := cdv) (A := A) (outer := outer) (s := s) (H := H) (E := E)
  exact 
  sss_cons (ss_set (i := 1) hN (se_str)) (
  sss_cons (ss_set (i := 2) hN (se_str)) (
  sss_cons (ss_set (i := 3) hN (se_int)) (
  sss_cons (ss_for po rfl (si_rng1 (sa_cons (se_bin dop_add (se_int) (se_call (c__law_pick T) tk (hr.mono (by decide)) (sa_cons (se_var (i := 0)) (sa_cons (se_int) (sa_nil))))) (sa_nil)) T.b_range) (sg_name (i := 4) hN) (
    sss_cons (ss_if (st_cmp dop_lt (se_var (i := 3)) (se_int)) (
      sss_cons (ss_set (i := 3) hN (se_bin dop_add (se_var (i := 3)) (se_call (c__law_pick T) tk (hr.mono (by decide)) (sa_cons (se_var (i := 0)) (sa_cons (se_bin dop_sub (se_int) (se_var (i := 3))) (sa_nil)))))) (
      sss_cons (ss_set (i := 2) hN (se_bin dop_add (se_var (i := 2)) (se_ix (se_var (i := 1)) (se_var (i := 3))))) (
      sss_cons (ss_set (i := 3) hN (se_bin dop_add (se_var (i := 3)) (se_int))) (sss_nil)))) (sss_nil)) (sss_nil))) (
  sss_cons (ss_ret (se_var (i := 2))) (sss_nil)))))
abbrev n__law_wide_deal : List Str := ["source", "hands", "style", "cells", "turn", "holder", "at", "many", "pattern"]
theorem sc__law_wide_deal : FnScope n__law_wide_deal ["source"] (defScope s__law_wide_deal) := ⟨rfl, rfl, rfl, by decide +kernel, rfl, by decide +kernel, by decide +kernel⟩
theorem c__law_wide_deal (T : Txt P K mg) : Cal P w K mg base 3 "_law_wide_deal" 1 m__law_wide_deal := by
  obtain ⟨f, fd, F, g⟩ := T.f__law_wide_deal
  refine ⟨f, fd, ["source"], fn_td F sc__law_wide_deal fun cdv A outer s H E fm hr => ?_, g, F.kp, F.bindsN fun _ _ _ _ _ _ us hl => match us, hl with | [_], _ => rfl⟩
  have hN : n__law_wide_deal.Nodup := sc__law_wide_deal.nd
  have tk := tk_of (P := P) (w := w) (K := K) (mg := mg) (base := base) (N := n__law_wide_deal) (qual := "_law_wide_deal") (scope := defScope s__law_wide_deal) (f := f) (cd := cdv) (A := A) (outer := outer) (s := s) (H := H) (E := E)
  have po := po_of (P := P) (w := w) (K := K) (mg := mg) (base := base) (N := n__law_wide_deal) (qual := "_law_wide_deal") (scope := defScope s__law_wide_deal) (f := f) (cd := cdv) (A := A) (outer := outer) (s := s) (H := H) (E := E)
  exact 
  sss_cons (ss_set (i := 1) hN (se_bin dop_add (se_int) (se_call (c__law_pick T) tk (hr.mono (by decide)) (sa_cons (se_var (i := 0)) (sa_cons (se_int) (sa_nil)))))) (
  sss_cons (ss_set (i := 2) hN (se_call (c__law_pick T) tk (hr.mono (by decide)) (sa_cons (se_var (i := 0)) (sa_cons (se_int) (sa_nil))))) (
  sss_cons (ss_if (st_cmp dop_lt (se_var (i := 2)) (se_int)) (
    sss_cons (ss_ret (se_call (c__law_deal T) tk (hr.mono (by decide)) (sa_cons (se_var (i := 0)) (sa_cons (se_call (c__law_pick T) tk (hr.mono (by decide)) (sa_cons (se_var (i := 0)) (sa_cons (se_int) (sa_nil)))) (sa_cons (se_var (i := 1)) (sa_nil)))))) (sss_nil)) (sss_nil)) (
  sss_cons (ss_if (st_cmp dop_lt (se_var (i := 2)) (se_int)) (
    sss_cons (ss_setF (i := 3) hN (sf_lst (sa_nil))) (
    sss_cons (ss_for po rfl (si_rng1 (sa_cons (se_call (c__law_pick T) tk (hr.mono (by decide)) (sa_cons (se_var (i := 0)) (sa_cons (se_int) (sa_nil)))) (sa_nil)) T.b_range) (sg_name (i := 4) hN) (
      sss_cons (ss_set (i := 5) hN (se_call (c__law_pick T) tk (hr.mono (by decide)) (sa_cons (se_var (i := 0)) (sa_cons (se_var (i := 1)) (sa_nil))))) (
      sss_cons (ss_setF (i := 3) hN (sf_cat (se_var (i := 3)) (se_frz (sf_lc (own := [("at", 6)]) rfl hN (si_rng1 (sa_cons (se_bin dop_add (se_int) (se_call (c__law_pick T) tk (hr.mono (by decide)) (sa_cons (se_var (i := 0)) (sa_cons (se_int) (sa_nil))))) (sa_nil)) T.b_range) (blkOk_by (by kernel_rfl)) (fun _ _ _ _ _ => sg_name (i := 6) hN) (by decide) (fun _ _ _ _ _ => sts_nil) (fun _ _ _ _ _ => se_var (i := 5)))))) (sss_nil)))) (
    sss_cons (ss_ret (se_callTy dc_tuple T.b_tuple (by decide +kernel) (sa_cons (se_var (i := 3)) (sa_nil)))) (sss_nil)))) (sss_nil)) (
  sss_cons (ss_set (i := 7) hN (se_ix (se_frz (sf_lst (sa_cons (se_int) (sa_cons (se_int) (sa_cons (se_int) (sa_cons (se_int) (sa_nil))))))) (se_call (c__law_pick T) tk (hr.mono (by decide)) (sa_cons (se_var (i := 0)) (sa_cons (se_int) (sa_nil)))))) (
  sss_cons (ss_setF (i := 8) hN (sf_lc (own := [("at", 6)]) rfl hN (si_rng1 (sa_cons (se_bin dop_add (se_int) (se_call (c__law_pick T) tk (hr.mono (by decide)) (sa_cons (se_var (i := 0)) (sa_cons (se_int) (sa_nil))))) (sa_nil)) T.b_range) (blkOk_by (by kernel_rfl)) (fun _ _ _ _ _ => sg_name (i := 6) hN) (by decide) (fun _ _ _ _ _ => sts_nil) (fun _ _ _ _ _ => se_call (c__law_pick T) takes0 (hr.mono (by decide)) (sa_cons (se_var (i := 0)) (sa_cons (se_var (i := 1)) (sa_nil)))))) (
  sss_cons (ss_ret (se_callTy dc_tuple T.b_tuple (by decide +kernel) (sa_cons (se_frz (sf_lc (own := [("at", 6)]) rfl hN (si_rng1 (sa_cons (se_var (i := 7)) (sa_nil)) T.b_range) (blkOk_by (by kernel_rfl)) (fun _ _ _ _ _ => sg_name (i := 6) hN) (by decide) (fun _ _ _ _ _ => sts_nil) (fun _ _ _ _ _ => se_ix (se_var (i := 8)) (se_bin dop_mod (se_callTy dc_int T.b_int (by decide +kernel) (sa_cons (se_var (i := 6)) (sa_nil))) (se_callB dc_len T.b_len (by decide +kernel) (sa_cons (se_var (i := 8)) (sa_nil))))))) (sa_nil)))) (sss_nil)))))))
abbrev n__law_asked : List Str := ["which", "deal", "held", "hand", "refused"]
theorem sc__law_asked : FnScope n__law_asked ["which", "deal", "held", "hand"] (defScope s__law_asked) := ⟨rfl, rfl, rfl, by decide +kernel, rfl, by decide +kernel, by decide +kernel⟩
theorem c__law_asked (T : Txt P K mg) : Cal P w K mg base 6 "_law_asked" 4 m__law_asked := by
  obtain ⟨f, fd, F, g⟩ := T.f__law_asked
  refine ⟨f, fd, ["which", "deal", "held", "hand"], fn_td F sc__law_asked fun cdv A outer s H E fm hr => ?_, g, F.kp, F.bindsN fun _ _ _ _ _ _ us hl => match us, hl with | [_, _, _, _], _ => rfl⟩
  have hN : n__law_asked.Nodup := sc__law_asked.nd
  have tk := tk_of (P := P) (w := w) (K := K) (mg := mg) (base := base) (N := n__law_asked) (qual := "_law_asked") (scope := defScope s__law_asked) (f := f) (cd := cdv) (A := A) (outer := outer) (s := s) (H := H) (E := E)
  have po := po_of (P := P) (w := w) (K := K) (mg := mg) (base := base) (N := n__law_asked) (qual := "_law_asked") (scope := defScope s__law_asked) (f := f) (cd := cdv) (A := A) (outer := outer) (s := s) (H := H) (E := E)
  exact 
  sss_cons (ss_try_as (i := 4) rfl rfl hN rfl rfl T.x_TalkError rfl (by decide) tk (fun _ _ _ tk po => 
    sss_cons (ss_if (st_cmp (dop_eq hr.units) (se_var (i := 0)) (se_int)) (
      sss_cons (ss_ret (se_tup (sa_cons (se_str) (sa_cons (se_call (c_view_of T) tk (hr.mono (by decide)) (sa_cons (se_var (i := 1)) (sa_cons (se_var (i := 2)) (sa_cons (se_var (i := 3)) (sa_nil))))) (sa_nil))))) (sss_nil)) (sss_nil)) (
    sss_cons (ss_if (st_cmp (dop_eq hr.units) (se_var (i := 0)) (se_int)) (
      sss_cons (ss_ret (se_tup (sa_cons (se_str) (sa_cons (se_call (c_shortened T) tk (hr.mono (by decide)) (sa_cons (se_var (i := 1)) (sa_cons (se_var (i := 2)) (sa_nil)))) (sa_nil))))) (sss_nil)) (sss_nil)) (
    sss_cons (ss_ret (se_tup (sa_cons (se_str) (sa_cons (se_call (c_put_together T) tk (hr.mono (by decide)) (sa_cons (se_var (i := 1)) (sa_cons (se_var (i := 2)) (sa_nil)))) (sa_nil))))) (sss_nil)))) (fun _ _ _ _ _ _ hS => 
    sss_cons (ss_if (SW.st (sw_or (st_tru (se_isXT (i := 4) hS T.b_isinstance (.cons T.x_BadText rfl (by decide) (.cons T.x_TooMany rfl (by decide) (.cons T.x_Unknown rfl (by decide) (.cons T.x_BadPaper rfl (by decide) .nil)))) (by decide))) (sw_or1 (st_not (st_tru (se_isXB (i := 4) (T := "ValueError") hS T.b_isinstance T.x_ValueError (by decide +kernel))))))) (
      sss_cons (ss_ret (se_tup (sa_cons (se_str) (sa_cons (se_non) (sa_nil))))) (sss_nil)) (sss_nil)) (
    sss_cons (ss_if (st_tru (se_isX (i := 4) hS T.b_isinstance T.x_BadValue)) (
      sss_cons (ss_ret (se_if (st_tru (se_isX (i := 4) hS T.b_isinstance T.x_Unlike)) (se_tup (sa_cons (se_str) (sa_cons (se_non) (sa_nil)))) (se_tup (sa_cons (se_str) (sa_cons (se_exf (i := 4) hS) (sa_nil)))))) (sss_nil)) (sss_nil)) (
    sss_cons (ss_if (st_tru (se_isX (i := 4) hS T.b_isinstance T.x_Unlike)) (
      sss_cons (ss_ret (se_tup (sa_cons (se_str) (sa_cons (se_exf (i := 4) hS) (sa_nil))))) (sss_nil)) (sss_nil)) (
    sss_cons (ss_ret (se_tup (sa_cons (se_str) (sa_cons (se_non) (sa_nil))))) (sss_nil)))))) (sss_nil)
abbrev n__law_hands : List Str := ["deal", "many", "holder"]
theorem sc__law_hands : FnScope n__law_hands ["deal"] (defScope s__law_hands) := ⟨rfl, rfl, rfl, by decide +kernel, rfl, by decide +kernel, by decide +kernel⟩
theorem c__law_hands (T : Txt P K mg) : Cal P w K mg base 1 "_law_hands" 1 m__law_hands := by
  obtain ⟨f, fd, F, g⟩ := T.f__law_hands
  refine ⟨f, fd, ["deal"], fn_td F sc__law_hands fun cdv A outer s H E fm hr => ?_, g, F.kp, F.bindsN fun _ _ _ _ _ _ us hl => match us, hl with | [_], _ => rfl⟩
  have hN : n__law_hands.Nodup := sc__law_hands.nd
  have tk := tk_of (P := P) (w := w) (K := K) (mg := mg) (base := base) (N := n__law_hands) (qual := "_law_hands") (scope := defScope s__law_hands) (f := f) (cd := cdv) (A := A) (outer := outer) (s := s) (H := H) (E := E)
  have po := po_of (P := P) (w := w) (K := K) (mg := mg) (base := base) (N := n__law_hands) (qual := "_law_hands") (scope := defScope s__law_hands) (f := f) (cd := cdv) (A := A) (outer := outer) (s := s) (H := H) (E := E)
  exact 
  sss_cons (ss_set (i := 1) hN (se_int)) (
  sss_cons (ss_for po rfl (si_seq (se_var (i := 0))) (sg_name (i := 2) hN) (
    sss_cons (ss_set (i := 1) hN (se_callB (dc_max rfl) T.b_max (by decide +kernel) (sa_cons (se_var (i := 1)) (sa_cons (se_bin dop_add (se_var (i := 2)) (se_int)) (sa_nil))))) (sss_nil))) (
  sss_cons (ss_ret (se_var (i := 1))) (sss_nil)))
abbrev n__law_view : List Str := ["deal", "row", "hand", "told", "at"]
theorem sc__law_view : FnScope n__law_view ["deal", "row", "hand"] (defScope s__law_view) := ⟨rfl, rfl, rfl, by decide +kernel, rfl, by decide +kernel, by decide +kernel⟩
theorem c__law_view (T : Txt P K mg) : Cal P w K mg base 1 "_law_view" 3 m__law_view := by
  obtain ⟨f, fd, F, g⟩ := T.f__law_view
  refine ⟨f, fd, ["deal", "row", "hand"], fn_td F sc__law_view fun cdv A outer s H E fm hr => ?_, g, F.kp, F.bindsN fun _ _ _ _ _ _ us hl => match us, hl with | [_, _, _], _ => rfl⟩
  have hN : n__law_view.Nodup := sc__law_view.nd
  have tk := tk_of (P := P) (w := w) (K := K) (mg := mg) (base := base) (N := n__law_view) (qual := "_law_view") (scope := defScope s__law_view) (f := f) (cd := cdv) (A := A) (outer := outer) (s := s) (H := H) (E := E)
  have po := po_of (P := P) (w := w) (K := K) (mg := mg) (base := base) (N := n__law_view) (qual := "_law_view") (scope := defScope s__law_view) (f := f) (cd := cdv) (A := A) (outer := outer) (s := s) (H := H) (E := E)
  exact 
  sss_cons (ss_setF (i := 3) hN (sf_lst (sa_nil))) (
  sss_cons (ss_for po rfl (si_rng1 (sa_cons (se_callB dc_len T.b_len (by decide +kernel) (sa_cons (se_var (i := 0)) (sa_nil))) (sa_nil)) T.b_range) (sg_name (i := 4) hN) (
    sss_cons (ss_append (i := 3) (se_if (st_cmp (dop_eq hr.units) (se_ix (se_var (i := 0)) (se_var (i := 4))) (se_var (i := 2))) (se_ix (se_var (i := 1)) (se_var (i := 4))) (se_non))) (sss_nil))) (
  sss_cons (ss_ret (se_callTy dc_tuple T.b_tuple (by decide +kernel) (sa_cons (se_var (i := 3)) (sa_nil)))) (sss_nil)))
abbrev n__law_shortened : List Str := ["deal", "row", "told", "at"]
theorem sc__law_shortened : FnScope n__law_shortened ["deal", "row"] (defScope s__law_shortened) := ⟨rfl, rfl, rfl, by decide +kernel, rfl, by decide +kernel, by decide +kernel⟩
theorem c__law_shortened (T : Txt P K mg) : Cal P w K mg base 1 "_law_shortened" 2 m__law_shortened := by
  obtain ⟨f, fd, F, g⟩ := T.f__law_shortened
  refine ⟨f, fd, ["deal", "row"], fn_td F sc__law_shortened fun cdv A outer s H E fm hr => ?_, g, F.kp, F.bindsN fun _ _ _ _ _ _ us hl => match us, hl with | [_, _], _ => rfl⟩
  have hN : n__law_shortened.Nodup := sc__law_shortened.nd
  have tk := tk_of (P := P) (w := w) (K := K) (mg := mg) (base := base) (N := n__law_shortened) (qual := "_law_shortened") (scope := defScope s__law_shortened) (f := f) (cd := cdv) (A := A) (outer := outer) (s := s) (H := H) (E := E)
  have po := po_of (P := P) (w := w) (K := K) (mg := mg) (base := base) (N := n__law_shortened) (qual := "_law_shortened") (scope := defScope s__law_shortened) (f := f) (cd := cdv) (A := A) (outer := outer) (s := s) (H := H) (E := E)
  exact 
  sss_cons (ss_setF (i := 2) hN (sf_lst (sa_nil))) (
  sss_cons (ss_for po rfl (si_rng1 (sa_cons (se_callB dc_len T.b_len (by decide +kernel) (sa_cons (se_var (i := 0)) (sa_nil))) (sa_nil)) T.b_range) (sg_name (i := 3) hN) (
    sss_cons (ss_if (SW.st (sw_and (st_cmp dop_gt (se_var (i := 3)) (se_int)) (sw_and1 (st_cmp (dop_eq hr.units) (se_ix (se_var (i := 0)) (se_var (i := 3))) (se_ix (se_var (i := 0)) (se_bin dop_sub (se_var (i := 3)) (se_int))))))) (
      sss_cons (ss_setIx (i := 2) (se_sc (se_bin dop_add (se_ixO (i := 2) (se_bin dop_sub (se_lenO (i := 2) T.b_len) (se_int))) (se_ix (se_var (i := 1)) (se_var (i := 3))))) (se_bin dop_sub (se_lenO (i := 2) T.b_len) (se_int))) (sss_nil)) (
      sss_cons (ss_append (i := 2) (se_ix (se_var (i := 1)) (se_var (i := 3)))) (sss_nil))) (sss_nil))) (
  sss_cons (ss_ret (se_callTy dc_tuple T.b_tuple (by decide +kernel) (sa_cons (se_var (i := 2)) (sa_nil)))) (sss_nil)))
abbrev n__law_short : List Str := ["deal", "at"]
theorem sc__law_short : FnScope n__law_short ["deal"] (defScope s__law_short) := ⟨rfl, rfl, rfl, by decide +kernel, rfl, by decide +kernel, by decide +kernel⟩
theorem c__law_short (T : Txt P K mg) : Cal P w K mg base 1 "_law_short" 1 m__law_short := by
  obtain ⟨f, fd, F, g⟩ := T.f__law_short
  refine ⟨f, fd, ["deal"], fn_td F sc__law_short fun cdv A outer s H E fm hr => ?_, g, F.kp, F.bindsN fun _ _ _ _ _ _ us hl => match us, hl with | [_], _ => rfl⟩
  have hN : n__law_short.Nodup := sc__law_short.nd
  have tk := tk_of (P := P) (w := w) (K := K) (mg := mg) (base := base) (N := n__law_short) (qual := "_law_short") (scope := defScope s__law_short) (f := f) (cd := cdv) (A := A) (outer := outer) (s := s) (H := H) (E := E)
  have po := po_of (P := P) (w := w) (K := K) (mg := mg) (base := base) (N := n__law_short) (qual := "_law_short") (scope := defScope s__law_short) (f := f) (cd := cdv) (A := A) (outer := outer) (s := s) (H := H) (E := E)
  exact 
  sss_cons (ss_ret (se_callTy dc_tuple T.b_tuple (by decide +kernel) (sa_cons (se_frz (sf_lc (own := [("at", 1)]) rfl hN (si_rng1 (sa_cons (se_callB dc_len T.b_len (by decide +kernel) (sa_cons (se_var (i := 0)) (sa_nil))) (sa_nil)) T.b_range) (blkOk_by (by kernel_rfl)) (fun _ _ _ _ _ => sg_name (i := 1) hN) (by decide) (fun _ _ _ _ _ => sts_one (SW.st (sw_or (st_cmp (dop_eq hr.units) (se_var (i := 1)) (se_int)) (sw_or1 (st_cmp (dop_ne hr.units) (se_ix (se_var (i := 0)) (se_var (i := 1))) (se_ix (se_var (i := 0)) (se_bin dop_sub (se_var (i := 1)) (se_int)))))))) (fun _ _ _ _ _ => se_ix (se_var (i := 0)) (se_var (i := 1))))) (sa_nil)))) (sss_nil)
abbrev n__law_is_told : List Str := ["told", "due"]
theorem sc__law_is_told : FnScope n__law_is_told ["told", "due"] (defScope s__law_is_told) := ⟨rfl, rfl, rfl, by decide +kernel, rfl, by decide +kernel, by decide +kernel⟩
theorem c__law_is_told (T : Txt P K mg) : Cal P w K mg base 1 "_law_is_told" 2 m__law_is_told := by
  obtain ⟨f, fd, F, g⟩ := T.f__law_is_told
  refine ⟨f, fd, ["told", "due"], fn_td F sc__law_is_told fun cdv A outer s H E fm hr => ?_, g, F.kp, F.bindsN fun _ _ _ _ _ _ us hl => match us, hl with | [_, _], _ => rfl⟩
  have hN : n__law_is_told.Nodup := sc__law_is_told.nd
  have tk := tk_of (P := P) (w := w) (K := K) (mg := mg) (base := base) (N := n__law_is_told) (qual := "_law_is_told") (scope := defScope s__law_is_told) (f := f) (cd := cdv) (A := A) (outer := outer) (s := s) (H := H) (E := E)
  have po := po_of (P := P) (w := w) (K := K) (mg := mg) (base := base) (N := n__law_is_told) (qual := "_law_is_told") (scope := defScope s__law_is_told) (f := f) (cd := cdv) (A := A) (outer := outer) (s := s) (H := H) (E := E)
  exact 
  sss_cons (ss_ret (se_and (se_cmp (dop_eq hr.units) (se_ix (se_var (i := 0)) (se_int)) (se_str)) (se_and (se_isi (T := "tuple") (se_ix (se_var (i := 0)) (se_int)) T.b_isinstance T.b_tuple (by decide +kernel)) (se_one (se_cmp (dop_eq hr.units) (se_ix (se_var (i := 0)) (se_int)) (se_var (i := 1))))))) (sss_nil)
abbrev n__law_views_right : List Str := ["deal", "row", "other", "letters", "hand", "rows", "views", "mixed", "at", "holder", "held", "short", "told"]
theorem sc__law_views_right : FnScope n__law_views_right ["deal", "row", "other", "letters"] (defScope s__law_views_right) := ⟨rfl, rfl, rfl, by decide +kernel, rfl, by decide +kernel, by decide +kernel⟩
theorem c__law_views_right (T : Txt P K mg) : Cal P w K mg base 7 "_law_views_right" 4 m__law_views_right := by
  obtain ⟨f, fd, F, g⟩ := T.f__law_views_right
  refine ⟨f, fd, ["deal", "row", "other", "letters"], fn_td F sc__law_views_right fun cdv A outer s H E fm hr => ?_, g, F.kp, F.bindsN fun _ _ _ _ _ _ us hl => match us, hl with | [_, _, _, _], _ => rfl⟩
  have hN : n__law_views_right.Nodup := sc__law_views_right.nd
  have tk := tk_of (P := P) (w := w) (K := K) (mg := mg) (base := base) (N := n__law_views_right) (qual := "_law_views_right") (scope := defScope s__law_views_right) (f := f) (cd := cdv) (A := A) (outer := outer) (s := s) (H := H) (E := E)
  have po := po_of (P := P) (w := w) (K := K) (mg := mg) (base := base) (N := n__law_views_right) (qual := "_law_views_right") (scope := defScope s__law_views_right) (f := f) (cd := cdv) (A := A) (outer := outer) (s := s) (H := H) (E := E)
  exact 
  sss_cons (ss_for po rfl (si_seq (se_tup (sa_cons (se_int) (sa_cons (se_int) (sa_cons (se_int) (sa_cons (se_int) (sa_cons (se_int) (sa_nil)))))))) (sg_name (i := 4) hN) (
    sss_cons (ss_if (st_not (st_tru (se_call (c__law_is_told T) tk (hr.mono (by decide)) (sa_cons (se_call (c__law_asked T) tk (hr.mono (by decide)) (sa_cons (se_int) (sa_cons (se_var (i := 0)) (sa_cons (se_var (i := 1)) (sa_cons (se_var (i := 4)) (sa_nil)))))) (sa_cons (se_call (c__law_view T) tk (hr.mono (by decide)) (sa_cons (se_var (i := 0)) (sa_cons (se_var (i := 1)) (sa_cons (se_var (i := 4)) (sa_nil))))) (sa_nil)))))) (
      sss_cons (ss_ret (se_bl)) (sss_nil)) (sss_nil)) (
    sss_cons (ss_if (st_not (st_tru (se_call (c__law_is_told T) tk (hr.mono (by decide)) (sa_cons (se_call (c__law_asked T) tk (hr.mono (by decide)) (sa_cons (se_int) (sa_cons (se_var (i := 0)) (sa_cons (se_var (i := 2)) (sa_cons (se_var (i := 4)) (sa_nil)))))) (sa_cons (se_call (c__law_view T) tk (hr.mono (by decide)) (sa_cons (se_var (i := 0)) (sa_cons (se_var (i := 2)) (sa_cons (se_var (i := 4)) (sa_nil))))) (sa_nil)))))) (
      sss_cons (ss_ret (se_bl)) (sss_nil)) (sss_nil)) (sss_nil)))) (
  sss_cons (ss_setF (i := 5) hN (sf_lst (sa_cons (se_var (i := 1)) (sa_cons (se_var (i := 2)) (sa_nil))))) (
  sss_cons (ss_setLcF (i := 6) (own := [("hand", 4)]) rfl hN (si_rng1 (sa_cons (se_call (c__law_hands T) tk (hr.mono (by decide)) (sa_cons (se_var (i := 0)) (sa_nil))) (sa_nil)) T.b_range) (blkOk_by (by kernel_rfl)) (fun _ _ _ _ _ => sg_name (i := 4) hN) (by decide) (fun _ _ _ _ _ => sts_nil) (fun _ _ _ _ _ => se_call (c__law_view T) takes0 (hr.mono (by decide)) (sa_cons (se_var (i := 0)) (sa_cons (se_ix (se_var (i := 5)) (se_bin dop_mod (se_callTy dc_int T.b_int (by decide +kernel) (sa_cons (se_var (i := 4)) (sa_nil))) (se_int))) (sa_cons (se_var (i := 4)) (sa_nil)))))) (
  sss_cons (ss_set (i := 7) hN (se_sc (se_callTy dc_tuple T.b_tuple (by decide +kernel) (sa_cons (se_frz (sf_lc (own := [("at", 8), ("holder", 9)]) rfl hN (si_enumA (se_var (i := 0)) T.b_enumerate) (blkOk_by (by kernel_rfl)) (fun _ _ _ _ _ => sg_tup (n := 2) rfl (sgs_cons (sg_name (i := 8) hN) (sgs_cons (sg_name (i := 9) hN) (sgs_nil)))) (by decide) (fun _ _ _ _ _ => sts_nil) (fun _ _ _ _ _ => se_ix (se_ix (se_var (i := 5)) (se_bin dop_mod (se_callTy dc_int T.b_int (by decide +kernel) (sa_cons (se_var (i := 9)) (sa_nil))) (se_int))) (se_var (i := 8))))) (sa_nil))))) (
  sss_cons (ss_if (st_sc (st_not (st_tru (se_call (c__law_is_told T) tk (hr.mono (by decide)) (sa_cons (se_call (c__law_asked T) tk (hr.mono (by decide)) (sa_cons (se_int) (sa_cons (se_var (i := 0)) (sa_cons (se_callTy dc_tuple T.b_tuple (by decide +kernel) (sa_cons (se_var (i := 6)) (sa_nil))) (sa_cons (se_int) (sa_nil)))))) (sa_cons (se_var (i := 7)) (sa_nil))))))) (
    sss_cons (ss_ret (se_bl)) (sss_nil)) (sss_nil)) (
  sss_cons (ss_for po rfl (si_seq (se_var (i := 5))) (sg_name (i := 10) hN) (
    sss_cons (ss_setLcF (i := 6) (own := [("hand", 4)]) rfl hN (si_rng1 (sa_cons (se_call (c__law_hands T) tk (hr.mono (by decide)) (sa_cons (se_var (i := 0)) (sa_nil))) (sa_nil)) T.b_range) (blkOk_by (by kernel_rfl)) (fun _ _ _ _ _ => sg_name (i := 4) hN) (by decide) (fun _ _ _ _ _ => sts_nil) (fun _ _ _ _ _ => se_call (c_view_of T) takes0 (hr.mono (by decide)) (sa_cons (se_var (i := 0)) (sa_cons (se_var (i := 10)) (sa_cons (se_var (i := 4)) (sa_nil)))))) (
    sss_cons (ss_if (st_sc (st_not (st_tru (se_call (c__law_is_told T) tk (hr.mono (by decide)) (sa_cons (se_call (c__law_asked T) tk (hr.mono (by decide)) (sa_cons (se_int) (sa_cons (se_var (i := 0)) (sa_cons (se_callTy dc_tuple T.b_tuple (by decide +kernel) (sa_cons (se_var (i := 6)) (sa_nil))) (sa_cons (se_int) (sa_nil)))))) (sa_cons (se_var (i := 10)) (sa_nil))))))) (
      sss_cons (ss_ret (se_bl)) (sss_nil)) (sss_nil)) (
    sss_cons (ss_set (i := 11) hN (se_call (c__law_shortened T) tk (hr.mono (by decide)) (sa_cons (se_var (i := 0)) (sa_cons (se_var (i := 10)) (sa_nil))))) (
    sss_cons (ss_set (i := 12) hN (se_call (c__law_asked T) tk (hr.mono (by decide)) (sa_cons (se_int) (sa_cons (se_var (i := 0)) (sa_cons (se_var (i := 10)) (sa_cons (se_int) (sa_nil))))))) (
    sss_cons (ss_if (SW.st (sw_or (st_not (st_tru (se_call (c__law_is_told T) tk (hr.mono (by decide)) (sa_cons (se_var (i := 12)) (sa_cons (se_var (i := 11)) (sa_nil)))))) (sw_or1 (st_cmp dop_isNot (se_call (c_is_row T) tk (hr.mono (by decide)) (sa_cons (se_ix (se_var (i := 12)) (se_int)) (sa_cons (se_var (i := 3)) (sa_nil)))) (se_bl))))) (
      sss_cons (ss_ret (se_bl)) (sss_nil)) (sss_nil)) (
    sss_cons (ss_if (st_not (st_tru (se_call (c__law_is_told T) tk (hr.mono (by decide)) (sa_cons (se_call (c__law_asked T) tk (hr.mono (by decide)) (sa_cons (se_int) (sa_cons (se_call (c__law_short T) tk (hr.mono (by decide)) (sa_cons (se_var (i := 0)) (sa_nil))) (sa_cons (se_ix (se_var (i := 12)) (se_int)) (sa_cons (se_int) (sa_nil)))))) (sa_cons (se_var (i := 11)) (sa_nil)))))) (
      sss_cons (ss_ret (se_bl)) (sss_nil)) (sss_nil)) (
    sss_cons (ss_if (st_cmp (dop_ne hr.units) (se_join (se_str) (se_ix (se_var (i := 12)) (se_int))) (se_join (se_str) (se_var (i := 10)))) (
      sss_cons (ss_ret (se_bl)) (sss_nil)) (sss_nil)) (sss_nil))))))))) (
  sss_cons (ss_ret (se_bl)) (sss_nil)))))))
abbrev n__law_is_row_right : List Str := ["source", "row", "letters", "at", "good", "cut", "small", "sign", "strange", "many", "place", "near", "value", "wrong", "odd"]
theorem sc__law_is_row_right : FnScope n__law_is_row_right ["source", "row", "letters"] (defScope s__law_is_row_right) := ⟨rfl, rfl, rfl, by decide +kernel, rfl, by decide +kernel, by decide +kernel⟩
theorem c__law_is_row_right (T : Txt P K mg) : Cal P w K mg base 3 "_law_is_row_right" 3 m__law_is_row_right := by
  obtain ⟨f, fd, F, g⟩ := T.f__law_is_row_right
  refine ⟨f, fd, ["source", "row", "letters"], fn_td F sc__law_is_row_right fun cdv A outer s H E fm hr => ?_, g, F.kp, F.bindsN fun _ _ _ _ _ _ us hl => match us, hl with | [_, _, _], _ => rfl⟩
  have hN : n__law_is_row_right.Nodup := sc__law_is_row_right.nd
  have tk := tk_of (P := P) (w := w) (K := K) (mg := mg) (base := base) (N := n__law_is_row_right) (qual := "_law_is_row_right") (scope := defScope s__law_is_row_right) (f := f) (cd := cdv) (A := A) (outer := outer) (s := s) (H := H) (E := E)
  have po := po_of (P := P) (w := w) (K := K) (mg := mg) (base := base) (N := n__law_is_row_right) (qual := "_law_is_row_right") (scope := defScope s__law_is_row_right) (f := f) (cd := cdv) (A := A) (outer := outer) (s := s) (H := H) (E := E)
  exact 
  sss_cons (ss_set (i := 3) hN (se_call (c__law_pick T) tk (hr.mono (by decide)) (sa_cons (se_var (i := 0)) (sa_cons (se_bin dop_add (se_callB dc_len T.b_len (by decide +kernel) (sa_cons (se_var (i := 1)) (sa_nil))) (se_int)) (sa_nil))))) (
  sss_cons (ss_set (i := 4) hN (se_call (c__law_text T) tk (hr.mono (by decide)) (sa_cons (se_var (i := 0)) (sa_cons (se_var (i := 2)) (sa_cons (se_int) (sa_nil)))))) (
  sss_cons (ss_set (i := 5) hN (se_call (c__law_pick T) tk (hr.mono (by decide)) (sa_cons (se_var (i := 0)) (sa_cons (se_bin dop_add (se_callB dc_len T.b_len (by decide +kernel) (sa_cons (se_var (i := 4)) (sa_nil))) (se_int)) (sa_nil))))) (
  sss_cons (ss_set (i := 6) hN (se_ix (se_frz (sf_lc (own := [("sign", 7)]) rfl hN (si_seq (se_str)) (blkOk_by (by kernel_rfl)) (fun _ _ _ _ _ => sg_name (i := 7) hN) (by decide) (fun _ _ _ _ _ => sts_one (st_cmp dop_notInX (se_var (i := 7)) (se_var (i := 2)))) (fun _ _ _ _ _ => se_var (i := 7)))) (se_int))) (
  sss_cons (ss_set (i := 7) hN (se_ix (se_frz (sf_lst (sa_cons (se_var (i := 6)) (sa_cons (se_str) (sa_cons (se_str) (sa_cons (se_str) (sa_cons (se_str) (sa_cons (se_upper (se_ix (se_var (i := 2)) (se_int))) (sa_nil))))))))) (se_call (c__law_pick T) tk (hr.mono (by decide)) (sa_cons (se_var (i := 0)) (sa_cons (se_int) (sa_nil)))))) (
  sss_cons (ss_set (i := 8) hN (se_bin dop_add (se_bin dop_add (se_slX (se_var (i := 4)) (so_none) (so_some (se_var (i := 5)))) (se_var (i := 7))) (se_slX (se_var (i := 4)) (so_some (se_var (i := 5))) (so_none)))) (
  sss_cons (ss_set (i := 9) hN (se_callTy dc_tuple T.b_tuple (by decide +kernel) (sa_cons (se_frz (sf_lc (own := [("place", 10)]) rfl hN (si_rng1 (sa_cons (se_int) (sa_nil)) T.b_range) (blkOk_by (by kernel_rfl)) (fun _ _ _ _ _ => sg_name (i := 10) hN) (by decide) (fun _ _ _ _ _ => sts_nil) (fun _ _ _ _ _ => se_if (st_cmp dop_gt (se_callB dc_len T.b_len (by decide +kernel) (sa_cons (se_var (i := 1)) (sa_nil))) (se_int)) (se_ix (se_var (i := 1)) (se_bin dop_mod (se_callTy dc_int T.b_int (by decide +kernel) (sa_cons (se_var (i := 10)) (sa_nil))) (se_callB dc_len T.b_len (by decide +kernel) (sa_cons (se_var (i := 1)) (sa_nil))))) (se_var (i := 4))))) (sa_nil)))) (
  sss_cons (ss_setF (i := 11) hN (sf_lst (sa_cons (se_var (i := 1)) (sa_cons (se_tup (sa_nil)) (sa_cons (se_slX (se_bin dop_add (se_bin dop_add (se_slX (se_var (i := 1)) (so_none) (so_some (se_var (i := 3)))) (se_tup (sa_cons (se_var (i := 4)) (sa_nil)))) (se_slX (se_var (i := 1)) (so_some (se_bin dop_add (se_var (i := 3)) (se_int))) (so_none))) (so_none) (so_some (se_int))) (sa_cons (se_slX (se_var (i := 9)) (so_none) (so_some (se_int))) (sa_cons (se_tup (sa_cons (se_str) (sa_nil))) (sa_nil)))))))) (
  sss_cons (ss_for po rfl (si_seq (se_var (i := 11))) (sg_name (i := 12) hN) (
    sss_cons (ss_if (st_cmp dop_isNot (se_call (c_is_row T) tk (hr.mono (by decide)) (sa_cons (se_var (i := 12)) (sa_cons (se_var (i := 2)) (sa_nil)))) (se_bl)) (
      sss_cons (ss_ret (se_bl)) (sss_nil)) (sss_nil)) (sss_nil))) (
  sss_cons (ss_setF (i := 13) hN (sf_lst (sa_cons (se_var (i := 9)) (sa_cons (se_var (i := 4)) (sa_cons (se_var (i := 2)) (sa_cons (se_non) (sa_cons (se_callB dc_len T.b_len (by decide +kernel) (sa_cons (se_var (i := 1)) (sa_nil))) (sa_nil)))))))) (
  sss_cons (ss_for po rfl (si_seq (se_tup (sa_cons (se_var (i := 8)) (sa_cons (se_non) (sa_cons (se_callB dc_len T.b_len (by decide +kernel) (sa_cons (se_var (i := 1)) (sa_nil))) (sa_cons (se_tup (sa_cons (se_var (i := 4)) (sa_nil))) (sa_cons (se_var (i := 6)) (sa_nil)))))))) (sg_name (i := 14) hN) (
    sss_cons (ss_append (i := 13) (se_bin dop_add (se_bin dop_add (se_slX (se_var (i := 1)) (so_none) (so_some (se_var (i := 3)))) (se_tup (sa_cons (se_var (i := 14)) (sa_nil)))) (se_slX (se_var (i := 1)) (so_some (se_bin dop_add (se_var (i := 3)) (se_int))) (so_none)))) (sss_nil))) (
  sss_cons (ss_for po rfl (si_seq (se_var (i := 13))) (sg_name (i := 12) hN) (
    sss_cons (ss_if (st_cmp dop_isNot (se_call (c_is_row T) tk (hr.mono (by decide)) (sa_cons (se_var (i := 12)) (sa_cons (se_var (i := 2)) (sa_nil)))) (se_bl)) (
      sss_cons (ss_ret (se_bl)) (sss_nil)) (sss_nil)) (sss_nil))) (
  sss_cons (ss_ret (se_cmp dop_is (se_call (c_is_row T) tk (hr.mono (by decide)) (sa_cons (se_var (i := 1)) (sa_cons (se_var (i := 2)) (sa_nil)))) (se_bl))) (sss_nil)))))))))))))
abbrev n__law_lengths_right : List Str := ["deal", "row", "views", "others", "more", "held", "which", "hand", "spoilt", "many"]
theorem sc__law_lengths_right : FnScope n__law_lengths_right ["deal", "row", "views"] (defScope s__law_lengths_right) := ⟨rfl, rfl, rfl, by decide +kernel, rfl, by decide +kernel, by decide +kernel⟩
theorem c__law_lengths_right (T : Txt P K mg) : Cal P w K mg base 7 "_law_lengths_right" 3 m__law_lengths_right := by
  obtain ⟨f, fd, F, g⟩ := T.f__law_lengths_right
  refine ⟨f, fd, ["deal", "row", "views"], fn_td F sc__law_lengths_right fun cdv A outer s H E fm hr => ?_, g, F.kp, F.bindsN fun _ _ _ _ _ _ us hl => match us, hl with | [_, _, _], _ => rfl⟩
  have hN : n__law_lengths_right.Nodup := sc__law_lengths_right.nd
  have tk := tk_of (P := P) (w := w) (K := K) (mg := mg) (base := base) (N := n__law_lengths_right) (qual := "_law_lengths_right") (scope := defScope s__law_lengths_right) (f := f) (cd := cdv) (A := A) (outer := outer) (s := s) (H := H) (E := E)
  have po := po_of (P := P) (w := w) (K := K) (mg := mg) (base := base) (N := n__law_lengths_right) (qual := "_law_lengths_right") (scope := defScope s__law_lengths_right) (f := f) (cd := cdv) (A := A) (outer := outer) (s := s) (H := H) (E := E)
  exact 
  sss_cons (ss_setF (i := 3) hN (sf_lst (sa_nil))) (
  sss_cons (ss_if (st_cmp dop_lt (se_callB dc_len T.b_len (by decide +kernel) (sa_cons (se_var (i := 1)) (sa_nil))) (se_int)) (
    sss_cons (ss_append (i := 3) (se_tup (sa_cons (se_str) (sa_nil)))) (sss_nil)) (sss_nil)) (
  sss_cons (ss_if (st_cmp dop_gt (se_callB dc_len T.b_len (by decide +kernel) (sa_cons (se_var (i := 1)) (sa_nil))) (se_int)) (
    sss_cons (ss_append (i := 3) (se_tup (sa_nil))) (sss_nil)) (sss_nil)) (
  sss_cons (ss_for po rfl (si_seq (se_var (i := 3))) (sg_name (i := 4) hN) (
    sss_cons (ss_set (i := 5) hN (se_if (st_cmp dop_gt (se_callB dc_len T.b_len (by decide +kernel) (sa_cons (se_var (i := 4)) (sa_nil))) (se_int)) (se_bin dop_add (se_var (i := 1)) (se_var (i := 4))) (se_slX (se_var (i := 1)) (so_some (se_int)) (so_none)))) (
    sss_cons (ss_for po rfl (si_rng1 (sa_cons (se_int) (sa_nil)) T.b_range) (sg_name (i := 6) hN) (
      sss_cons (ss_if (st_cmp (dop_ne hr.units) (se_call (c__law_asked T) tk (hr.mono (by decide)) (sa_cons (se_var (i := 6)) (sa_cons (se_var (i := 0)) (sa_cons (se_var (i := 5)) (sa_cons (se_int) (sa_nil)))))) (se_tup (sa_cons (se_str) (sa_cons (se_str) (sa_nil))))) (
        sss_cons (ss_ret (se_bl)) (sss_nil)) (sss_nil)) (sss_nil))) (
    sss_cons (ss_for po rfl (si_rng1 (sa_cons (se_callB dc_len T.b_len (by decide +kernel) (sa_cons (se_var (i := 2)) (sa_nil))) (sa_nil)) T.b_range) (sg_name (i := 7) hN) (
      sss_cons (ss_setF (i := 8) hN (sf_listOf (se_var (i := 2)) T.b_list)) (
      sss_cons (ss_setIx (i := 8) (se_if (st_cmp dop_gt (se_callB dc_len T.b_len (by decide +kernel) (sa_cons (se_var (i := 4)) (sa_nil))) (se_int)) (se_bin dop_add (se_ix (se_var (i := 2)) (se_var (i := 7))) (se_tup (sa_cons (se_non) (sa_nil)))) (se_slX (se_ix (se_var (i := 2)) (se_var (i := 7))) (so_some (se_int)) (so_none))) (se_var (i := 7))) (
      sss_cons (ss_if (st_sc (st_cmp (dop_ne hr.units) (se_call (c__law_asked T) tk (hr.mono (by decide)) (sa_cons (se_int) (sa_cons (se_var (i := 0)) (sa_cons (se_callTy dc_tuple T.b_tuple (by decide +kernel) (sa_cons (se_var (i := 8)) (sa_nil))) (sa_cons (se_int) (sa_nil)))))) (se_tup (sa_cons (se_str) (sa_cons (se_str) (sa_nil)))))) (
        sss_cons (ss_ret (se_bl)) (sss_nil)) (sss_nil)) (sss_nil))))) (sss_nil))))) (
  sss_cons (ss_for po rfl (si_rng1 (sa_cons (se_callB dc_len T.b_len (by decide +kernel) (sa_cons (se_var (i := 2)) (sa_nil))) (sa_nil)) T.b_range) (sg_name (i := 9) hN) (
    sss_cons (ss_if (st_cmp (dop_ne hr.units) (se_call (c__law_asked T) tk (hr.mono (by decide)) (sa_cons (se_int) (sa_cons (se_var (i := 0)) (sa_cons (se_slX (se_var (i := 2)) (so_none) (so_some (se_var (i := 9)))) (sa_cons (se_int) (sa_nil)))))) (se_tup (sa_cons (se_str) (sa_cons (se_str) (sa_nil))))) (
      sss_cons (ss_ret (se_bl)) (sss_nil)) (sss_nil)) (sss_nil))) (
  sss_cons (ss_ret (se_call (c__law_is_told T) tk (hr.mono (by decide)) (sa_cons (se_call (c__law_asked T) tk (hr.mono (by decide)) (sa_cons (se_int) (sa_cons (se_var (i := 0)) (sa_cons (se_var (i := 2)) (sa_cons (se_int) (sa_nil)))))) (sa_cons (se_var (i := 1)) (sa_nil))))) (sss_nil))))))
abbrev n__law_refusals_right : List Str := ["source", "deal", "row", "at", "odd", "turn", "many", "place", "views", "hand", "wrong", "value", "held", "which"]
theorem sc__law_refusals_right : FnScope n__law_refusals_right ["source", "deal", "row"] (defScope s__law_refusals_right) := ⟨rfl, rfl, rfl, by decide +kernel, rfl, by decide +kernel, by decide +kernel⟩
theorem c__law_refusals_right (T : Txt P K mg) : Cal P w K mg base 8 "_law_refusals_right" 3 m__law_refusals_right := by
  obtain ⟨f, fd, F, g⟩ := T.f__law_refusals_right
  refine ⟨f, fd, ["source", "deal", "row"], fn_td F sc__law_refusals_right fun cdv A outer s H E fm hr => ?_, g, F.kp, F.bindsN fun _ _ _ _ _ _ us hl => match us, hl with | [_, _, _], _ => rfl⟩
  have hN : n__law_refusals_right.Nodup := sc__law_refusals_right.nd
  have tk := tk_of (P := P) (w := w) (K := K) (mg := mg) (base := base) (N := n__law_refusals_right) (qual := "_law_refusals_right") (scope := defScope s__law_refusals_right) (f := f) (cd := cdv) (A := A) (outer := outer) (s := s) (H := H) (E := E)
  have po := po_of (P := P) (w := w) (K := K) (mg := mg) (base := base) (N := n__law_refusals_right) (qual := "_law_refusals_right") (scope := defScope s__law_refusals_right) (f := f) (cd := cdv) (A := A) (outer := outer) (s := s) (H := H) (E := E)
  exact 
  sss_cons (ss_set (i := 3) hN (se_call (c__law_pick T) tk (hr.mono (by decide)) (sa_cons (se_var (i := 0)) (sa_cons (se_bin dop_add (se_callB dc_len T.b_len (by decide +kernel) (sa_cons (se_var (i := 1)) (sa_nil))) (se_int)) (sa_nil))))) (
  sss_cons (ss_setF (i := 4) hN (sf_lst (sa_cons (se_int) (sa_cons (se_bin dop_sub (se_int) (se_int)) (sa_cons (se_int) (sa_cons (se_non) (sa_cons (se_str) (sa_cons (se_tup (sa_cons (se_int) (sa_nil))) (sa_nil))))))))) (
  sss_cons (ss_set (i := 5) hN (se_call (c__law_pick T) tk (hr.mono (by decide)) (sa_cons (se_var (i := 0)) (sa_cons (se_int) (sa_nil))))) (
  sss_cons (ss_set (i := 6) hN (se_callTy dc_tuple T.b_tuple (by decide +kernel) (sa_cons (se_frz (sf_lc (own := [("place", 7)]) rfl hN (si_rng1 (sa_cons (se_int) (sa_nil)) T.b_range) (blkOk_by (by kernel_rfl)) (fun _ _ _ _ _ => sg_name (i := 7) hN) (by decide) (fun _ _ _ _ _ => sts_nil) (fun _ _ _ _ _ => se_if (st_cmp dop_gt (se_callB dc_len T.b_len (by decide +kernel) (sa_cons (se_var (i := 1)) (sa_nil))) (se_int)) (se_ix (se_var (i := 1)) (se_bin dop_mod (se_callTy dc_int T.b_int (by decide +kernel) (sa_cons (se_var (i := 7)) (sa_nil))) (se_callB dc_len T.b_len (by decide +kernel) (sa_cons (se_var (i := 1)) (sa_nil))))) (se_int)))) (sa_nil)))) (
  sss_cons (ss_set (i := 8) hN (se_callTy dc_tuple T.b_tuple (by decide +kernel) (sa_cons (se_frz (sf_lc (own := [("hand", 9)]) rfl hN (si_rng1 (sa_cons (se_call (c__law_hands T) tk (hr.mono (by decide)) (sa_cons (se_var (i := 1)) (sa_nil))) (sa_nil)) T.b_range) (blkOk_by (by kernel_rfl)) (fun _ _ _ _ _ => sg_name (i := 9) hN) (by decide) (fun _ _ _ _ _ => sts_nil) (fun _ _ _ _ _ => se_call (c__law_view T) takes0 (hr.mono (by decide)) (sa_cons (se_var (i := 1)) (sa_cons (se_var (i := 2)) (sa_cons (se_var (i := 9)) (sa_nil))))))) (sa_nil)))) (
  sss_cons (ss_setF (i := 10) hN (sf_lst (sa_cons (se_bin dop_add (se_bin dop_add (se_slX (se_var (i := 1)) (so_none) (so_some (se_var (i := 3)))) (se_tup (sa_cons (se_ixO (i := 4) (se_var (i := 5))) (sa_nil)))) (se_slX (se_var (i := 1)) (so_some (se_bin dop_add (se_var (i := 3)) (se_int))) (so_none))) (sa_cons (se_var (i := 6)) (sa_cons (se_bin dop_add (se_bin dop_add (se_slX (se_var (i := 1)) (so_none) (so_some (se_var (i := 3)))) (se_tup (sa_cons (se_ixO (i := 4) (se_bin dop_sub (se_var (i := 5)) (se_int))) (sa_nil)))) (se_slX (se_var (i := 1)) (so_some (se_bin dop_add (se_var (i := 3)) (se_int))) (so_none))) (sa_cons (se_non) (sa_cons (se_str) (sa_nil)))))))) (
  sss_cons (ss_for po rfl (si_seq (se_var (i := 10))) (sg_name (i := 11) hN) (
    sss_cons (ss_for po rfl (si_seq (se_tup (sa_cons (se_var (i := 2)) (sa_cons (se_slX (se_var (i := 2)) (so_some (se_int)) (so_none)) (sa_nil))))) (sg_name (i := 12) hN) (
      sss_cons (ss_for po rfl (si_rng1 (sa_cons (se_int) (sa_nil)) T.b_range) (sg_name (i := 13) hN) (
        sss_cons (ss_if (st_cmp (dop_ne hr.units) (se_call (c__law_asked T) tk (hr.mono (by decide)) (sa_cons (se_var (i := 13)) (sa_cons (se_var (i := 11)) (sa_cons (se_var (i := 12)) (sa_cons (se_int) (sa_nil)))))) (se_tup (sa_cons (se_str) (sa_cons (se_str) (sa_nil))))) (
          sss_cons (ss_ret (se_bl)) (sss_nil)) (sss_nil)) (sss_nil))) (sss_nil))) (
    sss_cons (ss_for po rfl (si_seq (se_tup (sa_cons (se_var (i := 8)) (sa_cons (se_slX (se_var (i := 8)) (so_some (se_int)) (so_none)) (sa_nil))))) (sg_name (i := 12) hN) (
      sss_cons (ss_if (st_cmp (dop_ne hr.units) (se_call (c__law_asked T) tk (hr.mono (by decide)) (sa_cons (se_int) (sa_cons (se_var (i := 11)) (sa_cons (se_var (i := 12)) (sa_cons (se_int) (sa_nil)))))) (se_tup (sa_cons (se_str) (sa_cons (se_str) (sa_nil))))) (
        sss_cons (ss_ret (se_bl)) (sss_nil)) (sss_nil)) (sss_nil))) (sss_nil)))) (
  sss_cons (ss_ret (se_call (c__law_lengths_right T) tk (hr.mono (by decide)) (sa_cons (se_var (i := 1)) (sa_cons (se_var (i := 2)) (sa_cons (se_var (i := 8)) (sa_nil)))))) (sss_nil))))))))
abbrev n_law : List Str := ["script", "source", "worlds", "turn", "letters", "deal", "row", "other"]
theorem sc_law : FnScope n_law ["script"] (defScope s_law) := ⟨rfl, rfl, rfl, by decide +kernel, rfl, by decide +kernel, by decide +kernel⟩
theorem w_law (T : Txt P K mg) {f : Addr} {cdv : Value} {A : Around} {outer : List PySem.Env} {s : Shared} {H : Hp} {E : XK} {fm : Fm} (hr : Room 8 (A.deeper (envOfC "law" (defScope s_law) s.heap.objs.size f cdv))) :
    SSs (cxOf (L2.CX P w) P w K mg base n_law "law" (defScope s_law) f cdv A outer s H E) (fun c d _ H => E c d H) fm ((defBody s_law).drop 1) e_law := by
  have hN : n_law.Nodup := sc_law.nd
  have tk := tk_of (P := P) (w := w) (K := K) (mg := mg) (base := base) (N := n_law) (qual := "law") (scope := defScope s_law) (f := f) (cd := cdv) (A := A) (outer := outer) (s := s) (H := H) (E := E)
  have po := po_of (P := P) (w := w) (K := K) (mg := mg) (base := base) (N := n_law) (qual := "law") (scope := defScope s_law) (f := f) (cd := cdv) (A := A) (outer := outer) (s := s) (H := H) (E := E)
  exact 
  sss_cons (ss_setF (i := 2) hN (sf_lst (sa_nil))) (
  sss_cons (ss_for po rfl (si_rng1 (sa_cons (se_int) (sa_nil)) T.b_range) (sg_name (i := 3) hN) (
    sss_cons (ss_set (i := 4) hN (se_call (c__law_any_letters T) tk (hr.mono (by decide)) (sa_cons (se_var (i := 1)) (sa_nil)))) (
    sss_cons (ss_set (i := 5) hN (se_call (c__law_wide_deal T) tk (hr.mono (by decide)) (sa_cons (se_var (i := 1)) (sa_nil)))) (
    sss_cons (ss_set (i := 6) hN (se_call (c__law_row T) tk (hr.mono (by decide)) (sa_cons (se_var (i := 1)) (sa_cons (se_var (i := 4)) (sa_cons (se_callB dc_len T.b_len (by decide +kernel) (sa_cons (se_var (i := 5)) (sa_nil))) (sa_cons (se_int) (sa_nil))))))) (
    sss_cons (ss_set (i := 7) hN (se_call (c__law_row T) tk (hr.mono (by decide)) (sa_cons (se_var (i := 1)) (sa_cons (se_var (i := 4)) (sa_cons (se_callB dc_len T.b_len (by decide +kernel) (sa_cons (se_var (i := 5)) (sa_nil))) (sa_cons (se_int) (sa_nil))))))) (
    sss_cons (ss_append (i := 2) (se_tup (sa_cons (se_var (i := 5)) (sa_cons (se_var (i := 6)) (sa_cons (se_var (i := 7)) (sa_cons (se_var (i := 4)) (sa_nil))))))) (sss_nil))))))) (
  sss_cons (ss_for po rfl (si_seq (se_frz (sf_cat (se_var (i := 2)) (se_frz (sf_slL (se_var (i := 2)) (so_none) (so_some (se_int))))))) (sg_tup (n := 4) rfl (sgs_cons (sg_name (i := 5) hN) (sgs_cons (sg_name (i := 6) hN) (sgs_cons (sg_name (i := 7) hN) (sgs_cons (sg_name (i := 4) hN) (sgs_nil)))))) (
    sss_cons (ss_if (st_not (st_tru (se_call (c__law_views_right T) tk (hr.mono (by decide)) (sa_cons (se_var (i := 5)) (sa_cons (se_var (i := 6)) (sa_cons (se_var (i := 7)) (sa_cons (se_var (i := 4)) (sa_nil)))))))) (
      sss_cons (ss_ret (se_bl)) (sss_nil)) (sss_nil)) (sss_nil))) (
  sss_cons (ss_for po rfl (si_seq (se_var (i := 2))) (sg_tup (n := 4) rfl (sgs_cons (sg_name (i := 5) hN) (sgs_cons (sg_name (i := 6) hN) (sgs_cons (sg_name (i := 7) hN) (sgs_cons (sg_name (i := 4) hN) (sgs_nil)))))) (
    sss_cons (ss_if (st_not (st_tru (se_call (c__law_is_row_right T) tk (hr.mono (by decide)) (sa_cons (se_var (i := 1)) (sa_cons (se_var (i := 6)) (sa_cons (se_var (i := 4)) (sa_nil))))))) (
      sss_cons (ss_ret (se_bl)) (sss_nil)) (sss_nil)) (
    sss_cons (ss_if (st_not (st_tru (se_call (c__law_refusals_right T) tk (hr.mono (by decide)) (sa_cons (se_var (i := 1)) (sa_cons (se_var (i := 5)) (sa_cons (se_var (i := 7)) (sa_nil))))))) (
      sss_cons (ss_ret (se_bl)) (sss_nil)) (sss_nil)) (sss_nil)))) (
  sss_cons (ss_asg (sg_tup (n := 4) rfl (sgs_cons (sg_name (i := 5) hN) (sgs_cons (sg_name (i := 6) hN) (sgs_cons (sg_name (i := 7) hN) (sgs_cons (sg_name (i := 4) hN) (sgs_nil)))))) (se_sc (se_ixO (i := 2) (se_int)))) (
  sss_cons (ss_ret (se_call (c__law_views_right T) tk (hr.mono (by decide)) (sa_cons (se_var (i := 5)) (sa_cons (se_var (i := 7)) (sa_cons (se_var (i := 6)) (sa_cons (se_var (i := 4)) (sa_nil))))))) (sss_nil))))))
end
end K32

set_option Elab.async false
set_option linter.all false
set_option maxRecDepth 100000
set_option maxHeartbeats 4000000
namespace K32
open PySem PySem.Spec PyProof.Rows L2 TD TP
open K31 (isDeal NoS bad Dl dI nos_dI hnd blks go encB B3 shrt)
theorem pick_eq : m__law_pick = pickM := rfl
theorem is_deal_eq (d : D) (h : NoS d) (ss : SS) : m_is_deal [d] ss = .ok (.bl (isDeal d)) ss := K31.is_deal_eq d h ss
theorem must_yes (d : D) (h : NoS d) (hd : isDeal d = true) (ss : SS) : m_must_be_deal [d] ss = .ok .non ss := K31.must_yes d h hd ss
theorem must_no (d : D) (h : NoS d) (hd : isDeal d = false) (ss : SS) : m_must_be_deal [d] ss = .exc bad ss := K31.must_no d h hd ss
theorem hands_eq {l : List Int} (h : Dl l) (ss : SS) : m_hands_of [dI l] ss = .ok (.int (hnd l)) ss := K31.hands_eq h ss
theorem law_hands_eq (l : List Int) (ss : SS) : m__law_hands [dI l] ss = .ok (.int (hnd l)) ss := K31.law_hands_eq l ss
theorem blocks_eq {l : List Int} (h : Dl l) (ss : SS) : m_blocks_of [dI l] ss = .ok (.tup ((blks l).map encB)) ss := K31.blocks_eq h ss
/-! ### rows of texts -/
abbrev tS (t : List Nat) : D := .str (S t)
abbrev rowD (ts : List (List Nat)) : D := .tup (ts.map tS)
def isTx (L : List Nat) (d : D) : Bool := match d with
  | .str s => s.cps.toList.all fun c => decide (c ∈ L)
  | _ => false
def isRow (L : List Nat) (d : D) : Bool := match d with
  | .tup ds => decide (ds.length ≤ 240) && ds.all (isTx L)
  | _ => false
def TxOk (d : D) : Prop := match d with
  | .src => False
  | .str s => s.length ≤ 1000
  | _ => True
theorem str_S (s : Str) : ∃ a, s = S a := ⟨s.cps.toList, rfl⟩
theorem row_body (R : D) (L : List Nat) (hL : L.length ≤ 1000) (d : D) (hd : TxOk d) (x : Option TD.Slot) (ss : SS) (k : W → RS) :
    oS (g_is_row_0 d ⟨[some (.val R), some (.val (tS L)), x, none], ss⟩) (fun w => (b_is_row_0 w).loop k) = if isTx L d = true then k ⟨[some (.val R), some (.val (tS L)), some (.val d), none], ss⟩ else .ret (.bl false) ⟨[some (.val R), some (.val (tS L)), some (.val d), none], ss⟩ := by
  cases d with
  | src => exact hd.elim
  | str s =>
    obtain ⟨a, rfl⟩ := str_S s
    have ha : a.length ≤ 1000 := by have : (S a).length ≤ 1000 := hd; rwa [S_len] at this
    have q := lc_pure (vs := [3]) (set := gsName 3) (mt := mB (mBin gNotInX (mVar 3) (mVar 1))) (me := mVar 3) (fun e => match e with | .str z => if subS z (S L) = true then none else some e | _ => none) ⟨[some (.val R), some (.val (tS L)), some (.val (tS a)), none], ss⟩ (TD.signs (S a)) [] (fun e he => by
      rw [signs_S] at he
      obtain ⟨c, _, rfl⟩ := List.mem_map.mp he
      simp [lcStep]
      cases subS (S [c]) (S L) <;> simp) (by rw [signs_S]; simp; omega)
    rw [signs_S, List.nil_append, List.filterMap_map] at q
    have e : (isTx L (tS a) = true) ↔ (a.filterMap ((fun e => match e with | D.str z => if subS z (S L) = true then none else some e | _ => none) ∘ fun c => D.str (S [c]))) = [] := by
      rw [List.filterMap_eq_nil_iff]
      simp [isTx, subS_one]
    generalize (a.filterMap ((fun e => match e with | D.str z => if subS z (S L) = true then none else some e | _ => none) ∘ fun c => D.str (S [c]))) = F at *
    cases F with
    | nil =>
      have e : isTx L (tS a) = true := e.mpr rfl
      simp [g_is_row_0, b_is_row_0, signs_S, q, e]
    | cons f F =>
      have e : isTx L (tS a) = false := by
        rw [← Bool.not_eq_true]
        intro h
        exact nomatch e.mp h
      have h0 : (0 : Int) < F.length + 1 := by omega
      simp [g_is_row_0, b_is_row_0, signs_S, q, e, h0]
  | _ => simp [g_is_row_0, b_is_row_0, isTx]
theorem row_go (R : D) (L : List Nat) (hL : L.length ≤ 1000) (ss : SS) : ∀ (ds : List D) (x : Option TD.Slot), (∀ d ∈ ds, TxOk d) →
    if ds.all (isTx L) = true then ∃ y, sForGo g_is_row_0 b_is_row_0 ds ⟨[some (.val R), some (.val (tS L)), x, none], ss⟩ = .nx ⟨[some (.val R), some (.val (tS L)), y, none], ss⟩
    else ∃ y, sForGo g_is_row_0 b_is_row_0 ds ⟨[some (.val R), some (.val (tS L)), x, none], ss⟩ = .ret (.bl false) ⟨[some (.val R), some (.val (tS L)), y, none], ss⟩
  | [], x, _ => by simp
  | d :: ds, x, h => by
    rw [sForGo_cons, row_body R L hL d (h d (List.mem_cons_self ..))]
    cases e : isTx L d with
    | false => simp [e]
    | true =>
      have ih := row_go R L hL ss ds (some (.val d)) fun z hz => h z (List.mem_cons_of_mem _ hz)
      simpa [e] using ih
def RwOk (d : D) : Prop := match d with
  | .src => False
  | .tup ds => ∀ e ∈ ds, TxOk e
  | _ => True
theorem is_row_run (ds : List D) (L : D) (b : Bool) (y : Option TD.Slot) (ss : SS) (hl : ds.length ≤ 240)
    (e : if b = true then sForGo g_is_row_0 b_is_row_0 ds ⟨[some (.val (.tup ds)), some (.val L), none, none], ss⟩ = .nx ⟨[some (.val (.tup ds)), some (.val L), y, none], ss⟩
    else sForGo g_is_row_0 b_is_row_0 ds ⟨[some (.val (.tup ds)), some (.val L), none, none], ss⟩ = .ret (.bl false) ⟨[some (.val (.tup ds)), some (.val L), y, none], ss⟩) : m_is_row [.tup ds, L] ss = .ok (.bl b) ss := by
  have hl' : ¬ (240 : Int) < ds.length := by omega
  cases b with
  | true =>
    have e : sForGo g_is_row_0 b_is_row_0 ds ⟨[some (.val (.tup ds)), some (.val L), none, none], ss⟩ = .nx ⟨[some (.val (.tup ds)), some (.val L), y, none], ss⟩ := e
    simp [m_is_row, e_is_row, hl', e]
  | false =>
    have e : sForGo g_is_row_0 b_is_row_0 ds ⟨[some (.val (.tup ds)), some (.val L), none, none], ss⟩ = .ret (.bl false) ⟨[some (.val (.tup ds)), some (.val L), y, none], ss⟩ := e
    simp [m_is_row, e_is_row, hl', e]
theorem is_row_eq (d : D) (h : RwOk d) (L : List Nat) (hL : L.length ≤ 1000) (ss : SS) : m_is_row [d, tS L] ss = .ok (.bl (isRow L d)) ss := by
  cases d with
  | src => exact h.elim
  | tup ds =>
    by_cases hl : ds.length ≤ 240
    · have q := row_go (.tup ds) L hL ss ds none h
      have e : isRow L (.tup ds) = ds.all (isTx L) := by simp [isRow, hl]
      rw [e]
      cases c : ds.all (isTx L) with
      | true =>
        rw [c, if_pos rfl] at q
        obtain ⟨y, q⟩ := q
        exact is_row_run ds _ true y ss hl q
      | false =>
        rw [c, if_neg (by simp)] at q
        obtain ⟨y, q⟩ := q
        exact is_row_run ds _ false y ss hl q
    · have hl' : (240 : Int) < ds.length := by omega
      simp [m_is_row, e_is_row, hl', isRow, hl]
  | _ => simp [m_is_row, e_is_row, isRow]
end K32

set_option Elab.async false
set_option linter.all false
set_option maxRecDepth 100000
set_option maxHeartbeats 4000000
namespace K32
open PySem PySem.Spec PyProof.Rows L2 TD TP
open K31 (isDeal NoS bad Dl dI nos_dI hnd blks go encB B3 shrt)
def unl (x : Str) : Exn := ⟨"Unlike", "what", .str x⟩
/-! ### views -/
def vw (h : Int) (l : List Int) (rs : List D) : List D := List.zipWith (fun x r => if x = h then r else .non) l rs
theorem vw_len (h : Int) (l : List Int) (rs : List D) (e : rs.length = l.length) : (vw h l rs).length = l.length := by simp [vw, e]
theorem view_run (T R : D) (L : Int) (h : Int) (l rs V : List D) (ss : SS) (m : m_must_be_deal [T] ss = .ok .non ss) (h1 : gLen [T] = some (.int L)) (h2 : gLen [R] = some (.int L)) (eT : T = .tup l) (eR : R = .tup rs)
    (q : lcGo [3, 4] (gsTup 2 (gsCons (gsName 3) (gsCons (gsName 4) (gsNil)))) mYes (mIfE (mB (mBin gEq (mVar 3) (mVar 2))) (mVar 4) (mC .non)) (zipD l rs) [] ⟨[some (.val T), some (.val R), some (.val (.int h)), none, none], ss⟩ = .ok V ⟨[some (.val T), some (.val R), some (.val (.int h)), none, none], ss⟩) :
    m_view_of [T, R, .int h] ss = .ok (.tup V) ss := by
  subst eT eR
  simp [m_view_of, e_view_of, m, h1, h2, q]
theorem view_step (T R : D) (h x : Int) (r : D) (ss : SS) : lcStep [3, 4] (gsTup 2 (gsCons (gsName 3) (gsCons (gsName 4) (gsNil)))) mYes (mIfE (mB (mBin gEq (mVar 3) (mVar 2))) (mVar 4) (mC .non)) (.tup [.int x, r]) ⟨[some (.val T), some (.val R), some (.val (.int h)), none, none], ss⟩ =
    .ok (some (if x = h then r else .non)) ⟨[some (.val T), some (.val R), some (.val (.int h)), none, none], ss⟩ := by
  by_cases e : x = h <;> simp [lcStep, e]
theorem zip_fm (f : Int → D → D) (g : D → Option D) (hg : ∀ x r, g (.tup [.int x, r]) = some (f x r)) : ∀ (l : List Int) (rs : List D), (zipD (l.map D.int) rs).filterMap g = List.zipWith f l rs
  | [], rs => by simp [zipD]
  | x :: l, [] => by simp [zipD]
  | x :: l, r :: rs => by
    have ih := zip_fm f g hg l rs
    unfold zipD at ih ⊢
    rw [List.map_cons, List.zipWith_cons_cons, List.filterMap_cons_some (hg x r), ih]
    rfl
theorem mem_zip {l : List Int} {rs : List D} {d : D} (h : d ∈ zipD (l.map D.int) rs) : ∃ x r, d = .tup [.int x, r] := by
  induction l generalizing rs with
  | nil => simp [zipD] at h
  | cons x l ih =>
    cases rs with
    | nil => simp [zipD] at h
    | cons r rs =>
      unfold zipD at ih h
      rw [List.map_cons, List.zipWith_cons_cons] at h
      rcases List.mem_cons.mp h with rfl | h
      · exact ⟨x, r, rfl⟩
      · exact ih h
theorem view_eq {l : List Int} (hl : Dl l) (rs : List D) (e : rs.length = l.length) (h : Int) (ss : SS) : m_view_of [dI l, .tup rs, .int h] ss = .ok (.tup (vw h l rs)) ss := by
  have h1 := hl.len
  have q := lc_pure (vs := [3, 4]) (set := gsTup 2 (gsCons (gsName 3) (gsCons (gsName 4) (gsNil)))) (mt := mYes) (me := mIfE (mB (mBin gEq (mVar 3) (mVar 2))) (mVar 4) (mC .non)) (fun d => match d with | .tup [.int x, r] => some (if x = h then r else .non) | _ => none) ⟨[some (.val (dI l)), some (.val (.tup rs)), some (.val (.int h)), none, none], ss⟩ (zipD (l.map D.int) rs) [] (fun d hd => by
    obtain ⟨x, r, rfl⟩ := mem_zip hd
    exact view_step _ _ h x r ss) (by simp [zipD]; omega)
  rw [zip_fm (fun x r => if x = h then r else .non) _ (fun x r => rfl)] at q
  exact view_run (dI l) (.tup rs) l.length h (l.map D.int) rs _ ss (must_yes _ (nos_dI l) hl.deal ss) (by simp) (by simp [e]) rfl rfl q
theorem view_no {d : D} (h : NoS d) (hd : isDeal d = false) (r h' : D) (ss : SS) : m_view_of [d, r, h'] ss = .exc bad ss := by
  simp [m_view_of, e_view_of, must_no d h hd]
theorem view_unl_run (T R : D) (L L' : Int) (hne : L' ≠ L) (h1 : gLen [T] = some (.int L)) (h2 : gLen [R] = some (.int L')) (h' : D) (ss : SS) (m : m_must_be_deal [T] ss = .ok .non ss) : m_view_of [T, R, h'] ss = .exc (unl "row") ss := by
  simp [m_view_of, e_view_of, m, h1, h2, hne, unl]
theorem view_unl {l : List Int} (hl : Dl l) (rs : List D) (e : rs.length ≠ l.length) (h' : D) (ss : SS) : m_view_of [dI l, .tup rs, h'] ss = .exc (unl "row") ss :=
  view_unl_run (dI l) (.tup rs) l.length rs.length (by omega) (by simp) (by simp) h' ss (must_yes _ (nos_dI l) hl.deal ss)
/-! ### put together -/
theorem pt_body (T V : D) (L L' : Int) (h1 : gLen [T] = some (.int L)) (d : D) (h2 : gLen [d] = some (.int L')) (x : Option TD.Slot) (ss : SS) (k : W → RS) :
    oS (g_put_together_0 d ⟨[some (.val T), some (.val V), x, none, none], ss⟩) (fun w => (b_put_together_0 w).loop k) = if L' = L then k ⟨[some (.val T), some (.val V), some (.val d), none, none], ss⟩ else .exc (unl "views") ⟨[some (.val T), some (.val V), some (.val d), none, none], ss⟩ := by
  by_cases e : L' = L
  · subst e; simp [g_put_together_0, b_put_together_0, h1, h2]
  · simp [g_put_together_0, b_put_together_0, h1, h2, e, unl]
theorem pt_go (T V : D) (L : Int) (h1 : gLen [T] = some (.int L)) (ss : SS) : ∀ (vs : List D) (x : Option TD.Slot), (∀ v ∈ vs, gLen [v] = some (.int L)) →
    ∃ y, sForGo g_put_together_0 b_put_together_0 vs ⟨[some (.val T), some (.val V), x, none, none], ss⟩ = .nx ⟨[some (.val T), some (.val V), y, none, none], ss⟩
  | [], x, _ => ⟨x, rfl⟩
  | v :: vs, x, h => by
    rw [sForGo_cons, pt_body T V L L h1 v (h v (List.mem_cons_self ..)), if_pos rfl]
    exact pt_go T V L h1 ss vs _ fun z hz => h z (List.mem_cons_of_mem _ hz)
theorem pt_go_no (T V : D) (L L' : Int) (h1 : gLen [T] = some (.int L)) (ss : SS) (v : D) (hv : gLen [v] = some (.int L')) (hne : L' ≠ L) (post : List D) : ∀ (vs : List D) (x : Option TD.Slot), (∀ v ∈ vs, gLen [v] = some (.int L)) →
    ∃ y, sForGo g_put_together_0 b_put_together_0 (vs ++ v :: post) ⟨[some (.val T), some (.val V), x, none, none], ss⟩ = .exc (unl "views") ⟨[some (.val T), some (.val V), y, none, none], ss⟩
  | [], x, _ => by
    rw [List.nil_append, sForGo_cons, pt_body T V L L' h1 v hv, if_neg hne]
    exact ⟨_, rfl⟩
  | u :: vs, x, h => by
    rw [List.cons_append, sForGo_cons, pt_body T V L L h1 u (h u (List.mem_cons_self ..)), if_pos rfl]
    exact pt_go_no T V L L' h1 ss v hv hne post vs _ fun z hz => h z (List.mem_cons_of_mem _ hz)
theorem pt_few_run (T V : D) (n H : Int) (hlt : n < H) (h2 : gLen [V] = some (.int n)) (ss : SS) (m : m_must_be_deal [T] ss = .ok .non ss) (m2 : m_hands_of [T] ss = .ok (.int H) ss) : m_put_together [T, V] ss = .exc (unl "views") ss := by
  simp [m_put_together, e_put_together, m, m2, h2, hlt, unl]
theorem pt_no {d : D} (h : NoS d) (hd : isDeal d = false) (v : D) (ss : SS) : m_put_together [d, v] ss = .exc bad ss := by
  simp [m_put_together, e_put_together, must_no d h hd]
theorem pt_len_run (T : D) (vs : List D) (n H : Int) (hlt : ¬ n < H) (h2 : gLen [.tup vs] = some (.int n)) (ss : SS) (y : Option TD.Slot) (m : m_must_be_deal [T] ss = .ok .non ss) (m2 : m_hands_of [T] ss = .ok (.int H) ss)
    (q : sForGo g_put_together_0 b_put_together_0 vs ⟨[some (.val T), some (.val (.tup vs)), none, none, none], ss⟩ = .exc (unl "views") ⟨[some (.val T), some (.val (.tup vs)), y, none, none], ss⟩) : m_put_together [T, .tup vs] ss = .exc (unl "views") ss := by
  simp only [gLen_tup] at h2
  simp [m_put_together, e_put_together, m, m2, h2, hlt, q]
theorem pt_run (ls : List D) (vs R : List D) (n H : Int) (hlt : ¬ n < H) (h2 : gLen [.tup vs] = some (.int n)) (ss : SS) (y : Option TD.Slot) (m : m_must_be_deal [.tup ls] ss = .ok .non ss) (m2 : m_hands_of [.tup ls] ss = .ok (.int H) ss)
    (q : sForGo g_put_together_0 b_put_together_0 vs ⟨[some (.val (.tup ls)), some (.val (.tup vs)), none, none, none], ss⟩ = .nx ⟨[some (.val (.tup ls)), some (.val (.tup vs)), y, none, none], ss⟩)
    (q2 : lcGo [3, 4] (gsTup 2 (gsCons (gsName 3) (gsCons (gsName 4) (gsNil)))) (mYes) (mBin gIx (mBin gIx (mVar 1) (mVar 4)) (mVar 3)) (enumD 0 ls) [] ⟨[some (.val (.tup ls)), some (.val (.tup vs)), y, none, none], ss⟩ = .ok R ⟨[some (.val (.tup ls)), some (.val (.tup vs)), y, none, none], ss⟩) : m_put_together [.tup ls, .tup vs] ss = .ok (.tup R) ss := by
  simp only [gLen_tup] at h2
  simp [m_put_together, e_put_together, m, m2, h2, hlt, q, q2]
/-- the row that is put together of the rows of the hands -/
def mix (R : Int → List D) : Nat → List Int → List D
  | _, [] => []
  | i, x :: l => (R x).getD i .non :: mix R (i + 1) l
theorem enum_fm (R : Int → List D) (g : D → Option D) : ∀ (l : List Int) (i : Nat), (∀ (j : Nat) x, l[j]? = some x → g (.tup [.int ((i + j : Nat) : Int), .int x]) = some ((R x).getD (i + j) .non)) → (enumD i (l.map D.int)).filterMap g = mix R i l
  | [], i, _ => rfl
  | x :: l, i, h => by
    have h0 := h 0 x rfl
    rw [List.map_cons, enumD, List.filterMap_cons_some (by simpa using h0), mix, enum_fm R g l (i + 1) fun j y hj => by
      have := h (j + 1) y (by simpa using hj)
      rw [show i + (j + 1) = i + 1 + j by omega] at this
      exact this]
    simp
theorem mem_enum {l : List Int} {i : Nat} {d : D} (h : d ∈ enumD i (l.map D.int)) : ∃ (j : Nat) (x : Int), l[j]? = some x ∧ d = .tup [.int ((i + j : Nat) : Int), .int x] := by
  induction l generalizing i with
  | nil => simp [enumD] at h
  | cons x l ih =>
    rw [List.map_cons, enumD] at h
    rcases List.mem_cons.mp h with rfl | h
    · exact ⟨0, x, rfl, by simp⟩
    · obtain ⟨j, y, h1, h2⟩ := ih h
      exact ⟨j + 1, y, by simpa using h1, by rw [h2, show i + 1 + j = i + (j + 1) by omega]⟩
/-- the views of hand 0, 1, .. of the rows R -/
def vws (R : Int → List D) (H : Nat) (l : List Int) : List D := (List.range H).map fun (h : Nat) => .tup (vw h l (R h))
theorem vws_get (R : Int → List D) (H : Nat) (l : List Int) (x : Int) (h0 : 0 ≤ x) (h1 : x < H) : atI (vws R H l) x = some (.tup (vw x l (R x))) := by
  obtain ⟨n, rfl⟩ := Int.eq_ofNat_of_zero_le h0
  refine atI_nat ?_
  have : n < H := by omega
  simp [vws, this]
theorem vw_at (R : List D) (l : List Int) (hR : R.length = l.length) (j : Nat) (x : Int) (h : l[j]? = some x) : atI (vw x l R) (j : Int) = some (R.getD j .non) := by
  refine atI_nat ?_
  have hj : j < l.length := (List.getElem?_eq_some_iff.mp h).1
  have hj2 : j < R.length := by omega
  unfold vw
  rw [List.getElem?_zipWith, h, List.getElem?_eq_getElem hj2]
  simp [List.getD, hj2]
theorem pt_step (T V W1 : D) (i x : Int) (r : D) (y : Option TD.Slot) (ss : SS) (e1 : gIx V (.int x) = some W1) (e2 : gIx W1 (.int i) = some r) : lcStep [3, 4] (gsTup 2 (gsCons (gsName 3) (gsCons (gsName 4) (gsNil)))) (mYes) (mBin gIx (mBin gIx (mVar 1) (mVar 4)) (mVar 3)) (.tup [.int i, .int x]) ⟨[some (.val T), some (.val V), y, none, none], ss⟩ =
    .ok (some r) ⟨[some (.val T), some (.val V), y, none, none], ss⟩ := by
  simp [lcStep, e1, e2]
theorem pt_eq {l : List Int} (hl : Dl l) (R : Int → List D) (hR : ∀ h, (R h).length = l.length) (H : Nat) (hH : hnd l ≤ H) (hH2 : H ≤ 1000) (hx : ∀ x ∈ l, x < H) (ss : SS) : m_put_together [dI l, .tup (vws R H l)] ss = .ok (.tup (mix R 0 l)) ss := by
  have h1 := hl.len
  have hlen : (vws R H l).length = H := by simp [vws]
  obtain ⟨y, q⟩ := pt_go (dI l) (.tup (vws R H l)) l.length (by simp) ss (vws R H l) none fun v hv => by
    unfold vws at hv
    obtain ⟨h, _, rfl⟩ := List.mem_map.mp hv
    simp [vw_len _ _ _ (hR h)]
  have q2 := lc_pure (vs := [3, 4]) (set := gsTup 2 (gsCons (gsName 3) (gsCons (gsName 4) (gsNil)))) (mt := mYes) (me := mBin gIx (mBin gIx (mVar 1) (mVar 4)) (mVar 3)) (fun d => match d with | .tup [.int i, .int x] => some ((R x).getD i.toNat .non) | _ => none) ⟨[some (.val (dI l)), some (.val (.tup (vws R H l))), y, none, none], ss⟩ (enumD 0 (l.map D.int)) [] (fun d hd => by
    obtain ⟨j, x, hj, rfl⟩ := mem_enum hd
    have hm := List.mem_of_getElem? hj
    have e1 : gIx (.tup (vws R H l)) (.int x) = some (.tup (vw x l (R x))) := vws_get R H l x (hl.rng x hm).1 (hx x hm)
    have e2 : gIx (.tup (vw x l (R x))) (.int ((0 + j : Nat) : Int)) = some ((R x).getD (0 + j) .non) := by rw [Nat.zero_add]; exact vw_at (R x) l (hR x) j x hj
    exact pt_step _ _ _ _ x _ y ss e1 e2) (by rw [enumD_len]; simp; omega)
  rw [enum_fm R _ l 0 (fun j x hj => by simp)] at q2
  exact pt_run (l.map D.int) (vws R H l) _ H (hnd l) (by omega) (by simp [hlen]) ss y (must_yes _ (nos_dI l) hl.deal ss) (hands_eq hl ss) q q2
theorem mix_const (r : List D) : ∀ (l : List Int) (i : Nat), i + l.length = r.length → mix (fun _ => r) i l = r.drop i
  | [], i, h => by simp [mix]; simp at h; omega
  | x :: l, i, h => by
    have hi : i < r.length := by simp at h; omega
    rw [mix, mix_const r l (i + 1) (by simp at h; omega), List.drop_eq_getElem_cons hi]
    simp [List.getD, hi]
theorem hnd_lt {l : List Int} (x : Int) (hx : x ∈ l) : x < hnd l := by
  have := (K31.hnd_spec l 0).2.1 x hx
  show x < l.foldl _ 0
  omega
theorem hnd_nn (l : List Int) : 0 ≤ hnd l := (K31.hnd_spec l 0).1
theorem hnd_le {l : List Int} (hl : Dl l) : hnd l ≤ 4 := by
  rcases (K31.hnd_spec l 0).2.2 with e | ⟨y, hy, e⟩
  · show l.foldl _ 0 ≤ 4
    rw [e]; decide
  · have := (hl.rng y hy).2
    show l.foldl _ 0 ≤ 4
    omega
end K32

set_option Elab.async false
set_option linter.all false
set_option maxRecDepth 100000
set_option maxHeartbeats 4000000
namespace K32
open PySem PySem.Spec PyProof.Rows L2 TD TP
open K31 (isDeal NoS bad Dl dI nos_dI hnd blks go encB B3 shrt nb)
/-! ### shortened -/
def shG (h : Int) (acc : List Nat) : List Int → List (List Nat) → List (List Nat)
  | x :: xs, t :: ts => if x = h then shG h (acc ++ t) xs ts else acc :: shG x t xs ts
  | _, _ => [acc]
def shT : List Int → List (List Nat) → List (List Nat)
  | x :: xs, t :: ts => shG x t xs ts
  | _, _ => []
def seg (ts : List (List Nat)) (lo hi : Int) : List Nat := ((ts.drop lo.toNat).take (hi.toNat - lo.toNat)).flatten
theorem take_one_more {α : Type} : ∀ (l pre : List α) (t : α) (ts : List α) (lo : Nat), l = pre ++ t :: ts → lo ≤ pre.length → (l.drop lo).take (pre.length + 1 - lo) = (l.drop lo).take (pre.length - lo) ++ [t] := by
  intro l pre t ts lo e h
  subst e
  rw [List.drop_append_of_le_length h, List.take_append, List.take_append]
  simp [show pre.length + 1 - lo - (pre.length - lo) = 1 by omega]
  omega
theorem sh_eq (ts : List (List Nat)) : ∀ (xs : List Int) (post pre : List (List Nat)) (h : Int) (low : Nat), ts = pre ++ post → xs.length = post.length → low ≤ pre.length →
    (go h low pre.length xs).map (fun b => seg ts b.2.1 b.2.2) = shG h (seg ts low pre.length) xs post
  | [], post, pre, h, low, e, hl, hlow => by
    cases post with
    | nil => simp [go, shG]
    | cons _ _ => simp at hl
  | x :: xs, [], pre, h, low, e, hl, hlow => by simp at hl
  | x :: xs, t :: post, pre, h, low, e, hl, hlow => by
    have hl : xs.length = post.length := by simpa using hl
    have hn : ((pre.length : Int) + 1) = ((pre ++ [t]).length : Int) := by simp
    by_cases hx : x = h
    · have ih := sh_eq ts xs post (pre ++ [t]) h low (by simp [e]) hl (by simp; omega)
      have e2 : go h low pre.length (x :: xs) = go h low (pre.length + 1) xs := by simp [go, hx]
      rw [e2, hn, ih, shG, if_pos hx]
      congr 1
      unfold seg
      simp only [Int.toNat_natCast]
      rw [show (pre ++ [t]).length = pre.length + 1 by simp, take_one_more ts pre t post low e hlow]
      simp
    · have ih := sh_eq ts xs post (pre ++ [t]) x pre.length (by simp [e]) hl (by simp)
      have e2 : go h low pre.length (x :: xs) = (h, (low : Int), (pre.length : Int)) :: go x pre.length (pre.length + 1) xs := by simp [go, hx]
      rw [e2, List.map_cons, hn, ih, shG, if_neg hx]
      congr 2
      unfold seg
      simp only [Int.toNat_natCast]
      have := take_one_more ts pre t post pre.length e (Nat.le_refl _)
      rw [show (pre ++ [t]).length = pre.length + 1 by simp, this]
      simp
theorem blks_sh (l : List Int) (ts : List (List Nat)) (h : l.length = ts.length) : (blks l).map (fun b => seg ts b.2.1 b.2.2) = shT l ts := by
  cases l with
  | nil => rfl
  | cons x xs =>
    cases ts with
    | nil => simp at h
    | cons t ts =>
      have := sh_eq (t :: ts) xs ts [t] x 0 rfl (by simpa using h) (by simp)
      show (go x 0 1 xs).map _ = shG x t xs ts
      refine Eq.trans this ?_
      congr 1
      simp [seg]
theorem shT_len (l : List Int) (ts : List (List Nat)) (h : l.length = ts.length) : (shT l ts).length = (shrt l).length := by
  rw [← blks_sh l ts h]
  simp [shrt]
theorem shG_flat : ∀ (xs : List Int) (ts : List (List Nat)) (h : Int) (acc : List Nat), xs.length = ts.length → (shG h acc xs ts).flatten = acc ++ ts.flatten
  | [], ts, h, acc, e => by
    cases ts with
    | nil => simp [shG]
    | cons _ _ => simp at e
  | x :: xs, [], h, acc, e => by simp at e
  | x :: xs, t :: ts, h, acc, e => by
    have e : xs.length = ts.length := by simpa using e
    rw [shG]
    split
    · rw [shG_flat xs ts h _ e]; simp
    · rw [List.flatten_cons, shG_flat xs ts x t e]; simp
theorem shT_flat (l : List Int) (ts : List (List Nat)) (h : l.length = ts.length) : (shT l ts).flatten = ts.flatten := by
  cases l with
  | nil =>
    cases ts with
    | nil => rfl
    | cons _ _ => simp at h
  | cons x xs =>
    cases ts with
    | nil => simp at h
    | cons t ts =>
      rw [shT, shG_flat xs ts x t (by simpa using h)]
      simp
theorem shG_nb : ∀ (xs : List Int) (ts : List (List Nat)) (h : Int) (acc : List Nat), xs.length = ts.length → nb h xs → shG h acc xs ts = acc :: ts
  | [], ts, h, acc, e, _ => by
    cases ts with
    | nil => simp [shG]
    | cons _ _ => simp at e
  | x :: xs, [], h, acc, e, _ => by simp at e
  | x :: xs, t :: ts, h, acc, e, hn => by
    have e : xs.length = ts.length := by simpa using e
    rw [shG, if_neg hn.1, shG_nb xs ts x t e hn.2]
theorem shT_nb (l : List Int) (ts : List (List Nat)) (h : l.length = ts.length) (p : Int) (hn : nb p l) : shT l ts = ts := by
  cases l with
  | nil =>
    cases ts with
    | nil => rfl
    | cons _ _ => simp at h
  | cons x xs =>
    cases ts with
    | nil => simp at h
    | cons t ts => exact shG_nb xs ts x t (by simpa using h) hn.2
theorem shrt_nbs {l : List Int} (h : Dl l) : ∃ p, nb p (shrt l) := by
  refine ⟨4, ?_⟩
  cases l with
  | nil => exact trivial
  | cons x xs =>
    have := (h.rng x (List.mem_cons_self ..)).2
    exact K31.nb_go xs x 0 1 4 (by omega)
theorem go_rng : ∀ (xs : List Int) (h low n : Int), 0 ≤ low → low ≤ n → ∀ b ∈ go h low n xs, 0 ≤ b.2.1 ∧ b.2.1 ≤ b.2.2 ∧ b.2.2 ≤ n + xs.length
  | [], h, low, n, h0, h1, b, hb => by
    have : b = (h, low, n) := by simpa [go] using hb
    subst this
    simp; omega
  | x :: xs, h, low, n, h0, h1, b, hb => by
    unfold go at hb
    split at hb
    · have := go_rng xs h low (n + 1) h0 (by omega) b hb
      simp; omega
    · rcases List.mem_cons.mp hb with rfl | hb
      · simp; omega
      · have := go_rng xs x n (n + 1) (by omega) (by omega) b hb
        simp; omega
theorem blks_rng (l : List Int) : ∀ b ∈ blks l, 0 ≤ b.2.1 ∧ b.2.1 ≤ b.2.2 ∧ b.2.2 ≤ l.length := by
  cases l with
  | nil => intro b hb; cases hb
  | cons x xs =>
    intro b hb
    have := go_rng xs x 0 1 (by decide) (by decide) b hb
    simp; omega
theorem cutD_rng (l : List D) (a b : Int) (h0 : 0 ≤ a) (h1 : 0 ≤ b) (h2 : a ≤ l.length) (h3 : b ≤ l.length) : TD.cutD l (some a) (some b) = (l.drop a.toNat).take (b.toNat - a.toNat) := by
  obtain ⟨m, rfl⟩ := Int.eq_ofNat_of_zero_le h0
  obtain ⟨n, rfl⟩ := Int.eq_ofNat_of_zero_le h1
  show ((l.drop (HT.sIx l.length 0 (some (m : Int)))).take (HT.sIx l.length l.length (some (n : Int)) - HT.sIx l.length 0 (some (m : Int)))) = _
  rw [HT.sIx_nat, HT.sIx_nat, Nat.min_eq_left (by omega), Nat.min_eq_left (by omega)]
  simp
theorem sum_part (ts : List (List Nat)) (m : Nat) (hm : ∀ t ∈ ts, t.length ≤ m) : (ts.map List.length).sum ≤ m * ts.length := by
  induction ts with
  | nil => simp
  | cons t ts ih =>
    have h1 := hm t (List.mem_cons_self ..)
    have h2 := ih fun z hz => hm z (List.mem_cons_of_mem _ hz)
    rw [List.map_cons, List.sum_cons, List.length_cons, Nat.mul_succ]
    omega
theorem sh_step (T R : D) (v lo hi : Int) (J : D) (Y : List D) (ss : SS) (e1 : R.slc (some lo) (some hi) = some (.tup Y)) (e2 : joinD ("" : Str) (.tup Y) = some J) : lcStep [2, 3, 4] (gsTup 3 (gsCons (gsName 2) (gsCons (gsName 3) (gsCons (gsName 4) (gsNil))))) (mYes) (mJoin (mC (.str "")) (mSlX (mVar 1) (mP (mVar 3)) (mP (mVar 4)))) (.tup [.int v, .int lo, .int hi]) ⟨[some (.val T), some (.val R), none, none, none], ss⟩ =
    .ok (some J) ⟨[some (.val T), some (.val R), none, none, none], ss⟩ := by
  simp [lcStep, e1, e2]
theorem sh_run (T R : D) (L : Int) (bs V : List D) (ss : SS) (m : m_must_be_deal [T] ss = .ok .non ss) (h1 : gLen [T] = some (.int L)) (h2 : gLen [R] = some (.int L)) (m2 : m_blocks_of [T] ss = .ok (.tup bs) ss)
    (q : lcGo [2, 3, 4] (gsTup 3 (gsCons (gsName 2) (gsCons (gsName 3) (gsCons (gsName 4) (gsNil))))) (mYes) (mJoin (mC (.str "")) (mSlX (mVar 1) (mP (mVar 3)) (mP (mVar 4)))) bs [] ⟨[some (.val T), some (.val R), none, none, none], ss⟩ = .ok V ⟨[some (.val T), some (.val R), none, none, none], ss⟩) :
    m_shortened [T, R] ss = .ok (.tup V) ss := by
  simp [m_shortened, e_shortened, m, h1, h2, m2, q]
theorem shortened_eq {l : List Int} (hl : Dl l) (ts : List (List Nat)) (e : l.length = ts.length) (hm : ∀ t ∈ ts, t.length ≤ 4000) (ss : SS) : m_shortened [dI l, rowD ts] ss = .ok (rowD (shT l ts)) ss := by
  have h1 := hl.len
  have q := lc_pure (vs := [2, 3, 4]) (set := gsTup 3 (gsCons (gsName 2) (gsCons (gsName 3) (gsCons (gsName 4) (gsNil))))) (mt := mYes) (me := mJoin (mC (.str "")) (mSlX (mVar 1) (mP (mVar 3)) (mP (mVar 4)))) (fun d => match d with | .tup [.int v, .int lo, .int hi] => some (tS (seg ts lo hi)) | _ => none) ⟨[some (.val (dI l)), some (.val (rowD ts)), none, none, none], ss⟩ ((blks l).map encB) [] (fun d hd => by
    obtain ⟨b, hb, rfl⟩ := List.mem_map.mp hd
    have hr := blks_rng l b hb
    have e1 : (rowD ts).slc (some b.2.1) (some b.2.2) = some (.tup (((ts.drop b.2.1.toNat).take (b.2.2.toNat - b.2.1.toNat)).map tS)) := by
      rw [slc_tup, cutD_rng _ _ _ hr.1 (by omega) (by simp; omega) (by simp; omega), ← List.map_drop, ← List.map_take]
    have e2 : joinD ("" : Str) (.tup (((ts.drop b.2.1.toNat).take (b.2.2.toNat - b.2.1.toNat)).map tS)) = some (tS (seg ts b.2.1 b.2.2)) := by
      rw [S_nil]
      refine joinD_tup _ ?_
      have := sum_part ((ts.drop b.2.1.toNat).take (b.2.2.toNat - b.2.1.toNat)) 4000 fun t ht => hm t (List.mem_of_mem_drop (List.mem_of_mem_take ht))
      have h3 : ((ts.drop b.2.1.toNat).take (b.2.2.toNat - b.2.1.toNat)).length ≤ ts.length := by simp; omega
      have := Nat.mul_le_mul_left 4000 h3
      omega
    exact sh_step _ _ _ _ _ _ _ ss e1 e2) (by have := K31.blks_len l; simp; omega)
  have e2 : ((blks l).map encB).filterMap (fun d => match d with | D.tup [.int v, .int lo, .int hi] => some (tS (seg ts lo hi)) | _ => none) = (shT l ts).map tS := by
    rw [← blks_sh l ts e, List.map_map, List.filterMap_map]
    rw [← List.filterMap_eq_map]
    rfl
  rw [e2] at q
  exact sh_run (dI l) (rowD ts) l.length _ _ ss (must_yes _ (nos_dI l) hl.deal ss) (by simp) (by simp [e]) (blocks_eq hl ss) q
theorem shortened_no {d : D} (h : NoS d) (hd : isDeal d = false) (r : D) (ss : SS) : m_shortened [d, r] ss = .exc bad ss := by
  simp [m_shortened, e_shortened, must_no d h hd]
theorem shortened_unl_run (T R : D) (L L' : Int) (hne : L' ≠ L) (h1 : gLen [T] = some (.int L)) (h2 : gLen [R] = some (.int L')) (ss : SS) (m : m_must_be_deal [T] ss = .ok .non ss) : m_shortened [T, R] ss = .exc (unl "row") ss := by
  simp [m_shortened, e_shortened, m, h1, h2, hne, unl]
theorem shortened_unl {l : List Int} (hl : Dl l) (rs : List D) (e : rs.length ≠ l.length) (ss : SS) : m_shortened [dI l, .tup rs] ss = .exc (unl "row") ss :=
  shortened_unl_run (dI l) (.tup rs) l.length rs.length (by omega) (by simp) (by simp) ss (must_yes _ (nos_dI l) hl.deal ss)
end K32

set_option Elab.async false
set_option linter.all false
set_option maxRecDepth 100000
set_option maxHeartbeats 4000000
namespace K32
open PySem PySem.Spec PyProof.Rows L2 TD TP
open K31 (isDeal NoS bad Dl dI nos_dI hnd blks go encB B3 shrt nb)
/-! ### the law's view -/
theorem lv_body (T R : D) (h i x : Int) (r : D) (acc : List D) (hacc : acc.length < 1000000) (y : Option TD.Slot) (e1 : gIx T (.int i) = some (.int x)) (e2 : gIx R (.int i) = some r) (ss : SS) (k : W → RS) :
    oS (g__law_view_0 (.int i) ⟨[some (.val T), some (.val R), some (.val (.int h)), some (.own acc), y], ss⟩) (fun w => (b__law_view_0 w).loop k) = k ⟨[some (.val T), some (.val R), some (.val (.int h)), some (.own (acc ++ [if x = h then r else .non])), some (.val (.int i))], ss⟩ := by
  by_cases e : x = h <;> simp [g__law_view_0, b__law_view_0, e1, e2, e, hacc]
theorem lv_go (l : List Int) (rs : List D) (h : Int) (ss : SS) (hl : l.length ≤ 1000) : ∀ (xs : List Int) (ps : List D) (pre : List Int) (pr : List D) (acc : List D) (n : Int) (y : Option TD.Slot), l = pre ++ xs → rs = pr ++ ps → pr.length = pre.length → xs.length = ps.length → n = pre.length → acc.length = pre.length →
    ∃ z, sForGo g__law_view_0 b__law_view_0 (rngD n l.length) ⟨[some (.val (dI l)), some (.val (.tup rs)), some (.val (.int h)), some (.own acc), y], ss⟩ = .nx ⟨[some (.val (dI l)), some (.val (.tup rs)), some (.val (.int h)), some (.own (acc ++ vw h xs ps)), z], ss⟩
  | [], ps, pre, pr, acc, n, y, e1, e2, e3, e4, e5, e6 => by
    have hn : n = l.length := by rw [e1, e5]; simp
    rw [hn, rngD_nil (Int.le_refl _)]
    refine ⟨y, ?_⟩
    simp [vw]
  | x :: xs, [], pre, pr, acc, n, y, e1, e2, e3, e4, e5, e6 => by simp at e4
  | x :: xs, r :: ps, pre, pr, acc, n, y, e1, e2, e3, e4, e5, e6 => by
    have hlt : n < l.length := by rw [e1, e5]; simp; omega
    have a1 : gIx (dI l) (.int n) = some (.int x) := by
      show atI (l.map D.int) n = _
      rw [atI_map, e1, atI_pre pre x xs n e5]; rfl
    have a2 : gIx (.tup rs) (.int n) = some r := by
      show atI rs n = _
      rw [e2]; exact atI_pre pr r ps n (by omega)
    have hll : pre.length ≤ l.length := by rw [e1]; simp
    obtain ⟨y', ih⟩ := lv_go l rs h ss hl xs ps (pre ++ [x]) (pr ++ [r]) (acc ++ [if x = h then r else .non]) (n + 1) (some (.val (.int n))) (by simp [e1]) (by simp [e2]) (by simp [e3]) (by simpa using e4) (by simp [e5]) (by simp [e6])
    refine ⟨y', ?_⟩
    rw [rngD_cons hlt, sForGo_cons, lv_body (dI l) (.tup rs) h n x r acc (by omega) y a1 a2 ss, ih]
    simp [vw]
theorem lv_run (T R : D) (h L : Int) (V : List D) (y : Option TD.Slot) (ss : SS) (h1 : gLen [T] = some (.int L)) (hs : small L = true)
    (q : sForGo g__law_view_0 b__law_view_0 (rngD 0 L) ⟨[some (.val T), some (.val R), some (.val (.int h)), some (.own []), none], ss⟩ = .nx ⟨[some (.val T), some (.val R), some (.val (.int h)), some (.own V), y], ss⟩) : m__law_view [T, R, .int h] ss = .ok (.tup V) ss := by
  simp [m__law_view, e__law_view, h1, hs, q]
theorem law_view_eq {l : List Int} (hl : Dl l) (rs : List D) (e : rs.length = l.length) (h : Int) (ss : SS) : m__law_view [dI l, .tup rs, .int h] ss = .ok (.tup (vw h l rs)) ss := by
  have h1 := hl.len
  obtain ⟨y, q⟩ := lv_go l rs h ss (by omega) l rs [] [] [] 0 none rfl rfl rfl e.symm rfl rfl
  exact lv_run (dI l) (.tup rs) h l.length _ y ss (by simp) (small_len (by omega)) q
/-! ### the law's short row -/
theorem ls_new (T R : D) (i : Int) (r : D) (acc : List D) (hacc : acc.length < 1000000) (y : Option TD.Slot) (e2 : gIx R (.int i) = some r) (ss : SS)
    (hc : (i = 0) ∨ (0 < i ∧ ∃ x p : Int, gIx T (.int i) = some (.int x) ∧ gIx T (.int (i - 1)) = some (.int p) ∧ x ≠ p)) (k : W → RS) :
    oS (g__law_shortened_0 (.int i) ⟨[some (.val T), some (.val R), some (.own acc), y], ss⟩) (fun w => (b__law_shortened_0 w).loop k) = k ⟨[some (.val T), some (.val R), some (.own (acc ++ [r])), some (.val (.int i))], ss⟩ := by
  rcases hc with rfl | ⟨h0, x, p, e1, e3, hne⟩
  · simp [g__law_shortened_0, b__law_shortened_0, e2, hacc]
  · simp [g__law_shortened_0, b__law_shortened_0, e2, hacc, h0, e1, e3, hne]
theorem ixN_end (n : Nat) : ixN (n + 1) (n : Int) = some n := by
  unfold ixN
  rw [if_pos (by omega), if_pos (by omega)]
  rfl
theorem atI_end {α : Type} (acc : List α) (a : α) : atI (acc ++ [a]) (acc.length : Int) = some a := atI_pre acc a [] _ rfl
theorem set_end {α : Type} (acc : List α) (a d : α) : (acc ++ [a]).set acc.length d = acc ++ [d] := by simp
theorem ls_more (T R : D) (i x : Int) (a r : D) (J : Str) (acc : List D) (y : Option TD.Slot) (e2 : gIx R (.int i) = some r) (ss : SS) (h0 : 0 < i) (e1 : gIx T (.int i) = some (.int x)) (e3 : gIx T (.int (i - 1)) = some (.int x)) (eJ : gAdd a r = some (.str J)) (k : W → RS) :
    oS (g__law_shortened_0 (.int i) ⟨[some (.val T), some (.val R), some (.own (acc ++ [a])), y], ss⟩) (fun w => (b__law_shortened_0 w).loop k) = k ⟨[some (.val T), some (.val R), some (.own (acc ++ [.str J])), some (.val (.int i))], ss⟩ := by
  simp [g__law_shortened_0, b__law_shortened_0, e2, h0, e1, e3, eJ, ixN_end, atI_end, set_end]
theorem ls_go (l : List Int) (ts : List (List Nat)) (hl : l.length ≤ 1000) (ss : SS) (hts : ∀ t ∈ ts, t.length ≤ 4) : ∀ (xs : List Int) (post : List (List Nat)) (pre : List Int) (p : Int) (pr : List (List Nat)) (acc : List (List Nat)) (a : List Nat) (n : Int) (y : Option TD.Slot), l = (pre ++ [p]) ++ xs → ts = pr ++ post → pr.length = pre.length + 1 → xs.length = post.length → n = pre.length + 1 → acc.length ≤ pre.length → a.length ≤ 4 * n.toNat →
    ∃ z, sForGo g__law_shortened_0 b__law_shortened_0 (rngD n l.length) ⟨[some (.val (dI l)), some (.val (rowD ts)), some (.own ((acc ++ [a]).map tS)), y], ss⟩ = .nx ⟨[some (.val (dI l)), some (.val (rowD ts)), some (.own ((acc ++ shG p a xs post).map tS)), z], ss⟩
  | [], post, pre, p, pr, acc, a, n, y, e1, e2, e3, e4, e5, e6, e7 => by
    have hn : n = l.length := by rw [e1, e5]; simp
    rw [hn, rngD_nil (Int.le_refl _)]
    refine ⟨y, ?_⟩
    have : post = [] := by
      cases post with
      | nil => rfl
      | cons _ _ => simp at e4
    subst this
    simp [shG]
  | x :: xs, [], pre, p, pr, acc, a, n, y, e1, e2, e3, e4, e5, e6, e7 => by simp at e4
  | x :: xs, t :: post, pre, p, pr, acc, a, n, y, e1, e2, e3, e4, e5, e6, e7 => by
    have hlt : n < l.length := by rw [e1, e5]; simp; omega
    have hpl : pre.length ≤ l.length := by rw [e1]; simp
    have a1 : gIx (dI l) (.int n) = some (.int x) := by
      show atI (l.map D.int) n = _
      rw [atI_map, e1, atI_pre (pre ++ [p]) x xs n (by simp [e5])]; rfl
    have a3 : gIx (dI l) (.int (n - 1)) = some (.int p) := by
      show atI (l.map D.int) (n - 1) = _
      rw [atI_map, e1, List.append_assoc, List.cons_append, List.nil_append, atI_pre pre p (x :: xs) (n - 1) (by omega)]; rfl
    have a2 : gIx (rowD ts) (.int n) = some (tS t) := by
      show atI (ts.map tS) n = _
      rw [atI_map, e2, atI_pre pr t post n (by omega)]; rfl
    have ht : t.length ≤ 4 := hts t (by rw [e2]; simp)
    by_cases hx : x = p
    · obtain ⟨z, ih⟩ := ls_go l ts hl ss hts xs post (pre ++ [p]) x (pr ++ [t]) acc (a ++ t) (n + 1) (some (.val (.int n))) (by simp [e1]) (by simp [e2]) (by simp [e3]) (by simpa using e4) (by simp [e5]) (by simp; omega) (by simp; omega)
      refine ⟨z, ?_⟩
      have eJ : gAdd (tS a) (tS t) = some (.str (S (a ++ t))) := by
        rw [gAdd_str, S_len, S_len, if_pos (by omega), S_app]
      subst hx
      rw [rngD_cons hlt, sForGo_cons, List.map_append, List.map_cons, List.map_nil, ls_more (dI l) (rowD ts) n x (tS a) (tS t) (S (a ++ t)) (acc.map tS) y a2 ss (by omega) a1 a3 eJ]
      rw [List.map_append, List.map_cons, List.map_nil] at ih
      rw [ih, shG, if_pos rfl]
    · obtain ⟨z, ih⟩ := ls_go l ts hl ss hts xs post (pre ++ [p]) x (pr ++ [t]) (acc ++ [a]) t (n + 1) (some (.val (.int n))) (by simp [e1]) (by simp [e2]) (by simp [e3]) (by simpa using e4) (by simp [e5]) (by simp; omega) (by omega)
      refine ⟨z, ?_⟩
      rw [rngD_cons hlt, sForGo_cons, ls_new (dI l) (rowD ts) n (tS t) ((acc ++ [a]).map tS) (by simp; omega) y a2 ss (.inr ⟨by omega, x, p, a1, a3, hx⟩), shG, if_neg hx]
      rw [List.map_append (l₁ := acc ++ [a])] at ih
      simp only [List.map_cons, List.map_nil] at ih
      rw [ih]
      simp
theorem ls_run (T R : D) (L : Int) (V : List D) (y : Option TD.Slot) (ss : SS) (h1 : gLen [T] = some (.int L)) (hs : small L = true)
    (q : sForGo g__law_shortened_0 b__law_shortened_0 (rngD 0 L) ⟨[some (.val T), some (.val R), some (.own []), none], ss⟩ = .nx ⟨[some (.val T), some (.val R), some (.own V), y], ss⟩) : m__law_shortened [T, R] ss = .ok (.tup V) ss := by
  simp [m__law_shortened, e__law_shortened, h1, hs, q]
theorem law_shortened_eq {l : List Int} (hl : Dl l) (ts : List (List Nat)) (e : l.length = ts.length) (hts : ∀ t ∈ ts, t.length ≤ 4) (ss : SS) : m__law_shortened [dI l, rowD ts] ss = .ok (rowD (shT l ts)) ss := by
  have h1 := hl.len
  have key : ∃ y, sForGo g__law_shortened_0 b__law_shortened_0 (rngD 0 l.length) ⟨[some (.val (dI l)), some (.val (rowD ts)), some (.own []), none], ss⟩ = .nx ⟨[some (.val (dI l)), some (.val (rowD ts)), some (.own ((shT l ts).map tS)), y], ss⟩ := by
    cases l with
    | nil => exact ⟨none, rfl⟩
    | cons x xs =>
      cases ts with
      | nil => simp at e
      | cons t ts =>
        have ht := hts t (List.mem_cons_self ..)
        obtain ⟨z, q⟩ := ls_go (x :: xs) (t :: ts) (by omega) ss hts xs ts [] x [t] [] t 1 (some (.val (.int 0))) rfl rfl rfl (by simpa using e) rfl (by simp) (by simp; omega)
        refine ⟨z, ?_⟩
        rw [rngD_cons (by simp), sForGo_cons, ls_new (dI (x :: xs)) (rowD (t :: ts)) 0 (tS t) [] (by simp) none (atI_0 _ _) ss (.inl rfl)]
        exact q
  obtain ⟨y, q⟩ := key
  exact ls_run (dI l) (rowD ts) l.length _ y ss (by simp) (small_len (by omega)) q
/-! ### the law's short deal -/
def hS (l : List Int) (d : D) : Option D := match d with
  | .int i => if i = 0 then (atI l i).map D.int else if atI l i = atI l (i - 1) then none else (atI l i).map D.int
  | _ => none
theorem hS_eq (l : List Int) : ∀ (xs pre : List Int) (p n low : Int), l = pre ++ p :: xs → n = pre.length + 1 → D.int p :: (rngD n l.length).filterMap (hS l) = ((go p low n xs).map (·.1)).map D.int
  | [], pre, p, n, low, e, hn => by
    rw [rngD_nil (by rw [e, hn]; simp)]
    rfl
  | x :: xs, pre, p, n, low, e, hn => by
    have hlt : n < l.length := by rw [e, hn]; simp; omega
    rw [rngD_cons hlt]
    have h1 : atI l n = some x := by
      have : l = (pre ++ [p]) ++ x :: xs := by simp [e]
      rw [this]; exact atI_pre _ x xs n (by simp [hn])
    have h2 : atI l (n - 1) = some p := by rw [e]; exact atI_pre pre p _ _ (by omega)
    have h0 : ¬ n = 0 := by omega
    by_cases hx : x = p
    · have ih := hS_eq l xs (pre ++ [p]) x (n + 1) low (by simp [e]) (by simp [hn])
      have e3 : hS l (.int n) = none := by simp [hS, h0, h1, h2, hx]
      have e2 : go p low n (x :: xs) = go p low (n + 1) xs := by simp [go, hx]
      rw [List.filterMap_cons_none e3, e2]
      subst hx
      exact ih
    · have ih := hS_eq l xs (pre ++ [p]) x (n + 1) n (by simp [e]) (by simp [hn])
      have e3 : hS l (.int n) = some (.int x) := by simp [hS, h0, h1, h2, hx]
      have e2 : go p low n (x :: xs) = (p, low, n) :: go x n (n + 1) xs := by simp [go, hx]
      rw [List.filterMap_cons_some e3, e2, ih]
      rfl
theorem short_step (l : List Int) (i : Nat) (hi : i < l.length) (ss : SS) : lcStep [1] (gsName 1) (mOrT (mB (mBin gEq (mVar 1) (mC (.int 0)))) (mB (mBin gNe (mBin gIx (mVar 0) (mVar 1)) (mBin gIx (mVar 0) (mBin gSub (mVar 1) (mC (.int 1))))))) (mBin gIx (mVar 0) (mVar 1)) (.int i) ⟨[some (.val (dI l)), none], ss⟩ = .ok (hS l (.int i)) ⟨[some (.val (dI l)), none], ss⟩ := by
  obtain ⟨a, _, ha⟩ := atI_mem l i (by omega) (by omega)
  by_cases h0 : i = 0
  · subst h0
    have ha' : atI l 0 = some a := ha
    simp [lcStep, hS, atI_map, ha']
  · have h0' : ¬ (i : Int) = 0 := by omega
    obtain ⟨b, _, hb⟩ := atI_mem l ((i : Int) - 1) (by omega) (by omega)
    by_cases hab : a = b
    · simp [lcStep, hS, h0, h0', atI_map, ha, hb, hab]
    · simp [lcStep, hS, h0, h0', atI_map, ha, hb, hab]
theorem law_short_run (T : D) (L : Int) (V : List D) (ss : SS) (hg : gLen [T] = some (.int L)) (hs : small L = true)
    (q : lcGo [1] (gsName 1) (mOrT (mB (mBin gEq (mVar 1) (mC (.int 0)))) (mB (mBin gNe (mBin gIx (mVar 0) (mVar 1)) (mBin gIx (mVar 0) (mBin gSub (mVar 1) (mC (.int 1))))))) (mBin gIx (mVar 0) (mVar 1)) (rngD 0 L) [] ⟨[some (.val T), none], ss⟩ = .ok V ⟨[some (.val T), none], ss⟩) : m__law_short [T] ss = .ok (.tup V) ss := by
  simp [m__law_short, e__law_short, hg, hs, q]
theorem law_short_eq {l : List Int} (hd : Dl l) (ss : SS) : m__law_short [dI l] ss = .ok (dI (shrt l)) ss := by
  have h1 := hd.len
  have q := lc_pure (vs := [1]) (set := gsName 1) (mt := mOrT (mB (mBin gEq (mVar 1) (mC (.int 0)))) (mB (mBin gNe (mBin gIx (mVar 0) (mVar 1)) (mBin gIx (mVar 0) (mBin gSub (mVar 1) (mC (.int 1))))))) (me := mBin gIx (mVar 0) (mVar 1)) (hS l) ⟨[some (.val (dI l)), none], ss⟩ (rngD 0 l.length) [] (fun d hm => by
    obtain ⟨i, hi, rfl⟩ := rng_mem hm
    exact short_step l i hi ss) (by simp [rngD]; omega)
  rw [List.nil_append] at q
  have e : (rngD 0 l.length).filterMap (hS l) = (shrt l).map D.int := by
    cases l with
    | nil => rfl
    | cons x xs =>
      have := hS_eq (x :: xs) xs [] x 1 0 rfl rfl
      rw [rngD_cons (by simp), List.filterMap_cons_some (b := .int x) (by simp [hS])]
      exact this
  rw [e] at q
  exact law_short_run (dI l) l.length _ ss (by simp) (small_len (by omega)) q
end K32

set_option Elab.async false
set_option linter.all false
set_option maxRecDepth 100000
set_option maxHeartbeats 4000000
namespace K32
open PySem PySem.Spec PyProof.Rows L2 TD TP
open K31 (isDeal NoS bad Dl dI nos_dI hnd blks go encB B3 shrt nb)
/-! ### asked -/
theorem asked_ok (w : Int) (d r h : D) (V : D) (ss : SS) (q : (w = 0 ∧ m_view_of [d, r, h] ss = .ok V ss) ∨ (w = 1 ∧ m_shortened [d, r] ss = .ok V ss) ∨ (w = 2 ∧ m_put_together [d, r] ss = .ok V ss)) :
    m__law_asked [.int w, d, r, h] ss = .ok (.tup [.str "told", V]) ss := by
  rcases q with ⟨rfl, q⟩ | ⟨rfl, q⟩ | ⟨rfl, q⟩ <;> simp [m__law_asked, e__law_asked, q]
theorem asked_bad (w : Int) (d r h : D) (ss : SS) (q : (w = 0 ∧ m_view_of [d, r, h] ss = .exc bad ss) ∨ (w = 1 ∧ m_shortened [d, r] ss = .exc bad ss) ∨ (w = 2 ∧ m_put_together [d, r] ss = .exc bad ss)) :
    m__law_asked [.int w, d, r, h] ss = .ok (.tup [.str "value", .str "deal"]) ss := by
  rcases q with ⟨rfl, q⟩ | ⟨rfl, q⟩ | ⟨rfl, q⟩ <;> simp [m__law_asked, e__law_asked, q, bad, anyX]
theorem asked_unl (w : Int) (d r h : D) (x : Str) (ss : SS) (q : (w = 0 ∧ m_view_of [d, r, h] ss = .exc (unl x) ss) ∨ (w = 1 ∧ m_shortened [d, r] ss = .exc (unl x) ss) ∨ (w = 2 ∧ m_put_together [d, r] ss = .exc (unl x) ss)) :
    m__law_asked [.int w, d, r, h] ss = .ok (.tup [.str "unlike", .str x]) ss := by
  rcases q with ⟨rfl, q⟩ | ⟨rfl, q⟩ | ⟨rfl, q⟩ <;> simp [m__law_asked, e__law_asked, q, unl, anyX]
@[simp] theorem ok_told : PyData.strOk ("told" : Str) = true := by decide +kernel
@[simp] theorem ok_value : PyData.strOk ("value" : Str) = true := by decide +kernel
@[simp] theorem ok_unlike : PyData.strOk ("unlike" : Str) = true := by decide +kernel
@[simp] theorem ok_deal : PyData.strOk ("deal" : Str) = true := by decide +kernel
@[simp] theorem ok_row : PyData.strOk ("row" : Str) = true := by decide +kernel
@[simp] theorem ok_views : PyData.strOk ("views" : Str) = true := by decide +kernel
theorem is_told_eq (V : List D) (h : D.oks 63 V = true) (ss : SS) : m__law_is_told [.tup [.str "told", .tup V], .tup V] ss = .ok (.bl true) ss := by
  have e := eqvs_self V 63 h
  simp [m__law_is_told, e__law_is_told, h, e]
/-! ### texts that are strings of Python -/
def Asc (t : List Nat) : Prop := ∀ c ∈ t, c < 128
theorem okb_tS (n : Nat) (t : List Nat) (h : Asc t) : (tS t).okb n = true := by rw [okb_str, strOk_S h]
theorem oks_row (n : Nat) : ∀ ts : List (List Nat), (∀ t ∈ ts, Asc t) → D.oks n (ts.map tS) = true
  | [], _ => oks_nil n
  | t :: ts, h => by
    rw [List.map_cons, oks_cons, okb_tS n t (h t (List.mem_cons_self ..)), oks_row n ts fun z hz => h z (List.mem_cons_of_mem _ hz)]; rfl
theorem oks_all (n : Nat) : ∀ ds : List D, (∀ d ∈ ds, d.okb n = true) → D.oks n ds = true
  | [], _ => oks_nil n
  | d :: ds, h => by rw [oks_cons, h d (List.mem_cons_self ..), oks_all n ds fun z hz => h z (List.mem_cons_of_mem _ hz)]; rfl
theorem of_oks (n : Nat) : ∀ ds : List D, D.oks n ds = true → ∀ d ∈ ds, d.okb n = true
  | [], _, d, hd => nomatch hd
  | e :: ds, h, d, hd => by
    rw [oks_cons, Bool.and_eq_true] at h
    rcases List.mem_cons.mp hd with rfl | hd
    · exact h.1
    · exact of_oks n ds h.2 d hd
theorem oks_vw (n : Nat) (h : Int) : ∀ (l : List Int) (rs : List D), D.oks n rs = true → D.oks n (vw h l rs) = true
  | [], rs, _ => by simp [vw]
  | x :: l, [], _ => by simp [vw]
  | x :: l, r :: rs, e => by
    rw [oks_cons, Bool.and_eq_true] at e
    have ih := oks_vw n h l rs e.2
    unfold vw at ih ⊢
    rw [List.zipWith_cons_cons, oks_cons, ih]
    split <;> simp [e.1]
theorem oks_mix (n : Nat) (R : Int → List D) (hR : ∀ h, D.oks n (R h) = true) : ∀ (l : List Int) (i : Nat), D.oks n (mix R i l) = true
  | [], i => oks_nil n
  | x :: l, i => by
    rw [mix, oks_cons, oks_mix n R hR l (i + 1), Bool.and_true]
    cases e : (R x)[i]? with
    | none => simp [List.getD, e]
    | some d => simpa [List.getD, e] using of_oks n _ (hR x) d (List.mem_of_getElem? e)
/-! ### the views are right -/
theorem vr0_body (T R O L : D) (h : Int) (V1 V2 : List D) (x4 : Option TD.Slot) (rest : TD.Env) (ss : SS) (a1 : m__law_asked [.int 0, T, R, .int h] ss = .ok (.tup [.str "told", .tup V1]) ss) (a2 : m__law_asked [.int 0, T, O, .int h] ss = .ok (.tup [.str "told", .tup V2]) ss)
    (b1 : m__law_view [T, R, .int h] ss = .ok (.tup V1) ss) (b2 : m__law_view [T, O, .int h] ss = .ok (.tup V2) ss) (c1 : D.oks 63 V1 = true) (c2 : D.oks 63 V2 = true) (k : W → RS) :
    oS (g__law_views_right_0 (.int h) ⟨some (.val T) :: some (.val R) :: some (.val O) :: some (.val L) :: x4 :: rest, ss⟩) (fun w => (b__law_views_right_0 w).loop k) = k ⟨some (.val T) :: some (.val R) :: some (.val O) :: some (.val L) :: some (.val (.int h)) :: rest, ss⟩ := by
  simp [g__law_views_right_0, b__law_views_right_0, a1, a2, b1, b2, is_told_eq V1 c1, is_told_eq V2 c2]
theorem vr1_body (T R O L : D) (HH h4 : D) (x5 x6 x7 x8 x9 x10 x11 x12 : Option TD.Slot) (Hn : Int) (VS : List D) (Sh : List D) (sd : D) (J : Str) (ss : SS) (hs : small Hn = true)
    (c1 : m__law_hands [T] ss = .ok (.int Hn) ss)
    (q : lcGo [4] (gsName 4) mYes (mCall 3 m_view_of (mCons (mVar 0) (mCons (mVar 10) (mCons (mVar 4) (mNil))))) (rngD 0 Hn) [] ⟨[some (.val T), some (.val R), some (.val O), some (.val L), none, x5, x6, x7, x8, x9, some (.val HH), x11, x12], ss⟩ = .ok VS ⟨[some (.val T), some (.val R), some (.val O), some (.val L), none, x5, x6, x7, x8, x9, some (.val HH), x11, x12], ss⟩)
    (hh : List D) (eH : HH = .tup hh) (a1 : m__law_asked [.int 2, T, .tup VS, .int 0] ss = .ok (.tup [.str "told", .tup hh]) ss) (o1 : D.oks 63 hh = true)
    (a2 : m__law_shortened [T, HH] ss = .ok (.tup Sh) ss) (a3 : m__law_asked [.int 1, T, HH, .int 0] ss = .ok (.tup [.str "told", .tup Sh]) ss) (o2 : D.oks 63 Sh = true)
    (a4 : m_is_row [.tup Sh, L] ss = .ok (.bl true) ss) (a5 : m__law_short [T] ss = .ok sd ss) (a6 : m__law_asked [.int 1, sd, .tup Sh, .int 0] ss = .ok (.tup [.str "told", .tup Sh]) ss)
    (j1 : joinD ("" : Str) (.tup Sh) = some (.str J)) (j2 : joinD ("" : Str) HH = some (.str J)) (oJ : PyData.strOk J = true) (k : W → RS) :
    oS (g__law_views_right_1 HH ⟨[some (.val T), some (.val R), some (.val O), some (.val L), some (.val h4), x5, x6, x7, x8, x9, x10, x11, x12], ss⟩) (fun w => (b__law_views_right_1 w).loop k) = k ⟨[some (.val T), some (.val R), some (.val O), some (.val L), some (.val h4), x5, some (.own VS), x7, x8, x9, some (.val HH), some (.val (.tup Sh)), some (.val (.tup [.str "told", .tup Sh]))], ss⟩ := by
  subst eH
  have b1 := is_told_eq hh o1 ss
  have b2 := is_told_eq Sh o2 ss
  simp [g__law_views_right_1, b__law_views_right_1, c1, hs, q, a1, a2, a3, a4, a5, a6, b1, b2, j1, j2, oJ, gIsNot]
/-- the row of a hand: the first row for the even ones -/
def alt (R O : List D) (h : Int) : List D := if h % 2 = 0 then R else O
theorem alt_at (r o : List D) (h : Int) (h0 : 0 ≤ h) : atI [D.tup r, .tup o] (h % 2) = some (.tup (alt r o h)) := by
  have : h % 2 = 0 ∨ h % 2 = 1 := by omega
  rcases this with e | e <;> simp [alt, e]
theorem vw_step (T L W V : D) (h : Int) (R O : D) (s : TD.Slot) (hs : s = .own [R, O] ∨ s = .val (.lst [R, O])) (x6 x7 x8 x9 x10 x11 x12 : Option TD.Slot) (ss : SS) (e1 : atI [R, O] (h % 2) = some W) (e2 : m__law_view [T, W, .int h] ss = .ok V ss) :
    lcStep [4] (gsName 4) mYes (mCall 3 m__law_view (mCons (mVar 0) (mCons (mBin gIx (mVar 5) (mBin gMod (mBlt gInt (mCons (mVar 4) (mNil))) (mC (.int 2)))) (mCons (mVar 4) (mNil))))) (.int h) ⟨[some (.val T), some (.val R), some (.val O), some (.val L), none, some s, x6, x7, x8, x9, x10, x11, x12], ss⟩ =
      .ok (some V) ⟨[some (.val T), some (.val R), some (.val O), some (.val L), none, some (.val (.lst [R, O])), x6, x7, x8, x9, x10, x11, x12], ss⟩ := by
  rcases hs with rfl | rfl <;> simp [lcStep, e1, e2]
theorem mx_step (T L W V h4 : D) (i x : Int) (R O : D) (s : TD.Slot) (hs : s = .own [R, O] ∨ s = .val (.lst [R, O])) (x6 x7 x10 x11 x12 : Option TD.Slot) (ss : SS) (e1 : atI [R, O] (x % 2) = some W) (e2 : gIx W (.int i) = some V) :
    lcStep [8, 9] (gsTup 2 (gsCons (gsName 8) (gsCons (gsName 9) (gsNil)))) (mYes) (mBin gIx (mBin gIx (mVar 5) (mBin gMod (mBlt gInt (mCons (mVar 9) (mNil))) (mC (.int 2)))) (mVar 8)) (.tup [.int i, .int x]) ⟨[some (.val T), some (.val R), some (.val O), some (.val L), some (.val h4), some s, x6, x7, none, none, x10, x11, x12], ss⟩ =
      .ok (some V) ⟨[some (.val T), some (.val R), some (.val O), some (.val L), some (.val h4), some (.val (.lst [R, O])), x6, x7, none, none, x10, x11, x12], ss⟩ := by
  rcases hs with rfl | rfl <;> simp [lcStep, e1, e2]
theorem vr_run (T R O L : D) (l VW MX : List D) (Hn : Int) (s1 s2 : TD.Slot) (h1 : s1 = .own [R, O] ∨ s1 = .val (.lst [R, O])) (h2 : s2 = .own [R, O] ∨ s2 = .val (.lst [R, O])) (w2 : W) (ss : SS) (hw : w2.ss = ss) (eT : T = .tup l) (hs : small Hn = true)
    (q0 : sForGo g__law_views_right_0 b__law_views_right_0 [.int 3, .int 0, .int 2, .int 1, .int 3] ⟨[some (.val T), some (.val R), some (.val O), some (.val L), none, none, none, none, none, none, none, none, none], ss⟩ = .nx ⟨[some (.val T), some (.val R), some (.val O), some (.val L), some (.val (.int 3)), none, none, none, none, none, none, none, none], ss⟩)
    (c1 : m__law_hands [T] ss = .ok (.int Hn) ss)
    (q1 : lcGo [4] (gsName 4) mYes (mCall 3 m__law_view (mCons (mVar 0) (mCons (mBin gIx (mVar 5) (mBin gMod (mBlt gInt (mCons (mVar 4) (mNil))) (mC (.int 2)))) (mCons (mVar 4) (mNil))))) (rngD 0 Hn) [] ⟨[some (.val T), some (.val R), some (.val O), some (.val L), none, some (.own [R, O]), none, none, none, none, none, none, none], ss⟩ = .ok VW ⟨[some (.val T), some (.val R), some (.val O), some (.val L), none, some s1, none, none, none, none, none, none, none], ss⟩)
    (q2 : lcGo [8, 9] (gsTup 2 (gsCons (gsName 8) (gsCons (gsName 9) (gsNil)))) (mYes) (mBin gIx (mBin gIx (mVar 5) (mBin gMod (mBlt gInt (mCons (mVar 9) (mNil))) (mC (.int 2)))) (mVar 8)) (enumD 0 l) [] ⟨[some (.val T), some (.val R), some (.val O), some (.val L), some (.val (.int 3)), some s1, some (.own VW), none, none, none, none, none, none], ss⟩ = .ok MX ⟨[some (.val T), some (.val R), some (.val O), some (.val L), some (.val (.int 3)), some s2, some (.own VW), none, none, none, none, none, none], ss⟩)
    (a1 : m__law_asked [.int 2, T, .tup VW, .int 0] ss = .ok (.tup [.str "told", .tup MX]) ss) (o1 : D.oks 63 MX = true)
    (q3 : sForGo g__law_views_right_1 b__law_views_right_1 [R, O] ⟨[some (.val T), some (.val R), some (.val O), some (.val L), some (.val (.int 3)), some (.val (.lst [R, O])), some (.own VW), some (.val (.tup MX)), none, none, none, none, none], ss⟩ = .nx w2) :
    m__law_views_right [T, R, O, L] ss = .ok (.bl true) ss := by
  subst eT
  have b1 := is_told_eq MX o1 ss
  show (e__law_views_right ⟨[some (.val (.tup l)), some (.val R), some (.val O), some (.val L), none, none, none, none, none, none, none, none, none], ss⟩).fin = _
  unfold e__law_views_right
  refine nxtF (w' := ⟨[some (.val (.tup l)), some (.val R), some (.val O), some (.val L), some (.val (.int 3)), none, none, none, none, none, none, none, none], ss⟩) (by simp [q0]) ?_
  refine nxtF (w' := ⟨[some (.val (.tup l)), some (.val R), some (.val O), some (.val L), some (.val (.int 3)), some (.own [R, O]), none, none, none, none, none, none, none], ss⟩) (by simp) ?_
  refine nxtF (w' := ⟨[some (.val (.tup l)), some (.val R), some (.val O), some (.val L), some (.val (.int 3)), some s1, some (.own VW), none, none, none, none, none, none], ss⟩) (by rcases h1 with rfl | rfl <;> simp [c1, hs, q1]) ?_
  refine nxtF (w' := ⟨[some (.val (.tup l)), some (.val R), some (.val O), some (.val L), some (.val (.int 3)), some s2, some (.own VW), some (.val (.tup MX)), none, none, none, none, none], ss⟩) (by rcases h1 with rfl | rfl <;> rcases h2 with rfl | rfl <;> simp [q2]) ?_
  refine nxtF (w' := ⟨[some (.val (.tup l)), some (.val R), some (.val O), some (.val L), some (.val (.int 3)), some s2, some (.own VW), some (.val (.tup MX)), none, none, none, none, none], ss⟩) (by rcases h2 with rfl | rfl <;> simp [a1, b1]) ?_
  refine nxtF (w' := w2) (by rcases h2 with rfl | rfl <;> simp [q3]) ?_
  obtain ⟨e, s⟩ := w2
  cases hw
  simp
end K32

set_option Elab.async false
set_option linter.all false
set_option maxRecDepth 100000
set_option maxHeartbeats 4000000
namespace K32
open PySem PySem.Spec PyProof.Rows L2 TD TP
open K31 (isDeal NoS bad Dl dI nos_dI hnd blks go encB B3 shrt nb)
structure Let (L : List Nat) : Prop where
  ne : L ≠ []
  len : L.length ≤ 4
  low : ∀ c ∈ L, 97 ≤ c ∧ c ≤ 122
structure Rw (L : List Nat) (n : Nat) (ts : List (List Nat)) : Prop where
  len : ts.length = n
  each : ∀ t ∈ ts, t.length ≤ 4 ∧ ∀ c ∈ t, c ∈ L
theorem Rw.asc {L : List Nat} {n : Nat} {ts : List (List Nat)} (h : Rw L n ts) (hL : Let L) : ∀ t ∈ ts, Asc t := fun t ht c hc => by
  have := hL.low c ((h.each t ht).2 c hc)
  omega
theorem shG_in (P : Nat → Prop) : ∀ (xs : List Int) (ts : List (List Nat)) (h : Int) (acc : List Nat), (∀ c ∈ acc, P c) → (∀ t ∈ ts, ∀ c ∈ t, P c) → ∀ t ∈ shG h acc xs ts, ∀ c ∈ t, P c
  | [], ts, h, acc, ha, hts, t, ht => by
    have : t = acc := by simpa [shG] using ht
    subst this; exact ha
  | x :: xs, [], h, acc, ha, hts, t, ht => by
    have : t = acc := by simpa [shG] using ht
    subst this; exact ha
  | x :: xs, u :: ts, h, acc, ha, hts, t, ht => by
    have hu := hts u (List.mem_cons_self ..)
    have hr := fun z hz => hts z (List.mem_cons_of_mem _ hz)
    rw [shG] at ht
    split at ht
    · refine shG_in P xs ts h (acc ++ u) (fun c hc => ?_) hr t ht
      rcases List.mem_append.mp hc with hc | hc
      · exact ha c hc
      · exact hu c hc
    · rcases List.mem_cons.mp ht with rfl | ht
      · exact ha
      · exact shG_in P xs ts x u hu hr t ht
theorem shT_in (P : Nat → Prop) (l : List Int) (ts : List (List Nat)) (hts : ∀ t ∈ ts, ∀ c ∈ t, P c) : ∀ t ∈ shT l ts, ∀ c ∈ t, P c := by
  cases l with
  | nil => intro t ht; cases ht
  | cons x xs =>
    cases ts with
    | nil => intro t ht; cases ht
    | cons t ts => exact shG_in P xs ts x t (hts t (List.mem_cons_self ..)) fun z hz => hts z (List.mem_cons_of_mem _ hz)
theorem shG_tot : ∀ (xs : List Int) (ts : List (List Nat)) (h : Int) (acc : List Nat), ∀ t ∈ shG h acc xs ts, t.length ≤ acc.length + (ts.map List.length).sum
  | [], ts, h, acc, t, ht => by
    have : t = acc := by simpa [shG] using ht
    subst this; omega
  | x :: xs, [], h, acc, t, ht => by
    have : t = acc := by simpa [shG] using ht
    subst this; omega
  | x :: xs, u :: ts, h, acc, t, ht => by
    rw [shG] at ht
    rw [List.map_cons, List.sum_cons]
    split at ht
    · have := shG_tot xs ts h (acc ++ u) t ht
      rw [List.length_append] at this
      omega
    · rcases List.mem_cons.mp ht with rfl | ht
      · omega
      · have := shG_tot xs ts x u t ht
        omega
theorem shT_tot (l : List Int) (ts : List (List Nat)) : ∀ t ∈ shT l ts, t.length ≤ (ts.map List.length).sum := by
  cases l with
  | nil => intro t ht; cases ht
  | cons x xs =>
    cases ts with
    | nil => intro t ht; cases ht
    | cons t ts =>
      intro z hz
      have := shG_tot xs ts x t z hz
      rw [List.map_cons, List.sum_cons]
      omega
theorem sum_flat (ts : List (List Nat)) : (ts.map List.length).sum = ts.flatten.length := by rw [List.length_flatten]
theorem isRow_ok (L : List Nat) (ts : List (List Nat)) (h : ts.length ≤ 240) (h2 : ∀ t ∈ ts, ∀ c ∈ t, c ∈ L) : isRow L (rowD ts) = true := by
  have h1 : (ts.map tS).length ≤ 240 := by simpa using h
  show (decide ((ts.map tS).length ≤ 240) && (ts.map tS).all (isTx L)) = true
  rw [decide_eq_true h1, Bool.true_and, List.all_eq_true]
  intro d hd
  obtain ⟨t, ht, rfl⟩ := List.mem_map.mp hd
  show ((S t).cps.toList.all fun c => decide (c ∈ L)) = true
  rw [List.all_eq_true]
  intro c hc
  exact decide_eq_true (h2 t ht c (by simpa [S] using hc))
theorem rwOk_row (ts : List (List Nat)) (h : ∀ t ∈ ts, t.length ≤ 1000) : RwOk (rowD ts) := fun d hd => by
  obtain ⟨t, ht, rfl⟩ := List.mem_map.mp hd
  show (S t).length ≤ 1000
  rw [S_len]
  exact h t ht
theorem hv_step (T R O L RH V : D) (i : Int) (x5 x6 x7 x8 x9 x11 x12 : Option TD.Slot) (ss : SS) (v : m_view_of [T, RH, .int i] ss = .ok V ss) : lcStep [4] (gsName 4) mYes (mCall 3 m_view_of (mCons (mVar 0) (mCons (mVar 10) (mCons (mVar 4) (mNil))))) (.int i) ⟨[some (.val T), some (.val R), some (.val O), some (.val L), none, x5, x6, x7, x8, x9, some (.val RH), x11, x12], ss⟩ =
    .ok (some V) ⟨[some (.val T), some (.val R), some (.val O), some (.val L), none, x5, x6, x7, x8, x9, some (.val RH), x11, x12], ss⟩ := by
  simp [lcStep, v]
theorem held_go {l : List Int} (hl : Dl l) {L : List Nat} (hL : Let L) (hs : List (List Nat)) (hr : Rw L l.length hs) (R O : D) (x5 x6 x7 x8 x9 x10 x11 x12 : Option TD.Slot) (ss : SS) (k : W → RS) : ∃ y6 y11 y12, oS (g__law_views_right_1 (rowD hs) ⟨[some (.val (dI l)), some (.val R), some (.val O), some (.val (tS L)), some (.val (.int 3)), x5, x6, x7, x8, x9, x10, x11, x12], ss⟩) (fun w => (b__law_views_right_1 w).loop k) =
      k ⟨[some (.val (dI l)), some (.val R), some (.val O), some (.val (tS L)), some (.val (.int 3)), x5, y6, x7, x8, x9, some (.val (rowD hs)), y11, y12], ss⟩ := by
  have h1 := hl.len
  have hn := hnd_nn l
  have hle := hnd_le hl
  obtain ⟨H, hH⟩ := Int.eq_ofNat_of_zero_le hn
  have hlen := hr.len
  have h4 : ∀ t ∈ hs, t.length ≤ 4 := fun t ht => (hr.each t ht).1
  have hsum := sum_part hs 4 h4
  have hasc := hr.asc hL
  have okh : D.oks 63 (hs.map tS) = true := oks_row 63 hs hasc
  have shin := shT_in (fun c => c ∈ L) l hs fun t ht => (hr.each t ht).2
  have shasc : ∀ t ∈ shT l hs, Asc t := fun t ht c hc => by have := hL.low c (shin t ht c hc); omega
  have shlen := shT_len l hs hlen.symm
  have sd := K31.shrt_dl hl
  have sdl := sd.len
  have shtot : ∀ t ∈ shT l hs, t.length ≤ 960 := fun t ht => by have := shT_tot l hs t ht; omega
  have sumsh : ((shT l hs).map List.length).sum ≤ 960 := by rw [sum_flat, shT_flat l hs hlen.symm, ← sum_flat]; omega
  obtain ⟨p, hp⟩ := shrt_nbs hl
  refine ⟨_, _, _, vr1_body (dI l) R O (tS L) (rowD hs) (.int 3) x5 x6 x7 x8 x9 x10 x11 x12 (hnd l) (vws (fun _ => hs.map tS) H l) ((shT l hs).map tS) (dI (shrt l)) (S hs.flatten) ss (small_le (by omega) (by omega)) (law_hands_eq l ss) ?_ (hs.map tS) rfl ?_ okh ?_ ?_ ?_ ?_ ?_ ?_ ?_ ?_ ?_ k⟩
  · rw [hH]
    refine lc_rng (fun (i : Nat) => .tup (vw i l (hs.map tS))) _ H (by omega) ss fun i hi => ?_
    have v := view_eq hl (hs.map tS) (by simpa using hlen) i ss
    exact hv_step _ _ _ _ _ _ _ _ _ _ _ _ _ _ ss v
  · refine asked_ok 2 _ _ _ _ ss (.inr (.inr ⟨rfl, ?_⟩))
    rw [pt_eq hl (fun _ => hs.map tS) (fun _ => by simpa using hlen) H (by omega) (by omega) (fun x hx => by have := hnd_lt x hx; omega) ss, mix_const _ _ _ (by simp [hlen])]
    rfl
  · exact law_shortened_eq hl hs hlen.symm h4 ss
  · exact asked_ok 1 _ _ _ _ ss (.inr (.inl ⟨rfl, shortened_eq hl hs hlen.symm (fun t ht => by have := h4 t ht; omega) ss⟩))
  · exact oks_row 63 _ shasc
  · rw [show (D.tup ((shT l hs).map tS)) = rowD (shT l hs) from rfl, is_row_eq _ (rwOk_row _ fun t ht => by have := shtot t ht; omega) L (by have := hL.len; omega) ss, isRow_ok L _ (by omega) shin]
  · exact law_short_eq hl ss
  · refine asked_ok 1 _ _ _ _ ss (.inr (.inl ⟨rfl, ?_⟩))
    have q := shortened_eq sd (shT l hs) shlen.symm (fun t ht => by have := shtot t ht; omega) ss
    rw [shT_nb _ _ shlen.symm p hp] at q
    exact q
  · rw [S_nil, show (D.tup ((shT l hs).map tS)) = rowD (shT l hs) from rfl, joinD_tup _ (by omega), shT_flat l hs hlen.symm]
  · rw [S_nil, joinD_tup _ (by omega)]
  · refine strOk_S fun c hc => ?_
    obtain ⟨t, ht, hc⟩ := List.mem_flatten.mp hc
    exact hasc t ht c hc
theorem alt_len {n : Nat} {R O : List D} (h1 : R.length = n) (h2 : O.length = n) (h : Int) : (alt R O h).length = n := by
  unfold alt; split <;> assumption
theorem views_right {l : List Int} (hl : Dl l) {L : List Nat} (hL : Let L) (ts us : List (List Nat)) (ht : Rw L l.length ts) (hu : Rw L l.length us) (ss : SS) : m__law_views_right [dI l, rowD ts, rowD us, tS L] ss = .ok (.bl true) ss := by
  have h1 := hl.len
  have hn := hnd_nn l
  have hle := hnd_le hl
  obtain ⟨H, hH⟩ := Int.eq_ofNat_of_zero_le hn
  have lt : (ts.map tS).length = l.length := by simpa using ht.len
  have lu : (us.map tS).length = l.length := by simpa using hu.len
  have okt : D.oks 63 (ts.map tS) = true := oks_row 63 ts (ht.asc hL)
  have oku : D.oks 63 (us.map tS) = true := oks_row 63 us (hu.asc hL)
  have oka : ∀ h, D.oks 63 (alt (ts.map tS) (us.map tS) h) = true := fun h => by unfold alt; split <;> assumption
  have al := alt_len lt lu
  have v0 : ∀ (h : Int) (x4 : Option TD.Slot) (rest : TD.Env) (k : W → RS), oS (g__law_views_right_0 (.int h) ⟨some (.val (dI l)) :: some (.val (rowD ts)) :: some (.val (rowD us)) :: some (.val (tS L)) :: x4 :: rest, ss⟩) (fun w => (b__law_views_right_0 w).loop k) = k ⟨some (.val (dI l)) :: some (.val (rowD ts)) :: some (.val (rowD us)) :: some (.val (tS L)) :: some (.val (.int h)) :: rest, ss⟩ := fun h x4 rest k =>
    vr0_body (dI l) (rowD ts) (rowD us) (tS L) h (vw h l (ts.map tS)) (vw h l (us.map tS)) x4 rest ss (asked_ok 0 _ _ _ _ ss (.inl ⟨rfl, view_eq hl _ lt h ss⟩)) (asked_ok 0 _ _ _ _ ss (.inl ⟨rfl, view_eq hl _ lu h ss⟩)) (law_view_eq hl _ lt h ss) (law_view_eq hl _ lu h ss) (oks_vw 63 h l _ okt) (oks_vw 63 h l _ oku) k
  obtain ⟨w1, hw1, q1⟩ := lc_two (vs := [4]) (set := gsName 4) (mt := mYes) (me := mCall 3 m__law_view (mCons (mVar 0) (mCons (mBin gIx (mVar 5) (mBin gMod (mBlt gInt (mCons (mVar 4) (mNil))) (mC (.int 2)))) (mCons (mVar 4) (mNil))))) (fun d => match d with | .int h => some (.tup (vw h l (alt (ts.map tS) (us.map tS) h))) | _ => none)
    ⟨[some (.val (dI l)), some (.val (rowD ts)), some (.val (rowD us)), some (.val (tS L)), none, some (.own [rowD ts, rowD us]), none, none, none, none, none, none, none], ss⟩
    ⟨[some (.val (dI l)), some (.val (rowD ts)), some (.val (rowD us)), some (.val (tS L)), none, some (.val (.lst [rowD ts, rowD us])), none, none, none, none, none, none, none], ss⟩ (rngD 0 H)
    (fun d hd => by
      obtain ⟨i, hi, rfl⟩ := rng_mem hd
      exact vw_step (dI l) (tS L) _ _ i (rowD ts) (rowD us) _ (.inr rfl) _ _ _ _ _ _ _ ss (alt_at _ _ _ (by omega)) (law_view_eq hl _ (al i) i ss))
    (fun d hd => by
      obtain ⟨i, hi, rfl⟩ := rng_mem hd
      exact vw_step (dI l) (tS L) _ _ i (rowD ts) (rowD us) _ (.inl rfl) _ _ _ _ _ _ _ ss (alt_at _ _ _ (by omega)) (law_view_eq hl _ (al i) i ss)) (by simp [rngD]; omega)
  rw [rng_map H _ (fun (i : Nat) => .tup (vw i l (alt (ts.map tS) (us.map tS) i))) (fun i hi => rfl)] at q1
  obtain ⟨s1, hs1, e1⟩ : ∃ s1 : TD.Slot, (s1 = .own [rowD ts, rowD us] ∨ s1 = .val (.lst [rowD ts, rowD us])) ∧ w1 = ⟨[some (.val (dI l)), some (.val (rowD ts)), some (.val (rowD us)), some (.val (tS L)), none, some s1, none, none, none, none, none, none, none], ss⟩ := by
    rcases hw1 with rfl | rfl
    · exact ⟨_, .inl rfl, rfl⟩
    · exact ⟨_, .inr rfl, rfl⟩
  subst e1
  have vlen : ((List.range H).map fun (i : Nat) => D.tup (vw i l (alt (ts.map tS) (us.map tS) i))) = vws (alt (ts.map tS) (us.map tS)) H l := rfl
  rw [vlen] at q1
  have mstep : ∀ s : TD.Slot, (s = .own [rowD ts, rowD us] ∨ s = .val (.lst [rowD ts, rowD us])) → ∀ d ∈ enumD 0 (l.map D.int), lcStep [8, 9] (gsTup 2 (gsCons (gsName 8) (gsCons (gsName 9) (gsNil)))) (mYes) (mBin gIx (mBin gIx (mVar 5) (mBin gMod (mBlt gInt (mCons (mVar 9) (mNil))) (mC (.int 2)))) (mVar 8)) d ⟨[some (.val (dI l)), some (.val (rowD ts)), some (.val (rowD us)), some (.val (tS L)), some (.val (.int 3)), some s, some (.own (vws (alt (ts.map tS) (us.map tS)) H l)), none, none, none, none, none, none], ss⟩ =
      .ok ((fun d => match d with | D.tup [.int i, .int x] => some ((alt (ts.map tS) (us.map tS) x).getD i.toNat .non) | _ => none) d) ⟨[some (.val (dI l)), some (.val (rowD ts)), some (.val (rowD us)), some (.val (tS L)), some (.val (.int 3)), some (.val (.lst [rowD ts, rowD us])), some (.own (vws (alt (ts.map tS) (us.map tS)) H l)), none, none, none, none, none, none], ss⟩ := by
    intro s hs d hd
    obtain ⟨j, x, hj, rfl⟩ := mem_enum hd
    have hj2 : j < l.length := (List.getElem?_eq_some_iff.mp hj).1
    have hx := hl.rng x (List.mem_of_getElem? hj)
    refine mx_step (dI l) (tS L) (.tup (alt (ts.map tS) (us.map tS) x)) _ (.int 3) _ x (rowD ts) (rowD us) s hs _ _ _ _ _ ss (alt_at _ _ _ hx.1) ?_
    show atI (alt (ts.map tS) (us.map tS) x) _ = _
    refine atI_nat ?_
    have : j < (alt (ts.map tS) (us.map tS) x).length := by rw [al]; exact hj2
    simp [List.getD, this]
  obtain ⟨w2, hw2, q2⟩ := lc_two (fun d => match d with | D.tup [.int i, .int x] => some ((alt (ts.map tS) (us.map tS) x).getD i.toNat .non) | _ => none) _ _ (enumD 0 (l.map D.int)) (mstep _ (.inr rfl)) (mstep s1 hs1) (by rw [enumD_len]; simp; omega)
  rw [enum_fm (alt (ts.map tS) (us.map tS)) _ l 0 (fun j x hj => by simp)] at q2
  obtain ⟨s2, hs2, e2⟩ : ∃ s2 : TD.Slot, (s2 = .own [rowD ts, rowD us] ∨ s2 = .val (.lst [rowD ts, rowD us])) ∧ w2 = ⟨[some (.val (dI l)), some (.val (rowD ts)), some (.val (rowD us)), some (.val (tS L)), some (.val (.int 3)), some s2, some (.own (vws (alt (ts.map tS) (us.map tS)) H l)), none, none, none, none, none, none], ss⟩ := by
    rcases hw2 with rfl | rfl
    · exact ⟨_, hs1, rfl⟩
    · exact ⟨_, .inr rfl, rfl⟩
  subst e2
  obtain ⟨y6, y11, y12, f1⟩ := held_go hl hL ts ht (rowD ts) (rowD us) (some (.val (.lst [rowD ts, rowD us]))) (some (.own (vws (alt (ts.map tS) (us.map tS)) H l))) (some (.val (.tup (mix (alt (ts.map tS) (us.map tS)) 0 l)))) none none none none none ss (sForGo g__law_views_right_1 b__law_views_right_1 [rowD us])
  obtain ⟨z6, z11, z12, f2⟩ := held_go hl hL us hu (rowD ts) (rowD us) (some (.val (.lst [rowD ts, rowD us]))) y6 (some (.val (.tup (mix (alt (ts.map tS) (us.map tS)) 0 l)))) none none (some (.val (rowD ts))) y11 y12 ss (sForGo g__law_views_right_1 b__law_views_right_1 [])
  refine vr_run (dI l) (rowD ts) (rowD us) (tS L) (l.map D.int) _ _ H s1 s2 hs1 hs2 ⟨[some (.val (dI l)), some (.val (rowD ts)), some (.val (rowD us)), some (.val (tS L)), some (.val (.int 3)), some (.val (.lst [rowD ts, rowD us])), z6, some (.val (.tup (mix (alt (ts.map tS) (us.map tS)) 0 l))), none, none, some (.val (rowD us)), z11, z12], ss⟩ ss rfl rfl (small_len (by omega)) ?_ ?_ q1 q2 ?_ (oks_mix 63 _ oka l 0) ?_
  · rw [sForGo_cons, v0, sForGo_cons, v0, sForGo_cons, v0, sForGo_cons, v0, sForGo_cons, v0]
    rfl
  · rw [law_hands_eq, hH]
  · refine asked_ok 2 _ _ _ _ ss (.inr (.inr ⟨rfl, ?_⟩))
    exact pt_eq hl (alt (ts.map tS) (us.map tS)) al H (by omega) (by omega) (fun x hx => by have := hnd_lt x hx; omega) ss
  · rw [sForGo_cons, f1, sForGo_cons, f2]
    rfl
end K32

set_option Elab.async false
set_option linter.all false
set_option maxRecDepth 100000
set_option maxHeartbeats 4000000
namespace K32
open PySem PySem.Spec PyProof.Rows L2 TD TP
open K31 (isDeal NoS bad Dl dI nos_dI hnd blks go encB B3 shrt nb)
/-! ### draws -/
theorem text_step (L acc : List Nat) (mo : D) (d : D) (x : Option TD.Slot) (n r : Int) (c : Nat) (ss ss' : SS) (hl : gLen [.str (S L)] = some (.int n)) (hp : pickM [.src, .int n] ss = .ok (.int r) ss') (hc : gIx (tS L) (.int r) = some (tS [c])) (ha : acc.length < 1000) (k : W → RS) :
    oS (g__law_text_0 d ⟨[some (.val .src), some (.val (tS L)), some (.val mo), some (.val (tS acc)), x], ss⟩) (fun w => (b__law_text_0 w).loop k) = k ⟨[some (.val .src), some (.val (tS L)), some (.val mo), some (.val (tS (acc ++ [c]))), some (.val d)], ss'⟩ := by
  have e : gAdd (tS acc) (tS [c]) = some (tS (acc ++ [c])) := by
    rw [gAdd_str, S_len, S_len, S_app, if_pos (by simp; omega)]
  generalize tS (acc ++ [c]) = A at e ⊢
  generalize tS acc = B at e ⊢
  generalize tS [c] = C at e hc
  have hl : gLen [tS L] = some (.int n) := hl
  generalize tS L = LL at hl hc ⊢
  simp [g__law_text_0, b__law_text_0, pick_eq, hl, hp, hc, e]
theorem text_go {L : List Nat} (hL : Let L) (mo : D) : ∀ (ds : List D) (acc : List Nat) (x : Option TD.Slot) (ss : SS), acc.length + ds.length < 1000 → SsOk ss →
    ∃ (a : List Nat) (ss' : SS) (y : Option TD.Slot), sForGo g__law_text_0 b__law_text_0 ds ⟨[some (.val .src), some (.val (tS L)), some (.val mo), some (.val (tS acc)), x], ss⟩ = .nx ⟨[some (.val .src), some (.val (tS L)), some (.val mo), some (.val (tS (acc ++ a))), y], ss'⟩ ∧ SsOk ss' ∧ a.length = ds.length ∧ ∀ c ∈ a, c ∈ L
  | [], acc, x, ss, hl, hs => ⟨[], ss, x, by rw [List.append_nil]; rfl, hs, rfl, fun _ h => nomatch h⟩
  | d :: ds, acc, x, ss, hl, hs => by
    have l4 := hL.len
    have l0 : 0 < L.length := List.length_pos_iff.mpr hL.ne
    obtain ⟨r, ss1, e1, a1, b1, hs1⟩ := (pick_ok ss hs L.length (by omega) (by omega)).ex
    obtain ⟨c, hc, e2⟩ := atI_mem L r a1 b1
    simp only [List.length_cons] at hl
    obtain ⟨a, ss2, y, ih, hs2, la, ma⟩ := text_go hL mo ds (acc ++ [c]) (some (.val d)) ss1 (by simp; omega) hs1
    refine ⟨c :: a, ss2, y, ?_, hs2, by simp [la], fun z hz => ?_⟩
    · rw [sForGo_cons, text_step L acc mo d x L.length r c ss ss1 (by rw [gLen_str, S_len, if_pos (by omega)]) e1 (by rw [gIx_S L r (by omega), e2]; rfl) (by omega), ih]
      simp
    · rcases List.mem_cons.mp hz with rfl | hz
      · exact hc
      · exact ma z hz
theorem text_run (LL : D) (m k : Int) (T : D) (ss ss1 ss2 : SS) (y : Option TD.Slot) (hp : pickM [.src, .int (m + 1)] ss = .ok (.int k) ss1) (hs : small k = true)
    (q : sForGo g__law_text_0 b__law_text_0 (rngD 0 k) ⟨[some (.val .src), some (.val LL), some (.val (.int m)), some (.val (.str "")), none], ss1⟩ = .nx ⟨[some (.val .src), some (.val LL), some (.val (.int m)), some (.val T), y], ss2⟩) : m__law_text [.src, LL, .int m] ss = .ok T ss2 := by
  simp [m__law_text, e__law_text, pick_eq, hp, hs, q]
theorem text_eq {L : List Nat} (hL : Let L) (m : Int) (hm : 0 ≤ m ∧ m ≤ 10) (ss : SS) (hs : SsOk ss) : ∃ (t : List Nat) (ss' : SS), m__law_text [.src, tS L, .int m] ss = .ok (tS t) ss' ∧ SsOk ss' ∧ t.length ≤ m.toNat ∧ ∀ c ∈ t, c ∈ L := by
  obtain ⟨k, ss1, e1, a1, b1, hs1⟩ := (pick_ok ss hs (m + 1) (by omega) (by omega)).ex
  obtain ⟨a, ss2, y, e2, hs2, la, ma⟩ := text_go hL (.int m) (rngD 0 k) [] none ss1 (by simp [rngD]; omega) hs1
  have la' : a.length = k.toNat := by simpa [rngD] using la
  exact ⟨a, ss2, text_run (tS L) m k (tS a) ss ss1 ss2 y e1 (small_le (by omega) (by omega)) e2, hs2, by omega, ma⟩
theorem lc_of {P : D → Prop} {α : Type} (f : α → D) (Q : α → Prop) (h : ∀ y, P y → ∃ a, y = f a ∧ Q a) : ∀ ys : List D, (∀ (i : Nat) (y : D), ys[i]? = some y → P y) → ∃ l : List α, ys = l.map f ∧ ∀ a ∈ l, Q a
  | [], _ => ⟨[], rfl, fun _ h => nomatch h⟩
  | y :: ys, hy => by
    obtain ⟨a, rfl, ha⟩ := h y (hy 0 y rfl)
    obtain ⟨l, rfl, hl⟩ := lc_of f Q h ys fun i z hz => hy (i + 1) z (by simpa using hz)
    exact ⟨a :: l, rfl, fun x hx => by
      rcases List.mem_cons.mp hx with rfl | hx
      · exact ha
      · exact hl x hx⟩
theorem row_run (LL : D) (n : Int) (V : List D) (ss ss' : SS) (hs : small n = true) (q : lcGo [4] (gsName 4) mYes (mCall 3 m__law_text (mCons (mVar 0) (mCons (mVar 1) (mCons (mVar 3) (mNil))))) (rngD 0 n) [] ⟨[some (.val .src), some (.val LL), some (.val (.int n)), some (.val (.int 4)), none], ss⟩ = .ok V ⟨[some (.val .src), some (.val LL), some (.val (.int n)), some (.val (.int 4)), none], ss'⟩) :
    m__law_row [.src, LL, .int n, .int 4] ss = .ok (.tup V) ss' := by
  simp [m__law_row, e__law_row, hs, q]
theorem row_step (LL t d : D) (n : D) (ss ss' : SS) (h : m__law_text [.src, LL, .int 4] ss = .ok t ss') : lcStep [4] (gsName 4) mYes (mCall 3 m__law_text (mCons (mVar 0) (mCons (mVar 1) (mCons (mVar 3) (mNil))))) d ⟨[some (.val .src), some (.val LL), some (.val n), some (.val (.int 4)), none], ss⟩ = .ok (some t) ⟨[some (.val .src), some (.val LL), some (.val n), some (.val (.int 4)), none], ss'⟩ := by
  simp [lcStep, h]
theorem law_row_eq {L : List Nat} (hL : Let L) (n : Nat) (hn : n ≤ 240) (ss : SS) (hs : SsOk ss) : ∃ (ts : List (List Nat)) (ss' : SS), m__law_row [.src, tS L, .int n, .int 4] ss = .ok (rowD ts) ss' ∧ SsOk ss' ∧ Rw L n ts := by
  obtain ⟨ys, ss', e, h1, h2, h3⟩ := lc_draw (vs := [4]) (set := gsName 4) (mt := mYes) (me := mCall 3 m__law_text (mCons (mVar 0) (mCons (mVar 1) (mCons (mVar 3) (mNil))))) SsOk (fun _ y => ∃ t : List Nat, y = tS t ∧ t.length ≤ 4 ∧ ∀ c ∈ t, c ∈ L) [some (.val .src), some (.val (tS L)), some (.val (.int n)), some (.val (.int 4)), none] (rngD 0 n) [] ss hs (fun d _ s hs => by
    obtain ⟨t, s', e, hs', lt, mt⟩ := text_eq hL 4 (by decide) s hs
    exact ⟨tS t, s', row_step _ _ _ _ _ _ e, hs', t, rfl, lt, mt⟩) (by simp [rngD]; omega)
  obtain ⟨ts, rfl, hts⟩ := lc_of (P := fun y => ∃ t : List Nat, y = tS t ∧ t.length ≤ 4 ∧ ∀ c ∈ t, c ∈ L) tS (fun t => t.length ≤ 4 ∧ ∀ c ∈ t, c ∈ L) (fun y h => h) ys fun i y hy => by
    have hi : i < (rngD 0 n).length := by rw [← h2]; exact (List.getElem?_eq_some_iff.mp hy).1
    exact h3 i _ y (List.getElem?_eq_getElem hi) hy
  exact ⟨ts, ss', row_run (tS L) n _ ss ss' (small_len (by omega)) (by simpa using e), h1, ⟨by simpa [rngD] using h2, hts⟩⟩
/-! ### letters -/
def abc : List Nat := (List.range 26).map (97 + ·)
theorem abc_S : ("abcdefghijklmnopqrstuvwxyz" : Str) = S abc := by decide +kernel
theorem abc_at (r : Int) (h0 : 0 ≤ r) (h1 : r < 26) : gIx (.str "abcdefghijklmnopqrstuvwxyz") (.int r) = some (tS [97 + r.toNat]) := by
  rw [abc_S, gIx_S abc r (by decide)]
  obtain ⟨n, rfl⟩ := Int.eq_ofNat_of_zero_le h0
  have : n < 26 := by omega
  rw [atI_nat (j := n) (show abc[n]? = some (97 + n) by simp [abc, this])]
  simp
theorem letter_yes (acc : List Nat) (a r : Int) (d : D) (x : Option TD.Slot) (ss ss' : SS) (C T : D) (ha : a < 26) (hp : pickM [.src, .int (26 - a)] ss = .ok (.int r) ss') (hc : gIx (.str "abcdefghijklmnopqrstuvwxyz") (.int (a + r)) = some C) (e : gAdd (tS acc) C = some T) (k : W → RS) :
    oS (g__law_any_letters_0 d ⟨[some (.val .src), some (.val (.str "abcdefghijklmnopqrstuvwxyz")), some (.val (tS acc)), some (.val (.int a)), x], ss⟩) (fun w => (b__law_any_letters_0 w).loop k) = k ⟨[some (.val .src), some (.val (.str "abcdefghijklmnopqrstuvwxyz")), some (.val T), some (.val (.int (a + r + 1))), some (.val d)], ss'⟩ := by
  generalize tS acc = A at e ⊢
  generalize D.str "abcdefghijklmnopqrstuvwxyz" = AB at hc ⊢
  simp [g__law_any_letters_0, b__law_any_letters_0, pick_eq, ha, hp, hc, e]
theorem letter_no (A AB : D) (a : Int) (d : D) (x : Option TD.Slot) (ss : SS) (ha : ¬ a < 26) (k : W → RS) :
    oS (g__law_any_letters_0 d ⟨[some (.val .src), some (.val AB), some (.val A), some (.val (.int a)), x], ss⟩) (fun w => (b__law_any_letters_0 w).loop k) = k ⟨[some (.val .src), some (.val AB), some (.val A), some (.val (.int a)), some (.val d)], ss⟩ := by
  simp [g__law_any_letters_0, b__law_any_letters_0, ha]
theorem letters_go : ∀ (ds : List D) (acc : List Nat) (a : Int) (x : Option TD.Slot) (ss : SS), 0 ≤ a → (∀ c ∈ acc, 97 ≤ c ∧ c ≤ 122) → (acc.length + ds.length ≤ 4) → SsOk ss →
    ∃ (b : List Nat) (ss' : SS) (y z : Option TD.Slot), sForGo g__law_any_letters_0 b__law_any_letters_0 ds ⟨[some (.val .src), some (.val (.str "abcdefghijklmnopqrstuvwxyz")), some (.val (tS acc)), some (.val (.int a)), x], ss⟩ = .nx ⟨[some (.val .src), some (.val (.str "abcdefghijklmnopqrstuvwxyz")), some (.val (tS b)), y, z], ss'⟩ ∧ SsOk ss' ∧ b.length ≤ 4 ∧ (∀ c ∈ b, 97 ≤ c ∧ c ≤ 122) ∧ (acc ≠ [] → b ≠ []) ∧ (a < 26 → ds ≠ [] → b ≠ [])
  | [], acc, a, x, ss, h0, hacc, hl, hs => ⟨acc, ss, _, _, rfl, hs, by simpa using hl, hacc, id, fun _ h => absurd rfl h⟩
  | d :: ds, acc, a, x, ss, h0, hacc, hl, hs => by
    simp only [List.length_cons] at hl
    by_cases ha : a < 26
    · obtain ⟨r, ss1, e1, a1, b1, hs1⟩ := (pick_ok ss hs (26 - a) (by omega) (by omega)).ex
      have eA : gAdd (tS acc) (tS [97 + (a + r).toNat]) = some (tS (acc ++ [97 + (a + r).toNat])) := by
        rw [gAdd_str, S_len, S_len, S_app, if_pos (by simp; omega)]
      obtain ⟨b, ss2, y, z, ih, hs2, lb, mb, n1, n2⟩ := letters_go ds (acc ++ [97 + (a + r).toNat]) (a + r + 1) (some (.val d)) ss1 (by omega) (fun c hc => by
        rcases List.mem_append.mp hc with hc | hc
        · exact hacc c hc
        · have : c = 97 + (a + r).toNat := by simpa using hc
          omega) (by simp; omega) hs1
      refine ⟨b, ss2, y, z, ?_, hs2, lb, mb, fun _ => n1 (by simp), fun _ _ => n1 (by simp)⟩
      rw [sForGo_cons, letter_yes acc a r d x ss ss1 _ _ ha e1 (abc_at (a + r) (by omega) (by omega)) eA]
      exact ih
    · obtain ⟨b, ss2, y, z, ih, hs2, lb, mb, n1, n2⟩ := letters_go ds acc a (some (.val d)) ss h0 hacc (by omega) hs
      refine ⟨b, ss2, y, z, ?_, hs2, lb, mb, n1, fun h => absurd h ha⟩
      rw [sForGo_cons, letter_no _ _ a d x ss ha]
      exact ih
theorem letters_run (k : Int) (T : D) (ss ss1 ss2 : SS) (y z : Option TD.Slot) (hp : pickM [.src, .int 4] ss = .ok (.int k) ss1) (hs : small (1 + k) = true)
    (q : sForGo g__law_any_letters_0 b__law_any_letters_0 (rngD 0 (1 + k)) ⟨[some (.val .src), some (.val (.str "abcdefghijklmnopqrstuvwxyz")), some (.val (.str "")), some (.val (.int 0)), none], ss1⟩ = .nx ⟨[some (.val .src), some (.val (.str "abcdefghijklmnopqrstuvwxyz")), some (.val T), y, z], ss2⟩) : m__law_any_letters [.src] ss = .ok T ss2 := by
  simp [m__law_any_letters, e__law_any_letters, pick_eq, hp, hs, q]
theorem letters_eq (ss : SS) (hs : SsOk ss) : ∃ (L : List Nat) (ss' : SS), m__law_any_letters [.src] ss = .ok (tS L) ss' ∧ SsOk ss' ∧ Let L := by
  obtain ⟨k, ss1, e1, a1, b1, hs1⟩ := (pick_ok ss hs 4 (by decide) (by decide)).ex
  obtain ⟨b, ss2, y, z, e2, hs2, lb, mb, _, n2⟩ := letters_go (rngD 0 (1 + k)) [] 0 none ss1 (Int.le_refl _) (fun _ h => nomatch h) (by simp [rngD]; omega) hs1
  exact ⟨b, ss2, letters_run k _ ss ss1 ss2 y z e1 (small_le (by omega) (by omega)) e2, hs2, ⟨n2 (by decide) (by rw [rngD_cons (by omega)]; exact List.cons_ne_nil _ _), lb, mb⟩⟩
end K32

set_option Elab.async false
set_option linter.all false
set_option maxRecDepth 100000
set_option maxHeartbeats 4000000
namespace K32
open PySem PySem.Spec PyProof.Rows L2 TD TP
open K31 (isDeal NoS bad Dl dI nos_dI hnd blks go encB B3 shrt nb)
theorem law_deal_eq (n hands : Int) (hn : 0 ≤ n ∧ n ≤ 240) (hh : 0 < hands ∧ hands < 1000) (ss : SS) (hs : SsOk ss) : ∃ (l : List Int) (ss' : SS), m__law_deal [.src, .int n, .int hands] ss = .ok (dI l) ss' ∧ SsOk ss' ∧ l.length = n.toNat ∧ ∀ x ∈ l, 0 ≤ x ∧ x < hands := by
  obtain ⟨l, ss', e, h1, h2, h3⟩ := lc_picks 3 hands (mCall 2 m__law_pick (mCons (mVar 0) (mCons (mVar 2) (mNil)))) ⟨hh.1, by omega⟩ [some (.val .src), some (.val (.int n)), some (.val (.int hands)), none] n ⟨hn.1, by omega⟩ ss hs (fun d s s' r e => by simp [lcStep, pick_eq, e])
  refine ⟨l, ss', ?_, h1, h2, h3⟩
  have s1 : small n = true := small_le (by omega) (by omega)
  simp [m__law_deal, e__law_deal, s1, e]
theorem cells_step (hands : Int) (hh : 0 < hands ∧ hands < 1000) (x2 x4 x5 x7 x8 : Option TD.Slot) (d : D) (acc : List Int) (ha : acc.length ≤ 1000) (hacc : ∀ x ∈ acc, 0 ≤ x ∧ x < hands) (ss : SS) (hs : SsOk ss) :
    ∃ (acc' : List Int) (ss' : SS) (y5 : Option TD.Slot), oS (g__law_wide_deal_0 d ⟨[some (.val .src), some (.val (.int hands)), x2, some (.own (acc.map D.int)), x4, x5, none, x7, x8], ss⟩) b__law_wide_deal_0 = .nx ⟨[some (.val .src), some (.val (.int hands)), x2, some (.own (acc'.map D.int)), some (.val d), y5, none, x7, x8], ss'⟩ ∧ SsOk ss' ∧ acc'.length ≤ acc.length + 5 ∧ ∀ x ∈ acc', 0 ≤ x ∧ x < hands := by
  obtain ⟨hd, ss1, e1, a1, b1, hs1⟩ := (pick_ok ss hs hands hh.1 (by omega)).ex
  obtain ⟨k, ss2, e2, a2, b2, hs2⟩ := (pick_ok ss1 hs1 5 (by decide) (by decide)).ex
  obtain ⟨n, rfl⟩ := Int.eq_ofNat_of_zero_le a2
  have s1 : small (1 + (n : Int)) = true := small_le (by omega) (by omega)
  have q := lc_rng (v := 6) (me := mVar 5) (fun _ => D.int hd) [some (.val .src), some (.val (.int hands)), x2, some (.val (.lst (acc.map D.int))), some (.val d), some (.val (.int hd)), none, x7, x8] (n + 1) (by omega) ss2 (fun i hi => by simp [lcStep])
  have e3 : (List.range (n + 1)).map (fun _ => D.int hd) = (List.replicate (n + 1) hd).map D.int := by rw [List.map_const', List.length_range, List.map_replicate]
  rw [e3] at q
  have hN : ((n + 1 : Nat) : Int) = 1 + (n : Int) := by omega
  rw [hN] at q
  refine ⟨acc ++ List.replicate (n + 1) hd, ss2, some (.val (.int hd)), ?_, hs2, by simp; omega, fun x hx => ?_⟩
  · have hl : (acc.map D.int).length + ((List.replicate (n + 1) hd).map D.int).length ≤ 1000000 := by simp; omega
    rw [List.map_append]
    generalize (List.replicate (n + 1) hd).map D.int = R at *
    generalize acc.map D.int = A at *
    obtain ⟨N, hN1⟩ : ∃ N, 1 + (n : Int) = N := ⟨_, rfl⟩
    rw [hN1] at s1 q
    simp [hN1, g__law_wide_deal_0, b__law_wide_deal_0, pick_eq, e1, e2, s1, q, hl]
  · rcases List.mem_append.mp hx with hx | hx
    · exact hacc x hx
    · have := List.eq_of_mem_replicate hx
      subst this
      exact ⟨a1, b1⟩
theorem cells_go (hands : Int) (hh : 0 < hands ∧ hands < 1000) (x2 x7 x8 : Option TD.Slot) : ∀ (ds : List D) (acc : List Int) (x4 x5 : Option TD.Slot) (ss : SS), acc.length + 5 * ds.length ≤ 1000 → (∀ x ∈ acc, 0 ≤ x ∧ x < hands) → SsOk ss →
    ∃ (acc' : List Int) (ss' : SS) (y4 y5 : Option TD.Slot), sForGo g__law_wide_deal_0 b__law_wide_deal_0 ds ⟨[some (.val .src), some (.val (.int hands)), x2, some (.own (acc.map D.int)), x4, x5, none, x7, x8], ss⟩ = .nx ⟨[some (.val .src), some (.val (.int hands)), x2, some (.own (acc'.map D.int)), y4, y5, none, x7, x8], ss'⟩ ∧ SsOk ss' ∧ acc'.length ≤ acc.length + 5 * ds.length ∧ ∀ x ∈ acc', 0 ≤ x ∧ x < hands
  | [], acc, x4, x5, ss, hl, ha, hs => ⟨acc, ss, x4, x5, rfl, hs, by simp, ha⟩
  | d :: ds, acc, x4, x5, ss, hl, ha, hs => by
    simp only [List.length_cons] at hl
    obtain ⟨acc1, ss1, y5, e1, hs1, l1, ha1⟩ := cells_step hands hh x2 x4 x5 x7 x8 d acc (by omega) ha ss hs
    obtain ⟨acc2, ss2, z4, z5, e2, hs2, l2, ha2⟩ := cells_go hands hh x2 x7 x8 ds acc1 (some (.val d)) y5 ss1 (by omega) ha1 hs1
    refine ⟨acc2, ss2, z4, z5, ?_, hs2, by simp; omega, ha2⟩
    rw [sForGo_cons]
    cases e : g__law_wide_deal_0 d ⟨[some (.val .src), some (.val (.int hands)), x2, some (.own (acc.map D.int)), x4, x5, none, x7, x8], ss⟩ with
    | none => rw [e] at e1; cases e1
    | some w1 =>
      rw [e] at e1
      have e1 : b__law_wide_deal_0 w1 = _ := e1
      show (b__law_wide_deal_0 w1).loop _ = _
      rw [e1]
      exact e2
theorem size_at (m0 : Int) (h0 : 0 ≤ m0) (h1 : m0 < 4) : ∃ k : Nat, k ≤ 240 ∧ atI [D.int 1, .int 60, .int 239, .int 240] m0 = some (.int k) := by
  have : m0 = 0 ∨ m0 = 1 ∨ m0 = 2 ∨ m0 = 3 := by omega
  rcases this with h | h | h | h <;> rw [h]
  · exact ⟨1, by decide, rfl⟩
  · exact ⟨60, by decide, rfl⟩
  · exact ⟨239, by decide, rfl⟩
  · exact ⟨240, by decide, rfl⟩
theorem style0 (h0 st n : Int) (L : D) (ss ss1 ss2 ss3 ss4 : SS) (hst : st < 3) (e1 : pickM [.src, .int 4] ss = .ok (.int h0) ss1) (e2 : pickM [.src, .int 6] ss1 = .ok (.int st) ss2) (e3 : pickM [.src, .int 13] ss2 = .ok (.int n) ss3) (e4 : m__law_deal [.src, .int n, .int (1 + h0)] ss3 = .ok L ss4) : m__law_wide_deal [.src] ss = .ok L ss4 := by
  simp [m__law_wide_deal, e__law_wide_deal, pick_eq, hst, e1, e2, e3, e4]
theorem style1 (h0 st n : Int) (A : List D) (ss ss1 ss2 ss3 ss4 : SS) (y4 y5 : Option TD.Slot) (hst : ¬ st < 3) (hst2 : st < 5) (e1 : pickM [.src, .int 4] ss = .ok (.int h0) ss1) (e2 : pickM [.src, .int 6] ss1 = .ok (.int st) ss2) (e3 : pickM [.src, .int 8] ss2 = .ok (.int n) ss3) (s1 : small n = true)
    (e4 : sForGo g__law_wide_deal_0 b__law_wide_deal_0 (rngD 0 n) ⟨[some (.val .src), some (.val (.int (1 + h0))), some (.val (.int st)), some (.own []), none, none, none, none, none], ss3⟩ = .nx ⟨[some (.val .src), some (.val (.int (1 + h0))), some (.val (.int st)), some (.own A), y4, y5, none, none, none], ss4⟩) : m__law_wide_deal [.src] ss = .ok (.tup A) ss4 := by
  simp [m__law_wide_deal, e__law_wide_deal, pick_eq, hst, hst2, e1, e2, e3, s1, e4]
theorem style2 (h0 st m0 p0 MI : Int) (PD R : List D) (o8 : TD.Slot) (ss ss1 ss2 ss3 ss4 ss5 : SS) (st0 : ¬ st < 3) (st1 : ¬ st < 5) (e1 : pickM [.src, .int 4] ss = .ok (.int h0) ss1) (e2 : pickM [.src, .int 6] ss1 = .ok (.int st) ss2) (e3 : pickM [.src, .int 4] ss2 = .ok (.int m0) ss3)
    (hm : atI [D.int 1, .int 60, .int 239, .int 240] m0 = some (.int MI)) (e5 : pickM [.src, .int 6] ss3 = .ok (.int p0) ss4) (s1 : small (1 + p0) = true) (s2 : small MI = true)
    (e6 : lcGo [6] (gsName 6) mYes (mCall 2 pickM (mCons (mVar 0) (mCons (mVar 1) (mNil)))) (rngD 0 (1 + p0)) [] ⟨[some (.val .src), some (.val (.int (1 + h0))), some (.val (.int st)), none, none, none, none, some (.val (.int MI)), none], ss4⟩ = .ok PD ⟨[some (.val .src), some (.val (.int (1 + h0))), some (.val (.int st)), none, none, none, none, some (.val (.int MI)), none], ss5⟩)
    (e7 : lcGo [6] (gsName 6) mYes (mBin gIx (mVar 8) (mBin gMod (mBlt gInt (mCons (mVar 6) (mNil))) (mBlt gLen (mCons (mVar 8) (mNil))))) (rngD 0 MI) [] ⟨[some (.val .src), some (.val (.int (1 + h0))), some (.val (.int st)), none, none, none, none, some (.val (.int MI)), some (.own PD)], ss5⟩ = .ok R ⟨[some (.val .src), some (.val (.int (1 + h0))), some (.val (.int st)), none, none, none, none, some (.val (.int MI)), some o8], ss5⟩) : m__law_wide_deal [.src] ss = .ok (.tup R) ss5 := by
  show (e__law_wide_deal ⟨[some (.val .src), none, none, none, none, none, none, none, none], ss⟩).fin = _
  unfold e__law_wide_deal
  refine nxtF (w' := ⟨[some (.val .src), some (.val (.int (1 + h0))), none, none, none, none, none, none, none], ss1⟩) (by simp [pick_eq, e1]) ?_
  refine nxtF (w' := ⟨[some (.val .src), some (.val (.int (1 + h0))), some (.val (.int st)), none, none, none, none, none, none], ss2⟩) (by simp [pick_eq, e2]) ?_
  refine nxtF (w' := ⟨[some (.val .src), some (.val (.int (1 + h0))), some (.val (.int st)), none, none, none, none, none, none], ss2⟩) (by simp [st0]) ?_
  refine nxtF (w' := ⟨[some (.val .src), some (.val (.int (1 + h0))), some (.val (.int st)), none, none, none, none, none, none], ss2⟩) (by simp [st1]) ?_
  refine nxtF (w' := ⟨[some (.val .src), some (.val (.int (1 + h0))), some (.val (.int st)), none, none, none, none, some (.val (.int MI)), none], ss3⟩) (by simp [pick_eq, e3, hm]) ?_
  refine nxtF (w' := ⟨[some (.val .src), some (.val (.int (1 + h0))), some (.val (.int st)), none, none, none, none, some (.val (.int MI)), some (.own PD)], ss5⟩) (by simp [pick_eq, e5, s1, e6]) ?_
  simp [s2, e7]
theorem wide_eq (ss : SS) (hs : SsOk ss) : ∃ (l : List Int) (ss' : SS), m__law_wide_deal [.src] ss = .ok (dI l) ss' ∧ SsOk ss' ∧ Dl l := by
  obtain ⟨h0, ss1, e1, a1, b1, hs1⟩ := (pick_ok ss hs 4 (by decide) (by decide)).ex
  obtain ⟨st, ss2, e2, a2, b2, hs2⟩ := (pick_ok ss1 hs1 6 (by decide) (by decide)).ex
  have hh : 0 < 1 + h0 ∧ 1 + h0 ≤ 4 := by omega
  by_cases st0 : st < 3
  · obtain ⟨n, ss3, e3, a3, b3, hs3⟩ := (pick_ok ss2 hs2 13 (by decide) (by decide)).ex
    obtain ⟨l, ss4, e4, hs4, l4, r4⟩ := law_deal_eq n (1 + h0) ⟨a3, by omega⟩ ⟨hh.1, by omega⟩ ss3 hs3
    exact ⟨l, ss4, style0 h0 st n _ ss ss1 ss2 ss3 ss4 st0 e1 e2 e3 e4, hs4, ⟨by omega, fun x hx => by have := r4 x hx; omega⟩⟩
  by_cases st1 : st < 5
  · obtain ⟨n, ss3, e3, a3, b3, hs3⟩ := (pick_ok ss2 hs2 8 (by decide) (by decide)).ex
    obtain ⟨acc, ss4, y4, y5, e4, hs4, la, ha⟩ := cells_go (1 + h0) ⟨hh.1, by omega⟩ (some (.val (.int st))) none none (rngD 0 n) [] none none ss3 (by simp [rngD]; omega) (fun _ h => nomatch h) hs3
    have q := style1 h0 st n (acc.map D.int) ss ss1 ss2 ss3 ss4 y4 y5 st0 st1 e1 e2 e3 (small_le (by omega) (by omega)) e4
    exact ⟨acc, ss4, q, hs4, ⟨by simp [rngD] at la; omega, fun x hx => by have := ha x hx; omega⟩⟩
  obtain ⟨m0, ss3, e3, a3, b3, hs3⟩ := (pick_ok ss2 hs2 4 (by decide) (by decide)).ex
  obtain ⟨many, hmany, e4⟩ := size_at m0 a3 b3
  obtain ⟨p0, ss4, e5, a5, b5, hs4⟩ := (pick_ok ss3 hs3 6 (by decide) (by decide)).ex
  obtain ⟨P, ss5, e6, hs5, l6, r6⟩ := lc_picks 6 (1 + h0) (mCall 2 pickM (mCons (mVar 0) (mCons (mVar 1) (mNil)))) ⟨hh.1, by omega⟩ [some (.val .src), some (.val (.int (1 + h0))), some (.val (.int st)), none, none, none, none, some (.val (.int many)), none] (1 + p0) (by omega) ss4 hs4 (fun d s s' r e => by simp [lcStep, e])
  have lP : 0 < P.length ∧ P.length ≤ 6 := by omega
  have e8 : (List.range many).map (fun (i : Nat) => D.int ((atI P ((i : Int) % P.length)).getD 0)) = ((List.range many).map fun (i : Nat) => (atI P ((i : Int) % P.length)).getD 0).map D.int := by simp
  have st7 : ∀ i : Nat, ∀ s : TD.Slot, s = .val (.lst (P.map D.int)) ∨ s = .own (P.map D.int) → lcStep [6] (gsName 6) mYes (mBin gIx (mVar 8) (mBin gMod (mBlt gInt (mCons (mVar 6) (mNil))) (mBlt gLen (mCons (mVar 8) (mNil))))) (.int i) ⟨[some (.val .src), some (.val (.int (1 + h0))), some (.val (.int st)), none, none, none, none, some (.val (.int many)), some s], ss5⟩ =
      .ok (some (.int ((atI P ((i : Int) % P.length)).getD 0))) ⟨[some (.val .src), some (.val (.int (1 + h0))), some (.val (.int st)), none, none, none, none, some (.val (.int many)), some (.val (.lst (P.map D.int)))], ss5⟩ := by
    intro i s hs
    obtain ⟨a, ha, e⟩ := atI_mem P ((i : Int) % P.length) (Int.emod_nonneg _ (by omega)) (Int.emod_lt_of_pos _ (by omega))
    rcases hs with rfl | rfl <;> simp [lcStep, atI_map, e, lP.1]
  have e7 : ∃ o, lcGo [6] (gsName 6) mYes (mBin gIx (mVar 8) (mBin gMod (mBlt gInt (mCons (mVar 6) (mNil))) (mBlt gLen (mCons (mVar 8) (mNil))))) (rngD 0 many) [] ⟨[some (.val .src), some (.val (.int (1 + h0))), some (.val (.int st)), none, none, none, none, some (.val (.int many)), some (.own (P.map D.int))], ss5⟩ =
      .ok (((List.range many).map fun (i : Nat) => (atI P ((i : Int) % P.length)).getD 0).map D.int) ⟨[some (.val .src), some (.val (.int (1 + h0))), some (.val (.int st)), none, none, none, none, some (.val (.int many)), some o], ss5⟩ := by
    cases many with
    | zero => exact ⟨_, by rw [rngD_nil (by simp)]; rfl⟩
    | succ m =>
      have e7 := lc_rng (v := 6) (me := mBin gIx (mVar 8) (mBin gMod (mBlt gInt (mCons (mVar 6) (mNil))) (mBlt gLen (mCons (mVar 8) (mNil))))) (fun (i : Nat) => D.int ((atI P ((i : Int) % P.length)).getD 0)) [some (.val .src), some (.val (.int (1 + h0))), some (.val (.int st)), none, none, none, none, some (.val (.int (m + 1 : Nat))), some (.val (.lst (P.map D.int)))] (m + 1) (by omega) ss5 (fun i hi => st7 i _ (.inl rfl))
      rw [e8] at e7
      refine ⟨_, Eq.trans ?_ e7⟩
      rw [rngD_cons (by omega)]
      exact lcGo_first ((st7 0 _ (.inr rfl)).trans (st7 0 _ (.inl rfl)).symm)
  obtain ⟨o8, e7⟩ := e7
  refine ⟨(List.range many).map fun (i : Nat) => (atI P ((i : Int) % P.length)).getD 0, ss5, style2 h0 st m0 p0 many _ _ o8 ss ss1 ss2 ss3 ss4 ss5 st0 st1 e1 e2 e3 e4 e5 (small_le (by omega) (by omega)) (small_len (by omega)) e6 e7, hs5, ⟨by simp; omega, fun x hx => ?_⟩⟩
  obtain ⟨i, _, rfl⟩ := List.mem_map.mp hx
  obtain ⟨a, ha, e⟩ := atI_mem P ((i : Int) % P.length) (Int.emod_nonneg _ (by omega)) (Int.emod_lt_of_pos _ (by omega))
  rw [e]
  have := r6 a ha
  show 0 ≤ a ∧ a ≤ 3
  omega
end K32

set_option Elab.async false
set_option linter.all false
set_option maxRecDepth 100000
set_option maxHeartbeats 4000000
namespace K32
open PySem PySem.Spec PyProof.Rows L2 TD TP
open K31 (isDeal NoS bad Dl dI nos_dI hnd blks go encB B3 shrt nb)
/-! ### rows are told -/
def put (l : List D) (i : Nat) (d : D) : List D := l.take i ++ d :: l.drop (i + 1)
theorem near_go (S0 R LL : D) (x3 x4 x5 x6 x7 x8 x9 x10 x11 x13 x14 : Option TD.Slot) (ss : SS) : ∀ (ds : List D) (x12 : Option TD.Slot), (∀ d ∈ ds, m_is_row [d, LL] ss = .ok (.bl true) ss) →
    ∃ z, sForGo g__law_is_row_right_0 b__law_is_row_right_0 ds ⟨[some (.val S0), some (.val R), some (.val LL), x3, x4, x5, x6, x7, x8, x9, x10, x11, x12, x13, x14], ss⟩ = .nx ⟨[some (.val S0), some (.val R), some (.val LL), x3, x4, x5, x6, x7, x8, x9, x10, x11, z, x13, x14], ss⟩
  | [], x12, _ => ⟨x12, rfl⟩
  | d :: ds, x12, h => by
    obtain ⟨z, ih⟩ := near_go S0 R LL x3 x4 x5 x6 x7 x8 x9 x10 x11 x13 x14 ss ds (some (.val d)) fun e he => h e (List.mem_cons_of_mem _ he)
    have h0 := h d (List.mem_cons_self ..)
    refine ⟨z, ?_⟩
    rw [sForGo_cons, ← ih]
    generalize sForGo g__law_is_row_right_0 b__law_is_row_right_0 ds = kk
    simp [g__law_is_row_right_0, b__law_is_row_right_0, h0, gIsNot]
theorem wrong_go (S0 R LL : D) (x3 x4 x5 x6 x7 x8 x9 x10 x11 x13 x14 : Option TD.Slot) (ss : SS) : ∀ (ds : List D) (x12 : Option TD.Slot), (∀ d ∈ ds, m_is_row [d, LL] ss = .ok (.bl false) ss) →
    ∃ z, sForGo g__law_is_row_right_2 b__law_is_row_right_2 ds ⟨[some (.val S0), some (.val R), some (.val LL), x3, x4, x5, x6, x7, x8, x9, x10, x11, x12, x13, x14], ss⟩ = .nx ⟨[some (.val S0), some (.val R), some (.val LL), x3, x4, x5, x6, x7, x8, x9, x10, x11, z, x13, x14], ss⟩
  | [], x12, _ => ⟨x12, rfl⟩
  | d :: ds, x12, h => by
    obtain ⟨z, ih⟩ := wrong_go S0 R LL x3 x4 x5 x6 x7 x8 x9 x10 x11 x13 x14 ss ds (some (.val d)) fun e he => h e (List.mem_cons_of_mem _ he)
    have h0 := h d (List.mem_cons_self ..)
    refine ⟨z, ?_⟩
    rw [sForGo_cons, ← ih]
    generalize sForGo g__law_is_row_right_2 b__law_is_row_right_2 ds = kk
    simp [g__law_is_row_right_2, b__law_is_row_right_2, h0, gIsNot]
theorem odd_go (S0 LL : D) (rs P Q : List D) (A : Int) (x4 x5 x6 x7 x8 x9 x10 x11 x12 : Option TD.Slot) (ss : SS) (hP : TD.cutD rs none (some A) = P) (hQ : TD.cutD rs (some (A + 1)) none = Q) (hl : P.length + Q.length ≤ 1000) : ∀ (ds acc : List D) (x14 : Option TD.Slot), acc.length + ds.length ≤ 1000 →
    ∃ z, sForGo g__law_is_row_right_1 b__law_is_row_right_1 ds ⟨[some (.val S0), some (.val (.tup rs)), some (.val LL), some (.val (.int A)), x4, x5, x6, x7, x8, x9, x10, x11, x12, some (.own acc), x14], ss⟩ = .nx ⟨[some (.val S0), some (.val (.tup rs)), some (.val LL), some (.val (.int A)), x4, x5, x6, x7, x8, x9, x10, x11, x12, some (.own (acc ++ ds.map fun d => .tup (P ++ d :: Q))), z], ss⟩
  | [], acc, x14, _ => ⟨x14, by simp⟩
  | d :: ds, acc, x14, h => by
    simp only [List.length_cons] at h
    obtain ⟨z, ih⟩ := odd_go S0 LL rs P Q A x4 x5 x6 x7 x8 x9 x10 x11 x12 ss hP hQ hl ds (acc ++ [.tup (P ++ d :: Q)]) (some (.val d)) (by simp; omega)
    refine ⟨z, ?_⟩
    have e1 : P.length + 1 ≤ 1000000 := by omega
    have e2 : P.length + 1 + Q.length ≤ 1000000 := by omega
    have e3 : acc.length < 1000000 := by omega
    rw [sForGo_cons, List.map_cons, show acc ++ D.tup (P ++ d :: Q) :: (ds.map fun d => D.tup (P ++ d :: Q)) = acc ++ [D.tup (P ++ d :: Q)] ++ (ds.map fun d => D.tup (P ++ d :: Q)) by simp, ← ih]
    generalize sForGo g__law_is_row_right_1 b__law_is_row_right_1 ds = kk
    simp [g__law_is_row_right_1, b__law_is_row_right_1, hP, hQ, e1, e2, e3]
theorem s241 : small 241 = true := by decide
theorem irr_run (Ls G Sg St U : Str) (rs P Q M MM F fa : List D) (A N C NG : Int) (J1 J2 J3 sm L0 : D) (fz : List D) (z1 z2 z3 : Option TD.Slot) (w4 : W) (ss ss1 ss2 ss3 ss4 : SS)
    (hN : gLen [.tup rs] = some (.int N)) (hNG : gLen [.str G] = some (.int NG))
    (p1 : pickM [.src, .int (N + 1)] ss = .ok (.int A) ss1) (p2 : m__law_text [.src, .str Ls, .int 5] ss1 = .ok (.str G) ss2) (p3 : pickM [.src, .int (NG + 1)] ss2 = .ok (.int C) ss3)
    (q1 : lcGo [7] (gsName 7) (mB (mBin gNotInX (mVar 7) (mVar 2))) (mVar 7) (TD.signs ("abcde" : Str)) [] ⟨[some (.val .src), some (.val (.tup rs)), some (.val (.str Ls)), some (.val (.int A)), some (.val (.str G)), some (.val (.int C)), none, none, none, none, none, none, none, none, none], ss3⟩ = .ok (sm :: F) ⟨[some (.val .src), some (.val (.tup rs)), some (.val (.str Ls)), some (.val (.int A)), some (.val (.str G)), some (.val (.int C)), none, none, none, none, none, none, none, none, none], ss3⟩)
    (e0 : gIx (.str Ls) (.int 0) = some L0) (eL0 : L0 = .str U) (hU : U.length ≤ 1000000) (K : Int) (p4 : pickM [.src, .int 6] ss3 = .ok (.int K) ss4) (e1 : atI [sm, .str "A", .str "0", .str " ", .str "-", .str (Txt.upper U)] K = some (.str Sg))
    (c1 : (D.str G).slc none (some C) = some J1) (c2 : (D.str G).slc (some C) none = some J2) (c3 : gAdd J1 (.str Sg) = some J3) (c4 : gAdd J3 J2 = some (.str St))
    (q2 : lcGo [10] (gsName 10) mYes (mIfE (mB (mBin gGt (mBlt gLen (mCons (mVar 1) (mNil))) (mC (.int 0)))) (mBin gIx (mVar 1) (mBin gMod (mBlt gInt (mCons (mVar 10) (mNil))) (mBlt gLen (mCons (mVar 1) (mNil))))) (mVar 4)) (rngD 0 241) [] ⟨[some (.val .src), some (.val (.tup rs)), some (.val (.str Ls)), some (.val (.int A)), some (.val (.str G)), some (.val (.int C)), some (.val sm), some (.val (.str Sg)), some (.val (.str St)), none, none, none, none, none, none], ss4⟩ = .ok M ⟨[some (.val .src), some (.val (.tup rs)), some (.val (.str Ls)), some (.val (.int A)), some (.val (.str G)), some (.val (.int C)), some (.val sm), some (.val (.str Sg)), some (.val (.str St)), none, none, none, none, none, none], ss4⟩)
    (hP : TD.cutD rs none (some A) = P) (hQ : TD.cutD rs (some (A + 1)) none = Q) (hl : P.length + Q.length ≤ 1000)
    (hM : M.take 240 = MM)
    (near : ∀ d ∈ [D.tup rs, .tup [], .tup ((P ++ .str G :: Q).take 240), .tup MM, .tup [.str ""]], m_is_row [d, .str Ls] ss4 = .ok (.bl true) ss4)
    (wrong : ∀ d ∈ [D.tup M, .str G, .str Ls, .non, .int N] ++ ([D.str St, .non, .int N, .tup [.str G], sm].map fun d => .tup (P ++ d :: Q)), m_is_row [d, .str Ls] ss4 = .ok (.bl false) ss4) :
    m__law_is_row_right [.src, .tup rs, .str Ls] ss = .ok (.bl true) ss4 := by
  have r0 := near (.tup rs) (List.mem_cons_self ..)
  have e5 : P.length + 1 ≤ 1000000 := by omega
  have e6 : P.length + 1 + Q.length ≤ 1000000 := by omega
  show (e__law_is_row_right ⟨[some (.val .src), some (.val (.tup rs)), some (.val (.str Ls)), none, none, none, none, none, none, none, none, none, none, none, none], ss⟩).fin = _
  unfold e__law_is_row_right
  refine nxtF (w' := ⟨[some (.val .src), some (.val (.tup rs)), some (.val (.str Ls)), some (.val (.int A)), none, none, none, none, none, none, none, none, none, none, none], ss1⟩) (by simp only [gLen_tup] at hN; simp [pick_eq, hN, p1]) ?_
  refine nxtF (w' := ⟨[some (.val .src), some (.val (.tup rs)), some (.val (.str Ls)), some (.val (.int A)), some (.val (.str G)), none, none, none, none, none, none, none, none, none, none], ss2⟩) (by simp [p2]) ?_
  refine nxtF (w' := ⟨[some (.val .src), some (.val (.tup rs)), some (.val (.str Ls)), some (.val (.int A)), some (.val (.str G)), some (.val (.int C)), none, none, none, none, none, none, none, none, none], ss3⟩) (by simp only [gLen_str] at hNG; simp [pick_eq, hNG, p3]) ?_
  refine nxtF (w' := ⟨[some (.val .src), some (.val (.tup rs)), some (.val (.str Ls)), some (.val (.int A)), some (.val (.str G)), some (.val (.int C)), some (.val sm), none, none, none, none, none, none, none, none], ss3⟩) (by simp [q1]) ?_
  refine nxtF (w' := ⟨[some (.val .src), some (.val (.tup rs)), some (.val (.str Ls)), some (.val (.int A)), some (.val (.str G)), some (.val (.int C)), some (.val sm), some (.val (.str Sg)), none, none, none, none, none, none, none], ss4⟩) (by subst eL0; simp only [gIx_str] at e0; simp [pick_eq, e0, hU, p4, e1]) ?_
  refine nxtF (w' := ⟨[some (.val .src), some (.val (.tup rs)), some (.val (.str Ls)), some (.val (.int A)), some (.val (.str G)), some (.val (.int C)), some (.val sm), some (.val (.str Sg)), some (.val (.str St)), none, none, none, none, none, none], ss4⟩) (by simp only [slc_str] at c1 c2; simp [c1, c2, c3, c4]) ?_
  refine nxtF (w' := ⟨[some (.val .src), some (.val (.tup rs)), some (.val (.str Ls)), some (.val (.int A)), some (.val (.str G)), some (.val (.int C)), some (.val sm), some (.val (.str Sg)), some (.val (.str St)), some (.val (.tup M)), none, none, none, none, none], ss4⟩) (by simp [q2, s241]) ?_
  refine nxtF (w' := ⟨[some (.val .src), some (.val (.tup rs)), some (.val (.str Ls)), some (.val (.int A)), some (.val (.str G)), some (.val (.int C)), some (.val sm), some (.val (.str Sg)), some (.val (.str St)), some (.val (.tup M)), none, some (.own [.tup rs, .tup [], .tup ((P ++ .str G :: Q).take 240), .tup MM, .tup [.str ""]]), none, none, none], ss4⟩) (by simp [hP, hQ, e5, e6, hM]) ?_
  obtain ⟨z12, f1⟩ := near_go .src (.tup rs) (.str Ls) (some (.val (.int A))) (some (.val (.str G))) (some (.val (.int C))) (some (.val sm)) (some (.val (.str Sg))) (some (.val (.str St))) (some (.val (.tup M))) none (some (.val (.lst [.tup rs, .tup [], .tup ((P ++ .str G :: Q).take 240), .tup MM, .tup [.str ""]]))) none none ss4 _ none near
  refine nxtF (w' := ⟨[some (.val .src), some (.val (.tup rs)), some (.val (.str Ls)), some (.val (.int A)), some (.val (.str G)), some (.val (.int C)), some (.val sm), some (.val (.str Sg)), some (.val (.str St)), some (.val (.tup M)), none, some (.val (.lst [.tup rs, .tup [], .tup ((P ++ .str G :: Q).take 240), .tup MM, .tup [.str ""]])), z12, none, none], ss4⟩) (by simp [f1]) ?_
  refine nxtF (w' := ⟨[some (.val .src), some (.val (.tup rs)), some (.val (.str Ls)), some (.val (.int A)), some (.val (.str G)), some (.val (.int C)), some (.val sm), some (.val (.str Sg)), some (.val (.str St)), some (.val (.tup M)), none, some (.val (.lst [.tup rs, .tup [], .tup ((P ++ .str G :: Q).take 240), .tup MM, .tup [.str ""]])), z12, some (.own [.tup M, .str G, .str Ls, .non, .int N]), none], ss4⟩) (by simp only [gLen_tup] at hN; simp [hN]) ?_
  obtain ⟨z14, f2⟩ := odd_go .src (.str Ls) rs P Q A (some (.val (.str G))) (some (.val (.int C))) (some (.val sm)) (some (.val (.str Sg))) (some (.val (.str St))) (some (.val (.tup M))) none (some (.val (.lst [.tup rs, .tup [], .tup ((P ++ .str G :: Q).take 240), .tup MM, .tup [.str ""]]))) z12 ss4 hP hQ hl [D.str St, .non, .int N, .tup [.str G], sm] [D.tup M, .str G, .str Ls, .non, .int N] none (by simp)
  refine nxtF (w' := ⟨[some (.val .src), some (.val (.tup rs)), some (.val (.str Ls)), some (.val (.int A)), some (.val (.str G)), some (.val (.int C)), some (.val sm), some (.val (.str Sg)), some (.val (.str St)), some (.val (.tup M)), none, some (.val (.lst [.tup rs, .tup [], .tup ((P ++ .str G :: Q).take 240), .tup MM, .tup [.str ""]])), z12, some (.own ([D.tup M, .str G, .str Ls, .non, .int N] ++ ([D.str St, .non, .int N, .tup [.str G], sm].map fun d => .tup (P ++ d :: Q)))), z14], ss4⟩) ?_ ?_
  · generalize [D.tup M, .str G, .str Ls, .non, .int N] = WW at f2 ⊢
    generalize [D.tup rs, .tup [], .tup ((P ++ .str G :: Q).take 240), .tup MM, .tup [.str ""]] = NN at f2 ⊢
    simp only [gLen_tup] at hN
    simp [hN, f2]
  generalize ([D.tup M, .str G, .str Ls, .non, .int N] ++ ([D.str St, .non, .int N, .tup [.str G], sm].map fun d => .tup (P ++ d :: Q))) = WW at wrong ⊢
  generalize [D.tup rs, .tup [], .tup ((P ++ .str G :: Q).take 240), .tup MM, .tup [.str ""]] = NN
  obtain ⟨z13, f3⟩ := wrong_go .src (.tup rs) (.str Ls) (some (.val (.int A))) (some (.val (.str G))) (some (.val (.int C))) (some (.val sm)) (some (.val (.str Sg))) (some (.val (.str St))) (some (.val (.tup M))) none (some (.val (.lst NN))) (some (.val (.lst WW))) z14 ss4 WW z12 wrong
  refine nxtF (w' := ⟨[some (.val .src), some (.val (.tup rs)), some (.val (.str Ls)), some (.val (.int A)), some (.val (.str G)), some (.val (.int C)), some (.val sm), some (.val (.str Sg)), some (.val (.str St)), some (.val (.tup M)), none, some (.val (.lst NN)), z13, some (.val (.lst WW)), z14], ss4⟩) (by simp [f3]) ?_
  simp [r0, gIs]
/-! ### the facts -/
theorem nodup_le : ∀ (l L : List Nat), l.Nodup → (∀ c ∈ l, c ∈ L) → l.length ≤ L.length
  | [], _, _, _ => Nat.zero_le _
  | c :: l, L, h, hs => by
    rw [List.nodup_cons] at h
    have hc := hs c (List.mem_cons_self ..)
    have ih := nodup_le l (L.erase c) h.2 fun d hd => by
      have hne : d ≠ c := fun e => by subst e; exact h.1 hd
      exact (List.mem_erase_of_ne hne).mpr (hs d (List.mem_cons_of_mem _ hd))
    rw [List.length_erase_of_mem hc] at ih
    have := List.length_pos_of_mem hc
    simp only [List.length_cons]
    omega
theorem small_sign {L : List Nat} (hL : Let L) : ∃ (c : Nat) (F : List Nat), c ∉ L ∧ 97 ≤ c ∧ c < 102 ∧ (([97, 98, 99, 100, 101] : List Nat).filter fun c => decide (c ∉ L)) = c :: F := by
  have key : (([97, 98, 99, 100, 101] : List Nat).filter fun c => decide (c ∉ L)) ≠ [] := by
    intro e
    rw [List.filter_eq_nil_iff] at e
    have sub : ∀ c ∈ ([97, 98, 99, 100, 101] : List Nat), c ∈ L := fun c hc => by simpa using e c hc
    have := nodup_le [97, 98, 99, 100, 101] L (by decide) sub
    have := hL.len
    simp at *
    omega
  cases e : (([97, 98, 99, 100, 101] : List Nat).filter fun c => decide (c ∉ L)) with
  | nil => exact absurd e key
  | cons c F =>
    have h : c ∈ (([97, 98, 99, 100, 101] : List Nat).filter fun c => decide (c ∉ L)) := by rw [e]; exact List.mem_cons_self ..
    rw [List.mem_filter] at h
    refine ⟨c, F, by simpa using h.2, ?_, ?_, rfl⟩ <;>
    · have := h.1
      simp at this
      omega
theorem sm_lc {L : List Nat} (R A G C : D) (ss : SS) : lcGo [7] (gsName 7) (mB (mBin gNotInX (mVar 7) (mVar 2))) (mVar 7) (TD.signs ("abcde" : Str)) [] ⟨[some (.val .src), some (.val R), some (.val (.str (S L))), some (.val A), some (.val G), some (.val C), none, none, none, none, none, none, none, none, none], ss⟩ = .ok ((([97, 98, 99, 100, 101] : List Nat).filter fun c => decide (c ∉ L)).map fun c => tS [c]) ⟨[some (.val .src), some (.val R), some (.val (.str (S L))), some (.val A), some (.val G), some (.val C), none, none, none, none, none, none, none, none, none], ss⟩ := by
  have e0 : ("abcde" : Str) = S [97, 98, 99, 100, 101] := by decide +kernel
  have q := lc_pure (vs := [7]) (set := gsName 7) (mt := mB (mBin gNotInX (mVar 7) (mVar 2))) (me := mVar 7) (fun e => match e with | .str z => if subS z (S L) = true then none else some e | _ => none) ⟨[some (.val .src), some (.val R), some (.val (.str (S L))), some (.val A), some (.val G), some (.val C), none, none, none, none, none, none, none, none, none], ss⟩ (TD.signs (S [97, 98, 99, 100, 101])) [] (fun e he => by
      rw [signs_S] at he
      obtain ⟨c, _, rfl⟩ := List.mem_map.mp he
      simp [lcStep]
      cases subS (S [c]) (S L) <;> simp) (by rw [signs_S]; simp)
  rw [e0, q, List.nil_append, signs_S, List.filterMap_map]
  congr 1
  generalize ([97, 98, 99, 100, 101] : List Nat) = l
  induction l with
  | nil => rfl
  | cons c l ih =>
    by_cases hc : c ∈ L
    · rw [List.filterMap_cons_none (by simp [subS_one, hc]), List.filter_cons_of_neg (by simp [hc])]
      exact ih
    · rw [List.filterMap_cons_some (b := tS [c]) (by simp [subS_one, hc]), List.filter_cons_of_pos (by simp [hc]), List.map_cons]
      congr 1
theorem isTx_S (L t : List Nat) : isTx L (tS t) = t.all fun c => decide (c ∈ L) := by simp [isTx]
theorem isRow_put (L : List Nat) (rs : List D) (i : Nat) (d : D) (hd : isTx L d = false) : isRow L (.tup (put rs i d)) = false := by
  show (decide _ && (put rs i d).all (isTx L)) = false
  rw [Bool.and_eq_false_iff]
  right
  rw [List.all_eq_false]
  exact ⟨d, by simp [put], by simp [hd]⟩
theorem up_code {L : List Nat} (hL : Let L) {c : Nat} (hc : c ∈ L) : ∃ u, Txt.upper (S [c]) = S [u] ∧ u ∉ L ∧ u < 128 := by
  have h := hL.low c hc
  have e : Txt.upper (S [c]) = S [PyProof.Rows.up1 c] := SX.upper_S (a := [c]) (by simp; omega)
  refine ⟨_, e, fun h2 => ?_, ?_⟩
  · have := hL.low _ h2
    unfold PyProof.Rows.up1 at this
    split at this <;> omega
  · unfold PyProof.Rows.up1
    split <;> omega
end K32

set_option Elab.async false
set_option linter.all false
set_option maxRecDepth 100000
set_option maxHeartbeats 4000000
namespace K32
open PySem PySem.Spec PyProof.Rows L2 TD TP
open K31 (isDeal NoS bad Dl dI nos_dI hnd blks go encB B3 shrt nb)
theorem many_step1 (rs : List D) (Ls G Sg St sm C A d : D) (i N : Int) (h0 : 0 < N) (hN : gLen [.tup rs] = some (.int N)) (e : atI rs (i % N) = some d) (ss : SS) : lcStep [10] (gsName 10) mYes (mIfE (mB (mBin gGt (mBlt gLen (mCons (mVar 1) (mNil))) (mC (.int 0)))) (mBin gIx (mVar 1) (mBin gMod (mBlt gInt (mCons (mVar 10) (mNil))) (mBlt gLen (mCons (mVar 1) (mNil))))) (mVar 4)) (.int i) ⟨[some (.val .src), some (.val (.tup rs)), some (.val Ls), some (.val A), some (.val G), some (.val C), some (.val sm), some (.val Sg), some (.val St), none, none, none, none, none, none], ss⟩ =
    .ok (some d) ⟨[some (.val .src), some (.val (.tup rs)), some (.val Ls), some (.val A), some (.val G), some (.val C), some (.val sm), some (.val Sg), some (.val St), none, none, none, none, none, none], ss⟩ := by
  simp only [gLen_tup] at hN
  have h1 : ¬ N = 0 := by omega
  simp [lcStep, hN, h0, h1, e]
theorem many_step0 (rs : List D) (Ls G Sg St sm C A : D) (i : Int) (hN : gLen [.tup rs] = some (.int 0)) (ss : SS) : lcStep [10] (gsName 10) mYes (mIfE (mB (mBin gGt (mBlt gLen (mCons (mVar 1) (mNil))) (mC (.int 0)))) (mBin gIx (mVar 1) (mBin gMod (mBlt gInt (mCons (mVar 10) (mNil))) (mBlt gLen (mCons (mVar 1) (mNil))))) (mVar 4)) (.int i) ⟨[some (.val .src), some (.val (.tup rs)), some (.val Ls), some (.val A), some (.val G), some (.val C), some (.val sm), some (.val Sg), some (.val St), none, none, none, none, none, none], ss⟩ =
    .ok (some G) ⟨[some (.val .src), some (.val (.tup rs)), some (.val Ls), some (.val A), some (.val G), some (.val C), some (.val sm), some (.val Sg), some (.val St), none, none, none, none, none, none], ss⟩ := by
  simp only [gLen_tup] at hN
  simp [lcStep, hN]
theorem sign_at {L : List Nat} (hL : Let L) (c : Nat) (hc : c ∉ L) (hc2 : c < 128) (u : Nat) (hu : u ∉ L) (hu2 : u < 128) (K : Int) (h0 : 0 ≤ K) (h1 : K < 6) : ∃ s, atI [tS [c], .str "A", .str "0", .str " ", .str "-", .str (S [u])] K = some (.str (S [s])) ∧ s ∉ L ∧ s < 128 := by
  have nl : ∀ s, s < 97 → s ∉ L := fun s hs h => by have := hL.low s h; omega
  have : K = 0 ∨ K = 1 ∨ K = 2 ∨ K = 3 ∨ K = 4 ∨ K = 5 := by omega
  rcases this with h | h | h | h | h | h <;> rw [h]
  · exact ⟨c, rfl, hc, hc2⟩
  · exact ⟨65, rfl, nl _ (by decide), by decide⟩
  · exact ⟨48, rfl, nl _ (by decide), by decide⟩
  · exact ⟨32, rfl, nl _ (by decide), by decide⟩
  · exact ⟨45, rfl, nl _ (by decide), by decide⟩
  · exact ⟨u, rfl, hu, hu2⟩
theorem row_true {L : List Nat} (hL : Let L) (ts : List (List Nat)) (h : ts.length ≤ 240) (h2 : ∀ t ∈ ts, t.length ≤ 1000 ∧ ∀ c ∈ t, c ∈ L) (ss : SS) : m_is_row [rowD ts, tS L] ss = .ok (.bl true) ss := by
  rw [is_row_eq _ (rwOk_row ts fun t ht => (h2 t ht).1) L (by have := hL.len; omega) ss, isRow_ok L ts h fun t ht => (h2 t ht).2]
theorem row_false {L : List Nat} (hL : Let L) (d : D) (h : RwOk d) (h2 : isRow L d = false) (ss : SS) : m_is_row [d, tS L] ss = .ok (.bl false) ss := by
  rw [is_row_eq _ h L (by have := hL.len; omega) ss, h2]
theorem put_rw (ts : List (List Nat)) (h : ∀ t ∈ ts, t.length ≤ 1000) (i : Nat) (d : D) (hd : TxOk d) : RwOk (.tup (put (ts.map tS) i d)) := fun e he => by
  unfold put at he
  rcases List.mem_append.mp he with he | he
  · exact rwOk_row ts h e (List.mem_of_mem_take he)
  · rcases List.mem_cons.mp he with rfl | he
    · exact hd
    · exact rwOk_row ts h e (List.mem_of_mem_drop he)
theorem is_row_right {L : List Nat} (hL : Let L) (n : Nat) (hn : n ≤ 240) (ts : List (List Nat)) (ht : Rw L n ts) (ss : SS) (hs : SsOk ss) : ∃ ss', m__law_is_row_right [.src, rowD ts, tS L] ss = .ok (.bl true) ss' ∧ SsOk ss' := by
  have hlen := ht.len
  have hL4 := hL.len
  obtain ⟨A, ss1, p1, a1, b1, hs1⟩ := (pick_ok ss hs ((n : Int) + 1) (by omega) (by omega)).ex
  obtain ⟨g, ss2, p2, hs2, lg, mg⟩ := text_eq hL 5 (by decide) ss1 hs1
  have lg : g.length ≤ 5 := lg
  obtain ⟨C, ss3, p3, a3, b3, hs3⟩ := (pick_ok ss2 hs2 ((g.length : Int) + 1) (by omega) (by omega)).ex
  obtain ⟨K, ss4, p4, a4, b4, hs4⟩ := (pick_ok ss3 hs3 6 (by decide) (by decide)).ex
  obtain ⟨i, rfl⟩ := Int.eq_ofNat_of_zero_le a1
  obtain ⟨k, rfl⟩ := Int.eq_ofNat_of_zero_le a3
  obtain ⟨c0, F, hc0, hc1, hc2, hF⟩ := small_sign hL
  obtain ⟨l0, Lr, eL⟩ : ∃ l0 Lr, L = l0 :: Lr := by
    cases L with
    | nil => exact absurd rfl hL.ne
    | cons a b => exact ⟨a, b, rfl⟩
  have ml0 : l0 ∈ L := by rw [eL]; exact List.mem_cons_self ..
  obtain ⟨u, eu, hu, hu2⟩ := up_code hL ml0
  obtain ⟨s, es, hs', hs2'⟩ := sign_at hL c0 hc0 (by omega) u hu hu2 K a4 b4
  have h4 : ∀ t ∈ ts, t.length ≤ 1000 := fun t h => by have := (ht.each t h).1; omega
  have q1 := sm_lc (L := L) (rowD ts) (.int i) (tS g) (.int k) ss3
  rw [hF, List.map_cons] at q1
  -- many
  have q2 := lc_rng (v := 10) (me := mIfE (mB (mBin gGt (mBlt gLen (mCons (mVar 1) (mNil))) (mC (.int 0)))) (mBin gIx (mVar 1) (mBin gMod (mBlt gInt (mCons (mVar 10) (mNil))) (mBlt gLen (mCons (mVar 1) (mNil))))) (mVar 4)) (fun (j : Nat) => tS (if 0 < ts.length then ts.getD (j % ts.length) [] else g)) [some (.val .src), some (.val (.tup (ts.map tS))), some (.val (tS L)), some (.val (.int i)), some (.val (tS g)), some (.val (.int k)), some (.val (tS [c0])), some (.val (tS [s])), some (.val (tS (g.take k ++ [s] ++ g.drop k))), none, none, none, none, none, none] 241 (by decide) ss4 fun j hj => by
    by_cases h0 : 0 < ts.length
    · have hm : j % ts.length < ts.length := Nat.mod_lt _ h0
      refine many_step1 (ts.map tS) _ _ _ _ _ _ _ _ j ts.length (by omega) (by simp) ?_ ss4
      rw [atI_map, show (j : Int) % (ts.length : Int) = ((j % ts.length : Nat) : Int) from rfl, atI_nat (j := j % ts.length) (List.getElem?_eq_getElem hm)]
      simp [h0, List.getD, hm]
    · have e0 : ts = [] := List.length_eq_zero_iff.mp (by omega)
      subst e0
      exact many_step0 [] _ _ _ _ _ _ _ j rfl ss4
  have eM : (List.range 241).map (fun (j : Nat) => tS (if 0 < ts.length then ts.getD (j % ts.length) [] else g)) = ((List.range 241).map fun (j : Nat) => if 0 < ts.length then ts.getD (j % ts.length) [] else g).map tS := by rw [List.map_map]; rfl
  rw [eM] at q2
  have hMany : ∀ t ∈ (List.range 241).map (fun (j : Nat) => if 0 < ts.length then ts.getD (j % ts.length) [] else g), t.length ≤ 1000 ∧ ∀ c ∈ t, c ∈ L := fun t h => by
    obtain ⟨j, _, rfl⟩ := List.mem_map.mp h
    by_cases h0 : 0 < ts.length
    · have hm : j % ts.length < ts.length := Nat.mod_lt _ h0
      rw [if_pos h0]
      have e : ts.getD (j % ts.length) [] = ts[j % ts.length] := by simp [List.getD, hm]
      rw [e]
      have := ht.each _ (List.getElem_mem hm)
      exact ⟨by omega, this.2⟩
    · rw [if_neg h0]
      exact ⟨by omega, mg⟩
  have lMany : ((List.range 241).map (fun (j : Nat) => if 0 < ts.length then ts.getD (j % ts.length) [] else g)).length = 241 := by simp
  generalize (List.range 241).map (fun (j : Nat) => if 0 < ts.length then ts.getD (j % ts.length) [] else g) = mts at q2 hMany lMany
  have hg : g.length ≤ 1000000 := by omega
  refine ⟨ss4, irr_run (S L) (S g) (S [s]) (S (g.take k ++ [s] ++ g.drop k)) (S [l0]) (ts.map tS) ((ts.map tS).take i) ((ts.map tS).drop (i + 1)) (mts.map tS) ((mts.take 240).map tS) (F.map fun c => tS [c]) [] i n k g.length (tS (g.take k)) (tS (g.drop k)) (tS (g.take k ++ [s])) (tS [c0]) (tS [l0]) [] none none none ⟨[], ss⟩ ss ss1 ss2 ss3 ss4
    (by simp [hlen]) (by rw [gLen_str, S_len, if_pos hg]) p1 p2 p3 q1 ?_ rfl (by rw [S_len]; simp) K p4 ?_ ?_ ?_ ?_ ?_ q2 (cutD_to _ _) (cutD_from1 _ _) (by simp; omega) (by rw [List.map_take]) ?_ ?_, hs4⟩
  · rw [gIx_S L 0 (by omega), eL, atI_0]; rfl
  · rw [eu]; exact es
  · rw [slc_str, S_len, if_pos hg, cutS_to]
  · rw [slc_str, S_len, if_pos hg, cutS_from]
  · rw [gAdd_str, S_len, S_len, if_pos (by simp; omega), S_app]
  · rw [gAdd_str, S_len, S_len, if_pos (by simp; omega), S_app]
  · have eg : ((ts.map tS).take i ++ .str (S g) :: (ts.map tS).drop (i + 1)).take 240 = ((ts.take i ++ g :: ts.drop (i + 1)).take 240).map tS := by
      rw [List.map_take, List.map_append, List.map_cons, List.map_take, List.map_drop]
    rw [eg]
    intro d hd
    rcases List.mem_cons.mp hd with rfl | hd
    · exact row_true hL ts (by omega) (fun t h => ⟨h4 t h, (ht.each t h).2⟩) ss4
    rcases List.mem_cons.mp hd with rfl | hd
    · exact row_true hL [] (by simp) (fun t h => nomatch h) ss4
    rcases List.mem_cons.mp hd with rfl | hd
    · refine row_true hL ((ts.take i ++ g :: ts.drop (i + 1)).take 240) (by simp; omega) (fun t h => ?_) ss4
      rcases List.mem_append.mp (List.mem_of_mem_take h) with h | h
      · have h := List.mem_of_mem_take h
        exact ⟨h4 t h, (ht.each t h).2⟩
      · rcases List.mem_cons.mp h with rfl | h
        · exact ⟨by omega, mg⟩
        · have h := List.mem_of_mem_drop h
          exact ⟨h4 t h, (ht.each t h).2⟩
    rcases List.mem_cons.mp hd with rfl | hd
    · exact row_true hL (mts.take 240) (by simp; omega) (fun t h => hMany t (List.mem_of_mem_take h)) ss4
    rcases List.mem_cons.mp hd with rfl | hd
    · exact row_true hL [[]] (by simp) (fun t h => by
        have : t = [] := by simpa using h
        subst this; simp) ss4
    · cases hd
  · intro d hd
    rcases List.mem_append.mp hd with hd | hd
    · rcases List.mem_cons.mp hd with rfl | hd
      · refine row_false hL _ (rwOk_row mts fun t h => (hMany t h).1) ?_ ss4
        show (decide ((mts.map tS).length ≤ 240) && _) = false
        rw [List.length_map, lMany]; rfl
      rcases List.mem_cons.mp hd with rfl | hd
      · exact row_false hL (.str (S g)) trivial rfl ss4
      rcases List.mem_cons.mp hd with rfl | hd
      · exact row_false hL (.str (S L)) trivial rfl ss4
      rcases List.mem_cons.mp hd with rfl | hd
      · exact row_false hL .non trivial rfl ss4
      rcases List.mem_cons.mp hd with rfl | hd
      · exact row_false hL (.int n) trivial rfl ss4
      · cases hd
    · obtain ⟨e, he, rfl⟩ := List.mem_map.mp hd
      have key : isTx L e = false ∧ TxOk e := by
        rcases List.mem_cons.mp he with rfl | he
        · refine ⟨?_, ?_⟩
          · show isTx L (tS _) = false
            rw [isTx_S, List.all_eq_false]
            exact ⟨s, by simp, by simp [hs']⟩
          · show (S _).length ≤ 1000
            rw [S_len]; simp; omega
        rcases List.mem_cons.mp he with rfl | he
        · exact ⟨rfl, trivial⟩
        rcases List.mem_cons.mp he with rfl | he
        · exact ⟨rfl, trivial⟩
        rcases List.mem_cons.mp he with rfl | he
        · exact ⟨rfl, trivial⟩
        rcases List.mem_cons.mp he with rfl | he
        · refine ⟨?_, ?_⟩
          · rw [isTx_S]; simp [hc0]
          · show (S _).length ≤ 1000
            rw [S_len]; simp
        · cases he
      exact row_false hL _ (put_rw ts h4 i e key.2) (isRow_put L _ i e key.1) ss4
end K32

set_option Elab.async false
set_option linter.all false
set_option maxRecDepth 100000
set_option maxHeartbeats 4000000
namespace K32
open PySem PySem.Spec PyProof.Rows L2 TD TP
open K31 (isDeal NoS bad Dl dI nos_dI hnd blks go encB B3 shrt nb)
/-! ### other lengths -/
theorem pt_few {l : List Int} (hl : Dl l) (vs : List D) (h : (vs.length : Int) < hnd l) (ss : SS) : m_put_together [dI l, .tup vs] ss = .exc (unl "views") ss :=
  pt_few_run (dI l) (.tup vs) vs.length (hnd l) h (by simp) ss (must_yes _ (nos_dI l) hl.deal ss) (hands_eq hl ss)
theorem pt_spoilt {l : List Int} (hl : Dl l) (R : List D) (hR : R.length = l.length) (H : Nat) (hH : hnd l = H) (i : Nat) (hi : i < H) (V : List D) (hV : V.length ≠ l.length) (ss : SS) : m_put_together [dI l, .tup ((vws (fun _ => R) H l).set i (.tup V))] ss = .exc (unl "views") ss := by
  have hlen : (vws (fun _ => R) H l).length = H := by simp [vws]
  have all : ∀ v ∈ vws (fun _ => R) H l, gLen [v] = some (.int l.length) := fun v hv => by
    unfold vws at hv
    obtain ⟨h, _, rfl⟩ := List.mem_map.mp hv
    simp [vw_len _ _ _ hR]
  obtain ⟨y, q⟩ := pt_go_no (dI l) (.tup ((vws (fun _ => R) H l).set i (.tup V))) l.length V.length (by simp) ss (.tup V) (by simp) (by omega) ((vws (fun _ => R) H l).drop (i + 1)) ((vws (fun _ => R) H l).take i) none fun v hv => all v (List.mem_of_mem_take hv)
  have e : (vws (fun _ => R) H l).set i (.tup V) = (vws (fun _ => R) H l).take i ++ .tup V :: (vws (fun _ => R) H l).drop (i + 1) := List.set_eq_take_append_cons_drop.trans (if_pos (by omega))
  rw [← e] at q
  exact pt_len_run (dI l) _ H (hnd l) (by omega) (by simp [hlen]) ss y (must_yes _ (nos_dI l) hl.deal ss) (hands_eq hl ss) q
theorem lr0_body (T R V HE Mo : D) (x3 x7 x8 x9 : Option TD.Slot) (x6 : Option TD.Slot) (w : Int) (ss : SS) (q : m__law_asked [.int w, T, HE, .int 0] ss = .ok (.tup [.str "unlike", .str "row"]) ss) (k : W → RS) :
    oS (g__law_lengths_right_0 (.int w) ⟨[some (.val T), some (.val R), some (.val V), x3, some (.val Mo), some (.val HE), x6, x7, x8, x9], ss⟩) (fun w => (b__law_lengths_right_0 w).loop k) = k ⟨[some (.val T), some (.val R), some (.val V), x3, some (.val Mo), some (.val HE), some (.val (.int w)), x7, x8, x9], ss⟩ := by
  simp [g__law_lengths_right_0, b__law_lengths_right_0, q]
theorem lr1_body (T R HE Mo : D) (vs Vh V' SP : List D) (x3 x6 x7 x8 x9 : Option TD.Slot) (h LM : Int) (j : Nat) (ss : SS) (hM : gLen [Mo] = some (.int LM)) (e1 : gIx (.tup vs) (.int h) = some (.tup Vh)) (e2 : if 0 < LM then gAdd (.tup Vh) (.tup [.non]) = some (.tup V') else (D.tup Vh).slc (some 1) none = some (.tup V'))
    (hix : ixN vs.length h = some j) (hset : vs.set j (.tup V') = SP) (q : m__law_asked [.int 2, T, .tup SP, .int 0] ss = .ok (.tup [.str "unlike", .str "views"]) ss) (k : W → RS) :
    oS (g__law_lengths_right_1 (.int h) ⟨[some (.val T), some (.val R), some (.val (.tup vs)), x3, some (.val Mo), some (.val HE), x6, x7, x8, x9], ss⟩) (fun w => (b__law_lengths_right_1 w).loop k) = k ⟨[some (.val T), some (.val R), some (.val (.tup vs)), x3, some (.val Mo), some (.val HE), x6, some (.val (.int h)), some (.own SP), x9], ss⟩ := by
  have e1' : atI vs h = some (.tup Vh) := e1
  by_cases h0 : 0 < LM
  · rw [if_pos h0] at e2
    have e2' : Vh.length + 1 ≤ 1000000 := by
      by_cases hc : Vh.length + 1 ≤ 1000000
      · exact hc
      · rw [gAdd_tup] at e2
        simp only [List.length_cons, List.length_nil, Nat.zero_add] at e2
        rw [if_neg hc] at e2
        cases e2
    have e3 : Vh ++ [.non] = V' := by
      rw [gAdd_tup] at e2
      simp only [List.length_cons, List.length_nil, Nat.zero_add] at e2
      rw [if_pos e2'] at e2
      simpa using e2
    simp [g__law_lengths_right_1, b__law_lengths_right_1, hM, h0, e1', e2', e3, hix, hset, q]
  · rw [if_neg h0] at e2
    have e3 : Vh.drop 1 = V' := by simpa using e2
    simp only [List.drop_one] at e3
    simp [g__law_lengths_right_1, b__law_lengths_right_1, hM, h0, e1', e3, hix, hset, q]
theorem lr3_body (T R : D) (vs : List D) (x3 x4 x5 x6 x7 x8 x9 : Option TD.Slot) (m : Int) (P : List D) (ss : SS) (hP : TD.cutD vs none (some m) = P) (q : m__law_asked [.int 2, T, .tup P, .int 0] ss = .ok (.tup [.str "unlike", .str "views"]) ss) (k : W → RS) :
    oS (g__law_lengths_right_3 (.int m) ⟨[some (.val T), some (.val R), some (.val (.tup vs)), x3, x4, x5, x6, x7, x8, x9], ss⟩) (fun w => (b__law_lengths_right_3 w).loop k) = k ⟨[some (.val T), some (.val R), some (.val (.tup vs)), x3, x4, x5, x6, x7, x8, some (.val (.int m))], ss⟩ := by
  simp [g__law_lengths_right_3, b__law_lengths_right_3, hP, q]
theorem ixN_nat {n j : Nat} (h : j < n) : ixN n (j : Int) = some j := by
  unfold ixN
  rw [if_pos (by omega), if_pos (by omega)]
  rfl
theorem lr1_go {l : List Int} (hl : Dl l) (R : List D) (hR : R.length = l.length) (H : Nat) (hH : hnd l = H) (R' HE Mo : D) (LM : Int) (hM : gLen [Mo] = some (.int LM)) (h0 : 0 < LM ∨ (LM = 0 ∧ 0 < l.length)) (x3 x6 x9 : Option TD.Slot) (ss : SS) : ∀ (m n : Nat) (x7 x8 : Option TD.Slot), n + m = H →
    ∃ y7 y8, sForGo g__law_lengths_right_1 b__law_lengths_right_1 (rngD n H) ⟨[some (.val (dI l)), some (.val R'), some (.val (.tup (vws (fun _ => R) H l))), x3, some (.val Mo), some (.val HE), x6, x7, x8, x9], ss⟩ = .nx ⟨[some (.val (dI l)), some (.val R'), some (.val (.tup (vws (fun _ => R) H l))), x3, some (.val Mo), some (.val HE), x6, y7, y8, x9], ss⟩
  | 0, n, x7, x8, e => by
    have : n = H := by omega
    subst this
    rw [rngD_nil (Int.le_refl _)]
    exact ⟨x7, x8, rfl⟩
  | m + 1, n, x7, x8, e => by
    have h1 := hl.len
    have hlen : (vws (fun _ => R) H l).length = H := by simp [vws]
    have vl := vw_len (n : Int) l R hR
    have e1 : gIx (.tup (vws (fun _ => R) H l)) (.int n) = some (.tup (vw n l R)) := vws_get (fun _ => R) H l n (by omega) (by omega)
    obtain ⟨V', e2, hV⟩ : ∃ V' : List D, (if 0 < LM then gAdd (.tup (vw n l R)) (.tup [.non]) = some (.tup V') else (D.tup (vw n l R)).slc (some 1) none = some (.tup V')) ∧ V'.length ≠ l.length := by
      rcases h0 with h0 | ⟨h0, h2⟩
      · refine ⟨vw n l R ++ [.non], ?_, by simp [vl]⟩
        rw [if_pos h0, gAdd_tup, if_pos (by simp; omega)]
      · refine ⟨(vw n l R).drop 1, ?_, by simp [vl]; omega⟩
        rw [if_neg (by omega), slc_tup, cutD_one]
    have q := asked_unl 2 (dI l) (.tup ((vws (fun _ => R) H l).set n (.tup V'))) (.int 0) "views" ss (.inr (.inr ⟨rfl, pt_spoilt hl R hR H hH n (by omega) V' hV ss⟩))
    obtain ⟨y7, y8, ih⟩ := lr1_go hl R hR H hH R' HE Mo LM hM h0 x3 x6 x9 ss m (n + 1) (some (.val (.int n))) (some (.own ((vws (fun _ => R) H l).set n (.tup V')))) (by omega)
    refine ⟨y7, y8, ?_⟩
    rw [rngD_cons (by omega), sForGo_cons, lr1_body (dI l) R' HE Mo _ _ V' _ x3 x6 x7 x8 x9 n LM n ss hM e1 e2 (ixN_nat (by omega)) rfl q]
    exact ih
theorem lr3_go {l : List Int} (hl : Dl l) (vs : List D) (H : Nat) (hH : hnd l = H) (hv : vs.length = H) (R' : D) (x3 x4 x5 x6 x7 x8 : Option TD.Slot) (ss : SS) : ∀ (m n : Nat) (x9 : Option TD.Slot), n + m = H →
    ∃ y9, sForGo g__law_lengths_right_3 b__law_lengths_right_3 (rngD n H) ⟨[some (.val (dI l)), some (.val R'), some (.val (.tup vs)), x3, x4, x5, x6, x7, x8, x9], ss⟩ = .nx ⟨[some (.val (dI l)), some (.val R'), some (.val (.tup vs)), x3, x4, x5, x6, x7, x8, y9], ss⟩
  | 0, n, x9, e => by
    have : n = H := by omega
    subst this
    rw [rngD_nil (Int.le_refl _)]
    exact ⟨x9, rfl⟩
  | m + 1, n, x9, e => by
    have q := asked_unl 2 (dI l) (.tup (vs.take n)) (.int 0) "views" ss (.inr (.inr ⟨rfl, pt_few hl _ (by simp; omega) ss⟩))
    obtain ⟨y9, ih⟩ := lr3_go hl vs H hH hv R' x3 x4 x5 x6 x7 x8 ss m (n + 1) (some (.val (.int n))) (by omega)
    refine ⟨y9, ?_⟩
    rw [rngD_cons (by omega), sForGo_cons, lr3_body (dI l) R' vs x3 x4 x5 x6 x7 x8 x9 n _ ss (cutD_to _ _) q]
    exact ih
theorem lr2_body (T : D) (rs vs HE : List D) (Mo : D) (LM N : Int) (x3 x4 x5 x6 x7 x8 x9 : Option TD.Slot) (y7 y8 : Option TD.Slot) (ss : SS) (hM : gLen [Mo] = some (.int LM)) (hN : gLen [.tup vs] = some (.int N)) (hs : small N = true) (e : if 0 < LM then gAdd (.tup rs) Mo = some (.tup HE) else TD.cutD rs (some 1) none = HE)
    (q0 : m__law_asked [.int 0, T, .tup HE, .int 0] ss = .ok (.tup [.str "unlike", .str "row"]) ss) (q1 : m__law_asked [.int 1, T, .tup HE, .int 0] ss = .ok (.tup [.str "unlike", .str "row"]) ss)
    (q : sForGo g__law_lengths_right_1 b__law_lengths_right_1 (rngD 0 N) ⟨[some (.val T), some (.val (.tup rs)), some (.val (.tup vs)), x3, some (.val Mo), some (.val (.tup HE)), some (.val (.int 1)), x7, x8, x9], ss⟩ = .nx ⟨[some (.val T), some (.val (.tup rs)), some (.val (.tup vs)), x3, some (.val Mo), some (.val (.tup HE)), some (.val (.int 1)), y7, y8, x9], ss⟩) (k : W → RS) :
    oS (g__law_lengths_right_2 Mo ⟨[some (.val T), some (.val (.tup rs)), some (.val (.tup vs)), x3, x4, x5, x6, x7, x8, x9], ss⟩) (fun w => (b__law_lengths_right_2 w).loop k) = k ⟨[some (.val T), some (.val (.tup rs)), some (.val (.tup vs)), x3, some (.val Mo), some (.val (.tup HE)), some (.val (.int 1)), y7, y8, x9], ss⟩ := by
  have f0 : ∀ x6, sForGo g__law_lengths_right_0 b__law_lengths_right_0 [.int 0, .int 1] ⟨[some (.val T), some (.val (.tup rs)), some (.val (.tup vs)), x3, some (.val Mo), some (.val (.tup HE)), x6, x7, x8, x9], ss⟩ = .nx ⟨[some (.val T), some (.val (.tup rs)), some (.val (.tup vs)), x3, some (.val Mo), some (.val (.tup HE)), some (.val (.int 1)), x7, x8, x9], ss⟩ := fun x6 => by
    rw [sForGo_cons, lr0_body T _ _ _ _ _ _ _ _ _ 0 ss q0, sForGo_cons, lr0_body T _ _ _ _ _ _ _ _ _ 1 ss q1]
    rfl
  have r2 : rngD 0 2 = [.int 0, .int 1] := rfl
  have g : g__law_lengths_right_2 Mo ⟨[some (.val T), some (.val (.tup rs)), some (.val (.tup vs)), x3, x4, x5, x6, x7, x8, x9], ss⟩ = some ⟨[some (.val T), some (.val (.tup rs)), some (.val (.tup vs)), x3, some (.val Mo), x5, x6, x7, x8, x9], ss⟩ := rfl
  rw [g]
  show (b__law_lengths_right_2 _).loop k = _
  have b : b__law_lengths_right_2 ⟨[some (.val T), some (.val (.tup rs)), some (.val (.tup vs)), x3, some (.val Mo), x5, x6, x7, x8, x9], ss⟩ = .nx ⟨[some (.val T), some (.val (.tup rs)), some (.val (.tup vs)), x3, some (.val Mo), some (.val (.tup HE)), some (.val (.int 1)), y7, y8, x9], ss⟩ := by
    unfold b__law_lengths_right_2
    refine nxtR (w' := ⟨[some (.val T), some (.val (.tup rs)), some (.val (.tup vs)), x3, some (.val Mo), some (.val (.tup HE)), x6, x7, x8, x9], ss⟩) ?_ ?_
    · by_cases h0 : 0 < LM
      · rw [if_pos h0] at e
        simp [hM, h0, e]
      · rw [if_neg h0] at e
        simp only [cutD_one, List.drop_one] at e
        simp [hM, h0, e]
    refine nxtR (w' := ⟨[some (.val T), some (.val (.tup rs)), some (.val (.tup vs)), x3, some (.val Mo), some (.val (.tup HE)), some (.val (.int 1)), x7, x8, x9], ss⟩) ?_ ?_
    · simp [r2, f0]
    refine nxtR (w' := ⟨[some (.val T), some (.val (.tup rs)), some (.val (.tup vs)), x3, some (.val Mo), some (.val (.tup HE)), some (.val (.int 1)), y7, y8, x9], ss⟩) ?_ ?_
    · simp only [gLen_tup] at hN
      simp [hN, hs, q]
    rfl
  rw [b]
  rfl
theorem lr_run (T : D) (rs vs : List D) (N NV : Int) (O : List D) (x4 x5 x6 x7 x8 x9 y9 : Option TD.Slot) (ss : SS) (hN : gLen [.tup rs] = some (.int N)) (hV : gLen [.tup vs] = some (.int NV)) (hs : small NV = true) (hO : O = (if N < 240 then [D.tup [.str ""]] else []) ++ (if 0 < N then [D.tup []] else []))
    (q1 : sForGo g__law_lengths_right_2 b__law_lengths_right_2 O ⟨[some (.val T), some (.val (.tup rs)), some (.val (.tup vs)), some (.val (.lst O)), none, none, none, none, none, none], ss⟩ = .nx ⟨[some (.val T), some (.val (.tup rs)), some (.val (.tup vs)), some (.val (.lst O)), x4, x5, x6, x7, x8, x9], ss⟩)
    (q2 : sForGo g__law_lengths_right_3 b__law_lengths_right_3 (rngD 0 NV) ⟨[some (.val T), some (.val (.tup rs)), some (.val (.tup vs)), some (.val (.lst O)), x4, x5, x6, x7, x8, x9], ss⟩ = .nx ⟨[some (.val T), some (.val (.tup rs)), some (.val (.tup vs)), some (.val (.lst O)), x4, x5, x6, x7, x8, y9], ss⟩)
    (q3 : m__law_asked [.int 2, T, .tup vs, .int 0] ss = .ok (.tup [.str "told", .tup rs]) ss) (ok : D.oks 63 rs = true) : m__law_lengths_right [T, .tup rs, .tup vs] ss = .ok (.bl true) ss := by
  have b1 := is_told_eq rs ok ss
  simp only [gLen_tup] at hN hV
  show (e__law_lengths_right ⟨[some (.val T), some (.val (.tup rs)), some (.val (.tup vs)), none, none, none, none, none, none, none], ss⟩).fin = _
  unfold e__law_lengths_right
  refine nxtF (w' := ⟨[some (.val T), some (.val (.tup rs)), some (.val (.tup vs)), some (.own []), none, none, none, none, none, none], ss⟩) (by simp) ?_
  refine nxtF (w' := ⟨[some (.val T), some (.val (.tup rs)), some (.val (.tup vs)), some (.own (if N < 240 then [D.tup [.str ""]] else [])), none, none, none, none, none, none], ss⟩) (by by_cases c : N < 240 <;> simp [hN, c]) ?_
  refine nxtF (w' := ⟨[some (.val T), some (.val (.tup rs)), some (.val (.tup vs)), some (.own O), none, none, none, none, none, none], ss⟩) (by by_cases c : N < 240 <;> by_cases d : 0 < N <;> simp [hN, c, d, hO]) ?_
  refine nxtF (w' := ⟨[some (.val T), some (.val (.tup rs)), some (.val (.tup vs)), some (.val (.lst O)), x4, x5, x6, x7, x8, x9], ss⟩) (by simp [q1]) ?_
  refine nxtF (w' := ⟨[some (.val T), some (.val (.tup rs)), some (.val (.tup vs)), some (.val (.lst O)), x4, x5, x6, x7, x8, y9], ss⟩) (by simp [hV, hs, q2]) ?_
  simp [q3, b1]
theorem more_step {l : List Int} (hl : Dl l) (rs : List D) (hR : rs.length = l.length) (H : Nat) (hH : hnd l = H) (hH2 : H ≤ 1000) (Mo : List D) (LM : Int) (hM : (Mo.length : Int) = LM) (hc : (Mo.length = 1) ∨ (Mo = [] ∧ 0 < l.length)) (x3 x4 x5 x6 x7 x8 x9 : Option TD.Slot) (ss : SS) (k : W → RS) : ∃ y4 y5 y6 y7 y8,
    oS (g__law_lengths_right_2 (.tup Mo) ⟨[some (.val (dI l)), some (.val (.tup rs)), some (.val (.tup (vws (fun _ => rs) H l))), x3, x4, x5, x6, x7, x8, x9], ss⟩) (fun w => (b__law_lengths_right_2 w).loop k) = k ⟨[some (.val (dI l)), some (.val (.tup rs)), some (.val (.tup (vws (fun _ => rs) H l))), x3, y4, y5, y6, y7, y8, x9], ss⟩ := by
  have h1 := hl.len
  have gM : gLen [.tup Mo] = some (.int LM) := by rw [← hM]; rfl
  have h0 : 0 < LM ∨ (LM = 0 ∧ 0 < l.length) := by
    rcases hc with h | ⟨h, h'⟩
    · left; omega
    · right; subst h; exact ⟨by simpa using hM.symm, h'⟩
  obtain ⟨HE, e, hHE⟩ : ∃ HE : List D, (if 0 < LM then gAdd (.tup rs) (.tup Mo) = some (.tup HE) else TD.cutD rs (some 1) none = HE) ∧ HE.length ≠ l.length := by
    rcases hc with h | ⟨h, h'⟩
    · refine ⟨rs ++ Mo, ?_, by simp; omega⟩
      rw [if_pos (by omega), gAdd_tup, if_pos (by omega)]
    · subst h
      refine ⟨rs.drop 1, ?_, by simp; omega⟩
      rw [if_neg (by simp at hM; omega), cutD_one]
  obtain ⟨y7, y8, q⟩ := lr1_go hl rs hR H hH (.tup rs) (.tup HE) (.tup Mo) LM gM h0 x3 (some (.val (.int 1))) x9 ss H 0 x7 x8 (by omega)
  exact ⟨_, _, _, y7, y8, lr2_body (dI l) rs _ HE (.tup Mo) LM H x3 x4 x5 x6 x7 x8 x9 y7 y8 ss gM (by simp [vws]) (small_len (by omega)) e (asked_unl 0 _ _ _ _ ss (.inl ⟨rfl, view_unl hl HE hHE _ ss⟩)) (asked_unl 1 _ _ _ _ ss (.inr (.inl ⟨rfl, shortened_unl hl HE hHE ss⟩))) q k⟩
theorem lengths_right {l : List Int} (hl : Dl l) (rs : List D) (hR : rs.length = l.length) (ok : D.oks 63 rs = true) (H : Nat) (hH : hnd l = H) (ss : SS) : m__law_lengths_right [dI l, .tup rs, .tup (vws (fun _ => rs) H l)] ss = .ok (.bl true) ss := by
  have h1 := hl.len
  have hle := hnd_le hl
  have hlen : (vws (fun _ => rs) H l).length = H := by simp [vws]
  have q3 : m__law_asked [.int 2, dI l, .tup (vws (fun _ => rs) H l), .int 0] ss = .ok (.tup [.str "told", .tup rs]) ss := by
    refine asked_ok 2 _ _ _ _ ss (.inr (.inr ⟨rfl, ?_⟩))
    rw [pt_eq hl (fun _ => rs) (fun _ => hR) H (by omega) (by omega) (fun x hx => by have := hnd_lt x hx; omega) ss, mix_const _ _ _ (by simp [hR])]
    rfl
  have key : ∀ (O : List D) (x3 x4 x5 x6 x7 x8 x9 : Option TD.Slot), (∀ d ∈ O, ∃ Mo : List D, d = .tup Mo ∧ ((Mo.length = 1) ∨ (Mo = [] ∧ 0 < l.length))) → ∃ y4 y5 y6 y7 y8, sForGo g__law_lengths_right_2 b__law_lengths_right_2 O ⟨[some (.val (dI l)), some (.val (.tup rs)), some (.val (.tup (vws (fun _ => rs) H l))), x3, x4, x5, x6, x7, x8, x9], ss⟩ = .nx ⟨[some (.val (dI l)), some (.val (.tup rs)), some (.val (.tup (vws (fun _ => rs) H l))), x3, y4, y5, y6, y7, y8, x9], ss⟩ := by
    intro O
    induction O with
    | nil => intro x3 x4 x5 x6 x7 x8 x9 _; exact ⟨_, _, _, _, _, rfl⟩
    | cons d O ih =>
      intro x3 x4 x5 x6 x7 x8 x9 h
      obtain ⟨Mo, rfl, hc⟩ := h d (List.mem_cons_self ..)
      obtain ⟨y4, y5, y6, y7, y8, e⟩ := more_step hl rs hR H hH (by omega) Mo _ rfl hc x3 x4 x5 x6 x7 x8 x9 ss (sForGo g__law_lengths_right_2 b__law_lengths_right_2 O)
      obtain ⟨z4, z5, z6, z7, z8, e2⟩ := ih x3 y4 y5 y6 y7 y8 x9 fun d hd => h d (List.mem_cons_of_mem _ hd)
      exact ⟨z4, z5, z6, z7, z8, by rw [sForGo_cons, e, e2]⟩
  obtain ⟨y4, y5, y6, y7, y8, q1⟩ := key ((if (rs.length : Int) < 240 then [D.tup [.str ""]] else []) ++ (if 0 < (rs.length : Int) then [D.tup []] else [])) (some (.val (.lst ((if (rs.length : Int) < 240 then [D.tup [.str ""]] else []) ++ (if 0 < (rs.length : Int) then [D.tup []] else []))))) none none none none none none (fun d hd => by
    rcases List.mem_append.mp hd with hd | hd
    · split at hd
      · have : d = .tup [.str ""] := by simpa using hd
        subst this
        exact ⟨_, rfl, .inl rfl⟩
      · cases hd
    · split at hd
      · have : d = .tup [] := by simpa using hd
        subst this
        exact ⟨_, rfl, .inr ⟨rfl, by omega⟩⟩
      · cases hd)
  obtain ⟨y9, q2⟩ := lr3_go hl (vws (fun _ => rs) H l) H hH hlen (.tup rs) (some (.val (.lst ((if (rs.length : Int) < 240 then [D.tup [.str ""]] else []) ++ (if 0 < (rs.length : Int) then [D.tup []] else []))))) y4 y5 y6 y7 y8 ss H 0 none (by omega)
  exact lr_run (dI l) rs _ rs.length H _ y4 y5 y6 y7 y8 none y9 ss (by simp) (by simp [hlen]) (small_len (by omega)) rfl q1 q2 q3 ok
end K32

set_option Elab.async false
set_option linter.all false
set_option maxRecDepth 100000
set_option maxHeartbeats 4000000
namespace K32
open PySem PySem.Spec PyProof.Rows L2 TD TP
open K31 (isDeal NoS bad Dl dI nos_dI hnd blks go encB B3 shrt nb isCnt)
/-! ### what is no deal -/
theorem asked_nd {d : D} (h : NoS d) (hd : isDeal d = false) (w : Int) (hw : w = 0 ∨ w = 1 ∨ w = 2) (r x : D) (ss : SS) : m__law_asked [.int w, d, r, x] ss = .ok (.tup [.str "value", .str "deal"]) ss := by
  refine asked_bad w d r x ss ?_
  rcases hw with rfl | rfl | rfl
  · exact .inl ⟨rfl, view_no h hd r x ss⟩
  · exact .inr (.inl ⟨rfl, shortened_no h hd r ss⟩)
  · exact .inr (.inr ⟨rfl, pt_no h hd r ss⟩)
theorem rr0_body (v hd : D) (w : Int) (E : TD.Env) (x13 : Option TD.Slot) (ss : SS) (x0 x1 x2 x3 x4 x5 x6 x7 x8 x9 x10 : Option TD.Slot) (q : m__law_asked [.int w, v, hd, .int 0] ss = .ok (.tup [.str "value", .str "deal"]) ss) (k : W → RS) :
    oS (g__law_refusals_right_0 (.int w) ⟨[x0, x1, x2, x3, x4, x5, x6, x7, x8, x9, x10, some (.val v), some (.val hd), x13], ss⟩) (fun w => (b__law_refusals_right_0 w).loop k) = k ⟨[x0, x1, x2, x3, x4, x5, x6, x7, x8, x9, x10, some (.val v), some (.val hd), some (.val (.int w))], ss⟩ := by
  simp [g__law_refusals_right_0, b__law_refusals_right_0, q]
theorem r2 : rngD 0 2 = [.int 0, .int 1] := rfl
theorem rr1_body (v hd : D) (h : NoS v) (hv : isDeal v = false) (ss : SS) (x0 x1 x2 x3 x4 x5 x6 x7 x8 x9 x10 x12 x13 : Option TD.Slot) (k : W → RS) :
    oS (g__law_refusals_right_1 hd ⟨[x0, x1, x2, x3, x4, x5, x6, x7, x8, x9, x10, some (.val v), x12, x13], ss⟩) (fun w => (b__law_refusals_right_1 w).loop k) = k ⟨[x0, x1, x2, x3, x4, x5, x6, x7, x8, x9, x10, some (.val v), some (.val hd), some (.val (.int 1))], ss⟩ := by
  have f0 : sForGo g__law_refusals_right_0 b__law_refusals_right_0 [.int 0, .int 1] ⟨[x0, x1, x2, x3, x4, x5, x6, x7, x8, x9, x10, some (.val v), some (.val hd), x13], ss⟩ = .nx ⟨[x0, x1, x2, x3, x4, x5, x6, x7, x8, x9, x10, some (.val v), some (.val hd), some (.val (.int 1))], ss⟩ := by
    rw [sForGo_cons, rr0_body v hd 0 [] _ ss _ _ _ _ _ _ _ _ _ _ _ (asked_nd h hv 0 (.inl rfl) _ _ ss), sForGo_cons, rr0_body v hd 1 [] _ ss _ _ _ _ _ _ _ _ _ _ _ (asked_nd h hv 1 (.inr (.inl rfl)) _ _ ss)]
    rfl
  simp [g__law_refusals_right_1, b__law_refusals_right_1, r2, f0]
theorem rr2_body (v hd : D) (h : NoS v) (hv : isDeal v = false) (ss : SS) (x0 x1 x2 x3 x4 x5 x6 x7 x8 x9 x10 x12 x13 : Option TD.Slot) (k : W → RS) :
    oS (g__law_refusals_right_2 hd ⟨[x0, x1, x2, x3, x4, x5, x6, x7, x8, x9, x10, some (.val v), x12, x13], ss⟩) (fun w => (b__law_refusals_right_2 w).loop k) = k ⟨[x0, x1, x2, x3, x4, x5, x6, x7, x8, x9, x10, some (.val v), some (.val hd), x13], ss⟩ := by
  have q := asked_nd h hv 2 (.inr (.inr rfl)) hd (.int 0) ss
  simp [g__law_refusals_right_2, b__law_refusals_right_2, q]
theorem rr3_body (v T : D) (rs vs : List D) (h : NoS v) (hv : isDeal v = false) (ss : SS) (x0 x3 x4 x5 x6 x7 x9 x10 x11 x12 x13 : Option TD.Slot) (k : W → RS) : ∃ y12 y13,
    oS (g__law_refusals_right_3 v ⟨[x0, some (.val T), some (.val (.tup rs)), x3, x4, x5, x6, x7, some (.val (.tup vs)), x9, x10, x11, x12, x13], ss⟩) (fun w => (b__law_refusals_right_3 w).loop k) = k ⟨[x0, some (.val T), some (.val (.tup rs)), x3, x4, x5, x6, x7, some (.val (.tup vs)), x9, x10, some (.val v), y12, y13], ss⟩ := by
  have f1 : ∀ A B, sForGo g__law_refusals_right_1 b__law_refusals_right_1 [A, B] ⟨[x0, some (.val T), some (.val (.tup rs)), x3, x4, x5, x6, x7, some (.val (.tup vs)), x9, x10, some (.val v), x12, x13], ss⟩ = .nx ⟨[x0, some (.val T), some (.val (.tup rs)), x3, x4, x5, x6, x7, some (.val (.tup vs)), x9, x10, some (.val v), some (.val B), some (.val (.int 1))], ss⟩ := fun A B => by
    rw [sForGo_cons, rr1_body v A h hv, sForGo_cons, rr1_body v B h hv]
    rfl
  have f2 : ∀ A B x12 x13, sForGo g__law_refusals_right_2 b__law_refusals_right_2 [A, B] ⟨[x0, some (.val T), some (.val (.tup rs)), x3, x4, x5, x6, x7, some (.val (.tup vs)), x9, x10, some (.val v), x12, x13], ss⟩ = .nx ⟨[x0, some (.val T), some (.val (.tup rs)), x3, x4, x5, x6, x7, some (.val (.tup vs)), x9, x10, some (.val v), some (.val B), x13], ss⟩ := fun A B x12 x13 => by
    rw [sForGo_cons, rr2_body v A h hv, sForGo_cons, rr2_body v B h hv]
    rfl
  exact ⟨_, _, by simp [g__law_refusals_right_3, b__law_refusals_right_3, f1, f2]; rfl⟩
theorem rr3_go (T : D) (rs vs : List D) (ss : SS) (x0 x3 x4 x5 x6 x7 x9 x10 : Option TD.Slot) : ∀ (ds : List D) (x11 x12 x13 : Option TD.Slot), (∀ v ∈ ds, NoS v ∧ isDeal v = false) →
    ∃ y11 y12 y13, sForGo g__law_refusals_right_3 b__law_refusals_right_3 ds ⟨[x0, some (.val T), some (.val (.tup rs)), x3, x4, x5, x6, x7, some (.val (.tup vs)), x9, x10, x11, x12, x13], ss⟩ = .nx ⟨[x0, some (.val T), some (.val (.tup rs)), x3, x4, x5, x6, x7, some (.val (.tup vs)), x9, x10, y11, y12, y13], ss⟩
  | [], x11, x12, x13, _ => ⟨x11, x12, x13, rfl⟩
  | v :: ds, x11, x12, x13, h => by
    obtain ⟨h1, h2⟩ := h v (List.mem_cons_self ..)
    obtain ⟨y12, y13, e⟩ := rr3_body v T rs vs h1 h2 ss x0 x3 x4 x5 x6 x7 x9 x10 x11 x12 x13 (sForGo g__law_refusals_right_3 b__law_refusals_right_3 ds)
    obtain ⟨z11, z12, z13, e2⟩ := rr3_go T rs vs ss x0 x3 x4 x5 x6 x7 x9 x10 ds (some (.val v)) y12 y13 fun v hv => h v (List.mem_cons_of_mem _ hv)
    exact ⟨z11, z12, z13, by rw [sForGo_cons, e, e2]⟩
def odds : List D := [.int 4, .int (-1), .int 1000000, .non, .str "0", .tup [.int 0]]
theorem odds_bad : ∀ o ∈ odds, o ≠ .src ∧ isCnt o 0 3 = false := by
  intro o ho
  unfold odds at ho
  simp only [List.mem_cons, List.not_mem_nil, or_false] at ho
  rcases ho with rfl | rfl | rfl | rfl | rfl | rfl <;> exact ⟨by simp, rfl⟩
theorem odd_at (K : Int) (h0 : 0 ≤ K) (h1 : K < 6) : ∃ o p, atI odds K = some o ∧ atI odds (K - 1) = some p ∧ o ∈ odds ∧ p ∈ odds := by
  have : K = 0 ∨ K = 1 ∨ K = 2 ∨ K = 3 ∨ K = 4 ∨ K = 5 := by omega
  rcases this with h | h | h | h | h | h <;> subst h <;> exact ⟨_, _, rfl, rfl, by simp [odds], by simp [odds]⟩
theorem put_nd (l : List Int) (i : Nat) (o : D) (h : o ≠ .src ∧ isCnt o 0 3 = false) : NoS (.tup (put (l.map D.int) i o)) ∧ isDeal (.tup (put (l.map D.int) i o)) = false := by
  refine ⟨fun e he => ?_, ?_⟩
  · unfold put at he
    rcases List.mem_append.mp he with he | he
    · exact nos_dI l e (List.mem_of_mem_take he)
    · rcases List.mem_cons.mp he with rfl | he
      · exact h.1
      · exact nos_dI l e (List.mem_of_mem_drop he)
  · show (decide _ && (put (l.map D.int) i o).all fun d => isCnt d 0 3) = false
    rw [Bool.and_eq_false_iff]
    right
    rw [List.all_eq_false]
    exact ⟨o, by simp [put], by simp [h.2]⟩
theorem rm_step1 (ls : List D) (R : D) (x3 x4 x5 : Option TD.Slot) (d : D) (i N : Int) (h0 : 0 < N) (hN : gLen [.tup ls] = some (.int N)) (e : atI ls (i % N) = some d) (ss : SS) : lcStep [7] (gsName 7) mYes (mIfE (mB (mBin gGt (mBlt gLen (mCons (mVar 1) (mNil))) (mC (.int 0)))) (mBin gIx (mVar 1) (mBin gMod (mBlt gInt (mCons (mVar 7) (mNil))) (mBlt gLen (mCons (mVar 1) (mNil))))) (mC (.int 2))) (.int i) ⟨[some (.val .src), some (.val (.tup ls)), some (.val R), x3, x4, x5, none, none, none, none, none, none, none, none], ss⟩ =
    .ok (some d) ⟨[some (.val .src), some (.val (.tup ls)), some (.val R), x3, x4, x5, none, none, none, none, none, none, none, none], ss⟩ := by
  simp only [gLen_tup] at hN
  have h1 : ¬ N = 0 := by omega
  simp [lcStep, hN, h0, h1, e]
theorem rm_step0 (ls : List D) (R : D) (x3 x4 x5 : Option TD.Slot) (i : Int) (hN : gLen [.tup ls] = some (.int 0)) (ss : SS) : lcStep [7] (gsName 7) mYes (mIfE (mB (mBin gGt (mBlt gLen (mCons (mVar 1) (mNil))) (mC (.int 0)))) (mBin gIx (mVar 1) (mBin gMod (mBlt gInt (mCons (mVar 7) (mNil))) (mBlt gLen (mCons (mVar 1) (mNil))))) (mC (.int 2))) (.int i) ⟨[some (.val .src), some (.val (.tup ls)), some (.val R), x3, x4, x5, none, none, none, none, none, none, none, none], ss⟩ =
    .ok (some (.int 2)) ⟨[some (.val .src), some (.val (.tup ls)), some (.val R), x3, x4, x5, none, none, none, none, none, none, none, none], ss⟩ := by
  simp only [gLen_tup] at hN
  simp [lcStep, hN]
theorem rv_step (T R V : D) (x3 x4 x5 x6 x7 : Option TD.Slot) (i : Int) (ss : SS) (v : m__law_view [T, R, .int i] ss = .ok V ss) : lcStep [9] (gsName 9) mYes (mCall 3 m__law_view (mCons (mVar 1) (mCons (mVar 2) (mCons (mVar 9) (mNil))))) (.int i) ⟨[some (.val .src), some (.val T), some (.val R), x3, x4, x5, x6, x7, none, none, none, none, none, none], ss⟩ =
    .ok (some V) ⟨[some (.val .src), some (.val T), some (.val R), x3, x4, x5, x6, x7, none, none, none, none, none, none], ss⟩ := by
  simp [lcStep, v]
theorem rr_run (ls rs vs M P Q : List D) (N A K Hn : Int) (o p : D) (y11 y12 y13 : Option TD.Slot) (ss ss1 ss2 : SS) (hN : gLen [.tup ls] = some (.int N)) (p1 : pickM [.src, .int (N + 1)] ss = .ok (.int A) ss1) (p2 : pickM [.src, .int 6] ss1 = .ok (.int K) ss2)
    (q1 : lcGo [7] (gsName 7) mYes (mIfE (mB (mBin gGt (mBlt gLen (mCons (mVar 1) (mNil))) (mC (.int 0)))) (mBin gIx (mVar 1) (mBin gMod (mBlt gInt (mCons (mVar 7) (mNil))) (mBlt gLen (mCons (mVar 1) (mNil))))) (mC (.int 2))) (rngD 0 241) [] ⟨[some (.val .src), some (.val (.tup ls)), some (.val (.tup rs)), some (.val (.int A)), some (.own odds), some (.val (.int K)), none, none, none, none, none, none, none, none], ss2⟩ = .ok M ⟨[some (.val .src), some (.val (.tup ls)), some (.val (.tup rs)), some (.val (.int A)), some (.own odds), some (.val (.int K)), none, none, none, none, none, none, none, none], ss2⟩)
    (c1 : m__law_hands [.tup ls] ss2 = .ok (.int Hn) ss2) (hs : small Hn = true)
    (q2 : lcGo [9] (gsName 9) mYes (mCall 3 m__law_view (mCons (mVar 1) (mCons (mVar 2) (mCons (mVar 9) (mNil))))) (rngD 0 Hn) [] ⟨[some (.val .src), some (.val (.tup ls)), some (.val (.tup rs)), some (.val (.int A)), some (.own odds), some (.val (.int K)), some (.val (.tup M)), none, none, none, none, none, none, none], ss2⟩ = .ok vs ⟨[some (.val .src), some (.val (.tup ls)), some (.val (.tup rs)), some (.val (.int A)), some (.own odds), some (.val (.int K)), some (.val (.tup M)), none, none, none, none, none, none, none], ss2⟩)
    (hP : TD.cutD ls none (some A) = P) (hQ : TD.cutD ls (some (A + 1)) none = Q) (hl : P.length + Q.length ≤ 1000) (ho : atI odds K = some o) (hp : atI odds (K - 1) = some p)
    (q3 : sForGo g__law_refusals_right_3 b__law_refusals_right_3 [.tup (P ++ o :: Q), .tup M, .tup (P ++ p :: Q), .non, .str "01"] ⟨[some (.val .src), some (.val (.tup ls)), some (.val (.tup rs)), some (.val (.int A)), some (.own odds), some (.val (.int K)), some (.val (.tup M)), none, some (.val (.tup vs)), none, some (.val (.lst [.tup (P ++ o :: Q), .tup M, .tup (P ++ p :: Q), .non, .str "01"])), none, none, none], ss2⟩ = .nx ⟨[some (.val .src), some (.val (.tup ls)), some (.val (.tup rs)), some (.val (.int A)), some (.own odds), some (.val (.int K)), some (.val (.tup M)), none, some (.val (.tup vs)), none, some (.val (.lst [.tup (P ++ o :: Q), .tup M, .tup (P ++ p :: Q), .non, .str "01"])), y11, y12, y13], ss2⟩)
    (q4 : m__law_lengths_right [.tup ls, .tup rs, .tup vs] ss2 = .ok (.bl true) ss2) : m__law_refusals_right [.src, .tup ls, .tup rs] ss = .ok (.bl true) ss2 := by
  have e5 : P.length + 1 ≤ 1000000 := by omega
  have e6 : P.length + 1 + Q.length ≤ 1000000 := by omega
  simp only [gLen_tup] at hN
  show (e__law_refusals_right ⟨[some (.val .src), some (.val (.tup ls)), some (.val (.tup rs)), none, none, none, none, none, none, none, none, none, none, none], ss⟩).fin = _
  unfold e__law_refusals_right
  refine nxtF (w' := ⟨[some (.val .src), some (.val (.tup ls)), some (.val (.tup rs)), some (.val (.int A)), none, none, none, none, none, none, none, none, none, none], ss1⟩) (by simp [pick_eq, hN, p1]) ?_
  refine nxtF (w' := ⟨[some (.val .src), some (.val (.tup ls)), some (.val (.tup rs)), some (.val (.int A)), some (.own odds), none, none, none, none, none, none, none, none, none], ss1⟩) (by simp [odds]) ?_
  refine nxtF (w' := ⟨[some (.val .src), some (.val (.tup ls)), some (.val (.tup rs)), some (.val (.int A)), some (.own odds), some (.val (.int K)), none, none, none, none, none, none, none, none], ss2⟩) (by simp [pick_eq, p2]) ?_
  refine nxtF (w' := ⟨[some (.val .src), some (.val (.tup ls)), some (.val (.tup rs)), some (.val (.int A)), some (.own odds), some (.val (.int K)), some (.val (.tup M)), none, none, none, none, none, none, none], ss2⟩) (by simp [s241, q1]) ?_
  refine nxtF (w' := ⟨[some (.val .src), some (.val (.tup ls)), some (.val (.tup rs)), some (.val (.int A)), some (.own odds), some (.val (.int K)), some (.val (.tup M)), none, some (.val (.tup vs)), none, none, none, none, none], ss2⟩) (by simp [c1, hs, q2]) ?_
  refine nxtF (w' := ⟨[some (.val .src), some (.val (.tup ls)), some (.val (.tup rs)), some (.val (.int A)), some (.own odds), some (.val (.int K)), some (.val (.tup M)), none, some (.val (.tup vs)), none, some (.own [.tup (P ++ o :: Q), .tup M, .tup (P ++ p :: Q), .non, .str "01"]), none, none, none], ss2⟩) (by generalize odds = OD at *; simp [hP, hQ, e5, e6, ho, hp]) ?_
  refine nxtF (w' := ⟨[some (.val .src), some (.val (.tup ls)), some (.val (.tup rs)), some (.val (.int A)), some (.own odds), some (.val (.int K)), some (.val (.tup M)), none, some (.val (.tup vs)), none, some (.val (.lst [.tup (P ++ o :: Q), .tup M, .tup (P ++ p :: Q), .non, .str "01"])), y11, y12, y13], ss2⟩) (by generalize odds = OD at *; simp [q3]) ?_
  generalize odds = OD at *
  simp [q4]
theorem refusals_right {l : List Int} (hl : Dl l) {L : List Nat} (hL : Let L) (ts : List (List Nat)) (ht : Rw L l.length ts) (ss : SS) (hs : SsOk ss) : ∃ ss', m__law_refusals_right [.src, dI l, rowD ts] ss = .ok (.bl true) ss' ∧ SsOk ss' := by
  have h1 := hl.len
  have hn := hnd_nn l
  have hle := hnd_le hl
  obtain ⟨H, hH⟩ := Int.eq_ofNat_of_zero_le hn
  have lt : (ts.map tS).length = l.length := by simpa using ht.len
  have ok : D.oks 63 (ts.map tS) = true := oks_row 63 ts (ht.asc hL)
  obtain ⟨A, ss1, p1, a1, b1, hs1⟩ := (pick_ok ss hs ((l.length : Int) + 1) (by omega) (by omega)).ex
  obtain ⟨K, ss2, p2, a2, b2, hs2⟩ := (pick_ok ss1 hs1 6 (by decide) (by decide)).ex
  obtain ⟨i, rfl⟩ := Int.eq_ofNat_of_zero_le a1
  obtain ⟨o, p, ho, hp, mo, mp⟩ := odd_at K a2 b2
  have q1 := lc_rng (v := 7) (me := mIfE (mB (mBin gGt (mBlt gLen (mCons (mVar 1) (mNil))) (mC (.int 0)))) (mBin gIx (mVar 1) (mBin gMod (mBlt gInt (mCons (mVar 7) (mNil))) (mBlt gLen (mCons (mVar 1) (mNil))))) (mC (.int 2))) (fun (j : Nat) => D.int (if 0 < l.length then l.getD (j % l.length) 0 else 2)) [some (.val .src), some (.val (.tup (l.map D.int))), some (.val (.tup (ts.map tS))), some (.val (.int i)), some (.own odds), some (.val (.int K)), none, none, none, none, none, none, none, none] 241 (by decide) ss2 fun j hj => by
    by_cases h0 : 0 < l.length
    · have hm : j % l.length < l.length := Nat.mod_lt _ h0
      refine rm_step1 (l.map D.int) _ _ _ _ _ j l.length (by omega) (by simp) ?_ ss2
      rw [atI_map, show (j : Int) % (l.length : Int) = ((j % l.length : Nat) : Int) from rfl, atI_nat (j := j % l.length) (List.getElem?_eq_getElem hm)]
      simp [h0, List.getD, hm]
    · have e0 : l = [] := List.length_eq_zero_iff.mp (by omega)
      subst e0
      exact rm_step0 [] _ _ _ _ j rfl ss2
  have hM : NoS (.tup ((List.range 241).map (fun (j : Nat) => D.int (if 0 < l.length then l.getD (j % l.length) 0 else 2)))) ∧ isDeal (.tup ((List.range 241).map (fun (j : Nat) => D.int (if 0 < l.length then l.getD (j % l.length) 0 else 2)))) = false := by
    refine ⟨fun e he => ?_, ?_⟩
    · obtain ⟨j, _, rfl⟩ := List.mem_map.mp he
      simp
    · have e : ((List.range 241).map (fun (j : Nat) => D.int (if 0 < l.length then l.getD (j % l.length) 0 else 2))).length = 241 := by rw [List.length_map, List.length_range]
      generalize (List.range 241).map (fun (j : Nat) => D.int (if 0 < l.length then l.getD (j % l.length) 0 else 2)) = M at e ⊢
      show (decide (M.length ≤ 240) && M.all _) = false
      rw [e]
      rfl
  generalize (List.range 241).map (fun (j : Nat) => D.int (if 0 < l.length then l.getD (j % l.length) 0 else 2)) = M at q1 hM
  have q2 := lc_rng (v := 9) (me := mCall 3 m__law_view (mCons (mVar 1) (mCons (mVar 2) (mCons (mVar 9) (mNil))))) (fun (h : Nat) => .tup (vw h l (ts.map tS))) [some (.val .src), some (.val (.tup (l.map D.int))), some (.val (.tup (ts.map tS))), some (.val (.int i)), some (.own odds), some (.val (.int K)), some (.val (.tup M)), none, none, none, none, none, none, none] H (by omega) ss2 fun h hh =>
    rv_step (dI l) (rowD ts) _ _ _ _ _ _ h ss2 (law_view_eq hl (ts.map tS) lt h ss2)
  obtain ⟨no, do'⟩ := put_nd l i o (odds_bad o mo)
  obtain ⟨np, dp⟩ := put_nd l i p (odds_bad p mp)
  have bads : ∀ v ∈ [D.tup (put (l.map D.int) i o), .tup M, .tup (put (l.map D.int) i p), .non, .str "01"], NoS v ∧ isDeal v = false := by
    intro v hv
    simp only [List.mem_cons, List.not_mem_nil, or_false] at hv
    rcases hv with rfl | rfl | rfl | rfl | rfl
    · exact ⟨no, do'⟩
    · exact hM
    · exact ⟨np, dp⟩
    · exact ⟨trivial, rfl⟩
    · exact ⟨trivial, rfl⟩
  obtain ⟨y11, y12, y13, q3⟩ := rr3_go (dI l) (ts.map tS) (vws (fun _ => ts.map tS) H l) ss2 (some (.val .src)) (some (.val (.int i))) (some (.own odds)) (some (.val (.int K))) (some (.val (.tup M))) none none (some (.val (.lst [D.tup (put (l.map D.int) i o), .tup M, .tup (put (l.map D.int) i p), .non, .str "01"]))) _ none none none bads
  refine ⟨ss2, rr_run (l.map D.int) (ts.map tS) (vws (fun _ => ts.map tS) H l) M ((l.map D.int).take i) ((l.map D.int).drop (i + 1)) l.length i K H o p y11 y12 y13 ss ss1 ss2 (by simp) p1 p2 q1 ?_ (small_len (by omega)) q2 (cutD_to _ _) (cutD_from1 _ _) (by simp; omega) ho hp q3 ?_, hs2⟩
  · have := law_hands_eq l ss2
    rw [hH] at this
    exact this
  · exact lengths_right hl (ts.map tS) lt ok H hH ss2
/-! ### the law -/
def wD (l : List Int) (ts us : List (List Nat)) (L : List Nat) : D := .tup [dI l, rowD ts, rowD us, tS L]
theorem l0_body (S T R O L : D) (n : Int) (i : Int) (acc : List D) (x3 x4 x5 x6 x7 : Option TD.Slot) (ss ss1 ss2 ss3 ss4 : SS) (ha : acc.length < 1000) (e1 : m__law_any_letters [.src] ss = .ok L ss1) (e2 : m__law_wide_deal [.src] ss1 = .ok T ss2) (hn : gLen [T] = some (.int n)) (e3 : m__law_row [.src, L, .int n, .int 4] ss2 = .ok R ss3) (e4 : m__law_row [.src, L, .int n, .int 4] ss3 = .ok O ss4) (k : W → RS) :
    oS (g_law_0 (.int i) ⟨[none, some (.val .src), some (.own acc), x3, x4, x5, x6, x7], ss⟩) (fun w => (b_law_0 w).loop k) = k ⟨[none, some (.val .src), some (.own (acc ++ [.tup [T, R, O, L]])), some (.val (.int i)), some (.val L), some (.val T), some (.val R), some (.val O)], ss4⟩ := by
  have ha' : acc.length < 1000000 := by omega
  simp [g_law_0, b_law_0, e1, e2, hn, e3, e4, ha']
theorem l1_body (T R O L : D) (x2 x3 x4 x5 x6 x7 : Option TD.Slot) (ss : SS) (q : m__law_views_right [T, R, O, L] ss = .ok (.bl true) ss) (k : W → RS) :
    oS (g_law_1 (.tup [T, R, O, L]) ⟨[none, some (.val .src), x2, x3, x4, x5, x6, x7], ss⟩) (fun w => (b_law_1 w).loop k) = k ⟨[none, some (.val .src), x2, x3, some (.val L), some (.val T), some (.val R), some (.val O)], ss⟩ := by
  simp [g_law_1, b_law_1, q]
theorem l2_body (T R O L : D) (x2 x3 x4 x5 x6 x7 : Option TD.Slot) (ss ss1 ss2 : SS) (q : m__law_is_row_right [.src, R, L] ss = .ok (.bl true) ss1) (q2 : m__law_refusals_right [.src, T, O] ss1 = .ok (.bl true) ss2) (k : W → RS) :
    oS (g_law_2 (.tup [T, R, O, L]) ⟨[none, some (.val .src), x2, x3, x4, x5, x6, x7], ss⟩) (fun w => (b_law_2 w).loop k) = k ⟨[none, some (.val .src), x2, x3, some (.val L), some (.val T), some (.val R), some (.val O)], ss2⟩ := by
  simp [g_law_2, b_law_2, q, q2]
theorem law_run (T1 R1 O1 L1 T2 R2 O2 L2 : D) (ss ss1 ss2 : SS) (q0 : sForGo g_law_0 b_law_0 [.int 0, .int 1] ⟨[none, some (.val .src), some (.own []), none, none, none, none, none], ss⟩ = .nx ⟨[none, some (.val .src), some (.own [.tup [T1, R1, O1, L1], .tup [T2, R2, O2, L2]]), some (.val (.int 1)), some (.val L2), some (.val T2), some (.val R2), some (.val O2)], ss1⟩)
    (v1 : m__law_views_right [T1, R1, O1, L1] ss1 = .ok (.bl true) ss1) (v2 : m__law_views_right [T2, R2, O2, L2] ss1 = .ok (.bl true) ss1)
    (q2 : ∀ x2, sForGo g_law_2 b_law_2 [.tup [T1, R1, O1, L1], .tup [T2, R2, O2, L2]] ⟨[none, some (.val .src), x2, some (.val (.int 1)), some (.val L1), some (.val T1), some (.val R1), some (.val O1)], ss1⟩ = .nx ⟨[none, some (.val .src), x2, some (.val (.int 1)), some (.val L2), some (.val T2), some (.val R2), some (.val O2)], ss2⟩)
    (v3 : m__law_views_right [T1, O1, R1, L1] ss2 = .ok (.bl true) ss2) : ∃ w', e_law ⟨[none, some (.val .src), none, none, none, none, none, none], ss⟩ = .ret (.bl true) w' := by
  have f1 : ∀ x2, sForGo g_law_1 b_law_1 [.tup [T1, R1, O1, L1], .tup [T2, R2, O2, L2], .tup [T1, R1, O1, L1]] ⟨[none, some (.val .src), x2, some (.val (.int 1)), some (.val L2), some (.val T2), some (.val R2), some (.val O2)], ss1⟩ = .nx ⟨[none, some (.val .src), x2, some (.val (.int 1)), some (.val L1), some (.val T1), some (.val R1), some (.val O1)], ss1⟩ := fun x2 => by
    rw [sForGo_cons, l1_body T1 R1 O1 L1 _ _ _ _ _ _ ss1 v1, sForGo_cons, l1_body T2 R2 O2 L2 _ _ _ _ _ _ ss1 v2, sForGo_cons, l1_body T1 R1 O1 L1 _ _ _ _ _ _ ss1 v1]
    rfl
  unfold e_law
  refine nxt (w' := ⟨[none, some (.val .src), some (.own []), none, none, none, none, none], ss⟩) (by simp) ?_
  refine nxt (w' := ⟨[none, some (.val .src), some (.own [.tup [T1, R1, O1, L1], .tup [T2, R2, O2, L2]]), some (.val (.int 1)), some (.val L2), some (.val T2), some (.val R2), some (.val O2)], ss1⟩) (by simp [r2, q0]) ?_
  refine nxt (w' := ⟨[none, some (.val .src), some (.val (.lst [.tup [T1, R1, O1, L1], .tup [T2, R2, O2, L2]])), some (.val (.int 1)), some (.val L1), some (.val T1), some (.val R1), some (.val O1)], ss1⟩) (by simp [f1]) ?_
  refine nxt (w' := ⟨[none, some (.val .src), some (.val (.lst [.tup [T1, R1, O1, L1], .tup [T2, R2, O2, L2]])), some (.val (.int 1)), some (.val L2), some (.val T2), some (.val R2), some (.val O2)], ss2⟩) (by simp [q2]) ?_
  refine nxt (w' := ⟨[none, some (.val .src), some (.val (.lst [.tup [T1, R1, O1, L1], .tup [T2, R2, O2, L2]])), some (.val (.int 1)), some (.val L1), some (.val T1), some (.val R1), some (.val O1)], ss2⟩) (by simp) ?_
  exact ⟨_, by simp [v3]; rfl⟩
theorem law_true : LawTrue := by
  intro cells ne nn
  have hs0 : SsOk ⟨cells, 0, 0⟩ := ⟨ne, nn, Int.le_refl _, Int.le_refl _⟩
  have world : ∀ ss : SS, SsOk ss → ∃ (l : List Int) (ts us : List (List Nat)) (L : List Nat) (ss1 ss2 ss3 ss4 : SS), Dl l ∧ Let L ∧ Rw L l.length ts ∧ Rw L l.length us ∧ m__law_any_letters [.src] ss = .ok (tS L) ss1 ∧ m__law_wide_deal [.src] ss1 = .ok (dI l) ss2 ∧ m__law_row [.src, tS L, .int l.length, .int 4] ss2 = .ok (rowD ts) ss3 ∧ m__law_row [.src, tS L, .int l.length, .int 4] ss3 = .ok (rowD us) ss4 ∧ SsOk ss4 := by
    intro ss hs
    obtain ⟨L, ss1, e1, hs1, hL⟩ := letters_eq ss hs
    obtain ⟨l, ss2, e2, hs2, hl⟩ := wide_eq ss1 hs1
    obtain ⟨ts, ss3, e3, hs3, ht⟩ := law_row_eq hL l.length hl.len ss2 hs2
    obtain ⟨us, ss4, e4, hs4, hu⟩ := law_row_eq hL l.length hl.len ss3 hs3
    exact ⟨l, ts, us, L, ss1, ss2, ss3, ss4, hl, hL, ht, hu, e1, e2, e3, e4, hs4⟩
  obtain ⟨l1, t1, u1, L1, sa1, sa2, sa3, sa4, hl1, hL1, ht1, hu1, e1, e2, e3, e4, hsa⟩ := world _ hs0
  obtain ⟨l2, t2, u2, L2, sb1, sb2, sb3, sb4, hl2, hL2, ht2, hu2, f1, f2, f3, f4, hsb⟩ := world sa4 hsa
  obtain ⟨c1, g1, hc1⟩ := is_row_right hL1 l1.length hl1.len t1 ht1 sb4 hsb
  obtain ⟨c2, g2, hc2⟩ := refusals_right hl1 hL1 u1 hu1 c1 hc1
  obtain ⟨c3, g3, hc3⟩ := is_row_right hL2 l2.length hl2.len t2 ht2 c2 hc2
  obtain ⟨c4, g4, hc4⟩ := refusals_right hl2 hL2 u2 hu2 c3 hc3
  refine law_run (dI l1) (rowD t1) (rowD u1) (tS L1) (dI l2) (rowD t2) (rowD u2) (tS L2) _ sb4 c4 ?_ (views_right hl1 hL1 t1 u1 ht1 hu1 _) (views_right hl2 hL2 t2 u2 ht2 hu2 _) (fun x2 => ?_) (views_right hl1 hL1 u1 t1 hu1 ht1 _)
  · rw [sForGo_cons, l0_body .non (dI l1) (rowD t1) (rowD u1) (tS L1) l1.length 0 [] _ _ _ _ _ _ sa1 sa2 sa3 sa4 (by simp) e1 e2 (by simp) e3 e4, sForGo_cons, l0_body .non (dI l2) (rowD t2) (rowD u2) (tS L2) l2.length 1 _ _ _ _ _ _ _ sb1 sb2 sb3 sb4 (by simp) f1 f2 (by simp) f3 f4]
    rfl
  · rw [sForGo_cons, l2_body _ _ _ _ _ _ _ _ _ _ sb4 c1 c2 g1 g2, sForGo_cons, l2_body _ _ _ _ _ _ _ _ _ _ c2 c3 c4 g3 g4]
    rfl
end K32

set_option Elab.async false
set_option linter.all false
set_option maxRecDepth 100000
set_option maxHeartbeats 4000000
namespace K32
open PySem PySem.Spec PyProof.Rows L2 TD
set_option maxHeartbeats 0
section
variable {P : Program} {w : World} {K : PySem.W.Frag} {mg : Str → Option Value} {base : Heap}
def spSource (K : PySem.W.Frag) : Sp := fun vs H Q _ => ∃ (a : Addr) (ns : List Int), vs = [.ref a] ∧ SqL K H a (ns.map V.int) ∧ ns.length ≤ 63 ∧
  ∀ H' a0 c0 cells, Ex H H' → H' a0 = some (.lst [.ref c0, .int 0, .int 0]) → H' c0 = some (.lst (cells.map V.int)) → a0 ≠ c0 → cells ≠ [] → (∀ c ∈ cells, (0 : Int) ≤ c) → Q (.ref a0) H'
def absI (i : Int) : Int := if i < 0 then -i else i
theorem ok_source {f : Addr} {fd : FuncData} (F : FunD K "_law_source" "_law_source" (defArgs s__law_source) (defBody s__law_source) (defScope s__law_source) [] [] f fd) (mabs : mg "abs" = none) (mint : mg "int" = none) (mlen : mg "len" = none) :
    FnOk P w K mg base (L2.CX P w) 1 f fd ["script"] (spSource K) := by
  have nd := sc__law_source.nd
  refine F.ok sc__law_source (fun vs H Q E h => ?_) (fun cdv A outer s H vs Q E hr h => ?_)
  · obtain ⟨a, ns, rfl, _⟩ := h
    rfl
  obtain ⟨a, ns, rfl, hS, hlen, q⟩ := h
  refine ⟨_, pss_cons (ps_setLc (i := 1) (own := [("cell", 2)]) (g := gName 2) (tt := tYes) rfl nd rfl rfl (sw_true rfl rfl rfl (by decide +kernel)) (pi_list (pe_slice sl_list (pv 0) po_none (po_some pe_int))) (blkOk_by (by kernel_rfl)) (fun _ _ _ _ _ => pg_name (i := 2) nd rfl (Or.inl rfl)) (fun _ _ _ _ _ => pts_nil)
      (fun _ _ _ _ _ => pe_callB call_abs (by rfl) mabs (by decide +kernel) (pa_cons (pe_callTy call_int1 (by rfl) mint (by decide +kernel) (pa_cons (pv 2) pa_nil)) pa_nil)))
    (pss_cons (ps_if (pt_cmpR op_eq (pe_callB call_len_seq (by rfl) mlen PySem.boot_len (pa_cons (pv 1) pa_nil)) pe_int (nomark _)) (pss_one (ps_set (i := 1) nd rfl (.inl rfl) (pe_lst (pa_cons pe_int pa_nil)))) pss_nil)
      (pss_one (ps_ret (pe_lst (pa_cons (pv 1) (pa_cons pe_int (pa_cons pe_int pa_nil))))))), ?_⟩
  -- script[:63]
  refine ⟨.ref a, rfl, 63, rfl, a, ns.map V.int, rfl, hS, fun p hp => ?_⟩
  have hcut : cutV (ns.map V.int) none (some 63) = ns.map V.int := by
    unfold cutV
    rw [show HT.sIx (ns.map V.int).length (ns.map V.int).length (some 63) = min 63 (ns.map V.int).length from HT.sIx_nat _ _ 63, HT.sIx_none, List.length_map, List.drop_zero, Nat.sub_zero]
    exact List.take_of_length_le (by rw [List.length_map]; omega)
  rw [hcut]
  have ex1 : Ex H (upd H p (.lst (ns.map V.int))) := Ex.new hp
  have hP : SqL K (upd H p (.lst (ns.map V.int))) p (ns.map V.int) := .inl (.inl upd_same)
  refine ⟨p, rfl, ⟨_, hP⟩, fun Dl hD => ?_⟩
  have tail : ∀ (c0 : Addr) (cells : List Int) (H' : Hp), Ex H H' → H' c0 = some (.lst (cells.map V.int)) → (∀ c ∈ cells, (0 : Int) ≤ c) → cells ≠ [] →
      ∀ σ : L2.St, σ[1]? = some (some (.ref c0)) → tRet (tLst (tCons (tVar 1) (tCons (tC (.int 0)) (tCons (tC (.int 0)) tNil)))) { nx := fun _ H' => Q .non H', rt := Q } σ H' := by
    intro c0 cells H' e h nn ne σ hσ
    refine ⟨.ref c0, hσ, by show 3 ≤ sizeLine; rw [sizeLine_eq]; decide, fun a0 ha => ?_⟩
    have ne2 : c0 ≠ a0 := ne_of_none h ha
    exact q _ a0 c0 cells (e.trans (Ex.new ha)) upd_same (by rw [upd_ne ne2]; exact h) ne2.symm ne nn
  refine lc_list (K := K) (xs := ns.map V.int) (a := p) (fun i H' => Ex (upd H p (.lst (ns.map V.int))) H' ∧ H' Dl = some (.lst (((ns.take i).map absI).map V.int))) ⟨Ex.new hD, upd_same⟩ (fun i H' _ h => .inl (.inl (h.1 _ _ upd_same))) (fun i x H' hx h => ?_) (fun H' h => ?_)
  · obtain ⟨h1, h2⟩ := h
    have hi : i < ns.length := by
      have := (List.getElem?_eq_some_iff.mp hx).1
      simpa using this
    have ex : x = .int ns[i] := by
      rw [List.getElem?_map, List.getElem?_eq_getElem hi] at hx
      exact (Option.some.inj hx).symm
    subst ex
    refine ⟨rfl, .int ns[i], rfl, .inl ⟨_, rfl, _, rfl, _, h2, ?_, ?_, ?_⟩⟩
    · rw [List.length_map, List.length_map, List.length_take]
      exact line_lt (by omega)
    · intro b o e
      have : b ≠ Dl := fun z => by subst z; rw [hD] at e; cases e
      rw [upd_ne this]
      exact h1 b o e
    · rw [upd_same, show ns.take (i + 1) = ns.take i ++ [ns[i]] by rw [List.take_add_one, List.getElem?_eq_getElem hi]; rfl, List.map_append, List.map_append]
      rfl
  · obtain ⟨h1, h2⟩ := h
    have hl : (ns.map V.int).length = ns.length := List.length_map ..
    rw [hl, List.take_length] at h2
    have nn : ∀ c ∈ ns.map absI, (0 : Int) ≤ c := fun c hc => by
      obtain ⟨z, _, rfl⟩ := List.mem_map.mp hc
      unfold absI
      split <;> omega
    refine ⟨.ref Dl, rfl, Dl, _, rfl, .inl (.inl (.inl h2)), rfl, _, rfl, ite2 (fun e => ?_) (fun e => ?_)⟩
    · refine ⟨by show 1 ≤ sizeLine; rw [sizeLine_eq]; decide, fun c hc => ?_⟩
      exact tail c [0] _ ((ex1.trans h1).trans (Ex.new hc)) upd_same (fun z hz => by simp at hz; omega) (by simp) _ rfl
    · refine tail Dl _ H' (ex1.trans h1) h2 nn (fun z => e ?_) _ rfl
      have z' : ns = [] := List.map_eq_nil_iff.mp z
      subst z'
      rfl

end
/-! ### the law -/
section
variable {P : Program} {w : World} {K : PySem.W.Frag} {mg : Str → Option Value} {base : Heap}
def spLaw (K : PySem.W.Frag) : Sp := fun vs H Q _ => ∃ (a : Addr) (ns : List Int), vs = [.ref a] ∧ SqL K H a (ns.map V.int) ∧ ns.length ≤ 63 ∧ ∀ H', Q (.bl true) H'
theorem ok_law (T : Txt P K mg) (hl : LawTrue) {f : Addr} {fd : FuncData} (F : FunD K "law" "law" (defArgs s_law) (defBody s_law) (defScope s_law) [] [] f fd) : FnOk P w K mg base (L2.CX P w) 9 f fd ["script"] (spLaw K) := by
  obtain ⟨fS, fdS, FS, gS⟩ := T.f__law_source
  have GS : FnOk P w K mg base (L2.CX P w) 1 fS fdS ["script"] (spSource K) := ok_source FS T.b_abs T.b_int T.b_len
  have bS : Binds K fdS ["script"] [] := FS.bindsN fun _ _ _ _ _ _ us hl => match us, hl with | [_], _ => rfl
  have nd := sc_law.nd
  refine F.ok sc_law (fun vs H Q E h => ?_) (fun cdv A outer s H vs Q E hr h => ?_)
  · obtain ⟨a, ns, rfl, _⟩ := h
    rfl
  obtain ⟨a, ns, rfl, hS, hlen, q⟩ := h
  refine ⟨_, pss_cons (ps_set (i := 1) nd rfl (by first | exact Or.inl rfl | exact Or.inr rfl) (pe_call GS (hr.mono (by decide)) (by rfl) gS FS.kp bS .nil passL (pa_cons (pv 0) pa_nil))) pss_wss, ?_⟩
  refine ⟨.ref a, rfl, a, ns, rfl, hS, hlen, fun H1 a0 c0 cells ex h1 h2 ne nn ng => ?_⟩
  have hF : Ex (upd (fun _ => none) c0 (.lst (cells.map V.int))) H1 := fun b o e => by
    by_cases hb : b = c0
    · subst hb; rw [upd_same] at e; cases e; exact h2
    · rw [upd_ne hb] at e; cases e
  have hR : Rel K ⟨a0, c0, H1, upd (fun _ => none) c0 (.lst (cells.map V.int)), 0, 0, "", 0⟩ [] (some (.ref a) :: some (.ref a0) :: List.replicate 6 none) H1 (upd (fun _ => none) c0 (.lst (cells.map V.int))) ⟨envL, ⟨cells, 0, 0⟩⟩ := by
    refine ⟨Ex.refl _, hF, fun _ _ _ h => h, fun _ _ h => .inl h, ⟨by show upd _ c0 _ a0 = none; rw [upd_ne ne], h1, upd_same, nn, ng, Int.le_refl _, Int.le_refl _⟩, by simp [envL], fun i s h => ?_, fun i j xs ys p h => ?_, (fun q hq => nomatch hq), List.nodup_nil, (fun q hq => nomatch hq)⟩
    · match i, h with
      | 0, h => cases h
      | 1, h => cases h; exact ⟨_, rfl, .src⟩
      | i + 2, h =>
        have := List.mem_of_getElem? (show (List.replicate 6 (none : Option Slot))[i]? = some (some s) from h)
        rw [List.mem_replicate] at this
        cases this.2
    · match i, h with
      | 0, h => cases h
      | 1, h => cases h
      | i + 2, h =>
        have := List.mem_of_getElem? (show (List.replicate 6 (none : Option Slot))[i]? = some (some (.own xs)) from h)
        rw [List.mem_replicate] at this
        cases this.2
  obtain ⟨w', hw⟩ := hl cells nn ng
  refine (w_law (f := f) (cdv := cdv) (E := E) T hr).run [] _ H1 _ _ _ hR ?_
  rw [hw]
  intro v σ' H' F' _ _ rv
  cases rv
  exact q H'
end
/-! ### the head -/
theorem cx_none {P : Program} {w : World} {H : Hp} {s : Shared} {e : Value} {s' : Shared} (h : L2.CX P w [] H s (fun _ _ _ => False) e s') : False := by
  obtain ⟨_, _, _, _, _, _, _, _, _, _, _, _, z⟩ := h
  exact z
/-- HeadEnd's, what may be let out hanging on the world -/
theorem walk_ofW {l : PySem.W.OpenLaw} {n k : Nat} {q : Program} {loose : List Str} {XP : (Str → Option Value) → Heap → Prop} {YP : World → Heap → Prop} {d : DefRec} {CX : World → CXT} {x : Str}
    (hn : l.most = some n) (hn2 : n ≤ sizeLine) (hdf : d.params.defaults = []) (hr : Room k callerA)
    (F : ∀ (w : World) (mg : Str → Option Value) (fa : Addr) (h : Heap), YP w h → h.Ns mainGlobals mg → mg d.name = some (.ref fa) →
      ∃ (K : PySem.W.Frag) (fd : FuncData) (sp : Sp), K.In h ∧ (∀ (s : Shared) (u : Value), BindsTo s fd ⟨[u], []⟩ [(x, u)]) ∧
        (∀ (H : Hp) (a : Addr) (ns : List Int), ns.length ≤ n → Only H → SqL K H a (ns.map V.int) → sp [.ref a] H (fun v _ => v = .bl true) fun _ _ _ => False) ∧
        ∀ base : Heap, K.In base → base.Ns mainGlobals mg → FnOk l.prog w K mg base (CX w) k fa fd [x] sp)
    (hCX : ∀ (w : World) (H : Hp) (s : Shared) (e : Value) (s' : Shared), CX w [] H s (fun _ _ _ => False) e s' → False) :
    PySem.W.WalkO q loose XP YP l.row.toRowW d [] (fun f vs => PySem.call f vs) := by
  refine Att.attach_call hn hdf fun w s₀ s₁ mg mb fa o pm cd doc a vs ns G Y ho hd hcd hmg hobj hints hlen hg => ?_
  obtain ⟨K, fd, sp, KX, hb, hsp, hF⟩ := F w mg fa _ Y G.T.g hmg
  exact law_call KX G.T.g G.T.b G.T.builtins G.T.nolimit hg hobj hints (Nat.le_trans hlen hn2) hr hF hb (fun H hO hS => hsp H a ns hlen hO hS) fun H e s' => hCX w H s₁ e s'
abbrev R0 : PySem.W.OpenRow := PySem.W.OpenLaw.row PySem.Challenge.rw_talkgrowth_k32_views
def d_is_count : He.DefD := ⟨("is_count", none), "is_count", "is_count", defArgs s_is_count, defBody s_is_count, defScope s_is_count, [], []⟩
def d_is_deal : He.DefD := ⟨("is_deal", none), "is_deal", "is_deal", defArgs s_is_deal, defBody s_is_deal, defScope s_is_deal, [], []⟩
def d_must_be_deal : He.DefD := ⟨("must_be_deal", none), "must_be_deal", "must_be_deal", defArgs s_must_be_deal, defBody s_must_be_deal, defScope s_must_be_deal, [], []⟩
def d_hands_of : He.DefD := ⟨("hands_of", none), "hands_of", "hands_of", defArgs s_hands_of, defBody s_hands_of, defScope s_hands_of, [], []⟩
def d_blocks_of : He.DefD := ⟨("blocks_of", none), "blocks_of", "blocks_of", defArgs s_blocks_of, defBody s_blocks_of, defScope s_blocks_of, [], []⟩
def d_is_row : He.DefD := ⟨("is_row", none), "is_row", "is_row", defArgs s_is_row, defBody s_is_row, defScope s_is_row, [], []⟩
def d_view_of : He.DefD := ⟨("view_of", none), "view_of", "view_of", defArgs s_view_of, defBody s_view_of, defScope s_view_of, [], []⟩
def d_put_together : He.DefD := ⟨("put_together", none), "put_together", "put_together", defArgs s_put_together, defBody s_put_together, defScope s_put_together, [], []⟩
def d_shortened : He.DefD := ⟨("shortened", none), "shortened", "shortened", defArgs s_shortened, defBody s_shortened, defScope s_shortened, [], []⟩
def d__law_source : He.DefD := ⟨("_law_source", none), "_law_source", "_law_source", defArgs s__law_source, defBody s__law_source, defScope s__law_source, [], []⟩
def d__law_pick : He.DefD := ⟨("_law_pick", none), "_law_pick", "_law_pick", defArgs s__law_pick, defBody s__law_pick, defScope s__law_pick, [], []⟩
def d__law_text : He.DefD := ⟨("_law_text", none), "_law_text", "_law_text", defArgs s__law_text, defBody s__law_text, defScope s__law_text, [], []⟩
def d__law_deal : He.DefD := ⟨("_law_deal", none), "_law_deal", "_law_deal", defArgs s__law_deal, defBody s__law_deal, defScope s__law_deal, [], []⟩
def d__law_row : He.DefD := ⟨("_law_row", none), "_law_row", "_law_row", defArgs s__law_row, defBody s__law_row, defScope s__law_row, [], []⟩
def d__law_any_letters : He.DefD := ⟨("_law_any_letters", none), "_law_any_letters", "_law_any_letters", defArgs s__law_any_letters, defBody s__law_any_letters, defScope s__law_any_letters, [], []⟩
def d__law_wide_deal : He.DefD := ⟨("_law_wide_deal", none), "_law_wide_deal", "_law_wide_deal", defArgs s__law_wide_deal, defBody s__law_wide_deal, defScope s__law_wide_deal, [], []⟩
def d__law_asked : He.DefD := ⟨("_law_asked", none), "_law_asked", "_law_asked", defArgs s__law_asked, defBody s__law_asked, defScope s__law_asked, [], []⟩
def d__law_hands : He.DefD := ⟨("_law_hands", none), "_law_hands", "_law_hands", defArgs s__law_hands, defBody s__law_hands, defScope s__law_hands, [], []⟩
def d__law_view : He.DefD := ⟨("_law_view", none), "_law_view", "_law_view", defArgs s__law_view, defBody s__law_view, defScope s__law_view, [], []⟩
def d__law_shortened : He.DefD := ⟨("_law_shortened", none), "_law_shortened", "_law_shortened", defArgs s__law_shortened, defBody s__law_shortened, defScope s__law_shortened, [], []⟩
def d__law_short : He.DefD := ⟨("_law_short", none), "_law_short", "_law_short", defArgs s__law_short, defBody s__law_short, defScope s__law_short, [], []⟩
def d__law_is_told : He.DefD := ⟨("_law_is_told", none), "_law_is_told", "_law_is_told", defArgs s__law_is_told, defBody s__law_is_told, defScope s__law_is_told, [], []⟩
def d__law_views_right : He.DefD := ⟨("_law_views_right", none), "_law_views_right", "_law_views_right", defArgs s__law_views_right, defBody s__law_views_right, defScope s__law_views_right, [], []⟩
def d__law_is_row_right : He.DefD := ⟨("_law_is_row_right", none), "_law_is_row_right", "_law_is_row_right", defArgs s__law_is_row_right, defBody s__law_is_row_right, defScope s__law_is_row_right, [], []⟩
def d__law_lengths_right : He.DefD := ⟨("_law_lengths_right", none), "_law_lengths_right", "_law_lengths_right", defArgs s__law_lengths_right, defBody s__law_lengths_right, defScope s__law_lengths_right, [], []⟩
def d__law_refusals_right : He.DefD := ⟨("_law_refusals_right", none), "_law_refusals_right", "_law_refusals_right", defArgs s__law_refusals_right, defBody s__law_refusals_right, defScope s__law_refusals_right, [], []⟩
def d_law : He.DefD := ⟨("law", none), "law", "law", defArgs s_law, defBody s_law, defScope s_law, [], []⟩
def i_BadValue : Stmt := (clsBody (top 3)).getD 0 (.Pass ⟨0, 0, 0, 0⟩)
def er_BadValue : ErrD := ⟨"BadValue", "BadValue.__init__", "what", defArgs i_BadValue, defBody i_BadValue, defScope i_BadValue⟩
theorem ew_BadValue : ErrW R0.prog R0.prog.main.file er_BadValue "an argument is not right" (argAt (defArgs i_BadValue) 0) (argAt (defArgs i_BadValue) 1) (zOf (defBody i_BadValue)) := ⟨by kernel_rfl, by kernel_rfl, by kernel_rfl, by kernel_rfl, NdefX.nscope_by (by decide +kernel), by decide +kernel, by kernel_rfl, rfl, by kernel_rfl, fun _ _ _ => ⟨fun _ _ _ _ _ _ => by kernel_rfl, fun _ => by kernel_rfl, fun _ => by kernel_rfl, fun _ => ⟨_, rfl⟩⟩⟩
def i_Unlike : Stmt := (clsBody (top 5)).getD 0 (.Pass ⟨0, 0, 0, 0⟩)
def er_Unlike : ErrD := ⟨"Unlike", "Unlike.__init__", "what", defArgs i_Unlike, defBody i_Unlike, defScope i_Unlike⟩
theorem ew_Unlike : ErrW R0.prog R0.prog.main.file er_Unlike "two things do not fit" (argAt (defArgs i_Unlike) 0) (argAt (defArgs i_Unlike) 1) (zOf (defBody i_Unlike)) := ⟨by kernel_rfl, by kernel_rfl, by kernel_rfl, by kernel_rfl, NdefX.nscope_by (by decide +kernel), by decide +kernel, by kernel_rfl, rfl, by kernel_rfl, fun _ _ _ => ⟨fun _ _ _ _ _ _ => by kernel_rfl, fun _ => by kernel_rfl, fun _ => by kernel_rfl, fun _ => ⟨_, rfl⟩⟩⟩
def fn : List He.DefD := ([d_is_count, d_is_deal, d_must_be_deal, d_hands_of, d_blocks_of, d_is_row, d_view_of, d_put_together, d_shortened, d__law_source, d__law_pick, d__law_text, d__law_deal, d__law_row, d__law_any_letters, d__law_wide_deal, d__law_asked, d__law_hands, d__law_view, d__law_shortened, d__law_short, d__law_is_told, d__law_views_right, d__law_is_row_right, d__law_lengths_right, d__law_refusals_right, d_law] : List He.DefD)
def fa : List He.Fa := ([.glo "is_count", .glo "is_deal", .glo "must_be_deal", .glo "hands_of", .glo "blocks_of", .glo "is_row", .glo "view_of", .glo "put_together", .glo "shortened", .glo "_law_source", .glo "_law_pick", .glo "_law_text", .glo "_law_deal", .glo "_law_row", .glo "_law_any_letters", .glo "_law_wide_deal", .glo "_law_asked", .glo "_law_hands", .glo "_law_view", .glo "_law_shortened", .glo "_law_short", .glo "_law_is_told", .glo "_law_views_right", .glo "_law_is_row_right", .glo "_law_lengths_right", .glo "_law_refusals_right", .glo "law", .free "abs", .free "bool", .free "enumerate"] : List He.Fa) ++ ([.free "int", .free "isinstance", .free "len", .free "list", .free "max", .free "range", .free "str", .free "tuple", .free "zip", .int "MOST_CELLS" 240, .int "MOST_HANDS" 4, .free "super"] : List He.Fa)
def tyB (y : Str) : Option String := if y = "ValueError" then some "ValueError" else none
def er : List ErrD := [er_BadValue, er_Unlike]
def ck (K : PySem.W.Frag) : Bool := ckAll []
abbrev hk : PySem.W.Hook := hookX 4 fa fn R0.prog.main.file tyB hx er ck
def ob (s : PySem.W.SharedT) : AlX := obsXG 4 fa fn R0.prog.main.file tyB hx er ck (HandSHeadRun.getT s)
theorem ob_eq (s : PySem.W.SharedT) : ob s = hk.obs s.abs := obsXG_eq (HandSHeadRun.getT_eq s)
def names : List Str := (["TalkError", "BadText", "BadValue", "TooMany", "Unlike", "Unknown", "BadPaper", "is_count", "MOST_CELLS", "MOST_HANDS", "is_deal", "must_be_deal", "hands_of", "blocks_of", "is_row", "view_of", "put_together", "shortened", "_law_source", "_law_pick", "_law_text", "_law_deal", "_law_row", "_law_any_letters", "_law_wide_deal", "_law_asked", "_law_hands", "_law_view", "_law_shortened", "_law_short"] : List Str) ++ (["_law_is_told", "_law_views_right", "_law_is_row_right", "_law_lengths_right", "_law_refusals_right"] : List Str)
theorem run (w : World) : HandSHeadRun.RunEq R0 (PySem.W.view R0.prog [39]) hk ob 4000 names w := by
  intro os
  kernel_rfl
theorem txt {K : PySem.W.Frag} {h : Heap} {mg : Str → Option Value} (X : K.In h) (G : h.Ns mainGlobals mg) (c : obsX fa fn R0.prog.main.file tyB hx er ck K = valX fn er) : Txt R0.prog K mg where
  f_is_count := by
    obtain ⟨fd, F⟩ := (saysX_d c).def_ 0 (d := d_is_count) rfl
    exact ⟨_, fd, F, He.glo_ok X G ((saysX_d c).fact 0 (f := .glo "is_count") rfl)⟩
  f_is_deal := by
    obtain ⟨fd, F⟩ := (saysX_d c).def_ 1 (d := d_is_deal) rfl
    exact ⟨_, fd, F, He.glo_ok X G ((saysX_d c).fact 1 (f := .glo "is_deal") rfl)⟩
  f_must_be_deal := by
    obtain ⟨fd, F⟩ := (saysX_d c).def_ 2 (d := d_must_be_deal) rfl
    exact ⟨_, fd, F, He.glo_ok X G ((saysX_d c).fact 2 (f := .glo "must_be_deal") rfl)⟩
  f_hands_of := by
    obtain ⟨fd, F⟩ := (saysX_d c).def_ 3 (d := d_hands_of) rfl
    exact ⟨_, fd, F, He.glo_ok X G ((saysX_d c).fact 3 (f := .glo "hands_of") rfl)⟩
  f_blocks_of := by
    obtain ⟨fd, F⟩ := (saysX_d c).def_ 4 (d := d_blocks_of) rfl
    exact ⟨_, fd, F, He.glo_ok X G ((saysX_d c).fact 4 (f := .glo "blocks_of") rfl)⟩
  f_is_row := by
    obtain ⟨fd, F⟩ := (saysX_d c).def_ 5 (d := d_is_row) rfl
    exact ⟨_, fd, F, He.glo_ok X G ((saysX_d c).fact 5 (f := .glo "is_row") rfl)⟩
  f_view_of := by
    obtain ⟨fd, F⟩ := (saysX_d c).def_ 6 (d := d_view_of) rfl
    exact ⟨_, fd, F, He.glo_ok X G ((saysX_d c).fact 6 (f := .glo "view_of") rfl)⟩
  f_put_together := by
    obtain ⟨fd, F⟩ := (saysX_d c).def_ 7 (d := d_put_together) rfl
    exact ⟨_, fd, F, He.glo_ok X G ((saysX_d c).fact 7 (f := .glo "put_together") rfl)⟩
  f_shortened := by
    obtain ⟨fd, F⟩ := (saysX_d c).def_ 8 (d := d_shortened) rfl
    exact ⟨_, fd, F, He.glo_ok X G ((saysX_d c).fact 8 (f := .glo "shortened") rfl)⟩
  f__law_source := by
    obtain ⟨fd, F⟩ := (saysX_d c).def_ 9 (d := d__law_source) rfl
    exact ⟨_, fd, F, He.glo_ok X G ((saysX_d c).fact 9 (f := .glo "_law_source") rfl)⟩
  f__law_pick := by
    obtain ⟨fd, F⟩ := (saysX_d c).def_ 10 (d := d__law_pick) rfl
    exact ⟨_, fd, F, He.glo_ok X G ((saysX_d c).fact 10 (f := .glo "_law_pick") rfl)⟩
  f__law_text := by
    obtain ⟨fd, F⟩ := (saysX_d c).def_ 11 (d := d__law_text) rfl
    exact ⟨_, fd, F, He.glo_ok X G ((saysX_d c).fact 11 (f := .glo "_law_text") rfl)⟩
  f__law_deal := by
    obtain ⟨fd, F⟩ := (saysX_d c).def_ 12 (d := d__law_deal) rfl
    exact ⟨_, fd, F, He.glo_ok X G ((saysX_d c).fact 12 (f := .glo "_law_deal") rfl)⟩
  f__law_row := by
    obtain ⟨fd, F⟩ := (saysX_d c).def_ 13 (d := d__law_row) rfl
    exact ⟨_, fd, F, He.glo_ok X G ((saysX_d c).fact 13 (f := .glo "_law_row") rfl)⟩
  f__law_any_letters := by
    obtain ⟨fd, F⟩ := (saysX_d c).def_ 14 (d := d__law_any_letters) rfl
    exact ⟨_, fd, F, He.glo_ok X G ((saysX_d c).fact 14 (f := .glo "_law_any_letters") rfl)⟩
  f__law_wide_deal := by
    obtain ⟨fd, F⟩ := (saysX_d c).def_ 15 (d := d__law_wide_deal) rfl
    exact ⟨_, fd, F, He.glo_ok X G ((saysX_d c).fact 15 (f := .glo "_law_wide_deal") rfl)⟩
  f__law_asked := by
    obtain ⟨fd, F⟩ := (saysX_d c).def_ 16 (d := d__law_asked) rfl
    exact ⟨_, fd, F, He.glo_ok X G ((saysX_d c).fact 16 (f := .glo "_law_asked") rfl)⟩
  f__law_hands := by
    obtain ⟨fd, F⟩ := (saysX_d c).def_ 17 (d := d__law_hands) rfl
    exact ⟨_, fd, F, He.glo_ok X G ((saysX_d c).fact 17 (f := .glo "_law_hands") rfl)⟩
  f__law_view := by
    obtain ⟨fd, F⟩ := (saysX_d c).def_ 18 (d := d__law_view) rfl
    exact ⟨_, fd, F, He.glo_ok X G ((saysX_d c).fact 18 (f := .glo "_law_view") rfl)⟩
  f__law_shortened := by
    obtain ⟨fd, F⟩ := (saysX_d c).def_ 19 (d := d__law_shortened) rfl
    exact ⟨_, fd, F, He.glo_ok X G ((saysX_d c).fact 19 (f := .glo "_law_shortened") rfl)⟩
  f__law_short := by
    obtain ⟨fd, F⟩ := (saysX_d c).def_ 20 (d := d__law_short) rfl
    exact ⟨_, fd, F, He.glo_ok X G ((saysX_d c).fact 20 (f := .glo "_law_short") rfl)⟩
  f__law_is_told := by
    obtain ⟨fd, F⟩ := (saysX_d c).def_ 21 (d := d__law_is_told) rfl
    exact ⟨_, fd, F, He.glo_ok X G ((saysX_d c).fact 21 (f := .glo "_law_is_told") rfl)⟩
  f__law_views_right := by
    obtain ⟨fd, F⟩ := (saysX_d c).def_ 22 (d := d__law_views_right) rfl
    exact ⟨_, fd, F, He.glo_ok X G ((saysX_d c).fact 22 (f := .glo "_law_views_right") rfl)⟩
  f__law_is_row_right := by
    obtain ⟨fd, F⟩ := (saysX_d c).def_ 23 (d := d__law_is_row_right) rfl
    exact ⟨_, fd, F, He.glo_ok X G ((saysX_d c).fact 23 (f := .glo "_law_is_row_right") rfl)⟩
  f__law_lengths_right := by
    obtain ⟨fd, F⟩ := (saysX_d c).def_ 24 (d := d__law_lengths_right) rfl
    exact ⟨_, fd, F, He.glo_ok X G ((saysX_d c).fact 24 (f := .glo "_law_lengths_right") rfl)⟩
  f__law_refusals_right := by
    obtain ⟨fd, F⟩ := (saysX_d c).def_ 25 (d := d__law_refusals_right) rfl
    exact ⟨_, fd, F, He.glo_ok X G ((saysX_d c).fact 25 (f := .glo "_law_refusals_right") rfl)⟩
  f_law := by
    obtain ⟨fd, F⟩ := (saysX_d c).def_ 26 (d := d_law) rfl
    exact ⟨_, fd, F, He.glo_ok X G ((saysX_d c).fact 26 (f := .glo "law") rfl)⟩
  b_abs := He.free_ok X G ((saysX_d c).fact 27 (f := .free "abs") rfl)
  b_bool := He.free_ok X G ((saysX_d c).fact 28 (f := .free "bool") rfl)
  b_enumerate := He.free_ok X G ((saysX_d c).fact 29 (f := .free "enumerate") rfl)
  b_int := He.free_ok X G ((saysX_d c).fact 30 (f := .free "int") rfl)
  b_isinstance := He.free_ok X G ((saysX_d c).fact 31 (f := .free "isinstance") rfl)
  b_len := He.free_ok X G ((saysX_d c).fact 32 (f := .free "len") rfl)
  b_list := He.free_ok X G ((saysX_d c).fact 33 (f := .free "list") rfl)
  b_max := He.free_ok X G ((saysX_d c).fact 34 (f := .free "max") rfl)
  b_range := He.free_ok X G ((saysX_d c).fact 35 (f := .free "range") rfl)
  b_str := He.free_ok X G ((saysX_d c).fact 36 (f := .free "str") rfl)
  b_tuple := He.free_ok X G ((saysX_d c).fact 37 (f := .free "tuple") rfl)
  b_zip := He.free_ok X G ((saysX_d c).fact 38 (f := .free "zip") rfl)
  k_MOST_CELLS := He.int_ok X G ((saysX_d c).fact 39 (f := .int "MOST_CELLS" 240) rfl)
  k_MOST_HANDS := He.int_ok X G ((saysX_d c).fact 40 (f := .int "MOST_HANDS" 4) rfl)
  e_BadValue := fun w base => by
    obtain ⟨h1, h2⟩ := saysX_er c 0 (d := er_BadValue) rfl
    exact err_ok X G h1 h2 (He.free_ok X G ((saysX_d c).fact 41 (f := .free "super") rfl)) ew_BadValue
  e_Unlike := fun w base => by
    obtain ⟨h1, h2⟩ := saysX_er c 1 (d := er_Unlike) rfl
    exact err_ok X G h1 h2 (He.free_ok X G ((saysX_d c).fact 41 (f := .free "super") rfl)) ew_Unlike
  x_TalkError := clsK_ok X G (saysX_hx c) rfl ⟨"BadValue", true, by decide +kernel⟩
  x_BadText := clsK_ok X G (saysX_hx c) rfl ⟨"BadValue", false, by decide +kernel⟩
  x_TooMany := clsK_ok X G (saysX_hx c) rfl ⟨"BadValue", false, by decide +kernel⟩
  x_Unknown := clsK_ok X G (saysX_hx c) rfl ⟨"BadValue", false, by decide +kernel⟩
  x_BadPaper := clsK_ok X G (saysX_hx c) rfl ⟨"BadValue", false, by decide +kernel⟩
  x_ValueError := clsB_ok X G (saysX_hx c) rfl ⟨"BadValue", true, by decide +kernel⟩
  x_BadValue := clsK_ok X G (saysX_hx c) rfl ⟨"BadValue", true, by decide +kernel⟩
  x_Unlike := clsK_ok X G (saysX_hx c) rfl ⟨"BadValue", false, by decide +kernel⟩
theorem facts (hl : LawTrue) {w : World} {K : PySem.W.Frag} {h : Heap} {mg : Str → Option Value} {f : Addr} (X : K.In h) (G : h.Ns mainGlobals mg) (hfa : mg ("law" : Str) = some (.ref f)) (c : obsX fa fn R0.prog.main.file tyB hx er ck K = valX fn er) :
    ∃ fd : FuncData, (∀ (s : Shared) (v : Value), BindsTo s fd ⟨[v], []⟩ [("script", v)]) ∧ ∀ base : Heap, K.In base → base.Ns mainGlobals mg → FnOk R0.prog w K mg base (L2.CX R0.prog w) 9 f fd ["script"] (spLaw K) := by
  have T := txt X G c
  obtain ⟨f2, fd, F, g⟩ := T.f_law
  have e := hfa.symm.trans g
  cases e
  have b := FunD.bindsA (ps := ["script"]) F fun _ _ _ _ _ _ us hl => match us, hl with | [_], _ => rfl
  exact ⟨fd, fun s v => b s [v] rfl, fun base _ _ => ok_law T hl F⟩

end K32

set_option Elab.async false
set_option linter.all false
set_option maxRecDepth 100000
set_option maxHeartbeats 4000000
set_option maxHeartbeats 0
open PySem PySem.W PySem.Calls PyProof.Rows
theorem PySem.Challenge.cw_talkgrowth_k32_views_holds : PySem.Challenge.rw_talkgrowth_k32_views.Holds := by
  w_on; o_law
  refine HandSHeadRun.head_any (r := OpenLaw.row PySem.Challenge.rw_talkgrowth_k32_views) (q := view (OpenLaw.row PySem.Challenge.rw_talkgrowth_k32_views).prog [39]) (H := K32.hk) (ob := K32.ob) (M := 4000) (loose := K32.names) (d := HandSHeadRun.topDef (OpenLaw.row PySem.Challenge.rw_talkgrowth_k32_views).prog 39) (kwd := []) K32.ob_eq
    (by kernel_rfl) (fun s => by kernel_rfl) K32.run (by kernel_rfl) (by kernel_rfl) (by kernel_rfl) (by rfl) (by first | assumption | decide +kernel) (by decide +kernel) ⟨rfl, rfl, rfl, rfl, rfl, by decide +kernel⟩ ?hw ?hc
  case hw => w_witness2
  case hc =>
    refine K32.walk_ofW (l := PySem.Challenge.rw_talkgrowth_k32_views) (n := 63) (k := 9) (x := "script") (CX := fun w => L2.CX (PySem.Challenge.rw_talkgrowth_k32_views).prog w) rfl (by decide) (by kernel_rfl) ⟨rfl, by decide, by decide⟩ ?F (fun _ _ _ _ _ z => K32.cx_none z)
    intro w mg fa h Y G hmg0
    obtain ⟨K, KX, c⟩ := Y
    have hmg : mg ("law" : PySem.Str) = some (.ref fa) := by
      have e : (HandSHeadRun.topDef (OpenLaw.row PySem.Challenge.rw_talkgrowth_k32_views).prog 39).name = ("law" : PySem.Str) := by kernel_rfl
      rw [← e]
      exact hmg0
    obtain ⟨fd, hb, hF⟩ := K32.facts K32.law_true (w := w) KX G hmg c
    exact ⟨K, fd, K32.spLaw K, KX, hb, fun H a ns hl _ hS => ⟨a, ns, rfl, hS, hl, fun _ => rfl⟩, hF⟩
