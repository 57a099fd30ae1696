import PyProof.Rows.All
import Wide.All
import OpenK.AllK
import Wide.FinOn
import HandS.ForMost
import HandS.ForExc
import HandS.IsInst
import HandS.Style
import HandS.CallSlots
import HandS.Conv
import HandS.Wide
import HandS.WideBits
import HandS.Zip
import HandS.TupAny
import HandS.SortInts
import HandS.Walk
import HandS.WordsExc
import HandS.Defaults
import HandS.HeadEnd
import KE.KRevSl
import HandS.ExcInit
import HandS.Nested
import KE.KExcSuper
import HandS.ExcField
import HandS.TryOnly
import HandS.TryMany
import KE.KExcIs
import HandS.HeadHook1
import HandS.HeadHook2
import KE.GoesEnum
import KE.GoesMore
import PyProof.EnumMake
import HandS.Text
import KE.SortData
import HandS.Codes
import PySem.Challenge.RW_talkgrowth_k44_what_bars
import HandS.More
import HandS.Head0
import HandS.Head1
import HandS.Head2
import KE.KStateDown
set_option Elab.async false
set_option linter.all false
set_option maxRecDepth 100000
set_option maxHeartbeats 4000000
/-! TD: plain data over the hand layer -/
namespace TD
open PySem PySem.Spec PyProof.Rows L2

inductive D where
  | non | bl (b : Bool) | int (i : Int) | str (x : Str) | tup (l : List D) | lst (l : List D) | src

mutual
inductive Rp (K : PySem.W.Frag) (a0 : Addr) (F : Hp) : V → D → Prop
  | non : Rp K a0 F .non .non
  | bl (b : Bool) : Rp K a0 F (.bl b) (.bl b)
  | int (i : Int) : Rp K a0 F (.int i) (.int i)
  | str (x : Str) : Rp K a0 F (.str x) (.str x)
  | tup {a : Addr} {vs : List V} {ds : List D} : SqT K F a vs → RpAll K a0 F vs ds → Rp K a0 F (.ref a) (.tup ds)
  | lst {a : Addr} {vs : List V} {ds : List D} : F a = some (.lst vs) → RpAll K a0 F vs ds → Rp K a0 F (.ref a) (.lst ds)
  | src : Rp K a0 F (.ref a0) .src
inductive RpAll (K : PySem.W.Frag) (a0 : Addr) (F : Hp) : List V → List D → Prop
  | nil : RpAll K a0 F [] []
  | cons {v : V} {vs : List V} {d : D} {ds : List D} : Rp K a0 F v d → RpAll K a0 F vs ds → RpAll K a0 F (v :: vs) (d :: ds)
end

def Ex (H H' : Hp) : Prop := ∀ a o, H a = some o → H' a = some o
theorem Ex.refl (H : Hp) : Ex H H := fun _ _ h => h
theorem Ex.trans {H H1 H2 : Hp} (a : Ex H H1) (b : Ex H1 H2) : Ex H H2 := fun x o h => b x o (a x o h)
theorem Ex.new {H : Hp} {p : Addr} {o : HO} (h : H p = none) : Ex H (upd H p o) := fun a u e => by
  rw [upd_ne (ne_of_none e h)]
  exact e
theorem ex_rd {H H' : Hp} {a : Addr} {u : HO} (e : Ex H H') (h : Rd H a u) : Rd H' a u := by
  rcases h with h | ⟨o, h⟩
  · exact Or.inl (e a _ h)
  · exact Or.inr ⟨o, e a _ h⟩
theorem ex_l {K : PySem.W.Frag} {H H' : Hp} {a : Addr} {xs : List V} (e : Ex H H') (h : SqL K H a xs) : SqL K H' a xs := by
  rcases h with h | h
  · exact Or.inl (ex_rd e h)
  · exact Or.inr h
theorem ex_t {K : PySem.W.Frag} {H H' : Hp} {a : Addr} {xs : List V} (e : Ex H H') (h : SqT K H a xs) : SqT K H' a xs := by
  rcases h with h | h
  · exact Or.inl (ex_rd e h)
  · exact Or.inr h

mutual
theorem Rp.mono {K : PySem.W.Frag} {a0 : Addr} {F F' : Hp} (e : Ex F F') : ∀ (d : D) (v : V), Rp K a0 F v d → Rp K a0 F' v d
  | .non, _, h => by cases h; exact .non
  | .bl _, _, h => by cases h; exact .bl _
  | .int _, _, h => by cases h; exact .int _
  | .str _, _, h => by cases h; exact .str _
  | .src, _, h => by cases h; exact .src
  | .tup ds, _, h => by
    cases h with
    | tup hs ha => exact .tup (ex_t e hs) (RpAll.mono e ds _ ha)
  | .lst ds, _, h => by
    cases h with
    | lst hs ha => exact .lst (e _ _ hs) (RpAll.mono e ds _ ha)
theorem RpAll.mono {K : PySem.W.Frag} {a0 : Addr} {F F' : Hp} (e : Ex F F') : ∀ (ds : List D) (vs : List V), RpAll K a0 F vs ds → RpAll K a0 F' vs ds
  | [], _, h => by cases h; exact .nil
  | d :: ds, _, h => by
    cases h with
    | cons h1 h2 => exact .cons (Rp.mono e d _ h1) (RpAll.mono e ds _ h2)
end
theorem Rp.ex {K : PySem.W.Frag} {a0 : Addr} {F F' : Hp} {v : V} {d : D} (h : Rp K a0 F v d) (e : Ex F F') : Rp K a0 F' v d := Rp.mono e d v h
theorem RpAll.ex {K : PySem.W.Frag} {a0 : Addr} {F F' : Hp} {vs : List V} {ds : List D} (h : RpAll K a0 F vs ds) (e : Ex F F') : RpAll K a0 F' vs ds := RpAll.mono e ds vs h
section
variable {K : PySem.W.Frag} {a0 : Addr} {F : Hp}
theorem RpAll.len : ∀ {vs : List V} {ds : List D}, RpAll K a0 F vs ds → vs.length = ds.length
  | _, [], h => by cases h; rfl
  | _, d :: ds, h => by
    cases h with
    | cons h1 h2 => simp [h2.len]
theorem RpAll.app : ∀ {vs ws : List V} {ds es : List D}, RpAll K a0 F vs ds → RpAll K a0 F ws es → RpAll K a0 F (vs ++ ws) (ds ++ es)
  | _, _, [], _, h, g => by cases h; exact g
  | _, _, d :: ds, _, h, g => by
    cases h with
    | cons h1 h2 => exact .cons h1 (h2.app g)
theorem RpAll.one {v : V} {d : D} (h : Rp K a0 F v d) : RpAll K a0 F [v] [d] := .cons h .nil
theorem RpAll.take : ∀ (n : Nat) {vs : List V} {ds : List D}, RpAll K a0 F vs ds → RpAll K a0 F (vs.take n) (ds.take n)
  | 0, _, _, _ => .nil
  | n + 1, _, _, .nil => .nil
  | n + 1, _, _, .cons h1 h2 => .cons h1 (h2.take n)
theorem RpAll.drop : ∀ (n : Nat) {vs : List V} {ds : List D}, RpAll K a0 F vs ds → RpAll K a0 F (vs.drop n) (ds.drop n)
  | 0, _, _, h => h
  | n + 1, _, _, .nil => .nil
  | n + 1, _, _, .cons h1 h2 => h2.drop n
theorem RpAll.rev : ∀ {vs : List V} {ds : List D}, RpAll K a0 F vs ds → RpAll K a0 F vs.reverse ds.reverse
  | _, [], h => by cases h; exact .nil
  | _, d :: ds, h => by
    cases h with
    | cons h1 h2 =>
      rw [List.reverse_cons, List.reverse_cons]
      exact h2.rev.app (.one h1)
theorem RpAll.get : ∀ {vs : List V} {ds : List D} {i : Nat} {d : D}, RpAll K a0 F vs ds → ds[i]? = some d → ∃ v, vs[i]? = some v ∧ Rp K a0 F v d
  | _, [], _, _, _, e => by simp at e
  | _, x :: ds, 0, d, h, e => by
    cases h with
    | cons h1 h2 => simp at e; subst e; exact ⟨_, rfl, h1⟩
  | _, x :: ds, i + 1, d, h, e => by
    cases h with
    | cons h1 h2 =>
      obtain ⟨v, a, b⟩ := h2.get (i := i) (d := d) (by simpa using e)
      exact ⟨v, by simpa using a, b⟩
theorem RpAll.getv : ∀ {vs : List V} {ds : List D} {i : Nat} {v : V}, RpAll K a0 F vs ds → vs[i]? = some v → ∃ d, ds[i]? = some d ∧ Rp K a0 F v d
  | _, [], _, _, h, e => by cases h; simp at e
  | _, x :: ds, 0, v, h, e => by
    cases h with
    | cons h1 h2 => simp at e; subst e; exact ⟨_, rfl, h1⟩
  | _, x :: ds, i + 1, v, h, e => by
    cases h with
    | cons h1 h2 =>
      obtain ⟨d, a, b⟩ := h2.getv (i := i) (v := v) (by simpa using e)
      exact ⟨d, by simpa using a, b⟩
theorem RpAll.setv : ∀ {vs : List V} {ds : List D} (i : Nat) {v : V} {d : D}, RpAll K a0 F vs ds → Rp K a0 F v d → RpAll K a0 F (vs.set i v) (ds.set i d)
  | _, [], _, _, _, h, _ => by cases h; exact .nil
  | _, x :: ds, 0, v, d, h, g => by
    cases h with
    | cons h1 h2 => exact .cons g h2
  | _, x :: ds, i + 1, v, d, h, g => by
    cases h with
    | cons h1 h2 => exact .cons h1 (h2.setv i g)
theorem RpAll.dropLast {vs : List V} {ds : List D} (h : RpAll K a0 F vs ds) : RpAll K a0 F vs.dropLast ds.dropLast := by
  rw [List.dropLast_eq_take, List.dropLast_eq_take, h.len]
  exact h.take _
theorem RpAll.ints : ∀ {vs : List V} {ns : List Int}, RpAll K a0 F vs (ns.map D.int) → vs = ns.map V.int
  | _, [], h => by cases h; rfl
  | _, n :: ns, h => by
    cases h with
    | cons h1 h2 => cases h1; rw [h2.ints]; rfl
theorem RpAll.of_ints : ∀ (ns : List Int), RpAll K a0 F (ns.map V.int) (ns.map D.int)
  | [] => .nil
  | n :: ns => .cons (.int n) (RpAll.of_ints ns)
end

/-! ### the source of draws, what a def's names hold -/
structure SS where
  cells : List Int
  left : Int
  turn : Int
structure Exn where
  c : Str
  f : Str
  d : D
inductive Slot where
  | val (d : D)
  | own (xs : List D)
  | exn (c : Exn)
  /-- a dict that is being built; its keys ints and texts, or tuples of them -/
  | dic (t : Bool) (kvs : List (D × D))
abbrev Env := List (Option Slot)
structure W where
  env : Env
  ss : SS
inductive R (α : Type) where
  | ok (a : α) (w : W)
  | exc (c : Exn) (w : W)
  | stuck
inductive RS where
  | nx (w : W)
  | ret (d : D) (w : W)
  | brk (w : W)
  | cnt (w : W)
  | exc (c : Exn) (w : W)
  | stuck

/-- what an own error's class must say, so that its field is read, isinstance asked -/
structure XCls (K : PySem.W.Frag) (C : Addr) (f : Str) : Prop where
  ga : PySem.W.findIn K (.ref C) "__getattribute__" = some (some (.builtin "BaseException.__getattribute__"))
  gg : PySem.W.findIn K (.ref C) "__getattr__" = some none
  exC : PySem.W.subIn K (.ref C) (.type "BaseException") = some true
  hdC : PySem.W.hasDictIn K C = true
  no : PySem.W.findIn K (.ref C) f = some none
  cl : PySem.W.findIn K (.ref C) "__class__" = some (some (.builtin "object.__class__"))
  sp : PySem.W.specialIn K (.builtin "object.__class__") "__get__" = some (some (.builtin "getset_descriptor.__get__"))
  tk : PySem.W.takesIn K (.builtin "object.__class__") = some true
  mo : PySem.W.mroIn K C (.type "object") = some true
/-- what is fixed while a def runs -/
structure Fm where
  a0 : Addr
  c0 : Addr
  G : Hp
  F0 : Hp
  xa : Addr
  xd : Addr
  xc : Str
  xk : Addr

structure SrcOk (a0 c0 : Addr) (F H : Hp) (ss : SS) : Prop where
  fr : F a0 = none
  at0 : H a0 = some (.lst [.ref c0, .int ss.left, .int ss.turn])
  cells : F c0 = some (.lst (ss.cells.map .int))
  ne : ss.cells ≠ []
  nn : ∀ c ∈ ss.cells, 0 ≤ c
  left : 0 ≤ ss.left
  turn : 0 ≤ ss.turn

def Own (K : PySem.W.Frag) (fm : Fm) (F H : Hp) (p : Addr) (xs : List D) : Prop :=
  p ≠ fm.a0 ∧ F p = none ∧ fm.G p = none ∧ ∃ vs, H p = some (.lst vs) ∧ RpAll K fm.a0 F vs xs
/-- a key as data -/
def keyD : L2.Key → D
  | .inl i => .int i
  | .inr x => .str x
inductive PrK (K : PySem.W.Frag) (a0 : Addr) (F : Hp) : List (L2.Key × V) → List (D × D) → Prop
  | nil : PrK K a0 F [] []
  | cons {k : L2.Key} {v : V} {d : D} {l : List (L2.Key × V)} {m : List (D × D)} : Rp K a0 F v d → PrK K a0 F l m → PrK K a0 F ((k, v) :: l) ((keyD k, d) :: m)
inductive PrT (K : PySem.W.Frag) (a0 : Addr) (F : Hp) : List (List L2.Key × V) → List (D × D) → Prop
  | nil : PrT K a0 F [] []
  | cons {k : List L2.Key} {v : V} {d : D} {l : List (List L2.Key × V)} {m : List (D × D)} : Rp K a0 F v d → PrT K a0 F l m → PrT K a0 F ((k, v) :: l) ((.tup (k.map keyD), d) :: m)
theorem PrK.ex {K : PySem.W.Frag} {a0 : Addr} {F F' : Hp} (e : Ex F F') : ∀ {l : List (L2.Key × V)} {m : List (D × D)}, PrK K a0 F l m → PrK K a0 F' l m
  | _, _, .nil => .nil
  | _, _, .cons h g => .cons (h.ex e) (g.ex e)
theorem PrT.ex {K : PySem.W.Frag} {a0 : Addr} {F F' : Hp} (e : Ex F F') : ∀ {l : List (List L2.Key × V)} {m : List (D × D)}, PrT K a0 F l m → PrT K a0 F' l m
  | _, _, .nil => .nil
  | _, _, .cons h g => .cons (h.ex e) (g.ex e)
/-- what a dict that is being built holds -/
def DicO (K : PySem.W.Frag) (a0 : Addr) (F : Hp) (t : Bool) (kvs : List (D × D)) (o : HO) : Prop := match t with
  | false => ∃ l, o = .dK l ∧ PrK K a0 F l kvs
  | true => ∃ l, o = .dT l ∧ PrT K a0 F l kvs
theorem DicO.ex {K : PySem.W.Frag} {a0 : Addr} {F F' : Hp} {t : Bool} {kvs : List (D × D)} {o : HO} (e : Ex F F') (h : DicO K a0 F t kvs o) : DicO K a0 F' t kvs o := by
  cases t with
  | false => obtain ⟨l, h1, h2⟩ := h; exact ⟨l, h1, h2.ex e⟩
  | true => obtain ⟨l, h1, h2⟩ := h; exact ⟨l, h1, h2.ex e⟩
theorem DicO.nl {K : PySem.W.Frag} {a0 : Addr} {F : Hp} {t : Bool} {kvs : List (D × D)} {o : HO} (h : DicO K a0 F t kvs o) (vs : List V) : o ≠ .lst vs := by
  cases t with
  | false => obtain ⟨l, rfl, _⟩ := h; exact fun z => by cases z
  | true => obtain ⟨l, rfl, _⟩ := h; exact fun z => by cases z
theorem DicO.nx {K : PySem.W.Frag} {a0 : Addr} {F : Hp} {t : Bool} {kvs : List (D × D)} {o : HO} (h : DicO K a0 F t kvs o) (fs : List (Str × V)) : o ≠ .xd fs := by
  cases t with
  | false => obtain ⟨l, rfl, _⟩ := h; exact fun z => by cases z
  | true => obtain ⟨l, rfl, _⟩ := h; exact fun z => by cases z
def Dic (K : PySem.W.Frag) (fm : Fm) (F H : Hp) (p : Addr) (t : Bool) (kvs : List (D × D)) : Prop :=
  p ≠ fm.a0 ∧ F p = none ∧ fm.G p = none ∧ ∃ o, H p = some o ∧ DicO K fm.a0 F t kvs o
def SlotOk (K : PySem.W.Frag) (fm : Fm) (F H : Hp) (v : V) : Slot → Prop
  | .val d => Rp K fm.a0 F v d
  | .own xs => ∃ p, v = .ref p ∧ Own K fm F H p xs
  | .exn c => v = .ref fm.xa ∧ c.c = fm.xc ∧ XCls K fm.xk c.f ∧ ∃ vv : V, F fm.xd = some (.xd [(c.f, vv)]) ∧ Rp K fm.a0 F vv c.d
  | .dic t kvs => ∃ p, v = .ref p ∧ Dic K fm F H p t kvs
abbrev Exs := List (Addr × List D)

def Apd (env : Env) (σ : L2.St) : Prop := ∀ (i j : Nat) (t u : Bool) (xs ys : List (D × D)) (p : Addr), env[i]? = some (some (.dic t xs)) → env[j]? = some (some (.dic u ys)) → σ[i]? = some (some (.ref p)) → σ[j]? = some (some (.ref p)) → i = j
structure Rel (K : PySem.W.Frag) (fm : Fm) (ex : Exs) (σ : L2.St) (H F : Hp) (w : W) : Prop where
  f0 : Ex fm.F0 F
  fh : Ex F H
  gh : ∀ b o, b ≠ fm.a0 → fm.G b = some o → H b = some o
  fg : ∀ b o, F b = some o → fm.F0 b = some o ∨ fm.G b = none
  src : SrcOk fm.a0 fm.c0 F H w.ss
  len : w.env.length = σ.length
  slot : ∀ (i : Nat) (s : Slot), w.env[i]? = some (some s) → ∃ v : V, σ[i]? = some (some v) ∧ SlotOk K fm F H v s
  ap : ∀ (i j : Nat) (xs ys : List D) (p : Addr), w.env[i]? = some (some (.own xs)) → w.env[j]? = some (some (.own ys)) → σ[i]? = some (some (.ref p)) → σ[j]? = some (some (.ref p)) → i = j
  apd : Apd w.env σ
  exo : ∀ q ∈ ex, Own K fm F H q.1 q.2
  exn : (ex.map (·.1)).Nodup
  exs : ∀ q ∈ ex, ∀ (i : Nat) (xs : List D), w.env[i]? = some (some (.own xs)) → σ[i]? ≠ some (some (.ref q.1))

/-- what stood stands (the source's list may have changed) -/
def Kp (a0 : Addr) (H H' : Hp) : Prop := ∀ b o, b ≠ a0 → H b = some o → H' b = some o
theorem Kp.refl {a0 : Addr} {H : Hp} : Kp a0 H H := fun _ _ _ h => h
theorem Kp.trans {a0 : Addr} {H H1 H2 : Hp} (a : Kp a0 H H1) (b : Kp a0 H1 H2) : Kp a0 H H2 := fun x o n h => b x o n (a x o n h)

/-- growth: what stood stands, but the source's list -/
structure Gk (a0 : Addr) (H F H' F' : Hp) : Prop where
  hh : Kp a0 H H'
  ff : Ex F F'
  fh : Ex F' H'
  fn : ∀ b o, F' b = some o → F b = some o ∨ H b = none
/-- pure growth -/
structure Gr (H F H' F' : Hp) : Prop where
  hh : Ex H H'
  ff : Ex F F'
  fh : Ex F' H'
  fn : ∀ b o, F' b = some o → F b = some o ∨ H b = none
theorem Gr.refl {H F : Hp} (h : Ex F H) : Gr H F H F := ⟨Ex.refl _, Ex.refl _, h, fun _ _ e => .inl e⟩
theorem Gr.gk {fm : Fm} {H F H' F' : Hp} (g : Gr H F H' F') : Gk fm.a0 H F H' F' := ⟨fun b o _ h => g.hh b o h, g.ff, g.fh, g.fn⟩
theorem Gr.kp {fm : Fm} {H F H' F' : Hp} (g : Gr H F H' F') : Kp fm.a0 H H' := fun b o _ h => g.hh b o h
theorem Gr.trans {H F H1 F1 H2 F2 : Hp} (a : Gr H F H1 F1) (b : Gr H1 F1 H2 F2) : Gr H F H2 F2 := ⟨a.hh.trans b.hh, a.ff.trans b.ff, b.fh, fun x o e => by
  rcases b.fn x o e with z | z
  · exact a.fn x o z
  · refine .inr ?_
    cases q : H x with
    | none => rfl
    | some u => rw [a.hh x u q] at z; cases z⟩
theorem none_of_ex {F H : Hp} {p : Addr} (h : Ex F H) (hp : H p = none) : F p = none := by
  cases e : F p with
  | none => rfl
  | some u => rw [h p u e] at hp; cases hp
/-- one new object, never to be changed -/
theorem Gr.new {H F : Hp} {p : Addr} {o : HO} (h : Ex F H) (hp : H p = none) : Gr H F (upd H p o) (upd F p o) := by
  have fp : F p = none := none_of_ex h hp
  refine ⟨Ex.new hp, Ex.new fp, fun b u e => ?_, fun b u e => ?_⟩
  · by_cases hb : b = p
    · subst hb; rw [upd_same] at e ⊢; exact e
    · rw [upd_ne hb] at e ⊢; exact h b u e
  · by_cases hb : b = p
    · subst hb; exact .inr hp
    · rw [upd_ne hb] at e; exact .inl e
/-- one new object that is not known -/
theorem Gr.dark {H F : Hp} {p : Addr} {o : HO} (h : Ex F H) (hp : H p = none) : Gr H F (upd H p o) F :=
  ⟨Ex.new hp, Ex.refl _, h.trans (Ex.new hp), fun _ _ e => .inl e⟩
section
variable {K : PySem.W.Frag} {fm : Fm} {ex : Exs} {σ : L2.St} {H F H' F' : Hp} {w : W} {ss' : SS}
theorem Own.gk {p : Addr} {xs : List D} (o : Own K fm F H p xs) (g : Gk fm.a0 H F H' F') : Own K fm F' H' p xs := by
  obtain ⟨h1, h2, h3, vs, h4, h5⟩ := o
  refine ⟨h1, ?_, h3, vs, g.hh _ _ h1 h4, h5.ex g.ff⟩
  cases e : F' p with
  | none => rfl
  | some u =>
    rcases g.fn p u e with z | z
    · rw [h2] at z; cases z
    · rw [h4] at z; cases z
theorem Dic.gk {p : Addr} {t : Bool} {kvs : List (D × D)} (o : Dic K fm F H p t kvs) (g : Gk fm.a0 H F H' F') : Dic K fm F' H' p t kvs := by
  obtain ⟨h1, h2, h3, u, h4, h5⟩ := o
  refine ⟨h1, ?_, h3, u, g.hh _ _ h1 h4, h5.ex g.ff⟩
  cases e : F' p with
  | none => rfl
  | some u =>
    rcases g.fn p u e with z | z
    · rw [h2] at z; cases z
    · rw [h4] at z; cases z
theorem Rel.step (r : Rel K fm ex σ H F w) (g : Gk fm.a0 H F H' F') (s : SrcOk fm.a0 fm.c0 F' H' ss') : Rel K fm ex σ H' F' { w with ss := ss' } where
  f0 := r.f0.trans g.ff
  fh := g.fh
  gh := fun b o n h => g.hh b o n (r.gh b o n h)
  fg := fun b o h => by
    rcases g.fn b o h with z | z
    · exact r.fg b o z
    · refine .inr ?_
      cases e : fm.G b with
      | none => rfl
      | some u =>
        by_cases hb : b = fm.a0
        · subst hb; rw [r.src.at0] at z; cases z
        · have := r.gh b u hb e
          rw [z] at this; cases this
  src := s
  len := r.len
  slot := fun i s h => by
    obtain ⟨v, e, k⟩ := r.slot i s h
    refine ⟨v, e, ?_⟩
    cases s with
    | val d => exact Rp.ex k g.ff
    | own xs => obtain ⟨p, e, o⟩ := k; exact ⟨p, e, o.gk g⟩
    | exn c => obtain ⟨e1, e2, e3, vv, h1, h2⟩ := k; exact ⟨e1, e2, e3, vv, g.ff _ _ h1, h2.ex g.ff⟩
    | dic t kvs => obtain ⟨p, e, o⟩ := k; exact ⟨p, e, o.gk g⟩
  ap := r.ap
  apd := r.apd
  exo := fun q hq => (r.exo q hq).gk g
  exn := r.exn
  exs := r.exs
theorem SrcOk.gr {ss : SS} (s : SrcOk fm.a0 fm.c0 F H ss) (g : Gr H F H' F') : SrcOk fm.a0 fm.c0 F' H' ss := by
  refine ⟨?_, g.hh _ _ s.at0, g.ff _ _ s.cells, s.ne, s.nn, s.left, s.turn⟩
  cases e : F' fm.a0 with
  | none => rfl
  | some u =>
    rcases g.fn _ u e with z | z
    · rw [s.fr] at z; cases z
    · rw [s.at0] at z; cases z
theorem Rel.gr (r : Rel K fm ex σ H F w) (g : Gr H F H' F') : Rel K fm ex σ H' F' w := r.step g.gk (r.src.gr g)

theorem slot_set {i j : Nat} {s : Slot} {t : Option Slot} {env : Env} (h : (env.set i t)[j]? = some (some s)) : (j = i ∧ i < env.length ∧ t = some s) ∨ (j ≠ i ∧ env[j]? = some (some s)) := by
  by_cases hj : j = i
  · subst hj
    by_cases hl : j < env.length
    · rw [List.getElem?_set_self hl] at h
      exact .inl ⟨rfl, hl, Option.some.inj h⟩
    · rw [List.getElem?_eq_none (by simpa using hl)] at h; cases h
  · rw [List.getElem?_set_ne (Ne.symm hj)] at h
    exact .inr ⟨hj, h⟩
theorem Apd.set {env : Env} {σ : L2.St} (h : Apd env σ) (i : Nat) {t : Option Slot} (ht : ∀ b kvs, t ≠ some (.dic b kvs)) (o : Option V) : Apd (env.set i t) (σ.set i o) := fun j k a b xs ys p h1 h2 h3 h4 => by
  rcases slot_set h1 with ⟨_, _, e⟩ | ⟨hj, h1⟩
  · exact absurd e (ht _ _)
  · rcases slot_set h2 with ⟨_, _, e⟩ | ⟨hk, h2⟩
    · exact absurd e (ht _ _)
    · rw [List.getElem?_set_ne (Ne.symm hj)] at h3
      rw [List.getElem?_set_ne (Ne.symm hk)] at h4
      exact h j k a b xs ys p h1 h2 h3 h4
/-- a name is given a value -/
theorem Rel.setVal (r : Rel K fm ex σ H F w) (i : Nat) {v : V} {d : D} (hv : Rp K fm.a0 F v d) : Rel K fm ex (σ.set i (some v)) H F { w with env := w.env.set i (some (.val d)) } where
  f0 := r.f0
  fh := r.fh
  gh := r.gh
  fg := r.fg
  src := r.src
  len := by simp [r.len]
  slot := fun j s h => by
    rcases slot_set h with ⟨rfl, hl, e⟩ | ⟨hj, h⟩
    · cases e
      exact ⟨v, List.getElem?_set_self (by rw [← r.len]; exact hl), hv⟩
    · obtain ⟨u, e, k⟩ := r.slot j s h
      exact ⟨u, by rw [List.getElem?_set_ne (Ne.symm hj)]; exact e, k⟩
  ap := fun j k xs ys p h1 h2 h3 h4 => by
    rcases slot_set h1 with ⟨_, _, e⟩ | ⟨hj, h1⟩
    · cases e
    · rcases slot_set h2 with ⟨_, _, e⟩ | ⟨hk, h2⟩
      · cases e
      · rw [List.getElem?_set_ne (Ne.symm hj)] at h3
        rw [List.getElem?_set_ne (Ne.symm hk)] at h4
        exact r.ap j k xs ys p h1 h2 h3 h4
  apd := r.apd.set i (fun _ _ z => by cases z) _
  exo := r.exo
  exn := r.exn
  exs := fun q hq j xs h1 h2 => by
    rcases slot_set h1 with ⟨_, _, e⟩ | ⟨hj, h1⟩
    · cases e
    · rw [List.getElem?_set_ne (Ne.symm hj)] at h2
      exact r.exs q hq j xs h1 h2
/-- a name is given a new list -/
theorem Rel.setOwn {p : Addr} {xs : List D} (r : Rel K fm ((p, xs) :: ex) σ H F w) (i : Nat) : Rel K fm ex (σ.set i (some (.ref p))) H F { w with env := w.env.set i (some (.own xs)) } where
  f0 := r.f0
  fh := r.fh
  gh := r.gh
  fg := r.fg
  src := r.src
  len := by simp [r.len]
  slot := fun j s h => by
    rcases slot_set h with ⟨rfl, hl, e⟩ | ⟨hj, h⟩
    · cases e
      exact ⟨.ref p, List.getElem?_set_self (by rw [← r.len]; exact hl), p, rfl, r.exo _ (List.mem_cons_self ..)⟩
    · obtain ⟨u, e, k⟩ := r.slot j s h
      exact ⟨u, by rw [List.getElem?_set_ne (Ne.symm hj)]; exact e, k⟩
  ap := fun j k ys zs q h1 h2 h3 h4 => by
    rcases slot_set h1 with ⟨rfl, hl, e⟩ | ⟨hj, h1⟩
    · rcases slot_set h2 with ⟨rfl, _, _⟩ | ⟨hk, h2⟩
      · rfl
      · rw [List.getElem?_set_self (by rw [← r.len]; exact hl)] at h3
        rw [List.getElem?_set_ne (Ne.symm hk)] at h4
        cases h3
        exact absurd h4 (r.exs _ (List.mem_cons_self ..) k zs h2)
    · have h1o := h1
      rcases slot_set h2 with ⟨rfl, hl, _⟩ | ⟨hk, h2⟩
      · rw [List.getElem?_set_self (by rw [← r.len]; exact hl)] at h4
        rw [List.getElem?_set_ne (Ne.symm hj)] at h3
        cases h4
        exact absurd h3 (r.exs _ (List.mem_cons_self ..) j ys h1o)
      · rw [List.getElem?_set_ne (Ne.symm hj)] at h3
        rw [List.getElem?_set_ne (Ne.symm hk)] at h4
        exact r.ap j k ys zs q h1 h2 h3 h4
  apd := r.apd.set i (fun _ _ z => by cases z) _
  exo := fun q hq => r.exo q (List.mem_cons_of_mem _ hq)
  exn := (List.nodup_cons.mp r.exn).2
  exs := fun q hq j ys h1 h2 => by
    rcases slot_set h1 with ⟨rfl, hl, e⟩ | ⟨hj, h1⟩
    · rw [List.getElem?_set_self (by rw [← r.len]; exact hl)] at h2
      have e2 : p = q.1 := by cases h2; rfl
      exact (List.nodup_cons.mp r.exn).1 (List.mem_map.mpr ⟨q, hq, e2.symm⟩)
    · rw [List.getElem?_set_ne (Ne.symm hj)] at h2
      exact r.exs q (List.mem_cons_of_mem _ hq) j ys h1 h2
theorem Rel.drop1 {q : Addr × List D} (r : Rel K fm (q :: ex) σ H F w) : Rel K fm ex σ H F w :=
  ⟨r.f0, r.fh, r.gh, r.fg, r.src, r.len, r.slot, r.ap, r.apd, fun q hq => r.exo q (List.mem_cons_of_mem _ hq), (List.nodup_cons.mp r.exn).2, fun q hq => r.exs q (List.mem_cons_of_mem _ hq)⟩
/-- a name is forgotten -/
theorem Rel.setNone (r : Rel K fm ex σ H F w) (i : Nat) (o : Option V) : Rel K fm ex (σ.set i o) H F { w with env := w.env.set i none } where
  f0 := r.f0
  fh := r.fh
  gh := r.gh
  fg := r.fg
  src := r.src
  len := by simp [r.len]
  slot := fun j s h => by
    rcases slot_set h with ⟨rfl, hl, e⟩ | ⟨hj, h⟩
    · cases e
    · obtain ⟨u, e, k⟩ := r.slot j s h
      exact ⟨u, by rw [List.getElem?_set_ne (Ne.symm hj)]; exact e, k⟩
  ap := fun j k xs ys p h1 h2 h3 h4 => by
    rcases slot_set h1 with ⟨_, _, e⟩ | ⟨hj, h1⟩
    · cases e
    · rcases slot_set h2 with ⟨_, _, e⟩ | ⟨hk, h2⟩
      · cases e
      · rw [List.getElem?_set_ne (Ne.symm hj)] at h3
        rw [List.getElem?_set_ne (Ne.symm hk)] at h4
        exact r.ap j k xs ys p h1 h2 h3 h4
  apd := r.apd.set i (fun _ _ z => by cases z) _
  exo := r.exo
  exn := r.exn
  exs := fun q hq j xs h1 h2 => by
    rcases slot_set h1 with ⟨_, _, e⟩ | ⟨hj, h1⟩
    · cases e
    · rw [List.getElem?_set_ne (Ne.symm hj)] at h2
      exact r.exs q hq j xs h1 h2
/-- freezing at p -/
theorem Own.frz {p q : Addr} {xs : List D} {o : HO} (h : Own K fm F H q xs) (n : q ≠ p) (fp : F p = none) : Own K fm (upd F p o) H q xs := by
  obtain ⟨h1, h2, h3, vs, h4, h5⟩ := h
  exact ⟨h1, by rw [upd_ne n]; exact h2, h3, vs, h4, h5.ex (Ex.new fp)⟩
/-- a new list is never to be changed from here on -/
theorem Rel.frz {p : Addr} {xs : List D} (r : Rel K fm ((p, xs) :: ex) σ H F w) : ∃ F', Ex F F' ∧ Rel K fm ex σ H F' w ∧ Rp K fm.a0 F' (.ref p) (.lst xs) := by
  obtain ⟨h1, h2, h3, vs, h4, h5⟩ := r.exo _ (List.mem_cons_self ..)
  have h1 : p ≠ fm.a0 := h1
  have h2 : F p = none := h2
  have h3 : fm.G p = none := h3
  have h4 : H p = some (.lst vs) := h4
  have e : Ex F (upd F p (.lst vs)) := Ex.new h2
  refine ⟨upd F p (.lst vs), e, ?_, .lst upd_same (h5.ex e)⟩
  have r := r
  refine ⟨r.f0.trans e, fun b o q => ?_, r.gh, fun b o q => ?_, ⟨by rw [upd_ne (Ne.symm h1)]; exact r.src.fr, r.src.at0, e _ _ r.src.cells, r.src.ne, r.src.nn, r.src.left, r.src.turn⟩, r.len, fun i s q => ?_, r.ap, r.apd, fun q hq => ?_, (List.nodup_cons.mp r.exn).2, fun q hq => r.exs q (List.mem_cons_of_mem _ hq)⟩
  · by_cases hb : b = p
    · subst hb; rw [upd_same] at q; cases q; exact h4
    · rw [upd_ne hb] at q; exact r.fh b o q
  · by_cases hb : b = p
    · subst hb; exact .inr h3
    · rw [upd_ne hb] at q; exact r.fg b o q
  · obtain ⟨v, e1, k⟩ := r.slot i s q
    refine ⟨v, e1, ?_⟩
    cases s with
    | val d => exact Rp.ex k e
    | own ys =>
      obtain ⟨p', rfl, o⟩ := k
      exact ⟨p', rfl, o.frz (fun z => r.exs _ (List.mem_cons_self ..) i ys q (by rw [e1, z])) h2⟩
    | exn c => obtain ⟨a1, a2, a3, vv, b1, b2⟩ := k; exact ⟨a1, a2, a3, vv, e _ _ b1, b2.ex e⟩
    | dic t kvs =>
      obtain ⟨p', rfl, c1, c2, c3, u, c4, c5⟩ := k
      exact ⟨p', rfl, c1, (by rw [upd_ne (fun z => by subst z; rw [h4] at c4; cases c4; exact c5.nl _ rfl)]; exact c2), c3, u, c4, c5.ex e⟩
  · exact (r.exo q (List.mem_cons_of_mem _ hq)).frz (fun z => (List.nodup_cons.mp r.exn).1 (List.mem_map.mpr ⟨q, hq, z⟩)) h2
/-- the list of a name is taken out of the name -/
theorem Rel.takeOwn {i : Nat} {xs : List D} (r : Rel K fm ex σ H F w) (h : w.env[i]? = some (some (.own xs))) : ∃ p, σ[i]? = some (some (.ref p)) ∧ Rel K fm ((p, xs) :: ex) σ H F { w with env := w.env.set i none } := by
  obtain ⟨v, e, p, rfl, o⟩ := r.slot i _ h
  refine ⟨p, e, ?_⟩
  have r2 : Rel K fm ex σ H F { w with env := w.env.set i none } := by
    have z := r.setNone i (some (.ref p))
    have hl : i < σ.length := (List.getElem?_eq_some_iff.mp e).1
    have e2 : σ.set i (some (.ref p)) = σ := by
      have := (List.getElem?_eq_some_iff.mp e).2
      rw [← this]; exact List.set_getElem_self hl
    rw [e2] at z
    exact z
  refine ⟨r2.f0, r2.fh, r2.gh, r2.fg, r2.src, r2.len, r2.slot, r2.ap, r2.apd, fun q hq => ?_, ?_, fun q hq j ys h1 h2 => ?_⟩
  · rcases List.mem_cons.mp hq with rfl | hq
    · exact o
    · exact r.exo q hq
  · refine List.nodup_cons.mpr ⟨fun z => ?_, r.exn⟩
    obtain ⟨q, hq, z⟩ := List.mem_map.mp z
    exact r.exs q hq i xs h (by rw [e, z])
  · rcases List.mem_cons.mp hq with rfl | hq
    · rcases slot_set h1 with ⟨_, _, e⟩ | ⟨hj, h1⟩
      · cases e
      · exact hj (r.ap j i ys xs p h1 h h2 e)
    · exact r2.exs q hq j ys h1 h2
/-- a name's list is read as a value: it is never to be changed from here on -/
theorem Rel.frzSlot {i : Nat} {xs : List D} (r : Rel K fm ex σ H F w) (h : w.env[i]? = some (some (.own xs))) :
    ∃ p F', σ[i]? = some (some (.ref p)) ∧ Ex F F' ∧ Rel K fm ex σ H F' { w with env := w.env.set i (some (.val (.lst xs))) } ∧ Rp K fm.a0 F' (.ref p) (.lst xs) := by
  obtain ⟨p, e, r1⟩ := r.takeOwn h
  obtain ⟨F', ef, r2, k⟩ := r1.frz
  refine ⟨p, F', e, ef, ?_, k⟩
  have z := r2.setVal i k
  have hl : i < σ.length := (List.getElem?_eq_some_iff.mp e).1
  have e2 : σ.set i (some (.ref p)) = σ := by
    have := (List.getElem?_eq_some_iff.mp e).2
    rw [← this]; exact List.set_getElem_self hl
  rw [e2] at z
  simpa using z
/-- a new list is laid -/
theorem Rel.lay {p : Addr} {vs : List V} {xs : List D} (r : Rel K fm ex σ H F w) (hp : H p = none) (hv : RpAll K fm.a0 F vs xs) : Rel K fm ((p, xs) :: ex) σ (upd H p (.lst vs)) F w := by
  have r2 := r.gr (Gr.dark (o := .lst vs) r.fh hp)
  have n0 : p ≠ fm.a0 := fun z => by subst z; rw [r.src.at0] at hp; cases hp
  have ng : fm.G p = none := by
    cases e : fm.G p with
    | none => rfl
    | some u => rw [r.gh p u n0 e] at hp; cases hp
  refine ⟨r2.f0, r2.fh, r2.gh, r2.fg, r2.src, r2.len, r2.slot, r2.ap, r2.apd, fun q hq => ?_, ?_, fun q hq j ys h1 h2 => ?_⟩
  · rcases List.mem_cons.mp hq with rfl | hq
    · exact ⟨n0, none_of_ex r.fh hp, ng, vs, upd_same, hv⟩
    · exact r2.exo q hq
  · refine List.nodup_cons.mpr ⟨fun z => ?_, r.exn⟩
    obtain ⟨q, hq, z⟩ := List.mem_map.mp z
    obtain ⟨_, _, _, us, h4, _⟩ := r.exo q hq
    rw [z, hp] at h4; cases h4
  · rcases List.mem_cons.mp hq with rfl | hq
    · obtain ⟨v, e, p', e2, _, _, _, us, h4, _⟩ := r.slot j _ h1
      rw [h2] at e
      cases e
      cases e2
      rw [hp] at h4; cases h4
    · exact r2.exs q hq j ys h1 h2
/-- the first new list is changed -/
theorem Rel.mut {p : Addr} {vs : List V} {xs ys : List D} (r : Rel K fm ((p, xs) :: ex) σ H F w) (hv : RpAll K fm.a0 F vs ys) : Rel K fm ((p, ys) :: ex) σ (upd H p (.lst vs)) F w := by
  obtain ⟨h1, h2, h3, us, h4, h5⟩ := r.exo _ (List.mem_cons_self ..)
  have h1 : p ≠ fm.a0 := h1
  have h2 : F p = none := h2
  have h3 : fm.G p = none := h3
  have nf : ∀ b o, F b = some o → b ≠ p := fun b o e z => by subst z; rw [h2] at e; cases e
  have ow : ∀ {q : Addr} {zs : List D}, q ≠ p → Own K fm F H q zs → Own K fm F (upd H p (.lst vs)) q zs := fun n ⟨a, b, c, u, d, e⟩ => ⟨a, b, c, u, by rw [upd_ne n]; exact d, e⟩
  refine ⟨r.f0, fun b o e => by rw [upd_ne (nf b o e)]; exact r.fh b o e, fun b o n e => by rw [upd_ne (fun z => by subst z; rw [h3] at e; cases e)]; exact r.gh b o n e, r.fg,
    ⟨r.src.fr, by rw [upd_ne (Ne.symm h1)]; exact r.src.at0, r.src.cells, r.src.ne, r.src.nn, r.src.left, r.src.turn⟩, r.len, fun i s q => ?_, r.ap, r.apd, fun q hq => ?_, r.exn, fun q hq j zs q1 q2 => ?_⟩
  · obtain ⟨v, e1, k⟩ := r.slot i s q
    refine ⟨v, e1, ?_⟩
    cases s with
    | val d => exact k
    | own zs =>
      obtain ⟨p', rfl, o⟩ := k
      exact ⟨p', rfl, ow (fun z => r.exs _ (List.mem_cons_self ..) i zs q (by rw [e1, z])) o⟩
    | exn c => exact k
    | dic t kvs =>
      obtain ⟨p', rfl, c1, c2, c3, u, c4, c5⟩ := k
      exact ⟨p', rfl, c1, c2, c3, u, (by rw [upd_ne (fun z => by subst z; rw [h4] at c4; cases c4; exact c5.nl _ rfl)]; exact c4), c5⟩
  · rcases List.mem_cons.mp hq with rfl | hq
    · exact ⟨h1, h2, h3, vs, upd_same, hv⟩
    · exact ow (fun z => (List.nodup_cons.mp r.exn).1 (List.mem_map.mpr ⟨q, hq, z⟩)) (r.exo q (List.mem_cons_of_mem _ hq))
  · rcases List.mem_cons.mp hq with rfl | hq
    · exact r.exs _ (List.mem_cons_self ..) j zs q1 q2
    · exact r.exs q (List.mem_cons_of_mem _ hq) j zs q1 q2
/-- the new list goes back to its name -/
theorem Rel.putOwn {p : Addr} {i : Nat} {xs : List D} (r : Rel K fm ((p, xs) :: ex) σ H F w) (e : σ[i]? = some (some (.ref p))) : Rel K fm ex σ H F { w with env := w.env.set i (some (.own xs)) } := by
  have z := r.setOwn i
  have hl : i < σ.length := (List.getElem?_eq_some_iff.mp e).1
  have e2 : σ.set i (some (.ref p)) = σ := by
    have := (List.getElem?_eq_some_iff.mp e).2
    rw [← this]; exact List.set_getElem_self hl
  rw [e2] at z
  exact z
/-- behind an expression whose value bears no address the names hold what they held -/
theorem Rel.unf {w' : W} (r : Rel K fm ex σ H F w) (k : Kp fm.a0 H H') (f : Ex F F') (r' : Rel K fm ex σ H' F' w') : Rel K fm ex σ H' F { env := w.env, ss := w'.ss } := by
  have ow : ∀ {q : Addr} {zs : List D}, Own K fm F H q zs → Own K fm F H' q zs := fun ⟨a, b, c, u, d, e⟩ => ⟨a, b, c, u, k _ _ a d, e⟩
  refine ⟨r.f0, f.trans r'.fh, r'.gh, r.fg, ⟨r.src.fr, r'.src.at0, ?_, r'.src.ne, r'.src.nn, r'.src.left, r'.src.turn⟩, r.len, fun i s q => ?_, r.ap, r.apd, fun q hq => ow (r.exo q hq), r.exn, r.exs⟩
  · have h1 := f _ _ r.src.cells
    rw [r'.src.cells] at h1
    rw [r.src.cells, ← h1]
  · obtain ⟨v, e1, kk⟩ := r.slot i s q
    refine ⟨v, e1, ?_⟩
    cases s with
    | val d => exact kk
    | own zs => obtain ⟨p', rfl, o⟩ := kk; exact ⟨p', rfl, ow o⟩
    | exn c => exact kk
    | dic t kvs => obtain ⟨p', rfl, c1, c2, c3, u, c4, c5⟩ := kk; exact ⟨p', rfl, c1, c2, c3, u, k _ _ c1 c4, c5⟩
/-! ### a caught exception's name -/
def noX (env : Env) : Env := env.map fun s => match s with
  | some (.exn _) => none
  | s => s
theorem noX_get {env : Env} {i : Nat} {s : Slot} (h : (noX env)[i]? = some (some s)) : env[i]? = some (some s) ∧ ∀ c, s ≠ .exn c := by
  unfold noX at h
  rw [List.getElem?_map] at h
  cases e : env[i]? with
  | none => rw [e] at h; cases h
  | some o =>
    rw [e] at h
    cases o with
    | none => cases h
    | some t =>
      cases t with
      | exn c => cases h
      | val d => cases h; exact ⟨rfl, fun _ z => by cases z⟩
      | own xs => cases h; exact ⟨rfl, fun _ z => by cases z⟩
      | dic t kvs => cases h; exact ⟨rfl, fun _ z => by cases z⟩
theorem Rel.enter (r : Rel K fm ex σ H F w) (a d : Addr) (n : Str) (k : Addr) : Rel K { fm with xa := a, xd := d, xc := n, xk := k } ex σ H F { w with env := noX w.env } where
  f0 := r.f0
  fh := r.fh
  gh := r.gh
  fg := r.fg
  src := r.src
  len := by simp [noX, r.len]
  slot := fun i s h => by
    obtain ⟨h1, h2⟩ := noX_get h
    obtain ⟨v, e, k⟩ := r.slot i s h1
    refine ⟨v, e, ?_⟩
    cases s with
    | val d => exact k
    | own xs => exact k
    | exn c => exact absurd rfl (h2 c)
    | dic t kvs => exact k
  ap := fun i j xs ys p h1 h2 h3 h4 => r.ap i j xs ys p (noX_get h1).1 (noX_get h2).1 h3 h4
  apd := fun i j t u xs ys p h1 h2 h3 h4 => r.apd i j t u xs ys p (noX_get h1).1 (noX_get h2).1 h3 h4
  exo := r.exo
  exn := r.exn
  exs := fun q hq i xs h1 h2 => r.exs q hq i xs (noX_get h1).1 h2
theorem Rel.leave {a d : Addr} {n : Str} {k : Addr} (r : Rel K { fm with xa := a, xd := d, xc := n, xk := k } ex σ H F w) : Rel K fm ex σ H F { w with env := noX w.env } := (r.enter fm.xa fm.xd fm.xc fm.xk)
theorem Rel.frzX {d : Addr} {fs : List (Str × V)} (r : Rel K fm ex σ H F w) (hd : H d = some (.xd fs)) (hg : fm.G d = none) : ∃ F', Ex F F' ∧ F' d = some (.xd fs) ∧ Rel K fm ex σ H F' w := by
  have n0 : d ≠ fm.a0 := fun z => by subst z; rw [r.src.at0] at hd; cases hd
  have hF : ∀ o, F d = some o → o = .xd fs := fun o e => by have := r.fh d o e; rw [hd] at this; cases this; rfl
  have e : Ex F (upd F d (.xd fs)) := fun b o q => by
    by_cases hb : b = d
    · subst hb; rw [hF o q, upd_same]
    · rw [upd_ne hb]; exact q
  have ow : ∀ {q : Addr} {zs : List D}, Own K fm F H q zs → Own K fm (upd F d (.xd fs)) H q zs := fun ⟨a, b, c, u, x, y⟩ => by
    refine ⟨a, ?_, c, u, x, y.ex e⟩
    rw [upd_ne (fun z => by subst z; rw [x] at hd; cases hd)]
    exact b
  refine ⟨_, e, upd_same, r.f0.trans e, fun b o q => ?_, r.gh, fun b o q => ?_, ⟨by rw [upd_ne (Ne.symm n0)]; exact r.src.fr, r.src.at0, e _ _ r.src.cells, r.src.ne, r.src.nn, r.src.left, r.src.turn⟩, r.len, fun i s q => ?_, r.ap, r.apd, fun q hq => ow (r.exo q hq), r.exn, r.exs⟩
  · by_cases hb : b = d
    · subst hb; rw [upd_same] at q; cases q; exact hd
    · rw [upd_ne hb] at q; exact r.fh b o q
  · by_cases hb : b = d
    · subst hb; exact .inr hg
    · rw [upd_ne hb] at q; exact r.fg b o q
  · obtain ⟨v, e1, k⟩ := r.slot i s q
    refine ⟨v, e1, ?_⟩
    cases s with
    | val d => exact Rp.ex k e
    | own zs => obtain ⟨p', rfl, o⟩ := k; exact ⟨p', rfl, ow o⟩
    | exn c => obtain ⟨a1, a2, a3, vv, b1, b2⟩ := k; exact ⟨a1, a2, a3, vv, e _ _ b1, b2.ex e⟩
    | dic t kvs =>
      obtain ⟨p', rfl, c1, c2, c3, u, c4, c5⟩ := k
      exact ⟨p', rfl, c1, (by rw [upd_ne (fun z => by subst z; rw [hd] at c4; cases c4; exact c5.nx _ rfl)]; exact c2), c3, u, c4, c5.ex e⟩
/-- a new dict is laid and named -/
theorem Rel.newDic {p : Addr} {t : Bool} {o : HO} (r : Rel K fm ex σ H F w) (hp : H p = none) (ho : DicO K fm.a0 F t [] o) (i : Nat) : Rel K fm ex (σ.set i (some (.ref p))) (upd H p o) F { w with env := w.env.set i (some (.dic t [])) } := by
  have r2 := r.gr (Gr.dark (o := o) r.fh hp)
  have n0 : p ≠ fm.a0 := fun z => by subst z; rw [r.src.at0] at hp; cases hp
  have ng : fm.G p = none := by
    cases e : fm.G p with
    | none => rfl
    | some u => rw [r.gh p u n0 e] at hp; cases hp
  have r3 := r2.setNone i (some (.ref p))
  refine ⟨r3.f0, r3.fh, r3.gh, r3.fg, r3.src, by simp [r.len], fun j s h => ?_, fun j k xs ys q h1 h2 h3 h4 => ?_, fun j k a b xs ys q h1 h2 h3 h4 => ?_, r3.exo, r3.exn, fun q hq j xs h1 h2 => ?_⟩
  · rcases slot_set h with ⟨rfl, hl, e⟩ | ⟨hj, h⟩
    · cases e
      exact ⟨.ref p, List.getElem?_set_self (by rw [← r.len]; exact hl), p, rfl, n0, none_of_ex r.fh hp, ng, o, upd_same, ho⟩
    · obtain ⟨u, e, k⟩ := r2.slot j s h
      exact ⟨u, by rw [List.getElem?_set_ne (Ne.symm hj)]; exact e, k⟩
  · rcases slot_set h1 with ⟨_, _, e⟩ | ⟨hj, h1⟩
    · cases e
    · rcases slot_set h2 with ⟨_, _, e⟩ | ⟨hk, h2⟩
      · cases e
      · rw [List.getElem?_set_ne (Ne.symm hj)] at h3
        rw [List.getElem?_set_ne (Ne.symm hk)] at h4
        exact r.ap j k xs ys q h1 h2 h3 h4
  · have old : ∀ (j : Nat) (a : Bool) (xs : List (D × D)), w.env[j]? = some (some (.dic a xs)) → σ[j]? ≠ some (some (.ref p)) := fun j a xs h1 h2 => by
      obtain ⟨v, e, p', e2, _, _, _, u, h4, _⟩ := r.slot j _ h1
      rw [h2] at e
      cases e
      cases e2
      rw [hp] at h4; cases h4
    rcases slot_set h1 with ⟨rfl, hl, e⟩ | ⟨hj, g1⟩
    · rcases slot_set h2 with ⟨rfl, _, _⟩ | ⟨hk, g2⟩
      · rfl
      · rw [List.getElem?_set_self (by rw [← r.len]; exact hl)] at h3
        rw [List.getElem?_set_ne (Ne.symm hk)] at h4
        cases h3
        exact absurd h4 (old k _ _ g2)
    · rcases slot_set h2 with ⟨rfl, hl, _⟩ | ⟨hk, g2⟩
      · rw [List.getElem?_set_self (by rw [← r.len]; exact hl)] at h4
        rw [List.getElem?_set_ne (Ne.symm hj)] at h3
        cases h4
        exact absurd h3 (old j _ _ g1)
      · rw [List.getElem?_set_ne (Ne.symm hj)] at h3
        rw [List.getElem?_set_ne (Ne.symm hk)] at h4
        exact r.apd j k a b xs ys q g1 g2 h3 h4
  · rcases slot_set h1 with ⟨_, _, e⟩ | ⟨hj, h1⟩
    · cases e
    · rw [List.getElem?_set_ne (Ne.symm hj)] at h2
      exact r.exs q hq j xs h1 h2
/-- the dict of a name -/
theorem Rel.dic {i : Nat} {t : Bool} {kvs : List (D × D)} (r : Rel K fm ex σ H F w) (h : w.env[i]? = some (some (.dic t kvs))) : ∃ p, σ[i]? = some (some (.ref p)) ∧ Dic K fm F H p t kvs := by
  obtain ⟨v, e, p, rfl, o⟩ := r.slot i _ h
  exact ⟨p, e, o⟩
/-- the dict of a name is changed -/
theorem Rel.mutDic {i : Nat} {t : Bool} {kvs kvs' : List (D × D)} {p : Addr} {o : HO} (r : Rel K fm ex σ H F w) (h : w.env[i]? = some (some (.dic t kvs))) (e : σ[i]? = some (some (.ref p))) (ho : DicO K fm.a0 F t kvs' o) :
    Rel K fm ex σ (upd H p o) F { w with env := w.env.set i (some (.dic t kvs')) } := by
  obtain ⟨p1, e1, h1, h2, h3, u, h4, h5⟩ := r.dic h
  rw [e] at e1
  cases e1
  have hl : i < σ.length := (List.getElem?_eq_some_iff.mp e).1
  have nf : ∀ b o, F b = some o → b ≠ p := fun b o e' z => by subst z; rw [h2] at e'; cases e'
  have ow : ∀ {q : Addr} {zs : List D}, Own K fm F H q zs → Own K fm F (upd H p o) q zs := fun ⟨a, b, c, v, d, x⟩ => ⟨a, b, c, v, (by rw [upd_ne (fun z => by subst z; rw [h4] at d; cases d; exact h5.nl _ rfl)]; exact d), x⟩
  refine ⟨r.f0, fun b o e => by rw [upd_ne (nf b o e)]; exact r.fh b o e, fun b o n e' => by rw [upd_ne (fun z => by subst z; rw [h3] at e'; cases e')]; exact r.gh b o n e', r.fg,
    ⟨r.src.fr, by rw [upd_ne (Ne.symm h1)]; exact r.src.at0, r.src.cells, r.src.ne, r.src.nn, r.src.left, r.src.turn⟩, by simp [r.len], fun j s q => ?_, fun j k xs ys q q1 q2 q3 q4 => ?_, fun j k a b xs ys q q1 q2 q3 q4 => ?_, fun q hq => ow (r.exo q hq), r.exn, fun q hq j xs q1 q2 => ?_⟩
  · rcases slot_set q with ⟨rfl, _, e⟩ | ⟨hj, q⟩
    · cases e
      exact ⟨.ref p, by assumption, p, rfl, h1, h2, h3, o, upd_same, ho⟩
    · obtain ⟨v, e1, k⟩ := r.slot j s q
      refine ⟨v, e1, ?_⟩
      cases s with
      | val d => exact k
      | own zs => obtain ⟨p', rfl, x⟩ := k; exact ⟨p', rfl, ow x⟩
      | exn c => exact k
      | dic a zs =>
        obtain ⟨p', rfl, c1, c2, c3, u', c4, c5⟩ := k
        exact ⟨p', rfl, c1, c2, c3, u', (by rw [upd_ne (fun z => hj (r.apd j i a t zs kvs p q h (by rw [e1, z]) e))]; exact c4), c5⟩
  · rcases slot_set q1 with ⟨_, _, e⟩ | ⟨hj, q1⟩
    · cases e
    · rcases slot_set q2 with ⟨_, _, e⟩ | ⟨hk, q2⟩
      · cases e
      · exact r.ap j k xs ys q q1 q2 q3 q4
  · rcases slot_set q1 with ⟨rfl, _, _⟩ | ⟨hj, g1⟩
    · rcases slot_set q2 with ⟨rfl, _, _⟩ | ⟨hk, g2⟩
      · rfl
      · exact r.apd j k t b kvs ys q h g2 q3 q4
    · rcases slot_set q2 with ⟨rfl, _, _⟩ | ⟨hk, g2⟩
      · exact r.apd j k a t xs kvs q g1 h q3 q4
      · exact r.apd j k a b xs ys q g1 g2 q3 q4
  · rcases slot_set q1 with ⟨_, _, e⟩ | ⟨hj, q1⟩
    · cases e
    · exact r.exs q hq j xs q1 q2
theorem Rel.setX (r : Rel K fm ex σ H F w) (i : Nat) {c : Exn} {vv : V} (hc : c.c = fm.xc) (hk : XCls K fm.xk c.f) (hd : F fm.xd = some (.xd [(c.f, vv)])) (hv : Rp K fm.a0 F vv c.d) : Rel K fm ex (σ.set i (some (.ref fm.xa))) H F { w with env := w.env.set i (some (.exn c)) } where
  f0 := r.f0
  fh := r.fh
  gh := r.gh
  fg := r.fg
  src := r.src
  len := by simp [r.len]
  slot := fun j s h => by
    rcases slot_set h with ⟨rfl, hl, e⟩ | ⟨hj, h⟩
    · cases e
      exact ⟨_, List.getElem?_set_self (by rw [← r.len]; exact hl), rfl, hc, hk, vv, hd, hv⟩
    · obtain ⟨u, e, k⟩ := r.slot j s h
      exact ⟨u, by rw [List.getElem?_set_ne (Ne.symm hj)]; exact e, k⟩
  ap := fun j k xs ys p h1 h2 h3 h4 => by
    rcases slot_set h1 with ⟨_, _, e⟩ | ⟨hj, h1⟩
    · cases e
    · rcases slot_set h2 with ⟨_, _, e⟩ | ⟨hk, h2⟩
      · cases e
      · rw [List.getElem?_set_ne (Ne.symm hj)] at h3
        rw [List.getElem?_set_ne (Ne.symm hk)] at h4
        exact r.ap j k xs ys p h1 h2 h3 h4
  apd := r.apd.set i (fun _ _ z => by cases z) _
  exo := r.exo
  exn := r.exn
  exs := fun q hq j xs h1 h2 => by
    rcases slot_set h1 with ⟨_, _, e⟩ | ⟨hj, h1⟩
    · cases e
    · rw [List.getElem?_set_ne (Ne.symm hj)] at h2
      exact r.exs q hq j xs h1 h2
end
end TD

set_option Elab.async false
set_option linter.all false
set_option maxRecDepth 100000
set_option maxHeartbeats 4000000
namespace TD
open PySem PySem.Spec PyProof.Rows L2

/-! ### the strongest readings -/
def WE (X : Cx) (e : Expr) : TE := fun σ H Q => ∀ (pins : List (Addr × Obj)) (s : Shared), Inv X pins σ H s → wpAny (model X.prog X.w) X.A (eval e X.env) (EP X pins σ Q) X.xe s
def WT (X : Cx) (e : Expr) : TT := fun σ H Q => ∀ (pins : List (Addr × Obj)) (s : Shared), Inv X pins σ H s → wpAny (model X.prog X.w) X.A (isTrue e X.env (eval e X.env)) (TP X pins σ Q) X.xe s
def WA (X : Cx) (es : List Expr) : TA := fun σ H Q => ∀ (pos : Pos) (pins : List (Addr × Obj)) (s : Shared), Inv X pins σ H s → wpAny (model X.prog X.w) X.A (spliced (backTo pos (starEach es X.env))) (AP X pins σ Q) X.xe s
def WS (X : Cx) (st : Stmt) : TS := fun D σ H => ∀ (pins : List (Addr × Obj)) (s : Shared), Inv X pins σ H s → wpAny (model X.prog X.w) X.A (exec st X.env) (SP X pins D) X.xe s
def WSs (X : Cx) (st : List Stmt) : TS := fun D σ H => ∀ (pins : List (Addr × Obj)) (s : Shared), Inv X pins σ H s → wpAny (model X.prog X.w) X.A (execs st X.env) (SP X pins D) X.xe s
section
variable {X : Cx} {e : Expr} {es : List Expr} {st : Stmt} {sts : List Stmt} {σ : L2.St} {H : Hp}
theorem pe_we : PE X e (WE X e) := ⟨fun pins s _ _ _ I h => h pins s I⟩
theorem pt_wt : PT X e (WT X e) := ⟨fun pins s _ _ _ I h => h pins s I⟩
theorem pa_wa : PA X es (WA X es) := ⟨fun pos pins s _ _ _ I h => h pos pins s I⟩
theorem ps_ws : PS X st (WS X st) := ⟨fun pins s _ _ _ I h => h pins s I⟩
theorem pss_wss : PSs X sts (WSs X sts) := ⟨fun pins s _ _ _ I h => h pins s I⟩
theorem WE.of {t : TE} {Q : VK} (h : PE X e t) (q : t σ H Q) : WE X e σ H Q := fun pins s I => h.run pins s σ H Q I q
theorem WT.of {t : TT} {Q : Bool → Hp → Prop} (h : PT X e t) (q : t σ H Q) : WT X e σ H Q := fun pins s I => h.run pins s σ H Q I q
theorem WA.of {t : TA} {Q : List V → Hp → Prop} (h : PA X es t) (q : t σ H Q) : WA X es σ H Q := fun pos pins s I => h.run pos pins s σ H Q I q
theorem WS.of {t : TS} {D : Ends} (h : PS X st t) (q : t D σ H) : WS X st D σ H := fun pins s I => h.run pins s σ H D I q
theorem WSs.of {t : TS} {D : Ends} (h : PSs X sts t) (q : t D σ H) : WSs X sts D σ H := fun pins s I => h.run pins s σ H D I q
end
/-- an operation upon two values, as strong as it can be said -/
def W2 (X : Cx) (f : Value → Value → Sem Value) : R2 := fun x y H Q => ∀ (pins : List (Addr × Obj)) (s : Shared) (σ : L2.St) (v u : Value), Inv X pins σ H s → RelV x v → RelV y u → wpAny (model X.prog X.w) X.A (f v u) (EP X pins σ Q) X.xe s
theorem opr_w2 {X : Cx} {f : Value → Value → Sem Value} : OpR X f (W2 X f) := fun pins s σ H x y v u Q I rx ry h => h pins s σ v u I rx ry
theorem W2.of {X : Cx} {f : Value → Value → Sem Value} {r : R2} {x y : V} {H : Hp} {Q : VK} (h : OpR X f r) (q : r x y H Q) : W2 X f x y H Q := fun pins s σ v u I rx ry => h pins s σ H x y v u Q I rx ry q
def W1 (X : Cx) (f : Value → Sem Value) : V → Hp → VK → Prop := fun x H Q => ∀ (pins : List (Addr × Obj)) (s : Shared) (σ : L2.St) (v : Value), Inv X pins σ H s → RelV x v → wpAny (model X.prog X.w) X.A (f v) (EP X pins σ Q) X.xe s
theorem unr_w1 {X : Cx} {f : Value → Sem Value} : UnR X f (W1 X f) := fun pins s σ H x v Q I rx h => h pins s σ v I rx
theorem W1.of {X : Cx} {f : Value → Sem Value} {r : V → Hp → VK → Prop} {x : V} {H : Hp} {Q : VK} (h : UnR X f r) (q : r x H Q) : W1 X f x H Q := fun pins s σ v I rx => h pins s σ H x v Q I rx q
/-- a call of a value -/
def WC (X : Cx) (f : Value) : List V → Hp → VK → Prop := fun xs H Q => ∀ (pins : List (Addr × Obj)) (s : Shared) (σ : L2.St) (us : List Value), Inv X pins σ H s → Vals xs us → wpAny (model X.prog X.w) X.A (call f us) (EP X pins σ Q) X.xe s
theorem callr_wc {X : Cx} {f : Value} : CallR X f (WC X f) := fun pins s σ H xs us Q I r h => h pins s σ us I r
theorem WC.of {X : Cx} {f : Value} {r : List V → Hp → VK → Prop} {xs : List V} {H : Hp} {Q : VK} (h : CallR X f r) (q : r xs H Q) : WC X f xs H Q := fun pins s σ us I rr => h pins s σ H xs us Q I rr q

/-! ### outcomes -/
def R.bind {α β : Type} (r : R α) (k : α → W → R β) : R β := match r with
  | .ok a w => k a w
  | .exc c w => .exc c w
  | .stuck => .stuck
def R.lift {α : Type} (o : Option α) (w : W) : R α := match o with
  | some a => .ok a w
  | none => .stuck
@[simp] theorem R.bind_ok {α β : Type} (a : α) (w : W) (k : α → W → R β) : (R.ok a w).bind k = k a w := Eq.trans rfl rfl
@[simp] theorem R.bind_exc {α β : Type} (c : Exn) (w : W) (k : α → W → R β) : (R.exc c w : R α).bind k = .exc c w := Eq.trans rfl rfl
@[simp] theorem R.bind_stuck {α β : Type} (k : α → W → R β) : (R.stuck : R α).bind k = .stuck := Eq.trans rfl rfl
@[simp] theorem R.lift_some {α : Type} (a : α) (w : W) : R.lift (some a) w = .ok a w := Eq.trans rfl rfl
@[simp] theorem R.lift_none {α : Type} (w : W) : R.lift (none : Option α) w = .stuck := Eq.trans rfl rfl

def ExcIs (K : PySem.W.Frag) (mg : Str → Option Value) (a0 : Addr) (G : Hp) (c : Exn) (cls : Value) (dd : Option Addr) (F H : Hp) : Prop :=
  ∃ (C d : Addr) (v : V), mg c.c = some (.ref C) ∧ cls = .ref C ∧ dd = some d ∧ H d = some (.xd [(c.f, v)]) ∧ Rp K a0 F v c.d ∧ G d = none ∧ XCls K C c.f
theorem ExcIs.up {K : PySem.W.Frag} {mg : Str → Option Value} {fm : Fm} {c : Exn} {cls : Value} {dd : Option Addr} {F F1 H1 H : Hp} {ex : Exs} {σ : L2.St} {w : W} {ss : SS} (h : ExcIs K mg fm.a0 H1 c cls dd F H) (r : Rel K fm ex σ H1 F1 w) (s : SrcOk fm.a0 fm.c0 F H ss) : ExcIs K mg fm.a0 fm.G c cls dd F H := by
  obtain ⟨C, d, v, h1, h2, h3, h4, h5, h6, h7⟩ := h
  refine ⟨C, d, v, h1, h2, h3, h4, h5, ?_, h7⟩
  cases e : fm.G d with
  | none => rfl
  | some o =>
    have n : d ≠ fm.a0 := fun z => by subst z; rw [s.at0] at h4; cases h4
    rw [r.gh d o n e] at h6; cases h6

def Fin (X : Cx) (Wx : WX) (fm : Fm) (ex : Exs) (σ : L2.St) (H F : Hp) {α : Type} (k : α → W → Hp → Hp → Prop) : R α → Prop
  | .ok a w' => ∀ H' F', Kp fm.a0 H H' → Ex F F' → Rel X.K fm ex σ H' F' w' → k a w' H' F'
  | .exc c w' => ∀ H' F' cls dd, Kp fm.a0 H H' → Ex F F' → Rel X.K fm ex σ H' F' w' → ExcIs X.K X.mg fm.a0 fm.G c cls dd F' H' → Wx cls dd σ H'
  | .stuck => False
section
variable {X : Cx} {Wx : WX} {fm : Fm} {ex : Exs} {σ : L2.St} {H F H' F' : Hp} {α β : Type} {k : α → W → Hp → Hp → Prop}
theorem Fin.from (h : Fin X Wx fm ex σ H F k r) (kp : Kp fm.a0 H H') (e : Ex F F') : Fin X Wx fm ex σ H' F' k r := by
  cases r with
  | ok a w' => exact fun H2 F2 k2 e2 => h H2 F2 (kp.trans k2) (e.trans e2)
  | exc c w' => exact fun H2 F2 cls dd k2 e2 => h H2 F2 cls dd (kp.trans k2) (e.trans e2)
  | stuck => exact h
theorem Fin.bind {r : R α} {q : α → W → R β} {k : β → W → Hp → Hp → Prop} (h : Fin X Wx fm ex σ H F k (r.bind q)) :
    Fin X Wx fm ex σ H F (fun a w' H' F' => Rel X.K fm ex σ H' F' w' ∧ Kp fm.a0 H H' ∧ Ex F F' ∧ Fin X Wx fm ex σ H' F' k (q a w')) r := by
  cases r with
  | ok a w' => exact fun H' F' kp e r => ⟨r, kp, e, Fin.from (r := q a w') h kp e⟩
  | exc c w' => exact h
  | stuck => exact h
theorem Fin.imp {k k' : α → W → Hp → Hp → Prop} {r : R α} (h : Fin X Wx fm ex σ H F k r) (hi : ∀ a w H' F', k a w H' F' → k' a w H' F') : Fin X Wx fm ex σ H F k' r := by
  cases r with
  | ok a w' => exact fun H' F' kp e r => hi _ _ _ _ (h H' F' kp e r)
  | exc c w' => exact h
  | stuck => exact h
theorem Fin.lift {o : Option α} {w : W} (h : Fin X Wx fm ex σ H F k (R.lift o w)) : ∃ a, o = some a ∧ ∀ H' F', Kp fm.a0 H H' → Ex F F' → Rel X.K fm ex σ H' F' w → k a w H' F' := by
  cases o with
  | some a => exact ⟨a, rfl, h⟩
  | none => exact h.elim
end

/-! ### the judgements over plain data -/
abbrev SEr (X : Cx) (Wx : WX) (fm : Fm) (e : Expr) (m : W → R D) : Prop := ∀ (ex : Exs) (σ : L2.St) (H F : Hp) (w : W) (Q : VK), Rel X.K fm ex σ H F w →
  Fin X Wx fm ex σ H F (fun d _ H' F' => ∀ v, Rp X.K fm.a0 F' v d → Q v H') (m w) → WE X e σ H Q
structure SE (X : Cx) (Wx : WX) (fm : Fm) (e : Expr) (m : W → R D) : Prop where
  run : SEr X Wx fm e m
instance {X : Cx} {Wx : WX} {fm : Fm} {e : Expr} {m : W → R D} : CoeFun (SE X Wx fm e m) (fun _ => SEr X Wx fm e m) := ⟨SE.run⟩
abbrev STtr (X : Cx) (Wx : WX) (fm : Fm) (e : Expr) (m : W → R Bool) : Prop := ∀ (ex : Exs) (σ : L2.St) (H F : Hp) (w : W) (Q : Bool → Hp → Prop), Rel X.K fm ex σ H F w →
  Fin X Wx fm ex σ H F (fun b _ H' _ => Q b H') (m w) → WT X e σ H Q
structure STt (X : Cx) (Wx : WX) (fm : Fm) (e : Expr) (m : W → R Bool) : Prop where
  run : STtr X Wx fm e m
instance {X : Cx} {Wx : WX} {fm : Fm} {e : Expr} {m : W → R Bool} : CoeFun (STt X Wx fm e m) (fun _ => STtr X Wx fm e m) := ⟨STt.run⟩
abbrev SAsr (X : Cx) (Wx : WX) (fm : Fm) (es : List Expr) (m : W → R (List D)) : Prop := ∀ (ex : Exs) (σ : L2.St) (H F : Hp) (w : W) (Q : List V → Hp → Prop), Rel X.K fm ex σ H F w →
  Fin X Wx fm ex σ H F (fun ds _ H' F' => ∀ vs, RpAll X.K fm.a0 F' vs ds → Q vs H') (m w) → WA X es σ H Q
structure SAs (X : Cx) (Wx : WX) (fm : Fm) (es : List Expr) (m : W → R (List D)) : Prop where
  run : SAsr X Wx fm es m
instance {X : Cx} {Wx : WX} {fm : Fm} {es : List Expr} {m : W → R (List D)} : CoeFun (SAs X Wx fm es m) (fun _ => SAsr X Wx fm es m) := ⟨SAs.run⟩
/-- a new list -/
def FinF (X : Cx) (Wx : WX) (fm : Fm) (ex : Exs) (σ : L2.St) (H F : Hp) (Q : VK) : R (List D) → Prop
  | .ok xs w' => ∀ p H' F', Kp fm.a0 H H' → Ex F F' → Rel X.K fm ((p, xs) :: ex) σ H' F' w' → Q (.ref p) H'
  | .exc c w' => ∀ H' F' cls dd, Kp fm.a0 H H' → Ex F F' → Rel X.K fm ex σ H' F' w' → ExcIs X.K X.mg fm.a0 fm.G c cls dd F' H' → Wx cls dd σ H'
  | .stuck => False
abbrev SFr (X : Cx) (Wx : WX) (fm : Fm) (e : Expr) (m : W → R (List D)) : Prop := ∀ (ex : Exs) (σ : L2.St) (H F : Hp) (w : W) (Q : VK), Rel X.K fm ex σ H F w →
  FinF X Wx fm ex σ H F Q (m w) → WE X e σ H Q
structure SF (X : Cx) (Wx : WX) (fm : Fm) (e : Expr) (m : W → R (List D)) : Prop where
  run : SFr X Wx fm e m
instance {X : Cx} {Wx : WX} {fm : Fm} {e : Expr} {m : W → R (List D)} : CoeFun (SF X Wx fm e m) (fun _ => SFr X Wx fm e m) := ⟨SF.run⟩

section
variable {X : Cx} {Wx : WX} {fm : Fm}
/-- a new list as a value -/
def mFrz (m : W → R (List D)) : W → R D := fun w => (m w).bind fun xs w' => .ok (.lst xs) w'
theorem se_frz {e : Expr} {m : W → R (List D)} (h : SF X Wx fm e m) : SE X Wx fm e (mFrz m) := by
  refine ⟨?_⟩
  intro ex σ H F w Q r q
  refine h ex σ H F w Q r ?_
  revert q
  unfold mFrz
  cases m w with
  | ok xs w' =>
    intro q p H' F' kp e r'
    obtain ⟨F2, e2, r2, k2⟩ := r'.frz
    exact q H' F2 kp (e.trans e2) r2 _ k2
  | exc c w' => exact fun q => q
  | stuck => exact fun q => q
def D.flat : D → Bool
  | .non | .bl _ | .int _ | .str _ => true
  | _ => false
theorem Rp.flat {K : PySem.W.Frag} {a0 : Addr} {F F' : Hp} {v : V} {d : D} (h : Rp K a0 F v d) (f : d.flat = true) : Rp K a0 F' v d := by
  cases h with
  | non => exact .non
  | bl b => exact .bl b
  | int i => exact .int i
  | str x => exact .str x
  | tup _ _ => cases f
  | lst _ _ => cases f
  | src => cases f
/-- behind an expression whose value is no object, the names hold what they held -/
def mSc (m : W → R D) : W → R D := fun w => (m w).bind fun d w' => .ok d (if d.flat = true then { env := w.env, ss := w'.ss } else w')
theorem se_sc {e : Expr} {m : W → R D} (h : SE X Wx fm e m) : SE X Wx fm e (mSc m) := by
  refine ⟨?_⟩
  intro ex σ H F w Q r q
  refine h ex σ H F w Q r ?_
  revert q
  unfold mSc
  cases m w with
  | ok d w' =>
    intro q H' F' kp e r' v hv
    cases f : d.flat with
    | true =>
      have q' : Fin X Wx fm ex σ H F (fun d _ H' F' => ∀ v, Rp X.K fm.a0 F' v d → Q v H') (.ok d { env := w.env, ss := w'.ss }) := by
        simpa [f] using q
      exact q' H' F kp (Ex.refl _) (r.unf kp e r') v (hv.flat f)
    | false =>
      have q' : Fin X Wx fm ex σ H F (fun d _ H' F' => ∀ v, Rp X.K fm.a0 F' v d → Q v H') (.ok d w') := by
        simpa [f] using q
      exact q' H' F' kp e r' v hv
  | exc c w' => exact fun q => q
  | stuck => exact fun q => q
def mScT (m : W → R Bool) : W → R Bool := fun w => (m w).bind fun b w' => .ok b { env := w.env, ss := w'.ss }
theorem st_sc {e : Expr} {m : W → R Bool} (h : STt X Wx fm e m) : STt X Wx fm e (mScT m) := by
  refine ⟨?_⟩
  intro ex σ H F w Q r q
  refine h ex σ H F w Q r ?_
  revert q
  unfold mScT
  cases m w with
  | ok d w' => exact fun q H' F' kp e r' => q H' F kp (Ex.refl _) (r.unf kp e r')
  | exc c w' => exact fun q => q
  | stuck => exact fun q => q

/-! ### names, constants -/
def mVar (i : Nat) : W → R D := fun w => match w.env[i]? with
  | some (some (.val d)) => .ok d w
  | some (some (.own xs)) => .ok (.lst xs) { w with env := w.env.set i (some (.val (.lst xs))) }
  | _ => .stuck
theorem se_var {i : Nat} {x : Str} {pos : Pos} (hN : X.N[i]? = some x := by rfl) (hv : Vis X.env.scope x := by first | exact Or.inl rfl | exact Or.inr (Or.inl rfl) | exact Or.inr (Or.inr rfl)) (hd : (x == ("__debug__" : Str)) = false := by decide)
    (hcd : (x == ("__classdict__" : Str)) = false := by decide) : SE X Wx fm (.Name x pos) (mVar i) := by
  refine ⟨?_⟩
  intro ex σ H F w Q r q
  refine WE.of (pe_var hN hv hd hcd) ?_
  revert q
  unfold mVar
  split
  · rename_i d h
    intro q
    obtain ⟨v, e, k⟩ := r.slot i _ h
    exact ⟨v, e, q H F Kp.refl (Ex.refl _) r v k⟩
  · rename_i xs h
    intro q
    obtain ⟨p, F', e, ef, r', k⟩ := r.frzSlot h
    exact ⟨_, e, q H F' Kp.refl ef r' _ k⟩
  · exact fun q => q.elim
def mC (d : D) : W → R D := fun w => .ok d w
theorem se_int {i : Int} {j pos} : SE X Wx fm (.Constant (.int i) j pos) (mC (.int i)) := ⟨fun ex σ H F w Q r q => WE.of pe_int (q H F Kp.refl (Ex.refl _) r _ (.int i))⟩
theorem se_bl {b : Bool} {j pos} : SE X Wx fm (.Constant (.bool b) j pos) (mC (.bl b)) := ⟨fun ex σ H F w Q r q => WE.of pe_bl (q H F Kp.refl (Ex.refl _) r _ (.bl b))⟩
theorem se_non {j pos} : SE X Wx fm (.Constant .none j pos) (mC .non) := ⟨fun ex σ H F w Q r q => WE.of pe_non (q H F Kp.refl (Ex.refl _) r _ .non)⟩
theorem se_str {x : Str} {j pos} : SE X Wx fm (.Constant (.str x) j pos) (mC (.str x)) := ⟨fun ex σ H F w Q r q => WE.of pe_str (q H F Kp.refl (Ex.refl _) r _ (.str x))⟩
/-- a module's constant -/
theorem se_glob {x : Str} {v : V} {d : D} {u : Value} {pos : Pos} (hg : Gl X x) (hm : X.mg x = some u) (rv : RelV v u) (hr : ∀ F, Rp X.K fm.a0 F v d) (hd : (x == ("__debug__" : Str)) = false := by decide) : SE X Wx fm (.Name x pos) (mC d) :=
  ⟨fun ex σ H F w Q r q => WE.of (pe_glob hg hm rv hd) (q H F Kp.refl (Ex.refl _) r _ (hr F))⟩

/-! ### operators -/
/-- an operation on data: by values, the heap at most growing -/
def DOp (X : Cx) (a0 : Addr) (f : Value → Value → Sem Value) (g : D → D → Option D) : Prop :=
  ∀ (x y : V) (d e r : D) (H F : Hp) (Q : VK), Ex F H → Rp X.K a0 F x d → Rp X.K a0 F y e → g d e = some r → (∀ v H' F', Gr H F H' F' → Rp X.K a0 F' v r → Q v H') → W2 X f x y H Q
def mBin (g : D → D → Option D) (ma mb : W → R D) : W → R D := fun w => (ma w).bind fun x w1 => (mb w1).bind fun y w2 => R.lift (g x y) w2
theorem se2 {a b : Expr} {ma mb : W → R D} {f : Value → Value → Sem Value} {g : D → D → Option D} {ex : Exs} {σ : L2.St} {H F : Hp} {w : W} {Q : VK} (ho : DOp X fm.a0 f g) (ha : SE X Wx fm a ma) (hb : SE X Wx fm b mb) (r : Rel X.K fm ex σ H F w)
    (q : Fin X Wx fm ex σ H F (fun d _ H' F' => ∀ v, Rp X.K fm.a0 F' v d → Q v H') (mBin g ma mb w)) : tOp (W2 X f) (WE X a) (WE X b) σ H Q := by
  show WE X a σ H fun x H1 => WE X b σ H1 fun y H2 => W2 X f x y H2 Q
  refine ha ex σ H F w _ r ((Fin.bind q).imp fun x w1 H1 F1 ⟨r1, k1, e1, q1⟩ v hv => ?_)
  refine hb ex σ H1 F1 w1 _ r1 ((Fin.bind q1).imp fun y w2 H2 F2 ⟨r2, k2, e2, q2⟩ u hu => ?_)
  obtain ⟨z, hz, q3⟩ := q2.lift
  exact ho v u x y z H2 F2 Q r2.fh (hv.ex e2) hu hz fun t H' F' g hr => q3 H' F' g.kp g.ff (r2.gr g) t hr
theorem se_bin {a b : Expr} {op : Operator} {pos : Pos} {ma mb : W → R D} {g : D → D → Option D} (ho : DOp X fm.a0 (binaryOp op) g) (ha : SE X Wx fm a ma) (hb : SE X Wx fm b mb) : SE X Wx fm (.BinOp a op b pos) (mBin g ma mb) :=
  ⟨fun ex σ H F w Q r q => WE.of (pe_op opr_w2 pe_we pe_we) (se2 ho ha hb r q)⟩
/-- a comparison as a value, as a test -/
theorem se_cmp {a b : Expr} {op : CmpOp} {pos : Pos} {ma mb : W → R D} {g : D → D → Option D} (ho : DOp X fm.a0 (compareOp op) g) (ha : SE X Wx fm a ma) (hb : SE X Wx fm b mb) (hm : behindInMarks op b = false := by first | exact nomark _ | rfl) :
    SE X Wx fm (.Compare a [op] [b] pos) (mBin g ma mb) :=
  ⟨fun ex σ H F w Q r q => WE.of (pe_cmpR opr_w2 pe_we pe_we hm) (se2 ho ha hb r q)⟩
def D.b? : D → Option Bool
  | .bl b => some b
  | _ => none
theorem Rp.b {K : PySem.W.Frag} {a0 : Addr} {F : Hp} {v : V} {d : D} {b : Bool} (h : Rp K a0 F v d) (e : d.b? = some b) : v = .bl b := by
  cases h <;> cases e
  rfl
def mB (m : W → R D) : W → R Bool := fun w => (m w).bind fun d w' => R.lift d.b? w'
theorem fin_b {r : R D} {ex : Exs} {σ : L2.St} {H F : Hp} {Q : Bool → Hp → Prop} (q : Fin X Wx fm ex σ H F (fun b _ H' _ => Q b H') (r.bind fun d w' => R.lift d.b? w')) :
    Fin X Wx fm ex σ H F (fun d _ H' F' => ∀ v, Rp X.K fm.a0 F' v d → ∃ k, v = .bl k ∧ Q k H') r := by
  cases r with
  | ok d w' =>
    intro H' F' kp e r' v hv
    obtain ⟨b, hb, q⟩ := Fin.lift (o := d.b?) (w := w') q
    exact ⟨b, hv.b hb, q H' F' kp e r'⟩
  | exc c w' => exact q
  | stuck => exact q
theorem st_cmp {a b : Expr} {op : CmpOp} {pos : Pos} {ma mb : W → R D} {g : D → D → Option D} (ho : DOp X fm.a0 (compareOp op) g) (ha : SE X Wx fm a ma) (hb : SE X Wx fm b mb) (hm : behindInMarks op b = false := by first | exact nomark _ | rfl) :
    STt X Wx fm (.Compare a [op] [b] pos) (mB (mBin g ma mb)) :=
  ⟨fun ex σ H F w Q r q => WT.of (pt_cmpR opr_w2 pe_we pe_we hm) (se2 ho ha hb r (fin_b q))⟩
/-- two comparisons in a row -/
def mChain (g g' : D → D → Option D) (ma mb mc : W → R D) : W → R D := fun w => (ma w).bind fun x w1 => (mb w1).bind fun y w2 => (R.lift ((g x y).bind D.b?) w2).bind fun k w3 =>
  if k = true then (mc w3).bind fun z w4 => R.lift (g' y z) w4 else .ok (.bl false) w3
theorem se_chain0 {a b c : Expr} {op op' : CmpOp} {ma mb mc : W → R D} {g g' : D → D → Option D} {ex : Exs} {σ : L2.St} {H F : Hp} {w : W} {Q : VK} (ho : DOp X fm.a0 (compareOp op) g) (ho' : DOp X fm.a0 (compareOp op') g') (ha : SE X Wx fm a ma) (hb : SE X Wx fm b mb) (hc : SE X Wx fm c mc)
    (r : Rel X.K fm ex σ H F w) (q : Fin X Wx fm ex σ H F (fun d _ H' F' => ∀ v, Rp X.K fm.a0 F' v d → Q v H') (mChain g g' ma mb mc w)) :
    tChain (W2 X (compareOp op)) (W2 X (compareOp op')) (WE X a) (WE X b) (WE X c) σ H Q := by
  show WE X a σ H fun x H1 => WE X b σ H1 fun y H2 => W2 X (compareOp op) x y H2 fun z H3 => ∃ k, z = .bl k ∧ if k = true then WE X c σ H3 fun w' H4 => W2 X (compareOp op') y w' H4 Q else Q (.bl false) H3
  refine ha ex σ H F w _ r ((Fin.bind q).imp fun x w1 H1 F1 ⟨r1, k1, e1, q1⟩ v hv => ?_)
  refine hb ex σ H1 F1 w1 _ r1 ((Fin.bind q1).imp fun y w2 H2 F2 ⟨r2, k2, e2, q2⟩ u hu => ?_)
  cases hz : g x y with
  | none => rw [hz] at q2; exact (show False from q2).elim
  | some z =>
    rw [hz] at q2
    cases hb : z.b? with
    | none =>
      have q2 : Fin X Wx fm ex σ H2 F2 (fun d _ H' F' => ∀ v, Rp X.K fm.a0 F' v d → Q v H') ((R.lift (z.b?) w2).bind _) := q2
      rw [hb] at q2; exact (show False from q2).elim
    | some k =>
      have q2 : Fin X Wx fm ex σ H2 F2 (fun d _ H' F' => ∀ v, Rp X.K fm.a0 F' v d → Q v H') ((R.lift (z.b?) w2).bind _) := q2
      rw [hb] at q2
      refine ho v u x y z H2 F2 _ r2.fh (hv.ex e2) hu hz fun t H3 F3 g hr => ⟨k, hr.b hb, ?_⟩
      have r3 := r2.gr g
      cases k with
      | false => exact (show Q (.bl false) H3 from q2 H3 F3 g.kp g.ff r3 _ (.bl false))
      | true =>
        have q3 : Fin X Wx fm ex σ H2 F2 (fun d _ H' F' => ∀ v, Rp X.K fm.a0 F' v d → Q v H') ((mc w2).bind fun z w4 => R.lift (g' y z) w4) := q2
        show WE X c σ H3 fun w' H4 => W2 X (compareOp op') u w' H4 Q
        refine hc ex σ H3 F3 w2 _ r3 ((Fin.bind (q3.from g.kp g.ff)).imp fun z' w4 H4 F4 ⟨r4, k4, e4, q4⟩ t' ht' => ?_)
        obtain ⟨z2, hz2, q5⟩ := q4.lift
        exact ho' u t' y z' z2 H4 F4 Q r4.fh ((hu.ex g.ff).ex e4) ht' hz2 fun t H' F' g hr => q5 H' F' g.kp g.ff (r4.gr g) t hr
theorem se_chain {a b c : Expr} {op op' : CmpOp} {pos : Pos} {ma mb mc : W → R D} {g g' : D → D → Option D} (ho : DOp X fm.a0 (compareOp op) g) (ho' : DOp X fm.a0 (compareOp op') g') (ha : SE X Wx fm a ma) (hb : SE X Wx fm b mb) (hc : SE X Wx fm c mc)
    (hm : lastMarks [op, op'] [b, c] = false := by with_unfolding_all rfl) : SE X Wx fm (.Compare a [op, op'] [b, c] pos) (mChain g g' ma mb mc) :=
  ⟨fun ex σ H F w Q r q => WE.of (pe_chain opr_w2 opr_w2 pe_we pe_we pe_we hm) (se_chain0 ho ho' ha hb hc r q)⟩
theorem st_chain {a b c : Expr} {op op' : CmpOp} {pos : Pos} {ma mb mc : W → R D} {g g' : D → D → Option D} (ho : DOp X fm.a0 (compareOp op) g) (ho' : DOp X fm.a0 (compareOp op') g') (ha : SE X Wx fm a ma) (hb : SE X Wx fm b mb) (hc : SE X Wx fm c mc)
    (hm : lastMarks [op, op'] [b, c] = false := by with_unfolding_all rfl) : STt X Wx fm (.Compare a [op, op'] [b, c] pos) (mB (mChain g g' ma mb mc)) :=
  ⟨fun ex σ H F w Q r q => WT.of (pt_chain opr_w2 opr_w2 pe_we pe_we pe_we hm) (se_chain0 ho ho' ha hb hc r (fin_b q))⟩

/-! ### tests -/
def D.tru : D → Option Bool
  | .non => some false
  | .bl b => some b
  | .int i => some (i != 0)
  | .tup l => some (!l.isEmpty)
  | .lst l => some (!l.isEmpty)
  | _ => none
theorem RpAll.emp {K : PySem.W.Frag} {a0 : Addr} {F : Hp} {vs : List V} {ds : List D} (h : RpAll K a0 F vs ds) : vs.isEmpty = ds.isEmpty := by
  cases h <;> rfl
theorem Rp.tru {K : PySem.W.Frag} {a0 : Addr} {F H : Hp} {v : V} {d : D} {b : Bool} (h : Rp K a0 F v d) (hf : Ex F H) (e : d.tru = some b) : TruV K v H b := by
  cases h with
  | non => cases e; rfl
  | bl b => cases e; rfl
  | int i => cases e; rfl
  | str x => cases e
  | src => cases e
  | tup hs ha =>
    cases e
    exact Or.inr (Or.inl ⟨_, ex_t hf hs, by rw [ha.emp]⟩)
  | lst hs ha =>
    cases e
    exact Or.inl ⟨_, .inl (.inl (hf _ _ hs)), by rw [ha.emp]⟩
def mTru (m : W → R D) : W → R Bool := fun w => (m w).bind fun d w' => R.lift d.tru w'
theorem st_tru {e : Expr} {m : W → R D} (h : SE X Wx fm e m) (he : ∀ whole, isTrue e X.env whole = (do let v ← whole; standAt e.pos; holding [v] (truthy v)) := by intro _; rfl) : STt X Wx fm e (mTru m) := by
  refine ⟨?_⟩
  intro ex σ H F w Q r q
  refine WT.of (pt_truth pe_we he) ?_
  refine h ex σ H F w _ r ((Fin.bind q).imp fun d w1 H1 F1 ⟨r1, k1, e1, q1⟩ v hv => ?_)
  obtain ⟨b, hb, q2⟩ := q1.lift
  exact ⟨b, hv.tru r1.fh hb, q2 H1 F1 Kp.refl (Ex.refl _) r1⟩
def mNotT (m : W → R Bool) : W → R Bool := fun w => (m w).bind fun b w' => .ok (!b) w'
theorem st_not {a : Expr} {pos : Pos} {m : W → R Bool} (h : STt X Wx fm a m) : STt X Wx fm (.UnaryOp .Not a pos) (mNotT m) := by
  refine ⟨?_⟩
  intro ex σ H F w Q r q
  refine WT.of (pt_not pt_wt) ?_
  exact h ex σ H F w _ r ((Fin.bind q).imp fun b w1 H1 F1 ⟨r1, k1, e1, q1⟩ => q1 H1 F1 Kp.refl (Ex.refl _) r1)
def mAndT (m n : W → R Bool) : W → R Bool := fun w => (m w).bind fun b w' => if b = true then n w' else .ok false w'
def mOrT (m n : W → R Bool) : W → R Bool := fun w => (m w).bind fun b w' => if b = true then .ok true w' else n w'
/-- a chain of and, or: whatever its whole is -/
def SW (X : Cx) (Wx : WX) (fm : Fm) (e : Expr) (m : W → R Bool) : Prop := ∃ t, PW X e t ∧ ∀ (ex : Exs) (σ : L2.St) (H F : Hp) (w : W) (Q : Bool → Hp → Prop), Rel X.K fm ex σ H F w → Fin X Wx fm ex σ H F (fun b _ H' _ => Q b H') (m w) → t σ H Q
theorem SW.st {e : Expr} {m : W → R Bool} (h : SW X Wx fm e m) : STt X Wx fm e m := by
  refine ⟨fun ex σ H F w Q r q => ?_⟩
  obtain ⟨t, p, g⟩ := h
  exact WT.of p.pt (g ex σ H F w Q r q)
theorem sw_and1 {a : Expr} {pos : Pos} {m : W → R Bool} (h : STt X Wx fm a m) : SW X Wx fm (.BoolOp .And [a] pos) m := ⟨_, pw_and1 pt_wt, h⟩
theorem sw_or1 {a : Expr} {pos : Pos} {m : W → R Bool} (h : STt X Wx fm a m) : SW X Wx fm (.BoolOp .Or [a] pos) m := ⟨_, pw_or1 pt_wt, h⟩
theorem sw_and {a b : Expr} {rest : List Expr} {pos : Pos} {m n : W → R Bool} (h : STt X Wx fm a m) (g : SW X Wx fm (.BoolOp .And (b :: rest) pos) n) : SW X Wx fm (.BoolOp .And (a :: b :: rest) pos) (mAndT m n) := by
  obtain ⟨t, p, g⟩ := g
  refine ⟨_, pw_and pt_wt p, fun ex σ H F w Q r q => ?_⟩
  refine h ex σ H F w _ r ((Fin.bind q).imp fun b w1 H1 F1 ⟨r1, k1, e1, q1⟩ => ?_)
  cases b with
  | true => exact g ex σ H1 F1 w1 Q r1 q1
  | false => exact q1 H1 F1 Kp.refl (Ex.refl _) r1
theorem sw_or {a b : Expr} {rest : List Expr} {pos : Pos} {m n : W → R Bool} (h : STt X Wx fm a m) (g : SW X Wx fm (.BoolOp .Or (b :: rest) pos) n) : SW X Wx fm (.BoolOp .Or (a :: b :: rest) pos) (mOrT m n) := by
  obtain ⟨t, p, g⟩ := g
  refine ⟨_, pw_or pt_wt p, fun ex σ H F w Q r q => ?_⟩
  refine h ex σ H F w _ r ((Fin.bind q).imp fun b w1 H1 F1 ⟨r1, k1, e1, q1⟩ => ?_)
  cases b with
  | true => exact q1 H1 F1 Kp.refl (Ex.refl _) r1
  | false => exact g ex σ H1 F1 w1 Q r1 q1
/-- and, or as values: all but the last True or False -/
def mAndV (m n : W → R D) : W → R D := fun w => (m w).bind fun d w' => (R.lift d.b? w').bind fun b w2 => if b = true then n w2 else .ok (.bl false) w2
def mOrV (m n : W → R D) : W → R D := fun w => (m w).bind fun d w' => (R.lift d.b? w').bind fun b w2 => if b = true then .ok (.bl true) w2 else n w2
theorem se_one {op : BoolOp} {a : Expr} {pos : Pos} {m : W → R D} (h : SE X Wx fm a m) : SE X Wx fm (.BoolOp op [a] pos) m := ⟨fun ex σ H F w Q r q => WE.of (pe_one pe_we) (h ex σ H F w Q r q)⟩
theorem se_and {a b : Expr} {rest : List Expr} {pos : Pos} {m n : W → R D} (h : SE X Wx fm a m) (g : SE X Wx fm (.BoolOp .And (b :: rest) pos) n) : SE X Wx fm (.BoolOp .And (a :: b :: rest) pos) (mAndV m n) := by
  refine ⟨?_⟩
  intro ex σ H F w Q r q
  refine WE.of (pe_and pe_we pe_we) ?_
  refine h ex σ H F w _ r ((Fin.bind q).imp fun d w1 H1 F1 ⟨r1, k1, e1, q1⟩ v hv => ?_)
  cases hb : d.b? with
  | none => rw [hb] at q1; exact (show False from q1).elim
  | some b =>
    rw [hb] at q1
    refine ⟨b, hv.b hb, ?_⟩
    cases b with
    | true => exact g ex σ H1 F1 w1 Q r1 q1
    | false => exact q1 H1 F1 Kp.refl (Ex.refl _) r1 _ (.bl false)
theorem se_or {a b : Expr} {rest : List Expr} {pos : Pos} {m n : W → R D} (h : SE X Wx fm a m) (g : SE X Wx fm (.BoolOp .Or (b :: rest) pos) n) : SE X Wx fm (.BoolOp .Or (a :: b :: rest) pos) (mOrV m n) := by
  refine ⟨?_⟩
  intro ex σ H F w Q r q
  refine WE.of (pe_or pe_we pe_we) ?_
  refine h ex σ H F w _ r ((Fin.bind q).imp fun d w1 H1 F1 ⟨r1, k1, e1, q1⟩ v hv => ?_)
  cases hb : d.b? with
  | none => rw [hb] at q1; exact (show False from q1).elim
  | some b =>
    rw [hb] at q1
    refine ⟨b, hv.b hb, ?_⟩
    cases b with
    | true => exact q1 H1 F1 Kp.refl (Ex.refl _) r1 _ (.bl true)
    | false => exact g ex σ H1 F1 w1 Q r1 q1
def mNotV (m : W → R D) : W → R D := fun w => (m w).bind fun d w' => (R.lift d.b? w').bind fun b w2 => .ok (.bl (!b)) w2
theorem se_not {a : Expr} {pos : Pos} {m : W → R D} (h : SE X Wx fm a m) : SE X Wx fm (.UnaryOp .Not a pos) (mNotV m) := by
  refine ⟨?_⟩
  intro ex σ H F w Q r q
  refine WE.of (pe_not pe_we) ?_
  refine h ex σ H F w _ r ((Fin.bind q).imp fun d w1 H1 F1 ⟨r1, k1, e1, q1⟩ v hv => ?_)
  cases hb : d.b? with
  | none => rw [hb] at q1; exact (show False from q1).elim
  | some b =>
    rw [hb] at q1
    exact ⟨b, hv.b hb, q1 H1 F1 Kp.refl (Ex.refl _) r1 _ (.bl _)⟩
def mIfE (t : W → R Bool) (m n : W → R D) : W → R D := fun w => (t w).bind fun b w' => if b = true then m w' else n w'
theorem se_if {c a b : Expr} {pos : Pos} {t : W → R Bool} {m n : W → R D} (hc : STt X Wx fm c t) (ha : SE X Wx fm a m) (hb : SE X Wx fm b n) : SE X Wx fm (.IfExp c a b pos) (mIfE t m n) := by
  refine ⟨?_⟩
  intro ex σ H F w Q r q
  refine WE.of (pe_ifExp pt_wt pe_we pe_we) ?_
  refine hc ex σ H F w _ r ((Fin.bind q).imp fun b w1 H1 F1 ⟨r1, k1, e1, q1⟩ => ?_)
  cases b with
  | true => exact ha ex σ H1 F1 w1 Q r1 q1
  | false => exact hb ex σ H1 F1 w1 Q r1 q1
/-- -a, ~a -/
def DUn (X : Cx) (a0 : Addr) (f : Value → Sem Value) (g : D → Option D) : Prop :=
  ∀ (x : V) (d r : D) (H F : Hp) (Q : VK), Ex F H → Rp X.K a0 F x d → g d = some r → (∀ v H' F', Gr H F H' F' → Rp X.K a0 F' v r → Q v H') → W1 X f x H Q
def mUn (g : D → Option D) (m : W → R D) : W → R D := fun w => (m w).bind fun d w' => R.lift (g d) w'
theorem se_un {a : Expr} {op : UnaryOp} {pos : Pos} {m : W → R D} {g : D → Option D} (ho : DUn X fm.a0 (unaryOp op) g) (h : SE X Wx fm a m) : SE X Wx fm (.UnaryOp op a pos) (mUn g m) := by
  refine ⟨?_⟩
  intro ex σ H F w Q r q
  refine WE.of (pe_un unr_w1 pe_we) ?_
  refine h ex σ H F w _ r ((Fin.bind q).imp fun d w1 H1 F1 ⟨r1, k1, e1, q1⟩ v hv => ?_)
  obtain ⟨z, hz, q2⟩ := q1.lift
  exact ho v d z H1 F1 Q r1.fh hv hz fun t H' F' g hr => q2 H' F' g.kp g.ff (r1.gr g) t hr
def gNeg : D → Option D
  | .int i => some (.int (-i))
  | _ => none
theorem dun_neg {a0 : Addr} : DUn X a0 (unaryOp .USub) gNeg := by
  intro x d r H F Q hf hx hg k
  cases hx <;> cases hg
  exact W1.of un_neg ⟨_, rfl, k _ _ _ (Gr.refl hf) (.int _)⟩

/-! ### argument lists, tuples, lists -/
def mNil : W → R (List D) := fun w => .ok [] w
def mCons (m : W → R D) (n : W → R (List D)) : W → R (List D) := fun w => (m w).bind fun d w1 => (n w1).bind fun ds w2 => .ok (d :: ds) w2
theorem sa_nil : SAs X Wx fm [] mNil := ⟨fun ex σ H F w Q r q => WA.of pa_nil (q H F Kp.refl (Ex.refl _) r _ .nil)⟩
def noStar : Expr → Bool
  | .Starred .. => false
  | _ => true
theorem star_cons {e : Expr} {es : List Expr} {env : PySem.Env} (h : noStar e = true) : starEach (e :: es) env = (false, eval e env) :: starEach es env := by
  cases e <;> first | rfl | cases h
theorem sa_cons {e : Expr} {es : List Expr} {m : W → R D} {n : W → R (List D)} (h : SE X Wx fm e m) (g : SAs X Wx fm es n) (hn : noStar e = true := by rfl) : SAs X Wx fm (e :: es) (mCons m n) := by
  have hs : starEach (e :: es) X.env = (false, eval e X.env) :: starEach es X.env := star_cons hn
  refine ⟨?_⟩
  intro ex σ H F w Q r q
  refine WA.of (pa_cons pe_we pa_wa hs) ?_
  show WE X e σ H fun x H1 => WA X es σ H1 fun xs H2 => Q (x :: xs) H2
  refine h ex σ H F w _ r ((Fin.bind q).imp fun d w1 H1 F1 ⟨r1, k1, e1, q1⟩ v hv => ?_)
  refine g ex σ H1 F1 w1 _ r1 ((Fin.bind q1).imp fun ds w2 H2 F2 ⟨r2, k2, e2, q2⟩ vs hvs => ?_)
  exact q2 H2 F2 Kp.refl (Ex.refl _) r2 _ (.cons (hv.ex e2) hvs)
def mTup (m : W → R (List D)) : W → R D := fun w => (m w).bind fun ds w' => R.lift (if ds.length ≤ 1000000 then some (.tup ds) else none) w'
theorem line_of {n : Nat} (h : n ≤ 1000000) : n ≤ sizeLine := Nat.le_trans h (by rw [sizeLine_eq]; decide)
theorem line_lt {n : Nat} (h : n ≤ 1000000) : n < sizeLine := Nat.lt_of_le_of_lt h (by rw [sizeLine_eq]; decide)
theorem se_tup {es : List Expr} {x1} {pos : Pos} {m : W → R (List D)} (h : SAs X Wx fm es m) : SE X Wx fm (.Tuple es x1 pos) (mTup m) := by
  refine ⟨?_⟩
  intro ex σ H F w Q r q
  refine WE.of (pe_tup pa_wa) ?_
  refine h ex σ H F w _ r ((Fin.bind q).imp fun ds w1 H1 F1 ⟨r1, k1, e1, q1⟩ vs hvs => ?_)
  by_cases hl : ds.length ≤ 1000000
  · rw [if_pos hl] at q1
    refine ⟨line_of (by rw [hvs.len]; exact hl), fun p hp => ?_⟩
    have g : Gr H1 F1 (upd H1 p (.tup vs)) (upd F1 p (.tup vs)) := Gr.new r1.fh hp
    exact q1 _ _ g.kp g.ff (r1.gr g) _ (.tup (.inl (.inl upd_same)) (hvs.ex g.ff))
  · rw [if_neg hl] at q1
    exact (show False from q1).elim
def mLst (m : W → R (List D)) : W → R (List D) := fun w => (m w).bind fun ds w' => R.lift (if ds.length ≤ 1000000 then some ds else none) w'
theorem FinF.bind {r : R (List D)} {q : List D → W → R (List D)} {ex : Exs} {σ : L2.St} {H F : Hp} {Q : VK} (h : FinF X Wx fm ex σ H F Q (r.bind q)) :
    Fin X Wx fm ex σ H F (fun a w' H' F' => Rel X.K fm ex σ H' F' w' ∧ Kp fm.a0 H H' ∧ Ex F F' ∧ FinF X Wx fm ex σ H' F' Q (q a w')) r := by
  cases r with
  | ok a w' =>
    intro H' F' kp e r
    refine ⟨r, kp, e, ?_⟩
    have h : FinF X Wx fm ex σ H F Q (q a w') := h
    revert h
    cases q a w' with
    | ok b w2 => exact fun h p H2 F2 k2 e2 => h p H2 F2 (kp.trans k2) (e.trans e2)
    | exc c w2 => exact fun h H2 F2 cls dd k2 e2 => h H2 F2 cls dd (kp.trans k2) (e.trans e2)
    | stuck => exact fun h => h
  | exc c w' => exact h
  | stuck => exact h
theorem FinF.bindD {r : R D} {q : D → W → R (List D)} {ex : Exs} {σ : L2.St} {H F : Hp} {Q : VK} (h : FinF X Wx fm ex σ H F Q (r.bind q)) :
    Fin X Wx fm ex σ H F (fun a w' H' F' => Rel X.K fm ex σ H' F' w' ∧ Kp fm.a0 H H' ∧ Ex F F' ∧ FinF X Wx fm ex σ H' F' Q (q a w')) r := by
  cases r with
  | ok a w' =>
    intro H' F' kp e r
    refine ⟨r, kp, e, ?_⟩
    have h : FinF X Wx fm ex σ H F Q (q a w') := h
    revert h
    cases q a w' with
    | ok b w2 => exact fun h p H2 F2 k2 e2 => h p H2 F2 (kp.trans k2) (e.trans e2)
    | exc c w2 => exact fun h H2 F2 cls dd k2 e2 => h H2 F2 cls dd (kp.trans k2) (e.trans e2)
    | stuck => exact fun h => h
  | exc c w' => exact h
  | stuck => exact h
theorem sf_lst {es : List Expr} {pos : Pos} {m : W → R (List D)} (h : SAs X Wx fm es m) : SF X Wx fm (.List es pos) (mLst m) := by
  refine ⟨?_⟩
  intro ex σ H F w Q r q
  refine WE.of (pe_lst pa_wa) ?_
  refine h ex σ H F w _ r ((FinF.bind q).imp fun ds w1 H1 F1 ⟨r1, k1, e1, q1⟩ vs hvs => ?_)
  by_cases hl : ds.length ≤ 1000000
  · rw [if_pos hl] at q1
    refine ⟨line_of (by rw [hvs.len]; exact hl), fun p hp => ?_⟩
    exact q1 p _ F1 (Gr.dark r1.fh hp).kp (Ex.refl _) (r1.lay hp hvs)
  · rw [if_neg hl] at q1
    exact (show False from q1).elim
end
end TD

set_option Elab.async false
set_option linter.all false
set_option maxRecDepth 100000
set_option maxHeartbeats 4000000
namespace TD
open PySem PySem.Spec PyProof.Rows L2

/-! ### operations on data -/
def gAdd : D → D → Option D
  | .int a, .int b => some (.int (a + b))
  | .str a, .str b => if a.length + b.length ≤ 1000000 then some (.str (a ++ b)) else none
  | .tup a, .tup b => if a.length + b.length ≤ 1000000 then some (.tup (a ++ b)) else none
  | _, _ => none
def gSub : D → D → Option D
  | .int a, .int b => some (.int (a - b))
  | _, _ => none
def mulOk (i j : Int) : Bool := decide (i.natAbs < 2 ^ 64) || decide (j.natAbs < 2 ^ 64) || decide (i.natAbs.log2 + j.natAbs.log2 < 1000000)
def gMul : D → D → Option D
  | .int a, .int b => if mulOk a b = true then some (.int (a * b)) else none
  | _, _ => none
def divOk (j : Int) : Bool := decide (0 < j) && decide (j.natAbs.log2 < 9000)
def gDiv : D → D → Option D
  | .int a, .int b => if divOk b = true then some (.int (a / b)) else none
  | _, _ => none
def gMod : D → D → Option D
  | .int a, .int b => if 0 < b then some (.int (a % b)) else none
  | _, _ => none
def gPow : D → D → Option D
  | .int a, .int b => if 0 ≤ b ∧ b ≤ 1000000 ∧ a.natAbs < 2 ^ 64 then some (.int (a ^ b.toNat)) else none
  | _, _ => none
def gShl : D → D → Option D
  | .int a, .int b => if 0 ≤ b ∧ (Builtin.Int.intBits a : Int) + b ≤ 2 ^ 27 then some (.int (a * 2 ^ b.toNat)) else none
  | _, _ => none
def gShr : D → D → Option D
  | .int a, .int b => if 0 ≤ b then some (.int (a / 2 ^ b.toNat)) else none
  | _, _ => none
def gAnd : D → D → Option D
  | .int a, .int b => some (.int (Builtin.bitAnd a b))
  | _, _ => none
def gOr : D → D → Option D
  | .int a, .int b => some (.int (Builtin.bitOr a b))
  | _, _ => none
def gXor : D → D → Option D
  | .int a, .int b => some (.int (Builtin.bitXor a b))
  | _, _ => none
def gLt : D → D → Option D
  | .int a, .int b => some (.bl (decide (a < b)))
  | .str a, .str b => some (.bl (decide (a.cps.toList < b.cps.toList)))
  | _, _ => none
def gLe : D → D → Option D
  | .int a, .int b => some (.bl (decide (a ≤ b)))
  | _, _ => none
def gGt : D → D → Option D
  | .int a, .int b => some (.bl (decide (b < a)))
  | _, _ => none
def gGe : D → D → Option D
  | .int a, .int b => some (.bl (decide (b ≤ a)))
  | _, _ => none
mutual
def D.py : D → PyData
  | .non => .none
  | .bl b => .bool b
  | .int i => .int i
  | .str x => .str x
  | .tup l => .tuple (D.pys l)
  | .lst l => .list (D.pys l)
  | .src => .dict []
def D.pys : List D → List PyData
  | [] => []
  | d :: ds => d.py :: D.pys ds
end
mutual
def D.eqv : D → D → Bool
  | .non, .non => true
  | .bl a, .bl b => a == b
  | .bl a, .int j => (if a then 1 else 0) == j
  | .int i, .bl b => i == (if b then 1 else 0)
  | .int i, .int j => i == j
  | .str x, .str y => x == y
  | .lst xs, .lst ys => D.eqvs xs ys
  | .tup xs, .tup ys => D.eqvs xs ys
  | _, _ => false
def D.eqvs : List D → List D → Bool
  | [], [] => true
  | x :: xs, y :: ys => D.eqv x y && D.eqvs xs ys
  | _, _ => false
end
mutual
theorem eqv_py : ∀ d e : D, PyData.eqv d.py e.py = D.eqv d e
  | .non, e => by cases e <;> simp [D.py, PyData.eqv, D.eqv]
  | .bl _, e => by cases e <;> simp [D.py, PyData.eqv, D.eqv]
  | .int _, e => by cases e <;> simp [D.py, PyData.eqv, D.eqv]
  | .str _, e => by cases e <;> simp [D.py, PyData.eqv, D.eqv]
  | .src, e => by cases e <;> simp [D.py, PyData.eqv, D.eqv]
  | .tup l, e => by
    cases e with
    | tup m => simp only [D.py, PyData.eqv, D.eqv]; exact eqvs_py l m
    | _ => simp [D.py, PyData.eqv, D.eqv]
  | .lst l, e => by
    cases e with
    | lst m => simp only [D.py, PyData.eqv, D.eqv]; exact eqvs_py l m
    | _ => simp [D.py, PyData.eqv, D.eqv]
theorem eqvs_py : ∀ l m : List D, PyData.eqvAll (D.pys l) (D.pys m) = D.eqvs l m
  | [], [] => by simp [D.pys, PyData.eqvAll, D.eqvs]
  | [], _ :: _ => by simp [D.pys, PyData.eqvAll, D.eqvs]
  | _ :: _, [] => by simp [D.pys, PyData.eqvAll, D.eqvs]
  | x :: xs, y :: ys => by
    simp only [D.pys, PyData.eqvAll, D.eqvs]
    rw [eqv_py x y, eqvs_py xs ys]
end
mutual
/-- may be compared: no source, signs that are signs, not too deep -/
def D.okb : Nat → D → Bool
  | _, .non | _, .bl _ | _, .int _ => true
  | _, .str x => PyData.strOk x
  | 0, .tup _ | 0, .lst _ => false
  | n + 1, .tup l | n + 1, .lst l => D.oks n l
  | _, .src => false
def D.oks : Nat → List D → Bool
  | _, [] => true
  | n, d :: ds => d.okb n && D.oks n ds
end
mutual
theorem okb_py : ∀ (d : D) (n : Nat), d.okb n = true → d.py.canLay0 = true ∧ d.py.depth ≤ n
  | .non, n, _ => by simp [D.py, PyData.canLay0, PyData.depth]
  | .bl _, n, _ => by simp [D.py, PyData.canLay0, PyData.depth]
  | .int _, n, _ => by simp [D.py, PyData.canLay0, PyData.depth]
  | .str x, n, h => by
    have h' : PyData.strOk x = true := by cases n <;> simpa [D.okb] using h
    simp [D.py, PyData.canLay0, PyData.depth, h']
  | .src, n, h => by cases n <;> simp [D.okb] at h
  | .tup l, 0, h => by simp [D.okb] at h
  | .tup l, n + 1, h => by
    have := oks_py l n (by simpa [D.okb] using h)
    simp only [D.py, PyData.canLay0, PyData.depth]
    exact ⟨this.1, by omega⟩
  | .lst l, 0, h => by simp [D.okb] at h
  | .lst l, n + 1, h => by
    have := oks_py l n (by simpa [D.okb] using h)
    simp only [D.py, PyData.canLay0, PyData.depth]
    exact ⟨this.1, by omega⟩
theorem oks_py : ∀ (l : List D) (n : Nat), D.oks n l = true → PyData.canLayAll0 (D.pys l) = true ∧ PyData.depthAll (D.pys l) ≤ n
  | [], n, _ => by simp [D.pys, PyData.canLayAll0, PyData.depthAll]
  | d :: ds, n, h => by
    have h' : d.okb n = true ∧ D.oks n ds = true := by simpa [D.oks] using h
    have h1 := okb_py d n h'.1
    have h2 := oks_py ds n h'.2
    simp only [D.pys, PyData.canLayAll0, PyData.depthAll, h1.1, h2.1, Bool.and_self, true_and]
    omega
end
theorem shaped_of {d : D} (h : d.okb 64 = true) : SeqAt.shaped d.py = true := by
  have := okb_py d 64 h
  unfold SeqAt.shaped
  rw [this.1, decide_eq_true this.2]
  rfl
mutual
theorem Rp.dp {K : PySem.W.Frag} {a0 : Addr} {F : Hp} : ∀ (d : D) (v : V) (n : Nat), d.okb n = true → Rp K a0 F v d → Dp K F v d.py
  | .non, _, _, _, h => by cases h; exact .non
  | .bl _, _, _, _, h => by cases h; exact .bl _
  | .int _, _, _, _, h => by cases h; exact .int _
  | .str _, _, _, _, h => by cases h; exact .str _
  | .src, _, n, o, _ => by cases n <;> simp [D.okb] at o
  | .tup l, _, 0, o, _ => by simp [D.okb] at o
  | .tup l, _, n + 1, o, h => by
    cases h with
    | tup hs ha => exact .tup hs (RpAll.dp l _ n (by simpa [D.okb] using o) ha)
  | .lst l, _, 0, o, _ => by simp [D.okb] at o
  | .lst l, _, n + 1, o, h => by
    cases h with
    | lst hs ha => exact .lst (.inl (.inl hs)) (RpAll.dp l _ n (by simpa [D.okb] using o) ha)
theorem RpAll.dp {K : PySem.W.Frag} {a0 : Addr} {F : Hp} : ∀ (ds : List D) (vs : List V) (n : Nat), D.oks n ds = true → RpAll K a0 F vs ds → DpAll K F vs (D.pys ds)
  | [], _, _, _, h => by cases h; exact .nil
  | d :: ds, _, n, o, h => by
    have h' : d.okb n = true ∧ D.oks n ds = true := by simpa [D.oks] using o
    cases h with
    | cons h1 h2 => exact .cons (Rp.dp d _ n h'.1 h1) (RpAll.dp ds _ n h'.2 h2)
end
def gEq (d e : D) : Option D := if (d.okb 64 && e.okb 64) = true then some (.bl (D.eqv d e)) else none
def gNe (d e : D) : Option D := if (d.okb 64 && e.okb 64) = true then some (.bl (!D.eqv d e)) else none
def gIs : D → D → Option D
  | .bl a, .bl b => some (.bl (decide (a = b)))
  | .non, .non => some (.bl true)
  | .bl _, .non | .int _, .non | .str _, .non | .tup _, .non | .lst _, .non => some (.bl false)
  | _, _ => none
def gIsNot : D → D → Option D
  | .bl a, .bl b => some (.bl (!decide (a = b)))
  | .non, .non => some (.bl false)
  | .bl _, .non | .int _, .non | .str _, .non | .tup _, .non | .lst _, .non => some (.bl true)
  | _, _ => none
def D.any (d : D) (l : List D) : Bool := l.any fun y => D.eqv y d
def gIn : D → D → Option D
  | d, .tup l | d, .lst l => if (d.flat && l.all D.flat) = true then some (.bl (d.any l)) else none
  | _, _ => none
def gNotIn : D → D → Option D
  | d, .tup l | d, .lst l => if (d.flat && l.all D.flat) = true then some (.bl (!d.any l)) else none
  | _, _ => none
section
variable {X : Cx} {a0 : Addr}
theorem dop_add : DOp X a0 (binaryOp .Add) gAdd := by
  intro x y d e r H F Q hf hx hy hg k
  cases hx with
  | int a =>
    cases hy with
    | int b => cases hg; exact W2.of op_add ⟨_, _, rfl, rfl, k _ _ _ (Gr.refl hf) (.int _)⟩
    | _ => cases hg
  | str a =>
    cases hy with
    | str b =>
      by_cases hl : a.length + b.length ≤ 1000000
      · rw [gAdd, if_pos hl] at hg
        cases hg
        exact W2.of op_add_str ⟨_, _, rfl, rfl, line_of hl, k _ _ _ (Gr.refl hf) (.str _)⟩
      · rw [gAdd, if_neg hl] at hg; cases hg
    | _ => cases hg
  | tup hs ha =>
    cases hy with
    | tup hs2 ha2 =>
      rename_i p vs l p2 vs2 l2
      by_cases hl : l.length + l2.length ≤ 1000000
      · rw [gAdd, if_pos hl] at hg
        cases hg
        refine W2.of op_catA ⟨_, _, _, _, rfl, rfl, ex_t hf hs, ex_t hf hs2, line_of (by rw [ha.len, ha2.len]; exact hl), fun z => ?_, fun _ z => ?_, fun _ _ q hq => ?_⟩
        · subst z
          have : l = [] := List.length_eq_zero_iff.mp (by rw [← ha.len]; rfl)
          subst this
          exact k _ _ _ (Gr.refl hf) (.tup hs2 ha2)
        · subst z
          have : l2 = [] := List.length_eq_zero_iff.mp (by rw [← ha2.len]; rfl)
          subst this
          rw [List.append_nil] at k
          exact k _ _ _ (Gr.refl hf) (.tup hs ha)
        · exact k _ _ _ (Gr.new hf hq) (.tup (.inl (.inl upd_same)) ((ha.app ha2).ex (Gr.new (o := .tup (vs ++ vs2)) hf hq).ff))
      · rw [gAdd, if_neg hl] at hg; cases hg
    | _ => cases hg
  | _ => cases hy <;> cases hg
theorem dop_int0 {f : Value → Value → Sem Value} {g : D → D → Option D} {h : Int → Int → V} {h' : Int → Int → D} (ho : OpR X f (rI0 h)) (hr : ∀ F i j, Rp X.K a0 F (h i j) (h' i j)) (hg : ∀ d e r, g d e = some r → ∃ i j, d = .int i ∧ e = .int j ∧ r = h' i j) : DOp X a0 f g := by
  intro x y d e r H F Q hf hx hy hz k
  obtain ⟨i, j, rfl, rfl, rfl⟩ := hg d e r hz
  cases hx
  cases hy
  exact W2.of ho ⟨_, _, rfl, rfl, k _ _ _ (Gr.refl hf) (hr _ _ _)⟩
theorem dop_intC {f : Value → Value → Sem Value} {g : D → D → Option D} {C : Int → Int → Prop} {h : Int → Int → V} {h' : Int → Int → D} (ho : OpR X f (rI C h)) (hr : ∀ F i j, Rp X.K a0 F (h i j) (h' i j)) (hg : ∀ d e r, g d e = some r → ∃ i j, d = .int i ∧ e = .int j ∧ C i j ∧ r = h' i j) : DOp X a0 f g := by
  intro x y d e r H F Q hf hx hy hz k
  obtain ⟨i, j, rfl, rfl, hc, rfl⟩ := hg d e r hz
  cases hx
  cases hy
  exact W2.of ho ⟨_, _, rfl, rfl, hc, k _ _ _ (Gr.refl hf) (hr _ _ _)⟩
theorem dop_sub : DOp X a0 (binaryOp .Sub) gSub := dop_int0 (h' := fun i j => .int (i - j)) op_sub (fun _ _ _ => .int _) fun d e r h => by
  cases d <;> cases e <;> cases h; exact ⟨_, _, rfl, rfl, rfl⟩
theorem dop_mul : DOp X a0 (binaryOp .Mult) gMul := by
  intro x y d e r H F Q hf hx hy hg k
  cases hx with
  | int a =>
    cases hy with
    | int b =>
      by_cases hl : mulOk a b = true
      · rw [gMul, if_pos hl] at hg
        cases hg
        have kk : Q (.int (a * b)) H := k _ _ _ (Gr.refl hf) (.int _)
        unfold mulOk at hl
        simp only [Bool.or_eq_true, decide_eq_true_eq] at hl
        rcases hl with (hl | hl) | hl
        · exact W2.of op_mul ⟨_, _, rfl, rfl, .inl (by omega), kk⟩
        · exact W2.of op_mul ⟨_, _, rfl, rfl, .inr (by omega), kk⟩
        · exact W2.of op_mulW ⟨_, _, rfl, rfl, hl, kk⟩
      · rw [gMul, if_neg hl] at hg; cases hg
    | _ => cases hg
  | _ => cases hy <;> cases hg
theorem dop_div : DOp X a0 (binaryOp .FloorDiv) gDiv := dop_intC (C := CDivW) (h' := fun i j => .int (i / j)) op_fdivW (fun _ _ _ => .int _) fun d e r h => by
  cases d <;> cases e <;> try cases h
  rename_i i j
  by_cases hl : divOk j = true
  · rw [gDiv, if_pos hl] at h
    cases h
    unfold divOk at hl
    simp only [Bool.and_eq_true, decide_eq_true_eq] at hl
    exact ⟨_, _, rfl, rfl, hl, rfl⟩
  · rw [gDiv, if_neg hl] at h; cases h
theorem dop_mod : DOp X a0 (binaryOp .Mod) gMod := dop_intC (C := fun _ j => 0 < j) (h' := fun i j => .int (i % j)) op_mod (fun _ _ _ => .int _) fun d e r h => by
  cases d <;> cases e <;> try cases h
  rename_i i j
  by_cases hl : 0 < j
  · rw [gMod, if_pos hl] at h
    cases h
    exact ⟨_, _, rfl, rfl, hl, rfl⟩
  · rw [gMod, if_neg hl] at h; cases h
theorem dop_pow : DOp X a0 (binaryOp .Pow) gPow := dop_intC (C := CPow) (h' := fun i j => .int (i ^ j.toNat)) op_pow (fun _ _ _ => .int _) fun d e r h => by
  cases d <;> cases e <;> try cases h
  rename_i i j
  by_cases hl : 0 ≤ j ∧ j ≤ 1000000 ∧ i.natAbs < 2 ^ 64
  · rw [gPow, if_pos hl] at h
    cases h
    exact ⟨_, _, rfl, rfl, hl, rfl⟩
  · rw [gPow, if_neg hl] at h; cases h
theorem dop_shl : DOp X a0 (binaryOp .LShift) gShl := dop_intC (C := CShl) (h' := fun i j => .int (i * 2 ^ j.toNat)) op_shlW (fun _ _ _ => .int _) fun d e r h => by
  cases d <;> cases e <;> try cases h
  rename_i i j
  by_cases hl : 0 ≤ j ∧ (Builtin.Int.intBits i : Int) + j ≤ 2 ^ 27
  · rw [gShl, if_pos hl] at h
    cases h
    exact ⟨_, _, rfl, rfl, hl, rfl⟩
  · rw [gShl, if_neg hl] at h; cases h
theorem dop_shr : DOp X a0 (binaryOp .RShift) gShr := dop_intC (C := fun _ j => 0 ≤ j) (h' := fun i j => .int (i / 2 ^ j.toNat)) op_shr (fun _ _ _ => .int _) fun d e r h => by
  cases d <;> cases e <;> try cases h
  rename_i i j
  by_cases hl : 0 ≤ j
  · rw [gShr, if_pos hl] at h
    cases h
    exact ⟨_, _, rfl, rfl, hl, rfl⟩
  · rw [gShr, if_neg hl] at h; cases h
theorem dop_and : DOp X a0 (binaryOp .BitAnd) gAnd := dop_int0 (h' := fun i j => .int (Builtin.bitAnd i j)) op_and (fun _ _ _ => .int _) fun d e r h => by
  cases d <;> cases e <;> cases h; exact ⟨_, _, rfl, rfl, rfl⟩
theorem dop_or : DOp X a0 (binaryOp .BitOr) gOr := dop_int0 (h' := fun i j => .int (Builtin.bitOr i j)) op_or (fun _ _ _ => .int _) fun d e r h => by
  cases d <;> cases e <;> cases h; exact ⟨_, _, rfl, rfl, rfl⟩
theorem dop_xor : DOp X a0 (binaryOp .BitXor) gXor := dop_int0 (h' := fun i j => .int (Builtin.bitXor i j)) op_xor (fun _ _ _ => .int _) fun d e r h => by
  cases d <;> cases e <;> cases h; exact ⟨_, _, rfl, rfl, rfl⟩
theorem dop_lt : DOp X a0 (compareOp .Lt) gLt := by
  intro x y d e r H F Q hf hx hy hg k
  cases hx with
  | int a =>
    cases hy with
    | int b => cases hg; exact W2.of op_lt ⟨_, _, rfl, rfl, k _ _ _ (Gr.refl hf) (.bl _)⟩
    | _ => cases hg
  | str a =>
    cases hy with
    | str b => cases hg; exact W2.of op_lt_str ⟨_, _, rfl, rfl, k _ _ _ (Gr.refl hf) (.bl _)⟩
    | _ => cases hg
  | _ => cases hy <;> cases hg
theorem dop_le : DOp X a0 (compareOp .LtE) gLe := dop_int0 (h' := fun i j => .bl (decide (i ≤ j))) op_le (fun _ _ _ => .bl _) fun d e r h => by
  cases d <;> cases e <;> cases h; exact ⟨_, _, rfl, rfl, rfl⟩
theorem dop_gt : DOp X a0 (compareOp .Gt) gGt := dop_int0 (h' := fun i j => .bl (decide (j < i))) op_gt (fun _ _ _ => .bl _) fun d e r h => by
  cases d <;> cases e <;> cases h; exact ⟨_, _, rfl, rfl, rfl⟩
theorem dop_ge : DOp X a0 (compareOp .GtE) gGe := dop_int0 (h' := fun i j => .bl (decide (j ≤ i))) op_ge (fun _ _ _ => .bl _) fun d e r h => by
  cases d <;> cases e <;> cases h; exact ⟨_, _, rfl, rfl, rfl⟩
theorem dop_eq (hu : X.A.units + 64 < cLine) : DOp X a0 (compareOp .Eq) gEq := by
  intro x y d e r H F Q hf hx hy hg k
  unfold gEq at hg
  by_cases hl : (d.okb 64 && e.okb 64) = true
  · rw [if_pos hl] at hg
    cases hg
    have h' : d.okb 64 = true ∧ e.okb 64 = true := by simpa using hl
    refine W2.of (op_eqD hu) ⟨d.py, e.py, (Rp.dp d _ 64 h'.1 (hx.ex hf)), (Rp.dp e _ 64 h'.2 (hy.ex hf)), shaped_of h'.1, shaped_of h'.2, ?_⟩
    rw [eqv_py]
    exact k _ _ _ (Gr.refl hf) (.bl _)
  · rw [if_neg hl] at hg; cases hg
theorem dop_ne (hu : X.A.units + 64 < cLine) : DOp X a0 (compareOp .NotEq) gNe := by
  intro x y d e r H F Q hf hx hy hg k
  unfold gNe at hg
  by_cases hl : (d.okb 64 && e.okb 64) = true
  · rw [if_pos hl] at hg
    cases hg
    have h' : d.okb 64 = true ∧ e.okb 64 = true := by simpa using hl
    refine W2.of (op_neD hu) ⟨d.py, e.py, (Rp.dp d _ 64 h'.1 (hx.ex hf)), (Rp.dp e _ 64 h'.2 (hy.ex hf)), shaped_of h'.1, shaped_of h'.2, ?_⟩
    rw [eqv_py]
    exact k _ _ _ (Gr.refl hf) (.bl _)
  · rw [if_neg hl] at hg; cases hg
theorem dop_is : DOp X a0 (compareOp .Is) gIs := by
  intro x y d e r H F Q hf hx hy hg k
  cases hy with
  | non =>
    cases hx <;> cases hg
    all_goals exact W2.of op_isN ⟨rfl, k _ _ _ (Gr.refl hf) (.bl _)⟩
  | bl b =>
    cases hx <;> cases hg
    exact W2.of op_isBl ⟨_, _, rfl, rfl, k _ _ _ (Gr.refl hf) (.bl _)⟩
  | _ => cases hx <;> cases hg
theorem dop_isNot : DOp X a0 (compareOp .IsNot) gIsNot := by
  intro x y d e r H F Q hf hx hy hg k
  cases hy with
  | non =>
    cases hx <;> cases hg
    all_goals exact W2.of op_notN ⟨rfl, k _ _ _ (Gr.refl hf) (.bl _)⟩
  | bl b =>
    cases hx <;> cases hg
    exact W2.of op_notBl ⟨_, _, rfl, rfl, k _ _ _ (Gr.refl hf) (.bl _)⟩
  | _ => cases hx <;> cases hg
theorem Rp.flatV {F : Hp} {v : V} {d : D} (h : Rp X.K a0 F v d) (f : d.flat = true) : L2.flatV v = true := by
  cases h <;> first | rfl | cases f
theorem eqV_eqv {F : Hp} {v u : V} {d e : D} (h : Rp X.K a0 F v d) (g : Rp X.K a0 F u e) (f : d.flat = true) (f2 : e.flat = true) : L2.eqV v u = D.eqv d e := by
  cases h <;> first | (cases f; done) | (cases g <;> first | (cases f2; done) | simp [L2.eqV, D.eqv])
theorem inV_any {F : Hp} {v : V} {d : D} (h : Rp X.K a0 F v d) (f : d.flat = true) : ∀ {vs : List V} {l : List D}, RpAll X.K a0 F vs l → l.all D.flat = true → L2.inV v vs = d.any l ∧ vs.all L2.flatV = true
  | _, [], g, _ => by cases g; exact ⟨rfl, rfl⟩
  | _, e :: l, g, f2 => by
    cases g with
    | cons g1 g2 =>
      have f3 : e.flat = true ∧ l.all D.flat = true := by simpa using f2
      obtain ⟨i1, i2⟩ := inV_any h f g2 f3.2
      unfold L2.inV D.any at *
      rw [List.any_cons, List.any_cons, i1, eqV_eqv g1 h f3.1 f, List.all_cons, g1.flatV f3.1, i2]
      exact ⟨rfl, rfl⟩
theorem dop_in : DOp X a0 (compareOp .In) gIn := by
  intro x y d e r H F Q hf hx hy hg k
  cases hy with
  | tup hs ha =>
    rename_i p vs l
    have hg : (if (d.flat && l.all D.flat) = true then some (D.bl (d.any l)) else none) = some r := by cases d <;> exact hg
    by_cases hl : (d.flat && l.all D.flat) = true
    · rw [if_pos hl] at hg
      cases hg
      have h' : d.flat = true ∧ l.all D.flat = true := by simpa using hl
      obtain ⟨i1, i2⟩ := inV_any hx h'.1 ha h'.2
      refine W2.of op_in_seq ⟨_, _, rfl, .inr (ex_t hf hs), hx.flatV h'.1, i2, ?_⟩
      rw [i1]
      exact k _ _ _ (Gr.refl hf) (.bl _)
    · rw [if_neg hl] at hg; cases hg
  | lst hs ha =>
    rename_i p vs l
    have hg : (if (d.flat && l.all D.flat) = true then some (D.bl (d.any l)) else none) = some r := by cases d <;> exact hg
    by_cases hl : (d.flat && l.all D.flat) = true
    · rw [if_pos hl] at hg
      cases hg
      have h' : d.flat = true ∧ l.all D.flat = true := by simpa using hl
      obtain ⟨i1, i2⟩ := inV_any hx h'.1 ha h'.2
      refine W2.of op_in_seq ⟨_, _, rfl, .inl (.inl (.inl (hf _ _ hs))), hx.flatV h'.1, i2, ?_⟩
      rw [i1]
      exact k _ _ _ (Gr.refl hf) (.bl _)
    · rw [if_neg hl] at hg; cases hg
  | _ => cases d <;> cases hg
theorem dop_notIn : DOp X a0 (compareOp .NotIn) gNotIn := by
  intro x y d e r H F Q hf hx hy hg k
  cases hy with
  | tup hs ha =>
    rename_i p vs l
    have hg : (if (d.flat && l.all D.flat) = true then some (D.bl (!d.any l)) else none) = some r := by cases d <;> exact hg
    by_cases hl : (d.flat && l.all D.flat) = true
    · rw [if_pos hl] at hg
      cases hg
      have h' : d.flat = true ∧ l.all D.flat = true := by simpa using hl
      obtain ⟨i1, i2⟩ := inV_any hx h'.1 ha h'.2
      refine W2.of op_notIn_seq ⟨_, _, rfl, .inr (ex_t hf hs), hx.flatV h'.1, i2, ?_⟩
      rw [i1]
      exact k _ _ _ (Gr.refl hf) (.bl _)
    · rw [if_neg hl] at hg; cases hg
  | lst hs ha =>
    rename_i p vs l
    have hg : (if (d.flat && l.all D.flat) = true then some (D.bl (!d.any l)) else none) = some r := by cases d <;> exact hg
    by_cases hl : (d.flat && l.all D.flat) = true
    · rw [if_pos hl] at hg
      cases hg
      have h' : d.flat = true ∧ l.all D.flat = true := by simpa using hl
      obtain ⟨i1, i2⟩ := inV_any hx h'.1 ha h'.2
      refine W2.of op_notIn_seq ⟨_, _, rfl, .inl (.inl (.inl (hf _ _ hs))), hx.flatV h'.1, i2, ?_⟩
      rw [i1]
      exact k _ _ _ (Gr.refl hf) (.bl _)
    · rw [if_neg hl] at hg; cases hg
  | _ => cases d <;> cases hg
end

/-! ### subscripts -/
section
variable {X : Cx} {Wx : WX} {fm : Fm}
def gIx : D → D → Option D
  | .tup l, .int i => atI l i
  | .lst l, .int i => atI l i
  | .str z, .int i => if z.length ≤ 1000000 then (atI z.cps.toList i).map fun c => .str ⟨#[c]⟩ else none
  | _, _ => none
theorem rp_atI {K : PySem.W.Frag} {a0 : Addr} {F : Hp} {vs : List V} {l : List D} {i : Int} {d : D} (h : RpAll K a0 F vs l) (e : atI l i = some d) : ∃ v, atI vs i = some v ∧ Rp K a0 F v d := by
  unfold atI at e ⊢
  rw [h.len]
  cases hj : ixN l.length i with
  | none => rw [hj] at e; cases e
  | some j =>
    rw [hj] at e
    exact h.get (i := j) e
def W2i (X : Cx) : R2 := fun x y H Q => ∀ (pins : List (Addr × Obj)) (s : Shared) (σ : L2.St) (v u : Value), Inv X pins σ H s → RelV x v → RelV y u → wpAny (model X.prog X.w) X.A (getItem v u) (EP X pins σ Q) X.xe s
/-- the strongest rule for o[i] -/
def WIx (X : Cx) : R2 := fun x y H Q => rIx X.K x y H Q
theorem se_ix {a b : Expr} {pos : Pos} {ma mb : W → R D} (ha : SE X Wx fm a ma) (hb : SE X Wx fm b mb) (hs : PlainIx b := by exact fun _ _ => rfl) : SE X Wx fm (.Subscript a b pos) (mBin gIx ma mb) := by
  refine ⟨?_⟩
  intro ex σ H F w Q r q
  refine WE.of (pe_ix ix_seq pe_we pe_we hs) ?_
  show WE X a σ H fun x H1 => WE X b σ H1 fun y H2 => rIx X.K x y H2 Q
  refine ha ex σ H F w _ r ((Fin.bind q).imp fun x w1 H1 F1 ⟨r1, k1, e1, q1⟩ v hv => ?_)
  refine hb ex σ H1 F1 w1 _ r1 ((Fin.bind q1).imp fun y w2 H2 F2 ⟨r2, k2, e2, q2⟩ u hu => ?_)
  obtain ⟨z, hz, q3⟩ := q2.lift
  have hv := hv.ex e2
  cases hu with
  | int i =>
    cases hv with
    | tup h1 h2 =>
      obtain ⟨t, ht, rt⟩ := rp_atI h2 (show atI _ i = some z from hz)
      exact .inr (.inl ⟨_, _, _, _, rfl, rfl, ex_t r2.fh h1, ht, q3 H2 F2 Kp.refl (Ex.refl _) r2 t rt⟩)
    | lst h1 h2 =>
      obtain ⟨t, ht, rt⟩ := rp_atI h2 (show atI _ i = some z from hz)
      exact .inl ⟨_, _, _, _, rfl, rfl, .inl (.inl (r2.fh _ _ h1)), ht, q3 H2 F2 Kp.refl (Ex.refl _) r2 t rt⟩
    | str x =>
      have hz : (if x.length ≤ 1000000 then (atI x.cps.toList i).map fun c => D.str ⟨#[c]⟩ else none) = some z := hz
      by_cases hl : x.length ≤ 1000000
      · rw [if_pos hl] at hz
        cases hc : atI x.cps.toList i with
        | none => rw [hc] at hz; cases hz
        | some c =>
          rw [hc] at hz
          cases hz
          exact .inr (.inr ⟨_, _, _, rfl, rfl, line_of hl, hc, q3 H2 F2 Kp.refl (Ex.refl _) r2 _ (.str _)⟩)
      · rw [if_neg hl] at hz; cases hz
    | _ => cases hz
  | _ => cases hv <;> cases hz
/-- a part of a slice -/
def SO (X : Cx) (Wx : WX) (fm : Fm) (e : Option Expr) (m : W → R (Option Int)) : Prop := ∃ t, PO X e t ∧ ∀ (ex : Exs) (σ : L2.St) (H F : Hp) (w : W) (Q : Option Int → Hp → Prop), Rel X.K fm ex σ H F w → Fin X Wx fm ex σ H F (fun o _ H' _ => Q o H') (m w) → t σ H Q
def mNoP : W → R (Option Int) := fun w => .ok none w
def D.i? : D → Option Int
  | .int i => some i
  | _ => none
theorem Rp.i {K : PySem.W.Frag} {a0 : Addr} {F : Hp} {v : V} {d : D} {i : Int} (h : Rp K a0 F v d) (e : d.i? = some i) : v = .int i := by
  cases h <;> cases e
  rfl
def mP (m : W → R D) : W → R (Option Int) := fun w => (m w).bind fun d w' => R.lift (d.i?.map some) w'
theorem so_none : SO X Wx fm none mNoP := ⟨_, po_none, fun ex σ H F w Q r q => q H F Kp.refl (Ex.refl _) r⟩
theorem so_some {e : Expr} {m : W → R D} (h : SE X Wx fm e m) : SO X Wx fm (some e) (mP m) := by
  refine ⟨_, po_some pe_we, fun ex σ H F w Q r q => ?_⟩
  refine h ex σ H F w _ r ((Fin.bind q).imp fun d w1 H1 F1 ⟨r1, k1, e1, q1⟩ v hv => ?_)
  obtain ⟨z, hz, q2⟩ := q1.lift
  cases hi : d.i? with
  | none => rw [hi] at hz; cases hz
  | some i =>
    rw [hi] at hz
    cases hz
    exact ⟨i, hv.i hi, q2 H1 F1 Kp.refl (Ex.refl _) r1⟩
def cutD (xs : List D) (lo hi : Option Int) : List D := (xs.drop (HT.sIx xs.length 0 lo)).take (HT.sIx xs.length xs.length hi - HT.sIx xs.length 0 lo)
theorem rp_cut {K : PySem.W.Frag} {a0 : Addr} {F : Hp} {vs : List V} {l : List D} (h : RpAll K a0 F vs l) (lo hi : Option Int) : RpAll K a0 F (cutV vs lo hi) (cutD l lo hi) := by
  unfold cutV cutD
  rw [h.len]
  exact (h.drop _).take _
def D.t? : D → Option (List D)
  | .tup l => some l
  | _ => none
def D.l? : D → Option (List D)
  | .lst l => some l
  | _ => none
/-- t[a:b] of a tuple -/
def mSlT (m : W → R D) (lo hi : W → R (Option Int)) : W → R D := fun w => (m w).bind fun d w1 => (lo w1).bind fun a w2 => (hi w2).bind fun b w3 => R.lift (d.t?.map fun l => .tup (cutD l a b)) w3
theorem se_slT {e : Expr} {lo hi : Option Expr} {p2 pos : Pos} {m : W → R D} {ml mh : W → R (Option Int)} (h : SE X Wx fm e m) (hl : SO X Wx fm lo ml) (hh : SO X Wx fm hi mh) : SE X Wx fm (.Subscript e (.Slice lo hi none p2) pos) (mSlT m ml mh) := by
  refine ⟨?_⟩
  intro ex σ H F w Q r q
  obtain ⟨tl, pl, gl⟩ := hl
  obtain ⟨th, ph, gh⟩ := hh
  refine WE.of (pe_slice sl_tupA pe_we pl ph) ?_
  show WE X e σ H fun x H1 => tl σ H1 fun l H2 => th σ H2 fun u H3 => rSlA X.K x l u H3 Q
  refine h ex σ H F w _ r ((Fin.bind q).imp fun d w1 H1 F1 ⟨r1, k1, e1, q1⟩ v hv => ?_)
  refine gl ex σ H1 F1 w1 _ r1 ((Fin.bind q1).imp fun a w2 H2 F2 ⟨r2, k2, e2, q2⟩ => ?_)
  refine gh ex σ H2 F2 w2 _ r2 ((Fin.bind q2).imp fun b w3 H3 F3 ⟨r3, k3, e3, q3⟩ => ?_)
  obtain ⟨z, hz, q4⟩ := q3.lift
  have hv := (hv.ex e2).ex e3
  cases hv with
  | @tup p vs l h1 h2 =>
    cases hz
    refine ⟨_, _, rfl, ex_t r3.fh h1, fun hw => ?_, fun _ p' hp => ?_⟩
    · have ec : cutD l a b = l := by
        have hw' : HT.sIx l.length 0 a = 0 ∧ HT.sIx l.length l.length b = l.length := by rw [← h2.len]; exact hw
        unfold cutD
        rw [hw'.1, hw'.2]
        simp
      refine q4 H3 F3 Kp.refl (Ex.refl _) r3 _ ?_
      show Rp X.K fm.a0 F3 (V.ref p) (.tup (cutD l a b))
      rw [ec]
      exact .tup h1 h2
    · have g : Gr H3 F3 (upd H3 p' (.tup (cutV vs a b))) (upd F3 p' (.tup (cutV vs a b))) := Gr.new r3.fh hp
      exact q4 _ _ g.kp g.ff (r3.gr g) _ (.tup (.inl (.inl upd_same)) ((rp_cut h2 a b).ex g.ff))
  | _ => cases hz
/-- xs[a:b] of a list -/
def mSlL (m : W → R D) (lo hi : W → R (Option Int)) : W → R (List D) := fun w => (m w).bind fun d w1 => (lo w1).bind fun a w2 => (hi w2).bind fun b w3 => R.lift (d.l?.map fun l => cutD l a b) w3
theorem FinF.bindO {r : R (Option Int)} {q : Option Int → W → R (List D)} {ex : Exs} {σ : L2.St} {H F : Hp} {Q : VK} (h : FinF X Wx fm ex σ H F Q (r.bind q)) :
    Fin X Wx fm ex σ H F (fun a w' H' F' => Rel X.K fm ex σ H' F' w' ∧ Kp fm.a0 H H' ∧ Ex F F' ∧ FinF X Wx fm ex σ H' F' Q (q a w')) r := by
  cases r with
  | ok a w' =>
    intro H' F' kp e r
    refine ⟨r, kp, e, ?_⟩
    have h : FinF X Wx fm ex σ H F Q (q a w') := h
    revert h
    cases q a w' with
    | ok b w2 => exact fun h p H2 F2 k2 e2 => h p H2 F2 (kp.trans k2) (e.trans e2)
    | exc c w2 => exact fun h H2 F2 cls dd k2 e2 => h H2 F2 cls dd (kp.trans k2) (e.trans e2)
    | stuck => exact fun h => h
  | exc c w' => exact h
  | stuck => exact h
theorem sf_slL {e : Expr} {lo hi : Option Expr} {p2 pos : Pos} {m : W → R D} {ml mh : W → R (Option Int)} (h : SE X Wx fm e m) (hl : SO X Wx fm lo ml) (hh : SO X Wx fm hi mh) : SF X Wx fm (.Subscript e (.Slice lo hi none p2) pos) (mSlL m ml mh) := by
  refine ⟨?_⟩
  intro ex σ H F w Q r q
  obtain ⟨tl, pl, gl⟩ := hl
  obtain ⟨th, ph, gh⟩ := hh
  refine WE.of (pe_slice sl_list pe_we pl ph) ?_
  show WE X e σ H fun x H1 => tl σ H1 fun l H2 => th σ H2 fun u H3 => rSlL X.K x l u H3 Q
  refine h ex σ H F w _ r ((FinF.bindD q).imp fun d w1 H1 F1 ⟨r1, k1, e1, q1⟩ v hv => ?_)
  refine gl ex σ H1 F1 w1 _ r1 ((FinF.bindO q1).imp fun a w2 H2 F2 ⟨r2, k2, e2, q2⟩ => ?_)
  refine gh ex σ H2 F2 w2 _ r2 ((FinF.bindO q2).imp fun b w3 H3 F3 ⟨r3, k3, e3, q3⟩ => ?_)
  have hv := (hv.ex e2).ex e3
  cases hv with
  | @lst p0 vs l h1 h2 =>
    refine ⟨_, _, rfl, .inl (.inl (r3.fh _ _ h1)), fun p hp => ?_⟩
    have q3 : FinF X Wx fm ex σ H3 F3 Q (.ok (cutD l a b) w3) := q3
    exact q3 p _ F3 (Gr.dark r3.fh hp).kp (Ex.refl _) (r3.lay hp (rp_cut h2 a b))
  | _ => exact (show False from q3).elim
/-- xs[::-1] of a list -/
def mRevL (m : W → R D) : W → R (List D) := fun w => (m w).bind fun d w1 => R.lift (d.l?.map List.reverse) w1
theorem sf_revL {e : Expr} {k : Nat} {p1 p2 p3 pos : Pos} {m : W → R D} (h : SE X Wx fm e m) : SF X Wx fm (.Subscript e (.Slice none none (some (.UnaryOp .USub (.Constant (.int 1) k p1) p2)) p3) pos) (mRevL m) := by
  refine ⟨?_⟩
  intro ex σ H F w Q r q
  refine WE.of (pe_revL pe_we) ?_
  refine h ex σ H F w _ r ((FinF.bindD q).imp fun d w1 H1 F1 ⟨r1, k1, e1, q1⟩ v hv => ?_)
  cases hv with
  | @lst p0 vs l h1 h2 =>
    refine ⟨_, _, rfl, .inl (.inl (r1.fh _ _ h1)), fun p hp => ?_⟩
    have q1 : FinF X Wx fm ex σ H1 F1 Q (.ok l.reverse w1) := q1
    exact q1 p _ F1 (Gr.dark r1.fh hp).kp (Ex.refl _) (r1.lay hp h2.rev)
  | _ => exact (show False from q1).elim
/-- xs + ys, lists -/
def mCat (ma mb : W → R D) : W → R (List D) := fun w => (ma w).bind fun x w1 => (mb w1).bind fun y w2 => R.lift (match x, y with | .lst a, .lst b => if a.length + b.length ≤ 1000000 then some (a ++ b) else none | _, _ => none) w2
theorem sf_cat {a b : Expr} {pos : Pos} {ma mb : W → R D} (ha : SE X Wx fm a ma) (hb : SE X Wx fm b mb) : SF X Wx fm (.BinOp a .Add b pos) (mCat ma mb) := by
  refine ⟨?_⟩
  intro ex σ H F w Q r q
  refine WE.of (pe_op op_cat pe_we pe_we) ?_
  show WE X a σ H fun x H1 => WE X b σ H1 fun y H2 => rCat x y H2 Q
  refine ha ex σ H F w _ r ((FinF.bindD q).imp fun x w1 H1 F1 ⟨r1, k1, e1, q1⟩ v hv => ?_)
  refine hb ex σ H1 F1 w1 _ r1 ((FinF.bindD q1).imp fun y w2 H2 F2 ⟨r2, k2, e2, q2⟩ u hu => ?_)
  have hv := hv.ex e2
  cases hv with
  | @lst p0 vs l h1 h2 =>
    cases hu with
    | @lst p2 us l2 h3 h4 =>
      by_cases hl : l.length + l2.length ≤ 1000000
      · have q2 : FinF X Wx fm ex σ H2 F2 Q (R.lift (if l.length + l2.length ≤ 1000000 then some (l ++ l2) else none) w2) := q2
        rw [if_pos hl] at q2
        exact ⟨_, _, _, _, rfl, rfl, r2.fh _ _ h1, r2.fh _ _ h3, line_of (by rw [h2.len, h4.len]; exact hl), fun p hp => q2 p _ F2 (Gr.dark r2.fh hp).kp (Ex.refl _) (r2.lay hp (h2.app h4))⟩
      · have q2 : FinF X Wx fm ex σ H2 F2 Q (R.lift (if l.length + l2.length ≤ 1000000 then some (l ++ l2) else none) w2) := q2
        rw [if_neg hl] at q2
        exact (show False from q2).elim
    | _ => exact (show False from q2).elim
  | _ => exact (show False from (by cases y <;> exact q2)).elim
end
end TD

set_option Elab.async false
set_option linter.all false
set_option maxRecDepth 100000
set_option maxHeartbeats 4000000
namespace TD
open PySem PySem.Spec PyProof.Rows L2

section
variable {X : Cx} {Wx : WX} {fm : Fm}
/-! ### built-in calls -/
def DCall (X : Cx) (a0 : Addr) (f : Value) (g : List D → Option D) : Prop :=
  ∀ (vs : List V) (ds : List D) (r : D) (H F : Hp) (Q : VK), Ex F H → RpAll X.K a0 F vs ds → g ds = some r → (∀ v H' F', Gr H F H' F' → Rp X.K a0 F' v r → Q v H') → WC X f vs H Q
def mBlt (g : List D → Option D) (m : W → R (List D)) : W → R D := fun w => (m w).bind fun ds w' => R.lift (g ds) w'
theorem se_blt0 {es : List Expr} {m : W → R (List D)} {f : Value} {g : List D → Option D} {ex : Exs} {σ : L2.St} {H F : Hp} {w : W} {Q : VK} (hc : DCall X fm.a0 f g) (ha : SAs X Wx fm es m) (r : Rel X.K fm ex σ H F w)
    (q : Fin X Wx fm ex σ H F (fun d _ H' F' => ∀ v, Rp X.K fm.a0 F' v d → Q v H') (mBlt g m w)) : tCB (WC X f) (WA X es) σ H Q := by
  show WA X es σ H fun vs H1 => WC X f vs H1 Q
  refine ha ex σ H F w _ r ((Fin.bind q).imp fun ds w1 H1 F1 ⟨r1, k1, e1, q1⟩ vs hv => ?_)
  obtain ⟨z, hz, q2⟩ := q1.lift
  exact hc vs ds z H1 F1 Q r1.fh hv hz fun t H' F' g hr => q2 H' F' g.kp g.ff (r1.gr g) t hr
theorem se_callB {e : Expr} {es : List Expr} {x : Str} {p pos : Pos} {id : String} {m : W → R (List D)} {g : List D → Option D} (hc : DCall X fm.a0 (.builtin id) g) (hm : X.mg x = none) (hv : bootBuiltins x = some (.builtin id)) (ha : SAs X Wx fm (e :: es) m) (hg : Gl X x := by rfl)
    (hn : x ≠ "__name__" := by decide) (hdb : (x == ("__debug__" : Str)) = false := by decide)
    (he : starEach (e :: es) X.env = (false, eval e X.env) :: starEach es X.env := by rfl) (hpl : (backTo pos (starEach es X.env)).any (·.1) = false := by rfl) : SE X Wx fm (.Call (.Name x p) (e :: es) [] pos) (mBlt g m) :=
  ⟨fun ex σ H F w Q r q => WE.of (pe_callB callr_wc hg hm hv pa_wa hn hdb he hpl) (se_blt0 hc ha r q)⟩
theorem se_callTy {e : Expr} {es : List Expr} {x : Str} {p pos : Pos} {T : String} {m : W → R (List D)} {g : List D → Option D} (hc : DCall X fm.a0 (.type T) g) (hm : X.mg x = none) (hv : bootBuiltins x = some (.type T)) (ha : SAs X Wx fm (e :: es) m) (hg : Gl X x := by rfl)
    (hn : x ≠ "__name__" := by decide) (hdb : (x == ("__debug__" : Str)) = false := by decide)
    (he : starEach (e :: es) X.env = (false, eval e X.env) :: starEach es X.env := by rfl) (hpl : (backTo pos (starEach es X.env)).any (·.1) = false := by rfl) : SE X Wx fm (.Call (.Name x p) (e :: es) [] pos) (mBlt g m) :=
  ⟨fun ex σ H F w Q r q => WE.of (pe_callTy callr_wc hg hm hv pa_wa hn hdb he hpl) (se_blt0 hc ha r q)⟩
def gLen : List D → Option D
  | [.tup l] => some (.int l.length)
  | [.lst l] => some (.int l.length)
  | [.str z] => if z.length ≤ 1000000 then some (.int z.length) else none
  | _ => none
theorem dc_len {a0 : Addr} : DCall X a0 (.builtin "len") gLen := by
  intro vs ds r H F Q hf hv hg k
  cases hv with
  | nil => cases hg
  | cons h1 h2 =>
    cases h2 with
    | cons _ _ => cases h1 <;> cases hg
    | nil =>
      cases h1 with
      | tup hs ha =>
        cases hg
        have kk := k _ _ _ (Gr.refl hf) (.int _)
        rw [← ha.len] at kk
        exact WC.of call_len_seq ⟨_, _, rfl, .inr (ex_t hf hs), kk⟩
      | lst hs ha =>
        cases hg
        have kk := k _ _ _ (Gr.refl hf) (.int _)
        rw [← ha.len] at kk
        exact WC.of call_len_seq ⟨_, _, rfl, .inl (.inl (.inl (hf _ _ hs))), kk⟩
      | str z =>
        have hg : (if z.length ≤ 1000000 then some (D.int z.length) else none) = some r := hg
        by_cases hl : z.length ≤ 1000000
        · rw [if_pos hl] at hg
          cases hg
          exact WC.of call_len_str ⟨_, rfl, line_of hl, k _ _ _ (Gr.refl hf) (.int _)⟩
        · rw [if_neg hl] at hg; cases hg
      | _ => cases hg
def gAbs : List D → Option D
  | [.int i] => some (.int (if i < 0 then -i else i))
  | _ => none
theorem dc_abs {a0 : Addr} : DCall X a0 (.builtin "abs") gAbs := by
  intro vs ds r H F Q hf hv hg k
  cases hv with
  | nil => cases hg
  | cons h1 h2 =>
    cases h2 with
    | cons _ _ => cases h1 <;> cases hg
    | nil =>
      cases h1 <;> cases hg
      exact WC.of call_abs ⟨_, rfl, k _ _ _ (Gr.refl hf) (.int _)⟩
def gInt : List D → Option D
  | [.int i] => some (.int i)
  | [.bl b] => some (.int (if b then 1 else 0))
  | _ => none
theorem dc_int {a0 : Addr} : DCall X a0 (.type "int") gInt := by
  intro vs ds r H F Q hf hv hg k
  cases hv with
  | nil => cases hg
  | cons h1 h2 =>
    cases h2 with
    | cons _ _ => cases h1 <;> cases hg
    | nil =>
      cases h1 with
      | int i => cases hg; exact WC.of call_int1 (.inl ⟨_, rfl, k _ _ _ (Gr.refl hf) (.int _)⟩)
      | bl b => cases hg; exact WC.of call_int1 (.inr ⟨_, rfl, k _ _ _ (Gr.refl hf) (.int _)⟩)
      | _ => cases hg
def gTuple : List D → Option D
  | [.tup l] => some (.tup l)
  | [.lst l] => some (.tup l)
  | _ => none
theorem dc_tuple {a0 : Addr} : DCall X a0 (.type "tuple") gTuple := by
  intro vs ds r H F Q hf hv hg k
  cases hv with
  | nil => cases hg
  | cons h1 h2 =>
    cases h2 with
    | cons _ _ => cases h1 <;> cases hg
    | nil =>
      cases h1 with
      | tup hs ha => cases hg; exact WC.of call_tuple_of ⟨_, _, rfl, .inr ⟨ex_t hf hs, k _ _ _ (Gr.refl hf) (.tup hs ha)⟩⟩
      | lst hs ha => cases hg; exact WC.of call_tuple_of ⟨_, _, rfl, .inl ⟨.inl (.inl (hf _ _ hs)), fun p hp => k _ _ _ (Gr.new hf hp) (.tup (.inl (.inl upd_same)) (ha.ex (Gr.new hf hp).ff))⟩⟩
      | _ => cases hg
def ints? : List D → Option (List Int)
  | [] => some []
  | .int i :: l => (ints? l).map (i :: ·)
  | _ => none
theorem ints_rp {K : PySem.W.Frag} {a0 : Addr} {F : Hp} : ∀ {l : List D} {ns : List Int} {vs : List V}, ints? l = some ns → RpAll K a0 F vs l → vs = ns.map V.int
  | [], ns, _, e, h => by cases e; cases h; rfl
  | .int i :: l, ns, _, e, h => by
    unfold ints? at e
    cases q : ints? l with
    | none => rw [q] at e; cases e
    | some ms =>
      rw [q] at e
      cases e
      cases h with
      | cons h1 h2 =>
        cases h1
        rw [ints_rp q h2]
        rfl
  | .non :: _, _, _, e, _ => by cases e
  | .bl _ :: _, _, _, e, _ => by cases e
  | .str _ :: _, _, _, e, _ => by cases e
  | .tup _ :: _, _, _, e, _ => by cases e
  | .lst _ :: _, _, _, e, _ => by cases e
  | .src :: _, _, _, e, _ => by cases e
theorem ints_map (ns : List Int) : ints? (ns.map D.int) = some ns := by
  induction ns with
  | nil => rfl
  | cons n r ih => rw [List.map_cons, ints?, ih]; rfl
def maxL (ns : List Int) : Int := ns.foldl max (ns.headD 0)
def minL (ns : List Int) : Int := ns.foldl min (ns.headD 0)
theorem foldl_max_ge : ∀ (ns : List Int) (a : Int), a ≤ ns.foldl max a ∧ ∀ y ∈ ns, y ≤ ns.foldl max a
  | [], a => ⟨Int.le_refl _, fun _ h => nomatch h⟩
  | n :: r, a => by
    have := foldl_max_ge r (max a n)
    rw [List.foldl_cons]
    refine ⟨by omega, fun y hy => ?_⟩
    rcases List.mem_cons.mp hy with rfl | hy
    · omega
    · exact this.2 y hy
theorem foldl_max_mem : ∀ (ns : List Int) (a : Int), ns.foldl max a = a ∨ ns.foldl max a ∈ ns
  | [], a => .inl rfl
  | n :: r, a => by
    rw [List.foldl_cons]
    rcases foldl_max_mem r (max a n) with h | h
    · rw [h]
      by_cases c : a ≤ n
      · right; rw [Int.max_eq_right c]; exact List.mem_cons_self ..
      · left; exact Int.max_eq_left (by omega)
    · exact .inr (List.mem_cons_of_mem _ h)
theorem maxL_spec {ns : List Int} (h : ns ≠ []) : maxL ns ∈ ns ∧ ∀ y ∈ ns, y ≤ maxL ns := by
  cases ns with
  | nil => exact absurd rfl h
  | cons n r =>
    refine ⟨?_, (foldl_max_ge _ _).2⟩
    rcases foldl_max_mem (n :: r) n with e | e
    · show (n :: r).foldl max n ∈ _
      rw [e]; exact List.mem_cons_self ..
    · exact e
theorem maxL_eq {ns : List Int} {m : Int} (h : m ∈ ns) (hm : ∀ y ∈ ns, y ≤ m) : m = maxL ns := by
  have := maxL_spec (List.ne_nil_of_mem h)
  have h1 := this.2 m h
  have h2 := hm _ this.1
  omega
def gMax : List D → Option D
  | [.int i, .int j] => some (.int (if j > i then j else i))
  | [.lst l] => match ints? l with
    | some (n :: r) => some (.int (maxL (n :: r)))
    | _ => none
  | _ => none
theorem dc_max {a0 : Addr} (hc : X.calm = true) : DCall X a0 (.builtin "max") gMax := by
  intro vs ds r H F Q hf hv hg k
  cases hv with
  | nil => cases hg
  | cons h1 h2 =>
    cases h2 with
    | cons h3 h4 =>
      cases h4 with
      | cons _ _ => cases h1 <;> cases h3 <;> cases hg
      | nil =>
        cases h1 <;> cases h3 <;> cases hg
        exact WC.of (call_max2 hc) ⟨_, _, rfl, k _ _ _ (Gr.refl hf) (.int _)⟩
    | nil =>
      cases h1 with
      | @lst p us l hs ha =>
        have hg : (match ints? l with | some (n :: r) => some (D.int (maxL (n :: r))) | _ => none) = some r := hg
        cases q : ints? l with
        | none => rw [q] at hg; cases hg
        | some ns =>
          rw [q] at hg
          cases ns with
          | nil => cases hg
          | cons n ns =>
            cases hg
            have e := ints_rp q ha
            subst e
            exact WC.of (cr_max hc) ⟨_, _, rfl, .inl (.inl (hf _ _ hs)), by simp, fun m hm hle => by
              rw [maxL_eq hm hle]
              exact k _ _ _ (Gr.refl hf) (.int _)⟩
      | _ => cases hg
def gMin : List D → Option D
  | [.int i, .int j] => some (.int (if j < i then j else i))
  | _ => none
theorem dc_min {a0 : Addr} (hc : X.calm = true) : DCall X a0 (.builtin "min") gMin := by
  intro vs ds r H F Q hf hv hg k
  cases hv with
  | nil => cases hg
  | cons h1 h2 =>
    cases h2 with
    | cons h3 h4 =>
      cases h4 with
      | cons _ _ => cases h1 <;> cases h3 <;> cases hg
      | nil =>
        cases h1 <;> cases h3 <;> cases hg
        exact WC.of (call_min2 hc) ⟨_, _, rfl, k _ _ _ (Gr.refl hf) (.int _)⟩
    | nil => cases h1 <;> cases hg
def gSum : List D → Option D
  | [.lst l] => (ints? l).map fun ns => .int ns.sum
  | _ => none
theorem dc_sum {a0 : Addr} (hc : X.calm = true) : DCall X a0 (.builtin "sum") gSum := by
  intro vs ds r H F Q hf hv hg k
  cases hv with
  | nil => cases hg
  | cons h1 h2 =>
    cases h2 with
    | cons _ _ => cases h1 <;> cases hg
    | nil =>
      cases h1 with
      | @lst p us l hs ha =>
        have hg : ((ints? l).map fun ns => D.int ns.sum) = some r := hg
        cases q : ints? l with
        | none => rw [q] at hg; cases hg
        | some ns =>
          rw [q] at hg
          cases hg
          have e := ints_rp q ha
          subst e
          exact WC.of (cr_sum hc) ⟨_, _, rfl, .inl (.inl (hf _ _ hs)), k _ _ _ (Gr.refl hf) (.int _)⟩
      | _ => cases hg
/-- list(x): a new list -/
def D.seq? : D → Option (List D)
  | .tup l => some l
  | .lst l => some l
  | _ => none
def mListOf (m : W → R D) : W → R (List D) := fun w => (m w).bind fun d w' => R.lift d.seq? w'
theorem sf_listOf {e : Expr} {p pos : Pos} {m : W → R D} (h : SE X Wx fm e m) (hm : X.mg "list" = none) (hg : Gl X "list" := by rfl) (he : starEach [e] X.env = (false, eval e X.env) :: starEach [] X.env := by rfl) (hpl : (backTo pos (starEach [] X.env)).any (·.1) = false := by rfl) :
    SF X Wx fm (.Call (.Name "list" p) [e] [] pos) (mListOf m) := by
  refine ⟨?_⟩
  intro ex σ H F w Q r q
  refine WE.of (pe_callTy call_list_of hg hm (by decide +kernel) (pa_cons pe_we pa_nil he) (by decide) (by decide) he hpl) ?_
  show WE X e σ H fun x H1 => ∃ p ys, [x] = [.ref p] ∧ (SqL X.K H1 p ys ∨ SqT X.K H1 p ys) ∧ ∀ l, H1 l = none → Q (.ref l) (upd H1 l (.lst ys))
  refine h ex σ H F w _ r ((FinF.bindD q).imp fun d w1 H1 F1 ⟨r1, k1, e1, q1⟩ v hv => ?_)
  cases hv with
  | @tup p us l hs ha =>
    have q1 : FinF X Wx fm ex σ H1 F1 Q (.ok l w1) := q1
    exact ⟨_, _, rfl, .inr (ex_t r1.fh hs), fun p hp => q1 p _ F1 (Gr.dark r1.fh hp).kp (Ex.refl _) (r1.lay hp ha)⟩
  | @lst p us l hs ha =>
    have q1 : FinF X Wx fm ex σ H1 F1 Q (.ok l w1) := q1
    exact ⟨_, _, rfl, .inl (.inl (.inl (r1.fh _ _ hs))), fun p hp => q1 p _ F1 (Gr.dark r1.fh hp).kp (Ex.refl _) (r1.lay hp ha)⟩
  | _ => exact (show False from q1).elim
/-- isinstance(x, T), T a built-in type -/
def D.ty : D → Option String
  | .non => some "NoneType"
  | .bl _ => some "bool"
  | .int _ => some "int"
  | .str _ => some "str"
  | .tup _ => some "tuple"
  | .lst _ => some "list"
  | .src => none
def D.isi (T : String) (d : D) : Option Bool := d.ty.bind fun t => kitB t T
theorem Rp.tyx {F H : Hp} {v : V} {d : D} {t : String} (h : Rp X.K fm.a0 F v d) (hf : Ex F H) (e : d.ty = some t) : TyX X.K H v (.type t) := by
  cases h with
  | non => cases e; exact .base .non
  | bl b => cases e; exact .base (.bl b)
  | int i => cases e; exact .base (.int i)
  | str x => cases e; exact .base (.str x)
  | src => cases e
  | lst hs ha => cases e; exact .base (.lst (hf _ _ hs))
  | tup hs ha =>
    cases e
    rcases hs with (hs | ⟨o, hs⟩) | ⟨o, its, n, h1, h2, _⟩
    · exact .base (.tup (hf _ _ hs))
    · exact .fTuple (hf _ _ hs)
    · exact .kTuple h1 h2
def mIsi (T : String) (m : W → R D) : W → R D := fun w => (m w).bind fun d w' => R.lift ((d.isi T).map D.bl) w'
theorem se_isi {e : Expr} {x : Str} {T : String} {p p2 pos : Pos} {m : W → R D} (h : SE X Wx fm e m) (hm : X.mg "isinstance" = none) (hmT : X.mg x = none) (hT : bootBuiltins x = some (.type T)) (hg : Gl X "isinstance" := by rfl) (hgT : Gl X x := by rfl) (hn : x ≠ "__name__" := by decide) (hdb : (x == ("__debug__" : Str)) = false := by decide)
    (he : starEach [e, .Name x p2] X.env = (false, eval e X.env) :: starEach [.Name x p2] X.env := by rfl) (he2 : starEach [.Name x p2] X.env = (false, eval (.Name x p2) X.env) :: starEach [] X.env := by rfl) (hpl : (backTo pos (starEach [.Name x p2] X.env)).any (·.1) = false := by rfl) :
    SE X Wx fm (.Call (.Name "isinstance" p) [e, .Name x p2] [] pos) (mIsi T m) := by
  refine ⟨?_⟩
  intro ex σ H F w Q r q
  refine WE.of (pe_callB call_isi hg hm (by decide +kernel) (pa_cons pe_we (pa_cons (pe_bltn (v := .ty T) hgT hmT hT rfl hn hdb) pa_nil he2) he) (by decide) (by decide) he hpl) ?_
  show WE X e σ H fun y H1 => rIsi X.K [y, .ty T] H1 Q
  refine h ex σ H F w _ r ((Fin.bind q).imp fun d w1 H1 F1 ⟨r1, k1, e1, q1⟩ v hv => ?_)
  obtain ⟨z, hz, q2⟩ := q1.lift
  unfold D.isi at hz
  cases ht : d.ty with
  | none => rw [ht] at hz; cases hz
  | some t =>
    rw [ht] at hz
    cases hb : kitB t T with
    | none =>
      have hz : (kitB t T).map D.bl = some z := hz
      rw [hb] at hz; cases hz
    | some b =>
      have hz : (kitB t T).map D.bl = some z := hz
      rw [hb] at hz
      cases hz
      exact ⟨v, .ty T, .type t, .type T, b, rfl, .ty T, hv.tyx r1.fh ht, kit_ty hb, q2 H1 F1 Kp.refl (Ex.refl _) r1 _ (.bl b)⟩

/-! ### defs: the promise, the call -/
end
inductive RF where
  | ok (d : D) (ss : SS)
  | exc (c : Exn) (ss : SS)
  | stuck
def FinM (K : PySem.W.Frag) (mg : Str → Option Value) (a0 c0 : Addr) (F H : Hp) (Q : VK) (E : XK) : RF → Prop
  | .ok d ss' => ∀ v H' F', Gk a0 H F H' F' → SrcOk a0 c0 F' H' ss' → Rp K a0 F' v d → Q v H'
  | .exc c ss' => ∀ H' F' cls dd, Gk a0 H F H' F' → SrcOk a0 c0 F' H' ss' → ExcIs K mg a0 H c cls dd F' H' → E cls dd H'
  | .stuck => False
def spM (K : PySem.W.Frag) (mg : Str → Option Value) (n : Nat) (m : List D → SS → RF) : Sp := fun vs H Q E =>
  ∃ (a0 c0 : Addr) (F : Hp) (ds : List D) (ss : SS), vs.length = n ∧ Ex F H ∧ SrcOk a0 c0 F H ss ∧ RpAll K a0 F vs ds ∧ FinM K mg a0 c0 F H Q E (m ds ss)
/-- the module's def of the name x computes m of its n arguments, by at most level k -/
structure Cal (P : Program) (w : World) (K : PySem.W.Frag) (mg : Str → Option Value) (base : Heap) (k : Nat) (x : Str) (n : Nat) (m : List D → SS → RF) : Prop where
  ex : ∃ (f : Addr) (fd : FuncData) (ps : List Str), FnOk P w K mg base (L2.CX P w) k f fd ps (spM K mg n m) ∧ mg x = some (.ref f) ∧ PySem.W.keepIn K (.ref f) = true ∧ Binds K fd ps []
def mCall (n : Nat) (f : List D → SS → RF) (m : W → R (List D)) : W → R D := fun w => (m w).bind fun ds w1 => if ds.length = n then match f ds w1.ss with
  | .ok d ss' => .ok d { w1 with ss := ss' }
  | .exc c ss' => .exc c { w1 with ss := ss' }
  | .stuck => .stuck
  else .stuck
section
variable {X : Cx} {Wx : WX} {fm : Fm}
theorem se_call {e : Expr} {es : List Expr} {x : Str} {p pos : Pos} {k n : Nat} {f : List D → SS → RF} {m : W → R (List D)} (c : Cal X.prog X.w X.K X.mg X.base k x n f) (tk : Takes X Wx) (hr : Room k X.A) (ha : SAs X Wx fm (e :: es) m) (hg : Gl X x := by rfl)
    (hdb : (x == ("__debug__" : Str)) = false := by decide) (he : starEach (e :: es) X.env = (false, eval e X.env) :: starEach es X.env := by rfl) (hpl : (backTo pos (starEach es X.env)).any (·.1) = false := by rfl) :
    SE X Wx fm (.Call (.Name x p) (e :: es) [] pos) (mCall n f m) := by
  obtain ⟨fa, fd, ps, Fo, hm, hk, hb⟩ := c.ex
  refine ⟨?_⟩
  intro ex σ H F w Q r q
  refine WE.of (pe_callS Fo hr hg hm hk hb (fun σ => passAt tk σ) pa_wa hdb he hpl) ?_
  show WA X (e :: es) σ H fun vs H1 => spM X.K X.mg n f vs H1 Q (L2.WE Wx σ)
  refine ha ex σ H F w _ r ((Fin.bind q).imp fun ds w1 H1 F1 ⟨r1, k1, e1, q1⟩ vs hv => ?_)
  by_cases hl : ds.length = n
  · rw [if_pos hl] at q1
    refine ⟨fm.a0, fm.c0, F1, ds, w1.ss, hv.len.trans hl, r1.fh, r1.src, hv, ?_⟩
    revert q1
    cases f ds w1.ss with
    | ok d ss' => exact fun q1 v H' F' g s rv => q1 H' F' g.hh g.ff (r1.step g s) v rv
    | exc c ss' => exact fun q1 H' F' cls dd g s xc => q1 H' F' cls dd g.hh g.ff (r1.step g s) (xc.up r1 s)
    | stuck => exact fun q1 => q1
  · rw [if_neg hl] at q1
    exact (show False from q1).elim
/-- f(), no argument; it raises nothing -/
def mCall0 (f : List D → SS → RF) : W → R D := fun w1 => match f [] w1.ss with
  | .ok d ss' => .ok d { w1 with ss := ss' }
  | _ => .stuck
theorem se_call0 {x : Str} {p pos : Pos} {k : Nat} {f : List D → SS → RF} (c : Cal X.prog X.w X.K X.mg X.base k x 0 f) (hr : Room k X.A) (hg : Gl X x := by rfl)
    (hdb : (x == ("__debug__" : Str)) = false := by decide) : SE X Wx fm (.Call (.Name x p) [] [] pos) (mCall0 f) := by
  obtain ⟨fa, fd, ps, Fo, hm, hk, hb⟩ := c.ex
  refine ⟨?_⟩
  intro ex σ H F w Q r q
  refine WE.of (pe_call0 (dvs := []) Fo hr hg hm hk hb .nil passL hdb) ?_
  refine ⟨fm.a0, fm.c0, F, [], w.ss, rfl, r.fh, r.src, .nil, ?_⟩
  revert q
  unfold mCall0
  cases f [] w.ss with
  | ok d ss' => exact fun q1 v H' F' g s rv => q1 H' F' g.hh g.ff (r.step g s) v rv
  | exc c ss' => exact fun q1 => q1.elim
  | stuck => exact fun q1 => q1

/-! ### what a for walks -/
def WI (X : Cx) (tg iter : Expr) : TI := fun σ H R => ∀ (pins : List (Addr × Obj)) (s : Shared), Inv X pins σ H s →
  wpAny (model X.prog X.w) X.A (eval iter X.env) (fun v s1 => wpAny (model X.prog X.w) X.A (pyIter v) (PIE X pins σ tg R) X.xe s1) X.xe s
theorem pi_wi {tg iter : Expr} : PI X tg iter (WI X tg iter) := ⟨fun pins s _ _ _ I h => h pins s I⟩
theorem WI.of {tg iter : Expr} {t : TI} {σ : L2.St} {H : Hp} {R : It → Hp → Prop} (h : PI X tg iter t) (q : t σ H R) : WI X tg iter σ H R := fun pins s I => h.run pins s σ H R I q
structure Wk (K : PySem.W.Frag) (a0 : Addr) (J : It) (ds : List D) (F : Hp) : Prop where
  ex : ∃ (G : Hp → Prop) (Y : Nat → Hp → V → Hp → Prop), Walk J ds.length G Y ∧ (∀ H, Ex F H → G H) ∧
    ∀ i H F1 x H', i < ds.length → Ex F F1 → Ex F1 H → Y i H x H' → ∃ F2 d, ds[i]? = some d ∧ Gr H F1 H' F2 ∧ Rp K a0 F2 x d
abbrev SItr (X : Cx) (Wx : WX) (fm : Fm) (tg iter : Expr) (m : W → R (List D)) : Prop := ∀ (ex : Exs) (σ : L2.St) (H F : Hp) (w : W) (R : It → Hp → Prop), Rel X.K fm ex σ H F w →
  Fin X Wx fm ex σ H F (fun ds _ H' F' => ∀ J, Wk X.K fm.a0 J ds F' → R J H') (m w) → WI X tg iter σ H R
structure SIt (X : Cx) (Wx : WX) (fm : Fm) (tg iter : Expr) (m : W → R (List D)) : Prop where
  run : SItr X Wx fm tg iter m
instance {X : Cx} {Wx : WX} {fm : Fm} {tg iter : Expr} {m : W → R (List D)} : CoeFun (SIt X Wx fm tg iter m) (fun _ => SItr X Wx fm tg iter m) := ⟨SIt.run⟩
def signs (z : Str) : List D := z.cps.toList.map fun c => .str ⟨#[c]⟩
def D.items : D → Option (List D)
  | .tup l => some l
  | .lst l => some l
  | .str z => some (signs z)
  | _ => none
def mItems (m : W → R D) : W → R (List D) := fun w => (m w).bind fun d w' => R.lift d.items w'
theorem wk_at {K : PySem.W.Frag} {a0 : Addr} {J : It} {G : Hp → Prop} {vs : List V} {ds : List D} {F : Hp} (w : Walk J vs.length G (YAt vs)) (hG : ∀ H, Ex F H → G H) (ha : RpAll K a0 F vs ds) : Wk K a0 J ds F := by
  refine ⟨G, YAt vs, by rw [← ha.len]; exact w, hG, fun i H F1 x H' hi e1 e2 y => ?_⟩
  obtain ⟨rfl, y⟩ := y
  obtain ⟨d, h1, h2⟩ := ha.getv y
  exact ⟨F1, d, h1, Gr.refl e2, h2.ex e1⟩
/-- the iterator of a value that is there -/
def ItrOk (X : Cx) (tg : Expr) (R : It → Hp → Prop) (x : V) (H : Hp) : Prop := ∀ (pins : List (Addr × Obj)) (s : Shared) (σ : L2.St) (u : Value), Inv X pins σ H s → RelV x u → wpAny (model X.prog X.w) X.A (pyIter u) (PIE X pins σ tg R) X.xe s
theorem iter_list {tg : Expr} {R : It → Hp → Prop} {a : Addr} {H : Hp} {vs : List V} (hq : SqL X.K H a vs) (q : R (Itl X.K a) H) : ItrOk X tg R (.ref a) H := by
  intro pins s σ u I r
  cases r
  obtain ⟨its, rv, p, hz⟩ := I.list hq
  refine wpAny_pyIter_list p.isList ?_
  refine ⟨s.heap.objs.size, [s.heap.objs.size], _, _, H, rfl, I.kept (t' := s.toks) fun b o e => Heap.get?_push_of_some _ e, turn_list a _, ⟨_, Heap.get?_push_size _ rfl, rfl, rfl⟩, fun b hb => ?_, q⟩
  have e : b = s.heap.objs.size := by simpa using hb
  subst e
  exact I.fpOk (Nat.le_refl _) (I.hok.fresh (Nat.le_refl _))
theorem iter_tup {tg : Expr} {R : It → Hp → Prop} {a : Addr} {H : Hp} {vs : List V} (hq : SqT X.K H a vs) (q : R (Itt X.K a) H) : ItrOk X tg R (.ref a) H := by
  intro pins s σ u I r
  cases r
  obtain ⟨its, rv, p, hz⟩ := I.tuple hq
  refine wpAny_pyIter_tuple (show s.heap.IsTuple a its.toArray from p) ?_
  refine ⟨s.heap.objs.size, [s.heap.objs.size], _, _, H, rfl, I.kept (t' := s.toks) fun b o e => Heap.get?_push_of_some _ e, turn_tuple a _, ⟨_, Heap.get?_push_size _ rfl, rfl, rfl⟩, fun b hb => ?_, q⟩
  have e : b = s.heap.objs.size := by simpa using hb
  subst e
  exact I.fpOk (Nat.le_refl _) (I.hok.fresh (Nat.le_refl _))
theorem iter_str {tg : Expr} {R : It → Hp → Prop} {x : Str} {H : Hp} (q : R (Its x) H) : ItrOk X tg R (.str x) H := by
  intro pins s σ u I r
  obtain ⟨t, rfl⟩ := r
  cases ha : x.cps.all (· < 128)
  · exact wpAny_pyIter_wide ha (pi_one (tk := s.toks) I _ (turn_str _ x t "str_iterator" (.inr rfl)) ⟨_, Heap.get?_push_size _ rfl, rfl, rfl⟩ q)
  · exact wpAny_pyIter_ascii ha (pi_one (tk := s.toks) I _ (turn_str _ x t "str_ascii_iterator" (.inl rfl)) ⟨_, Heap.get?_push_size _ rfl, rfl, rfl⟩ q)
theorem si_seq {tg e : Expr} {m : W → R D} (h : SE X Wx fm e m) : SIt X Wx fm tg e (mItems m) := by
  refine ⟨?_⟩
  intro ex σ H F w R r q
  intro pins s I
  have key : WE X e σ H fun v H1 => ItrOk X tg R v H1 := by
    refine h ex σ H F w _ r ((Fin.bind q).imp fun d w1 H1 F1 ⟨r1, k1, e1, q1⟩ v hv => ?_)
    cases hv with
    | @lst p us l hs ha =>
      have q1 : ∀ H' F', Kp fm.a0 H1 H' → Ex F1 F' → Rel X.K fm ex σ H' F' w1 → ∀ J, Wk X.K fm.a0 J l F' → R J H' := q1
      exact iter_list (.inl (.inl (r1.fh _ _ hs))) (q1 H1 F1 Kp.refl (Ex.refl _) r1 _ (wk_at walk_list (fun H' e => .inl (.inl (e _ _ hs))) ha))
    | @tup p us l hs ha =>
      have q1 : ∀ H' F', Kp fm.a0 H1 H' → Ex F1 F' → Rel X.K fm ex σ H' F' w1 → ∀ J, Wk X.K fm.a0 J l F' → R J H' := q1
      exact iter_tup (ex_t r1.fh hs) (q1 H1 F1 Kp.refl (Ex.refl _) r1 _ (wk_at walk_tup (fun H' e => ex_t e hs) ha))
    | str z =>
      have q1 : ∀ H' F', Kp fm.a0 H1 H' → Ex F1 F' → Rel X.K fm ex σ H' F' w1 → ∀ J, Wk X.K fm.a0 J (signs z) F' → R J H' := q1
      refine iter_str (q1 H1 F1 Kp.refl (Ex.refl _) r1 _ ⟨fun _ => True, (fun i H v H' => H' = H ∧ ∃ c, z.cps[i]? = some c ∧ v = .str ⟨#[c]⟩), ?_, fun _ _ => trivial, fun i H F1 x H' hi e1 e2 y => ?_⟩)
      · have e : (signs z).length = z.cps.size := by simp [signs]
        rw [e]
        exact walk_str
      · obtain ⟨rfl, c, hc, rfl⟩ := y
        refine ⟨F1, .str ⟨#[c]⟩, ?_, Gr.refl e2, .str _⟩
        have hc' : z.cps.toList[i]? = some c := by simpa using hc
        unfold signs
        rw [List.getElem?_map, hc']
        rfl
    | _ => exact (show False from q1).elim
  exact thn (key pins s I) fun u s1 ⟨v, H1, I1, rv, hv⟩ => hv pins s1 σ u I1 rv
/-- range(n), range(a, b) -/
def rngD (a b : Int) : List D := (List.range (b - a).toNat).map fun (i : Nat) => D.int (a + (i : Int))
def small (i : Int) : Bool := decide (-(2 ^ 62) ≤ i) && decide (i < 2 ^ 62)
theorem small_b {i : Int} (h : small i = true) : -(2 ^ 62) ≤ i ∧ i < 2 ^ 62 := by
  unfold small at h
  simpa using h
def mRng1 (m : W → R (List D)) : W → R (List D) := fun w => (m w).bind fun ds w' => R.lift (match ds with | [.int b] => if small b = true then some (rngD 0 b) else none | _ => none) w'
def mRng2 (m : W → R (List D)) : W → R (List D) := fun w => (m w).bind fun ds w' => R.lift (match ds with | [.int a, .int b] => if (small a && small b) = true then some (rngD a b) else none | _ => none) w'
theorem wk_rng {K : PySem.W.Frag} {a0 : Addr} {a b : Int} {F : Hp} : Wk K a0 (Itr a (b - a).toNat) (rngD a b) F := by
  have e : (rngD a b).length = (b - a).toNat := by simp [rngD]
  refine ⟨fun _ => True, (YFn fun i => .int (a + i)), by rw [e]; exact walk_range, fun _ _ => trivial, fun i H F1 x H' hi e1 e2 y => ?_⟩
  obtain ⟨rfl, rfl⟩ := y
  refine ⟨F1, .int (a + i), ?_, Gr.refl e2, .int _⟩
  unfold rngD
  rw [List.getElem?_map, List.getElem?_range (by omega)]
  rfl
theorem si_rng1 {tg a : Expr} {p pos : Pos} {m : W → R (List D)} (ha : SAs X Wx fm [a] m) (hm : X.mg "range" = none) (hg : Gl X "range" := by rfl) (hs : starEach [a] X.env = [(false, eval a X.env)] := by rfl) : SIt X Wx fm tg (.Call (.Name "range" p) [a] [] pos) (mRng1 m) := by
  refine ⟨?_⟩
  intro ex σ H F w R r q
  refine WI.of (pi_range1 hg hm pa_wa hs) ?_
  show WA X [a] σ H fun vs H1 => ∃ j : Int, vs = [.int j] ∧ -(2 ^ 62) ≤ j ∧ j < 2 ^ 62 ∧ R (Itr 0 j.toNat) H1
  refine ha ex σ H F w _ r ((Fin.bind q).imp fun ds w1 H1 F1 ⟨r1, k1, e1, q1⟩ vs hv => ?_)
  obtain ⟨z, hz, q2⟩ := q1.lift
  split at hz
  · rename_i b _
    by_cases hb : small b = true
    · rw [if_pos hb] at hz
      cases hz
      cases hv with
      | cons h1 h2 =>
        cases h1
        cases h2
        have k := wk_rng (K := X.K) (a0 := fm.a0) (a := 0) (b := b) (F := F1)
        rw [Int.sub_zero] at k
        exact ⟨b, rfl, (small_b hb).1, (small_b hb).2, q2 H1 F1 Kp.refl (Ex.refl _) r1 _ k⟩
    · rw [if_neg hb] at hz; cases hz
  · cases hz
theorem si_rng2 {tg a b : Expr} {p pos : Pos} {m : W → R (List D)} (ha : SAs X Wx fm [a, b] m) (hm : X.mg "range" = none) (hg : Gl X "range" := by rfl) (hs : starEach [a, b] X.env = [(false, eval a X.env), (false, eval b X.env)] := by rfl) (hs2 : starEach [b] X.env = [(false, eval b X.env)] := by rfl) :
    SIt X Wx fm tg (.Call (.Name "range" p) [a, b] [] pos) (mRng2 m) := by
  refine ⟨?_⟩
  intro ex σ H F w R r q
  refine WI.of (pi_range2 hg hm pa_wa hs hs2) ?_
  show WA X [a, b] σ H fun vs H1 => ∃ i j : Int, vs = [.int i, .int j] ∧ (-(2 ^ 62) ≤ i ∧ i < 2 ^ 62 ∧ -(2 ^ 62) ≤ j ∧ j < 2 ^ 62) ∧ R (Itr i (j - i).toNat) H1
  refine ha ex σ H F w _ r ((Fin.bind q).imp fun ds w1 H1 F1 ⟨r1, k1, e1, q1⟩ vs hv => ?_)
  obtain ⟨z, hz, q2⟩ := q1.lift
  split at hz
  · rename_i a b _
    by_cases hb : (small a && small b) = true
    · rw [if_pos hb] at hz
      cases hz
      have hb' : small a = true ∧ small b = true := by simpa using hb
      cases hv with
      | cons h1 h2 =>
        cases h1
        cases h2 with
        | cons h3 h4 =>
          cases h3
          cases h4
          exact ⟨a, b, rfl, ⟨(small_b hb'.1).1, (small_b hb'.1).2, (small_b hb'.2).1, (small_b hb'.2).2⟩, q2 H1 F1 Kp.refl (Ex.refl _) r1 _ wk_rng⟩
    · rw [if_neg hb] at hz; cases hz
  · cases hz
end
end TD

set_option Elab.async false
set_option linter.all false
set_option maxRecDepth 100000
set_option maxHeartbeats 4000000
namespace TD
open PySem PySem.Spec PyProof.Rows L2

/-! ### names wiped, given back -/
def wipeE (env : Env) : List Nat → Env
  | [] => env
  | v :: vs => (wipeE env vs).set v none
theorem Rel.wipe {K : PySem.W.Frag} {fm : Fm} {ex : Exs} {σ : L2.St} {H F : Hp} {w : W} (r : Rel K fm ex σ H F w) : ∀ vs : List Nat, Rel K fm ex (L2.wipe σ vs) H F { w with env := wipeE w.env vs }
  | [] => r
  | v :: vs => (r.wipe vs).setNone v none
def resE (env0 env : Env) : List Nat → Env
  | [] => env
  | v :: vs => (resE env0 env vs).set v (match env0[v]? with | some (some (.val d)) => some (.val d) | _ => none)
def resS (σ τ : L2.St) : List Nat → L2.St
  | [] => τ
  | v :: vs => (resS σ τ vs).set v (σ[v]?.getD none)
theorem Rel.restore {K : PySem.W.Frag} {fm : Fm} {ex ex' : Exs} {σ τ : L2.St} {H F H' F' : Hp} {w w' : W} (r : Rel K fm ex σ H F w) (e : Ex F F') (r' : Rel K fm ex' τ H' F' w') : ∀ vs : List Nat, Rel K fm ex' (resS σ τ vs) H' F' { w' with env := resE w.env w'.env vs }
  | [] => r'
  | v :: vs => by
    have ih := r.restore e r' vs
    unfold resS resE
    split
    · rename_i d h
      obtain ⟨u, e1, k⟩ := r.slot v _ h
      rw [e1]
      exact ih.setVal v (Rp.ex k e)
    · exact ih.setNone v _
theorem resS_get {σ τ : L2.St} (hl : τ.length = σ.length) : ∀ (vs : List Nat) (i : Nat), (resS σ τ vs)[i]? = if i ∈ vs then σ[i]? else τ[i]?
  | [], i => by simp [resS]
  | v :: vs, i => by
    have ih := resS_get hl vs i
    have len : ∀ us : List Nat, (resS σ τ us).length = σ.length := fun us => by
      induction us with
      | nil => exact hl
      | cons u us ih => unfold resS; rw [List.length_set]; exact ih
    unfold resS
    by_cases hi : i = v
    · subst hi
      rw [if_pos (List.mem_cons_self ..)]
      by_cases hv : i < σ.length
      · rw [List.getElem?_set_self (by rw [len]; exact hv), List.getElem?_eq_getElem hv]
        rfl
      · rw [List.getElem?_eq_none (by rw [List.length_set, len]; omega), List.getElem?_eq_none (by omega)]
    · rw [List.getElem?_set_ne (Ne.symm hi), ih]
      by_cases hm : i ∈ vs
      · rw [if_pos hm, if_pos (List.mem_cons_of_mem _ hm)]
      · rw [if_neg hm, if_neg (by simp [hi, hm])]
theorem wipe_get {σ : L2.St} : ∀ (vs : List Nat) (i : Nat), (L2.wipe σ vs)[i]? = if i ∈ vs then σ[i]?.map fun _ => none else σ[i]?
  | [], i => by simp [L2.wipe]
  | v :: vs, i => by
    have ih := wipe_get (σ := σ) vs i
    unfold L2.wipe
    by_cases hi : i = v
    · subst hi
      rw [if_pos (List.mem_cons_self ..)]
      by_cases hv : i < σ.length
      · rw [List.getElem?_set_self (by rw [wipe_length]; exact hv), List.getElem?_eq_getElem hv]
        rfl
      · rw [List.getElem?_eq_none (by rw [List.length_set, wipe_length]; omega), List.getElem?_eq_none (by omega)]
        rfl
    · rw [List.getElem?_set_ne (Ne.symm hi), ih]
      by_cases hm : i ∈ vs
      · rw [if_pos hm, if_pos (List.mem_cons_of_mem _ hm)]
      · rw [if_neg hm, if_neg (by simp [hi, hm])]
theorem resS_wipe (σ : L2.St) (vs : List Nat) : resS σ (L2.wipe σ vs) vs = σ := by
  refine List.ext_getElem? fun i => ?_
  rw [resS_get (wipe_length σ vs), wipe_get]
  split <;> rfl
theorem wipe_same {σ σ' : L2.St} {vs js : List Nat} (hl : σ'.length = σ.length) (h : ∀ i, i ∉ js → σ'[i]? = (L2.wipe σ vs)[i]?) (hj : ∀ j ∈ js, j ∈ vs) : L2.wipe σ' vs = L2.wipe σ vs := by
  refine List.ext_getElem? fun i => ?_
  rw [wipe_get, wipe_get]
  by_cases hm : i ∈ vs
  · rw [if_pos hm, if_pos hm]
    by_cases hi : i < σ.length
    · rw [List.getElem?_eq_getElem hi, List.getElem?_eq_getElem (by omega)]
      rfl
    · rw [List.getElem?_eq_none (by omega), List.getElem?_eq_none (by omega)]
  · rw [if_neg hm, if_neg hm, h i (fun z => hm (hj i z)), wipe_get, if_neg hm]

section
variable {X : Cx} {Wx : WX} {fm : Fm}
/-! ### targets -/
def WG (X : Cx) (tg : Expr) : TG := fun v σ H Q => ∀ (pins : List (Addr × Obj)) (s : Shared) (u : Value), Inv X pins σ H s → RelV v u → wpAny (model X.prog X.w) X.A (assign tg X.env u) (fun _ s' => ∃ σ' H', Inv X pins σ' H' s' ∧ Q σ' H') X.xe s
theorem pg_wg {tg : Expr} : PG X tg (WG X tg) := ⟨fun pins s _ _ _ u _ I r h => h pins s u I r⟩
theorem WG.of {tg : Expr} {t : TG} {v : V} {σ : L2.St} {H : Hp} {Q : L2.St → Hp → Prop} (h : PG X tg t) (q : t v σ H Q) : WG X tg v σ H Q := fun pins s u I r => h.run pins s σ H v u Q I r q
abbrev SGr (X : Cx) (fm : Fm) (js : List Nat) (tg : Expr) (set : D → W → Option W) : Prop := ∀ (ex : Exs) (σ : L2.St) (H F : Hp) (w : W) (v : V) (d : D) (w' : W) (Q : L2.St → Hp → Prop), Rel X.K fm ex σ H F w → Rp X.K fm.a0 F v d → set d w = some w' →
  (∀ σ', σ'.length = σ.length → (∀ i, i ∉ js → σ'[i]? = σ[i]?) → Rel X.K fm ex σ' H F w' → Q σ' H) → WG X tg v σ H Q
structure SG (X : Cx) (fm : Fm) (js : List Nat) (tg : Expr) (set : D → W → Option W) : Prop where
  run : SGr X fm js tg set
instance {X : Cx} {fm : Fm} {js : List Nat} {tg : Expr} {set : D → W → Option W} : CoeFun (SG X fm js tg set) (fun _ => SGr X fm js tg set) := ⟨SG.run⟩
def gsName (i : Nat) : D → W → Option W := fun d w => some { w with env := w.env.set i (some (.val d)) }
theorem sg_name {i : Nat} {x : Str} {pos : Pos} (hN : X.N.Nodup) (hi : X.N[i]? = some x := by rfl) (hx : Loc X.env.scope x := by first | exact Or.inl rfl | exact Or.inr rfl) (hf : X.fn x = true ∨ X.env.scope.names.lookup x = some .local := by first | exact .inl rfl | exact .inr rfl | assumption) :
    SG X fm [i] (.Name x pos) (gsName i) := by
  refine ⟨?_⟩
  intro ex σ H F w v d w' Q r rv e k
  cases e
  refine WG.of (pg_name hN hi hx hf) ?_
  exact k _ (List.length_set ..) (fun j hj => by
    have : j ≠ i := by simpa using hj
    rw [List.getElem?_set_ne (Ne.symm this)]) (r.setVal i rv)
def WGs (X : Cx) (ts : List Expr) : TGs := fun vs σ H Q => ∃ t, PGs X ts t ∧ t vs σ H Q
def SGs (X : Cx) (fm : Fm) (js : List Nat) (ts : List Expr) (set : List D → W → Option W) : Prop := ∃ t, PGs X ts t ∧ ∀ (ex : Exs) (σ : L2.St) (H F : Hp) (w : W) (vs : List V) (ds : List D) (w' : W) (Q : L2.St → Hp → Prop), Rel X.K fm ex σ H F w → RpAll X.K fm.a0 F vs ds → set ds w = some w' →
  (∀ σ', σ'.length = σ.length → (∀ i, i ∉ js → σ'[i]? = σ[i]?) → Rel X.K fm ex σ' H F w' → Q σ' H) → t vs σ H Q
def gsNil : List D → W → Option W
  | [], w => some w
  | _, _ => none
def gsCons (s : D → W → Option W) (t : List D → W → Option W) : List D → W → Option W
  | d :: ds, w => (s d w).bind (t ds)
  | [], _ => none
theorem sgs_nil : SGs X fm [] [] gsNil := ⟨_, pgs_nil, fun ex σ H F w vs ds w' Q r rv e k => by
  cases rv with
  | nil => cases e; exact ⟨rfl, k σ rfl (fun _ _ => rfl) r⟩
  | cons _ _ => cases e⟩
theorem sgs_cons {e : Expr} {es : List Expr} {js ks : List Nat} {s : D → W → Option W} {t : List D → W → Option W} (h : SG X fm js e s) (g : SGs X fm ks es t) (hs : (assignEach (e :: es) X.env).map (·.2) = assign e X.env :: (assignEach es X.env).map (·.2) := by rfl) : SGs X fm (js ++ ks) (e :: es) (gsCons s t) := by
  obtain ⟨u, pu, gu⟩ := g
  refine ⟨_, pgs_cons pg_wg pu hs, fun ex σ H F w vs ds w' Q r rv eq k => ?_⟩
  cases rv with
  | nil => cases eq
  | @cons v vs d ds h1 h2 =>
    have eq : (s d w).bind (t ds) = some w' := eq
    cases hs : s d w with
    | none => rw [hs] at eq; cases eq
    | some w1 =>
      rw [hs] at eq
      refine ⟨v, vs, rfl, h ex σ H F w v d w1 _ r h1 hs fun σ1 l1 a1 r1 => ?_⟩
      exact gu ex σ1 H F w1 vs ds w' Q r1 h2 eq fun σ2 l2 a2 r2 => k σ2 (l2.trans l1) (fun i hi => (a2 i (fun z => hi (List.mem_append_right _ z))).trans (a1 i fun z => hi (List.mem_append_left _ z))) r2
def gsTup (n : Nat) (t : List D → W → Option W) : D → W → Option W
  | .tup ds, w => if ds.length = n then t ds w else none
  | _, _ => none
theorem sg_tup {es : List Expr} {k n : Nat} {pos : Pos} {js : List Nat} {t : List D → W → Option W} (hc : X.calm = true) (h : SGs X fm js es t) (hn : (assignEach es X.env).length = n := by rfl) (hst : (assignEach es X.env).findIdx? (·.1) = none := by rfl) : SG X fm js (.Tuple es k pos) (gsTup n t) := by
  obtain ⟨u, pu, gu⟩ := h
  refine ⟨?_⟩
  intro ex σ H F w v d w' Q r rv eq kk
  refine WG.of (pg_tup hc pu hn hst) ?_
  cases rv with
  | @tup a vs ds h1 h2 =>
    have eq : (if ds.length = n then t ds w else none) = some w' := eq
    by_cases hl : ds.length = n
    · rw [if_pos hl] at eq
      exact ⟨a, vs, rfl, ex_t r.fh h1, h2.len.trans hl, gu ex σ H F w vs ds w' Q r h2 eq kk⟩
    · rw [if_neg hl] at eq; cases eq
  | _ => cases eq

/-! ### list comprehensions -/
def W0 : WX := fun _ _ _ _ => False
def R.nox {α : Type} : R α → R α
  | .ok a w => .ok a w
  | _ => .stuck
def WTs (X : Cx) (ifs : List Expr) : TT := fun σ H Q => ∀ (pins : List (Addr × Obj)) (s : Shared), Inv X pins σ H s →
  wpAny (model X.prog X.w) X.A (forIn ifs true fun c r => if r = true then do let ok ← isTrue c X.env (eval c X.env); pure (ForInStep.yield ok) else pure (ForInStep.yield r)) (TP X pins σ Q) X.xe s
abbrev STsr (X : Cx) (Wx : WX) (fm : Fm) (ifs : List Expr) (m : W → R Bool) : Prop := ∀ (ex : Exs) (σ : L2.St) (H F : Hp) (w : W) (Q : Bool → Hp → Prop), Rel X.K fm ex σ H F w →
  Fin X Wx fm ex σ H F (fun b _ H' _ => Q b H') (m w) → WTs X ifs σ H Q
structure STs (X : Cx) (Wx : WX) (fm : Fm) (ifs : List Expr) (m : W → R Bool) : Prop where
  run : STsr X Wx fm ifs m
instance {X : Cx} {Wx : WX} {fm : Fm} {ifs : List Expr} {m : W → R Bool} : CoeFun (STs X Wx fm ifs m) (fun _ => STsr X Wx fm ifs m) := ⟨STs.run⟩
def mYes : W → R Bool := fun w => .ok true w
theorem sts_nil : STs X Wx fm [] mYes := ⟨fun ex σ H F w Q r q pins s I => pts_nil.run pins s σ H Q I (q H F Kp.refl (Ex.refl _) r)⟩
theorem sts_one {c : Expr} {m : W → R Bool} (h : STt X Wx fm c m) : STs X Wx fm [c] m := ⟨fun ex σ H F w Q r q pins s I => (pts_one (pt_wt (X := X) (e := c))).run pins s σ H Q I (h ex σ H F w Q r q)⟩
def lcGo (vs : List Nat) (set : D → W → Option W) (mt : W → R Bool) (me : W → R D) : List D → List D → W → R (List D)
  | [], acc, w => .ok acc w
  | d :: ds, acc, w => match set d w with
    | none => .stuck
    | some w1 => (mt w1).nox.bind fun b w2 => if b = true then (me w2).nox.bind fun y w3 => if acc.length < 1000000 then lcGo vs set mt me ds (acc ++ [y]) { w3 with env := wipeE w3.env vs } else .stuck
      else lcGo vs set mt me ds acc { w2 with env := wipeE w2.env vs }
def mLc (vs : List Nat) (mi : W → R (List D)) (set : D → W → Option W) (mt : W → R Bool) (me : W → R D) : W → R (List D) := fun w => (mi w).bind fun ds w1 =>
  (lcGo vs set mt me ds [] { w1 with env := wipeE w1.env vs }).bind fun acc w2 => .ok acc { w2 with env := resE w1.env w2.env vs }
theorem FinF.bindL {r : R (List D)} {q : List D → W → R (List D)} {ex : Exs} {σ : L2.St} {H F : Hp} {Q : VK} (h : FinF X Wx fm ex σ H F Q (r.bind q)) :
    Fin X Wx fm ex σ H F (fun a w' H' F' => Rel X.K fm ex σ H' F' w' ∧ Kp fm.a0 H H' ∧ Ex F F' ∧ FinF X Wx fm ex σ H' F' Q (q a w')) r := FinF.bind h
theorem nox_ok {α : Type} {r : R α} {k : α → W → R (List D)} {P : R (List D) → Prop} (hs : ¬ P .stuck) (h : P (r.nox.bind k)) : ∃ a w, r = .ok a w ∧ P (k a w) := by
  cases r with
  | ok a w => exact ⟨a, w, rfl, h⟩
  | exc c w => exact absurd h hs
  | stuck => exact absurd h hs
def bG (X : Cx) (scope : Scope) (tg : Expr) : TG := fun v σ H Q => ∀ (s : Shared) (H0 : Hp) (C : Addr) (cl : List (Str × Addr)) (fp : List Addr), WG (X.blk s H0 scope (compEnvC scope cl C X.env) fp) tg v σ H Q
def bT (X : Cx) (scope : Scope) (ifs : List Expr) : TT := fun σ H Q => ∀ (s : Shared) (H0 : Hp) (C : Addr) (cl : List (Str × Addr)) (fp : List Addr), WTs (X.blk s H0 scope (compEnvC scope cl C X.env) fp) ifs σ H Q
def bE (X : Cx) (scope : Scope) (elt : Expr) : TE := fun σ H Q => ∀ (s : Shared) (H0 : Hp) (C : Addr) (cl : List (Str × Addr)) (fp : List Addr), WE (X.blk s H0 scope (compEnvC scope cl C X.env) fp) elt σ H Q
theorem tlc_ok {elt tg iter : Expr} {ifs : List Expr} {scope : Scope} {vs : List Nat} {js : List Nat} {mi : W → R (List D)} {set : D → W → Option W} {mt : W → R Bool} {me : W → R D} (hi : SIt X Wx fm tg iter mi)
    (hg : ∀ (s : Shared) (H : Hp) (C : Addr) (cl : List (Str × Addr)) (fp : List Addr), SG (X.blk s H scope (compEnvC scope cl C X.env) fp) fm js tg set) (hj : ∀ j ∈ js, j ∈ vs)
    (ht : ∀ (s : Shared) (H : Hp) (C : Addr) (cl : List (Str × Addr)) (fp : List Addr), STs (X.blk s H scope (compEnvC scope cl C X.env) fp) W0 fm ifs mt)
    (he : ∀ (s : Shared) (H : Hp) (C : Addr) (cl : List (Str × Addr)) (fp : List Addr), SE (X.blk s H scope (compEnvC scope cl C X.env) fp) W0 fm elt me)
    {ex : Exs} {σ : L2.St} {H F : Hp} {w : W} {Q : VK} (r : Rel X.K fm ex σ H F w) (q : FinF X Wx fm ex σ H F Q (mLc vs mi set mt me w)) : tLc (WI X tg iter) (bG X scope tg) (bT X scope ifs) (bE X scope elt) vs σ H Q := by
  refine hi ex σ H F w _ r ((FinF.bind q).imp fun ds w1 H1 F1 ⟨r1, k1, e1, q1⟩ J wk Dl hD => ?_)
  obtain ⟨G, Y, walk, hG, hY⟩ := wk.ex
  have rw1 := r1.wipe vs
  refine lc_it (g := bG X scope tg) (tt := bT X scope ifs) (te := bE X scope elt) (vs := vs) (σ := σ) walk (fun i H' => ∃ F' w' acc, Kp fm.a0 H1 H' ∧ Ex F1 F' ∧ Rel X.K fm ((Dl, acc) :: ex) (L2.wipe σ vs) H' F' w' ∧
      FinF X Wx fm ex σ H1 F1 Q ((lcGo vs set mt me (ds.drop i) acc w').bind fun acc w2 => .ok acc { w2 with env := resE w1.env w2.env vs }))
    ⟨F1, _, [], (Gr.dark r1.fh hD).kp, Ex.refl _, rw1.lay hD .nil, q1⟩ (fun i H' hi' ⟨F', w', acc, a, b, c, d⟩ => hG H' (b.trans c.fh)) (fun i x Ha Hb hi' ⟨F', w', acc, kp, ef, rr, fin⟩ y => ?_) (fun H' ⟨F', w', acc, kp, ef, rr, fin⟩ => ?_)
  · -- one turn
    obtain ⟨F2, d, hd, gr, rv⟩ := hY i Ha F' x Hb hi' ef rr.fh y
    have hdrop : ds.drop i = d :: ds.drop (i + 1) := by
      obtain ⟨hlt, e⟩ := List.getElem?_eq_some_iff.mp hd
      rw [List.drop_eq_getElem_cons hlt, e]
    rw [hdrop] at fin
    unfold lcGo at fin
    cases hset : set d w' with
    | none => rw [hset] at fin; exact (show False from fin).elim
    | some wa =>
      rw [hset] at fin
      have r2 := rr.gr gr
      intro s H0 C cl fp
      refine hg s H0 C cl fp _ _ _ _ _ _ _ _ _ r2 rv hset fun σ2 hl2 ha2 ra => ?_
      have ew : L2.wipe σ2 vs = L2.wipe σ vs := wipe_same (by rw [hl2, wipe_length]) ha2 hj
      refine ⟨ew, ?_⟩
      have fin : FinF X Wx fm ex σ H1 F1 Q (((mt wa).nox.bind fun b w2 => if b = true then (me w2).nox.bind fun y w3 => if acc.length < 1000000 then lcGo vs set mt me (ds.drop (i + 1)) (acc ++ [y]) { w3 with env := wipeE w3.env vs } else .stuck
        else lcGo vs set mt me (ds.drop (i + 1)) acc { w2 with env := wipeE w2.env vs }).bind fun acc w2 => .ok acc { w2 with env := resE w1.env w2.env vs }) := fin
      obtain ⟨b, wb, hmt, fin⟩ := nox_ok (P := fun r => FinF X Wx fm ex σ H1 F1 Q (r.bind fun acc w2 => .ok acc { w2 with env := resE w1.env w2.env vs })) (fun z => z) fin
      intro s2 H02 C2 cl2 fp2
      refine ht s2 H02 C2 cl2 fp2 _ σ2 Hb F2 wa _ ra ?_
      rw [hmt]
      intro Hc Fc kc ec rc
      have kp2 : Kp fm.a0 H1 Hc := (kp.trans gr.kp).trans kc
      have ef2 : Ex F1 Fc := (ef.trans gr.ff).trans ec
      cases b with
      | false =>
        have rn := rc.wipe vs
        rw [ew] at rn
        exact ⟨Fc, _, acc, kp2, ef2, rn, fin⟩
      | true =>
        have fin : FinF X Wx fm ex σ H1 F1 Q (((me wb).nox.bind fun y w3 => if acc.length < 1000000 then lcGo vs set mt me (ds.drop (i + 1)) (acc ++ [y]) { w3 with env := wipeE w3.env vs } else .stuck).bind fun acc w2 => .ok acc { w2 with env := resE w1.env w2.env vs }) := fin
        obtain ⟨z, wc, hme, fin⟩ := nox_ok (P := fun r => FinF X Wx fm ex σ H1 F1 Q (r.bind fun acc w2 => .ok acc { w2 with env := resE w1.env w2.env vs })) (fun z => z) fin
        show bE X scope elt σ2 Hc _
        intro s3 H03 C3 cl3 fp3
        refine he s3 H03 C3 cl3 fp3 _ σ2 Hc Fc wb _ rc ?_
        rw [hme]
        intro Hd Fd kd ed rd v hv
        by_cases hz : acc.length < 1000000
        · rw [if_pos hz] at fin
          obtain ⟨h1, h2, h3, us, h4, h5⟩ := rd.exo _ (List.mem_cons_self ..)
          have h4 : Hd Dl = some (.lst us) := h4
          have h5 : RpAll X.K fm.a0 Fd us acc := h5
          refine ⟨us, h4, line_lt (by rw [h5.len]; omega), ?_⟩
          have rm := rd.mut (h5.app (.one hv))
          have rn := rm.wipe vs
          rw [ew] at rn
          have nd : ∀ b o, H1 b = some o → b ≠ Dl := fun b o e z => by subst z; rw [hD] at e; cases e
          exact ⟨Fd, _, acc ++ [z], fun b o n e => by rw [upd_ne (nd b o e)]; exact kd b o n (kp2 b o n e), ef2.trans ed, rn, fin⟩
        · rw [if_neg hz] at fin
          exact (show False from fin).elim
  · -- the end
    rw [List.drop_eq_nil_of_le (Nat.le_refl _)] at fin
    have rr2 := r1.restore ef rr vs
    rw [resS_wipe] at rr2
    exact fin Dl H' F' kp ef rr2

theorem sf_lc {elt tg iter : Expr} {ifs : List Expr} {scope : Scope} {own : List (Str × Nat)} {pos : Pos} {js : List Nat} {mi : W → R (List D)} {set : D → W → Option W} {mt : W → R Bool} {me : W → R D} (hc : X.calm = true) (hN : X.N.Nodup) (hi : SIt X Wx fm tg iter mi) (ok : BlkOk X.N X.env.scope scope own)
    (hg : ∀ (s : Shared) (H : Hp) (C : Addr) (cl : List (Str × Addr)) (fp : List Addr), SG (X.blk s H scope (compEnvC scope cl C X.env) fp) fm js tg set) (hj : ∀ j ∈ js, j ∈ own.map (·.2))
    (ht : ∀ (s : Shared) (H : Hp) (C : Addr) (cl : List (Str × Addr)) (fp : List Addr), STs (X.blk s H scope (compEnvC scope cl C X.env) fp) W0 fm ifs mt)
    (he : ∀ (s : Shared) (H : Hp) (C : Addr) (cl : List (Str × Addr)) (fp : List Addr), SE (X.blk s H scope (compEnvC scope cl C X.env) fp) W0 fm elt me)
    (hs : ∀ x, foldedSetIterable iter X.env x = pure x := by intro _; rfl) : SF X Wx fm (.ListComp elt [⟨tg, iter, ifs, 0⟩] scope pos) (mLc (own.map (·.2)) mi set mt me) := by
  refine ⟨?_⟩
  intro ex σ H F w Q r q
  exact WE.of (pe_lc (wi := WI X tg iter) (g := bG X scope tg) (tt := bT X scope ifs) (te := bE X scope elt)
    hc hN pi_wi ok (fun s H C cl fp => ⟨fun pins s' σ' H' v u Q' I rv h => h s H C cl fp pins s' u I rv⟩) (fun s H C cl fp => ⟨fun pins s' σ' H' Q' I h => h s H C cl fp pins s' I⟩) (fun s H C cl fp => ⟨fun pins s' σ' H' Q' I h => h s H C cl fp pins s' I⟩) hs) (tlc_ok hi hg hj ht he r q)

/-! ### statements -/
def FinS (X : Cx) (Wx : WX) (fm : Fm) (ex : Exs) (F : Hp) (D : Ends) : RS → Prop
  | .nx w' => ∀ σ' H' F', Ex F F' → Rel X.K fm ex σ' H' F' w' → D.nx σ' H'
  | .brk w' => ∀ σ' H' F', Ex F F' → Rel X.K fm ex σ' H' F' w' → D.bk σ' H'
  | .cnt w' => ∀ σ' H' F', Ex F F' → Rel X.K fm ex σ' H' F' w' → D.ct σ' H'
  | .ret d w' => ∀ v σ' H' F', Ex F F' → Rel X.K fm ex σ' H' F' w' → Rp X.K fm.a0 F' v d → D.rt v H'
  | .exc c w' => ∀ σ' H' F' cls dd, Ex F F' → Rel X.K fm ex σ' H' F' w' → ExcIs X.K X.mg fm.a0 fm.G c cls dd F' H' → Wx cls dd σ' H'
  | .stuck => False
abbrev SStr (X : Cx) (Wx : WX) (fm : Fm) (st : Stmt) (m : W → RS) : Prop := ∀ (ex : Exs) (σ : L2.St) (H F : Hp) (w : W) (D : Ends), Rel X.K fm ex σ H F w → FinS X Wx fm ex F D (m w) → WS X st D σ H
structure SSt (X : Cx) (Wx : WX) (fm : Fm) (st : Stmt) (m : W → RS) : Prop where
  run : SStr X Wx fm st m
instance {X : Cx} {Wx : WX} {fm : Fm} {st : Stmt} {m : W → RS} : CoeFun (SSt X Wx fm st m) (fun _ => SStr X Wx fm st m) := ⟨SSt.run⟩
abbrev SSsr (X : Cx) (Wx : WX) (fm : Fm) (sts : List Stmt) (m : W → RS) : Prop := ∀ (ex : Exs) (σ : L2.St) (H F : Hp) (w : W) (D : Ends), Rel X.K fm ex σ H F w → FinS X Wx fm ex F D (m w) → WSs X sts D σ H
structure SSs (X : Cx) (Wx : WX) (fm : Fm) (sts : List Stmt) (m : W → RS) : Prop where
  run : SSsr X Wx fm sts m
instance {X : Cx} {Wx : WX} {fm : Fm} {sts : List Stmt} {m : W → RS} : CoeFun (SSs X Wx fm sts m) (fun _ => SSsr X Wx fm sts m) := ⟨SSs.run⟩
def RS.bind (r : RS) (k : W → RS) : RS := match r with
  | .nx w => k w
  | r => r
def R.toS {α : Type} (r : R α) (k : α → W → RS) : RS := match r with
  | .ok a w => k a w
  | .exc c w => .exc c w
  | .stuck => .stuck
def oS {α : Type} (o : Option α) (k : α → RS) : RS := match o with
  | some a => k a
  | none => .stuck
@[simp] theorem RS.bind_nx (w : W) (k : W → RS) : (RS.nx w).bind k = k w := Eq.trans rfl rfl
@[simp] theorem RS.bind_ret (d : D) (w : W) (k : W → RS) : (RS.ret d w).bind k = .ret d w := Eq.trans rfl rfl
@[simp] theorem RS.bind_brk (w : W) (k : W → RS) : (RS.brk w).bind k = .brk w := Eq.trans rfl rfl
@[simp] theorem RS.bind_cnt (w : W) (k : W → RS) : (RS.cnt w).bind k = .cnt w := Eq.trans rfl rfl
@[simp] theorem RS.bind_exc (c : Exn) (w : W) (k : W → RS) : (RS.exc c w).bind k = .exc c w := Eq.trans rfl rfl
@[simp] theorem RS.bind_stuck (k : W → RS) : RS.stuck.bind k = .stuck := Eq.trans rfl rfl
@[simp] theorem R.toS_ok {α : Type} (a : α) (w : W) (k : α → W → RS) : (R.ok a w).toS k = k a w := Eq.trans rfl rfl
@[simp] theorem R.toS_exc {α : Type} (c : Exn) (w : W) (k : α → W → RS) : (R.exc c w : R α).toS k = .exc c w := Eq.trans rfl rfl
@[simp] theorem R.toS_stuck {α : Type} (k : α → W → RS) : (R.stuck : R α).toS k = .stuck := Eq.trans rfl rfl
theorem R.bind_congr {α β : Type} {r r' : R α} {k : α → W → R β} (h : r = r') : r.bind k = r'.bind k := by rw [h]
theorem R.toS_congr {α : Type} {r r' : R α} {k : α → W → RS} (h : r = r') : r.toS k = r'.toS k := by rw [h]
theorem RS.bind_congr {r r' : RS} {k : W → RS} (h : r = r') : r.bind k = r'.bind k := by rw [h]
theorem oS_congr {α : Type} {r r' : Option α} {k : α → RS} (h : r = r') : oS r k = oS r' k := by rw [h]
theorem FinS.from {F F' : Hp} {ex : Exs} {D : Ends} {r : RS} (h : FinS X Wx fm ex F D r) (e : Ex F F') : FinS X Wx fm ex F' D r := by
  cases r with
  | nx w => exact fun σ' H' F2 e2 => h σ' H' F2 (e.trans e2)
  | brk w => exact fun σ' H' F2 e2 => h σ' H' F2 (e.trans e2)
  | cnt w => exact fun σ' H' F2 e2 => h σ' H' F2 (e.trans e2)
  | ret d w => exact fun v σ' H' F2 e2 => h v σ' H' F2 (e.trans e2)
  | exc c w => exact fun σ' H' F2 cls dd e2 => h σ' H' F2 cls dd (e.trans e2)
  | stuck => exact h
theorem FinS.ofR {α : Type} {r : R α} {k : α → W → RS} {ex : Exs} {σ : L2.St} {H F : Hp} {D : Ends} (h : FinS X Wx fm ex F D (r.toS k)) :
    Fin X Wx fm ex σ H F (fun a w' H' F' => Rel X.K fm ex σ H' F' w' ∧ Ex F F' ∧ FinS X Wx fm ex F' D (k a w')) r := by
  cases r with
  | ok a w' => exact fun H' F' kp e r => ⟨r, e, FinS.from (r := k a w') h e⟩
  | exc c w' => exact fun H' F' cls dd kp e r x => h σ H' F' cls dd e r x
  | stuck => exact h
theorem FinS.ofF {r : R (List D)} {k : List D → W → RS} {ex : Exs} {σ : L2.St} {H F : Hp} {D : Ends} {Q : VK} (h : FinS X Wx fm ex F D (r.toS k)) (hq : ∀ xs w' p H' F', r = .ok xs w' → Ex F F' → Rel X.K fm ((p, xs) :: ex) σ H' F' w' → FinS X Wx fm ex F' D (k xs w') → Q (.ref p) H') :
    FinF X Wx fm ex σ H F Q r := by
  cases r with
  | ok a w' => exact fun p H' F' kp e r => hq a w' p H' F' rfl e r (FinS.from (r := k a w') h e)
  | exc c w' => exact fun H' F' cls dd kp e r x => h σ H' F' cls dd e r x
  | stuck => exact h
def sNil : W → RS := fun w => .nx w
def sCons (a b : W → RS) : W → RS := fun w => (a w).bind b
theorem sss_nil : SSs X Wx fm [] sNil := ⟨fun ex σ H F w D r q => WSs.of pss_nil (q σ H F (Ex.refl _) r)⟩
theorem sss_cons {st : Stmt} {rest : List Stmt} {a b : W → RS} (h : SSt X Wx fm st a) (g : SSs X Wx fm rest b) : SSs X Wx fm (st :: rest) (sCons a b) := by
  refine ⟨?_⟩
  intro ex σ H F w D r q
  refine WSs.of (pss_cons ps_ws pss_wss) ?_
  show WS X st { D with nx := WSs X rest D } σ H
  refine h ex σ H F w _ r ?_
  revert q
  unfold sCons
  cases a w with
  | nx w1 => exact fun q σ' H' F' e r' => g ex σ' H' F' w1 D r' (FinS.from q e)
  | brk w1 => exact fun q => q
  | cnt w1 => exact fun q => q
  | ret d w1 => exact fun q => q
  | exc c w1 => exact fun q => q
  | stuck => exact fun q => q
theorem ss_pass {pos : Pos} : SSt X Wx fm (.Pass pos) sNil := ⟨fun ex σ H F w D r q => WS.of ps_pass (q σ H F (Ex.refl _) r)⟩
theorem ss_brk {pos : Pos} : SSt X Wx fm (.Break pos) RS.brk := ⟨fun ex σ H F w D r q => WS.of ps_break (q σ H F (Ex.refl _) r)⟩
theorem ss_cnt {pos : Pos} : SSt X Wx fm (.Continue pos) RS.cnt := ⟨fun ex σ H F w D r q => WS.of ps_continue (q σ H F (Ex.refl _) r)⟩
def sSet (i : Nat) (m : W → R D) : W → RS := fun w => (m w).toS fun d w' => .nx { w' with env := w'.env.set i (some (.val d)) }
theorem ss_set {i : Nat} {x : Str} {e : Expr} {pos pos' : Pos} {m : W → R D} (hN : X.N.Nodup) (h : SE X Wx fm e m) (hi : X.N[i]? = some x := by rfl) (hx : Loc X.env.scope x := by first | exact Or.inl rfl | exact Or.inr rfl) (hs : swapsWith e (some (.Name x pos')) pos.line X.env = pure false := by rfl)
    (hf : X.fn x = true ∨ X.env.scope.names.lookup x = some .local := by first | exact .inl rfl | exact .inr rfl | assumption) : SSt X Wx fm (.Assign [.Name x pos'] e pos) (sSet i m) := by
  refine ⟨?_⟩
  intro ex σ H F w D r q
  refine WS.of (ps_set hN hi hx pe_we hs hf) ?_
  show WE X e σ H fun v H1 => D.nx (σ.set i (some v)) H1
  exact h ex σ H F w _ r ((FinS.ofR q).imp fun d w1 H1 F1 ⟨r1, e1, q1⟩ v hv => q1 _ H1 F1 (Ex.refl _) (r1.setVal i hv))
/-- a name is given a new list -/
def sSetF (i : Nat) (m : W → R (List D)) : W → RS := fun w => (m w).toS fun xs w' => .nx { w' with env := w'.env.set i (some (.own xs)) }
theorem ss_setF {i : Nat} {x : Str} {e : Expr} {pos pos' : Pos} {m : W → R (List D)} (hN : X.N.Nodup) (h : SF X Wx fm e m) (hi : X.N[i]? = some x := by rfl) (hx : Loc X.env.scope x := by first | exact Or.inl rfl | exact Or.inr rfl) (hs : swapsWith e (some (.Name x pos')) pos.line X.env = pure false := by rfl)
    (hf : X.fn x = true ∨ X.env.scope.names.lookup x = some .local := by first | exact .inl rfl | exact .inr rfl | assumption) : SSt X Wx fm (.Assign [.Name x pos'] e pos) (sSetF i m) := by
  refine ⟨?_⟩
  intro ex σ H F w D r q
  refine WS.of (ps_set hN hi hx pe_we hs hf) ?_
  show WE X e σ H fun v H1 => D.nx (σ.set i (some v)) H1
  exact h ex σ H F w _ r (FinS.ofF q fun xs w1 p H1 F1 _ e1 r1 q1 => q1 _ H1 F1 (Ex.refl _) (r1.setOwn i))
theorem ss_setLcF {i : Nat} {y : Str} {py : Pos} {elt tg iter : Expr} {ifs : List Expr} {scope : Scope} {own : List (Str × Nat)} {pos spos : Pos} {js : List Nat} {mi : W → R (List D)} {set : D → W → Option W} {mt : W → R Bool} {me : W → R D} (hc : X.calm = true) (hN : X.N.Nodup) (hi : SIt X Wx fm tg iter mi) (ok : BlkOk X.N X.env.scope scope own)
    (hg : ∀ (s : Shared) (H : Hp) (C : Addr) (cl : List (Str × Addr)) (fp : List Addr), SG (X.blk s H scope (compEnvC scope cl C X.env) fp) fm js tg set) (hj : ∀ j ∈ js, j ∈ own.map (·.2))
    (ht : ∀ (s : Shared) (H : Hp) (C : Addr) (cl : List (Str × Addr)) (fp : List Addr), STs (X.blk s H scope (compEnvC scope cl C X.env) fp) W0 fm ifs mt)
    (he : ∀ (s : Shared) (H : Hp) (C : Addr) (cl : List (Str × Addr)) (fp : List Addr), SE (X.blk s H scope (compEnvC scope cl C X.env) fp) W0 fm elt me)
    (hy : X.N[i]? = some y := by rfl) (hyl : X.env.scope.names.lookup y = some .local := by rfl)
    (hsw : swapsWith (.ListComp elt [⟨tg, iter, ifs, 0⟩] scope pos) (some (.Name y py)) spos.line X.env = pure true := by exact sw_true rfl rfl rfl (by decide +kernel))
    (hs : ∀ x, foldedSetIterable iter X.env x = pure x := by intro _; rfl) : SSt X Wx fm (.Assign [.Name y py] (.ListComp elt [⟨tg, iter, ifs, 0⟩] scope pos) spos) (sSetF i (mLc (own.map (·.2)) mi set mt me)) := by
  refine ⟨?_⟩
  intro ex σ H F w D r q
  refine WS.of (ps_setLc (wi := WI X tg iter) (g := bG X scope tg) (tt := bT X scope ifs) (te := bE X scope elt)
    hc hN hy hyl hsw pi_wi ok (fun s H C cl fp => ⟨fun pins s' σ' H' v u Q' I rv h => h s H C cl fp pins s' u I rv⟩) (fun s H C cl fp => ⟨fun pins s' σ' H' Q' I h => h s H C cl fp pins s' I⟩) (fun s H C cl fp => ⟨fun pins s' σ' H' Q' I h => h s H C cl fp pins s' I⟩) hs) ?_
  exact tlc_ok (Q := fun x H1 => gName i x σ H1 D.nx) hi hg hj ht he r (FinS.ofF q fun xs w1 p H1 F1 _ e1 r1 q1 => q1 _ H1 F1 (Ex.refl _) (r1.setOwn i))
/-- a target of any form -/
def sAsg (set : D → W → Option W) (m : W → R D) : W → RS := fun w => (m w).toS fun d w' => oS (set d w') .nx
theorem finS_o {o : Option W} {ex : Exs} {F : Hp} {D : Ends} (h : FinS X Wx fm ex F D (oS o .nx)) : ∃ w', o = some w' ∧ ∀ σ' H' F', Ex F F' → Rel X.K fm ex σ' H' F' w' → D.nx σ' H' := by
  cases o with
  | none => exact (show False from h).elim
  | some w => exact ⟨w, rfl, h⟩
theorem ss_asg {tg e : Expr} {pos : Pos} {js : List Nat} {set : D → W → Option W} {m : W → R D} (hg : SG X fm js tg set) (h : SE X Wx fm e m) (hs : swapsWithSole [tg] e pos.line X.env = pure false := by rfl) (hw : swappedStores [tg] e X.env = pure none := by rfl)
    (h1 : (assignEach [tg] X.env).map (·.2) = [assign tg X.env] := by rfl) : SSt X Wx fm (.Assign [tg] e pos) (sAsg set m) := by
  refine ⟨?_⟩
  intro ex σ H F w D r q
  refine WS.of (ps_asg pe_we pg_wg hs hw h1) ?_
  show WE X e σ H fun v H1 => WG X tg v σ H1 D.nx
  refine h ex σ H F w _ r ((FinS.ofR q).imp fun d w1 H1 F1 ⟨r1, e1, q1⟩ v hv => ?_)
  obtain ⟨w2, hw2, q2⟩ := finS_o q1
  exact hg ex σ H1 F1 w1 v d w2 _ r1 hv hw2 fun σ' _ _ r2 => q2 σ' H1 F1 (Ex.refl _) r2
/-- a, b = x, y -/
def sPar (i j : Nat) (m : W → R (List D)) : W → RS := fun w => (m w).toS fun ds w' => match ds with
  | [d, e] => .nx { w' with env := (w'.env.set i (some (.val d))).set j (some (.val e)) }
  | _ => .stuck
theorem ss_par {i j : Nat} {x y : Str} {a b : Expr} {px py pt pos : Pos} {kt k2 pt2} {m : W → R (List D)} (hc : X.calm = true) (hN : X.N.Nodup) (ha : SAs X Wx fm [a, b] m) (hi : X.N[i]? = some x := by rfl) (hj : X.N[j]? = some y := by rfl) (hij : i ≠ j := by decide)
    (hx : X.env.scope.names.lookup x = some .local := by rfl) (hy : X.env.scope.names.lookup y = some .local := by rfl)
    (hw : swappedStores [.Tuple [.Name x px, .Name y py] kt pt] (.Tuple [a, b] k2 pt2) X.env = pure (some [x, y]) := by rfl)
    (hs : swapsWithSole [.Tuple [.Name x px, .Name y py] kt pt] (.Tuple [a, b] k2 pt2) pos.line X.env = pure false := by rfl) :
    SSt X Wx fm (.Assign [.Tuple [.Name x px, .Name y py] kt pt] (.Tuple [a, b] k2 pt2) pos) (sPar i j m) := by
  refine ⟨?_⟩
  intro ex σ H F w D r q
  refine WS.of (ps_par hc hN hi hj hij hx hy pa_wa hw hs) ?_
  show WA X [a, b] σ H fun vs H1 => ∃ v w, vs = [v, w] ∧ D.nx ((σ.set i (some v)).set j (some w)) H1
  refine ha ex σ H F w _ r ((FinS.ofR q).imp fun ds w1 H1 F1 ⟨r1, e1, q1⟩ vs hv => ?_)
  cases hv with
  | nil => exact (show False from q1).elim
  | @cons v vs d ds h1 h2 =>
    cases h2 with
    | nil => exact (show False from q1).elim
    | @cons u vs e ds h3 h4 =>
      cases h4 with
      | cons _ _ => exact (show False from q1).elim
      | nil => exact ⟨v, u, rfl, q1 _ H1 F1 (Ex.refl _) ((r1.setVal i h1).setVal j h3)⟩
/-- x op= e -/
def sAug (i : Nat) (g : D → D → Option D) (m : W → R D) : W → RS := fun w => match w.env[i]? with
  | some (some (.val x)) => (m w).toS fun y w' => oS (g x y) fun z => .nx { w' with env := w'.env.set i (some (.val z)) }
  | _ => .stuck
theorem ss_aug {i : Nat} {x : Str} {e : Expr} {op : Operator} {pos pos' : Pos} {g : D → D → Option D} {m : W → R D} (hN : X.N.Nodup) (ho : DOp X fm.a0 (inplaceOp op) g) (h : SE X Wx fm e m) (hi : X.N[i]? = some x := by rfl) (hx : Loc X.env.scope x := by first | exact Or.inl rfl | exact Or.inr rfl)
    (hf : X.fn x = true ∨ X.env.scope.names.lookup x = some .local := by first | exact .inl rfl | exact .inr rfl | assumption) : SSt X Wx fm (.AugAssign (.Name x pos') op e pos) (sAug i g m) := by
  refine ⟨?_⟩
  intro ex σ H F w D r q
  refine WS.of (ps_aug hN hi hx pe_we opr_w2 hf) ?_
  revert q
  unfold sAug
  split
  · rename_i d hd
    intro q
    obtain ⟨v, e1, k⟩ := r.slot i _ hd
    refine ⟨v, e1, ?_⟩
    refine h ex σ H F w _ r ((FinS.ofR q).imp fun y w1 H1 F1 ⟨r1, e1, q1⟩ u hu => ?_)
    cases hz : g d y with
    | none => rw [hz] at q1; exact (show False from q1).elim
    | some z =>
      rw [hz] at q1
      exact ho v u d y z H1 F1 _ r1.fh (Rp.ex k e1) hu hz fun t H' F' gr hr => q1 _ H' F' gr.ff ((r1.gr gr).setVal i hr)
  · exact fun q => q.elim
def sExpr (m : W → R D) : W → RS := fun w => (m w).toS fun _ w' => .nx w'
theorem ss_expr {e : Expr} {pos : Pos} {m : W → R D} (h : SE X Wx fm e m) (hs : swapsWith e none pos.line X.env = pure false := by rfl) : SSt X Wx fm (.Expr e pos) (sExpr m) := by
  refine ⟨?_⟩
  intro ex σ H F w D r q
  refine WS.of (ps_expr pe_we hs) ?_
  show WE X e σ H fun _ H1 => D.nx σ H1
  exact h ex σ H F w _ r ((FinS.ofR q).imp fun d w1 H1 F1 ⟨r1, e1, q1⟩ v hv => q1 σ H1 F1 (Ex.refl _) r1)
/-- xs.append(e) -/
def sApp (i : Nat) (m : W → R D) : W → RS := fun w => match w.env[i]? with
  | some (some (.own _)) => (m w).toS fun d w' => match w'.env[i]? with
    | some (some (.own xs)) => if xs.length < 1000000 then .nx { w' with env := w'.env.set i (some (.own (xs ++ [d]))) } else .stuck
    | _ => .stuck
  | _ => .stuck
theorem ss_append {i : Nat} {x : Str} {e : Expr} {p apos cpos pos : Pos} {m : W → R D} (h : SE X Wx fm e m) (hN : X.N[i]? = some x := by rfl) (hv : Vis X.env.scope x := by first | exact Or.inl rfl | exact Or.inr (Or.inl rfl) | exact Or.inr (Or.inr rfl)) (hd : (x == ("__debug__" : Str)) = false := by decide)
    (hcd : (x == ("__classdict__" : Str)) = false := by decide) (hbase : attributeBase (.Name x p) "append" X.env (eval (.Name x p) X.env) = eval (.Name x p) X.env := by rfl)
    (hfew : ((backTo cpos (starEach [e] X.env)).all (fun x => !x.1) && (backToKw cpos (keywordEach [] X.env)).all (fun x => x.1.isSome)
      && decide ([e].length + ([] : List Keyword).length + (if ([] : List Keyword).isEmpty then 0 else 1) < 30)) = true := by rfl)
    (hline : (apos.endLine == cpos.line) = true := by rfl) (hs : starEach [e] X.env = (false, eval e X.env) :: starEach [] X.env := by rfl) (hplain : (backTo cpos (starEach [] X.env)).any (·.1) = false := by rfl)
    (hsw : swapsWith (.Call (.Attribute (.Name x p) "append" apos) [e] [] cpos) none pos.line X.env = pure false := by rfl) :
    SSt X Wx fm (.Expr (.Call (.Attribute (.Name x p) "append" apos) [e] [] cpos) pos) (sApp i m) := by
  refine ⟨?_⟩
  intro ex σ H F w D r q
  refine WS.of (ps_expr (pe_bm PySem.F.plainAttrs_list PySem.F.slot_list_append PySem.F.type_list_append mt_append (pe_var hN hv hd hcd) (pa_cons pe_we pa_nil hs) hbase hfew hline hs hplain) hsw) ?_
  revert q
  unfold sApp
  split
  · rename_i xs0 hx0
    intro q
    obtain ⟨p0, e0, r0⟩ := r.takeOwn hx0
    obtain ⟨a1, a2, a3, vs0, a4, a5⟩ := r0.exo _ (List.mem_cons_self ..)
    refine ⟨.ref p0, e0, .inl ⟨rfl, _, .inl (.inl a4)⟩, ?_⟩
    refine h ex σ H F w _ r ((FinS.ofR q).imp fun d w1 H1 F1 ⟨r1, e1, q1⟩ v hv => ?_)
    split at q1
    · rename_i xs hx
      obtain ⟨p1, e1', r2⟩ := r1.takeOwn hx
      rw [e0] at e1'
      cases e1'
      obtain ⟨b1, b2, b3, vs, b4, b5⟩ := r2.exo _ (List.mem_cons_self ..)
      have b5 : RpAll X.K fm.a0 F1 vs xs := b5
      by_cases hl : xs.length < 1000000
      · rw [if_pos hl] at q1
        refine ⟨p0, vs, v, rfl, rfl, b4, line_lt (by rw [b5.len]; omega), ?_⟩
        have r3 := (r2.mut (b5.app (.one hv))).putOwn e0
        refine q1 σ _ F1 (Ex.refl _) ?_
        simpa using r3
      · rw [if_neg hl] at q1
        exact (show False from q1).elim
    · exact (show False from q1).elim
  · exact fun q => q.elim
/-- target = xs.pop() -/
def sPop (i : Nat) (set : D → W → Option W) : W → RS := fun w => match w.env[i]? with
  | some (some (.own xs)) => oS (xs[xs.length - 1]?) fun d => oS (set d { w with env := w.env.set i (some (.own xs.dropLast)) }) .nx
  | _ => .stuck
theorem ss_pop {i : Nat} {x : Str} {tg : Expr} {p apos cpos pos : Pos} {js : List Nat} {set : D → W → Option W} (hg : SG X fm js tg set) (hN : X.N[i]? = some x := by rfl) (hv : Vis X.env.scope x := by first | exact Or.inl rfl | exact Or.inr (Or.inl rfl) | exact Or.inr (Or.inr rfl)) (hd : (x == ("__debug__" : Str)) = false := by decide)
    (hcd : (x == ("__classdict__" : Str)) = false := by decide) (hbase : attributeBase (.Name x p) "pop" X.env (eval (.Name x p) X.env) = eval (.Name x p) X.env := by rfl) (hline : (apos.endLine == cpos.line) = true := by rfl)
    (hs : swapsWithSole [tg] (.Call (.Attribute (.Name x p) "pop" apos) [] [] cpos) pos.line X.env = pure false := by rfl) (hw : swappedStores [tg] (.Call (.Attribute (.Name x p) "pop" apos) [] [] cpos) X.env = pure none := by rfl)
    (h1 : (assignEach [tg] X.env).map (·.2) = [assign tg X.env] := by rfl) : SSt X Wx fm (.Assign [tg] (.Call (.Attribute (.Name x p) "pop" apos) [] [] cpos) pos) (sPop i set) := by
  refine ⟨?_⟩
  intro ex σ H F w D r q
  refine WS.of (ps_asg (pe_bm0 PySem.F.plainAttrs_list PySem.F.slot_list_pop PySem.F.type_list_pop mt_pop (pe_var hN hv hd hcd) hbase hline) pg_wg hs hw h1) ?_
  revert q
  unfold sPop
  split
  · rename_i xs hx
    intro q
    obtain ⟨p0, e0, r0⟩ := r.takeOwn hx
    obtain ⟨a1, a2, a3, vs, a4, a5⟩ := r0.exo _ (List.mem_cons_self ..)
    have a4 : H p0 = some (.lst vs) := a4
    have a5 : RpAll X.K fm.a0 F vs xs := a5
    cases hd : xs[xs.length - 1]? with
    | none => rw [hd] at q; exact (show False from q).elim
    | some d =>
      rw [hd] at q
      obtain ⟨v, hv, rv⟩ := a5.get hd
      obtain ⟨w2, hw2, q2⟩ := finS_o q
      refine ⟨.ref p0, e0, .inl ⟨rfl, _, .inl (.inl a4)⟩, p0, vs, v, rfl, rfl, a4, by rw [a5.len]; exact hv, ?_⟩
      have r3 := (r0.mut a5.dropLast).putOwn e0
      have r3' : Rel X.K fm ex σ (upd H p0 (.lst vs.dropLast)) F { w with env := w.env.set i (some (.own xs.dropLast)) } := by simpa using r3
      exact hg ex σ _ F _ v d w2 _ r3' rv hw2 fun σ' _ _ r4 => q2 σ' _ F (Ex.refl _) r4
  · exact fun q => q.elim
def sIf (t : W → R Bool) (a b : W → RS) : W → RS := fun w => (t w).toS fun c w' => if c = true then a w' else b w'
theorem ss_if {c : Expr} {as bs : List Stmt} {pos : Pos} {t : W → R Bool} {a b : W → RS} (hc : STt X Wx fm c t) (ha : SSs X Wx fm as a) (hb : SSs X Wx fm bs b) : SSt X Wx fm (.If c as bs pos) (sIf t a b) := by
  refine ⟨?_⟩
  intro ex σ H F w D r q
  refine WS.of (ps_if pt_wt pss_wss pss_wss) ?_
  refine hc ex σ H F w _ r ((FinS.ofR q).imp fun b w1 H1 F1 ⟨r1, e1, q1⟩ => ?_)
  cases b with
  | true => exact ha ex σ H1 F1 w1 D r1 q1
  | false => exact hb ex σ H1 F1 w1 D r1 q1
def sRet (m : W → R D) : W → RS := fun w => (m w).toS fun d w' => .ret d w'
theorem ss_ret {e : Expr} {pos : Pos} {m : W → R D} (h : SE X Wx fm e m) : SSt X Wx fm (.Return (some e) pos) (sRet m) := by
  refine ⟨?_⟩
  intro ex σ H F w D r q
  refine WS.of (ps_ret pe_we) ?_
  exact h ex σ H F w _ r ((FinS.ofR q).imp fun d w1 H1 F1 ⟨r1, e1, q1⟩ v hv => q1 v σ H1 F1 (Ex.refl _) r1 hv)
def sRetN : W → RS := fun w => .ret .non w
theorem ss_retN {pos : Pos} : SSt X Wx fm (.Return none pos) sRetN := ⟨fun ex σ H F w D r q => WS.of ps_retN (q .non σ H F (Ex.refl _) r .non)⟩
/-- for -/
def sForGo (set : D → W → Option W) (body : W → RS) : List D → W → RS
  | [], w => .nx w
  | d :: ds, w => oS (set d w) fun w1 => match body w1 with
    | .nx w2 => sForGo set body ds w2
    | .cnt w2 => sForGo set body ds w2
    | .brk w2 => .nx w2
    | r => r
def sFor (mi : W → R (List D)) (set : D → W → Option W) (body : W → RS) : W → RS := fun w => (mi w).toS fun ds w1 => sForGo set body ds w1
theorem ss_for {tg iter : Expr} {body : List Stmt} {pos : Pos} {js : List Nat} {mi : W → R (List D)} {set : D → W → Option W} {m : W → RS} (hp : PassesOwn (model X.prog X.w) X.A X.env X.xe) (hc : X.calm = true) (hi : SIt X Wx fm tg iter mi) (hg : SG X fm js tg set) (hb : SSs X Wx fm body m)
    (hs : ∀ x, foldedSetIterable iter X.env x = pure x := by intro _; rfl) : SSt X Wx fm (.For tg iter body [] pos) (sFor mi set m) := by
  refine ⟨?_⟩
  intro ex σ H F w D r q
  refine WS.of (ps_for hp hc pi_wi pg_wg pss_wss hs) ?_
  refine hi ex σ H F w _ r ((FinS.ofR q).imp fun ds w1 H1 F1 ⟨r1, e1, q1⟩ J wk => ?_)
  obtain ⟨G, Y, walk, hG, hY⟩ := wk.ex
  refine for_it walk (fun i σ' H' => ∃ F' w', Ex F1 F' ∧ Rel X.K fm ex σ' H' F' w' ∧ FinS X Wx fm ex F1 D (sForGo set m (ds.drop i) w')) ⟨F1, w1, Ex.refl _, r1, q1⟩ (fun i σ' H' _ ⟨F', w', a, b, _⟩ => hG H' (a.trans b.fh)) (fun i x σa Ha Hb hi' ⟨F', w', ef, rr, fin⟩ y => ?_) (fun σ' H' ⟨F', w', ef, rr, fin⟩ => ?_)
  · obtain ⟨F2, d, hd, gr, rv⟩ := hY i Ha F' x Hb hi' ef rr.fh y
    have hdrop : ds.drop i = d :: ds.drop (i + 1) := by
      obtain ⟨hlt, e⟩ := List.getElem?_eq_some_iff.mp hd
      rw [List.drop_eq_getElem_cons hlt, e]
    rw [hdrop] at fin
    unfold sForGo at fin
    cases hset : set d w' with
    | none => rw [hset] at fin; exact (show False from fin).elim
    | some wa =>
      rw [hset] at fin
      have fin : FinS X Wx fm ex F1 D (match m wa with
        | .nx w2 => sForGo set m (ds.drop (i + 1)) w2
        | .cnt w2 => sForGo set m (ds.drop (i + 1)) w2
        | .brk w2 => .nx w2
        | r => r) := fin
      have ef2 : Ex F1 F2 := ef.trans gr.ff
      refine hg ex σa Hb F2 w' x d wa _ (rr.gr gr) rv hset fun σ2 _ _ ra => ?_
      refine hb ex σ2 Hb F2 wa _ ra ?_
      revert fin
      cases m wa with
      | nx w2 => exact fun fin σ' H' F' e r' => ⟨F', w2, ef2.trans e, r', fin⟩
      | cnt w2 => exact fun fin σ' H' F' e r' => ⟨F', w2, ef2.trans e, r', fin⟩
      | brk w2 => exact fun fin => FinS.from (r := .nx w2) fin ef2
      | ret d w2 => exact fun fin => FinS.from (r := .ret d w2) fin ef2
      | exc c w2 => exact fun fin => FinS.from (r := .exc c w2) fin ef2
      | stuck => exact fun fin => fin
  · rw [List.drop_eq_nil_of_le (Nat.le_refl _)] at fin
    exact fin σ' H' F' ef rr
/-- while -/
def sWhGo (t : W → R Bool) (body : W → RS) : Nat → W → RS
  | 0, _ => .stuck
  | n + 1, w => (t w).toS fun c w1 => if c = true then (match body w1 with
    | .nx w2 => sWhGo t body n w2
    | .cnt w2 => sWhGo t body n w2
    | .brk w2 => .nx w2
    | r => r) else .nx w1
def fuel : Nat := 1000000000
def sWhile (t : W → R Bool) (body : W → RS) : W → RS := sWhGo t body fuel
theorem ss_while {c : Expr} {body : List Stmt} {pos : Pos} {t : W → R Bool} {m : W → RS} (hp : PassesOwn (model X.prog X.w) X.A X.env X.xe) (hc : STt X Wx fm c t) (hb : SSs X Wx fm body m) : SSt X Wx fm (.While c body [] pos) (sWhile t m) := by
  refine ⟨?_⟩
  intro ex σ H F w D r q
  refine WS.of (ps_while hp pt_wt pss_wss) ?_
  refine ⟨fun n σ' H' => ∃ F' w', Rel X.K fm ex σ' H' F' w' ∧ FinS X Wx fm ex F' D (sWhGo t m n w'), ⟨fuel, F, w, r, q⟩, ?_⟩
  rintro n σ1 H1 ⟨F1, w1, r1, fin⟩
  cases n with
  | zero => exact (show False from fin).elim
  | succ n =>
    unfold sWhGo at fin
    refine hc ex σ1 H1 F1 w1 _ r1 ((FinS.ofR fin).imp fun b w2 H2 F2 ⟨r2, e2, q2⟩ => ?_)
    cases b with
    | false => exact q2 σ1 H2 F2 (Ex.refl _) r2
    | true =>
      refine ⟨fun σ' H' => ∃ F' w', Rel X.K fm ex σ' H' F' w' ∧ FinS X Wx fm ex F' D (sWhGo t m n w'), fun σ' H' z => ⟨n, Nat.lt_succ_self n, z⟩, ?_⟩
      refine hb ex σ1 H2 F2 w2 _ r2 ?_
      have q2 : FinS X Wx fm ex F2 D (match m w2 with
        | .nx w2 => sWhGo t m n w2
        | .cnt w2 => sWhGo t m n w2
        | .brk w2 => .nx w2
        | r => r) := q2
      revert q2
      cases m w2 with
      | nx w3 => exact fun q2 σ' H' F' e r' => ⟨F', w3, r', FinS.from q2 e⟩
      | cnt w3 => exact fun q2 σ' H' F' e r' => ⟨F', w3, r', FinS.from q2 e⟩
      | brk w3 => exact fun q2 => q2
      | ret d w3 => exact fun q2 => q2
      | exc c w3 => exact fun q2 => q2
      | stuck => exact fun q2 => q2
/-! ### a def -/
def startE (n : Nat) (ds : List D) : Env := ds.map (fun d => some (.val d)) ++ List.replicate (n - ds.length) none
def RS.fin : RS → RF
  | .ret d w => .ok d w.ss
  | .nx w => .ok .non w.ss
  | .exc c w => .exc c w.ss
  | _ => .stuck
def fnM (n : Nat) (m : W → RS) : List D → SS → RF := fun ds ss => (m ⟨startE n ds, ss⟩).fin
theorem rel_start {K : PySem.W.Frag} {a0 c0 : Addr} {F H : Hp} {vs : List V} {ds : List D} {ss : SS} {N : List Str} (hf : Ex F H) (hs : SrcOk a0 c0 F H ss) (hv : RpAll K a0 F vs ds) :
    Rel K ⟨a0, c0, H, F, 0, 0, "", 0⟩ [] (start N vs) H F ⟨startE N.length ds, ss⟩ := by
  have hl := hv.len
  refine ⟨Ex.refl _, hf, fun _ _ _ h => h, fun _ _ h => .inl h, hs, ?_, fun i s h => ?_, fun i j xs ys p h => ?_, fun i j t u xs ys p h => ?_, (fun q hq => nomatch hq), List.nodup_nil, (fun q hq => nomatch hq)⟩
  · show (startE N.length ds).length = (start N vs).length
    unfold startE L2.start
    simp [hl]
  · have h : (startE N.length ds)[i]? = some (some s) := h
    unfold startE at h
    by_cases hi : i < ds.length
    · rw [List.getElem?_append_left (by simpa using hi), List.getElem?_map, List.getElem?_eq_getElem hi] at h
      cases h
      obtain ⟨v, e, k⟩ := hv.get (List.getElem?_eq_getElem hi)
      refine ⟨v, ?_, k⟩
      unfold L2.start
      rw [List.getElem?_append_left (by simpa [hl] using hi), List.getElem?_map, e]
      rfl
    · rw [List.getElem?_append_right (by simpa using hi)] at h
      have := List.mem_of_getElem? h
      rw [List.mem_replicate] at this
      cases this.2
  · have h : (startE N.length ds)[i]? = some (some (.own xs)) := h
    unfold startE at h
    by_cases hi : i < ds.length
    · rw [List.getElem?_append_left (by simpa using hi), List.getElem?_map, List.getElem?_eq_getElem hi] at h
      cases h
    · rw [List.getElem?_append_right (by simpa using hi)] at h
      have := List.mem_of_getElem? h
      rw [List.mem_replicate] at this
      cases this.2
  · have h : (startE N.length ds)[i]? = some (some (.dic t xs)) := h
    unfold startE at h
    by_cases hi : i < ds.length
    · rw [List.getElem?_append_left (by simpa using hi), List.getElem?_map, List.getElem?_eq_getElem hi] at h
      cases h
    · rw [List.getElem?_append_right (by simpa using hi)] at h
      have := List.mem_of_getElem? h
      rw [List.mem_replicate] at this
      cases this.2
end
section
variable {P : Program} {w : World} {K : PySem.W.Frag} {mg : Str → Option Value} {base : Heap}
theorem Rel.gk {fm : Fm} {ex : Exs} {σ : L2.St} {H F : Hp} {w : W} (r : Rel K fm ex σ H F w) : Gk fm.a0 fm.G fm.F0 H F := ⟨r.gh, r.f0, r.fh, r.fg⟩
end
end TD

set_option Elab.async false
set_option linter.all false
set_option maxRecDepth 100000
set_option maxHeartbeats 4000000
namespace TD
open PySem PySem.Spec PyProof.Rows L2

section
variable {X : Cx} {Wx : WX} {fm : Fm} {a0 : Addr}
/-! ### more rules -/
theorem se_gint {x : Str} {i : Int} {pos : Pos} (hm : ∃ t, X.mg x = some (.int i t)) (hg : Gl X x := by rfl) (hd : (x == ("__debug__" : Str)) = false := by decide) : SE X Wx fm (.Name x pos) (mC (.int i)) := by
  obtain ⟨t, hm⟩ := hm
  exact se_glob (v := .int i) hg hm ⟨t, rfl⟩ (fun _ => .int i) hd
def gAddI : D → D → Option D
  | .int a, .int b => some (.int (a + b))
  | _, _ => none
theorem dop_iadd : DOp X a0 (inplaceOp .Add) gAddI := dop_int0 (h' := fun i j => .int (i + j)) iop_add (fun _ _ _ => .int _) fun d e r h => by
  cases d <;> cases e <;> cases h; exact ⟨_, _, rfl, rfl, rfl⟩
theorem dop_isub : DOp X a0 (inplaceOp .Sub) gSub := dop_int0 (h' := fun i j => .int (i - j)) iop_sub (fun _ _ _ => .int _) fun d e r h => by
  cases d <;> cases e <;> cases h; exact ⟨_, _, rfl, rfl, rfl⟩
/-- the parts of the source -/
def mSrc (i j : Nat) : W → R D := fun w => match w.env[i]? with
  | some (some (.val .src)) => match j with
    | 0 => .ok (.lst (w.ss.cells.map .int)) w
    | 1 => .ok (.int w.ss.left) w
    | 2 => .ok (.int w.ss.turn) w
    | _ => .stuck
  | _ => .stuck
theorem se_src {i j : Nat} {x : Str} {p q pos : Pos} {c : Nat} (hN : X.N[i]? = some x := by rfl) (hv : Vis X.env.scope x := by first | exact Or.inl rfl | exact Or.inr (Or.inl rfl) | exact Or.inr (Or.inr rfl)) (hd : (x == ("__debug__" : Str)) = false := by decide)
    (hcd : (x == ("__classdict__" : Str)) = false := by decide) (hs : PlainIx (.Constant (.int (j : Int)) c q) := by exact fun _ _ => rfl) : SE X Wx fm (.Subscript (.Name x p) (.Constant (.int (j : Int)) c q) pos) (mSrc i j) := by
  refine ⟨?_⟩
  intro ex σ H F w Q r fin
  refine WE.of (pe_ix ix_list (pe_var hN hv hd hcd) pe_int hs) ?_
  revert fin
  unfold mSrc
  split
  · rename_i h
    obtain ⟨v, e, k⟩ := r.slot i _ h
    cases k
    have hl : SqL X.K H fm.a0 [.ref fm.c0, .int w.ss.left, .int w.ss.turn] := .inl (.inl r.src.at0)
    split
    · exact fun fin => ⟨_, e, fm.a0, _, _, _, rfl, rfl, hl, atI_nat (j := 0) rfl, fin H F Kp.refl (Ex.refl _) r _ (.lst r.src.cells (.of_ints _))⟩
    · exact fun fin => ⟨_, e, fm.a0, _, _, _, rfl, rfl, hl, atI_nat (j := 1) rfl, fin H F Kp.refl (Ex.refl _) r _ (.int _)⟩
    · exact fun fin => ⟨_, e, fm.a0, _, _, _, rfl, rfl, hl, atI_nat (j := 2) rfl, fin H F Kp.refl (Ex.refl _) r _ (.int _)⟩
    · exact fun fin => fin.elim
  · exact fun fin => fin.elim
def sSrc (i j : Nat) (m : W → R D) : W → RS := fun w => (m w).toS fun d w' => match w'.env[i]?, d, j with
  | some (some (.val .src)), .int v, 1 => if 0 ≤ v then .nx { w' with ss := { w'.ss with left := v } } else .stuck
  | some (some (.val .src)), .int v, 2 => if 0 ≤ v then .nx { w' with ss := { w'.ss with turn := v } } else .stuck
  | _, _, _ => .stuck
theorem Rel.srcSet {K : PySem.W.Frag} {ex : Exs} {σ : L2.St} {H F : Hp} {w : W} (r : Rel K fm ex σ H F w) {l t : Int} (hl : 0 ≤ l) (ht : 0 ≤ t) : Rel K fm ex σ (upd H fm.a0 (.lst [.ref fm.c0, .int l, .int t])) F { w with ss := { w.ss with left := l, turn := t } } := by
  refine r.step (ss' := { w.ss with left := l, turn := t }) ⟨fun b o n e => by rw [upd_ne n]; exact e, Ex.refl _, fun b o e => ?_, fun b o e => .inl e⟩ ⟨r.src.fr, upd_same, r.src.cells, r.src.ne, r.src.nn, hl, ht⟩
  rw [upd_ne (fun z => by subst z; rw [r.src.fr] at e; cases e)]
  exact r.fh b o e
theorem ss_src {i j : Nat} {x : Str} {p q tp pos : Pos} {c : Nat} {e : Expr} {m : W → R D} (h : SE X Wx fm e m) (hN : X.N[i]? = some x := by rfl) (hv : Vis X.env.scope x := by first | exact Or.inl rfl | exact Or.inr (Or.inl rfl) | exact Or.inr (Or.inr rfl)) (hd : (x == ("__debug__" : Str)) = false := by decide)
    (hcd : (x == ("__classdict__" : Str)) = false := by decide)
    (hpg : ∀ {to ti : TE}, PE X (.Name x p) to → PE X (.Constant (.int (j : Int)) c q) ti → PG X (.Subscript (.Name x p) (.Constant (.int (j : Int)) c q) tp) (L2.gSub to ti rSetL) := by exact fun a b => pg_sub a b set_list)
    (hs : swapsWithSole [.Subscript (.Name x p) (.Constant (.int (j : Int)) c q) tp] e pos.line X.env = pure false := by rfl) (hw : swappedStores [.Subscript (.Name x p) (.Constant (.int (j : Int)) c q) tp] e X.env = pure none := by rfl)
    (h1 : (assignEach [.Subscript (.Name x p) (.Constant (.int (j : Int)) c q) tp] X.env).map (·.2) = [assign (.Subscript (.Name x p) (.Constant (.int (j : Int)) c q) tp) X.env] := by rfl) :
    SSt X Wx fm (.Assign [.Subscript (.Name x p) (.Constant (.int (j : Int)) c q) tp] e pos) (sSrc i j m) := by
  refine ⟨?_⟩
  intro ex σ H F w D r fin
  refine WS.of (ps_asg pe_we (hpg (pe_var hN hv hd hcd) pe_int) hs hw h1) ?_
  refine h ex σ H F w _ r ((FinS.ofR fin).imp fun d w1 H1 F1 ⟨r1, e1, q1⟩ v hv => ?_)
  revert q1
  split
  · rename_i k hi _
    intro q1
    obtain ⟨u, e, kk⟩ := r1.slot i _ hi
    cases kk
    cases hv
    by_cases h0 : 0 ≤ k
    · rw [if_pos h0] at q1
      exact ⟨_, e, _, [.ref fm.c0, .int w1.ss.left, .int w1.ss.turn], _, 1, rfl, rfl, r1.src.at0, rfl, q1 σ _ F1 (Ex.refl _) (r1.srcSet h0 r1.src.turn)⟩
    · rw [if_neg h0] at q1
      exact (show False from q1).elim
  · rename_i k hi _
    intro q1
    obtain ⟨u, e, kk⟩ := r1.slot i _ hi
    cases kk
    cases hv
    by_cases h0 : 0 ≤ k
    · rw [if_pos h0] at q1
      exact ⟨_, e, _, [.ref fm.c0, .int w1.ss.left, .int w1.ss.turn], _, 2, rfl, rfl, r1.src.at0, rfl, q1 σ _ F1 (Ex.refl _) (r1.srcSet r1.src.left h0)⟩
    · rw [if_neg h0] at q1
      exact (show False from q1).elim
  · exact fun q1 => q1.elim
/-- xs.extend(t) -/
theorem list_extend_tuple (l : Addr) (items : Array Value) (n : Nat) (b : Addr) (items2 : Array Value) (n2 : Nat) (dd : Option Addr) (sl : Array (Option Value)) (hs0 : ¬(!items.isEmpty && Builtin.List.listTooLong (items.size + items2.size)) = true) (hs1 : items.size ≤ sizeLine) (hs2 : items.size + items2.size ≤ sizeLine + 1) :
    Meets (Builtin.«list.extend» ⟨[.ref l, .ref b], []⟩) (fun _ R s => s.heap.get? l = some { cls := .type "list", dict := none, data := .seq items n, slots := #[] } ∧ s.heap.get? b = some { cls := .type "tuple", dict := dd, data := .seq items2 n2, slots := sl } ∧ R (.ok (.ret Value.none)) { s with heap := s.heap.update l (Obj.mapSeq fun x => x ++ items2), toks := s.toks }) :=
  .of_wp fun prog w A R s h => by
    obtain ⟨hp, g, d, tk, os⟩ := s; obtain ⟨hl, hb, h⟩ := h; have f1 := PySem.AutoSeq1.idx_int; have f2 := PySem.AutoSeq1.sub_tuple_tuple; have f3 := PySem.AutoSeq1.sub_list_list; have f4 := PySem.AutoSeq1.sub_tuple_list; have f5 := PySem.AutoSeq1.sub_list_tuple;
    have hz' : (items ++ items2).size ≤ sizeLine + 1 := by rw [Array.size_append]; exact hs2
    wp_walk using (wpAny_updateSeq hl rfl (hz := hs1) (_hz' := hz')), wpAny_loadPart' hl, wpAny_loadPart' hb; exact ⟨_, rfl, h⟩
def rExtendT (K : PySem.W.Frag) : V → List V → Hp → VK → Prop := fun x vs H Q => ∃ l b xs zs, x = .ref l ∧ vs = [.ref b] ∧ H l = some (.lst xs) ∧ (SqT K H b zs ∨ H b = some (.lst zs)) ∧ xs.length + zs.length ≤ sizeLine ∧ Q .non (upd H l (.lst (xs ++ zs)))
theorem mt_extendT : MtR X "list.extend" (rExtendT X.K) := by
  intro pins s σ H x vs v us Q I rx rv h
  obtain ⟨l, b, xs, zs, rfl, rfl, hH, hB, hz, q⟩ := h
  rcases hB with hB | hB
  · cases rx
    obtain ⟨u, rfl, ru⟩ := rv.one
    cases ru
    obtain ⟨z, its, n, r, hl, e⟩ := I.lstM hH
    obtain ⟨its2, r2, ⟨o, e2, hc, n2, hd⟩, hz2⟩ := I.tuple hB
    obtain ⟨cls, dd, dt, sl⟩ := o
    simp only at hc hd
    subst hc hd
    have l2 : zs.length = its2.length := r2.length
    have hsz : its.toArray.size + its2.toArray.size ≤ sizeLine := by rw [List.size_toArray, List.size_toArray]; omega
    have hlong : ¬ (!its.toArray.isEmpty && Builtin.List.listTooLong (its.toArray.size + its2.toArray.size)) = true := by
      rw [notLongL hsz, Bool.and_false]
      exact Bool.false_ne_true
    refine call_meets F.slot_list_extend ⟨_, e, rfl⟩ F.entry_list_extend (F.args_list_extend_2 _ _)
      (list_extend_tuple l its.toArray n b its2.toArray n2 dd sl hlong (by rw [List.size_toArray]; omega) (by omega)) ⟨e, e2, ?_⟩
    refine ⟨.non, _, I.lset (its' := its ++ its2) hH e (by simp) (r.append r2) ?_, rfl, q⟩
    rw [List.length_append]
    omega
  · exact mt_extend pins s σ H _ _ v us Q I rx rv ⟨l, b, xs, zs, rfl, rfl, hH, hB, hz, q⟩
def sExt (i : Nat) (m : W → R D) : W → RS := fun w => match w.env[i]? with
  | some (some (.own _)) => (m w).toS fun d w' => match w'.env[i]?, d.seq? with
    | some (some (.own xs)), some ys => if xs.length + ys.length ≤ 1000000 then .nx { w' with env := w'.env.set i (some (.own (xs ++ ys))) } else .stuck
    | _, _ => .stuck
  | _ => .stuck
theorem ss_extend {i : Nat} {x : Str} {e : Expr} {p apos cpos pos : Pos} {m : W → R D} (h : SE X Wx fm e m) (hN : X.N[i]? = some x := by rfl) (hv : Vis X.env.scope x := by first | exact Or.inl rfl | exact Or.inr (Or.inl rfl) | exact Or.inr (Or.inr rfl)) (hd : (x == ("__debug__" : Str)) = false := by decide)
    (hcd : (x == ("__classdict__" : Str)) = false := by decide) (hbase : attributeBase (.Name x p) "extend" X.env (eval (.Name x p) X.env) = eval (.Name x p) X.env := by rfl)
    (hfew : ((backTo cpos (starEach [e] X.env)).all (fun x => !x.1) && (backToKw cpos (keywordEach [] X.env)).all (fun x => x.1.isSome)
      && decide ([e].length + ([] : List Keyword).length + (if ([] : List Keyword).isEmpty then 0 else 1) < 30)) = true := by rfl)
    (hline : (apos.endLine == cpos.line) = true := by rfl) (hs : starEach [e] X.env = (false, eval e X.env) :: starEach [] X.env := by rfl) (hplain : (backTo cpos (starEach [] X.env)).any (·.1) = false := by rfl)
    (hsw : swapsWith (.Call (.Attribute (.Name x p) "extend" apos) [e] [] cpos) none pos.line X.env = pure false := by rfl) :
    SSt X Wx fm (.Expr (.Call (.Attribute (.Name x p) "extend" apos) [e] [] cpos) pos) (sExt i m) := by
  refine ⟨?_⟩
  intro ex σ H F w D r q
  refine WS.of (ps_expr (pe_bm PySem.F.plainAttrs_list PySem.F.slot_list_extend PySem.F.type_list_extend mt_extendT (pe_var hN hv hd hcd) (pa_cons pe_we pa_nil hs) hbase hfew hline hs hplain) hsw) ?_
  revert q
  unfold sExt
  split
  · rename_i xs0 hx0
    intro q
    obtain ⟨p0, e0, r0⟩ := r.takeOwn hx0
    obtain ⟨a1, a2, a3, vs0, a4, a5⟩ := r0.exo _ (List.mem_cons_self ..)
    refine ⟨.ref p0, e0, .inl ⟨rfl, _, .inl (.inl a4)⟩, ?_⟩
    refine h ex σ H F w _ r ((FinS.ofR q).imp fun d w1 H1 F1 ⟨r1, e1, q1⟩ v hv => ?_)
    split at q1
    · rename_i xs ys hx hy
      obtain ⟨p1, e1', r2⟩ := r1.takeOwn hx
      rw [e0] at e1'
      cases e1'
      obtain ⟨b1, b2, b3, vs, b4, b5⟩ := r2.exo _ (List.mem_cons_self ..)
      have b5 : RpAll X.K fm.a0 F1 vs xs := b5
      by_cases hl : xs.length + ys.length ≤ 1000000
      · rw [if_pos hl] at q1
        cases hv with
        | @tup pb us l h1 h2 =>
          cases hy
          refine ⟨p0, pb, vs, us, rfl, rfl, b4, .inl (ex_t r1.fh h1), line_of (by rw [b5.len, h2.len]; exact hl), ?_⟩
          have r3 := (r2.mut (b5.app h2)).putOwn e0
          exact q1 σ _ F1 (Ex.refl _) (by simpa using r3)
        | @lst pb us l h1 h2 =>
          cases hy
          refine ⟨p0, pb, vs, us, rfl, rfl, b4, .inr (r1.fh _ _ h1), line_of (by rw [b5.len, h2.len]; exact hl), ?_⟩
          have r3 := (r2.mut (b5.app h2)).putOwn e0
          exact q1 σ _ F1 (Ex.refl _) (by simpa using r3)
        | _ => cases hy
      · rw [if_neg hl] at q1
        exact (show False from q1).elim
    · exact (show False from q1).elim
  · exact fun q => q.elim
end
section
variable {P : Program} {w : World} {K : PySem.W.Frag} {mg : Str → Option Value} {base : Heap}
theorem tk_of {N : List Str} {qual : Str} {scope : Scope} {f : Addr} {cd : Value} {A : Around} {outer : List PySem.Env} {s : Shared} {H : Hp} {E : XK} : Takes (cxOf (L2.CX P w) P w K mg base N qual scope f cd A outer s H E) (fun c d _ H => E c d H) := takes_of rfl rfl rfl rfl
theorem po_of {N : List Str} {qual : Str} {scope : Scope} {f : Addr} {cd : Value} {A : Around} {outer : List PySem.Env} {s : Shared} {H : Hp} {E : XK} :
    PassesOwn (model (cxOf (L2.CX P w) P w K mg base N qual scope f cd A outer s H E).prog (cxOf (L2.CX P w) P w K mg base N qual scope f cd A outer s H E).w) (cxOf (L2.CX P w) P w K mg base N qual scope f cd A outer s H E).A (cxOf (L2.CX P w) P w K mg base N qual scope f cd A outer s H E).env (cxOf (L2.CX P w) P w K mg base N qual scope f cd A outer s H E).xe := passes_of rfl
/-- THE RULE for a def -/
theorem fn_td {x qual : Str} {params : Arguments} {body : List Stmt} {scope : Scope} {f : Addr} {fd : FuncData} {N ps : List Str} {k : Nat} {m : W → RS} (F : FunD K x qual params body scope [] [] f fd) (S : FnScope N ps scope)
    (hb : ∀ (cdv : Value) (A : Around) (outer : List PySem.Env) (s : Shared) (H : Hp) (E : XK) (fm : Fm), Room k (A.deeper (envOfC qual scope s.heap.objs.size f cdv)) → SSs (cxOf (L2.CX P w) P w K mg base N qual scope f cdv A outer s H E) (fun c d _ H => E c d H) fm body m) :
    FnOk P w K mg base (L2.CX P w) (k + 1) f fd ps (spM K mg ps.length (fnM N.length m)) := by
  refine F.ok S (fun vs H Q E h => h.choose_spec.choose_spec.choose_spec.choose_spec.choose_spec.1) (fun cdv A outer s H vs Q E hr h => ?_)
  obtain ⟨a0, c0, F0, ds, ss, hl, hf, hs, hv, q⟩ := h
  refine ⟨_, pss_wss, ?_⟩
  refine hb cdv A outer s H E ⟨a0, c0, H, F0, 0, 0, "", 0⟩ hr [] _ H F0 ⟨startE N.length ds, ss⟩ _ (rel_start hf hs hv) ?_
  revert q
  unfold fnM
  cases m ⟨startE N.length ds, ss⟩ with
  | nx w1 => exact fun q σ' H' F' e r => q .non H' F' r.gk r.src .non
  | ret d w1 => exact fun q v σ' H' F' e r k => q v H' F' r.gk r.src k
  | exc c w1 => exact fun q σ' H' F' cls dd e r k => q H' F' cls dd r.gk r.src k
  | brk w1 => exact fun q => q.elim
  | cnt w1 => exact fun q => q.elim
  | stuck => exact fun q => q
theorem fn_stuck {x qual : Str} {params : Arguments} {body : List Stmt} {scope : Scope} {f : Addr} {fd : FuncData} {N ps : List Str} {k : Nat} (F : FunD K x qual params body scope [] [] f fd) (S : FnScope N ps scope) :
    FnOk P w K mg base (L2.CX P w) (k + 1) f fd ps (spM K mg ps.length (fun _ _ => .stuck)) :=
  F.ok S (fun vs H Q E h => h.choose_spec.choose_spec.choose_spec.choose_spec.choose_spec.1) (fun cdv A outer s H vs Q E hr h => by
    obtain ⟨a0, c0, F0, ds, ss, hl, hf, hs, hv, q⟩ := h
    exact (show False from q).elim)
end
end TD
namespace TD
open PySem PySem.Spec PySem.Calls PyProof.Rows L2
section
variable {prog : Program} {w : World} {A : Around} {s : Shared}
theorem adjust_rev (n : Nat) : Builtin.Slice.sliceAdjust none none (-1) (n : Int) = ((n : Int) - 1, -1) := by
  simp [Builtin.Slice.sliceAdjust]
theorem places_rev (n : Nat) : Builtin.Slice.slicePlaces ((n : Int) - 1) (-1) (-1) = n := by
  unfold Builtin.Slice.slicePlaces
  have h1 : ¬ ((-1 : Int) > 0) := by omega
  simp only [h1, if_false]
  rw [show (- -1 : Int) = 1 by decide, Int.ediv_one]
  split <;> omega
theorem pick_rev {α : Type} (xs : Array α) : ((List.range xs.size).filterMap fun (m : Nat) => xs[((((xs.size : Nat) : Int) - 1) + (m : Int) * (-1)).toNat]?).toArray = xs.toList.reverse.toArray := by
  have e : (List.range xs.size).filterMap (fun (m : Nat) => xs[((((xs.size : Nat) : Int) - 1) + (m : Int) * (-1)).toNat]?) = ((List.range xs.size).map fun k => xs.size - 1 - k).filterMap (xs[·]?) := by
    rw [List.filterMap_map]
    congr 1
    funext m
    show _ = xs[xs.size - 1 - m]?
    rw [show ((((xs.size : Nat) : Int) - 1) + (m : Int) * (-1)).toNat = xs.size - 1 - m by omega]
  rw [e, PySem.W.krv_range, List.filterMap_reverse, PySem.W.krv_all]
theorem sliceApplied_rev {sl : Addr} {vl vu vs : Value} {n : Nat} {Q : Int × Int × Nat → Shared → Prop} (hs : s.heap.IsSliceOf sl vl vu vs) (pl : IsPart vl none) (pu : IsPart vu none) (ps : IsPart vs (some (-1)))
    (h : Q ((n : Int) - 1, -1, n) s) : wpAny (model prog w) A (Builtin.Slice.sliceApplied (.ref sl) (pure (n : Int))) Q E s := by
  obtain ⟨os, hos, hcs, hds⟩ := id hs
  unfold Builtin.Slice.sliceApplied Builtin.Slice.sliceFields
  refine wpAny_bind (wpAny_bind (wpAny_field hos hds (x := vl) rfl (wpAny_bind (wpAny_field hos hds (x := vu) rfl (wpAny_bind (wpAny_field hos hds (x := vs) rfl (wpAny_pure ?_)))))))
  refine wpAny_bind (HT.slicePart_ ps ?_)
  show wpAny _ _ (if ((-1 : Int) == 0) = true then _ else _) _ _ s
  rw [if_neg (by decide)]
  refine wpAny_bind (HT.slicePart_ pl (wpAny_bind (HT.slicePart_ pu (wpAny_bind (wpAny_pure ?_)))))
  show wpAny _ _ (match Builtin.Slice.sliceAdjust none none (-1) (n : Int) with | (lo, hi) => pure (lo, (-1 : Int), Builtin.Slice.slicePlaces lo hi (-1))) _ _ s
  rw [adjust_rev n]
  show wpAny _ _ (pure ((n : Int) - 1, (-1 : Int), Builtin.Slice.slicePlaces ((n : Int) - 1) (-1) (-1))) _ _ s
  rw [places_rev]
  exact wpAny_pure h
theorem getItem_tuple_rev {t sl : Addr} {items : Array Value} {vl vu vs : Value} {Q : Value → Shared → Prop} (ht : IsTup s.heap t items) (hs : s.heap.IsSliceOf sl vl vu vs) (pl : IsPart vl none) (pu : IsPart vu none) (ps : IsPart vs (some (-1)))
    (h : Q (.ref s.heap.objs.size) { s with heap := s.heap.push { cls := .type "tuple", data := .seq items.toList.reverse.toArray } })
    (hsz : items.size ≤ sizeLine) : wpAny (model prog w) A (getItem (.ref t) (.ref sl)) Q E s := by
  have htake : sizeOk (.seq items.toList.reverse.toArray) := by
    show items.toList.reverse.toArray.size ≤ sizeLine
    rw [List.size_toArray, List.length_reverse, Array.length_toList]
    exact hsz
  obtain ⟨os, hos, hcs, hds⟩ := id hs
  have hTs : s.TypeIs (.ref sl) "slice" := ⟨os, hos, hcs⟩
  unfold getItem
  try with_reducible refine wpAny_holding ?_
  first | refine wpAny_bind (wpAny_pure ?_) | skip
  refine wpAny_bind (wpAny_sequenceKey ht.typeIs (by decide) ?_)
  refine wpAny_bind (wpAny_callSpecial?_slot (name := Str.ofString "__getitem__") ht.typeIs PyProof.Rows.slot_tuple_getitem
    (wpAny_call_entry PyProof.Rows.slot_tuple_getitem ht.typeIs entry_tuple_getitem ?_ (args_tuple_getitem _ _)))
  show wpAny _ _ (Builtin.Tuple.tupleItemsOf (.ref t) >>= _) _ _ s
  refine wpAny_bind (tupleItemsOf_ ht ?_)
  refine wpAny_bind (wpAny_typeOf hTs ?_)
  rw [if_pos (by decide)]
  refine wpAny_bind (sliceApplied_rev hs pl pu ps ?_)
  have hno : ¬ ((((items.size : Nat) : Int) - 1 == 0 && (-1 : Int) == 1 && items.size == items.size) = true) := by
    intro q
    rw [Bool.and_eq_true, Bool.and_eq_true] at q
    exact absurd q.1.2 (by decide)
  show wpAny _ _ (if (((items.size : Nat) : Int) - 1 == 0 && (-1 : Int) == 1 && items.size == items.size) = true then _ else _) _ _ s
  rw [if_neg hno, pick_rev]
  first
    | exact wpAny_bind (m := Builtin.Tuple.tupleExact _) (wpAny_newObj_type (wpAny_pure ⟨_, rfl, wpAny_pure h⟩) htake)
    | exact wpAny_bind (m := Builtin.Tuple.tupleExact _) (wpAny_newObj_type (wpAny_bind (wpAny_pure (wpAny_pure ⟨_, rfl, wpAny_pure h⟩))) htake)
    | exact wpAny_bind (wpAny_bind (m := Builtin.Tuple.tupleExact _) (wpAny_newObj_type (wpAny_pure (wpAny_pure ⟨_, rfl, wpAny_pure h⟩)) htake))
    | exact wpAny_bind (wpAny_bind (m := Builtin.Tuple.tupleExact _) (wpAny_newObj_type (wpAny_pure ⟨_, rfl, wpAny_pure h⟩) htake))
end
section
variable {X : Cx} {Wx : WX} {fm : Fm}
def tRevT (K : PySem.W.Frag) (te : TE) : TE := fun σ H Q => te σ H fun x H1 => ∃ a xs, x = .ref a ∧ SqT K H1 a xs ∧ ∀ p, H1 p = none → Q (.ref p) (upd H1 p (.tup xs.reverse))
theorem pe_revT {e : Expr} {te : TE} {k : Nat} {p1 p2 p3 pos : Pos} (he : PE X e te) : PE X (.Subscript e (.Slice none none (some (.UnaryOp .USub (.Constant (.int 1) k p1) p2)) p3) pos) (tRevT X.K te) := by
  refine ⟨fun pins s σ H Q I h => ?_⟩
  refine Subscript_ (thn (he.run pins s σ H _ I h) fun v s1 ⟨x, H1, I1, r1, q1⟩ => ?_)
  obtain ⟨a, xs, ex, hx, q⟩ := q1
  subst ex
  cases r1
  have hst : PO X (some (.UnaryOp .USub (.Constant (.int 1) k p1) p2)) (tPart (tUn (rU fun i => .int (-i)) (tC (.int 1)))) := po_some (pe_un un_neg pe_int)
  refine wpAny_Slice (thn (po_none.run pins s1 σ H1 (fun o H2 => o = none ∧ H2 = H1) I1 ⟨rfl, rfl⟩) fun vl s2 ⟨l, H2, I2, pl, el, e2⟩ => ?_)
  subst el e2
  refine thn (po_none.run pins s2 σ H2 (fun o H3 => o = none ∧ H3 = H2) I2 ⟨rfl, rfl⟩) fun vu s3 ⟨u, H3, I3, pu, eu, e3⟩ => ?_
  subst eu e3
  refine thn (hst.run pins s3 σ H3 (fun o H4 => o = some (-1) ∧ H4 = H3) I3 ⟨1, rfl, -1, rfl, rfl, rfl⟩) fun vs s4 ⟨o, H4, I4, ps, eo, e4⟩ => ?_
  subst eo e4
  have I5 : Inv X pins σ H4 { s4 with heap := s4.heap.push { cls := .type "slice", data := .fields #[vl, vu, vs] } } := I4.kept (t' := s4.toks) fun b ob q => Heap.get?_push_of_some _ q
  obtain ⟨its, r, ht, hz⟩ := I5.tuple hx
  have hlen : its.toArray.size = xs.length := by rw [List.size_toArray]; exact r.length.symm
  show wpAny (model X.prog X.w) X.A (subscriptTail e (.Slice none none (some (.UnaryOp .USub (.Constant (.int 1) k p1) p2)) p3) (.ref a) (.ref s4.heap.objs.size)) (EP X pins σ Q) X.xe { s4 with heap := s4.heap.push { cls := .type "slice", data := .fields #[vl, vu, vs] } }
  refine tail_any (ops := [.ref a, .ref s4.heap.objs.size]) ht.typeIs (PyProof.Rows.slot_tuple_getitem.lookup) ?_ (by with_unfolding_all rfl)
  refine getItem_tuple_rev ht (Heap.IsSliceOf.new _ vl vu vs) pl pu ps ?_ (by rw [hlen]; exact hz)
  refine ⟨.ref _, _, I5.laid (t' := s4.toks) (o := .tup xs.reverse) (fun b ob q => Heap.get?_push_of_some _ q) (Nat.le_refl _) ?_, rfl, q _ (I5.hok.fresh (Nat.le_refl _))⟩
  exact ⟨by rw [List.length_reverse]; exact hz, _, r.reverse, IsTup.new _ _⟩
def mRevT (m : W → R D) : W → R D := fun w => (m w).bind fun d w1 => R.lift (d.t?.map fun l => .tup l.reverse) w1
theorem se_revT {e : Expr} {k : Nat} {p1 p2 p3 pos : Pos} {m : W → R D} (h : SE X Wx fm e m) : SE X Wx fm (.Subscript e (.Slice none none (some (.UnaryOp .USub (.Constant (.int 1) k p1) p2)) p3) pos) (mRevT m) := by
  refine ⟨?_⟩
  intro ex σ H F w Q r q
  refine WE.of (pe_revT pe_we) ?_
  refine h ex σ H F w _ r ((Fin.bind q).imp fun d w1 H1 F1 ⟨r1, k1, e1, q1⟩ v hv => ?_)
  cases hv with
  | @tup p0 vs l h1 h2 =>
    refine ⟨_, _, rfl, ex_t r1.fh h1, fun p' hp => ?_⟩
    have g : Gr H1 F1 (upd H1 p' (.tup vs.reverse)) (upd F1 p' (.tup vs.reverse)) := Gr.new r1.fh hp
    exact q1 _ _ g.kp g.ff (r1.gr g) _ (.tup (.inl (.inl upd_same)) (h2.rev.ex g.ff))
  | _ => exact (show False from q1).elim
end
section
variable {X : Cx} {Wx : WX} {fm : Fm}
/-- x[k] of a list that is being built: it stays so -/
def mIxO (i : Nat) (m : W → R D) : W → R D := fun w => match w.env[i]? with
  | some (some (.own _)) => (m w).bind fun k w1 => match w1.env[i]? with
    | some (some (.own xs)) => R.lift (gIx (.lst xs) k) w1
    | _ => .stuck
  | _ => mBin gIx (mVar i) m w
theorem se_ixO {i : Nat} {x : Str} {b : Expr} {p pos : Pos} {m : W → R D} (hb : SE X Wx fm b m) (hN : X.N[i]? = some x := by rfl) (hv : Vis X.env.scope x := by first | exact Or.inl rfl | exact Or.inr (Or.inl rfl) | exact Or.inr (Or.inr rfl)) (hd : (x == ("__debug__" : Str)) = false := by decide)
    (hcd : (x == ("__classdict__" : Str)) = false := by decide) (hs : PlainIx b := by exact fun _ _ => rfl) : SE X Wx fm (.Subscript (.Name x p) b pos) (mIxO i m) := by
  refine ⟨?_⟩
  intro ex σ H F w Q r fin
  revert fin
  unfold mIxO
  split
  · rename_i xs0 hx0
    intro fin
    refine WE.of (pe_ix ix_list (pe_var hN hv hd hcd) pe_we hs) ?_
    obtain ⟨p0, e0, r0⟩ := r.takeOwn hx0
    refine ⟨.ref p0, e0, ?_⟩
    refine hb ex σ H F w _ r ((Fin.bind fin).imp fun k w1 H1 F1 ⟨r1, k1, e1, q1⟩ u hu => ?_)
    split at q1
    · rename_i xs hx
      obtain ⟨p1, e1', r2⟩ := r1.takeOwn hx
      rw [e0] at e1'
      cases e1'
      obtain ⟨b1, b2, b3, vs, b4, b5⟩ := r2.exo _ (List.mem_cons_self ..)
      have b5 : RpAll X.K fm.a0 F1 vs xs := b5
      obtain ⟨z, hz, q3⟩ := q1.lift
      cases hu with
      | int j =>
        obtain ⟨t, ht, rt⟩ := rp_atI b5 (show atI xs j = some z from hz)
        exact ⟨_, _, _, _, rfl, rfl, .inl (.inl b4), ht, q3 H1 F1 Kp.refl (Ex.refl _) r1 t rt⟩
      | _ => cases hz
    · exact (show False from q1).elim
  · intro fin
    exact se_ix (se_var hN hv hd hcd) hb hs ex σ H F w Q r fin
end
end TD

set_option Elab.async false
set_option linter.all false
set_option maxRecDepth 100000
set_option maxHeartbeats 4000000
namespace TD
open PySem PySem.Spec PyProof.Rows L2
/-! ### how the mirrors are reckoned -/
section
variable {env : Env} {ss : SS} {w : W}
@[simp] theorem mVar_ap (i : Nat) : mVar i ⟨env, ss⟩ = match env[i]? with
  | some (some (.val d)) => .ok d ⟨env, ss⟩
  | some (some (.own xs)) => .ok (.lst xs) ⟨env.set i (some (.val (.lst xs))), ss⟩
  | _ => .stuck := Eq.trans rfl rfl
@[simp] theorem mC_ap (d : D) : mC d w = .ok d w := Eq.trans rfl rfl
@[simp] theorem mBin_ap (g : D → D → Option D) (a b : W → R D) : mBin g a b w = (a w).bind fun x w1 => (b w1).bind fun y w2 => R.lift (g x y) w2 := Eq.trans rfl rfl
@[simp] theorem mChain_ap (g g' : D → D → Option D) (a b c : W → R D) : mChain g g' a b c w = (a w).bind fun x w1 => (b w1).bind fun y w2 => (R.lift ((g x y).bind D.b?) w2).bind fun k w3 => if k = true then (c w3).bind fun z w4 => R.lift (g' y z) w4 else .ok (.bl false) w3 := Eq.trans rfl rfl
@[simp] theorem mUn_ap (g : D → Option D) (a : W → R D) : mUn g a w = (a w).bind fun x w1 => R.lift (g x) w1 := Eq.trans rfl rfl
@[simp] theorem mIxO_ap (i : Nat) (m : W → R D) : mIxO i m ⟨env, ss⟩ = match env[i]? with
  | some (some (.own _)) => (m ⟨env, ss⟩).bind fun k w1 => match w1.env[i]? with
    | some (some (.own xs)) => R.lift (gIx (.lst xs) k) w1
    | _ => .stuck
  | _ => mBin gIx (mVar i) m ⟨env, ss⟩ := Eq.trans rfl rfl
@[simp] theorem mTru_ap (a : W → R D) : mTru a w = (a w).bind fun x w1 => R.lift x.tru w1 := Eq.trans rfl rfl
@[simp] theorem mB_ap (a : W → R D) : mB a w = (a w).bind fun x w1 => R.lift x.b? w1 := Eq.trans rfl rfl
@[simp] theorem mNotT_ap (a : W → R Bool) : mNotT a w = (a w).bind fun b w1 => .ok (!b) w1 := Eq.trans rfl rfl
@[simp] theorem mAndT_ap (a b : W → R Bool) : mAndT a b w = (a w).bind fun c w1 => if c = true then b w1 else .ok false w1 := Eq.trans rfl rfl
@[simp] theorem mOrT_ap (a b : W → R Bool) : mOrT a b w = (a w).bind fun c w1 => if c = true then .ok true w1 else b w1 := Eq.trans rfl rfl
@[simp] theorem mAndV_ap (a b : W → R D) : mAndV a b w = (a w).bind fun d w1 => (R.lift d.b? w1).bind fun c w2 => if c = true then b w2 else .ok (.bl false) w2 := Eq.trans rfl rfl
@[simp] theorem mOrV_ap (a b : W → R D) : mOrV a b w = (a w).bind fun d w1 => (R.lift d.b? w1).bind fun c w2 => if c = true then .ok (.bl true) w2 else b w2 := Eq.trans rfl rfl
@[simp] theorem mNotV_ap (a : W → R D) : mNotV a w = (a w).bind fun d w1 => (R.lift d.b? w1).bind fun c w2 => .ok (.bl (!c)) w2 := Eq.trans rfl rfl
@[simp] theorem mIfE_ap (t : W → R Bool) (a b : W → R D) : mIfE t a b w = (t w).bind fun c w1 => if c = true then a w1 else b w1 := Eq.trans rfl rfl
@[simp] theorem mNil_ap : mNil w = .ok [] w := Eq.trans rfl rfl
@[simp] theorem mCons_ap (a : W → R D) (b : W → R (List D)) : mCons a b w = (a w).bind fun d w1 => (b w1).bind fun ds w2 => .ok (d :: ds) w2 := Eq.trans rfl rfl
@[simp] theorem mTup_ap (a : W → R (List D)) : mTup a w = (a w).bind fun ds w1 => R.lift (if ds.length ≤ 1000000 then some (.tup ds) else none) w1 := Eq.trans rfl rfl
@[simp] theorem mLst_ap (a : W → R (List D)) : mLst a w = (a w).bind fun ds w1 => R.lift (if ds.length ≤ 1000000 then some ds else none) w1 := Eq.trans rfl rfl
@[simp] theorem mFrz_ap (a : W → R (List D)) : mFrz a w = (a w).bind fun xs w1 => .ok (.lst xs) w1 := Eq.trans rfl rfl
@[simp] theorem mSc_ap (a : W → R D) : mSc a w = (a w).bind fun d w1 => .ok d (if d.flat = true then { env := w.env, ss := w1.ss } else w1) := Eq.trans rfl rfl
@[simp] theorem mScT_ap (a : W → R Bool) : mScT a w = (a w).bind fun b w1 => .ok b { env := w.env, ss := w1.ss } := Eq.trans rfl rfl
@[simp] theorem mBlt_ap (g : List D → Option D) (a : W → R (List D)) : mBlt g a w = (a w).bind fun ds w1 => R.lift (g ds) w1 := Eq.trans rfl rfl
@[simp] theorem mIsi_ap (T : String) (a : W → R D) : mIsi T a w = (a w).bind fun d w1 => R.lift ((d.isi T).map D.bl) w1 := Eq.trans rfl rfl
def RF.toR (r : RF) (w : W) : R D := match r with
  | .ok d ss' => .ok d { w with ss := ss' }
  | .exc c ss' => .exc c { w with ss := ss' }
  | .stuck => .stuck
@[simp] theorem RF.toR_ok (d : D) (s : SS) : (RF.ok d s).toR w = .ok d { w with ss := s } := Eq.trans rfl rfl
@[simp] theorem RF.toR_exc (c : Exn) (s : SS) : (RF.exc c s).toR w = .exc c { w with ss := s } := Eq.trans rfl rfl
@[simp] theorem RF.toR_stuck : RF.stuck.toR w = .stuck := Eq.trans rfl rfl
@[simp] theorem mCall_ap (n : Nat) (f : List D → SS → RF) (a : W → R (List D)) : mCall n f a w = (a w).bind fun ds w1 => if ds.length = n then (f ds w1.ss).toR w1 else .stuck := Eq.trans rfl rfl
@[simp] theorem mCall0_ap (f : List D → SS → RF) : mCall0 f w = match f [] w.ss with | .ok d ss' => .ok d { w with ss := ss' } | _ => .stuck := Eq.trans rfl rfl
@[simp] theorem mSlT_ap (a : W → R D) (lo hi : W → R (Option Int)) : mSlT a lo hi w = (a w).bind fun d w1 => (lo w1).bind fun x w2 => (hi w2).bind fun y w3 => R.lift (d.t?.map fun l => .tup (cutD l x y)) w3 := Eq.trans rfl rfl
@[simp] theorem mSlL_ap (a : W → R D) (lo hi : W → R (Option Int)) : mSlL a lo hi w = (a w).bind fun d w1 => (lo w1).bind fun x w2 => (hi w2).bind fun y w3 => R.lift (d.l?.map fun l => cutD l x y) w3 := Eq.trans rfl rfl
@[simp] theorem mRevL_ap (a : W → R D) : mRevL a w = (a w).bind fun d w1 => R.lift (d.l?.map List.reverse) w1 := Eq.trans rfl rfl
@[simp] theorem mRevT_ap (a : W → R D) : mRevT a w = (a w).bind fun d w1 => R.lift (d.t?.map fun l => .tup l.reverse) w1 := Eq.trans rfl rfl
@[simp] theorem mCat_ap (a b : W → R D) : mCat a b w = (a w).bind fun x w1 => (b w1).bind fun y w2 => R.lift (match x, y with | .lst a, .lst b => if a.length + b.length ≤ 1000000 then some (a ++ b) else none | _, _ => none) w2 := Eq.trans rfl rfl
@[simp] theorem mP_ap (a : W → R D) : mP a w = (a w).bind fun d w1 => R.lift (d.i?.map some) w1 := Eq.trans rfl rfl
@[simp] theorem mNoP_ap : mNoP w = .ok none w := Eq.trans rfl rfl
@[simp] theorem mItems_ap (a : W → R D) : mItems a w = (a w).bind fun d w1 => R.lift d.items w1 := Eq.trans rfl rfl
@[simp] theorem mListOf_ap (a : W → R D) : mListOf a w = (a w).bind fun d w1 => R.lift d.seq? w1 := Eq.trans rfl rfl
@[simp] theorem mRng1_ap (a : W → R (List D)) : mRng1 a w = (a w).bind fun ds w1 => R.lift (match ds with | [.int b] => if small b = true then some (rngD 0 b) else none | _ => none) w1 := Eq.trans rfl rfl
@[simp] theorem mRng2_ap (a : W → R (List D)) : mRng2 a w = (a w).bind fun ds w1 => R.lift (match ds with | [.int a, .int b] => if (small a && small b) = true then some (rngD a b) else none | _ => none) w1 := Eq.trans rfl rfl
@[simp] theorem mLc_ap (vs : List Nat) (mi : W → R (List D)) (set : D → W → Option W) (mt : W → R Bool) (me : W → R D) : mLc vs mi set mt me w = (mi w).bind fun ds w1 =>
  (lcGo vs set mt me ds [] { w1 with env := wipeE w1.env vs }).bind fun acc w2 => .ok acc { w2 with env := resE w1.env w2.env vs } := Eq.trans rfl rfl
@[simp] theorem lcGo_nil (vs : List Nat) (set : D → W → Option W) (mt : W → R Bool) (me : W → R D) (acc : List D) : lcGo vs set mt me [] acc w = .ok acc w := Eq.trans rfl rfl
theorem lcGo_cons (vs : List Nat) (set : D → W → Option W) (mt : W → R Bool) (me : W → R D) (d : D) (ds acc : List D) : lcGo vs set mt me (d :: ds) acc w = match set d w with
    | none => .stuck
    | some w1 => (mt w1).nox.bind fun b w2 => if b = true then (me w2).nox.bind fun y w3 => if acc.length < 1000000 then lcGo vs set mt me ds (acc ++ [y]) { w3 with env := wipeE w3.env vs } else .stuck
      else lcGo vs set mt me ds acc { w2 with env := wipeE w2.env vs } := rfl
@[simp] theorem nox_okk {α : Type} (a : α) : (R.ok a w).nox = .ok a w := Eq.trans rfl rfl
@[simp] theorem mYes_ap : mYes w = .ok true w := Eq.trans rfl rfl
@[simp] theorem gsName_ap (i : Nat) (d : D) : gsName i d ⟨env, ss⟩ = some ⟨env.set i (some (.val d)), ss⟩ := Eq.trans rfl rfl
@[simp] theorem gsTup_ap (n : Nat) (t : List D → W → Option W) (ds : List D) : gsTup n t (.tup ds) w = if ds.length = n then t ds w else none := Eq.trans rfl rfl
@[simp] theorem gsCons_ap (s : D → W → Option W) (t : List D → W → Option W) (d : D) (ds : List D) : gsCons s t (d :: ds) w = (s d w).bind (t ds) := Eq.trans rfl rfl
@[simp] theorem gsNil_ap : gsNil [] w = some w := Eq.trans rfl rfl
@[simp] theorem wipeE_nil : wipeE env [] = env := Eq.trans rfl rfl
@[simp] theorem wipeE_cons (v : Nat) (vs : List Nat) : wipeE env (v :: vs) = (wipeE env vs).set v none := Eq.trans rfl rfl
@[simp] theorem resE_nil (e0 : Env) : resE e0 env [] = env := Eq.trans rfl rfl
@[simp] theorem resE_cons (e0 : Env) (v : Nat) (vs : List Nat) : resE e0 env (v :: vs) = (resE e0 env vs).set v (match e0[v]? with | some (some (.val d)) => some (.val d) | _ => none) := Eq.trans rfl rfl
@[simp] theorem sNil_ap : sNil w = .nx w := Eq.trans rfl rfl
@[simp] theorem sCons_ap (a b : W → RS) : sCons a b w = (a w).bind b := Eq.trans rfl rfl
@[simp] theorem sSet_ap (i : Nat) (m : W → R D) : sSet i m w = (m w).toS fun d w' => .nx { w' with env := w'.env.set i (some (.val d)) } := Eq.trans rfl rfl
@[simp] theorem sSetF_ap (i : Nat) (m : W → R (List D)) : sSetF i m w = (m w).toS fun xs w' => .nx { w' with env := w'.env.set i (some (.own xs)) } := Eq.trans rfl rfl
@[simp] theorem sAsg_ap (set : D → W → Option W) (m : W → R D) : sAsg set m w = (m w).toS fun d w' => oS (set d w') .nx := Eq.trans rfl rfl
@[simp] theorem oS_some {α : Type} (a : α) (k : α → RS) : oS (some a) k = k a := Eq.trans rfl rfl
@[simp] theorem oS_none {α : Type} (k : α → RS) : oS (none : Option α) k = .stuck := Eq.trans rfl rfl
@[simp] theorem sPar_ap (i j : Nat) (m : W → R (List D)) : sPar i j m w = (m w).toS fun ds w' => match ds with
  | [d, e] => .nx { w' with env := (w'.env.set i (some (.val d))).set j (some (.val e)) }
  | _ => .stuck := Eq.trans rfl rfl
@[simp] theorem sAug_ap (i : Nat) (g : D → D → Option D) (m : W → R D) : sAug i g m w = match w.env[i]? with
  | some (some (.val x)) => (m w).toS fun y w' => oS (g x y) fun z => .nx { w' with env := w'.env.set i (some (.val z)) }
  | _ => .stuck := Eq.trans rfl rfl
@[simp] theorem sExpr_ap (m : W → R D) : sExpr m w = (m w).toS fun _ w' => .nx w' := Eq.trans rfl rfl
@[simp] theorem sApp_ap (i : Nat) (m : W → R D) : sApp i m w = match w.env[i]? with
  | some (some (.own _)) => (m w).toS fun d w' => match w'.env[i]? with
    | some (some (.own xs)) => if xs.length < 1000000 then .nx { w' with env := w'.env.set i (some (.own (xs ++ [d]))) } else .stuck
    | _ => .stuck
  | _ => .stuck := Eq.trans rfl rfl
@[simp] theorem sExt_ap (i : Nat) (m : W → R D) : sExt i m w = match w.env[i]? with
  | some (some (.own _)) => (m w).toS fun d w' => match w'.env[i]?, d.seq? with
    | some (some (.own xs)), some ys => if xs.length + ys.length ≤ 1000000 then .nx { w' with env := w'.env.set i (some (.own (xs ++ ys))) } else .stuck
    | _, _ => .stuck
  | _ => .stuck := Eq.trans rfl rfl
@[simp] theorem sPop_ap (i : Nat) (set : D → W → Option W) : sPop i set w = match w.env[i]? with
  | some (some (.own xs)) => oS (xs[xs.length - 1]?) fun d => oS (set d { w with env := w.env.set i (some (.own xs.dropLast)) }) .nx
  | _ => .stuck := Eq.trans rfl rfl
@[simp] theorem sIf_ap (t : W → R Bool) (a b : W → RS) : sIf t a b w = (t w).toS fun c w' => if c = true then a w' else b w' := Eq.trans rfl rfl
@[simp] theorem sRet_ap (m : W → R D) : sRet m w = (m w).toS fun d w' => .ret d w' := Eq.trans rfl rfl
@[simp] theorem sRetN_ap : sRetN w = .ret .non w := Eq.trans rfl rfl
@[simp] theorem sFor_ap (mi : W → R (List D)) (set : D → W → Option W) (body : W → RS) : sFor mi set body w = (mi w).toS fun ds w1 => sForGo set body ds w1 := Eq.trans rfl rfl
@[simp] theorem sForGo_nil (set : D → W → Option W) (body : W → RS) : sForGo set body [] w = .nx w := Eq.trans rfl rfl
/-- one turn's outcome handed on -/
def RS.loop (r : RS) (k : W → RS) : RS := match r with
  | .nx w2 => k w2
  | .cnt w2 => k w2
  | .brk w2 => .nx w2
  | r => r
@[simp] theorem RS.loop_nx (k : W → RS) : (RS.nx w).loop k = k w := Eq.trans rfl rfl
@[simp] theorem RS.loop_cnt (k : W → RS) : (RS.cnt w).loop k = k w := Eq.trans rfl rfl
@[simp] theorem RS.loop_brk (k : W → RS) : (RS.brk w).loop k = .nx w := Eq.trans rfl rfl
@[simp] theorem RS.loop_ret (d : D) (k : W → RS) : (RS.ret d w).loop k = .ret d w := Eq.trans rfl rfl
@[simp] theorem RS.loop_exc (c : Exn) (k : W → RS) : (RS.exc c w).loop k = .exc c w := Eq.trans rfl rfl
@[simp] theorem RS.loop_stuck (k : W → RS) : RS.stuck.loop k = .stuck := Eq.trans rfl rfl
theorem sForGo_cons (set : D → W → Option W) (body : W → RS) (d : D) (ds : List D) : sForGo set body (d :: ds) w = oS (set d w) fun w1 => (body w1).loop (sForGo set body ds) := by
  show oS _ _ = _
  congr 1
theorem sWhGo_succ (t : W → R Bool) (body : W → RS) (n : Nat) : sWhGo t body (n + 1) w = (t w).toS fun c w1 => if c = true then (body w1).loop (sWhGo t body n) else .nx w1 := by
  show R.toS _ _ = _
  congr 1
@[simp] theorem fnM_ap (n : Nat) (m : W → RS) (ds : List D) : fnM n m ds ss = (m ⟨startE n ds, ss⟩).fin := Eq.trans rfl rfl
@[simp] theorem fin_ret (d : D) : (RS.ret d w).fin = .ok d w.ss := Eq.trans rfl rfl
@[simp] theorem fin_nx : (RS.nx w).fin = .ok .non w.ss := Eq.trans rfl rfl
@[simp] theorem fin_exc (c : Exn) : (RS.exc c w).fin = .exc c w.ss := Eq.trans rfl rfl
@[simp] theorem startE_ap (n : Nat) (ds : List D) : startE n ds = ds.map (fun d => some (.val d)) ++ List.replicate (n - ds.length) none := Eq.trans rfl rfl
@[simp] theorem gAdd_int (a b : Int) : gAdd (.int a) (.int b) = some (.int (a + b)) := Eq.trans rfl rfl
@[simp] theorem gAdd_tup (a b : List D) : gAdd (.tup a) (.tup b) = if a.length + b.length ≤ 1000000 then some (.tup (a ++ b)) else none := Eq.trans rfl rfl
@[simp] theorem gAddI_int (a b : Int) : gAddI (.int a) (.int b) = some (.int (a + b)) := Eq.trans rfl rfl
@[simp] theorem gSub_int (a b : Int) : TD.gSub (.int a) (.int b) = some (.int (a - b)) := Eq.trans rfl rfl
@[simp] theorem gMul_int (a b : Int) : gMul (.int a) (.int b) = if mulOk a b = true then some (.int (a * b)) else none := Eq.trans rfl rfl
@[simp] theorem gDiv_int (a b : Int) : gDiv (.int a) (.int b) = if divOk b = true then some (.int (a / b)) else none := Eq.trans rfl rfl
@[simp] theorem gMod_int (a b : Int) : gMod (.int a) (.int b) = if 0 < b then some (.int (a % b)) else none := Eq.trans rfl rfl
@[simp] theorem gNeg_int (a : Int) : gNeg (.int a) = some (.int (-a)) := Eq.trans rfl rfl
@[simp] theorem gLt_int (a b : Int) : gLt (.int a) (.int b) = some (.bl (decide (a < b))) := Eq.trans rfl rfl
@[simp] theorem gLe_int (a b : Int) : gLe (.int a) (.int b) = some (.bl (decide (a ≤ b))) := Eq.trans rfl rfl
@[simp] theorem gGt_int (a b : Int) : gGt (.int a) (.int b) = some (.bl (decide (b < a))) := Eq.trans rfl rfl
@[simp] theorem gGe_int (a b : Int) : gGe (.int a) (.int b) = some (.bl (decide (b ≤ a))) := Eq.trans rfl rfl
@[simp] theorem gIx_tup (l : List D) (i : Int) : gIx (.tup l) (.int i) = atI l i := Eq.trans rfl rfl
@[simp] theorem gIx_lst (l : List D) (i : Int) : gIx (.lst l) (.int i) = atI l i := Eq.trans rfl rfl
@[simp] theorem b_bl (b : Bool) : (D.bl b).b? = some b := Eq.trans rfl rfl
@[simp] theorem tru_bl (b : Bool) : (D.bl b).tru = some b := Eq.trans rfl rfl
@[simp] theorem tru_int (i : Int) : (D.int i).tru = some (i != 0) := Eq.trans rfl rfl
@[simp] theorem tru_tup (l : List D) : (D.tup l).tru = some (!l.isEmpty) := Eq.trans rfl rfl
@[simp] theorem tru_lst (l : List D) : (D.lst l).tru = some (!l.isEmpty) := Eq.trans rfl rfl
@[simp] theorem tru_non : D.non.tru = some false := Eq.trans rfl rfl
@[simp] theorem items_tup (l : List D) : (D.tup l).items = some l := Eq.trans rfl rfl
@[simp] theorem items_lst (l : List D) : (D.lst l).items = some l := Eq.trans rfl rfl
@[simp] theorem seq_tup (l : List D) : (D.tup l).seq? = some l := Eq.trans rfl rfl
@[simp] theorem seq_lst (l : List D) : (D.lst l).seq? = some l := Eq.trans rfl rfl
@[simp] theorem t_tup (l : List D) : (D.tup l).t? = some l := Eq.trans rfl rfl
@[simp] theorem l_lst (l : List D) : (D.lst l).l? = some l := Eq.trans rfl rfl
@[simp] theorem i_int (i : Int) : (D.int i).i? = some i := Eq.trans rfl rfl
@[simp] theorem flat_int (i : Int) : (D.int i).flat = true := Eq.trans rfl rfl
@[simp] theorem flat_bl (b : Bool) : (D.bl b).flat = true := Eq.trans rfl rfl
@[simp] theorem flat_str (x : Str) : (D.str x).flat = true := Eq.trans rfl rfl
@[simp] theorem flat_non : D.non.flat = true := Eq.trans rfl rfl
@[simp] theorem flat_tup (l : List D) : (D.tup l).flat = false := Eq.trans rfl rfl
@[simp] theorem flat_lst (l : List D) : (D.lst l).flat = false := Eq.trans rfl rfl
@[simp] theorem gLen_tup (l : List D) : gLen [.tup l] = some (.int l.length) := Eq.trans rfl rfl
@[simp] theorem gLen_lst (l : List D) : gLen [.lst l] = some (.int l.length) := Eq.trans rfl rfl
@[simp] theorem gTuple_tup (l : List D) : gTuple [.tup l] = some (.tup l) := Eq.trans rfl rfl
@[simp] theorem gTuple_lst (l : List D) : gTuple [.lst l] = some (.tup l) := Eq.trans rfl rfl
@[simp] theorem gInt_int (i : Int) : gInt [.int i] = some (.int i) := Eq.trans rfl rfl
@[simp] theorem gAbs_int (i : Int) : gAbs [.int i] = some (.int (if i < 0 then -i else i)) := Eq.trans rfl rfl
@[simp] theorem gMax_2 (i j : Int) : gMax [.int i, .int j] = some (.int (if j > i then j else i)) := Eq.trans rfl rfl
theorem small_eq (i : Int) : (small i = true) = (-(2 ^ 62) ≤ i ∧ i < 2 ^ 62) := by simp [small]
end
section
open D
@[simp] theorem isi_int_int (i : Int) : (D.int i).isi "int" = some true := by show kitB "int" "int" = _; decide +kernel
@[simp] theorem isi_bl_int (b : Bool) : (D.bl b).isi "int" = some true := by show kitB "bool" "int" = _; decide +kernel
@[simp] theorem isi_str_int (x : Str) : (D.str x).isi "int" = some false := by show kitB "str" "int" = _; decide +kernel
@[simp] theorem isi_non_int : D.non.isi "int" = some false := by show kitB "NoneType" "int" = _; decide +kernel
@[simp] theorem isi_tup_int (l : List D) : (D.tup l).isi "int" = some false := by show kitB "tuple" "int" = _; decide +kernel
@[simp] theorem isi_lst_int (l : List D) : (D.lst l).isi "int" = some false := by show kitB "list" "int" = _; decide +kernel
@[simp] theorem isi_int_bool (i : Int) : (D.int i).isi "bool" = some false := by show kitB "int" "bool" = _; decide +kernel
@[simp] theorem isi_bl_bool (b : Bool) : (D.bl b).isi "bool" = some true := by show kitB "bool" "bool" = _; decide +kernel
@[simp] theorem isi_str_bool (x : Str) : (D.str x).isi "bool" = some false := by show kitB "str" "bool" = _; decide +kernel
@[simp] theorem isi_non_bool : D.non.isi "bool" = some false := by show kitB "NoneType" "bool" = _; decide +kernel
@[simp] theorem isi_tup_bool (l : List D) : (D.tup l).isi "bool" = some false := by show kitB "tuple" "bool" = _; decide +kernel
@[simp] theorem isi_lst_bool (l : List D) : (D.lst l).isi "bool" = some false := by show kitB "list" "bool" = _; decide +kernel
@[simp] theorem isi_int_tuple (i : Int) : (D.int i).isi "tuple" = some false := by show kitB "int" "tuple" = _; decide +kernel
@[simp] theorem isi_bl_tuple (b : Bool) : (D.bl b).isi "tuple" = some false := by show kitB "bool" "tuple" = _; decide +kernel
@[simp] theorem isi_str_tuple (x : Str) : (D.str x).isi "tuple" = some false := by show kitB "str" "tuple" = _; decide +kernel
@[simp] theorem isi_non_tuple : D.non.isi "tuple" = some false := by show kitB "NoneType" "tuple" = _; decide +kernel
@[simp] theorem isi_tup_tuple (l : List D) : (D.tup l).isi "tuple" = some true := by show kitB "tuple" "tuple" = _; decide +kernel
@[simp] theorem isi_lst_tuple (l : List D) : (D.lst l).isi "tuple" = some false := by show kitB "list" "tuple" = _; decide +kernel
@[simp] theorem isi_int_list (i : Int) : (D.int i).isi "list" = some false := by show kitB "int" "list" = _; decide +kernel
@[simp] theorem isi_bl_list (b : Bool) : (D.bl b).isi "list" = some false := by show kitB "bool" "list" = _; decide +kernel
@[simp] theorem isi_str_list (x : Str) : (D.str x).isi "list" = some false := by show kitB "str" "list" = _; decide +kernel
@[simp] theorem isi_non_list : D.non.isi "list" = some false := by show kitB "NoneType" "list" = _; decide +kernel
@[simp] theorem isi_tup_list (l : List D) : (D.tup l).isi "list" = some false := by show kitB "tuple" "list" = _; decide +kernel
@[simp] theorem isi_lst_list (l : List D) : (D.lst l).isi "list" = some true := by show kitB "list" "list" = _; decide +kernel
@[simp] theorem isi_str_str (x : Str) : (D.str x).isi "str" = some true := by show kitB "str" "str" = _; decide +kernel
end
end TD

set_option Elab.async false
set_option linter.all false
set_option maxRecDepth 100000
set_option maxHeartbeats 4000000
namespace TD
open PySem PySem.Spec PyProof.Rows L2
open PySem.W (ksFn ksEnv)
/-! ### an own error whose __init__ says super().__init__(text) and stores one field -/
def eArgs (a1 a2 : PySem.Arg) : Arguments := { posonlyargs := [], args := [a1, a2], vararg := none, kwonlyargs := [], kw_defaults := [], kwarg := none, defaults := [] }
structure EPos where
  p0 : Pos
  p1 : Pos
  p2 : Pos
  p3 : Pos
  p4 : Pos
  p5 : Pos
  q1 : Pos
  q2 : Pos
  q3 : Pos
  q4 : Pos
  k : Nat
def eBody (msg fld : Str) (z : EPos) : List Stmt :=
  [.Expr (.Call (.Attribute (.Call (.Name "super" z.p0) [] [] z.p1) "__init__" z.p2) [.Constant (.str msg) z.k z.p3] [] z.p4) z.p5, .Assign [.Attribute (.Name "self" z.q1) fld z.q2] (.Name fld z.q3) z.q4]
structure OwnE (P : Program) (K : PySem.W.Frag) (mg : Str → Option Value) (nm qual msg fld : Str) (C fI cc cda : Addr) (a1 a2 : PySem.Arg) (z : EPos) (scope : Scope) : Prop where
  T : OexC K C
  gC : mg nm = some (.ref C)
  iC : PySem.W.findIn K (.ref C) "__init__" = some (some (.ref fI))
  tI : PySem.W.typeIn K (.ref fI) = some (.type "function")
  no : PySem.W.findIn K (.ref C) fld = some none
  fn : ∃ (oc : Value) (od : Option Addr) (doc pm : Value) (an : Option Addr) (ct : Value) (osl : Array (Option Value)), K.lookup fI = some ⟨oc, od, .func (ksFn "__init__" qual (eArgs a1 a2) (eBody msg fld z) scope .none .none doc pm an (.ref cda) ct cc), osl⟩
  code : PySem.W.codeIn K (.ref cda) qual = true
  cdo : ∃ (ccl : Value) (cdd : Option Addr) (vs : Array Value) (ccs : Array (Option Value)) (file : Str) (tf : Tok), K.lookup cda = some ⟨ccl, cdd, .fields vs, ccs⟩ ∧ vs[2]? = some (.str file tf) ∧ ((P.main.file : Str) == file) = true
  cell : ∃ (cl : Value) (cld : Option Addr) (csl : Array (Option Value)), K.lookup cc = some ⟨cl, cld, .cell (some (.ref C)), csl⟩
  sup : PySem.W.ks_superIn K C C "__init__" = some (some (.builtin "ValueError.__init__"))
  subV : PySem.W.subIn K (.ref C) (.type "ValueError") = some true
  mroC : PySem.W.mroIn K C (.ref C) = some true
  nosup : mg "super" = none
  third : PySem.W.nsIn K cStatics "thirdparty.any" = some none
  top : (P.main.scope.names.lookup ("super" : Str)).isSome = false
  arg1 : a1.arg = "self"
  arg2 : a2.arg = fld
  sc : NdefX.NScope ["self", fld, "__class__"] ["self", fld] ["__class__"] scope
  dbg : (fld == ("__debug__" : Str)) = false
  scs : scope.names.lookup ("super" : Str) = some .globalImplicit
/-- what the kernel reads off the body's words -/
structure OwnB (qual msg fld : Str) (fI cc cda : Addr) (a1 a2 : PySem.Arg) (z : EPos) (scope : Scope) : Prop where
  bd : ∀ (doc pm : Value) (an : Option Addr) (ct u1 u2 : Value), bindArgs (ksFn "__init__" qual (eArgs a1 a2) (eBody msg fld z) scope .none .none doc pm an (.ref cda) ct cc) ⟨[u1, u2], []⟩ = pure ([("self", u1), (fld, u2)] : List (Str × Value))
  hi : ∀ L, interactive (NdefX.envF (⟨"__init__", qual, eArgs a1 a2, eBody msg fld z, scope, [("__class__", cc)], cda⟩ : NdefX.NF) fI L) = false
  sw : ∀ L, swapsWith (.Call (.Attribute (.Call (.Name "super" z.p0) [] [] z.p1) "__init__" z.p2) [.Constant (.str msg) z.k z.p3] [] z.p4) none z.p5.line (NdefX.envF (⟨"__init__", qual, eArgs a1 a2, eBody msg fld z, scope, [("__class__", cc)], cda⟩ : NdefX.NF) fI L) = pure false
  he : ∀ L, ∃ pl, eval (.Call (.Attribute (.Call (.Name "super" z.p0) [] [] z.p1) "__init__" z.p2) [.Constant (.str msg) z.k z.p3] [] z.p4) (NdefX.envF (⟨"__init__", qual, eArgs a1 a2, eBody msg fld z, scope, [("__class__", cc)], cda⟩ : NdefX.NF) fI L) = (do
      let ov ← attributeBase (.Call (.Name "super" z.p0) [] [] z.p1) "__init__" (NdefX.envF (⟨"__init__", qual, eArgs a1 a2, eBody msg fld z, scope, [("__class__", cc)], cda⟩ : NdefX.NF) fI L) (eval (.Call (.Name "super" z.p0) [] [] z.p1) (NdefX.envF (⟨"__init__", qual, eArgs a1 a2, eBody msg fld z, scope, [("__class__", cc)], cda⟩ : NdefX.NF) fI L))
      standAt z.p2.atName
      let (f, first) ← holding [ov] (getMethod ov "__init__" pl)
      callWith z.p4 f first (backTo z.p4 (starEach [.Constant (.str msg) z.k z.p3] (NdefX.envF (⟨"__init__", qual, eArgs a1 a2, eBody msg fld z, scope, [("__class__", cc)], cda⟩ : NdefX.NF) fI L))) [])
/-- what __init__ promises -/
def spInit (C : Addr) (fld : Str) : Sp := fun vs H Q _ => ∃ (a : Addr) (v : V), vs = [.ref a, v] ∧ H a = some (exo a C none) ∧ ∀ dx, H dx = none → dx ≠ a → Q .non (upd (upd H dx (exd dx [(fld, v)])) a (exo a C (some dx)))
section
variable {P : Program} {w : World} {K : PySem.W.Frag} {mg : Str → Option Value} {base : Heap} {CX : CXT} {nm qual msg fld : Str} {C fI cc cda : Addr} {a1 a2 : PySem.Arg} {z : EPos} {scope : Scope}
abbrev OwnE.F (qual msg fld : Str) (cc cda : Addr) (a1 a2 : PySem.Arg) (z : EPos) (scope : Scope) : NdefX.NF := ⟨"__init__", qual, eArgs a1 a2, eBody msg fld z, scope, [("__class__", cc)], cda⟩
theorem own_init (O : OwnE P K mg nm qual msg fld C fI cc cda a1 a2 z scope) (B : OwnB qual msg fld fI cc cda a1 a2 z scope) : ∃ fd : FuncData, FnOk P w K mg base CX 1 fI fd ["self", fld] (spInit C fld) ∧ Binds K fd ["self", fld] [] := by
  obtain ⟨oc, od, doc, pm, an, ct, osl, lk⟩ := O.fn
  obtain ⟨ccl, cdd, vc, ccs, file, tf, lc, hvs, hfile⟩ := O.cdo
  obtain ⟨cl, cld, csl, lcell⟩ := O.cell
  refine ⟨ksFn "__init__" qual (eArgs a1 a2) (eBody msg fld z) scope .none .none doc pm an (.ref cda) ct cc, ⟨fun vs H Q E ⟨a, v, e, _⟩ => by rw [e]; rfl, fun A outer s H args us vs Q E hr e0 hb r hsp => ?_⟩, ?_⟩
  rotate_left
  · intro s us hk hl
    rw [List.append_nil] at hl ⊢
    refine .of_eq ?_
    match us, hl with
    | [u1, u2], _ =>
      exact B.bd doc pm an ct u1 u2
  obtain ⟨a, v, rfl, ha, q⟩ := hsp
  cases r with
  | @cons _ u1 _ ur ra rw' =>
  cases rw' with
  | @cons _ u2 _ ur2 rv rn =>
  cases rn
  obtain rfl : u1 = Value.ref a := ra
  have hne : fld ≠ "self" := fun e => by have := O.sc.nd; rw [e] at this; simp at this
  have hne' : (("self" : Str) == fld) = false := by simpa using Ne.symm hne
  have lk1 : List.lookup ("self" : Str) ((["self", fld] : List Str).zip [Value.ref a, u2]).reverse = some (.ref a) := by simp [List.lookup, hne']
  have lk2 : List.lookup fld ((["self", fld] : List Str).zip [Value.ref a, u2]).reverse = some u2 := by simp [List.lookup]
  have KX : K.In s.heap := e0.mod.kin.keeps fun b o e => (e0.bs b o e).1
  have lim : s.heap.NoLimit := e0.mod.nolimit.keeps fun b o e => (e0.bs b o e).1
  have hcell := KX _ _ lcell
  have hcellH : H cc = none := (e0.bs _ _ (e0.mod.kin _ _ lcell)).2
  have hC0 : NdefX.CellsAt [("__class__", cc)] ["__class__"] [some (.ref C)] s.heap H := by
    refine ⟨rfl, fun y c e => ?_, fun x y c e1 e2 => ?_, fun i y e => ?_⟩
    · have hy : y = "__class__" := by
        by_cases hy : y = "__class__"
        · exact hy
        · have : (y == ("__class__" : Str)) = false := by simpa using hy
          simp [List.lookup, this] at e
      subst hy
      have : cc = c := by simpa [List.lookup] using e
      subst this
      exact ⟨hcellH, some (.ref C), _, hcell, rfl⟩
    · have hh : ∀ y : Str, ∀ c, List.lookup y [(("__class__" : Str), cc)] = some c → y = "__class__" := fun y c e => by
        by_cases hy : y = "__class__"
        · exact hy
        · have : (y == ("__class__" : Str)) = false := by simpa using hy
          simp [List.lookup, this] at e
      rw [hh x c e1, hh y c e2]
    · match i, e with
      | 0, e =>
        cases e
        exact ⟨cc, by simp [List.lookup], fun v hv => by cases hv; exact ⟨.ref C, rfl, _, hcell, rfl⟩⟩
  refine PySem.ks_codeAny_call_defAt (fd := ksFn "__init__" qual (eArgs a1 a2) (eBody msg fld z) scope .none .none doc pm an (.ref cda) ct cc) (body := eBody msg fld z) (binds := (["self", fld] : List Str).zip [.ref a, u2]) hr.depth (KX _ _ lk) rfl lim (PySem.W.codeRec_of KX O.code) rfl hb
    (fun y hy => O.sc.nocell y hy) (fun y hy => O.sc.par y.1 (List.of_mem_zip hy).1) (fun h₁ hns kp => ?_) O.sc.co O.sc.gen O.sc.kind
  have I := NdefX.inv_startN (CX := CX) (P := P) (w := w) (F := OwnE.F qual msg fld cc cda a1 a2 z scope) (f := fI) (A := A) (outer := outer) (H := H) (E := E) (us := [.ref a, u2]) (vs := [.ref a, v]) (ws := [some (.ref C)]) (tk := s.toks + 2) O.sc hr.hd e0 rfl (.cons rfl (.cons rv .nil)) hC0 hns kp
  show _root_.PySem.wpAt _ _ (.func (eBody msg fld z) (NdefX.envF (OwnE.F qual msg fld cc cda a1 a2 z scope) fI s.heap.objs.size)) (execs (eBody msg fld z) (NdefX.envF (OwnE.F qual msg fld cc cda a1 a2 z scope) fI s.heap.objs.size)) _ _ _
  obtain ⟨pl, hpl⟩ := B.he s.heap.objs.size
  refine PySem.ks_wpAt_execs_cons (PySem.ks_wpAt_Expr_any (PySem.ks_wpAt_MethodCall (pl := pl) ?_ hpl) (B.hi _) (B.sw _))
  refine PySem.ks_wpAt_super_base (of := ⟨oc, od, .func (ksFn "__init__" qual (eArgs a1 a2) (eBody msg fld z) scope .none .none doc pm an (.ref cda) ct cc), osl⟩) (ar := a1) (vs := vc) (tf := tf) O.scs (O.sc.frk _ (List.mem_cons_self ..)) (by decide) rfl (kp _ _ (KX _ _ lk)) rfl rfl rfl (kp _ _ (KX _ _ lc)) rfl hvs hfile O.top ?_
  refine PySem.W.ks_loadName_global O.sc.kind O.scs ?_
  obtain ⟨mb, b1, b2⟩ := I.mod.blt
  refine PySem.Calls.loadGlobal_builtin (by exact I.mod.glob.keeps I.bk) O.nosup (by exact b1.keeps I.bk) ((b2 "super" (by decide)).trans (show bootBuiltins "super" = some (.type "super") by kernel_rfl)) ⟨rfl, ?_⟩
  refine wpAny_loadName_free O.sc.kind (O.sc.frk _ (List.mem_cons_self ..)) rfl ⟨_, kp _ _ hcell, rfl⟩ ?_
  rw [O.arg1]
  refine wpAny_loadName_local O.sc.kind (O.sc.par "self" (List.mem_cons_self ..)) hns (v := .ref a) lk1 ?_
  obtain ⟨nmC, qC, NC, bs, bm, sn, sub, ab, col, dd, k0, k1, k2, k3, k5, hC, hbm⟩ := O.T.cls
  have hCls := I.kIn _ _ hC
  refine PySem.ks_wpAny_isType_cls hCls rfl ⟨rfl, ?_⟩
  obtain ⟨t1, hx⟩ := exo_at I.hok ha
  refine PySem.ks_wpAny_call_super hCls rfl hx rfl (fun c e => by cases e) (PySem.W.looks_mroIn I.kIn O.mroC) (fun h' hso k' => ?_)
  have I2 := I.kept (t' := s.toks + 2) k'
  have hx2 := k' _ _ hx
  have IA : PySem.W.InstAt h' a { cls := .ref C, dict := none, data := .fields #[.ref t1, .none, .none, .none, .bool false, .none] } C none := ⟨hx2, rfl, rfl, trivial⟩
  have hcd : PySem.W.clsIn K C = some { name := nmC, bases := bs, mro := .ref C :: bm, ns := NC, qualname := qC, hasDict := true, slotNames := sn, subclasses := sub, abstract := ab, collection := col, hasDel := false } := by unfold PySem.W.clsIn; rw [hC] <;> rfl
  have hsup := O.sup
  unfold PySem.W.ks_superIn at hsup
  rw [hcd] at hsup
  refine PySem.W.kxs_getMethod PySem.W.kxs_ValueError hso (PySem.W.looks_opaque I2.kIn O.third) (l₀ := .ref C :: bm) (fun A Q E s k q => wpAny_bind ((PySem.W.looks_clsIn I2.kIn hcd) A _ E s k (wpAny_pure q))) rfl I2.kIn hsup
    (IA.type.andThen (PySem.W.looks_subIn I2.kIn O.subV)) (PySem.W.ks_ne I2.kIn IA hcd) (by decide) ?_
  have I3 : L2.Inv _ _ _ _ _ := I2.kept (t' := s.toks + 3) (h' := h'.push (PySem.W.kxs_mw "ValueError.__init__" a)) (fun b u e => Heap.get?_push_of_some _ e)
  refine PySem.W.kxs_callWith (i := "ValueError.__init__") (x := a) (by rfl) (Calls.evalArgs_plain (Calls.spliced_cons (Calls.Constant_str (pos := z.p3) (k := z.k) (Calls.spliced_nil ⟨Heap.get?_push_size _ rfl, ?_⟩))))
  have hC3 := I3.kIn _ _ hC
  have hx3 : (h'.push (PySem.W.kxs_mw "ValueError.__init__" a)).get? a = some { cls := .ref C, dict := none, data := .fields #[.ref t1, .none, .none, .none, .bool false, .none] } := Heap.get?_push_of_some _ hx2
  have hu3 : (h'.push (PySem.W.kxs_mw "ValueError.__init__" a)).get? h'.objs.size = some (PySem.W.kxs_mw "ValueError.__init__" a) := Heap.get?_push_size _ rfl
  refine wpAny_call (codeAny_of_tree ?_)
  show wpAny _ _ (callAny (.ref h'.objs.size) ⟨_, []⟩) _ _ _
  simp only [callAny]
  refine wpAny_bind (wpAny_load hu3 ?_)
  simp only [PySem.W.kxs_mw, show (Value.type "method-wrapper" == Value.type "method" || Value.type "method-wrapper" == Value.type "builtin_function_or_method" || Value.type "method-wrapper" == Value.type "method-wrapper") = true by decide, if_true]
  refine PySem.W.KFB.if_so (by decide) ?_
  refine wpAny_bind (PySem.W.check_bound_init F.excBase_ValueError.toExcCallFacts hC3 hx3 rfl ?_)
  refine wpAny_bind (wpAny_pure (wpAny_pure ?_))
  refine ⟨plainId_quiet F.excBase_ValueError.init.plain _, codeAny_builtin F.excBase_ValueError.initEntry ?_⟩
  refine PySem.W.exc_init_tree (cls := .ref C) (t0 := t1) (dv := none) (c2 := .none) (c3 := .none) (b4 := .bool false) hx3 (by rw [sizeLine_eq]; exact (by decide : (1 : Nat) ≤ 16777216)) fun h4 k4 hx4 _ => ?_
  have I4 := I3.write (t' := s.toks + 4) (x := a) (e := a) (o := exo a C none) (by rw [ha]; exact True.intro) (.inl rfl) k4 ⟨_, hx4⟩ (exo_ok hx4)
  have eu : upd H a (exo a C none) = H := by
    funext b
    by_cases hb : b = a
    · rw [hb, upd_same, ha]
    · rw [upd_ne hb]
  rw [eu] at I4
  refine PySem.ks_wpAt_execs_cons (PySem.wpAt_of_wpAny ?_)
  have la : a < s.heap.objs.size := by
    obtain ⟨t0, hx0⟩ := exo_at e0.hok ha
    exact Heap.lt_size hx0
  have hns4 : h4.Ns s.heap.objs.size (fun x => List.lookup x ((["self", fld] : List Str).zip [Value.ref a, u2]).reverse) := by
    obtain ⟨oL, es, ep, hL, r⟩ := hns
    exact ⟨oL, es, ep, k4 _ _ (Nat.ne_of_gt la) (Heap.get?_push_of_some _ (k' _ _ hL)), r⟩
  refine plainObj_wpAny_Assign_Attribute (wpAny_Name (wpAny_loadName_local O.sc.kind (O.sc.par fld (List.mem_cons_of_mem _ (List.mem_cons_self ..))) hns4 (v := u2) lk2 (wpAny_Name (wpAny_loadName_local O.sc.kind (O.sc.par "self" (List.mem_cons_self ..)) hns4 (v := .ref a) lk1 (ost_new (X := NdefX.ncx CX P w K mg base ["self", fld, "__class__"] (OwnE.F qual msg fld cc cda a1 a2 z scope) fI A outer s H E) O.T I4 ha O.no rv fun dx s' n ne J => ?_)) (by decide))) O.dbg)
  show _root_.PySem.wpAt _ _ _ (execs [] _) _ _ _
  refine PySem.wpAt_of_wpAny (wpAny_execs_nil ?_)
  exact ⟨V.non, _, J.os, J.bare, J.base, J.hok, rfl, q dx n ne⟩
end
end TD

set_option Elab.async false
set_option linter.all false
set_option maxRecDepth 100000
set_option maxHeartbeats 4000000
namespace TD
open PySem PySem.Spec PyProof.Rows L2
/-- what is known of an own error: its class, its one field, its __init__ -/
structure Err (P : Program) (w : World) (K : PySem.W.Frag) (mg : Str → Option Value) (base : Heap) (nm fld : Str) : Prop where
  ex : ∃ (C fI : Addr) (fd : FuncData), mg nm = some (.ref C) ∧ OexC K C ∧ XCls K C fld ∧ PySem.W.findIn K (.ref C) "__init__" = some (some (.ref fI)) ∧ PySem.W.typeIn K (.ref fI) = some (.type "function") ∧
    FnOk P w K mg base (L2.CX P w) 1 fI fd ["self", fld] (spInit C fld) ∧ Binds K fd ["self", fld] []
def sRaise (nm fld : Str) (m : W → R (List D)) : W → RS := fun w => (m w).toS fun ds w' => match ds with
  | [d] => .exc ⟨nm, fld, d⟩ w'
  | _ => .stuck
section
variable {X : Cx} {Wx : WX} {fm : Fm}
theorem ss_raise {nm fld : Str} {e : Expr} {p pos pos2 : Pos} {m : W → R (List D)} (hc : X.calm = true) (tk : Takes X Wx) (O : Err X.prog X.w X.K X.mg X.base nm fld) (hr : Room 2 X.A) (hx : Passes (L2.CX X.prog X.w) X (fun _ _ _ => False)) (ha : SAs X Wx fm [e] m) (hg : Gl X nm := by rfl)
    (hdb : (nm == ("__debug__" : Str)) = false := by decide) (he : starEach (e :: []) X.env = (false, eval e X.env) :: starEach [] X.env := by rfl) (hpl : (backTo pos (starEach [] X.env)).any (·.1) = false := by rfl) :
    SSt X Wx fm (.Raise (some (.Call (.Name nm p) [e] [] pos)) none pos2) (sRaise nm fld m) := by
  refine ⟨?_⟩
  intro ex σ H F w D r q
  obtain ⟨C, fI, fd, gC, T, xK, iC, tI, F1, B1⟩ := O.ex
  refine WS.of (ps_raise hc tk (pmk_oex T iC tI F1 hr B1 .nil hx hg gC pa_wa hdb he hpl)) ?_
  show WA X [e] σ H _
  refine ha ex σ H F w _ r ((FinS.ofR q).imp fun ds w1 H1 F1 ⟨r1, e1, q1⟩ vs hv => ?_)
  match ds, q1, hv with
  | [d], q1, hv =>
    cases hv with
    | @cons v _ _ _ hv0 hv1 =>
      cases hv1
      refine ⟨by simp, fun a hna => ⟨a, v, rfl, upd_same, fun dx hdx hne => ⟨rfl, dx, [(fld, v)], upd_same, (upd_ne hne).trans upd_same, ?_, ?_⟩⟩⟩
      · rw [upd_ne hne] at hdx; exact hdx
      · have hd1 : H1 dx = none := by rw [upd_ne hne] at hdx; exact hdx
        have ng : fm.G dx = none := by
          cases e : fm.G dx with
          | none => rfl
          | some o =>
            have n : dx ≠ fm.a0 := fun z => by rw [z, r1.src.at0] at hd1; cases hd1
            rw [r1.gh dx o n e] at hd1; cases hd1
        have eH : upd (del (upd (upd (upd H1 a (exo a C none)) dx (exd dx [(fld, v)])) a (exo a C (some dx))) a) dx (.xd [(fld, v)]) = upd H1 dx (.xd [(fld, v)]) := by
          funext b
          by_cases hb : b = dx
          · subst hb; rw [upd_same, upd_same]
          · rw [upd_ne hb, upd_ne hb]
            by_cases hb2 : b = a
            · subst hb2; rw [del_same, hna]
            · rw [del_ne hb2, upd_ne hb2, upd_ne hb, upd_ne hb2]
        rw [eH]
        have g : Gr H1 F1 (upd H1 dx (.xd [(fld, v)])) F1 := ⟨Ex.new hd1, Ex.refl _, fun b o e => (Ex.new hd1) b o (r1.fh b o e), fun b o e => .inl e⟩
        exact q1 σ _ F1 (.ref C) (some dx) (Ex.refl _) (r1.gr g) ⟨C, dx, v, gC, rfl, rfl, upd_same, hv0, ng, xK⟩
end
end TD

set_option Elab.async false
set_option linter.all false
set_option maxRecDepth 100000
set_option maxHeartbeats 4000000
namespace TD
open PySem PySem.Spec PyProof.Rows L2
/-! ### try .. except C as x -/
def sLeave (i : Nat) : RS → RS
  | .nx w => .nx { w with env := (noX w.env).set i none }
  | .brk w => .brk { w with env := (noX w.env).set i none }
  | .cnt w => .cnt { w with env := (noX w.env).set i none }
  | .ret d w => .ret d { w with env := noX w.env }
  | _ => .stuck
def sTry (tab : Str → Option Bool) (i : Nat) (body suite : W → RS) : W → RS := fun w => match body w with
  | .exc c w1 => (match tab c.c with
    | some true => sLeave i (suite { w1 with env := (noX w1.env).set i (some (.exn c)) })
    | some false => .exc c w1
    | none => .stuck)
  | r => r
def sLeaveO : RS → RS
  | .nx w => .nx { w with env := noX w.env }
  | .brk w => .brk { w with env := noX w.env }
  | .cnt w => .cnt { w with env := noX w.env }
  | .ret d w => .ret d { w with env := noX w.env }
  | _ => .stuck
def sTryO (tab : Str → Option Bool) (body suite : W → RS) : W → RS := fun w => match body w with
  | .exc c w1 => (match tab c.c with
    | some true => sLeaveO (suite { w1 with env := noX w1.env })
    | some false => .exc c w1
    | none => .stuck)
  | r => r
/-- the classes of the law's errors: (class, class asked) ↦ is it under it -/
abbrev HxT := List ((Str × Str) × Bool)
def xT (hx : HxT) (y : Str) : Str → Option Bool := fun nm => hx.lookup (nm, y)
/-- the value cv is the class that y names -/
structure ClsV (K : PySem.W.Frag) (mg : Str → Option Value) (hx : HxT) (y : Str) (cv : Value) : Prop where
  exm : ∀ nm b C, xT hx y nm = some b → mg nm = some (.ref C) → PySem.W.exmOne K (.ref C) cv = some b
  kit : ∀ nm b C, xT hx y nm = some b → mg nm = some (.ref C) → PySem.W.kitOne K (.ref C) cv = some b
structure ClsK (K : PySem.W.Frag) (mg : Str → Option Value) (hx : HxT) (y : Str) : Prop where
  ex : ∃ T : Addr, mg y = some (.ref T) ∧ ClsV K mg hx y (.ref T)
structure ClsB (K : PySem.W.Frag) (mg : Str → Option Value) (hx : HxT) (y : Str) (T : String) : Prop where
  none : mg y = none
  kit : ∀ nm b C, xT hx y nm = some b → mg nm = some (.ref C) → PySem.W.kitOne K (.ref C) (.type T) = some b
/-- the suite's exception -/
structure InS (X : Cx) (fm : Fm) (oe : Obj) : Prop where
  z : Zc (.ref fm.xk) (some fm.xd) oe
  f : ∃ vs, oe.data = .fields vs
  g : X.mg fm.xc = some (.ref fm.xk)
section
variable {X : Cx} {Wx : WX} {fm : Fm}
theorem ss_try_as {i : Nat} {x n : Str} {body suite : List Stmt} {b₀ : Stmt} {np pos pos' : Pos} {hx : HxT} {mb ms : W → RS} (hs : X.stack = X.env :: X.outer) (hf : X.env.frame = some X.env.locals) (hN : X.N.Nodup) (hi : X.N[i]? = some n) (hln : X.env.kindOf n = some .local)
    (hc : ClsK X.K X.mg hx x) (hg : Gl X x) (hd : (x == ("__debug__" : Str)) = false) (tk : Takes X Wx)
    (hb : ∀ (Wt : WX) (pn : List (Addr × Obj)) (xe : Value → Shared → Prop), Takes (X.tr pn xe) Wt → PassesOwn (model X.prog X.w) X.A X.env xe → SSs (X.tr pn xe) Wt fm body mb)
    (hsu : ∀ (a d k : Addr) (c : Str) (oe : Obj) (pn : List (Addr × Obj)), InS X { fm with xa := a, xd := d, xc := c, xk := k } oe → SSs (X.suite a ((a, oe) :: pn)) W0 { fm with xa := a, xd := d, xc := c, xk := k } (b₀ :: suite) ms) :
    SSt X Wx fm (.Try body [.ExceptHandler (some (.Name x np)) (some n) (b₀ :: suite) pos'] [] [] pos) (sTry (xT hx x) i mb ms) := by
  obtain ⟨T, mT, cT⟩ := hc.ex
  refine ⟨?_⟩
  intro ex σ H F w D r q
  refine WS.of (ps_try_as (x := x) (c := .ref T) (i := i)
    (tb := fun Wt D σ H => ∀ (pn : List (Addr × Obj)) (xe : Value → Shared → Prop), Takes (X.tr pn xe) Wt → PassesOwn (model X.prog X.w) X.A X.env xe → WSs (X.tr pn xe) body D σ H)
    (ts := fun a cls d D σ H => ∀ (oe : Obj) (pn : List (Addr × Obj)), Zc cls d oe → (∃ vs, oe.data = .fields vs) → WSs (X.suite a ((a, oe) :: pn)) (b₀ :: suite) D σ H)
    hs hf hN hi hln ⟨hg, hd, .inl mT⟩ tk (fun Wt pn xe t p => ⟨fun pins s σ H D I h => h pn xe t p pins s I⟩) (fun a oe cls d pn hz hv => ⟨fun pins s σ H D I h => h oe pn hz hv pins s I⟩)) ?_
  intro pn xe t p
  refine hb _ pn xe t p ex σ H F w D r ?_
  revert q
  unfold sTry
  cases mb w with
  | nx w1 => exact fun q => q
  | brk w1 => exact fun q => q
  | cnt w1 => exact fun q => q
  | ret d w1 => exact fun q => q
  | stuck => exact fun q => q
  | exc c w1 =>
    intro q σ1 H1 F1 cls dd e1 r1 xi
    have r1 : Rel X.K fm ex σ1 H1 F1 w1 := r1
    obtain ⟨C, d, v, h1, h2, h3, h4, h5, h6, h7⟩ := id xi
    cases ht : xT hx x c.c with
    | none =>
      have q : FinS X Wx fm ex F D (match xT hx x c.c with
        | some true => sLeave i (ms { w1 with env := (noX w1.env).set i (some (.exn c)) })
        | some false => .exc c w1
        | none => .stuck) := q
      rw [ht] at q
      exact (show False from q).elim
    | some b =>
      refine ⟨b, ?_, fun hb1 a ha => ?_, fun hb0 => ?_⟩
      · rw [h2]; exact cT.exm _ _ _ ht h1
      · subst hb1
        have q : FinS X Wx fm ex F D (match xT hx x c.c with
          | some true => sLeave i (ms { w1 with env := (noX w1.env).set i (some (.exn c)) })
          | some false => .exc c w1
          | none => .stuck) := q
        rw [ht] at q
        have q : FinS X Wx fm ex F D (sLeave i (ms { w1 with env := (noX w1.env).set i (some (.exn c)) })) := q
        intro oe pn hz hv
        rw [h2, h3] at hz
        obtain ⟨F2, e2, h8, r2⟩ := (r1.enter a d c.c C).frzX h4 h6
        have r3 := r2.setX i (c := c) (vv := v) rfl h7 h8 (h5.ex e2)
        refine (hsu a d C c.c oe pn ⟨hz, hv, h1⟩) ex _ H1 F2 _ _ r3 ?_
        have eF : Ex F F2 := e1.trans e2
        revert q
        cases ms { w1 with env := (noX w1.env).set i (some (.exn c)) } with
        | nx w2 => exact fun q σ' H' F' e r => q _ H' F' (eF.trans e) (r.leave.setNone i none)
        | brk w2 => exact fun q σ' H' F' e r => q _ H' F' (eF.trans e) (r.leave.setNone i none)
        | cnt w2 => exact fun q σ' H' F' e r => q _ H' F' (eF.trans e) (r.leave.setNone i none)
        | ret d w2 => exact fun q v σ' H' F' e r k => q v σ' H' F' (eF.trans e) r.leave k
        | exc c w2 => exact fun q => (show False from q).elim
        | stuck => exact fun q => (show False from q).elim
      · subst hb0
        have q : FinS X Wx fm ex F D (match xT hx x c.c with
          | some true => sLeave i (ms { w1 with env := (noX w1.env).set i (some (.exn c)) })
          | some false => .exc c w1
          | none => .stuck) := q
        rw [ht] at q
        have q : FinS X Wx fm ex F D (.exc c w1) := q
        exact q σ1 H1 F1 cls dd e1 r1 xi
theorem ss_try_only {x : Str} {body suite : List Stmt} {b₀ : Stmt} {np pos pos' : Pos} {hx : HxT} {mb ms : W → RS} (hs : X.stack = X.env :: X.outer) (hf : X.env.frame = some X.env.locals)
    (hc : ClsK X.K X.mg hx x) (hg : Gl X x) (hd : (x == ("__debug__" : Str)) = false) (tk : Takes X Wx)
    (hb : ∀ (Wt : WX) (pn : List (Addr × Obj)) (xe : Value → Shared → Prop), Takes (X.tr pn xe) Wt → PassesOwn (model X.prog X.w) X.A X.env xe → SSs (X.tr pn xe) Wt fm body mb)
    (hsu : ∀ (a d k : Addr) (c : Str) (oe : Obj) (pn : List (Addr × Obj)), InS X { fm with xa := a, xd := d, xc := c, xk := k } oe → SSs (X.suite a ((a, oe) :: pn)) W0 { fm with xa := a, xd := d, xc := c, xk := k } (b₀ :: suite) ms) :
    SSt X Wx fm (.Try body [.ExceptHandler (some (.Name x np)) none (b₀ :: suite) pos'] [] [] pos) (sTryO (xT hx x) mb ms) := by
  obtain ⟨T, mT, cT⟩ := hc.ex
  refine ⟨?_⟩
  intro ex σ H F w D r q
  refine WS.of (ps_try_only (x := x) (c := .ref T)
    (tb := fun Wt D σ H => ∀ (pn : List (Addr × Obj)) (xe : Value → Shared → Prop), Takes (X.tr pn xe) Wt → PassesOwn (model X.prog X.w) X.A X.env xe → WSs (X.tr pn xe) body D σ H)
    (ts := fun a cls d D σ H => ∀ (oe : Obj) (pn : List (Addr × Obj)), Zc cls d oe → (∃ vs, oe.data = .fields vs) → WSs (X.suite a ((a, oe) :: pn)) (b₀ :: suite) D σ H)
    hs hf ⟨hg, hd, .inl mT⟩ tk (fun Wt pn xe t p => ⟨fun pins s σ H D I h => h pn xe t p pins s I⟩) (fun a oe cls d pn hz hv => ⟨fun pins s σ H D I h => h oe pn hz hv pins s I⟩)) ?_
  intro pn xe t p
  refine hb _ pn xe t p ex σ H F w D r ?_
  revert q
  unfold sTryO
  cases mb w with
  | nx w1 => exact fun q => q
  | brk w1 => exact fun q => q
  | cnt w1 => exact fun q => q
  | ret d w1 => exact fun q => q
  | stuck => exact fun q => q
  | exc c w1 =>
    intro q σ1 H1 F1 cls dd e1 r1 xi
    have r1 : Rel X.K fm ex σ1 H1 F1 w1 := r1
    obtain ⟨C, d, v, h1, h2, h3, h4, h5, h6, h7⟩ := id xi
    have q : FinS X Wx fm ex F D (match xT hx x c.c with
        | some true => sLeaveO (ms { w1 with env := noX w1.env })
        | some false => .exc c w1
        | none => .stuck) := q
    cases ht : xT hx x c.c with
    | none =>
      rw [ht] at q
      exact (show False from q).elim
    | some b =>
      refine ⟨b, ?_, fun hb1 a ha => ?_, fun hb0 => ?_⟩
      · rw [h2]; exact cT.exm _ _ _ ht h1
      · subst hb1
        rw [ht] at q
        have q : FinS X Wx fm ex F D (sLeaveO (ms { w1 with env := noX w1.env })) := q
        intro oe pn hz hv
        rw [h2, h3] at hz
        refine (hsu a d C c.c oe pn ⟨hz, hv, h1⟩) ex _ H1 F1 _ _ (r1.enter a d c.c C) ?_
        revert q
        cases ms { w1 with env := noX w1.env } with
        | nx w2 => exact fun q σ' H' F' e r => q _ H' F' (e1.trans e) r.leave
        | brk w2 => exact fun q σ' H' F' e r => q _ H' F' (e1.trans e) r.leave
        | cnt w2 => exact fun q σ' H' F' e r => q _ H' F' (e1.trans e) r.leave
        | ret d w2 => exact fun q v σ' H' F' e r k => q v σ' H' F' (e1.trans e) r.leave k
        | exc c w2 => exact fun q => (show False from q).elim
        | stuck => exact fun q => (show False from q).elim
      · subst hb0
        rw [ht] at q
        have q : FinS X Wx fm ex F D (.exc c w1) := q
        exact q σ1 H1 F1 cls dd e1 r1 xi
/-! ### in the suite -/
def mExf (i : Nat) (f : Str) : W → R D := fun w => match w.env[i]? with
  | some (some (.exn c)) => if c.f = f then .ok c.d w else .stuck
  | _ => .stuck
theorem se_exf {oe : Obj} {pn : List (Addr × Obj)} {i : Nat} {x f : Str} {p pos : Pos} (h : InS X fm oe) (hN : X.N[i]? = some x := by rfl) (hv : Vis X.env.scope x := by first | exact Or.inl rfl | exact Or.inr (Or.inl rfl) | exact Or.inr (Or.inr rfl)) (hd : (x == ("__debug__" : Str)) = false := by decide)
    (hcd : (x == ("__classdict__" : Str)) = false := by decide) (hb : attributeBase (.Name x p) f X.env (eval (.Name x p) X.env) = eval (.Name x p) X.env := by rfl) : SE (X.suite fm.xa ((fm.xa, oe) :: pn)) Wx fm (.Attribute (.Name x p) f pos) (mExf i f) := by
  refine ⟨?_⟩
  intro ex σ H F w Q r q
  revert q
  unfold mExf
  split
  · rename_i c hc
    by_cases hf : c.f = f
    · rw [if_pos hf]
      intro q
      obtain ⟨v, e, rfl, k1, k2, vv, k3, k4⟩ := r.slot i _ hc
      subst hf
      refine WE.of (pe_xf (X := X) (C := fm.xk) ⟨k2.ga, k2.gg, k2.exC, k2.hdC⟩ k2.no h.z h.f (pe_var (X := X.suite fm.xa ((fm.xa, oe) :: pn)) hN hv hd hcd) hb) ?_
      refine ⟨_, e, rfl, rfl, fm.xd, _, vv, rfl, r.fh _ _ k3, by simp [List.lookup], ?_⟩
      exact q H F Kp.refl (Ex.refl _) r vv k4
    · rw [if_neg hf]
      exact fun q => (show False from q).elim
  · exact fun q => (show False from q).elim
/-- isinstance(x, C) -/
def rIsX (K : PySem.W.Frag) (D a d : Addr) (P : V → Prop) : List V → Hp → VK → Prop := fun xs H Q => ∃ (c : V) (b : Bool), xs = [.ref a, c] ∧ (∃ fs, H d = some (.xd fs)) ∧ ((∃ cv : Value, (∀ u, RelV c u → u = cv) ∧ PySem.W.kitOne K (.ref D) cv = some b) ∨
  ∃ (p : Addr) (vs : List V) (cvs : List Value), c = .ref p ∧ SqT K H p vs ∧ (∀ us, Vals vs us → us = cvs) ∧ PySem.W.kitAny K (.ref D) cvs = some b) ∧ Q (.bl b) H
theorem call_isX {oe : Obj} {pn : List (Addr × Obj)} {f : Str} (C : XCls X.K fm.xk f) (h : InS X fm oe) : CallR (X.suite fm.xa ((fm.xa, oe) :: pn)) (.builtin "isinstance") (rIsX X.K fm.xk fm.xa fm.xd fun _ => True) := by
  intro pins s σ H xs us Q I r hh
  obtain ⟨c, b, rfl, ⟨fs, hd⟩, alt, q⟩ := hh
  cases r with
  | cons rx rr =>
    cases rr with
    | cons rt rr =>
      cases rr
      cases rx
      obtain ⟨hget, _⟩ := I.pin (fm.xa, oe) (List.mem_append.mpr (.inl List.mem_cons_self))
      obtain ⟨vs, hv⟩ := h.f
      have hxo : ObjOk X.prog X.w H s.heap fm.xd (.xd fs) := I.hok fm.xd _ hd
      obtain ⟨mA, hns, hr⟩ := hxo
      obtain ⟨oL, ho, hns2⟩ := lookIn_ns hns
      have J : PySem.W.InstAt s.heap fm.xa oe fm.xk (some oL) := ⟨hget, h.z.1, by unfold PySem.W.notCls; rw [hv] <;> rfl, by rw [h.z.2]; exact ho⟩
      obtain ⟨cd, hcd, _⟩ := PySem.W.any_some C.hdC
      have Z := PySem.W.kitx_exc (K := X.K) (x := fm.xa) (C := fm.xk) (ox := oe) (od := some oL) (by rw [hcd]; rfl) C.ga C.gg C.exC C.cl C.sp C.tk C.mo
      rcases alt with ⟨cv, hcv, e⟩ | ⟨p, vs, cvs, rfl, hq, hcv, e⟩
      · have ec := hcv _ rt
        subst ec
        exact PySem.W.kia_one Z I.kIn J e (fun z => nomatch z) fun tk => ⟨.bl b, H, I.kept (t' := tk) fun _ _ z => z, rfl, q⟩
      · cases rt
        obtain ⟨its, rr2, ht, hz⟩ := I.tuple hq
        obtain ⟨dd, n, sl, hg2⟩ : ∃ dd n sl, s.heap.get? p = some ⟨.type "tuple", dd, .seq its.toArray n, sl⟩ := by
          obtain ⟨⟨oc, od, odt, osl⟩, h1, h2, n, h3⟩ := ht
          dsimp only at h2 h3
          subst h2 h3
          exact ⟨_, _, _, h1⟩
        have ec := hcv _ rr2
        subst ec
        exact PySem.W.kia_tup Z I.kIn J hg2 e (fun z => nomatch z) fun tk => ⟨.bl b, H, I.kept (t' := tk) fun _ _ z => z, rfl, q⟩
def mIsX (i : Nat) (t : Str → Option Bool) : W → R D := fun w => match w.env[i]? with
  | some (some (.exn c)) => R.lift ((t c.c).map D.bl) w
  | _ => .stuck
def anyX : List (Str → Option Bool) → Str → Option Bool
  | [], _ => some false
  | t :: r, c => match t c with
    | some true => some true
    | some false => anyX r c
    | none => none
theorem se_isX {oe : Obj} {pn : List (Addr × Obj)} {i : Nat} {x y : Str} {hx : HxT} {p p1 p2 pos : Pos} (h : InS X fm oe) (hm : X.mg "isinstance" = none) (hc : ClsK X.K X.mg hx y) (hN : X.N[i]? = some x := by rfl)
    (hv : Vis X.env.scope x := by first | exact Or.inl rfl | exact Or.inr (Or.inl rfl) | exact Or.inr (Or.inr rfl)) (hd : (x == ("__debug__" : Str)) = false := by decide) (hcd : (x == ("__classdict__" : Str)) = false := by decide)
    (hg : Gl X "isinstance" := by rfl) (hgy : Gl X y := by rfl) (hdy : (y == ("__debug__" : Str)) = false := by decide) (he : starEach [.Name x p1, .Name y p2] X.env = (false, eval (.Name x p1) X.env) :: starEach [.Name y p2] X.env := by rfl)
    (he2 : starEach [.Name y p2] X.env = (false, eval (.Name y p2) X.env) :: starEach [] X.env := by rfl) (hpl : (backTo pos (starEach [.Name y p2] X.env)).any (·.1) = false := by rfl) :
    SE (X.suite fm.xa ((fm.xa, oe) :: pn)) Wx fm (.Call (.Name "isinstance" p) [.Name x p1, .Name y p2] [] pos) (mIsX i (xT hx y)) := by
  obtain ⟨T, mT, cT⟩ := hc.ex
  refine ⟨?_⟩
  intro ex σ H F w Q r q
  revert q
  unfold mIsX
  split
  · rename_i c hc
    intro q
    obtain ⟨v, e, rfl, k1, k2, vv, k3, k4⟩ := r.slot i _ hc
    have k1 : c.c = fm.xc := k1
    refine WE.of (pe_callB (X := X.suite fm.xa ((fm.xa, oe) :: pn)) (call_isX k2 h) hg hm (by decide +kernel) (pa_cons (pe_var (X := X.suite fm.xa ((fm.xa, oe) :: pn)) hN hv hd hcd) (pa_cons (pe_glob (X := X.suite fm.xa ((fm.xa, oe) :: pn)) (v := .ref T) hgy mT rfl hdy) pa_nil he2) he) (by decide) (by decide) he hpl) ?_
    obtain ⟨z, hz, q2⟩ := q.lift
    cases ht : xT hx y c.c with
    | none => rw [ht] at hz; cases hz
    | some b =>
      rw [ht] at hz
      cases hz
      exact ⟨_, e, .ref T, b, rfl, ⟨_, r.fh _ _ k3⟩, .inl ⟨.ref T, fun u hu => hu, cT.kit _ _ _ ht (by rw [k1]; exact h.g)⟩, q2 H F Kp.refl (Ex.refl _) r _ (.bl b)⟩
  · exact fun q => (show False from q).elim
theorem se_isXB {oe : Obj} {pn : List (Addr × Obj)} {i : Nat} {x y : Str} {T : String} {hx : HxT} {p p1 p2 pos : Pos} (h : InS X fm oe) (hm : X.mg "isinstance" = none) (hc : ClsB X.K X.mg hx y T) (hby : bootBuiltins y = some (.type T)) (hN : X.N[i]? = some x := by rfl)
    (hv : Vis X.env.scope x := by first | exact Or.inl rfl | exact Or.inr (Or.inl rfl) | exact Or.inr (Or.inr rfl)) (hd : (x == ("__debug__" : Str)) = false := by decide) (hcd : (x == ("__classdict__" : Str)) = false := by decide)
    (hg : Gl X "isinstance" := by rfl) (hgy : Gl X y := by rfl) (hny : y ≠ "__name__" := by decide) (hdy : (y == ("__debug__" : Str)) = false := by decide) (he : starEach [.Name x p1, .Name y p2] X.env = (false, eval (.Name x p1) X.env) :: starEach [.Name y p2] X.env := by rfl)
    (he2 : starEach [.Name y p2] X.env = (false, eval (.Name y p2) X.env) :: starEach [] X.env := by rfl) (hpl : (backTo pos (starEach [.Name y p2] X.env)).any (·.1) = false := by rfl) :
    SE (X.suite fm.xa ((fm.xa, oe) :: pn)) Wx fm (.Call (.Name "isinstance" p) [.Name x p1, .Name y p2] [] pos) (mIsX i (xT hx y)) := by
  refine ⟨?_⟩
  intro ex σ H F w Q r q
  revert q
  unfold mIsX
  split
  · rename_i c hc'
    intro q
    obtain ⟨v, e, rfl, k1, k2, vv, k3, k4⟩ := r.slot i _ hc'
    have k1 : c.c = fm.xc := k1
    refine WE.of (pe_callB (X := X.suite fm.xa ((fm.xa, oe) :: pn)) (call_isX k2 h) hg hm (by decide +kernel) (pa_cons (pe_var (X := X.suite fm.xa ((fm.xa, oe) :: pn)) hN hv hd hcd) (pa_cons (pe_bltn (X := X.suite fm.xa ((fm.xa, oe) :: pn)) (v := .ty T) hgy hc.none hby rfl hny hdy) pa_nil he2) he) (by decide) (by decide) he hpl) ?_
    obtain ⟨z, hz, q2⟩ := q.lift
    cases ht : xT hx y c.c with
    | none => rw [ht] at hz; cases hz
    | some b =>
      rw [ht] at hz
      cases hz
      exact ⟨_, e, .ty T, b, rfl, ⟨_, r.fh _ _ k3⟩, .inl ⟨.type T, fun u hu => hu, hc.kit _ _ _ ht (by rw [k1]; exact h.g)⟩, q2 H F Kp.refl (Ex.refl _) r _ (.bl b)⟩
  · exact fun q => (show False from q).elim
inductive ClsN (X : Cx) (hx : HxT) : List Expr → List (Str → Option Bool) → Prop
  | nil : ClsN X hx [] []
  | cons {y : Str} {p : Pos} {es : List Expr} {ts : List (Str → Option Bool)} (h : ClsK X.K X.mg hx y) (hg : Gl X y) (hd : (y == ("__debug__" : Str)) = false) (r : ClsN X hx es ts) : ClsN X hx (.Name y p :: es) (xT hx y :: ts)
theorem ClsN.pa {hx : HxT} {a : Addr} {pn : List (Addr × Obj)} : ∀ {es : List Expr} {ts : List (Str → Option Bool)}, ClsN X hx es ts → ∃ (Ts : List Addr) (t : TA), Ts.length = es.length ∧ PA (X.suite a pn) es t ∧ (∀ σ H Q, Q (Ts.map V.ref) H → t σ H Q) ∧
    ∀ nm b C, anyX ts nm = some b → X.mg nm = some (.ref C) → PySem.W.kitAny X.K (.ref C) (Ts.map Value.ref) = some b
  | _, _, .nil => ⟨[], _, rfl, pa_nil, fun _ _ _ h => h, fun nm b C h _ => h⟩
  | _, _, .cons (y := y) (es := es) h hg hd r => by
    obtain ⟨Ts, t, h0, h1, h2, h3⟩ := r.pa (a := a) (pn := pn)
    obtain ⟨T, mT, cT⟩ := h.ex
    refine ⟨T :: Ts, _, by simp [h0], pa_cons (pe_glob (X := X.suite a pn) (v := .ref T) hg mT rfl hd) h1 rfl, fun σ H Q q => h2 σ H _ q, fun nm b C e m => ?_⟩
    have e : (match xT hx y nm with
      | some true => some true
      | some false => anyX _ nm
      | none => none) = some b := e
    show PySem.W.kitAny X.K (.ref C) (.ref T :: Ts.map Value.ref) = some b
    unfold PySem.W.kitAny
    cases ht : xT hx y nm with
    | none => rw [ht] at e; cases e
    | some c =>
      rw [cT.kit _ _ _ ht m]
      rw [ht] at e
      cases c with
      | true => exact e
      | false => exact h3 nm b C e m
theorem vals_refs : ∀ (Ts : List Addr) (us : List Value), Vals (Ts.map V.ref) us → us = Ts.map Value.ref
  | [], us, h => by cases h; rfl
  | T :: Ts, us, h => by
    cases h with
    | cons hu h =>
      rw [vals_refs Ts _ h, List.map_cons]
      exact congrArg (· :: _) hu
theorem se_isXT {oe : Obj} {pn : List (Addr × Obj)} {i k : Nat} {x : Str} {hx : HxT} {es : List Expr} {ts : List (Str → Option Bool)} {p p1 p2 pos : Pos} (h : InS X fm oe) (hm : X.mg "isinstance" = none) (hc : ClsN X hx es ts) (hlen : es.length ≤ 1000000) (hN : X.N[i]? = some x := by rfl)
    (hv : Vis X.env.scope x := by first | exact Or.inl rfl | exact Or.inr (Or.inl rfl) | exact Or.inr (Or.inr rfl)) (hd : (x == ("__debug__" : Str)) = false := by decide) (hcd : (x == ("__classdict__" : Str)) = false := by decide)
    (hg : Gl X "isinstance" := by rfl) (he : starEach [.Name x p1, .Tuple es k p2] X.env = (false, eval (.Name x p1) X.env) :: starEach [.Tuple es k p2] X.env := by rfl)
    (he2 : starEach [.Tuple es k p2] X.env = (false, eval (.Tuple es k p2) X.env) :: starEach [] X.env := by rfl) (hpl : (backTo pos (starEach [.Tuple es k p2] X.env)).any (·.1) = false := by rfl) :
    SE (X.suite fm.xa ((fm.xa, oe) :: pn)) Wx fm (.Call (.Name "isinstance" p) [.Name x p1, .Tuple es k p2] [] pos) (mIsX i (anyX ts)) := by
  obtain ⟨Ts, t, h0, h1, h2, h3⟩ := hc.pa (a := fm.xa) (pn := (fm.xa, oe) :: pn)
  refine ⟨?_⟩
  intro ex σ H F w Q r q
  revert q
  unfold mIsX
  split
  · rename_i c hc'
    intro q
    obtain ⟨v, e, rfl, k1, k2, vv, k3, k4⟩ := r.slot i _ hc'
    have k1 : c.c = fm.xc := k1
    refine WE.of (pe_callB (X := X.suite fm.xa ((fm.xa, oe) :: pn)) (call_isX k2 h) hg hm (by decide +kernel) (pa_cons (pe_var (X := X.suite fm.xa ((fm.xa, oe) :: pn)) hN hv hd hcd) (pa_cons (pe_tup h1) pa_nil he2) he) (by decide) (by decide) he hpl) ?_
    obtain ⟨z, hz, q2⟩ := q.lift
    cases ht : anyX ts c.c with
    | none => rw [ht] at hz; cases hz
    | some b =>
      rw [ht] at hz
      cases hz
      refine ⟨_, e, h2 _ _ _ ⟨?_, fun tp htp => ?_⟩⟩
      · rw [List.length_map, h0]
        exact line_of hlen
      · have g : Gr H F (upd H tp (.tup (Ts.map V.ref))) F := Gr.dark r.fh htp
        exact ⟨.ref tp, b, rfl, ⟨_, g.hh _ _ (r.fh _ _ k3)⟩, .inr ⟨tp, _, _, rfl, .inl (.inl upd_same), vals_refs Ts, h3 _ _ _ ht (by rw [k1]; exact h.g)⟩, q2 _ _ g.kp g.ff (r.gr g) _ (.bl b)⟩
  · exact fun q => (show False from q).elim
end
end TD

set_option Elab.async false
set_option linter.all false
set_option maxRecDepth 100000
set_option maxHeartbeats 4000000
namespace TD
open PySem PySem.Spec PyProof.Rows L2 He
open PySem.W (findIn typeIn subIn mroIn nsIn keepIn codeIn hasDictIn specialIn takesIn ks_superIn exmOne kitOne ksFn)
/-! ### the head's facts of own errors -/
structure ErrD where
  nm : Str
  qual : Str
  fld : Str
  params : Arguments
  body : List Stmt
  scope : Scope
abbrev FnI : Type := Option (Str × Str × Arguments × FuncBody × Scope × Addr × List Str × Addr)
def iAd (K : PySem.W.Frag) (x : Str) : Addr := ma K (ga K x) "__init__"
def fnI (K : PySem.W.Frag) (x : Str) : FnI := match K.lookup (iAd K x) with
  | some ⟨_, _, .func fd, _⟩ => some (fd.name, fd.qualname, fd.params, fd.body, fd.scope, fd.globals, fd.closure.map (·.1), fd.builtins)
  | _ => none
def ErrD.val (d : ErrD) : FnI := some (("__init__" : Str), d.qual, d.params, FuncBody.stmts d.body, d.scope, mainGlobals, [("__class__" : Str)], builtinsNs)
def oexB (K : PySem.W.Frag) (C : Addr) : Bool := match K.lookup C with
  | some ⟨.type "type", _, .cls cd, sl⟩ => (match cd.mro, sl.toList with
    | .ref C' :: bm, [_, _, _, _, some (.builtin n), _] => C' == C && n == "ValueError.__new__" && !cd.hasDel && cd.hasDict && PySem.HandSPX.refsVE bm
    | _, _ => false)
  | _ => false
theorem oexB_ok {K : PySem.W.Frag} {C : Addr} (q : oexB K C = true) : ∃ nm q N bs bm sn sub ab col dd k0 k1 k2 k3 k5, K.lookup C = some (excClassObj nm q C N bs bm true sn sub ab col dd k0 k1 k2 k3 k5 "ValueError.__new__") ∧ PySem.HandSPX.refsVE bm = true := by
  unfold oexB at q
  split at q
  · rename_i dd cd sl ho
    split at q
    · rename_i C' bm k0 k1 k2 k3 n k5 hm hs
      simp only [Bool.and_eq_true, beq_iff_eq, Bool.not_eq_true'] at q
      obtain ⟨⟨⟨⟨rfl, rfl⟩, hdel⟩, hd'⟩, ht⟩ := q
      obtain ⟨nm, bs, mro, ns, qn, hd, sn, sub, ab, col, del⟩ := cd
      dsimp only at hm hdel hd'
      subst hm hdel hd'
      have hsl : sl = #[k0, k1, k2, k3, some (.builtin "ValueError.__new__"), k5] := by
        obtain ⟨l⟩ := sl
        simp only at hs
        rw [hs]
      subst hsl
      exact ⟨nm, qn, ns, bs, bm, sn, sub, ab, col, dd, k0, k1, k2, k3, k5, ho, ht⟩
    · cases q
  · cases q
def xclsB (K : PySem.W.Frag) (C : Addr) (f : Str) : Bool :=
  eqO (findIn K (.ref C) "__getattribute__") (some (some (.builtin "BaseException.__getattribute__"))) && (eqO (findIn K (.ref C) "__getattr__") (some none) && (decide (subIn K (.ref C) (.type "BaseException") = some true) && (hasDictIn K C && (eqO (findIn K (.ref C) f) (some none) &&
  (eqO (findIn K (.ref C) "__class__") (some (some (.builtin "object.__class__"))) && (eqO (specialIn K (.builtin "object.__class__") "__get__") (some (some (.builtin "getset_descriptor.__get__"))) && (decide (takesIn K (.builtin "object.__class__") = some true) && decide (mroIn K C (.type "object") = some true))))))))
theorem xclsB_ok {K : PySem.W.Frag} {C : Addr} {f : Str} (h : xclsB K C f = true) : XCls K C f := by
  obtain ⟨h1, h⟩ := ba h
  obtain ⟨h2, h⟩ := ba h
  obtain ⟨h3, h⟩ := ba h
  obtain ⟨h4, h⟩ := ba h
  obtain ⟨h5, h⟩ := ba h
  obtain ⟨h6, h⟩ := ba h
  obtain ⟨h7, h⟩ := ba h
  obtain ⟨h8, h9⟩ := ba h
  exact ⟨eqO_ok h1, eqO_ok h2, of_decide_eq_true h3, h4, eqO_ok h5, eqO_ok h6, eqO_ok h7, of_decide_eq_true h8, of_decide_eq_true h9⟩
def isN : Value → Bool
  | .none => true
  | _ => false
theorem isN_ok {v : Value} (h : isN v = true) : v = .none := by cases v <;> first | rfl | cases h
def cellB (K : PySem.W.Frag) (cc C : Addr) : Bool := match K.lookup cc with
  | some ⟨_, _, .cell (some (.ref C')), _⟩ => C' == C
  | _ => false
theorem cellB_ok {K : PySem.W.Frag} {cc C : Addr} (h : cellB K cc C = true) : ∃ (cl : Value) (cld : Option Addr) (csl : Array (Option Value)), K.lookup cc = some ⟨cl, cld, .cell (some (.ref C)), csl⟩ := by
  unfold cellB at h
  split at h
  · rename_i e
    rw [beq_iff_eq.mp h] at e
    exact ⟨_, _, _, e⟩
  · cases h
def cdoB (K : PySem.W.Frag) (file : Str) (cda : Addr) : Bool := match K.lookup cda with
  | some ⟨_, _, .fields vs, _⟩ => (match (vs[2]? : Option Value) with
    | some (Value.str f _) => file == f
    | _ => false)
  | _ => false
theorem cdoB_ok {K : PySem.W.Frag} {file : Str} {cda : Addr} (h : cdoB K file cda = true) : ∃ (ccl : Value) (cdd : Option Addr) (vs : Array Value) (ccs : Array (Option Value)) (f : Str) (tf : Tok), K.lookup cda = some ⟨ccl, cdd, .fields vs, ccs⟩ ∧ vs[2]? = some (.str f tf) ∧ (file == f) = true := by
  unfold cdoB at h
  split at h
  · rename_i e
    split at h
    · rename_i e2
      exact ⟨_, _, _, _, _, _, e, e2, h⟩
    · cases h
  · cases h
def initC (K : PySem.W.Frag) (file : Str) (d : ErrD) (cl : List (Str × Addr)) (code df kw : Value) : Bool := match cl, code with
  | [(_, cc)], .ref cda => isN df && (isN kw && (codeIn K code d.qual && (cellB K cc (ga K d.nm) && cdoB K file cda)))
  | _, _ => false
def initB (K : PySem.W.Frag) (file : Str) (d : ErrD) : Bool := match K.lookup (iAd K d.nm) with
  | some ⟨_, _, .func fd, _⟩ => initC K file d fd.closure fd.code fd.defaults fd.kwdefaults
  | _ => false
def errB (file : Str) (K : PySem.W.Frag) (d : ErrD) : Bool :=
  eqO (nsIn K mainGlobals d.nm) (some (some (.ref (ga K d.nm)))) && (oexB K (ga K d.nm) && (eqO (findIn K (.ref (ga K d.nm)) "__setattr__") (some (some (.builtin "object.__setattr__"))) && (decide (typeIn K (.ref (ga K d.nm)) = some (.type "type")) && (keepIn K (.ref (ga K d.nm)) && (xclsB K (ga K d.nm) d.fld &&
  (eqO (findIn K (.ref (ga K d.nm)) "__init__") (some (some (.ref (iAd K d.nm)))) && (decide (typeIn K (.ref (iAd K d.nm)) = some (.type "function")) && (initB K file d && (eqO (ks_superIn K (ga K d.nm) (ga K d.nm) "__init__") (some (some (.builtin "ValueError.__init__"))) &&
  (decide (subIn K (.ref (ga K d.nm)) (.type "ValueError") = some true) && (decide (mroIn K (ga K d.nm) (.ref (ga K d.nm)) = some true) && eqO (nsIn K cStatics "thirdparty.any") (some none))))))))))))
theorem init_ok {K : PySem.W.Frag} {file : Str} {d : ErrD} (c : initB K file d = true) (e : fnI K d.nm = d.val) : ∃ (cc cda : Addr), (∃ (oc : Value) (od : Option Addr) (doc pm : Value) (an : Option Addr) (ct : Value) (osl : Array (Option Value)), K.lookup (iAd K d.nm) = some ⟨oc, od, .func (ksFn "__init__" d.qual d.params d.body d.scope .none .none doc pm an (.ref cda) ct cc), osl⟩) ∧
    codeIn K (.ref cda) d.qual = true ∧ cellB K cc (ga K d.nm) = true ∧ cdoB K file cda = true := by
  unfold initB at c
  unfold fnI at e
  cases q : K.lookup (iAd K d.nm) with
  | none => rw [q] at c; cases c
  | some o =>
    obtain ⟨oc, od, dt, osl⟩ := o
    rw [q] at c e
    cases dt with
    | func fd =>
      obtain ⟨n1, n2, n3, n4, n5, n6, n7, n8, n9, n10, n11, n12, n13, n14, n15⟩ := fd
      have e2 : (some (n1, n2, n3, n4, n5, n6, n7.map (·.1), n15) : FnI) = some (("__init__" : Str), d.qual, d.params, FuncBody.stmts d.body, d.scope, mainGlobals, [("__class__" : Str)], builtinsNs) := e
      simp only [Option.some.injEq, Prod.mk.injEq] at e2
      obtain ⟨h1, h2, h3, h4, h5, h6, h7, h8⟩ := e2
      subst h1 h2 h3 h4 h5 h6 h8
      have c : initC K file d n7 n13 n8 n9 = true := c
      unfold initC at c
      split at c
      · rename_i fst cc cda _
        obtain ⟨k1, c⟩ := ba c
        obtain ⟨k2, c⟩ := ba c
        obtain ⟨k3, c⟩ := ba c
        obtain ⟨k4, k5⟩ := ba c
        have k1 := isN_ok k1
        have k2 := isN_ok k2
        subst k1 k2
        have hx : fst = ("__class__" : Str) := by simpa using h7
        subst hx
        exact ⟨cc, cda, ⟨_, _, _, _, _, _, _, rfl⟩, k3, k4, k5⟩
      · cases c
    | _ => cases c
/-- what the words of an own error's __init__ must be -/
structure ErrW (P : Program) (file : Str) (d : ErrD) (msg : Str) (a1 a2 : PySem.Arg) (z : EPos) : Prop where
  par : d.params = eArgs a1 a2
  bdy : d.body = eBody msg d.fld z
  arg1 : a1.arg = "self"
  arg2 : a2.arg = d.fld
  sc : NdefX.NScope ["self", d.fld, "__class__"] ["self", d.fld] ["__class__"] d.scope
  dbg : (d.fld == ("__debug__" : Str)) = false
  scs : d.scope.names.lookup ("super" : Str) = some .globalImplicit
  file : P.main.file = file
  top : (P.main.scope.names.lookup ("super" : Str)).isSome = false
  B : ∀ fI cc cda : Addr, OwnB d.qual msg d.fld fI cc cda a1 a2 z d.scope
theorem err_ok {P : Program} {w : World} {K : PySem.W.Frag} {h : Heap} {mg : Str → Option Value} {base : Heap} {file msg : Str} {d : ErrD} {a1 a2 : PySem.Arg} {z : EPos} (X : K.In h) (G : h.Ns mainGlobals mg) (c : errB file K d = true) (e : fnI K d.nm = d.val) (hs : mg "super" = none) (Wd : ErrW P file d msg a1 a2 z) : Err P w K mg base d.nm d.fld := by
  unfold errB at c
  obtain ⟨c1, c⟩ := ba c
  obtain ⟨c2, c⟩ := ba c
  obtain ⟨c3, c⟩ := ba c
  obtain ⟨c4, c⟩ := ba c
  obtain ⟨c5, c⟩ := ba c
  obtain ⟨c6, c⟩ := ba c
  obtain ⟨c7, c⟩ := ba c
  obtain ⟨c8, c⟩ := ba c
  obtain ⟨c9, c⟩ := ba c
  obtain ⟨c10, c⟩ := ba c
  obtain ⟨c11, c⟩ := ba c
  obtain ⟨c12, c13⟩ := ba c
  have xK := xclsB_ok c6
  have gC := PySem.W.mg_of X G (eqO_ok c1)
  have T : OexC K (ga K d.nm) := ⟨oexB_ok c2, eqO_ok c3, xK.exC, of_decide_eq_true c4, c5⟩
  obtain ⟨cc, cda, hf, hcode, hcell, hcdo⟩ := init_ok c9 e
  have hf2 := hf
  rw [Wd.par, Wd.bdy] at hf2
  have cdo := cdoB_ok hcdo
  rw [← Wd.file] at cdo
  have O : OwnE P K mg d.nm d.qual msg d.fld (ga K d.nm) (iAd K d.nm) cc cda a1 a2 z d.scope :=
    ⟨T, gC, eqO_ok c7, of_decide_eq_true c8, xK.no, hf2, hcode, cdo, cellB_ok hcell, eqO_ok c10, of_decide_eq_true c11, of_decide_eq_true c12, hs, eqO_ok c13, Wd.top, Wd.arg1, Wd.arg2, Wd.sc, Wd.dbg, Wd.scs⟩
  obtain ⟨fd, F1, B1⟩ := own_init (w := w) (base := base) (CX := L2.CX P w) O (Wd.B _ _ _)
  exact ⟨_, _, fd, gC, T, xK, eqO_ok c7, of_decide_eq_true c8, F1, B1⟩
/-- the table of classes -/
def hxB (K : PySem.W.Frag) (tyB : Str → Option String) (hx : HxT) : Bool := hx.all fun q => eqO (nsIn K mainGlobals q.1.1) (some (some (.ref (ga K q.1.1)))) && (match tyB q.1.2 with
  | some T => eqO (nsIn K mainGlobals q.1.2) (some none) && decide (kitOne K (.ref (ga K q.1.1)) (.type T) = some q.2)
  | none => eqO (nsIn K mainGlobals q.1.2) (some (some (.ref (ga K q.1.2)))) && (decide (kitOne K (.ref (ga K q.1.1)) (.ref (ga K q.1.2)) = some q.2) && decide (exmOne K (.ref (ga K q.1.1)) (.ref (ga K q.1.2)) = some q.2)))
theorem hx_mem {hx : HxT} {y nm : Str} {b : Bool} (h : xT hx y nm = some b) : ((nm, y), b) ∈ hx := by
  unfold xT at h
  induction hx with
  | nil => cases h
  | cons q r ih =>
    obtain ⟨⟨q1, q2⟩, c⟩ := q
    rw [List.lookup_cons] at h
    split at h
    · rename_i e
      have e := beq_iff_eq.mp e
      cases e
      cases h
      exact List.mem_cons_self ..
    · exact List.mem_cons_of_mem _ (ih h)
theorem clsK_ok {K : PySem.W.Frag} {h : Heap} {mg : Str → Option Value} {tyB : Str → Option String} {hx : HxT} {y : Str} (X : K.In h) (G : h.Ns mainGlobals mg) (c : hxB K tyB hx = true) (hy : tyB y = none) (hin : ∃ nm b, ((nm, y), b) ∈ hx) : ClsK K mg hx y := by
  have all := List.all_eq_true.mp c
  have key : ∀ nm b, ((nm, y), b) ∈ hx → mg nm = some (.ref (ga K nm)) ∧ mg y = some (.ref (ga K y)) ∧ kitOne K (.ref (ga K nm)) (.ref (ga K y)) = some b ∧ exmOne K (.ref (ga K nm)) (.ref (ga K y)) = some b := fun nm b hm => by
    have z := all _ hm
    obtain ⟨z1, z2⟩ := ba z
    dsimp only at z2
    rw [hy] at z2
    obtain ⟨z3, z4⟩ := ba z2
    obtain ⟨z5, z6⟩ := ba z4
    exact ⟨PySem.W.mg_of X G (eqO_ok z1), PySem.W.mg_of X G (eqO_ok z3), of_decide_eq_true z5, of_decide_eq_true z6⟩
  obtain ⟨nm0, b0, h0⟩ := hin
  refine ⟨ga K y, (key _ _ h0).2.1, fun nm b C e m => ?_, fun nm b C e m => ?_⟩
  · obtain ⟨k1, k2, k3, k4⟩ := key nm b (hx_mem e)
    rw [k1] at m; cases m
    exact k4
  · obtain ⟨k1, k2, k3, k4⟩ := key nm b (hx_mem e)
    rw [k1] at m; cases m
    exact k3
theorem clsB_ok {K : PySem.W.Frag} {h : Heap} {mg : Str → Option Value} {tyB : Str → Option String} {hx : HxT} {y : Str} {T : String} (X : K.In h) (G : h.Ns mainGlobals mg) (c : hxB K tyB hx = true) (hy : tyB y = some T) (hin : ∃ nm b, ((nm, y), b) ∈ hx) : ClsB K mg hx y T := by
  have all := List.all_eq_true.mp c
  have key : ∀ nm b, ((nm, y), b) ∈ hx → mg nm = some (.ref (ga K nm)) ∧ mg y = none ∧ kitOne K (.ref (ga K nm)) (.type T) = some b := fun nm b hm => by
    have z := all _ hm
    obtain ⟨z1, z2⟩ := ba z
    dsimp only at z2
    rw [hy] at z2
    obtain ⟨z3, z4⟩ := ba z2
    exact ⟨PySem.W.mg_of X G (eqO_ok z1), PySem.W.mg_none_of X G (eqO_ok z3), of_decide_eq_true z4⟩
  obtain ⟨nm0, b0, h0⟩ := hin
  refine ⟨(key _ _ h0).2.1, fun nm b C e m => ?_⟩
  obtain ⟨k1, k2, k3⟩ := key nm b (hx_mem e)
  rw [k1] at m; cases m
  exact k3
/-! ### the Hook -/
abbrev AlX : Type := AlD × Bool × List FnI
def obsX (fa : List Fa) (fn : List DefD) (file : Str) (tyB : Str → Option String) (hx : HxT) (er : List ErrD) (ck : PySem.W.Frag → Bool) (K : PySem.W.Frag) : AlX := (obsD fa fn K, (er.all fun d => errB file K d) && (hxB K tyB hx && ck K), er.map fun d => fnI K d.nm)
def valX (fn : List DefD) (er : List ErrD) : AlX := (valD fn, true, er.map ErrD.val)
def frX (n : Nat) (g : Addr → Option Obj) : PySem.W.Frag := frG g (asD g n ++ [cStatics])
def obsXG (n : Nat) (fa : List Fa) (fn : List DefD) (file : Str) (tyB : Str → Option String) (hx : HxT) (er : List ErrD) (ck : PySem.W.Frag → Bool) (g : Addr → Option Obj) : AlX := obsX fa fn file tyB hx er ck (frX n g)
def hookX (n : Nat) (fa : List Fa) (fn : List DefD) (file : Str) (tyB : Str → Option String) (hx : HxT) (er : List ErrD) (ck : PySem.W.Frag → Bool) : PySem.W.Hook where
  α := AlX
  obs := fun s => obsXG n fa fn file tyB hx er ck s.heap.get?
  val := fun _ => valX fn er
  says := fun _ h => ∃ K : PySem.W.Frag, K.In h ∧ obsX fa fn file tyB hx er ck K = valX fn er
  of := fun _ _ e => ⟨_, frG_in, e⟩
  keeps := fun _ _ _ ⟨K, hK, c⟩ k => ⟨K, PySem.W.Frag.In.keeps hK k, c⟩
theorem obsXG_eq {n : Nat} {fa : List Fa} {fn : List DefD} {file : Str} {tyB : Str → Option String} {hx : HxT} {er : List ErrD} {ck : PySem.W.Frag → Bool} {g : Addr → Option Obj} {s : Shared} (h : ∀ a, g a = s.heap.get? a) : obsXG n fa fn file tyB hx er ck g = (hookX n fa fn file tyB hx er ck).obs s := by
  have e : g = s.heap.get? := funext h
  rw [e] <;> rfl
section
variable {fa : List Fa} {fn : List DefD} {file : Str} {tyB : Str → Option String} {hx : HxT} {er : List ErrD} {ck : PySem.W.Frag → Bool} {K : PySem.W.Frag}
theorem saysX_d (c : obsX fa fn file tyB hx er ck K = valX fn er) : SaysD fa fn K := congrArg (fun z : AlX => z.1) c
theorem saysX_hx (c : obsX fa fn file tyB hx er ck K = valX fn er) : hxB K tyB hx = true := (ba (ba (show ((er.all fun d => errB file K d) && (hxB K tyB hx && ck K)) = true from congrArg (fun z : AlX => z.2.1) c)).2).1
theorem saysX_ck (c : obsX fa fn file tyB hx er ck K = valX fn er) : ck K = true := (ba (ba (show ((er.all fun d => errB file K d) && (hxB K tyB hx && ck K)) = true from congrArg (fun z : AlX => z.2.1) c)).2).2
theorem saysX_er (c : obsX fa fn file tyB hx er ck K = valX fn er) (i : Nat) {d : ErrD} (h : er[i]? = some d) : errB file K d = true ∧ fnI K d.nm = d.val := by
  have c1 := (ba (show ((er.all fun d => errB file K d) && (hxB K tyB hx && ck K)) = true from congrArg (fun z : AlX => z.2.1) c)).1
  have e : er.map (fun d => fnI K d.nm) = er.map ErrD.val := congrArg (fun z : AlX => z.2.2) c
  have e2 : (er.map fun d => fnI K d.nm)[i]? = (er.map ErrD.val)[i]? := by rw [e]
  rw [List.getElem?_map, List.getElem?_map, h] at e2
  exact ⟨List.all_eq_true.mp c1 d (List.mem_of_getElem? h), Option.some.inj e2⟩
end
end TD
namespace TD
open PySem
/-! ### the words of a class -/
def clsBody : Stmt → List Stmt
  | .ClassDef _ _ _ b _ _ _ _ _ _ _ => b
  | _ => []
def argAt (a : Arguments) (i : Nat) : PySem.Arg := a.args.getD i { arg := "", annotation := none, pos := ⟨0, 0, 0, 0⟩ }
def zOf : List Stmt → EPos
  | [.Expr (.Call (.Attribute (.Call (.Name _ p0) _ _ p1) _ p2) [.Constant _ k p3] _ p4) p5, .Assign [.Attribute (.Name _ q1) _ q2] (.Name _ q3) q4] => ⟨p0, p1, p2, p3, p4, p5, q1, q2, q3, q4, k⟩
  | _ => ⟨⟨0, 0, 0, 0⟩, ⟨0, 0, 0, 0⟩, ⟨0, 0, 0, 0⟩, ⟨0, 0, 0, 0⟩, ⟨0, 0, 0, 0⟩, ⟨0, 0, 0, 0⟩, ⟨0, 0, 0, 0⟩, ⟨0, 0, 0, 0⟩, ⟨0, 0, 0, 0⟩, ⟨0, 0, 0, 0⟩, 0⟩
end TD

set_option Elab.async false
set_option linter.all false
set_option maxRecDepth 100000
set_option maxHeartbeats 4000000
namespace TD
open PySem PySem.Spec PyProof.Rows L2
section
variable {X : Cx} {Wx : WX} {fm : Fm}
/-! ### zip, enumerate of lists -/
theorem wk_pair {K : PySem.W.Frag} {a0 : Addr} {J : It} {G : Hp → Prop} {f g : Nat → Option V} {ds : List D} {F : Hp} (w : Walk J ds.length G (YPair f g)) (hG : ∀ H, Ex F H → G H)
    (h : ∀ i x y, i < ds.length → f i = some x → g i = some y → ∃ d e, ds[i]? = some (.tup [d, e]) ∧ Rp K a0 F x d ∧ Rp K a0 F y e) : Wk K a0 J ds F := by
  refine ⟨G, YPair f g, w, hG, fun i H F1 v H' hi e1 e2 y => ?_⟩
  obtain ⟨T, x, y, rfl, hT, rfl, hx, hy⟩ := y
  obtain ⟨d, e, h1, h2, h3⟩ := h i x y hi hx hy
  have gr : Gr H F1 (upd H T (.tup [x, y])) (upd F1 T (.tup [x, y])) := Gr.new e2 hT
  exact ⟨_, .tup [d, e], h1, gr, .tup (.inl (.inl upd_same)) (.cons ((h2.ex e1).ex gr.ff) (.cons ((h3.ex e1).ex gr.ff) .nil))⟩
def zipD (xs ys : List D) : List D := List.zipWith (fun a b => D.tup [a, b]) xs ys
def mZip (ma mb : W → R D) : W → R (List D) := fun w => (ma w).bind fun x w1 => (mb w1).bind fun y w2 => R.lift (match x, y with | .lst a, .lst b => some (zipD a b) | _, _ => none) w2
theorem si_zip {e e2 : Expr} {p pos tpos : Pos} {elts : List Expr} {kk : Nat} {ma mb : W → R D} (ha : SE X Wx fm e ma) (hb : SE X Wx fm e2 mb) (hm : X.mg "zip" = none) (hg : Gl X "zip" := by rfl)
    (hs : starEach [e, e2] X.env = (false, eval e X.env) :: starEach [e2] X.env := by rfl) (hs2 : starEach [e2] X.env = (false, eval e2 X.env) :: starEach [] X.env := by rfl) (hpl : (backTo pos (starEach [e2] X.env)).any (·.1) = false := by rfl) :
    SIt X Wx fm (.Tuple elts kk tpos) (.Call (.Name "zip" p) [e, e2] [] pos) (mZip ma mb) := by
  refine ⟨?_⟩
  intro ex σ H F w R r q
  refine WI.of (pi_zip hg hm (pa_cons pe_we (pa_cons pe_we pa_nil hs2) hs) hs hpl) ?_
  show WE X e σ H fun x H1 => WE X e2 σ H1 fun y H2 => ∃ a b xs ys, [x, y] = [.ref a, .ref b] ∧ SqL X.K H2 a xs ∧ SqL X.K H2 b ys ∧ R (Itz X.K a b) H2
  refine ha ex σ H F w _ r ((Fin.bind q).imp fun x w1 H1 F1 ⟨r1, k1, e1, q1⟩ v hv => ?_)
  refine hb ex σ H1 F1 w1 _ r1 ((Fin.bind q1).imp fun y w2 H2 F2 ⟨r2, k2, e2, q2⟩ u hu => ?_)
  obtain ⟨z, hz, q3⟩ := q2.lift
  have hv := hv.ex e2
  cases hv with
  | @lst p1 vs l h1 h2 =>
    cases hu with
    | @lst p2 us l2 h3 h4 =>
      cases hz
      refine ⟨p1, p2, vs, us, rfl, .inl (.inl (r2.fh _ _ h1)), .inl (.inl (r2.fh _ _ h3)), q3 H2 F2 Kp.refl (Ex.refl _) r2 _ ?_⟩
      have hn : (zipD l l2).length = min vs.length us.length := by simp [zipD, h2.len, h4.len]
      refine wk_pair (walk_zip hn) (fun H' e => ⟨.inl (.inl (e _ _ h1)), .inl (.inl (e _ _ h3))⟩) fun i x y hi hx hy => ?_
      obtain ⟨d, g1, g2⟩ := h2.getv hx
      obtain ⟨d2, g3, g4⟩ := h4.getv hy
      exact ⟨d, d2, by simp [zipD, List.getElem?_zipWith, g1, g3], g2, g4⟩
    | _ => cases hz
  | _ => cases hu <;> cases hz
def enumD (n : Nat) : List D → List D
  | [] => []
  | d :: ds => .tup [.int n, d] :: enumD (n + 1) ds
theorem enumD_len : ∀ (n : Nat) (ds : List D), (enumD n ds).length = ds.length
  | _, [] => rfl
  | n, d :: ds => by simp [enumD, enumD_len (n + 1) ds]
theorem enumD_get : ∀ (n i : Nat) (ds : List D) (d : D), ds[i]? = some d → (enumD n ds)[i]? = some (.tup [.int ((n + i : Nat) : Int), d])
  | n, i, [], d, h => by simp at h
  | n, 0, x :: ds, d, h => by simp at h; subst h; simp [enumD]
  | n, i + 1, x :: ds, d, h => by
    have h : ds[i]? = some d := by simpa using h
    have := enumD_get (n + 1) i ds d h
    rw [show n + (i + 1) = n + 1 + i by omega]
    simpa [enumD] using this
def mEnum (ma : W → R D) : W → R (List D) := fun w => (ma w).bind fun x w1 => R.lift (match x with | .lst a => some (enumD 0 a) | _ => none) w1
theorem si_enum {e : Expr} {p pos tpos : Pos} {elts : List Expr} {kk : Nat} {ma : W → R D} (ha : SE X Wx fm e ma) (hm : X.mg "enumerate" = none) (hg : Gl X "enumerate" := by rfl)
    (hs : starEach [e] X.env = [(false, eval e X.env)] := by rfl) (hs2 : starEach [e] X.env = (false, eval e X.env) :: starEach [] X.env := by rfl) :
    SIt X Wx fm (.Tuple elts kk tpos) (.Call (.Name "enumerate" p) [e] [] pos) (mEnum ma) := by
  refine ⟨?_⟩
  intro ex σ H F w R r q
  refine WI.of (pi_enum hg hm (pa_cons pe_we pa_nil hs2) hs) ?_
  show WE X e σ H fun x H1 => ∃ a xs, [x] = [.ref a] ∧ SqL X.K H1 a xs ∧ R (Ite X.K a) H1
  refine ha ex σ H F w _ r ((Fin.bind q).imp fun x w1 H1 F1 ⟨r1, k1, e1, q1⟩ v hv => ?_)
  obtain ⟨z, hz, q3⟩ := q1.lift
  cases hv with
  | @lst p1 vs l h1 h2 =>
    cases hz
    refine ⟨p1, vs, rfl, .inl (.inl (r1.fh _ _ h1)), q3 H1 F1 Kp.refl (Ex.refl _) r1 _ ?_⟩
    refine wk_pair (G := fun H' => SqL X.K H' p1 vs) (f := fun i => some (.int (i : Nat))) (g := fun i => vs[i]?) (by rw [enumD_len, ← h2.len]; exact walk_enum) (fun H' e => .inl (.inl (e _ _ h1))) fun i x y hi hx hy => ?_
    cases hx
    obtain ⟨d, g1, g2⟩ := h2.getv hy
    exact ⟨.int i, d, by simpa using enumD_get 0 i l d g1, .int _, g2⟩
  | _ => cases hz
/-! ### sorted of few whole numbers -/
def insI (n : Int) : List Int → List Int
  | [] => [n]
  | m :: r => if n ≤ m then n :: m :: r else m :: insI n r
def sortI : List Int → List Int
  | [] => []
  | n :: r => insI n (sortI r)
theorem insI_perm (n : Int) : ∀ l, (insI n l).Perm (n :: l)
  | [] => .refl _
  | m :: r => by
    unfold insI
    split
    · exact .refl _
    · exact ((insI_perm n r).cons m).trans (.swap n m r)
theorem sortI_perm : ∀ l, (sortI l).Perm l
  | [] => .refl _
  | n :: r => (insI_perm n _).trans ((sortI_perm r).cons n)
theorem insI_sorted (n : Int) : ∀ l, l.Pairwise (· ≤ ·) → (insI n l).Pairwise (· ≤ ·)
  | [], _ => by simp [insI]
  | m :: r, h => by
    unfold insI
    have h' := List.pairwise_cons.mp h
    split
    · rename_i c
      refine List.pairwise_cons.mpr ⟨fun x hx => ?_, h⟩
      rcases List.mem_cons.mp hx with rfl | hx
      · exact c
      · exact Int.le_trans c (h'.1 x hx)
    · rename_i c
      refine List.pairwise_cons.mpr ⟨fun x hx => ?_, insI_sorted n r h'.2⟩
      rcases List.mem_cons.mp ((insI_perm n r).mem_iff.mp hx) with rfl | hx
      · omega
      · exact h'.1 x hx
theorem sortI_sorted : ∀ l, (sortI l).Pairwise (· ≤ ·)
  | [] => .nil
  | n :: r => insI_sorted n _ (sortI_sorted r)
theorem sortI_uniq {a b : List Int} (h : a.Perm b) (h1 : a.Pairwise (· ≤ ·)) (h2 : b.Pairwise (· ≤ ·)) : a = b :=
  h.eq_of_pairwise (fun x y _ _ h1 h2 => Int.le_antisymm h1 h2) h1 h2
def mSorted (ma : W → R D) : W → R (List D) := fun w => (ma w).bind fun x w1 => R.lift (match x with | .lst a => (ints? a).bind fun ns => if ns.length < 64 then some ((sortI ns).map D.int) else none | _ => none) w1
theorem sf_sorted {e : Expr} {p pos : Pos} {m : W → R D} (h : SE X Wx fm e m) (hm : X.mg "sorted" = none) (hg : Gl X "sorted" := by rfl) (he : starEach [e] X.env = (false, eval e X.env) :: starEach [] X.env := by rfl) (hpl : (backTo pos (starEach [] X.env)).any (·.1) = false := by rfl) :
    SF X Wx fm (.Call (.Name "sorted" p) [e] [] pos) (mSorted m) := by
  refine ⟨?_⟩
  intro ex σ H F w Q r q
  refine WE.of (pe_callB cr_sorted hg hm (by decide +kernel) (pa_cons pe_we pa_nil he) (by decide) (by decide) he hpl) ?_
  show WE X e σ H fun x H1 => rSorted X.K [x] H1 Q
  refine h ex σ H F w _ r ((FinF.bindD q).imp fun d w1 H1 F1 ⟨r1, k1, e1, q1⟩ v hv => ?_)
  cases hv with
  | @lst p0 vs l h1 h2 =>
    have q1 : FinF X Wx fm ex σ H1 F1 Q (R.lift ((ints? l).bind fun ns => if ns.length < 64 then some ((sortI ns).map D.int) else none) w1) := q1
    cases hi : ints? l with
    | none => rw [hi] at q1; exact (show False from q1).elim
    | some ns =>
      rw [hi] at q1
      have q1 : FinF X Wx fm ex σ H1 F1 Q (R.lift (if ns.length < 64 then some ((sortI ns).map D.int) else none) w1) := q1
      by_cases hl : ns.length < 64
      · rw [if_pos hl] at q1
        have ev := ints_rp hi h2
        subst ev
        refine ⟨p0, ns, rfl, .inl (.inl (r1.fh _ _ h1)), hl, fun ns' p hp hs hn => ?_⟩
        have e2 : ns' = sortI ns := sortI_uniq (hp.trans (sortI_perm ns).symm) hs (sortI_sorted ns)
        subst e2
        exact q1 p _ F1 (Gr.dark r1.fh hn).kp (Ex.refl _) (r1.lay hn (RpAll.of_ints _))
      · rw [if_neg hl] at q1; exact (show False from q1).elim
  | _ => exact (show False from q1).elim
/-! ### a call that leaves the defaults -/
structure CalD (P : Program) (w : World) (K : PySem.W.Frag) (mg : Str → Option Value) (base : Heap) (k : Nat) (x : Str) (n : Nat) (dd : List D) (m : List D → SS → RF) : Prop where
  ex : ∃ (f : Addr) (fd : FuncData) (ps : List Str) (ds : List Value) (dvs : List V), FnOk P w K mg base (L2.CX P w) k f fd ps (spM K mg n m) ∧ mg x = some (.ref f) ∧ PySem.W.keepIn K (.ref f) = true ∧ Binds K fd ps ds ∧ Vals dvs ds ∧ ∀ (a0 : Addr) (F : Hp), RpAll K a0 F dvs dd
def mApp (dd : List D) (m : W → R (List D)) : W → R (List D) := fun w => (m w).bind fun ds w1 => .ok (ds ++ dd) w1
theorem run_fnSD {CX : CXT} {k : Nat} {f : Addr} {fd : FuncData} {ps : List Str} {ds : List Value} {dvs : List V} {sp : Sp} {E : L2.St → XK} {pins : List (Addr × Obj)} {σ : L2.St} {H : Hp} {s : Shared} {Q : VK} {us : List Value} {vs : List V} (F : FnOk X.prog X.w X.K X.mg X.base CX k f fd ps sp) (hr : Room k X.A) (hb : Binds X.K fd ps ds) (hd : Vals dvs ds) (hx : PassesAt CX X σ (E σ))
    (I : L2.Inv X pins σ H s) (r : Vals vs us) (h : sp (vs ++ dvs) H Q (E σ)) : wpAny (model X.prog X.w) X.A (call (.ref f) us) (EP X pins σ Q) X.xe s := by
  have r2 : Vals (vs ++ dvs) (us ++ ds) := r.append hd
  have hl : (us ++ ds).length = ps.length := by rw [← r2.length]; exact F.len _ _ _ _ h
  have b := hb s us I.kIn hl
  refine wpAny_call (codeAny_mono (F.run X.A X.stack s H ⟨us, []⟩ (us ++ ds) (vs ++ dvs) Q (E σ) hr I.env0 b r2 h) fun r s' hq => ?_)
  cases r with
  | error e => exact hx pins H s e s' I hq
  | ok fl =>
    cases fl with
    | ret u => exact I.after hq
    | next => exact False.elim hq
    | brk => exact False.elim hq
    | cont => exact False.elim hq
theorem pe_callSD {CX : CXT} {k : Nat} {f : Addr} {fd : FuncData} {ps : List Str} {ds : List Value} {dvs : List V} {sp : Sp} {E : L2.St → XK} {x : Str} {e : Expr} {es : List Expr} {p pos : Pos} {t : TA} (F : FnOk X.prog X.w X.K X.mg X.base CX k f fd ps sp) (hr : Room k X.A) (hg : Gl X x) (hm : X.mg x = some (.ref f)) (hk : PySem.W.keepIn X.K (.ref f) = true) (hb : Binds X.K fd ps ds) (hd : Vals dvs ds) (hx : ∀ σ, PassesAt CX X σ (E σ))
    (ha : PA X (e :: es) t) (hdb : (x == ("__debug__" : Str)) = false := by decide) (he : starEach (e :: es) X.env = (false, eval e X.env) :: starEach es X.env := by rfl) (hpl : (backTo pos (starEach es X.env)).any (·.1) = false := by rfl) :
    PE X (.Call (.Name x p) (e :: es) [] pos) (fun σ H Q => t σ H fun vs H1 => sp (vs ++ dvs) H1 Q (E σ)) := by
  refine ⟨fun pins s σ H Q I h => ?_⟩
  refine wpAny_Call_Name_kw (ld_glob I hg hm ?_ hdb)
  refine PySem.W.callWith_K (h₀ := X.base) I.ok.mod.kin hk (thn (ha.run pos pins s σ H _ I h) fun us s1 ⟨vs, H1, I1, r, q⟩ => ⟨I1.kIn, ?_⟩) he hpl
  exact run_fnSD F hr hb hd (hx σ) I1 r q
theorem se_callD {e : Expr} {es : List Expr} {x : Str} {p pos : Pos} {k n : Nat} {dd : List D} {f : List D → SS → RF} {m : W → R (List D)} (c : CalD X.prog X.w X.K X.mg X.base k x n dd f) (tk : Takes X Wx) (hr : Room k X.A) (ha : SAs X Wx fm (e :: es) m) (hg : Gl X x := by rfl)
    (hdb : (x == ("__debug__" : Str)) = false := by decide) (he : starEach (e :: es) X.env = (false, eval e X.env) :: starEach es X.env := by rfl) (hpl : (backTo pos (starEach es X.env)).any (·.1) = false := by rfl) :
    SE X Wx fm (.Call (.Name x p) (e :: es) [] pos) (mCall n f (mApp dd m)) := by
  obtain ⟨fa, fd, ps, ds0, dvs, Fo, hm, hk, hb, hdv, hrp⟩ := c.ex
  refine ⟨?_⟩
  intro ex σ H F w Q r q
  refine WE.of (pe_callSD Fo hr hg hm hk hb hdv (fun σ => passAt tk σ) pa_wa hdb he hpl) ?_
  show WA X (e :: es) σ H fun vs H1 => spM X.K X.mg n f (vs ++ dvs) H1 Q (L2.WE Wx σ)
  have q' : Fin X Wx fm ex σ H F (fun d _ H' F' => ∀ v, Rp X.K fm.a0 F' v d → Q v H') ((m w).bind fun ds w1 => if (ds ++ dd).length = n then match f (ds ++ dd) w1.ss with
    | .ok d ss' => .ok d { w1 with ss := ss' }
    | .exc c ss' => .exc c { w1 with ss := ss' }
    | .stuck => .stuck
    else .stuck) := by
    revert q
    unfold mCall mApp
    cases m w <;> exact fun q => q
  refine ha ex σ H F w _ r ((Fin.bind q').imp fun ds w1 H1 F1 ⟨r1, k1, e1, q1⟩ vs hv => ?_)
  have hv2 := hv.app (hrp fm.a0 F1)
  by_cases hl : (ds ++ dd).length = n
  · rw [if_pos hl] at q1
    refine ⟨fm.a0, fm.c0, F1, ds ++ dd, w1.ss, hv2.len.trans hl, r1.fh, r1.src, hv2, ?_⟩
    revert q1
    cases f (ds ++ dd) w1.ss with
    | ok d ss' => exact fun q1 v H' F' g s rv => q1 H' F' g.hh g.ff (r1.step g s) v rv
    | exc c ss' => exact fun q1 H' F' cls dd g s xc => q1 H' F' cls dd g.hh g.ff (r1.step g s) (xc.up r1 s)
    | stuck => exact fun q1 => q1
  · rw [if_neg hl] at q1
    exact (show False from q1).elim
end
/-! ### how the new mirrors are reckoned -/
section
variable {env : Env} {ss : SS} {w : W}
@[simp] theorem sRaise_ap (nm fld : Str) (m : W → R (List D)) : sRaise nm fld m w = (m w).toS fun ds w' => match ds with
  | [d] => .exc ⟨nm, fld, d⟩ w'
  | _ => .stuck := Eq.trans rfl rfl
@[simp] theorem mExf_ap (i : Nat) (f : Str) : mExf i f ⟨env, ss⟩ = match env[i]? with
  | some (some (.exn c)) => if c.f = f then .ok c.d ⟨env, ss⟩ else .stuck
  | _ => .stuck := Eq.trans rfl rfl
@[simp] theorem mIsX_ap (i : Nat) (t : Str → Option Bool) : mIsX i t ⟨env, ss⟩ = match env[i]? with
  | some (some (.exn c)) => R.lift ((t c.c).map D.bl) ⟨env, ss⟩
  | _ => .stuck := Eq.trans rfl rfl
/-- what a try does with its body's outcome -/
def RS.tryC (tab : Str → Option Bool) (i : Nat) (suite : W → RS) : RS → RS
  | .exc c w1 => (match tab c.c with
    | some true => sLeave i (suite { w1 with env := (noX w1.env).set i (some (.exn c)) })
    | some false => .exc c w1
    | none => .stuck)
  | r => r
def RS.tryO (tab : Str → Option Bool) (suite : W → RS) : RS → RS
  | .exc c w1 => (match tab c.c with
    | some true => sLeaveO (suite { w1 with env := noX w1.env })
    | some false => .exc c w1
    | none => .stuck)
  | r => r
@[simp] theorem sTry_ap (tab : Str → Option Bool) (i : Nat) (body suite : W → RS) : sTry tab i body suite w = RS.tryC tab i suite (body w) := by
  unfold sTry RS.tryC; cases body w <;> rfl
@[simp] theorem sTryO_ap (tab : Str → Option Bool) (body suite : W → RS) : sTryO tab body suite w = RS.tryO tab suite (body w) := by
  unfold sTryO RS.tryO; cases body w <;> rfl
@[simp] theorem tryC_nx (tab : Str → Option Bool) (i : Nat) (s : W → RS) : RS.tryC tab i s (.nx w) = .nx w := Eq.trans rfl rfl
@[simp] theorem tryC_ret (tab : Str → Option Bool) (i : Nat) (s : W → RS) (d : D) : RS.tryC tab i s (.ret d w) = .ret d w := Eq.trans rfl rfl
@[simp] theorem tryC_exc (tab : Str → Option Bool) (i : Nat) (s : W → RS) (c : Exn) : RS.tryC tab i s (.exc c w) = match tab c.c with
    | some true => sLeave i (s { w with env := (noX w.env).set i (some (.exn c)) })
    | some false => .exc c w
    | none => .stuck := Eq.trans rfl rfl
@[simp] theorem tryO_nx (tab : Str → Option Bool) (s : W → RS) : RS.tryO tab s (.nx w) = .nx w := Eq.trans rfl rfl
@[simp] theorem tryO_ret (tab : Str → Option Bool) (s : W → RS) (d : D) : RS.tryO tab s (.ret d w) = .ret d w := Eq.trans rfl rfl
@[simp] theorem tryO_exc (tab : Str → Option Bool) (s : W → RS) (c : Exn) : RS.tryO tab s (.exc c w) = match tab c.c with
    | some true => sLeaveO (s { w with env := noX w.env })
    | some false => .exc c w
    | none => .stuck := Eq.trans rfl rfl
@[simp] theorem sLeave_ret (i : Nat) (d : D) : sLeave i (.ret d w) = .ret d { w with env := noX w.env } := Eq.trans rfl rfl
@[simp] theorem sLeave_nx (i : Nat) : sLeave i (.nx w) = .nx { w with env := (noX w.env).set i none } := Eq.trans rfl rfl
@[simp] theorem sLeaveO_ret (d : D) : sLeaveO (.ret d w) = .ret d { w with env := noX w.env } := Eq.trans rfl rfl
@[simp] theorem sLeaveO_nx : sLeaveO (.nx w) = .nx { w with env := noX w.env } := Eq.trans rfl rfl
@[simp] theorem noX_nil : noX [] = [] := Eq.trans rfl rfl
@[simp] theorem noX_val (d : D) (e : Env) : noX (some (.val d) :: e) = some (.val d) :: noX e := Eq.trans rfl rfl
@[simp] theorem noX_own (l : List D) (e : Env) : noX (some (.own l) :: e) = some (.own l) :: noX e := Eq.trans rfl rfl
@[simp] theorem noX_exn (c : Exn) (e : Env) : noX (some (.exn c) :: e) = none :: noX e := Eq.trans rfl rfl
@[simp] theorem noX_none (e : Env) : noX (none :: e) = none :: noX e := Eq.trans rfl rfl
@[simp] theorem mApp_ap (dd : List D) (m : W → R (List D)) : mApp dd m w = (m w).bind fun ds w1 => .ok (ds ++ dd) w1 := Eq.trans rfl rfl
@[simp] theorem mZip_ap (ma mb : W → R D) : mZip ma mb w = (ma w).bind fun x w1 => (mb w1).bind fun y w2 => R.lift (match x, y with | .lst a, .lst b => some (zipD a b) | _, _ => none) w2 := Eq.trans rfl rfl
@[simp] theorem mEnum_ap (ma : W → R D) : mEnum ma w = (ma w).bind fun x w1 => R.lift (match x with | .lst a => some (enumD 0 a) | _ => none) w1 := Eq.trans rfl rfl
@[simp] theorem mSorted_ap (ma : W → R D) : mSorted ma w = (ma w).bind fun x w1 => R.lift (match x with | .lst a => (ints? a).bind fun ns => if ns.length < 64 then some ((sortI ns).map D.int) else none | _ => none) w1 := Eq.trans rfl rfl
end
section
variable {P : Program} {w : World} {K : PySem.W.Frag} {mg : Str → Option Value} {base : Heap}
/-- THE RULE for a def, defaults or none -/
theorem fn_tdD {x qual : Str} {params : Arguments} {body : List Stmt} {scope : Scope} {dvs : List V} {kws : List (Str × V)} {f : Addr} {fd : FuncData} {N ps : List Str} {k : Nat} {m : W → RS} (F : FunD K x qual params body scope dvs kws f fd) (S : FnScope N ps scope)
    (hb : ∀ (cdv : Value) (A : Around) (outer : List PySem.Env) (s : Shared) (H : Hp) (E : XK) (fm : Fm), Room k (A.deeper (envOfC qual scope s.heap.objs.size f cdv)) → SSs (cxOf (L2.CX P w) P w K mg base N qual scope f cdv A outer s H E) (fun c d _ H => E c d H) fm body m) :
    FnOk P w K mg base (L2.CX P w) (k + 1) f fd ps (spM K mg ps.length (fnM N.length m)) := by
  refine F.ok S (fun vs H Q E h => h.choose_spec.choose_spec.choose_spec.choose_spec.choose_spec.1) (fun cdv A outer s H vs Q E hr h => ?_)
  obtain ⟨a0, c0, F0, ds, ss, hl, hf, hs, hv, q⟩ := h
  refine ⟨_, pss_wss, ?_⟩
  refine hb cdv A outer s H E ⟨a0, c0, H, F0, 0, 0, "", 0⟩ hr [] _ H F0 ⟨startE N.length ds, ss⟩ _ (rel_start hf hs hv) ?_
  revert q
  unfold fnM
  cases m ⟨startE N.length ds, ss⟩ with
  | nx w1 => exact fun q σ' H' F' e r => q .non H' F' r.gk r.src .non
  | ret d w1 => exact fun q v σ' H' F' e r k => q v H' F' r.gk r.src k
  | exc c w1 => exact fun q σ' H' F' cls dd e r k => q H' F' cls dd r.gk r.src k
  | brk w1 => exact fun q => q.elim
  | cnt w1 => exact fun q => q.elim
  | stuck => exact fun q => q
end
end TD

set_option Elab.async false
set_option linter.all false
set_option maxRecDepth 100000
set_option maxHeartbeats 4000000
namespace TD
open PySem PySem.Spec PyProof.Rows L2
/-! ### several clauses, some with a name -/
abbrev Hd1 := Value × Option Nat × (Addr → Value → Option Addr → TS)
def Ends.off (D : Ends) (i : Nat) : Ends := { nx := fun σ' H' => D.nx (σ'.set i none) H', rt := D.rt, bk := fun σ' H' => D.bk (σ'.set i none) H', ct := fun σ' H' => D.ct (σ'.set i none) H' }
def wMix (K : PySem.W.Frag) (Wout : WX) (D : Ends) : List Hd1 → WX
  | [] => Wout
  | (c, o, ts) :: r => fun cls d σ H => ∃ b, PySem.W.exmOne K cls c = some b ∧
      (b = true → ∀ a, H a = none → match o with
        | none => ts a cls d D σ H
        | some i => ts a cls d (Ends.off D i) (σ.set i (some (.ref a))) H) ∧ (b = false → wMix K Wout D r cls d σ H)
inductive HdsMix (X : Cx) : List ExceptHandler → List Hd1 → Prop
  | nil : HdsMix X [] []
  | only {x : Str} {c : Value} {ts : Addr → Value → Option Addr → TS} {b₀ : Stmt} {suite : List Stmt} {np pos' : Pos} {hds : List ExceptHandler} {l : List Hd1} (hc : Names X x c)
      (hsu : ∀ (a : Addr) (oe : Obj) (cls : Value) (d : Option Addr) (pn : List (Addr × Obj)), Zc cls d oe → (∃ vs, oe.data = .fields vs) → PSs (X.suite a ((a, oe) :: pn)) (b₀ :: suite) (ts a cls d)) (r : HdsMix X hds l) :
      HdsMix X (.ExceptHandler (some (.Name x np)) none (b₀ :: suite) pos' :: hds) ((c, none, ts) :: l)
  | named {x n : Str} {i : Nat} {c : Value} {ts : Addr → Value → Option Addr → TS} {b₀ : Stmt} {suite : List Stmt} {np pos' : Pos} {hds : List ExceptHandler} {l : List Hd1} (hi : X.N[i]? = some n) (hln : X.env.kindOf n = some .local) (hc : Names X x c)
      (hsu : ∀ (a : Addr) (oe : Obj) (cls : Value) (d : Option Addr) (pn : List (Addr × Obj)), Zc cls d oe → (∃ vs, oe.data = .fields vs) → PSs (X.suite a ((a, oe) :: pn)) (b₀ :: suite) (ts a cls d)) (r : HdsMix X hds l) :
      HdsMix X (.ExceptHandler (some (.Name x np)) (some n) (b₀ :: suite) pos' :: hds) ((c, some i, ts) :: l)
section
variable {X : Cx} {body : List Stmt} {h₀ : ExceptHandler} {hds : List ExceptHandler} {l : List Hd1} {pos : Pos} {tb : WX → TS} {Wout : WX}
theorem ps_try_mix (hs : X.stack = X.env :: X.outer) (hf : X.env.frame = some X.env.locals) (hN : X.N.Nodup) (tk : Takes X Wout)
    (hb : ∀ (W : WX) (pn : List (Addr × Obj)) (xe : Value → Shared → Prop), Takes (X.tr pn xe) W → PassesOwn (model X.prog X.w) X.A X.env xe → PSs (X.tr pn xe) body (tb W))
    (hh : HdsMix X (h₀ :: hds) l) : PS X (.Try body (h₀ :: hds) [] [] pos) (fun D σ H => tb (wMix X.K Wout D l) D σ H) := by
  refine ⟨fun pins s σ H D I h => ?_⟩
  have ok := I.ok
  have hfr : X.A.frames = some (X.env :: X.outer) := by rw [ok.frames, hs]
  refine wpAny_Try_except ?_
  refine wpAny_mono ((hb (wMix X.K Wout D l) (X.pn ++ pins) (fun e s₁ => wpAny (model X.prog X.w) X.A (noteFrame e X.env) (fun _ s₂ => wpAny (model X.prog X.w) X.A (setFlight e none) (fun _ s₃ =>
    wpAny (model X.prog X.w) X.A (handleBy e X.env (h₀ :: hds)) (SP X pins D) X.xe s₃) X.xe s₂) X.xe s₁) (fun u s' xx => ?_) PassesOwn.looking).run [] s σ H D (I.toTry _) h) (fun f s1 hsp => ?_) (fun e s1 he => he)
  · obtain ⟨a, B, sI, pins', σ', H', cls, d, rfl, J', nb, up, sky, na, os, ag, w⟩ := xx
    have J : L2.Inv X pins σ' H' sI := J'.ofTry ok
    have sky' : Sky B (X.env :: X.outer) a (Zc cls d) X.env.locals s'.heap := by rw [← hs]; exact sky
    show wpAny (model X.prog X.w) X.A (noteFrame (.ref a) X.env) _ _ _
    refine Sky.land Zc.steady hfr hf sky' fun h3 fl3 up3 => ?_
    have J3 : L2.Inv X pins σ' H' { s' with heap := h3 } := J.landed nb fl3.1 (up.trans up3) os ag
    obtain ⟨oe3, vs3, he3, hz3, hd3⟩ := fl3.there
    have notFr : ∀ {h : Heap} {o : Obj} {vs : Array Value}, h.FunFrames B (X.env :: X.outer) → h.get? a = some o → o.data = .fields vs → a ∉ frs (X.env :: X.outer) := fun {h o vs} ff e dd hm => by
      obtain ⟨_, o', e', hnf⟩ := ff.mem hm
      rw [e] at e'; cases e'
      exact hnf _ dd
    have nfr := notFr fl3.2.2.1 he3 hd3
    have nL : a ≠ X.env.locals := fun z => nfr (List.mem_filterMap.mpr ⟨X.env, List.mem_cons_self, by rw [hf, z]⟩)
    have nF : a ∉ X.fs := fun hm => by
      obtain ⟨e, he, q⟩ := List.mem_filterMap.mp hm
      exact nfr (List.mem_filterMap.mpr ⟨e, List.mem_cons_of_mem _ he, q⟩)
    have S3 := J3.suite he3 hd3 na nL nF
    have test : ∀ {x : Str} {c : Value} {np : Pos} {Q : Value → Shared → Prop} {E : Value → Shared → Prop}, Names X x c → Q c { s' with heap := h3 } → wpAny (model X.prog X.w) (X.A.mark (some (.ref a))) (eval (.Name x np) X.env) Q E { s' with heap := h3 } := fun {x c np Q E} hc q => by
      obtain ⟨hg, hdbg, hm | ⟨hm, hv, hnn⟩⟩ := hc
      · exact ld_glob (X := X.suite a ((a, oe3) :: (X.pn ++ pins))) S3 hg hm q hdbg
      · exact ld_blt (X := X.suite a ((a, oe3) :: (X.pn ++ pins))) S3 hg hm hv q hnn hdbg
    have LT : PySem.W.Looks (model X.prog X.w) h3 (typeOf (.ref a)) cls := fun A Q E s k q => wpAny_typeOf_ref (k _ _ he3) (by rw [hz3.1]; exact q)
    have go : ∀ {hds' : List ExceptHandler} {l' : List Hd1}, HdsMix X hds' l' → wMix X.K Wout D l' cls d σ' H' → wpAny (model X.prog X.w) X.A (handleBy (.ref a) X.env hds') (SP X pins D) X.xe { s' with heap := h3 } := by
      intro hds' l' hk
      induction hk with
      | nil =>
        intro w
        refine wpAny_handleBy_nil ?_
        obtain ⟨k1, k2, k3, oe, vs, T, oT, ts', he, hz, hd, h1, hr⟩ := id fl3
        unfold PySem.passOn
        refine wpAny_bind (wpAny_field he hd h1 ?_)
        rw [if_neg (show ¬ ((Value.ref T == Value.none) = true) from by simp)]
        have fin : wpAny (model X.prog X.w) X.A (setFlight (.ref a) X.env.frame) (fun _ s4 => wpAny (model X.prog X.w) X.A (throw (.ref a) : Sem Flow) (SP X pins D) X.xe s4) X.xe { s' with heap := h3 } := by
          rw [hf]
          refine HandSPX.setFlight_upZ fl3 fun h4 hh4 up4 => wpAny_throw (tk _ _ ?_)
          exact ⟨a, B, sI, pins, σ', H', cls, d, rfl, J, nb, (up.trans up3).trans up4, .inr (.inr (by rw [hs]; exact hh4)), na, os, ag, w⟩
        first
          | exact wpAny_bind (wpAny_pure (wpAny_bind fin))
          | exact wpAny_bind fin
      | @only x c ts b₀ suite np pos' hds2 l2 hc hsu r ih =>
        intro w
        obtain ⟨b, hb1, hyes, hno⟩ := w
        refine wpAny_handleBy_cons (codeAny_handlers_test ?_) (by intro q; cases q)
        refine test hc ((PySem.W.exm_one (M := model X.prog X.w) (J3.kIn) LT hb1).here ?_)
        cases b with
        | true =>
          refine codeAny_handlers_suite ?_
          refine HandSPX.lands_againZ fl3 fun h4 fl4 up4 => ?_
          have J4 : L2.Inv X pins σ' H' { s' with heap := h4 } := J.landed nb fl4.1 ((up.trans up3).trans up4) os ag
          obtain ⟨oe4, vs4, he4, hz4, hd4⟩ := fl4.there
          have S4 := J4.suite he4 hd4 na nL nF
          refine wpAny_mono ((hsu a oe4 cls d (X.pn ++ pins) hz4 ⟨_, hd4⟩).run [] _ _ H' _ S4 (hyes rfl a na)) (fun f s6 hsp => ?_) (fun _ _ z => False.elim z)
          cases f with
          | next => obtain ⟨σ6, H6, S6, q6⟩ := hsp; exact ⟨_, _, S6.unsuite ok, q6⟩
          | brk => obtain ⟨σ6, H6, S6, q6⟩ := hsp; exact ⟨_, _, S6.unsuite ok, q6⟩
          | cont => obtain ⟨σ6, H6, S6, q6⟩ := hsp; exact ⟨_, _, S6.unsuite ok, q6⟩
          | ret u => obtain ⟨v6, σ6, H6, S6, r6, q6⟩ := hsp; exact ⟨_, _, _, S6.unsuite ok, r6, q6⟩
        | false => exact ih (hno rfl)
      | @named x n i c ts b₀ suite np pos' hds2 l2 hi hln hc hsu r ih =>
        intro w
        obtain ⟨b, hb1, hyes, hno⟩ := w
        refine wpAny_handleBy_cons (codeAny_handlers_test ?_) (by intro q; cases q)
        refine test hc ((PySem.W.exm_one (M := model X.prog X.w) (J3.kIn) LT hb1).here ?_)
        cases b with
        | true =>
          refine codeAny_handlers_suite_as ?_
          refine HandSPX.lands_againZ fl3 fun h4 fl4 up4 => ?_
          have J4 : L2.Inv X pins σ' H' { s' with heap := h4 } := J.landed nb fl4.1 ((up.trans up3).trans up4) os ag
          obtain ⟨oe4, vs4, he4, hz4, hd4⟩ := fl4.there
          have S4 := J4.suite he4 hd4 na nL nF
          refine store_ok (X := X.suite a ((a, oe4) :: (X.pn ++ pins))) (v := .ref a) S4 hN hi (.inl hln) rfl (fun s5 S5 => ?_) (.inr hln)
          refine wpAny_mono ((hsu a oe4 cls d (X.pn ++ pins) hz4 ⟨_, hd4⟩).run [] s5 _ H' _ S5 (hyes rfl a na)) (fun f s6 hsp => ?_) (fun _ _ z => False.elim z)
          have end_ : ∀ {σ6 : L2.St} {H6 : Hp} {Q : Shared → Prop}, L2.Inv (X.suite a ((a, oe4) :: (X.pn ++ pins))) [] σ6 H6 s6 → (∀ s7, L2.Inv X pins (σ6.set i none) H6 s7 → Q s7) →
              wpAny (model X.prog X.w) X.A (do bindName X.env n .none; unbindBehindTheSuite X.env n pos') (fun _ s7 => Q s7) X.xe s6 := fun {σ6 H6 Q} S6 hq => gone_ok (S6.unsuite ok) hN hi hln hq
          cases f with
          | next => obtain ⟨σ6, H6, S6, q6⟩ := hsp; exact end_ S6 fun s7 J7 => ⟨_, _, J7, q6⟩
          | brk => obtain ⟨σ6, H6, S6, q6⟩ := hsp; exact end_ S6 fun s7 J7 => ⟨_, _, J7, q6⟩
          | cont => obtain ⟨σ6, H6, S6, q6⟩ := hsp; exact end_ S6 fun s7 J7 => ⟨_, _, J7, q6⟩
          | ret u => obtain ⟨v6, σ6, H6, S6, r6, q6⟩ := hsp; exact end_ S6 fun s7 J7 => ⟨_, _, _, J7, r6, q6⟩
        | false => exact ih (hno rfl)
    exact go hh w
  · cases f with
    | next => obtain ⟨σ', H', J', q⟩ := hsp; exact wpAny_execs_nil ⟨σ', H', J'.ofTry ok, q⟩
    | brk => obtain ⟨σ', H', J', q⟩ := hsp; exact ⟨σ', H', J'.ofTry ok, q⟩
    | cont => obtain ⟨σ', H', J', q⟩ := hsp; exact ⟨σ', H', J'.ofTry ok, q⟩
    | ret u => obtain ⟨v, σ', H', J', r, q⟩ := hsp; exact ⟨v, σ', H', J'.ofTry ok, r, q⟩
end
/-- the clauses' mirrors: the class's table, the name's place, the suite -/
abbrev HdM := (Str → Option Bool) × Option Nat × (W → RS)
def hPick : List HdM → Exn → W → RS
  | [], c, w1 => .exc c w1
  | (tab, o, ms) :: r, c, w1 => match tab c.c with
    | some true => (match o with
      | some i => sLeave i (ms { w1 with env := (noX w1.env).set i (some (.exn c)) })
      | none => sLeaveO (ms { w1 with env := noX w1.env }))
    | some false => hPick r c w1
    | none => .stuck
def RS.tryL (hs : List HdM) : RS → RS
  | .exc c w1 => hPick hs c w1
  | r => r
def sTryL (hs : List HdM) (body : W → RS) : W → RS := fun w => RS.tryL hs (body w)
inductive HdsT (X : Cx) (fm : Fm) (hx : HxT) : List ExceptHandler → List HdM → Prop
  | nil : HdsT X fm hx [] []
  | only {x : Str} {b₀ : Stmt} {suite : List Stmt} {np pos' : Pos} {hds : List ExceptHandler} {l : List HdM} {ms : W → RS} (hc : ClsK X.K X.mg hx x) (hg : Gl X x) (hd : (x == ("__debug__" : Str)) = false)
      (hsu : ∀ (a d k : Addr) (c : Str) (oe : Obj) (pn : List (Addr × Obj)), InS X { fm with xa := a, xd := d, xc := c, xk := k } oe → SSs (X.suite a ((a, oe) :: pn)) W0 { fm with xa := a, xd := d, xc := c, xk := k } (b₀ :: suite) ms) (r : HdsT X fm hx hds l) :
      HdsT X fm hx (.ExceptHandler (some (.Name x np)) none (b₀ :: suite) pos' :: hds) ((xT hx x, none, ms) :: l)
  | named {x n : Str} {i : Nat} {b₀ : Stmt} {suite : List Stmt} {np pos' : Pos} {hds : List ExceptHandler} {l : List HdM} {ms : W → RS} (hi : X.N[i]? = some n) (hln : X.env.kindOf n = some .local) (hc : ClsK X.K X.mg hx x) (hg : Gl X x) (hd : (x == ("__debug__" : Str)) = false)
      (hsu : ∀ (a d k : Addr) (c : Str) (oe : Obj) (pn : List (Addr × Obj)), InS X { fm with xa := a, xd := d, xc := c, xk := k } oe → SSs (X.suite a ((a, oe) :: pn)) W0 { fm with xa := a, xd := d, xc := c, xk := k } (b₀ :: suite) ms) (r : HdsT X fm hx hds l) :
      HdsT X fm hx (.ExceptHandler (some (.Name x np)) (some n) (b₀ :: suite) pos' :: hds) ((xT hx x, some i, ms) :: l)
section
variable {X : Cx} {Wx : WX} {fm : Fm}
theorem HdsT.mix {hx : HxT} : ∀ {hds : List ExceptHandler} {l : List HdM}, HdsT X fm hx hds l → ∃ l1 : List Hd1, HdsMix X hds l1 ∧
    ∀ (ex : Exs) (F : Hp) (D : Ends) (c : Exn) (w1 : W) (σ1 : L2.St) (H1 F1 : Hp) (cls : Value) (dd : Option Addr), FinS X Wx fm ex F D (hPick l c w1) → Ex F F1 → Rel X.K fm ex σ1 H1 F1 w1 → ExcIs X.K X.mg fm.a0 fm.G c cls dd F1 H1 → wMix X.K Wx D l1 cls dd σ1 H1
  | _, _, .nil => ⟨[], .nil, fun ex F D c w1 σ1 H1 F1 cls dd q e1 r1 xi => q σ1 H1 F1 cls dd e1 r1 xi⟩
  | _, _, .only (x := x) (b₀ := b₀) (suite := suite) (l := l) (ms := ms) hc hg hd hsu r => by
    obtain ⟨l1, m1, ih⟩ := r.mix
    obtain ⟨T, mT, cT⟩ := hc.ex
    refine ⟨(.ref T, none, fun a cls d D σ H => ∀ (oe : Obj) (pn : List (Addr × Obj)), Zc cls d oe → (∃ vs, oe.data = .fields vs) → WSs (X.suite a ((a, oe) :: pn)) (b₀ :: suite) D σ H) :: l1, .only ⟨hg, hd, .inl mT⟩ (fun a oe cls d pn hz hv => ⟨fun pins s σ H D I h => h oe pn hz hv pins s I⟩) m1, ?_⟩
    intro ex F D c w1 σ1 H1 F1 cls dd q e1 r1 xi
    obtain ⟨C, d, v, h1, h2, h3, h4, h5, h6, h7⟩ := id xi
    have q : FinS X Wx fm ex F D (match xT hx x c.c with
      | some true => sLeaveO (ms { w1 with env := noX w1.env })
      | some false => hPick l c w1
      | none => .stuck) := q
    cases ht : xT hx x c.c with
    | none => rw [ht] at q; exact (show False from q).elim
    | some b =>
      rw [ht] at q
      refine ⟨b, by rw [h2]; exact cT.exm _ _ _ ht h1, fun hb1 a ha => ?_, fun hb0 => ?_⟩
      · subst hb1
        have q : FinS X Wx fm ex F D (sLeaveO (ms { w1 with env := noX w1.env })) := q
        intro oe pn hz hv
        rw [h2, h3] at hz
        refine (hsu a d C c.c oe pn ⟨hz, hv, h1⟩) ex _ H1 F1 _ _ (r1.enter a d c.c C) ?_
        revert q
        cases ms { w1 with env := noX w1.env } with
        | nx w2 => exact fun q σ' H' F' e r => q _ H' F' (e1.trans e) r.leave
        | brk w2 => exact fun q σ' H' F' e r => q _ H' F' (e1.trans e) r.leave
        | cnt w2 => exact fun q σ' H' F' e r => q _ H' F' (e1.trans e) r.leave
        | ret d w2 => exact fun q v σ' H' F' e r k => q v σ' H' F' (e1.trans e) r.leave k
        | exc c w2 => exact fun q => (show False from q).elim
        | stuck => exact fun q => (show False from q).elim
      · subst hb0
        exact ih ex F D c w1 σ1 H1 F1 cls dd q e1 r1 xi
  | _, _, .named (x := x) (i := i) (b₀ := b₀) (suite := suite) (l := l) (ms := ms) hi hln hc hg hd hsu r => by
    obtain ⟨l1, m1, ih⟩ := r.mix
    obtain ⟨T, mT, cT⟩ := hc.ex
    refine ⟨(.ref T, some i, fun a cls d D σ H => ∀ (oe : Obj) (pn : List (Addr × Obj)), Zc cls d oe → (∃ vs, oe.data = .fields vs) → WSs (X.suite a ((a, oe) :: pn)) (b₀ :: suite) D σ H) :: l1, .named hi hln ⟨hg, hd, .inl mT⟩ (fun a oe cls d pn hz hv => ⟨fun pins s σ H D I h => h oe pn hz hv pins s I⟩) m1, ?_⟩
    intro ex F D c w1 σ1 H1 F1 cls dd q e1 r1 xi
    obtain ⟨C, d, v, h1, h2, h3, h4, h5, h6, h7⟩ := id xi
    have q : FinS X Wx fm ex F D (match xT hx x c.c with
      | some true => sLeave i (ms { w1 with env := (noX w1.env).set i (some (.exn c)) })
      | some false => hPick l c w1
      | none => .stuck) := q
    cases ht : xT hx x c.c with
    | none => rw [ht] at q; exact (show False from q).elim
    | some b =>
      rw [ht] at q
      refine ⟨b, by rw [h2]; exact cT.exm _ _ _ ht h1, fun hb1 a ha => ?_, fun hb0 => ?_⟩
      · subst hb1
        have q : FinS X Wx fm ex F D (sLeave i (ms { w1 with env := (noX w1.env).set i (some (.exn c)) })) := q
        intro oe pn hz hv
        rw [h2, h3] at hz
        obtain ⟨F2, e2, h8, r2⟩ := (r1.enter a d c.c C).frzX h4 h6
        have r3 := r2.setX i (c := c) (vv := v) rfl h7 h8 (h5.ex e2)
        refine (hsu a d C c.c oe pn ⟨hz, hv, h1⟩) ex _ H1 F2 _ _ r3 ?_
        have eF : Ex F F2 := e1.trans e2
        revert q
        cases ms { w1 with env := (noX w1.env).set i (some (.exn c)) } with
        | nx w2 => exact fun q σ' H' F' e r => q _ H' F' (eF.trans e) (r.leave.setNone i none)
        | brk w2 => exact fun q σ' H' F' e r => q _ H' F' (eF.trans e) (r.leave.setNone i none)
        | cnt w2 => exact fun q σ' H' F' e r => q _ H' F' (eF.trans e) (r.leave.setNone i none)
        | ret d w2 => exact fun q v σ' H' F' e r k => q v σ' H' F' (eF.trans e) r.leave k
        | exc c w2 => exact fun q => (show False from q).elim
        | stuck => exact fun q => (show False from q).elim
      · subst hb0
        exact ih ex F D c w1 σ1 H1 F1 cls dd q e1 r1 xi
theorem ss_try {body : List Stmt} {h₀ : ExceptHandler} {hds : List ExceptHandler} {pos : Pos} {hx : HxT} {l : List HdM} {mb : W → RS} (hs : X.stack = X.env :: X.outer) (hf : X.env.frame = some X.env.locals) (hN : X.N.Nodup) (tk : Takes X Wx)
    (hb : ∀ (Wt : WX) (pn : List (Addr × Obj)) (xe : Value → Shared → Prop), Takes (X.tr pn xe) Wt → PassesOwn (model X.prog X.w) X.A X.env xe → SSs (X.tr pn xe) Wt fm body mb) (hh : HdsT X fm hx (h₀ :: hds) l) :
    SSt X Wx fm (.Try body (h₀ :: hds) [] [] pos) (sTryL l mb) := by
  obtain ⟨l1, m1, key⟩ := hh.mix (Wx := Wx)
  refine ⟨?_⟩
  intro ex σ H F w D r q
  refine WS.of (ps_try_mix (l := l1) (tb := fun Wt D σ H => ∀ (pn : List (Addr × Obj)) (xe : Value → Shared → Prop), Takes (X.tr pn xe) Wt → PassesOwn (model X.prog X.w) X.A X.env xe → WSs (X.tr pn xe) body D σ H)
    hs hf hN tk (fun Wt pn xe t p => ⟨fun pins s σ H D I h => h pn xe t p pins s I⟩) m1) ?_
  intro pn xe t p
  refine hb _ pn xe t p ex σ H F w D r ?_
  revert q
  unfold sTryL
  cases mb w with
  | exc c w1 => exact fun q σ1 H1 F1 cls dd e1 r1 xi => key ex F D c w1 σ1 H1 F1 cls dd q e1 r1 xi
  | _ => exact fun q => q
end
section
variable {w : W}
@[simp] theorem sTryL_ap (hs : List HdM) (body : W → RS) : sTryL hs body w = RS.tryL hs (body w) := Eq.trans rfl rfl
@[simp] theorem tryL_nx (hs : List HdM) : RS.tryL hs (.nx w) = .nx w := Eq.trans rfl rfl
@[simp] theorem tryL_ret (hs : List HdM) (d : D) : RS.tryL hs (.ret d w) = .ret d w := Eq.trans rfl rfl
@[simp] theorem tryL_exc (hs : List HdM) (c : Exn) : RS.tryL hs (.exc c w) = hPick hs c w := Eq.trans rfl rfl
@[simp] theorem hPick_nil (c : Exn) : hPick [] c w = .exc c w := Eq.trans rfl rfl
@[simp] theorem hPick_some (tab : Str → Option Bool) (i : Nat) (ms : W → RS) (r : List HdM) (c : Exn) : hPick ((tab, some i, ms) :: r) c w = match tab c.c with
    | some true => sLeave i (ms { w with env := (noX w.env).set i (some (.exn c)) })
    | some false => hPick r c w
    | none => .stuck := Eq.trans rfl rfl
@[simp] theorem hPick_none (tab : Str → Option Bool) (ms : W → RS) (r : List HdM) (c : Exn) : hPick ((tab, none, ms) :: r) c w = match tab c.c with
    | some true => sLeaveO (ms { w with env := noX w.env })
    | some false => hPick r c w
    | none => .stuck := Eq.trans rfl rfl
end
end TD
namespace TD
open PySem PySem.Spec PyProof.Rows L2
/-! ### the module's fixed rows -/
mutual
def dIn (K : PySem.W.Frag) : D → Value → Bool
  | .non, .none => true
  | .bl b, .bool c => b == c
  | .int i, .int j _ => i == j
  | .str x, .str y _ => x == y
  | .tup ds, .ref a => (match K.lookup a with
    | some ⟨.type c, none, .seq its _, _⟩ => c == "tuple" && (decide (its.size ≤ 1000000) && dIns K ds its.toList)
    | _ => false)
  | _, _ => false
def dIns (K : PySem.W.Frag) : List D → List Value → Bool
  | [], [] => true
  | d :: ds, v :: vs => dIn K d v && dIns K ds vs
  | _, _ => false
end
mutual
theorem dIn_ok {K : PySem.W.Frag} : ∀ (d : D) (v : Value), dIn K d v = true → ∃ u : V, RelV u v ∧ ∀ a0 F, Rp K a0 F u d
  | .non, v, h => by cases v <;> simp [dIn] at h; exact ⟨.non, rfl, fun _ _ => .non⟩
  | .bl b, v, h => by
    cases v <;> simp [dIn] at h
    subst h
    exact ⟨.bl b, rfl, fun _ _ => .bl b⟩
  | .int i, v, h => by
    cases v <;> simp [dIn] at h
    subst h
    exact ⟨.int i, ⟨_, rfl⟩, fun _ _ => .int i⟩
  | .str x, v, h => by
    cases v <;> simp [dIn] at h
    subst h
    exact ⟨.str x, ⟨_, rfl⟩, fun _ _ => .str x⟩
  | .src, v, h => by cases v <;> simp [dIn] at h
  | .lst _, v, h => by cases v <;> simp [dIn] at h
  | .tup ds, v, h => by
    cases v with
    | ref a =>
      rw [dIn] at h
      split at h
      · rename_i c its n sl hl
        simp only [Bool.and_eq_true, beq_iff_eq, decide_eq_true_eq] at h
        obtain ⟨rfl, hz, h⟩ := h
        obtain ⟨us, hu, hr⟩ := dIns_ok ds its.toList h
        exact ⟨.ref a, rfl, fun a0 F => .tup (.inr ⟨_, its, n, hl, rfl, rfl, line_of hz, hu⟩) (hr a0 F)⟩
      · cases h
    | _ => simp [dIn] at h
theorem dIns_ok {K : PySem.W.Frag} : ∀ (ds : List D) (vs : List Value), dIns K ds vs = true → ∃ us : List V, Vals us vs ∧ ∀ a0 F, RpAll K a0 F us ds
  | [], vs, h => by
    cases vs <;> simp [dIns] at h
    exact ⟨[], .nil, fun _ _ => .nil⟩
  | d :: ds, vs, h => by
    cases vs with
    | nil => simp [dIns] at h
    | cons v vs =>
      simp only [dIns, Bool.and_eq_true] at h
      obtain ⟨u, h1, h2⟩ := dIn_ok d v h.1
      obtain ⟨us, h3, h4⟩ := dIns_ok ds vs h.2
      exact ⟨u :: us, .cons h1 h3, fun a0 F => .cons (h2 a0 F) (h4 a0 F)⟩
end
/-- the module's name x is the fixed row d -/
structure KstX (K : PySem.W.Frag) (mg : Str → Option Value) (x : Str) (d : D) : Prop where
  ex : ∃ (u : V) (v : Value), mg x = some v ∧ RelV u v ∧ ∀ a0 F, Rp K a0 F u d
def kstB (K : PySem.W.Frag) (x : Str) (d : D) : Bool := match PySem.W.nsIn K mainGlobals x with
  | some (some v) => dIn K d v
  | _ => false
theorem kst_ok {K : PySem.W.Frag} {h : Heap} {mg : Str → Option Value} {x : Str} {d : D} (X : K.In h) (G : h.Ns mainGlobals mg) (c : kstB K x d = true) : KstX K mg x d := by
  unfold kstB at c
  split at c
  · rename_i v e
    obtain ⟨u, h1, h2⟩ := dIn_ok d v c
    exact ⟨u, v, PySem.W.mg_of X G e, h1, h2⟩
  · cases c
theorem se_kst {X : Cx} {Wx : WX} {fm : Fm} {x : Str} {d : D} {pos : Pos} (h : KstX X.K X.mg x d) (hg : Gl X x := by rfl) (hd : (x == ("__debug__" : Str)) = false := by decide) : SE X Wx fm (.Name x pos) (mC d) := by
  obtain ⟨u, v, h1, h2, h3⟩ := h.ex
  exact se_glob hg h1 h2 (h3 _) hd
/-- the module's name x is a fixed row of flat things -/
structure KstT (K : PySem.W.Frag) (mg : Str → Option Value) (x : Str) (l : List D) : Prop where
  ex : ∃ (a : Addr) (us : List V), mg x = some (.ref a) ∧ (∀ H, SqT K H a us) ∧ ∀ a0 F, RpAll K a0 F us l
def kstTB (K : PySem.W.Frag) (x : Str) (l : List D) : Bool := match PySem.W.nsIn K mainGlobals x with
  | some (some (.ref a)) => (match K.lookup a with
    | some ⟨.type c, none, .seq its _, _⟩ => c == "tuple" && (decide (its.size ≤ 1000000) && dIns K l its.toList)
    | _ => false)
  | _ => false
theorem kstT_ok {K : PySem.W.Frag} {h : Heap} {mg : Str → Option Value} {x : Str} {l : List D} (X : K.In h) (G : h.Ns mainGlobals mg) (c : kstTB K x l = true) : KstT K mg x l := by
  unfold kstTB at c
  split at c
  · rename_i a e
    split at c
    · rename_i cc its n sl hl
      simp only [Bool.and_eq_true, beq_iff_eq, decide_eq_true_eq] at c
      obtain ⟨rfl, hz, c⟩ := c
      obtain ⟨us, hu, hr⟩ := dIns_ok l its.toList c
      exact ⟨a, us, PySem.W.mg_of X G e, fun H => .inr ⟨_, its, n, hl, rfl, rfl, line_of hz, hu⟩, hr⟩
    · cases c
  · cases c
section
variable {X : Cx} {Wx : WX} {fm : Fm}
theorem in_kst0 {x : Str} {l : List D} {e : Expr} {p : Pos} {op : CmpOp} {m : W → R D} {g : D → D → Option D} {neg : Bool} {ex : Exs} {σ : L2.St} {H F : Hp} {w : W} {Q : VK} (hk : KstT X.K X.mg x l) (ho : OpR X (compareOp op) (rIn X.K neg)) (hgg : ∀ d, g d (.tup l) = if (d.flat && l.all D.flat) = true then some (.bl (if neg then !d.any l else d.any l)) else none) (h : SE X Wx fm e m) (r : Rel X.K fm ex σ H F w)
    (q : Fin X Wx fm ex σ H F (fun d _ H' F' => ∀ v, Rp X.K fm.a0 F' v d → Q v H') (mBin g m (mC (.tup l)) w)) (hg : Gl X x) (hd : (x == ("__debug__" : Str)) = false) : tOp (W2 X (compareOp op)) (WE X e) (WE X (.Name x p)) σ H Q := by
  obtain ⟨a, us, h1, h2, h3⟩ := hk.ex
  show WE X e σ H fun y H1 => WE X (.Name x p) σ H1 fun z H2 => W2 X (compareOp op) y z H2 Q
  refine h ex σ H F w _ r ((Fin.bind q).imp fun d w1 H1 F1 ⟨r1, k1, e1, q1⟩ v hv => ?_)
  refine WE.of (pe_glob hg h1 (show RelV (.ref a) (.ref a) from rfl) hd) ?_
  have q1 : Fin X Wx fm ex σ H1 F1 (fun d _ H' F' => ∀ v, Rp X.K fm.a0 F' v d → Q v H') (R.lift (g d (.tup l)) w1) := q1
  obtain ⟨z, hz, q3⟩ := q1.lift
  rw [hgg] at hz
  by_cases hl : (d.flat && l.all D.flat) = true
  · rw [if_pos hl] at hz
    cases hz
    have h' : d.flat = true ∧ l.all D.flat = true := by simpa using hl
    obtain ⟨i1, i2⟩ := inV_any hv h'.1 (h3 fm.a0 F1) h'.2
    refine W2.of ho ⟨a, us, rfl, .inr (h2 _), hv.flatV h'.1, i2, ?_⟩
    rw [i1]
    exact q3 H1 F1 Kp.refl (Ex.refl _) r1 _ (.bl _)
  · rw [if_neg hl] at hz; cases hz
end
def ckAll (l : List Bool) : Bool := l.all id
theorem ckAt {l : List Bool} (h : ckAll l = true) (i : Nat) {b : Bool} (e : l[i]? = some b) : b = true := by
  have := List.all_eq_true.mp h b (List.mem_of_getElem? e)
  simpa using this
end TD

set_option Elab.async false
set_option linter.all false
set_option maxRecDepth 100000
set_option maxHeartbeats 4000000
namespace TD
open PySem PySem.Spec PySem.Calls PyProof.Rows L2
/-! ### enumerate of a tuple -/
theorem meets_enumerate_new1 {v : Value} {o : Obj} {H : Heap → Prop} (B : Begins v o H) :
    Meets (Builtin.«enumerate.__new__» ⟨[.type "enumerate", v], []⟩) (fun _ R s => H s.heap ∧
      R (.ok (.ret (.ref (s.heap.push o).objs.size))) { s with heap := (s.heap.push o).push { cls := .type "enumerate", data := .fields #[.none, .bool false, .ref s.heap.objs.size, rawInt 0, .none, .none] } }) :=
  .of_wp fun prog w A R s h => by
    obtain ⟨hp, g, d, tk, os⟩ := s; obtain ⟨h1, h⟩ := h
    have hsub := sub_enumerate
    have q1 : ∀ {A' : Around} {E : Value → Shared → Prop} {Q : Value → Shared → Prop}, Q (.ref hp.objs.size) ⟨hp.push o, g, d, tk, os⟩ → wpAny (model prog w) A' (pyIter v) Q E ⟨hp, g, d, tk, os⟩ :=
      fun q => B.iter prog w _ _ ⟨hp, g, d, tk, os⟩ _ h1 q
    wp_walk using q1
    refine wpAny_stack_any fun st => wpAny_pure ?_
    split
    · rename_i c _ _ _ _ _
      cases (c == Value.type "enumerate")
      · wp_walk using q1
        exact ⟨_, rfl, h⟩
      · wp_walk using q1
        exact ⟨_, rfl, h⟩
    · wp_walk using q1
      exact ⟨_, rfl, h⟩
section
variable {prog : Program} {w : World} {A : Around} {E : Value → Shared → Prop} {s : Shared}
theorem enum_begins1 {v : Value} {o : Obj} {H : Heap → Prop} {Q : Value → Shared → Prop} (B : Begins v o H) (h1 : H s.heap)
    (h : ∀ h', IsEnum h' (s.heap.objs.size + 1) s.heap.objs.size 0 .none → h'.get? s.heap.objs.size = some o → (∀ b o, s.heap.get? b = some o → h'.get? b = some o) → Q (.ref (s.heap.objs.size + 1)) { s with heap := h' }) :
    wpAny (model prog w) A (call (.type "enumerate") [v]) Q E s := by
  refine callType_new F.called_enumerate (by decide) (F.typeCall_enumerate_1 _) (F.newCall_enumerate_1 _) (fun obj => F.args_object_init_2 obj _) F.entry_enumerate_new (meets_enumerate_new1 B) ⟨h1, ?_⟩
  have hz : (s.heap.push o).objs.size = s.heap.objs.size + 1 := Heap.size_push ..
  show _ ∧ _
  rw [hz]
  have he : IsEnum ((s.heap.push o).push { cls := .type "enumerate", data := .fields #[.none, .bool false, .ref s.heap.objs.size, rawInt 0, .none, .none] }) (s.heap.objs.size + 1) s.heap.objs.size 0 .none := by
    have := Heap.get?_push_size (s.heap.push o) (o := { cls := .type "enumerate", data := .fields #[.none, .bool false, .ref s.heap.objs.size, rawInt 0, .none, .none] }) rfl
    rw [hz] at this; exact this
  exact ⟨⟨_, he, rfl⟩, h _ he (Heap.get?_push_of_some _ (Heap.get?_push_size _ B.free)) fun b o x => Heap.get?_push_of_some _ (Heap.get?_push_of_some _ x)⟩
end
def IteT (K : PySem.W.Frag) (a : Addr) : It :=
  ⟨fun i H => ∃ (xs : List V) (x : V), SqT K H a xs ∧ xs[i]? = some x, fun i H v H' => ∃ T x, v = .ref T ∧ H T = none ∧ H' = upd H T (.tup [.int (i : Nat), x]) ∧ ∀ xs, SqT K H a xs → xs[i]? = some x, fun i H => ∃ xs : List V, SqT K H a xs ∧ xs.length ≤ i⟩
theorem turn_enumT {P : Program} {w : World} {K : PySem.W.Frag} {elts : List Expr} {kk : Nat} {tpos : Pos} (a e it : Addr) :
    Turn P w K (.Tuple elts kk tpos) (IteT K a) [e, it] e (fun i h => (∃ old, IsEnum h e it ((i : Nat) : Int) old) ∧ h.IsTupleIter it a i ∧ e ≠ it ∧ e ≠ a ∧ a ≠ it) where
  mem := by simp
  obj := fun i h st b hb => by
    obtain ⟨⟨old, he⟩, ⟨o, ho, hc, hd⟩, _⟩ := st
    have e' : b = e ∨ b = it := by simpa using hb
    rcases e' with z | z
    · rw [z]; exact ⟨_, he, fun v q => nomatch q⟩
    · rw [z]; exact ⟨o, ho, fun v q => by rw [hd] at q; cases q⟩
  keep := fun i h h' st k => let ⟨⟨old, he⟩, hi, hne⟩ := st; ⟨⟨old, k e (by simp) _ he⟩, hi.at fun o q => k it (by simp) o q, hne⟩
  item := by
    intro X hP hw hK hc i pins s σ H E I hf st hg
    subst hP hw hK
    obtain ⟨⟨old, he⟩, hit, hne, hea, hai⟩ := st
    obtain ⟨xs, x, hq, hx⟩ := hg
    obtain ⟨its, rv, p, hz⟩ := I.tuple hq
    obtain ⟨u, hu, ru⟩ := rv.get hx
    have hel : e < s.heap.objs.size := Heap.lt_size he
    have hil : it < s.heap.objs.size := by obtain ⟨_, q, _⟩ := hit; exact Heap.lt_size q
    have hlt : i < its.toArray.size := by
      have := (List.getElem?_eq_some_iff.mp hu).1
      simpa using this
    have Dr : Draws X.prog X.w X.A.in1 it [it, a] its.toArray.size (fun i v => its.toArray[i]? = some v) (fun i h => h.IsTupleIter it a i ∧ h.IsTuple a its.toArray) := Draws.tuple (by rw [show X.A.in1.handled = X.A.handled from rfl]; exact I.ok.hd hc) it a hai its.toArray
    refine wpAny_pyNext_enum_itemC Dr he ⟨hit, show s.heap.IsTuple a its.toArray from p⟩ hlt hne (by simp [hne, hea]) fun y h' tk hy ho hst' hT hsz hk => ?_
    have hyu : y = u := by
      have e1 : its.toArray[i]? = some y := hy
      have e2 : its.toArray[i]? = some u := by simpa using hu
      rw [e1] at e2; exact Option.some.inj e2
    subst hyu
    refine ⟨_, rfl, wpAny_letOwnedTupleGo_enum (s := { s with heap := h', toks := tk + 1 }) ho fun h'' he' sb => ?_⟩
    have hT2 : h''.get? s.heap.objs.size = some { cls := .type "tuple", data := .seq #[.int i tk, y] } := (sb.2 _ (Nat.ne_of_gt hel)).trans hT
    have new : ObjOk X.prog X.w (upd H s.heap.objs.size (.tup [.int (i : Nat), x])) h'' s.heap.objs.size (.tup [.int (i : Nat), x]) :=
      ⟨by show 2 ≤ sizeLine; decide, [.int i tk, y], .cons ⟨_, rfl⟩ (.cons ru .nil), ⟨_, hT2, rfl, _, rfl⟩⟩
    have I1 : L2.Inv X pins σ (upd H s.heap.objs.size (.tup [.int (i : Nat), x])) { s with heap := h'', toks := tk + 1 } :=
      I.turnedNew (ch := [e, it]) (fun b ob hb q => (sb.2 b (fun z => hb (by simp [z]))).trans (hk b ob (fun z => hb (by simp [z])) (fun z => hb (by simp [z])) q)) hf (Nat.le_refl _) new
    refine ⟨.ref s.heap.objs.size, _, I1, rfl, ⟨_, x, rfl, I.hok.fresh (Nat.le_refl _), rfl, fun ys hy => by rw [I.tuple_inj hy hq]; exact hx⟩, ⟨⟨y, ?_⟩, hst'.1.at fun o q => (sb.2 it (Ne.symm hne)).trans q, hne, hea, hai⟩, fun b hb => ?_⟩
    · have e1 : ((i + 1 : Nat) : Int) = (i : Int) + 1 := by omega
      rw [e1]; exact he'
    · have hb' : b < s.heap.objs.size := by
        have e' : b = e ∨ b = it := by simpa using hb
        rcases e' with z | z
        · rw [z]; exact hel
        · rw [z]; exact hil
      rw [upd_ne (Nat.ne_of_lt hb')]
      exact (hf b hb).1
  done := by
    intro X hP hw hK hc i pins s σ H E I hf st hg
    subst hP hw hK
    obtain ⟨⟨old, he⟩, hit, hne, hea, hai⟩ := st
    obtain ⟨xs, hq, hx⟩ := hg
    obtain ⟨its, rv, p, hz⟩ := I.tuple hq
    obtain ⟨f0, f1, f2, f3, f4, f5⟩ := hf it (by simp)
    have hl := rv.length
    have hh : X.A.in1.handled = none := by rw [show X.A.in1.handled = X.A.handled from rfl]; exact I.ok.hd hc
    have Dr : Draws X.prog X.w X.A.in1 it [it, a] i (fun _ _ => False) (fun j h => j = i ∧ h.IsTupleIter it a j ∧ h.IsTuple a its.toArray ∧ its.toArray.size ≤ j) := by
      refine ⟨fun _ _ st => let ⟨o, ho, _⟩ := st.2.1; ⟨o, ho⟩, fun _ _ _ st hk => ⟨st.1, st.2.1.at fun o e => hk it (by simp) o e, st.2.2.1.at fun o e => hk a (by simp) o e, st.2.2.2⟩, fun j s Q E hj st hQ => absurd st.1 (Nat.ne_of_lt hj), fun s Q E st hE => ?_⟩
      exact wpAny_nextOf_tuple_end hh st.2.1 st.2.2.1 (by have := st.2.2.2; simp only [Array.getElem?_eq_none_iff]; exact this) hE
    exact wpAny_pyNext_enum_endD Dr he ⟨rfl, hit, show s.heap.IsTuple a its.toArray from p, by simp; omega⟩ fun h' eb => ⟨rfl, I.turned (t' := s.toks) (fun b o hb q => eb b o hb q) f0 f1 f3 f4 f5⟩
  self := fun A i s Q E st h => let ⟨⟨_, he⟩, _⟩ := st; wpAny_pyIter_enum he h
def iEnumT (K : PySem.W.Frag) (ta : TA) : TI := fun σ H R => ta σ H fun vs H1 => ∃ a xs, vs = [.ref a] ∧ ((SqL K H1 a xs ∧ R (Ite K a) H1) ∨ (SqT K H1 a xs ∧ R (IteT K a) H1))
theorem pi_enumA {X : Cx} {e : Expr} {ta : TA} {p pos tpos : Pos} {elts : List Expr} {kk : Nat} (hg : Gl X "enumerate") (hm : X.mg "enumerate" = none) (ha : PA X [e] ta) (hs : starEach [e] X.env = [(false, eval e X.env)] := by rfl) :
    PI X (.Tuple elts kk tpos) (.Call (.Name "enumerate" p) [e] [] pos) (iEnumT X.K ta) := by
  refine ⟨fun pins s σ H R I h => ?_⟩
  refine Call_ (ld_blt I hg hm boot_enumerate (PyProof.Rows.callWith_type1 (thn (ha.run pos pins s σ H _ I h) fun us s1 ⟨vs, H1, I1, r1, q1⟩ => ?_) hs rfl))
  obtain ⟨a, xs, ex, q1⟩ := q1
  subst ex
  cases r1 with
  | cons r rr =>
    cases rr
    cases r
    have two : ∀ b, b ∈ [s1.heap.objs.size + 1, s1.heap.objs.size] → FpOk X pins H1 b := fun b hb => by
      have e' : b = s1.heap.objs.size + 1 ∨ b = s1.heap.objs.size := by simpa using hb
      have hle : s1.heap.objs.size ≤ b := by
        rcases e' with z | z
        · rw [z]; exact Nat.le_add_right _ _
        · rw [z]; exact Nat.le_refl _
      exact I1.fpOk hle (I1.hok.fresh hle)
    rcases q1 with ⟨hq, q⟩ | ⟨hq, q⟩
    · obtain ⟨its, rv, p', hz⟩ := I1.list hq
      refine call_enumerate_list p'.isList fun h' he hit hsz hk => wpAny_pyIter_enum he ?_
      have I2 : L2.Inv X pins σ H1 { s1 with heap := h' } := I1.kept (t' := s1.toks) hk
      exact ⟨s1.heap.objs.size + 1, [s1.heap.objs.size + 1, s1.heap.objs.size], _, _, H1, rfl, I2, turn_enum a (s1.heap.objs.size + 1) s1.heap.objs.size, ⟨⟨.none, he⟩, hit, Nat.succ_ne_self _⟩, two, q⟩
    · obtain ⟨its, rv, p', hz⟩ := I1.tuple hq
      obtain ⟨o', ho', _⟩ := id p'
      have hlt := Heap.lt_size ho'
      refine enum_begins1 (begins_tuple a its.toArray) (show s1.heap.IsTuple a its.toArray from p') fun h' he hit hk => wpAny_pyIter_enum he ?_
      have I2 : L2.Inv X pins σ H1 { s1 with heap := h' } := I1.kept (t' := s1.toks) hk
      exact ⟨s1.heap.objs.size + 1, [s1.heap.objs.size + 1, s1.heap.objs.size], _, _, H1, rfl, I2, turn_enumT a (s1.heap.objs.size + 1) s1.heap.objs.size, ⟨⟨.none, he⟩, ⟨_, hit, rfl, rfl⟩, Nat.succ_ne_self _, Nat.ne_of_gt (Nat.lt_succ_of_lt hlt), Nat.ne_of_lt hlt⟩, two, q⟩
theorem walk_enumT {K : PySem.W.Frag} {a : Addr} {xs : List V} : Walk (IteT K a) xs.length (fun H => SqT K H a xs) (YPair (fun i => some (.int (i : Nat))) (fun i => xs[i]?)) := by
  refine ⟨fun i _ hi q => ⟨xs, xs[i], q, by simp [hi]⟩, fun _ q => ⟨xs, q, Nat.le_refl _⟩, fun i H v H' _ q y => ?_⟩
  obtain ⟨T, x, h1, h2, h3, h4⟩ := y
  exact ⟨T, .int (i : Nat), x, h1, h2, h3, rfl, h4 xs q⟩
theorem walk_zipT {K : PySem.W.Frag} {a b : Addr} {xs ys : List V} {n : Nat} (hn : n = min xs.length ys.length) : Walk (RZ.ItzT K a b) n (fun H => SqT K H a xs ∧ SqT K H b ys) (YPair (fun i => xs[i]?) (fun i => ys[i]?)) := by
  subst hn
  refine ⟨fun i _ hi q => ?_, fun _ q => ⟨xs, ys, q.1, q.2, by omega⟩, fun i H v H' _ q y => ?_⟩
  · have h1 : i < xs.length := by omega
    have h2 : i < ys.length := by omega
    exact ⟨xs, ys, xs[i], ys[i], q.1, q.2, by simp [h1], by simp [h2]⟩
  · obtain ⟨T, x, z, h1, h2, h3, h4, h5⟩ := y
    exact ⟨T, x, z, h1, h2, h3, h4 xs q.1, h5 ys q.2⟩
section
variable {X : Cx} {Wx : WX} {fm : Fm}
/-- zip of two lists, of two tuples -/
def mZipA (ma mb : W → R D) : W → R (List D) := fun w => (ma w).bind fun x w1 => (mb w1).bind fun y w2 => R.lift (match x, y with | .lst a, .lst b => some (zipD a b) | .tup a, .tup b => some (zipD a b) | _, _ => none) w2
theorem si_zipA {e e2 : Expr} {p pos tpos : Pos} {elts : List Expr} {kk : Nat} {ma mb : W → R D} (ha : SE X Wx fm e ma) (hb : SE X Wx fm e2 mb) (hm : X.mg "zip" = none) (hg : Gl X "zip" := by rfl)
    (hs : starEach [e, e2] X.env = (false, eval e X.env) :: starEach [e2] X.env := by rfl) (hs2 : starEach [e2] X.env = (false, eval e2 X.env) :: starEach [] X.env := by rfl) (hpl : (backTo pos (starEach [e2] X.env)).any (·.1) = false := by rfl) :
    SIt X Wx fm (.Tuple elts kk tpos) (.Call (.Name "zip" p) [e, e2] [] pos) (mZipA ma mb) := by
  refine ⟨?_⟩
  intro ex σ H F w R r q
  refine WI.of (RZ.pi_zipA hg hm (pa_cons pe_we (pa_cons pe_we pa_nil hs2) hs) hs hpl) ?_
  show WE X e σ H fun x H1 => WE X e2 σ H1 fun y H2 => ∃ a b xs ys, [x, y] = [.ref a, .ref b] ∧ ((SqL X.K H2 a xs ∧ SqL X.K H2 b ys ∧ R (Itz X.K a b) H2) ∨ (SqT X.K H2 a xs ∧ SqT X.K H2 b ys ∧ R (RZ.ItzT X.K a b) H2))
  refine ha ex σ H F w _ r ((Fin.bind q).imp fun x w1 H1 F1 ⟨r1, k1, e1, q1⟩ v hv => ?_)
  refine hb ex σ H1 F1 w1 _ r1 ((Fin.bind q1).imp fun y w2 H2 F2 ⟨r2, k2, e2, q2⟩ u hu => ?_)
  obtain ⟨z, hz, q3⟩ := q2.lift
  have hv := hv.ex e2
  cases hv with
  | @lst p1 vs l h1 h2 =>
    cases hu with
    | @lst p2 us l2 h3 h4 =>
      cases hz
      refine ⟨p1, p2, vs, us, rfl, .inl ⟨.inl (.inl (r2.fh _ _ h1)), .inl (.inl (r2.fh _ _ h3)), q3 H2 F2 Kp.refl (Ex.refl _) r2 _ ?_⟩⟩
      have hn : (zipD l l2).length = min vs.length us.length := by simp [zipD, h2.len, h4.len]
      refine wk_pair (walk_zip hn) (fun H' e => ⟨.inl (.inl (e _ _ h1)), .inl (.inl (e _ _ h3))⟩) fun i x y hi hx hy => ?_
      obtain ⟨d, g1, g2⟩ := h2.getv hx
      obtain ⟨d2, g3, g4⟩ := h4.getv hy
      exact ⟨d, d2, by simp [zipD, List.getElem?_zipWith, g1, g3], g2, g4⟩
    | _ => cases hz
  | @tup p1 vs l h1 h2 =>
    cases hu with
    | @tup p2 us l2 h3 h4 =>
      cases hz
      refine ⟨p1, p2, vs, us, rfl, .inr ⟨ex_t r2.fh h1, ex_t r2.fh h3, q3 H2 F2 Kp.refl (Ex.refl _) r2 _ ?_⟩⟩
      have hn : (zipD l l2).length = min vs.length us.length := by simp [zipD, h2.len, h4.len]
      refine wk_pair (walk_zipT hn) (fun H' e => ⟨ex_t e h1, ex_t e h3⟩) fun i x y hi hx hy => ?_
      obtain ⟨d, g1, g2⟩ := h2.getv hx
      obtain ⟨d2, g3, g4⟩ := h4.getv hy
      exact ⟨d, d2, by simp [zipD, List.getElem?_zipWith, g1, g3], g2, g4⟩
    | _ => cases hz
  | _ => cases hu <;> cases hz
def mEnumA (ma : W → R D) : W → R (List D) := fun w => (ma w).bind fun x w1 => R.lift (match x with | .lst a => some (enumD 0 a) | .tup a => some (enumD 0 a) | _ => none) w1
theorem si_enumA {e : Expr} {p pos tpos : Pos} {elts : List Expr} {kk : Nat} {ma : W → R D} (ha : SE X Wx fm e ma) (hm : X.mg "enumerate" = none) (hg : Gl X "enumerate" := by rfl)
    (hs : starEach [e] X.env = [(false, eval e X.env)] := by rfl) (hs2 : starEach [e] X.env = (false, eval e X.env) :: starEach [] X.env := by rfl) :
    SIt X Wx fm (.Tuple elts kk tpos) (.Call (.Name "enumerate" p) [e] [] pos) (mEnumA ma) := by
  refine ⟨?_⟩
  intro ex σ H F w R r q
  refine WI.of (pi_enumA hg hm (pa_cons pe_we pa_nil hs2) hs) ?_
  show WE X e σ H fun x H1 => ∃ a xs, [x] = [.ref a] ∧ ((SqL X.K H1 a xs ∧ R (Ite X.K a) H1) ∨ (SqT X.K H1 a xs ∧ R (IteT X.K a) H1))
  refine ha ex σ H F w _ r ((Fin.bind q).imp fun x w1 H1 F1 ⟨r1, k1, e1, q1⟩ v hv => ?_)
  obtain ⟨z, hz, q3⟩ := q1.lift
  cases hv with
  | @lst p1 vs l h1 h2 =>
    cases hz
    refine ⟨p1, vs, rfl, .inl ⟨.inl (.inl (r1.fh _ _ h1)), q3 H1 F1 Kp.refl (Ex.refl _) r1 _ ?_⟩⟩
    refine wk_pair (G := fun H' => SqL X.K H' p1 vs) (f := fun i => some (.int (i : Nat))) (g := fun i => vs[i]?) (by rw [enumD_len, ← h2.len]; exact walk_enum) (fun H' e => .inl (.inl (e _ _ h1))) fun i x y hi hx hy => ?_
    cases hx
    obtain ⟨d, g1, g2⟩ := h2.getv hy
    exact ⟨.int i, d, by simpa using enumD_get 0 i l d g1, .int _, g2⟩
  | @tup p1 vs l h1 h2 =>
    cases hz
    refine ⟨p1, vs, rfl, .inr ⟨ex_t r1.fh h1, q3 H1 F1 Kp.refl (Ex.refl _) r1 _ ?_⟩⟩
    refine wk_pair (G := fun H' => SqT X.K H' p1 vs) (f := fun i => some (.int (i : Nat))) (g := fun i => vs[i]?) (by rw [enumD_len, ← h2.len]; exact walk_enumT) (fun H' e => ex_t e h1) fun i x y hi hx hy => ?_
    cases hx
    obtain ⟨d, g1, g2⟩ := h2.getv hy
    exact ⟨.int i, d, by simpa using enumD_get 0 i l d g1, .int _, g2⟩
  | _ => cases hz
/-! ### a part of a tuple, of a text -/
def D.slc (d : D) (a b : Option Int) : Option D := match d with
  | .tup l => some (.tup (cutD l a b))
  | .str z => if z.length ≤ 1000000 then some (.str (cutS z a b)) else none
  | _ => none
def mSlX (m : W → R D) (lo hi : W → R (Option Int)) : W → R D := fun w => (m w).bind fun d w1 => (lo w1).bind fun a w2 => (hi w2).bind fun b w3 => R.lift (d.slc a b) w3
theorem se_slX {e : Expr} {lo hi : Option Expr} {p2 pos : Pos} {m : W → R D} {ml mh : W → R (Option Int)} (h : SE X Wx fm e m) (hl : SO X Wx fm lo ml) (hh : SO X Wx fm hi mh) : SE X Wx fm (.Subscript e (.Slice lo hi none p2) pos) (mSlX m ml mh) := by
  refine ⟨?_⟩
  intro ex σ H F w Q r q
  obtain ⟨tl, pl, gl⟩ := hl
  obtain ⟨th, ph, gh⟩ := hh
  refine WE.of (pe_slice (sl_tupA.or sl_str) pe_we pl ph) ?_
  show WE X e σ H fun x H1 => tl σ H1 fun l H2 => th σ H2 fun u H3 => rSlA X.K x l u H3 Q ∨ rSlS x l u H3 Q
  refine h ex σ H F w _ r ((Fin.bind q).imp fun d w1 H1 F1 ⟨r1, k1, e1, q1⟩ v hv => ?_)
  refine gl ex σ H1 F1 w1 _ r1 ((Fin.bind q1).imp fun a w2 H2 F2 ⟨r2, k2, e2, q2⟩ => ?_)
  refine gh ex σ H2 F2 w2 _ r2 ((Fin.bind q2).imp fun b w3 H3 F3 ⟨r3, k3, e3, q3⟩ => ?_)
  obtain ⟨z, hz, q4⟩ := q3.lift
  have hv := (hv.ex e2).ex e3
  cases hv with
  | @tup p vs l h1 h2 =>
    cases hz
    refine .inl ⟨_, _, rfl, ex_t r3.fh h1, fun hw => ?_, fun _ p' hp => ?_⟩
    · have ec : cutD l a b = l := by
        have hw' : HT.sIx l.length 0 a = 0 ∧ HT.sIx l.length l.length b = l.length := by rw [← h2.len]; exact hw
        unfold TD.cutD
        rw [hw'.1, hw'.2]
        simp
      refine q4 H3 F3 Kp.refl (Ex.refl _) r3 _ ?_
      show Rp X.K fm.a0 F3 (V.ref p) (.tup (cutD l a b))
      rw [ec]
      exact .tup h1 h2
    · have g : Gr H3 F3 (upd H3 p' (.tup (cutV vs a b))) (upd F3 p' (.tup (cutV vs a b))) := Gr.new r3.fh hp
      exact q4 _ _ g.kp g.ff (r3.gr g) _ (.tup (.inl (.inl upd_same)) ((rp_cut h2 a b).ex g.ff))
  | str z' =>
    have hz : (if z'.length ≤ 1000000 then some (D.str (cutS z' a b)) else none) = some z := hz
    by_cases hl : z'.length ≤ 1000000
    · rw [if_pos hl] at hz
      cases hz
      exact .inr ⟨z', rfl, line_of hl, q4 H3 F3 Kp.refl (Ex.refl _) r3 _ (.str _)⟩
    · rw [if_neg hl] at hz; cases hz
  | _ => cases hz
/-! ### in, of texts too -/
def subS (i j : Str) : Bool := !(Builtin.Str.occurrences j i 0 j.length 1).isEmpty
def gInX : D → D → Option D
  | .str i, .str j => some (.bl (subS i j))
  | d, e => gIn d e
def gNotInX : D → D → Option D
  | .str i, .str j => some (.bl (!subS i j))
  | d, e => gNotIn d e
theorem dop_inX {a0 : Addr} : DOp X a0 (compareOp .In) gInX := by
  intro x y d e r H F Q hf hx hy hg k
  cases hy with
  | str j =>
    cases hx with
    | str i =>
      cases hg
      exact W2.of op_in_str ⟨_, _, rfl, rfl, k _ _ _ (Gr.refl hf) (.bl _)⟩
    | _ => cases hg
  | tup h1 h2 => exact dop_in x _ d _ r H F Q hf hx (.tup h1 h2) (by cases d <;> exact hg) k
  | lst h1 h2 => exact dop_in x _ d _ r H F Q hf hx (.lst h1 h2) (by cases d <;> exact hg) k
  | _ => cases d <;> cases hg
theorem dop_notInX {a0 : Addr} : DOp X a0 (compareOp .NotIn) gNotInX := by
  intro x y d e r H F Q hf hx hy hg k
  cases hy with
  | str j =>
    cases hx with
    | str i =>
      cases hg
      exact W2.of op_notIn_str ⟨_, _, rfl, rfl, k _ _ _ (Gr.refl hf) (.bl _)⟩
    | _ => cases hg
  | tup h1 h2 => exact dop_notIn x _ d _ r H F Q hf hx (.tup h1 h2) (by cases d <;> exact hg) k
  | lst h1 h2 => exact dop_notIn x _ d _ r H F Q hf hx (.lst h1 h2) (by cases d <;> exact hg) k
  | _ => cases d <;> cases hg
/-! ### join, upper -/
def strs? : List D → Option (List Str)
  | [] => some []
  | .str x :: l => (strs? l).map (x :: ·)
  | _ => none
theorem strs_rp {K : PySem.W.Frag} {a0 : Addr} {F : Hp} : ∀ {l : List D} {ns : List Str} {vs : List V}, strs? l = some ns → RpAll K a0 F vs l → vs = ns.map V.str
  | [], ns, _, e, h => by cases e; cases h; rfl
  | .str i :: l, ns, _, e, h => by
    unfold strs? at e
    cases q : strs? l with
    | none => rw [q] at e; cases e
    | some ms =>
      rw [q] at e
      cases e
      cases h with
      | cons h1 h2 =>
        cases h1
        rw [strs_rp q h2]
        rfl
  | .non :: _, _, _, e, _ => by cases e
  | .bl _ :: _, _, _, e, _ => by cases e
  | .int _ :: _, _, _, e, _ => by cases e
  | .tup _ :: _, _, _, e, _ => by cases e
  | .lst _ :: _, _, _, e, _ => by cases e
  | .src :: _, _, _, e, _ => by cases e
def joinD (a : Str) (d : D) : Option D := (d.seq?.bind strs?).bind fun ys => if (ys.map (·.length)).sum + ys.length * a.length ≤ 1000000 then some (.str (Txt.join a ys)) else none
def mJoin (ma mb : W → R D) : W → R D := fun w => (ma w).bind fun x w1 => match x with
  | .str a => (mb w1).bind fun y w2 => R.lift (joinD a y) w2
  | _ => .stuck
theorem se_join {o e : Expr} {apos pos : Pos} {ma mb : W → R D} (ha : SE X Wx fm o ma) (hb : SE X Wx fm e mb) (hs : starEach [e] X.env = [(false, eval e X.env)] := by rfl) (hbase : attributeBase o "join" X.env (eval o X.env) = eval o X.env := by rfl) (hline : (apos.endLine == pos.line) = true := by rfl) :
    SE X Wx fm (.Call (.Attribute o "join" apos) [e] [] pos) (mJoin ma mb) := by
  refine ⟨?_⟩
  intro ex σ H F w Q r q
  refine WE.of (pe_join pe_we pe_we hs hbase hline) ?_
  show WE X o σ H fun x H1 => (∃ a, x = .str a) ∧ WE X e σ H1 fun y H2 => ∃ a p, ∃ ys : List Str, x = .str a ∧ [y] = [.ref p] ∧ (SqL X.K H2 p (ys.map V.str) ∨ SqT X.K H2 p (ys.map V.str)) ∧ (ys.map (·.length)).sum + ys.length * a.length ≤ 16777216 ∧ Q (.str (Txt.join a ys)) H2
  refine ha ex σ H F w _ r ((Fin.bind q).imp fun x w1 H1 F1 ⟨r1, k1, e1, q1⟩ v hv => ?_)
  cases hv with
  | str a =>
    refine ⟨⟨a, rfl⟩, hb ex σ H1 F1 w1 _ r1 ((Fin.bind q1).imp fun y w2 H2 F2 ⟨r2, k2, e2, q2⟩ u hu => ?_)⟩
    obtain ⟨z, hz, q3⟩ := q2.lift
    have hz : joinD a y = some z := hz
    unfold joinD at hz
    cases hu with
    | @tup p us l h1 h2 =>
      have hz : (strs? l).bind (fun ys => if (ys.map (·.length)).sum + ys.length * a.length ≤ 1000000 then some (D.str (Txt.join a ys)) else none) = some z := hz
      cases hs : strs? l with
      | none => rw [hs] at hz; cases hz
      | some ys =>
        rw [hs] at hz
        have hz : (if (ys.map (·.length)).sum + ys.length * a.length ≤ 1000000 then some (D.str (Txt.join a ys)) else none) = some z := hz
        by_cases hl : (ys.map (·.length)).sum + ys.length * a.length ≤ 1000000
        · rw [if_pos hl] at hz
          cases hz
          have ev := strs_rp hs h2
          subst ev
          exact ⟨a, p, ys, rfl, rfl, .inr (ex_t r2.fh h1), by omega, q3 H2 F2 Kp.refl (Ex.refl _) r2 _ (.str _)⟩
        · rw [if_neg hl] at hz; cases hz
    | @lst p us l h1 h2 =>
      have hz : (strs? l).bind (fun ys => if (ys.map (·.length)).sum + ys.length * a.length ≤ 1000000 then some (D.str (Txt.join a ys)) else none) = some z := hz
      cases hs : strs? l with
      | none => rw [hs] at hz; cases hz
      | some ys =>
        rw [hs] at hz
        have hz : (if (ys.map (·.length)).sum + ys.length * a.length ≤ 1000000 then some (D.str (Txt.join a ys)) else none) = some z := hz
        by_cases hl : (ys.map (·.length)).sum + ys.length * a.length ≤ 1000000
        · rw [if_pos hl] at hz
          cases hz
          have ev := strs_rp hs h2
          subst ev
          exact ⟨a, p, ys, rfl, rfl, .inl (.inl (.inl (r2.fh _ _ h1))), by omega, q3 H2 F2 Kp.refl (Ex.refl _) r2 _ (.str _)⟩
        · rw [if_neg hl] at hz; cases hz
    | _ => cases hz
  | _ => exact (show False from q1).elim
def mUpper (ma : W → R D) : W → R D := fun w => (ma w).bind fun x w1 => R.lift (match x with | .str a => if a.length ≤ 1000000 then some (.str (Txt.upper a)) else none | _ => none) w1
theorem se_upper {o : Expr} {apos pos : Pos} {ma : W → R D} (ha : SE X Wx fm o ma) (hbase : attributeBase o "upper" X.env (eval o X.env) = eval o X.env := by rfl) (hline : (apos.endLine == pos.line) = true := by rfl) : SE X Wx fm (.Call (.Attribute o "upper" apos) [] [] pos) (mUpper ma) := by
  refine ⟨?_⟩
  intro ex σ H F w Q r q
  refine WE.of (pe_upper pe_we hbase hline) ?_
  show WE X o σ H fun x H1 => (∃ a, x = .str a) ∧ ∃ a, x = .str a ∧ ([] : List V) = [] ∧ a.length ≤ 5592405 ∧ Q (.str (Txt.upper a)) H1
  refine ha ex σ H F w _ r ((Fin.bind q).imp fun x w1 H1 F1 ⟨r1, k1, e1, q1⟩ v hv => ?_)
  obtain ⟨z, hz, q2⟩ := q1.lift
  cases hv with
  | str a =>
    have hz : (if a.length ≤ 1000000 then some (D.str (Txt.upper a)) else none) = some z := hz
    by_cases hl : a.length ≤ 1000000
    · rw [if_pos hl] at hz
      cases hz
      exact ⟨⟨a, rfl⟩, a, rfl, rfl, by omega, q2 H1 F1 Kp.refl (Ex.refl _) r1 _ (.str _)⟩
    · rw [if_neg hl] at hz; cases hz
  | _ => cases hz
/-! ### lists that are being built: their length, a place of them set -/
def mLenO (i : Nat) : W → R D := fun w => match w.env[i]? with
  | some (some (.own xs)) => .ok (.int xs.length) w
  | some (some (.val d)) => R.lift (gLen [d]) w
  | _ => .stuck
theorem se_lenO {i : Nat} {x : Str} {p p2 pos : Pos} (hm : X.mg "len" = none) (hN : X.N[i]? = some x := by rfl) (hv : Vis X.env.scope x := by first | exact Or.inl rfl | exact Or.inr (Or.inl rfl) | exact Or.inr (Or.inr rfl)) (hd : (x == ("__debug__" : Str)) = false := by decide)
    (hcd : (x == ("__classdict__" : Str)) = false := by decide) (hg : Gl X "len" := by rfl) (he : starEach [.Name x p2] X.env = (false, eval (.Name x p2) X.env) :: starEach [] X.env := by rfl) (hpl : (backTo pos (starEach [] X.env)).any (·.1) = false := by rfl) :
    SE X Wx fm (.Call (.Name "len" p) [.Name x p2] [] pos) (mLenO i) := by
  refine ⟨?_⟩
  intro ex σ H F w Q r fin
  revert fin
  unfold mLenO
  split
  · rename_i xs hx
    intro fin
    refine WE.of (pe_callB call_len_seq hg hm (by decide +kernel) (pa_cons (pe_var hN hv hd hcd) pa_nil he) (by decide) (by decide) he hpl) ?_
    obtain ⟨p0, e0, r0⟩ := r.takeOwn hx
    obtain ⟨b1, b2, b3, vs, b4, b5⟩ := r0.exo _ (List.mem_cons_self ..)
    have b5 : RpAll X.K fm.a0 F vs xs := b5
    refine ⟨.ref p0, e0, p0, vs, rfl, .inl (.inl (.inl b4)), ?_⟩
    rw [b5.len]
    exact fin H F Kp.refl (Ex.refl _) r _ (.int _)
  · rename_i d hx
    intro fin
    have h1 : SE X Wx fm (.Call (.Name "len" p) [.Name x p2] [] pos) (mBlt gLen (mCons (mVar i) mNil)) := se_callB dc_len hm (by decide +kernel) (sa_cons (se_var (i := i) hN hv hd hcd) sa_nil) hg (by decide) (by decide) he hpl
    refine h1 ex σ H F w Q r ?_
    have e : mBlt gLen (mCons (mVar i) mNil) w = R.lift (gLen [d]) w := by
      simp only [mBlt, mCons, mVar, hx, R.bind_ok, mNil]
    rw [e]
    exact fin
  · exact fun fin => fin.elim
/-- x[k] = e, x a list that is being built -/
def sSetIx (i : Nat) (mk me : W → R D) : W → RS := fun w => (me w).toS fun d w1 => match w1.env[i]? with
  | some (some (.own _)) => (mk w1).toS fun k w2 => match w2.env[i]?, k with
    | some (some (.own xs)), .int j => oS (ixN xs.length j) fun n => .nx { w2 with env := w2.env.set i (some (.own (xs.set n d))) }
    | _, _ => .stuck
  | _ => .stuck
theorem ss_setIx {i : Nat} {x : Str} {k e : Expr} {p tp pos : Pos} {mk me : W → R D} (h : SE X Wx fm e me) (hk : SE X Wx fm k mk) (hN : X.N[i]? = some x := by rfl) (hv : Vis X.env.scope x := by first | exact Or.inl rfl | exact Or.inr (Or.inl rfl) | exact Or.inr (Or.inr rfl)) (hd : (x == ("__debug__" : Str)) = false := by decide)
    (hcd : (x == ("__classdict__" : Str)) = false := by decide)
    (hpg : ∀ {to ti : TE}, PE X (.Name x p) to → PE X k ti → PG X (.Subscript (.Name x p) k tp) (L2.gSub to ti rSetL) := by exact fun a b => pg_sub a b set_list)
    (hs : swapsWithSole [.Subscript (.Name x p) k tp] e pos.line X.env = pure false := by rfl) (hw : swappedStores [.Subscript (.Name x p) k tp] e X.env = pure none := by rfl)
    (h1 : (assignEach [.Subscript (.Name x p) k tp] X.env).map (·.2) = [assign (.Subscript (.Name x p) k tp) X.env] := by rfl) :
    SSt X Wx fm (.Assign [.Subscript (.Name x p) k tp] e pos) (sSetIx i mk me) := by
  refine ⟨?_⟩
  intro ex σ H F w D r fin
  refine WS.of (ps_asg pe_we (hpg (pe_var hN hv hd hcd) pe_we) hs hw h1) ?_
  refine h ex σ H F w _ r ((FinS.ofR fin).imp fun d w1 H1 F1 ⟨r1, e1, q1⟩ v hv => ?_)
  revert q1
  split
  · rename_i xs0 hx0
    intro q1
    obtain ⟨p0, e0, r0⟩ := r1.takeOwn hx0
    refine ⟨.ref p0, e0, ?_⟩
    refine hk ex σ H1 F1 w1 _ r1 ((FinS.ofR q1).imp fun kd w2 H2 F2 ⟨r2, e2, q2⟩ u hu => ?_)
    cases hw2 : w2.env[i]? with
    | none => rw [hw2] at q2; exact (show False from q2).elim
    | some o =>
      rw [hw2] at q2
      match o, hw2, q2 with
      | none, _, q2 => exact (show False from q2).elim
      | some (.val _), _, q2 => exact (show False from q2).elim
      | some (.exn _), _, q2 => exact (show False from q2).elim
      | some (.own xs), hx, q2 =>
        cases hu with
        | int j =>
          obtain ⟨p1, e1', r3⟩ := r2.takeOwn hx
          rw [e0] at e1'
          cases e1'
          obtain ⟨b1, b2, b3, vs, b4, b5⟩ := r3.exo _ (List.mem_cons_self ..)
          have b5 : RpAll X.K fm.a0 F2 vs xs := b5
          have q2 : FinS X Wx fm ex F2 D (oS (ixN xs.length j) fun n => .nx { w2 with env := w2.env.set i (some (.own (xs.set n d))) }) := q2
          cases hj : ixN xs.length j with
          | none => rw [hj] at q2; exact (show False from q2).elim
          | some n =>
            rw [hj] at q2
            refine ⟨p0, vs, j, n, rfl, rfl, b4, by rw [b5.len]; exact hj, ?_⟩
            have r4 := (r3.mut (b5.setv n (hv.ex e2))).putOwn e0
            exact q2 σ _ F2 (Ex.refl _) (by simpa using r4)
        | _ => exact (show False from q2).elim
  · exact fun q1 => (show False from q1).elim
/-- tuple(range(n)) -/
def mTupRg (m : W → R D) : W → R D := fun w => (m w).bind fun d w1 => R.lift (match d with | .int n => if 0 ≤ n ∧ n ≤ 1000000 then some (.tup (rngD 0 n)) else none | _ => none) w1
theorem se_tupRg {e : Expr} {p p2 pos pos2 : Pos} {m : W → R D} (hc : X.calm = true) (h : SE X Wx fm e m) (hm : X.mg "tuple" = none) (hm2 : X.mg "range" = none) (hg : Gl X "tuple" := by rfl) (hg2 : Gl X "range" := by rfl)
    (na : starEach [.Call (.Name "range" p2) [e] [] pos2] X.env = (false, eval (.Call (.Name "range" p2) [e] [] pos2) X.env) :: starEach [] X.env := by rfl) (nb : starEach [e] X.env = (false, eval e X.env) :: starEach [] X.env := by rfl) :
    SE X Wx fm (.Call (.Name "tuple" p) [.Call (.Name "range" p2) [e] [] pos2] [] pos) (mTupRg m) := by
  refine ⟨?_⟩
  intro ex σ H F w Q r q
  refine WE.of (pe_tupRg hc hg hm (prg_1 hg2 hm2 pe_we nb) na) ?_
  show WE X e σ H fun x H1 => ∃ n, x = .int n ∧ RgOk 0 n ∧ ∀ q, H1 q = none → Q (.ref q) (upd H1 q (.tup (rgV 0 n)))
  refine h ex σ H F w _ r ((Fin.bind q).imp fun d w1 H1 F1 ⟨r1, k1, e1, q1⟩ v hv => ?_)
  obtain ⟨z, hz, q2⟩ := q1.lift
  cases hv with
  | int n =>
    have hz : (if 0 ≤ n ∧ n ≤ 1000000 then some (D.tup (rngD 0 n)) else none) = some z := hz
    by_cases hl : 0 ≤ n ∧ n ≤ 1000000
    · rw [if_pos hl] at hz
      cases hz
      refine ⟨n, rfl, RgOk.of_le (by omega) (by omega) (by omega) hl.1, fun p' hp => ?_⟩
      have g : Gr H1 F1 (upd H1 p' (.tup (rgV 0 n))) (upd F1 p' (.tup (rgV 0 n))) := Gr.new r1.fh hp
      refine q2 _ _ g.kp g.ff (r1.gr g) _ (.tup (.inl (.inl upd_same)) ?_)
      have e1 : rgV 0 n = ((List.range (n - 0).toNat).map fun (i : Nat) => (0 : Int) + (i : Int)).map V.int := by simp [rgV]
      have e2 : rngD 0 n = ((List.range (n - 0).toNat).map fun (i : Nat) => (0 : Int) + (i : Int)).map D.int := by simp [rngD]
      rw [e1, e2]
      exact RpAll.of_ints _
    · rw [if_neg hl] at hz; cases hz
  | _ => cases hz
end
section
variable {env : Env} {ss : SS} {w : W}
@[simp] theorem mZipA_ap (ma mb : W → R D) : mZipA ma mb w = (ma w).bind fun x w1 => (mb w1).bind fun y w2 => R.lift (match x, y with | .lst a, .lst b => some (zipD a b) | .tup a, .tup b => some (zipD a b) | _, _ => none) w2 := Eq.trans rfl rfl
@[simp] theorem mEnumA_ap (ma : W → R D) : mEnumA ma w = (ma w).bind fun x w1 => R.lift (match x with | .lst a => some (enumD 0 a) | .tup a => some (enumD 0 a) | _ => none) w1 := Eq.trans rfl rfl
@[simp] theorem mSlX_ap (m : W → R D) (lo hi : W → R (Option Int)) : mSlX m lo hi w = (m w).bind fun d w1 => (lo w1).bind fun a w2 => (hi w2).bind fun b w3 => R.lift (d.slc a b) w3 := Eq.trans rfl rfl
@[simp] theorem slc_tup (l : List D) (a b : Option Int) : (D.tup l).slc a b = some (.tup (TD.cutD l a b)) := Eq.trans rfl rfl
@[simp] theorem slc_str (z : Str) (a b : Option Int) : (D.str z).slc a b = if z.length ≤ 1000000 then some (.str (cutS z a b)) else none := Eq.trans rfl rfl
@[simp] theorem gInX_str (i j : Str) : gInX (.str i) (.str j) = some (.bl (subS i j)) := Eq.trans rfl rfl
@[simp] theorem gNotInX_str (i j : Str) : gNotInX (.str i) (.str j) = some (.bl (!subS i j)) := Eq.trans rfl rfl
@[simp] theorem gInX_tup (d : D) (l : List D) : gInX d (.tup l) = gIn d (.tup l) := by cases d <;> rfl
@[simp] theorem gInX_lst (d : D) (l : List D) : gInX d (.lst l) = gIn d (.lst l) := by cases d <;> rfl
@[simp] theorem gNotInX_tup (d : D) (l : List D) : gNotInX d (.tup l) = gNotIn d (.tup l) := by cases d <;> rfl
@[simp] theorem gNotInX_lst (d : D) (l : List D) : gNotInX d (.lst l) = gNotIn d (.lst l) := by cases d <;> rfl
@[simp] theorem mJoin_ap (ma mb : W → R D) : mJoin ma mb w = (ma w).bind fun x w1 => match x with
  | .str a => (mb w1).bind fun y w2 => R.lift (joinD a y) w2
  | _ => .stuck := Eq.trans rfl rfl
@[simp] theorem mUpper_ap (ma : W → R D) : mUpper ma w = (ma w).bind fun x w1 => R.lift (match x with | .str a => if a.length ≤ 1000000 then some (.str (Txt.upper a)) else none | _ => none) w1 := Eq.trans rfl rfl
@[simp] theorem mLenO_ap (i : Nat) : mLenO i ⟨env, ss⟩ = match env[i]? with
  | some (some (.own xs)) => .ok (.int xs.length) ⟨env, ss⟩
  | some (some (.val d)) => R.lift (gLen [d]) ⟨env, ss⟩
  | _ => .stuck := Eq.trans rfl rfl
@[simp] theorem sSetIx_ap (i : Nat) (mk me : W → R D) : sSetIx i mk me w = (me w).toS fun d w1 => match w1.env[i]? with
  | some (some (.own _)) => (mk w1).toS fun k w2 => match w2.env[i]?, k with
    | some (some (.own xs)), .int j => oS (ixN xs.length j) fun n => .nx { w2 with env := w2.env.set i (some (.own (xs.set n d))) }
    | _, _ => .stuck
  | _ => .stuck := Eq.trans rfl rfl
@[simp] theorem mTupRg_ap (m : W → R D) : mTupRg m w = (m w).bind fun d w1 => R.lift (match d with | .int n => if 0 ≤ n ∧ n ≤ 1000000 then some (.tup (rngD 0 n)) else none | _ => none) w1 := Eq.trans rfl rfl
@[simp] theorem gAdd_str (a b : Str) : gAdd (.str a) (.str b) = if a.length + b.length ≤ 1000000 then some (.str (a ++ b)) else none := Eq.trans rfl rfl
@[simp] theorem gIx_str (z : Str) (i : Int) : gIx (.str z) (.int i) = if z.length ≤ 1000000 then (atI z.cps.toList i).map fun c => .str ⟨#[c]⟩ else none := Eq.trans rfl rfl
@[simp] theorem gLen_str (z : Str) : gLen [.str z] = if z.length ≤ 1000000 then some (.int z.length) else none := Eq.trans rfl rfl
@[simp] theorem items_str (z : Str) : (D.str z).items = some (signs z) := Eq.trans rfl rfl
end
end TD

set_option Elab.async false
set_option linter.all false
set_option maxRecDepth 100000
set_option maxHeartbeats 4000000
namespace TD
open PySem PySem.Spec PyProof.Rows L2
/-! ### two fors in one comprehension -/
theorem in_it {J : It} {n : Nat} {G : Hp → Prop} {Y : Nat → Hp → V → Hp → Prop} (w : Walk J n G Y) {g : TG} {tt : TT} {te : TE} {vs : List Nat} {σ : L2.St} {H1 : Hp} {D : Addr} {Qd : Hp → Prop} (Pv : Nat → Hp → Prop) (h0 : Pv 0 H1) (hG : ∀ i H, i ≤ n → Pv i H → G H)
    (hs : ∀ i x H H', i < n → Pv i H → Y i H x H' → g x (L2.wipe σ vs) H' fun σ2 H2 => L2.wipe σ2 vs = L2.wipe σ vs ∧ tt σ2 H2 fun b H3 =>
      if b = true then te σ2 H3 fun y H4 => ∃ acc, H4 D = some (.lst acc) ∧ acc.length < sizeLine ∧ Pv (i + 1) (upd H4 D (.lst (acc ++ [y]))) else Pv (i + 1) H3) (hd : ∀ H, Pv n H → Qd H) :
    ∃ W : Nat → Nat → Hp → Prop, (∃ m, W 0 m H1) ∧ ∀ i m H, W i m H →
      (J.stop i H ∧ Qd H) ∨ (J.go i H ∧ ∃ Nx : Hp → Prop, (∀ H', Nx H' → ∃ m', m' < m ∧ W (i + 1) m' H') ∧ ∀ x H', J.yld i H x H' → g x (L2.wipe σ vs) H' fun σ2 H2 => L2.wipe σ2 vs = L2.wipe σ vs ∧ tt σ2 H2 fun b H3 =>
        if b = true then te σ2 H3 fun y H4 => ∃ acc, H4 D = some (.lst acc) ∧ acc.length < sizeLine ∧ Nx (upd H4 D (.lst (acc ++ [y]))) else Nx H3) := by
  refine ⟨fun i m H => m = n - i ∧ i ≤ n ∧ Pv i H, ⟨n, by simp, Nat.zero_le _, h0⟩, ?_⟩
  rintro i m H ⟨rfl, hi, p⟩
  have q := hG i H hi p
  by_cases hlt : i < n
  · refine .inr ⟨w.goes i H hlt q, Pv (i + 1), fun H' p' => ⟨n - (i + 1), by omega, rfl, hlt, p'⟩, fun x H' y => hs i x H H' hlt p (w.yields i H x H' hlt q y)⟩
  · have e : i = n := by omega
    subst e
    exact .inl ⟨w.stops H q, hd H p⟩
theorem wipe_in {σ : L2.St} {vs vs1 : List Nat} (h : ∀ i ∈ vs1, i ∈ vs) : L2.wipe (L2.wipe σ vs1) vs = L2.wipe σ vs := by
  refine List.ext_getElem? fun i => ?_
  rw [wipe_get, wipe_get, wipe_get]
  by_cases hm : i ∈ vs
  · rw [if_pos hm, if_pos hm]
    split
    · rw [Option.map_map]; rfl
    · rfl
  · rw [if_neg hm, if_neg hm, if_neg fun z => hm (h i z)]
def lcGo2 (vs vs1 : List Nat) (set : D → W → Option W) (mt : W → R Bool) (mi1 : W → R (List D)) (set1 : D → W → Option W) (mt1 : W → R Bool) (me : W → R D) : List D → List D → W → R (List D)
  | [], acc, w => .ok acc w
  | d :: ds, acc, w => match set d w with
    | none => .stuck
    | some w1 => (mt w1).nox.bind fun b w2 => if b = true then (mi1 w2).nox.bind fun ds1 w3 => (lcGo vs1 set1 mt1 me ds1 acc { w3 with env := wipeE w3.env vs1 }).bind fun acc w4 => lcGo2 vs vs1 set mt mi1 set1 mt1 me ds acc { w4 with env := wipeE w4.env vs }
      else lcGo2 vs vs1 set mt mi1 set1 mt1 me ds acc { w2 with env := wipeE w2.env vs }
def mLc2 (vs vs1 : List Nat) (mi : W → R (List D)) (set : D → W → Option W) (mt : W → R Bool) (mi1 : W → R (List D)) (set1 : D → W → Option W) (mt1 : W → R Bool) (me : W → R D) : W → R (List D) := fun w => (mi w).bind fun ds w1 =>
  (lcGo2 vs vs1 set mt mi1 set1 mt1 me ds [] { w1 with env := wipeE w1.env vs }).bind fun acc w2 => .ok acc { w2 with env := resE w1.env w2.env vs }
section
variable {X : Cx} {Wx : WX} {fm : Fm}
def bI (X : Cx) (scope : Scope) (tg iter : Expr) : TI := fun σ H R => ∀ (s : Shared) (H0 : Hp) (C : Addr) (cl : List (Str × Addr)) (fp : List Addr), WI (X.blk s H0 scope (compEnvC scope cl C X.env) fp) tg iter σ H R
theorem tlc2_ok {elt tg iter tg1 iter1 : Expr} {ifs ifs1 : List Expr} {scope : Scope} {vs vs1 : List Nat} {js js1 : List Nat} {mi mi1 : W → R (List D)} {set set1 : D → W → Option W} {mt mt1 : W → R Bool} {me : W → R D} (hi : SIt X Wx fm tg iter mi) (hvv : ∀ i ∈ vs1, i ∈ vs)
    (hg : ∀ (s : Shared) (H : Hp) (C : Addr) (cl : List (Str × Addr)) (fp : List Addr), SG (X.blk s H scope (compEnvC scope cl C X.env) fp) fm js tg set) (hj : ∀ j ∈ js, j ∈ vs)
    (ht : ∀ (s : Shared) (H : Hp) (C : Addr) (cl : List (Str × Addr)) (fp : List Addr), STs (X.blk s H scope (compEnvC scope cl C X.env) fp) W0 fm ifs mt)
    (hi1 : ∀ (s : Shared) (H : Hp) (C : Addr) (cl : List (Str × Addr)) (fp : List Addr), SIt (X.blk s H scope (compEnvC scope cl C X.env) fp) W0 fm tg1 iter1 mi1)
    (hg1 : ∀ (s : Shared) (H : Hp) (C : Addr) (cl : List (Str × Addr)) (fp : List Addr), SG (X.blk s H scope (compEnvC scope cl C X.env) fp) fm js1 tg1 set1) (hj1 : ∀ j ∈ js1, j ∈ vs1)
    (ht1 : ∀ (s : Shared) (H : Hp) (C : Addr) (cl : List (Str × Addr)) (fp : List Addr), STs (X.blk s H scope (compEnvC scope cl C X.env) fp) W0 fm ifs1 mt1)
    (he : ∀ (s : Shared) (H : Hp) (C : Addr) (cl : List (Str × Addr)) (fp : List Addr), SE (X.blk s H scope (compEnvC scope cl C X.env) fp) W0 fm elt me)
    {ex : Exs} {σ : L2.St} {H F : Hp} {w : W} {Q : VK} (r : Rel X.K fm ex σ H F w) (q : FinF X Wx fm ex σ H F Q (mLc2 vs vs1 mi set mt mi1 set1 mt1 me w)) : tLc2 (WI X tg iter) (bG X scope tg) (bT X scope ifs) (bI X scope tg1 iter1) (bG X scope tg1) (bT X scope ifs1) (bE X scope elt) vs vs1 σ H Q := by
  refine hi ex σ H F w _ r ((FinF.bind q).imp fun ds w1 H1 F1 ⟨r1, k1, e1, q1⟩ J wk Dl hD => ?_)
  obtain ⟨G, Y, walk, hG, hY⟩ := wk.ex
  have rw1 := r1.wipe vs
  have nd : ∀ b o, H1 b = some o → b ≠ Dl := fun b o e z => by subst z; rw [hD] at e; cases e
  let Pv : Nat → Hp → Prop := fun i H' => ∃ F' w' acc, Kp fm.a0 H1 H' ∧ Ex F1 F' ∧ Rel X.K fm ((Dl, acc) :: ex) (L2.wipe σ vs) H' F' w' ∧
      FinF X Wx fm ex σ H1 F1 Q ((lcGo2 vs vs1 set mt mi1 set1 mt1 me (ds.drop i) acc w').bind fun acc w2 => .ok acc { w2 with env := resE w1.env w2.env vs })
  have p0 : Pv 0 (upd H1 Dl (.lst [])) := ⟨F1, _, [], (Gr.dark r1.fh hD).kp, Ex.refl _, rw1.lay hD .nil, q1⟩
  refine ⟨fun i m H' => m = ds.length - i ∧ i ≤ ds.length ∧ Pv i H', ⟨ds.length, by simp, Nat.zero_le _, p0⟩, ?_⟩
  rintro i m Ha ⟨rfl, hile, p⟩
  obtain ⟨F', w', acc, kp, ef, rr, fin⟩ := p
  have gH := hG Ha (ef.trans rr.fh)
  by_cases hi' : i < ds.length
  case neg =>
    have e : i = ds.length := by omega
    subst e
    rw [List.drop_eq_nil_of_le (Nat.le_refl _)] at fin
    have rr2 := r1.restore ef rr vs
    rw [resS_wipe] at rr2
    exact .inl ⟨walk.stops Ha gH, fin Dl Ha F' kp ef rr2⟩
  refine .inr ⟨walk.goes i Ha hi' gH, Pv (i + 1), fun H' p' => ⟨ds.length - (i + 1), by omega, rfl, hi', p'⟩, fun x Hb y => ?_⟩
  have y := walk.yields i Ha x Hb hi' gH y
  -- one turn of the outer one
  obtain ⟨F2, d, hd, gr, rv⟩ := hY i Ha F' x Hb hi' ef rr.fh y
  have hdrop : ds.drop i = d :: ds.drop (i + 1) := by
    obtain ⟨hlt, e⟩ := List.getElem?_eq_some_iff.mp hd
    rw [List.drop_eq_getElem_cons hlt, e]
  rw [hdrop] at fin
  unfold lcGo2 at fin
  cases hset : set d w' with
  | none => rw [hset] at fin; exact (show False from fin).elim
  | some wa =>
    rw [hset] at fin
    have r2 := rr.gr gr
    intro s H0 C cl fp
    refine hg s H0 C cl fp _ _ _ _ _ _ _ _ _ r2 rv hset fun σ2 hl2 ha2 ra => ?_
    have ew : L2.wipe σ2 vs = L2.wipe σ vs := wipe_same (by rw [hl2, wipe_length]) ha2 hj
    refine ⟨ew, ?_⟩
    have fin : FinF X Wx fm ex σ H1 F1 Q (((mt wa).nox.bind fun b w2 => if b = true then (mi1 w2).nox.bind fun ds1 w3 => (lcGo vs1 set1 mt1 me ds1 acc { w3 with env := wipeE w3.env vs1 }).bind fun acc w4 => lcGo2 vs vs1 set mt mi1 set1 mt1 me (ds.drop (i + 1)) acc { w4 with env := wipeE w4.env vs }
      else lcGo2 vs vs1 set mt mi1 set1 mt1 me (ds.drop (i + 1)) acc { w2 with env := wipeE w2.env vs }).bind fun acc w2 => .ok acc { w2 with env := resE w1.env w2.env vs }) := fin
    obtain ⟨b, wb, hmt, fin⟩ := nox_ok (P := fun r => FinF X Wx fm ex σ H1 F1 Q (r.bind fun acc w2 => .ok acc { w2 with env := resE w1.env w2.env vs })) (fun z => z) fin
    intro s2 H02 C2 cl2 fp2
    refine ht s2 H02 C2 cl2 fp2 _ σ2 Hb F2 wa _ ra ?_
    rw [hmt]
    intro Hc Fc kc ec rc
    have kp2 : Kp fm.a0 H1 Hc := (kp.trans gr.kp).trans kc
    have ef2 : Ex F1 Fc := (ef.trans gr.ff).trans ec
    cases b with
    | false =>
      have rn := rc.wipe vs
      rw [ew] at rn
      exact ⟨Fc, _, acc, kp2, ef2, rn, fin⟩
    | true =>
      have fin : FinF X Wx fm ex σ H1 F1 Q (((mi1 wb).nox.bind fun ds1 w3 => (lcGo vs1 set1 mt1 me ds1 acc { w3 with env := wipeE w3.env vs1 }).bind fun acc w4 => lcGo2 vs vs1 set mt mi1 set1 mt1 me (ds.drop (i + 1)) acc { w4 with env := wipeE w4.env vs }).bind fun acc w2 => .ok acc { w2 with env := resE w1.env w2.env vs }) := fin
      obtain ⟨ds1, wc, hmi, fin⟩ := nox_ok (P := fun r => FinF X Wx fm ex σ H1 F1 Q (r.bind fun acc w2 => .ok acc { w2 with env := resE w1.env w2.env vs })) (fun z => z) fin
      show bI X scope tg1 iter1 σ2 Hc _
      intro s3 H03 C3 cl3 fp3
      refine hi1 s3 H03 C3 cl3 fp3 _ σ2 Hc Fc wb _ rc ?_
      rw [hmi]
      intro H4 F4 k4 e4 r4 J1 wk1
      obtain ⟨G1, Y1, walk1, hG1, hY1⟩ := wk1.ex
      have rw4 := r4.wipe vs1
      have kp4 : Kp fm.a0 H1 H4 := kp2.trans k4
      have ef4 : Ex F1 F4 := ef2.trans e4
      refine in_it (g := bG X scope tg1) (tt := bT X scope ifs1) (te := bE X scope elt) (vs := vs1) (σ := σ2) walk1 (fun j H' => ∃ F' w' acc, Kp fm.a0 H1 H' ∧ Ex F4 F' ∧ Rel X.K fm ((Dl, acc) :: ex) (L2.wipe σ2 vs1) H' F' w' ∧
          FinF X Wx fm ex σ H1 F1 Q (((lcGo vs1 set1 mt1 me (ds1.drop j) acc w').bind fun acc w4 => lcGo2 vs vs1 set mt mi1 set1 mt1 me (ds.drop (i + 1)) acc { w4 with env := wipeE w4.env vs }).bind fun acc w2 => .ok acc { w2 with env := resE w1.env w2.env vs }))
        ⟨F4, _, acc, kp4, Ex.refl _, rw4, fin⟩ (fun j H' hj' ⟨F', w', acc, a, b, c, d⟩ => hG1 H' (b.trans c.fh)) (fun j x Ha Hb hj' ⟨F', w', acc, kp, ef, rr, fin⟩ y => ?_) (fun H' ⟨F', w', acc, kp, ef, rr, fin⟩ => ?_)
      · -- one turn of the inner one
        obtain ⟨F2, d, hd, gr, rv⟩ := hY1 j Ha F' x Hb hj' ef rr.fh y
        have hdrop : ds1.drop j = d :: ds1.drop (j + 1) := by
          obtain ⟨hlt, e⟩ := List.getElem?_eq_some_iff.mp hd
          rw [List.drop_eq_getElem_cons hlt, e]
        rw [hdrop] at fin
        unfold lcGo at fin
        cases hset : set1 d w' with
        | none => rw [hset] at fin; exact (show False from fin).elim
        | some wa =>
          rw [hset] at fin
          have r2 := rr.gr gr
          intro s H0 C cl fp
          refine hg1 s H0 C cl fp _ _ _ _ _ _ _ _ _ r2 rv hset fun σ3 hl3 ha3 ra => ?_
          have ew1 : L2.wipe σ3 vs1 = L2.wipe σ2 vs1 := wipe_same (by rw [hl3, wipe_length]) ha3 hj1
          refine ⟨ew1, ?_⟩
          have fin : FinF X Wx fm ex σ H1 F1 Q ((((mt1 wa).nox.bind fun b w2 => if b = true then (me w2).nox.bind fun y w3 => if acc.length < 1000000 then lcGo vs1 set1 mt1 me (ds1.drop (j + 1)) (acc ++ [y]) { w3 with env := wipeE w3.env vs1 } else .stuck
            else lcGo vs1 set1 mt1 me (ds1.drop (j + 1)) acc { w2 with env := wipeE w2.env vs1 }).bind fun acc w4 => lcGo2 vs vs1 set mt mi1 set1 mt1 me (ds.drop (i + 1)) acc { w4 with env := wipeE w4.env vs }).bind fun acc w2 => .ok acc { w2 with env := resE w1.env w2.env vs }) := fin
          obtain ⟨b, wb, hmt, fin⟩ := nox_ok (P := fun r => FinF X Wx fm ex σ H1 F1 Q ((r.bind fun acc w4 => lcGo2 vs vs1 set mt mi1 set1 mt1 me (ds.drop (i + 1)) acc { w4 with env := wipeE w4.env vs }).bind fun acc w2 => .ok acc { w2 with env := resE w1.env w2.env vs })) (fun z => z) fin
          intro s2 H02 C2 cl2 fp2
          refine ht1 s2 H02 C2 cl2 fp2 _ σ3 Hb F2 wa _ ra ?_
          rw [hmt]
          intro Hc Fc kc ec rc
          have kp2 : Kp fm.a0 H1 Hc := (kp.trans gr.kp).trans kc
          have ef2 : Ex F4 Fc := (ef.trans gr.ff).trans ec
          cases b with
          | false =>
            have rn := rc.wipe vs1
            rw [ew1] at rn
            exact ⟨Fc, _, acc, kp2, ef2, rn, fin⟩
          | true =>
            have fin : FinF X Wx fm ex σ H1 F1 Q ((((me wb).nox.bind fun y w3 => if acc.length < 1000000 then lcGo vs1 set1 mt1 me (ds1.drop (j + 1)) (acc ++ [y]) { w3 with env := wipeE w3.env vs1 } else .stuck).bind fun acc w4 => lcGo2 vs vs1 set mt mi1 set1 mt1 me (ds.drop (i + 1)) acc { w4 with env := wipeE w4.env vs }).bind fun acc w2 => .ok acc { w2 with env := resE w1.env w2.env vs }) := fin
            obtain ⟨z, wc, hme, fin⟩ := nox_ok (P := fun r => FinF X Wx fm ex σ H1 F1 Q ((r.bind fun acc w4 => lcGo2 vs vs1 set mt mi1 set1 mt1 me (ds.drop (i + 1)) acc { w4 with env := wipeE w4.env vs }).bind fun acc w2 => .ok acc { w2 with env := resE w1.env w2.env vs })) (fun z => z) fin
            show bE X scope elt σ3 Hc _
            intro s3 H03 C3 cl3 fp3
            refine he s3 H03 C3 cl3 fp3 _ σ3 Hc Fc wb _ rc ?_
            rw [hme]
            intro Hd Fd kd ed rd v hv
            by_cases hz : acc.length < 1000000
            · rw [if_pos hz] at fin
              obtain ⟨h1, h2, h3, us, h4, h5⟩ := rd.exo _ (List.mem_cons_self ..)
              have h4 : Hd Dl = some (.lst us) := h4
              have h5 : RpAll X.K fm.a0 Fd us acc := h5
              refine ⟨us, h4, line_lt (by rw [h5.len]; omega), ?_⟩
              have rm := rd.mut (h5.app (.one hv))
              have rn := rm.wipe vs1
              rw [ew1] at rn
              exact ⟨Fd, _, acc ++ [z], fun b o n e => by rw [upd_ne (nd b o e)]; exact kd b o n (kp2 b o n e), ef2.trans ed, rn, fin⟩
            · rw [if_neg hz] at fin
              exact (show False from fin).elim
      · -- the inner one's end
        rw [List.drop_eq_nil_of_le (Nat.le_refl _)] at fin
        have rn := rr.wipe vs
        rw [wipe_in hvv, ew] at rn
        exact ⟨F', _, acc, kp, ef4.trans ef, rn, fin⟩
theorem sf_lc2 {elt tg iter tg1 iter1 : Expr} {ifs ifs1 : List Expr} {scope : Scope} {own : List (Str × Nat)} {pos : Pos} {vs1 js js1 : List Nat} {mi mi1 : W → R (List D)} {set set1 : D → W → Option W} {mt mt1 : W → R Bool} {me : W → R D} (hc : X.calm = true) (hN : X.N.Nodup) (hi : SIt X Wx fm tg iter mi) (ok : BlkOk X.N X.env.scope scope own) (hvv : ∀ i ∈ vs1, i ∈ own.map (·.2))
    (hg : ∀ (s : Shared) (H : Hp) (C : Addr) (cl : List (Str × Addr)) (fp : List Addr), SG (X.blk s H scope (compEnvC scope cl C X.env) fp) fm js tg set) (hj : ∀ j ∈ js, j ∈ own.map (·.2))
    (ht : ∀ (s : Shared) (H : Hp) (C : Addr) (cl : List (Str × Addr)) (fp : List Addr), STs (X.blk s H scope (compEnvC scope cl C X.env) fp) W0 fm ifs mt)
    (hi1 : ∀ (s : Shared) (H : Hp) (C : Addr) (cl : List (Str × Addr)) (fp : List Addr), SIt (X.blk s H scope (compEnvC scope cl C X.env) fp) W0 fm tg1 iter1 mi1)
    (hg1 : ∀ (s : Shared) (H : Hp) (C : Addr) (cl : List (Str × Addr)) (fp : List Addr), SG (X.blk s H scope (compEnvC scope cl C X.env) fp) fm js1 tg1 set1) (hj1 : ∀ j ∈ js1, j ∈ vs1)
    (ht1 : ∀ (s : Shared) (H : Hp) (C : Addr) (cl : List (Str × Addr)) (fp : List Addr), STs (X.blk s H scope (compEnvC scope cl C X.env) fp) W0 fm ifs1 mt1)
    (he : ∀ (s : Shared) (H : Hp) (C : Addr) (cl : List (Str × Addr)) (fp : List Addr), SE (X.blk s H scope (compEnvC scope cl C X.env) fp) W0 fm elt me)
    (hs : ∀ x, foldedSetIterable iter X.env x = pure x := by intro _; rfl) (hs1 : ∀ env x, foldedSetIterable iter1 env x = pure x := by intro _ _; rfl) : SF X Wx fm (.ListComp elt [⟨tg, iter, ifs, 0⟩, ⟨tg1, iter1, ifs1, 0⟩] scope pos) (mLc2 (own.map (·.2)) vs1 mi set mt mi1 set1 mt1 me) := by
  refine ⟨?_⟩
  intro ex σ H F w Q r q
  exact WE.of (pe_lc2 (wi := WI X tg iter) (g := bG X scope tg) (tt := bT X scope ifs) (wi1 := bI X scope tg1 iter1) (g1 := bG X scope tg1) (tt1 := bT X scope ifs1) (te := bE X scope elt) (vs1 := vs1)
    hc hN pi_wi ok hvv (fun s H C cl fp => ⟨fun pins s' σ' H' v u Q' I rv h => h s H C cl fp pins s' u I rv⟩) (fun s H C cl fp => ⟨fun pins s' σ' H' Q' I h => h s H C cl fp pins s' I⟩) (fun s H C cl fp => ⟨fun pins s' σ' H' R' I h => h s H C cl fp pins s' I⟩)
    (fun s H C cl fp => ⟨fun pins s' σ' H' v u Q' I rv h => h s H C cl fp pins s' u I rv⟩) (fun s H C cl fp => ⟨fun pins s' σ' H' Q' I h => h s H C cl fp pins s' I⟩) (fun s H C cl fp => ⟨fun pins s' σ' H' Q' I h => h s H C cl fp pins s' I⟩) hs hs1) (tlc2_ok hi hvv hg hj ht hi1 hg1 hj1 ht1 he r q)
theorem ss_setLcF2 {i : Nat} {y : Str} {py : Pos} {elt tg iter tg1 iter1 : Expr} {ifs ifs1 : List Expr} {scope : Scope} {own : List (Str × Nat)} {pos spos : Pos} {vs1 js js1 : List Nat} {mi mi1 : W → R (List D)} {set set1 : D → W → Option W} {mt mt1 : W → R Bool} {me : W → R D} (hc : X.calm = true) (hN : X.N.Nodup) (hi : SIt X Wx fm tg iter mi) (ok : BlkOk X.N X.env.scope scope own) (hvv : ∀ i ∈ vs1, i ∈ own.map (·.2))
    (hg : ∀ (s : Shared) (H : Hp) (C : Addr) (cl : List (Str × Addr)) (fp : List Addr), SG (X.blk s H scope (compEnvC scope cl C X.env) fp) fm js tg set) (hj : ∀ j ∈ js, j ∈ own.map (·.2))
    (ht : ∀ (s : Shared) (H : Hp) (C : Addr) (cl : List (Str × Addr)) (fp : List Addr), STs (X.blk s H scope (compEnvC scope cl C X.env) fp) W0 fm ifs mt)
    (hi1 : ∀ (s : Shared) (H : Hp) (C : Addr) (cl : List (Str × Addr)) (fp : List Addr), SIt (X.blk s H scope (compEnvC scope cl C X.env) fp) W0 fm tg1 iter1 mi1)
    (hg1 : ∀ (s : Shared) (H : Hp) (C : Addr) (cl : List (Str × Addr)) (fp : List Addr), SG (X.blk s H scope (compEnvC scope cl C X.env) fp) fm js1 tg1 set1) (hj1 : ∀ j ∈ js1, j ∈ vs1)
    (ht1 : ∀ (s : Shared) (H : Hp) (C : Addr) (cl : List (Str × Addr)) (fp : List Addr), STs (X.blk s H scope (compEnvC scope cl C X.env) fp) W0 fm ifs1 mt1)
    (he : ∀ (s : Shared) (H : Hp) (C : Addr) (cl : List (Str × Addr)) (fp : List Addr), SE (X.blk s H scope (compEnvC scope cl C X.env) fp) W0 fm elt me)
    (hy : X.N[i]? = some y := by rfl) (hyl : X.env.scope.names.lookup y = some .local := by rfl)
    (hsw : swapsWith (.ListComp elt [⟨tg, iter, ifs, 0⟩, ⟨tg1, iter1, ifs1, 0⟩] scope pos) (some (.Name y py)) spos.line X.env = pure true := by exact sw_true rfl rfl rfl (by decide +kernel))
    (hs : ∀ x, foldedSetIterable iter X.env x = pure x := by intro _; rfl) (hs1 : ∀ env x, foldedSetIterable iter1 env x = pure x := by intro _ _; rfl) : SSt X Wx fm (.Assign [.Name y py] (.ListComp elt [⟨tg, iter, ifs, 0⟩, ⟨tg1, iter1, ifs1, 0⟩] scope pos) spos) (sSetF i (mLc2 (own.map (·.2)) vs1 mi set mt mi1 set1 mt1 me)) := by
  refine ⟨?_⟩
  intro ex σ H F w D r q
  refine WS.of (ps_setLc2 (wi := WI X tg iter) (g := bG X scope tg) (tt := bT X scope ifs) (wi1 := bI X scope tg1 iter1) (g1 := bG X scope tg1) (tt1 := bT X scope ifs1) (te := bE X scope elt) (vs1 := vs1)
    hc hN hy hyl hsw pi_wi ok hvv (fun s H C cl fp => ⟨fun pins s' σ' H' v u Q' I rv h => h s H C cl fp pins s' u I rv⟩) (fun s H C cl fp => ⟨fun pins s' σ' H' Q' I h => h s H C cl fp pins s' I⟩) (fun s H C cl fp => ⟨fun pins s' σ' H' R' I h => h s H C cl fp pins s' I⟩)
    (fun s H C cl fp => ⟨fun pins s' σ' H' v u Q' I rv h => h s H C cl fp pins s' u I rv⟩) (fun s H C cl fp => ⟨fun pins s' σ' H' Q' I h => h s H C cl fp pins s' I⟩) (fun s H C cl fp => ⟨fun pins s' σ' H' Q' I h => h s H C cl fp pins s' I⟩) hs hs1) ?_
  exact tlc2_ok (Q := fun x H1 => gName i x σ H1 D.nx) hi hvv hg hj ht hi1 hg1 hj1 ht1 he r (FinS.ofF q fun xs w1 p H1 F1 _ e1 r1 q1 => q1 _ H1 F1 (Ex.refl _) (r1.setOwn i))
end
/-! ### str(int), sorted of ints of any number -/
section
variable {X : Cx} {Wx : WX} {fm : Fm}
def gStrI : List D → Option D
  | [.int i] => if i.natAbs.log2 < 1920 then some (.str (toString i)) else none
  | _ => none
theorem dc_strI {a0 : Addr} : DCall X a0 (.type "str") gStrI := by
  intro vs ds r H F Q hf hv hg k
  cases hv with
  | nil => cases hg
  | cons h1 h2 =>
    cases h2 with
    | cons _ _ => cases h1 <;> cases hg
    | nil =>
      cases h1 with
      | int i =>
        have hg : (if i.natAbs.log2 < 1920 then some (D.str (toString i)) else none) = some r := hg
        by_cases hz : i.natAbs.log2 < 1920
        · rw [if_pos hz] at hg
          cases hg
          exact WC.of call_str_int ⟨i, rfl, hz, k _ _ _ (Gr.refl hf) (.str _)⟩
        · rw [if_neg hz] at hg; cases hg
      | _ => cases hg
def mSortedI (ma : W → R D) : W → R (List D) := fun w => (ma w).bind fun x w1 => R.lift (match x with | .lst a => (ints? a).map fun ns => (sortI ns).map D.int | _ => none) w1
theorem sf_sortedI {e : Expr} {p pos : Pos} {m : W → R D} (h : SE X Wx fm e m) (hm : X.mg "sorted" = none) (hg : Gl X "sorted" := by rfl) (he : starEach [e] X.env = (false, eval e X.env) :: starEach [] X.env := by rfl) (hpl : (backTo pos (starEach [] X.env)).any (·.1) = false := by rfl) :
    SF X Wx fm (.Call (.Name "sorted" p) [e] [] pos) (mSortedI m) := by
  refine ⟨?_⟩
  intro ex σ H F w Q r q
  refine WE.of (pe_callB cr_sortedI hg hm (by decide +kernel) (pa_cons pe_we pa_nil he) (by decide) (by decide) he hpl) ?_
  show WE X e σ H fun x H1 => rSortedI X.K [x] H1 Q
  refine h ex σ H F w _ r ((FinF.bindD q).imp fun d w1 H1 F1 ⟨r1, k1, e1, q1⟩ v hv => ?_)
  cases hv with
  | @lst p0 vs l h1 h2 =>
    have q1 : FinF X Wx fm ex σ H1 F1 Q (R.lift ((ints? l).map fun ns => (sortI ns).map D.int) w1) := q1
    cases hi : ints? l with
    | none => rw [hi] at q1; exact (show False from q1).elim
    | some ns =>
      rw [hi] at q1
      have ev := ints_rp hi h2
      subst ev
      refine ⟨p0, ns, rfl, .inl (.inl (r1.fh _ _ h1)), fun ns' p hp hs hn => ?_⟩
      have e2 : ns' = sortI ns := sortI_uniq (hp.trans (sortI_perm ns).symm) hs (sortI_sorted ns)
      subst e2
      exact q1 p _ F1 (Gr.dark r1.fh hn).kp (Ex.refl _) (r1.lay hn (RpAll.of_ints _))
  | _ => exact (show False from q1).elim
/-! ### x[k] op= e, x a list that is being built -/
theorem get_list : PGet X (rIxL X.K) := by
  intro pins s σ H o i v u Q I rx ry h
  obtain ⟨p, xs, i, z, rfl, rfl, hq, he, q⟩ := h
  cases rx
  obtain ⟨t, rfl⟩ := ry
  obtain ⟨its, r, pl, hz⟩ := I.list hq
  obtain ⟨j, h1, h2, h3, h4, h5⟩ := atI_get he
  obtain ⟨w, ew, rw'⟩ := r.get h2
  have hl := r.length
  have hn := line63
  have fin : EP X pins σ Q w s := ⟨z, H, I, rw', q⟩
  by_cases h0 : 0 ≤ i
  · have hj : i.toNat = j := by
      rw [seqIndex_of h0 h5] at h1
      exact Option.some.inj h1
    exact wpAny_getItem_list pl.isList h0 (by omega) (by rw [hj]; simpa using ew) fin
  · have hj : (i + (its.toArray.size : Int)).toNat = j := by
      rw [seqIndex_neg (by omega) h4] at h1
      rw [List.size_toArray, ← hl]
      exact Option.some.inj h1
    exact wpAny_getItem_list_neg pl.isList (by omega) (by rw [List.size_toArray] <;> omega) (by omega) (by rw [hj]; simpa using ew) fin
def sAugIx (i : Nat) (mk : W → R D) (g : D → D → Option D) (me : W → R D) : W → RS := fun w => match w.env[i]? with
  | some (some (.own _)) => (mk w).toS fun k w1 => match w1.env[i]?, k with
    | some (some (.own xs)), .int j => oS (atI xs j) fun old => (me w1).toS fun y w2 => oS (g old y) fun z => match w2.env[i]? with
      | some (some (.own ys)) => oS (ixN ys.length j) fun n => .nx { w2 with env := w2.env.set i (some (.own (ys.set n z))) }
      | _ => .stuck
    | _, _ => .stuck
  | _ => .stuck
theorem oS_fin {α : Type} {o : Option α} {k : α → RS} {ex : Exs} {F : Hp} {D : Ends} (h : FinS X Wx fm ex F D (oS o k)) : ∃ a, o = some a ∧ FinS X Wx fm ex F D (k a) := by
  cases o with
  | none => exact (show False from h).elim
  | some a => exact ⟨a, rfl, h⟩
theorem ss_augIx {i : Nat} {x : Str} {k e : Expr} {op : Operator} {p tp pos : Pos} {mk me : W → R D} {g : D → D → Option D} (ho : DOp X fm.a0 (inplaceOp op) g) (h : SE X Wx fm e me) (hk : SE X Wx fm k mk) (hN : X.N[i]? = some x := by rfl) (hv : Vis X.env.scope x := by first | exact Or.inl rfl | exact Or.inr (Or.inl rfl) | exact Or.inr (Or.inr rfl)) (hd : (x == ("__debug__" : Str)) = false := by decide)
    (hcd : (x == ("__classdict__" : Str)) = false := by decide)
    (ha : ∀ ov iv new, augStore k ov iv new = (do holding [new, ov, iv] (setItem ov iv new); release [new, ov, iv] []; pure .next) := by intros; rfl) :
    SSt X Wx fm (.AugAssign (.Subscript (.Name x p) k tp) op e pos) (sAugIx i mk g me) := by
  refine ⟨?_⟩
  intro ex σ H F w D r fin
  refine WS.of (ps_augS (pe_var hN hv hd hcd) pe_we get_list pe_we (tip := W2 X (inplaceOp op)) opr_w2 set_list ha) ?_
  revert fin
  unfold sAugIx
  split
  · rename_i xs0 hx0
    intro fin
    obtain ⟨p0, e0, r0⟩ := r.takeOwn hx0
    refine ⟨.ref p0, e0, ?_⟩
    refine hk ex σ H F w _ r ((FinS.ofR fin).imp fun kd w1 H1 F1 ⟨r1, e1, q1⟩ u hu => ?_)
    cases hw1 : w1.env[i]? with
    | none => rw [hw1] at q1; exact (show False from q1).elim
    | some o =>
      rw [hw1] at q1
      match o, hw1, q1 with
      | none, _, q1 => exact (show False from q1).elim
      | some (.val _), _, q1 => exact (show False from q1).elim
      | some (.exn _), _, q1 => exact (show False from q1).elim
      | some (.own xs), hx, q1 =>
        cases hu with
        | int j =>
          obtain ⟨p1, e1', r3⟩ := r1.takeOwn hx
          rw [e0] at e1'
          cases e1'
          obtain ⟨b1, b2, b3, vs, b4, b5⟩ := r3.exo _ (List.mem_cons_self ..)
          have b5 : RpAll X.K fm.a0 F1 vs xs := b5
          have q1 : FinS X Wx fm ex F1 D (oS (atI xs j) fun old => (me w1).toS fun y w2 => oS (g old y) fun z => match w2.env[i]? with
            | some (some (.own ys)) => oS (ixN ys.length j) fun n => .nx { w2 with env := w2.env.set i (some (.own (ys.set n z))) }
            | _ => .stuck) := q1
          obtain ⟨old, hat, q1⟩ := oS_fin q1
          obtain ⟨t, ht, rt⟩ := rp_atI b5 hat
          refine ⟨p0, vs, j, t, rfl, rfl, .inl (.inl b4), ht, ?_⟩
          refine h ex σ H1 F1 w1 _ r1 ((FinS.ofR q1).imp fun y w2 H2 F2 ⟨r2, e2, q2⟩ yv hy => ?_)
          obtain ⟨z, hz, q2⟩ := oS_fin q2
          refine ho t yv old y z H2 F2 _ r2.fh (rt.ex e2) hy hz fun zv H3 F3 g3 rz => ?_
          have r4 := r2.gr g3
          cases hw2 : w2.env[i]? with
          | none => rw [hw2] at q2; exact (show False from q2).elim
          | some o2 =>
            rw [hw2] at q2
            match o2, hw2, q2 with
            | none, _, q2 => exact (show False from q2).elim
            | some (.val _), _, q2 => exact (show False from q2).elim
            | some (.exn _), _, q2 => exact (show False from q2).elim
            | some (.own ys), hy2, q2 =>
              obtain ⟨p2, e2', r5⟩ := r4.takeOwn hy2
              rw [e0] at e2'
              cases e2'
              obtain ⟨c1, c2, c3, us, c4, c5⟩ := r5.exo _ (List.mem_cons_self ..)
              have c5 : RpAll X.K fm.a0 F3 us ys := c5
              have q2 : FinS X Wx fm ex F2 D (oS (ixN ys.length j) fun n => .nx { w2 with env := w2.env.set i (some (.own (ys.set n z))) }) := q2
              obtain ⟨n, hn, q2⟩ := oS_fin q2
              refine ⟨p0, us, j, n, rfl, rfl, c4, by rw [c5.len]; exact hn, ?_⟩
              have r6 := (r5.mut (c5.setv n rz)).putOwn e0
              exact q2 σ _ F3 g3.ff (by simpa using r6)
        | _ => exact (show False from q1).elim
  · exact fun fin => (show False from fin).elim
end
/-! ### tuple(x), x a list that is being built -/
section
variable {X : Cx} {Wx : WX} {fm : Fm}
def mTupO (i : Nat) : W → R D := fun w => match w.env[i]? with
  | some (some (.own xs)) => .ok (.tup xs) w
  | some (some (.val d)) => R.lift (gTuple [d]) w
  | _ => .stuck
theorem se_tupO {i : Nat} {x : Str} {p p2 pos : Pos} (hm : X.mg "tuple" = none) (hN : X.N[i]? = some x := by rfl) (hv : Vis X.env.scope x := by first | exact Or.inl rfl | exact Or.inr (Or.inl rfl) | exact Or.inr (Or.inr rfl)) (hd : (x == ("__debug__" : Str)) = false := by decide)
    (hcd : (x == ("__classdict__" : Str)) = false := by decide) (hg : Gl X "tuple" := by rfl) (he : starEach [.Name x p2] X.env = (false, eval (.Name x p2) X.env) :: starEach [] X.env := by rfl) (hpl : (backTo pos (starEach [] X.env)).any (·.1) = false := by rfl) :
    SE X Wx fm (.Call (.Name "tuple" p) [.Name x p2] [] pos) (mTupO i) := by
  refine ⟨?_⟩
  intro ex σ H F w Q r fin
  revert fin
  unfold mTupO
  split
  · rename_i xs hx
    intro fin
    refine WE.of (pe_callTy call_tuple_of hg hm (by decide +kernel) (pa_cons (pe_var hN hv hd hcd) pa_nil he) (by decide) (by decide) he hpl) ?_
    obtain ⟨p0, e0, r0⟩ := r.takeOwn hx
    obtain ⟨b1, b2, b3, vs, b4, b5⟩ := r0.exo _ (List.mem_cons_self ..)
    have b5 : RpAll X.K fm.a0 F vs xs := b5
    refine ⟨.ref p0, e0, p0, vs, rfl, .inl ⟨.inl (.inl b4), fun l hl => ?_⟩⟩
    have g : Gr H F (upd H l (.tup vs)) (upd F l (.tup vs)) := Gr.new r.fh hl
    exact fin _ _ g.kp g.ff (r.gr g) _ (.tup (.inl (.inl upd_same)) (b5.ex g.ff))
  · rename_i d hx
    intro fin
    have h1 : SE X Wx fm (.Call (.Name "tuple" p) [.Name x p2] [] pos) (mBlt gTuple (mCons (mVar i) mNil)) := se_callTy dc_tuple hm (by decide +kernel) (sa_cons (se_var (i := i) hN hv hd hcd) sa_nil) hg (by decide) (by decide) he hpl
    refine h1 ex σ H F w Q r ?_
    have e : mBlt gTuple (mCons (mVar i) mNil) w = R.lift (gTuple [d]) w := by
      simp only [mBlt, mCons, mVar, hx, R.bind_ok, mNil]
    rw [e]
    exact fin
  · exact fun fin => fin.elim
end
/-! ### for simp -/
section
variable {w : W} {env : Env} {ss : SS}
@[simp] theorem mLc2_ap (vs vs1 : List Nat) (mi : W → R (List D)) (set : D → W → Option W) (mt : W → R Bool) (mi1 : W → R (List D)) (set1 : D → W → Option W) (mt1 : W → R Bool) (me : W → R D) : mLc2 vs vs1 mi set mt mi1 set1 mt1 me w = (mi w).bind fun ds w1 =>
  (lcGo2 vs vs1 set mt mi1 set1 mt1 me ds [] { w1 with env := wipeE w1.env vs }).bind fun acc w2 => .ok acc { w2 with env := resE w1.env w2.env vs } := Eq.trans rfl rfl
@[simp] theorem mTupO_ap (i : Nat) : mTupO i ⟨env, ss⟩ = match env[i]? with
  | some (some (.own xs)) => .ok (.tup xs) ⟨env, ss⟩
  | some (some (.val d)) => R.lift (gTuple [d]) ⟨env, ss⟩
  | _ => .stuck := Eq.trans rfl rfl
@[simp] theorem mSortedI_ap (ma : W → R D) : mSortedI ma w = (ma w).bind fun x w1 => R.lift (match x with | .lst a => (ints? a).map fun ns => (sortI ns).map D.int | _ => none) w1 := Eq.trans rfl rfl
@[simp] theorem sAugIx_ap (i : Nat) (mk : W → R D) (g : D → D → Option D) (me : W → R D) : sAugIx i mk g me ⟨env, ss⟩ = match env[i]? with
  | some (some (.own _)) => (mk ⟨env, ss⟩).toS fun k w1 => match w1.env[i]?, k with
    | some (some (.own xs)), .int j => oS (atI xs j) fun old => (me w1).toS fun y w2 => oS (g old y) fun z => match w2.env[i]? with
      | some (some (.own ys)) => oS (ixN ys.length j) fun n => .nx { w2 with env := w2.env.set i (some (.own (ys.set n z))) }
      | _ => .stuck
    | _, _ => .stuck
  | _ => .stuck := Eq.trans rfl rfl
end
end TD

set_option Elab.async false
set_option linter.all false
set_option maxRecDepth 100000
set_option maxHeartbeats 4000000
namespace TD
open PySem PySem.Spec PyProof.Rows L2
/-! ### sorted of data of any depth -/
mutual
/-- can be compared, place by place -/
def D.alk : D → D → Bool
  | .non, .non => true
  | .bl _, .bl _ => true
  | .int _, .int _ => true
  | .str _, .str _ => true
  | .tup l, .tup m => D.alks l m
  | .lst l, .lst m => D.alks l m
  | _, _ => false
def D.alks : List D → List D → Bool
  | x :: xs, y :: ys => D.alk x y && D.alks xs ys
  | [], _ => true
  | _ :: _, [] => true
end
mutual
def D.ltb : D → D → Bool
  | .bl a, .bl b => !a && b
  | .int a, .int b => decide (a < b)
  | .str a, .str b => decide (a.cps.toList < b.cps.toList)
  | .tup l, .tup m => D.ltbs l m
  | .lst l, .lst m => D.ltbs l m
  | _, _ => false
def D.ltbs : List D → List D → Bool
  | x :: xs, y :: ys => if D.eqv x y = true then D.ltbs xs ys else D.ltb x y
  | [], _ :: _ => true
  | _, [] => false
end
mutual
theorem alk_py : ∀ d e : D, d.alk e = true → PySem.W.alike d.py e.py = true
  | .non, e, h => by cases e <;> simp_all [D.alk, D.py, PySem.W.alike]
  | .bl _, e, h => by cases e <;> simp_all [D.alk, D.py, PySem.W.alike]
  | .int _, e, h => by cases e <;> simp_all [D.alk, D.py, PySem.W.alike]
  | .str _, e, h => by cases e <;> simp_all [D.alk, D.py, PySem.W.alike]
  | .src, e, h => by cases e <;> simp_all [D.alk]
  | .tup l, e, h => by
    cases e with
    | tup m => simp only [D.py, PySem.W.alike]; exact alks_py l m (by simpa [D.alk] using h)
    | _ => simp [D.alk] at h
  | .lst l, e, h => by
    cases e with
    | lst m => simp only [D.py, PySem.W.alike]; exact alks_py l m (by simpa [D.alk] using h)
    | _ => simp [D.alk] at h
theorem alks_py : ∀ l m : List D, D.alks l m = true → PySem.W.alikeAll (D.pys l) (D.pys m) = true
  | [], _, _ => by simp [D.pys, PySem.W.alikeAll]
  | _ :: _, [], _ => by simp [D.pys, PySem.W.alikeAll]
  | x :: xs, y :: ys, h => by
    have h' : x.alk y = true ∧ D.alks xs ys = true := by simpa [D.alks] using h
    simp only [D.pys, PySem.W.alikeAll, Bool.and_eq_true]
    exact ⟨alk_py x y h'.1, alks_py xs ys h'.2⟩
end
mutual
theorem ltb_py : ∀ d e : D, d.alk e = true → PySem.W.dataLt d.py e.py = d.ltb e
  | .non, e, h => by
    cases e <;> first | (simp [D.alk] at h; done) | skip
    simp only [D.ltb, D.py]
    rfl
  | .bl a, e, h => by
    cases e <;> first | (simp [D.alk] at h; done) | skip
    rename_i b
    simp only [D.ltb, D.py, PySem.W.dataLt_bool]
    cases a <;> cases b <;> rfl
  | .int _, e, h => by
    cases e <;> first | (simp [D.alk] at h; done) | skip
    simp only [D.ltb, D.py, PySem.W.dataLt_int]
  | .str _, e, h => by
    cases e <;> first | (simp [D.alk] at h; done) | skip
    simp only [D.ltb, D.py, PySem.W.dataLt_str]
  | .src, e, h => by cases e <;> simp_all [D.alk]
  | .tup l, e, h => by
    cases e with
    | tup m => simp only [D.py, D.ltb, PySem.W.dataLt_tuple]; exact ltbs_py l m (by simpa [D.alk] using h)
    | _ => simp [D.alk] at h
  | .lst l, e, h => by
    cases e with
    | lst m => simp only [D.py, D.ltb, PySem.W.dataLt_list]; exact ltbs_py l m (by simpa [D.alk] using h)
    | _ => simp [D.alk] at h
theorem ltbs_py : ∀ l m : List D, D.alks l m = true → PyProof.Rows.lexLt PyProof.Rows.itemOrd (PySem.W.keyToksAll (D.pys l)) (PySem.W.keyToksAll (D.pys m)) = D.ltbs l m
  | [], [], _ => by simp only [D.pys, D.ltbs]; rfl
  | [], _ :: _, _ => by
    simp only [D.pys, D.ltbs, PySem.W.keyToksAll]
    rfl
  | _ :: _, [], _ => by
    simp only [D.pys, D.ltbs, PySem.W.keyToksAll]
    rfl
  | x :: xs, y :: ys, h => by
    have h' : x.alk y = true ∧ D.alks xs ys = true := by simpa [D.alks] using h
    simp only [D.pys, D.ltbs]
    rw [PySem.W.dataLt_cons (alk_py x y h'.1), eqv_py, ltbs_py xs ys h'.2, ltb_py x y h'.1]
end
def insD (d : D) : List D → List D
  | [] => [d]
  | e :: l => if e.ltb d = true then e :: insD d l else d :: e :: l
def sortD : List D → List D
  | [] => []
  | d :: l => insD d (sortD l)
def allAlk (l : List D) : Bool := l.all fun d => l.all fun e => d.alk e
def D.isTup1 : D → Bool
  | .tup (_ :: _) => true
  | _ => false
def D.noTup : D → Bool
  | .tup _ => false
  | .non => false
  | _ => true
def okSort (l : List D) : Bool := allAlk l && (l.all fun d => d.okb 60) && ((l.all D.isTup1) || (l.all D.noTup))
theorem insD_perm (d : D) : ∀ l : List D, (insD d l).Perm (d :: l)
  | [] => List.Perm.refl _
  | e :: l => by
    unfold insD
    split
    · exact ((insD_perm d l).cons e).trans (List.Perm.swap d e l)
    · exact List.Perm.refl _
theorem sortD_perm : ∀ l : List D, (sortD l).Perm l
  | [] => List.Perm.refl _
  | d :: l => (insD_perm d _).trans ((sortD_perm l).cons d)
/-- it is the stable sort -/
theorem insD_eq {le : D → D → Bool} (T : PySem.W.TotalLe le) (d : D) : ∀ l : List D, (∀ e ∈ l, (e.ltb d = true ↔ le d e = false)) → l.Pairwise (fun a b => le a b = true) →
    (insD d l).Pairwise (fun a b => le a b = true) ∧ ∀ c, (insD d l).filter (PySem.W.sameRank le c) = (d :: l).filter (PySem.W.sameRank le c)
  | [], _, _ => ⟨List.pairwise_singleton _ _, fun _ => rfl⟩
  | e :: l, h, hp => by
    have he := h e List.mem_cons_self
    have hp' := List.pairwise_cons.mp hp
    unfold insD
    by_cases hlt : e.ltb d = true
    · rw [if_pos hlt]
      have hle : le d e = false := he.mp hlt
      have hed : le e d = true := (T.total e d).resolve_right (by rw [hle]; exact Bool.false_ne_true)
      obtain ⟨a, b⟩ := insD_eq T d l (fun x hx => h x (List.mem_cons_of_mem _ hx)) hp'.2
      refine ⟨List.pairwise_cons.mpr ⟨fun x hx => ?_, a⟩, fun c => ?_⟩
      · rcases List.mem_cons.mp ((insD_perm d l).mem_iff.mp hx) with q | q
        · rw [q]; exact hed
        · exact hp'.1 x q
      · rw [List.filter_cons, b c]
        simp only [List.filter_cons]
        by_cases h1 : PySem.W.sameRank le c e = true
        · by_cases h2 : PySem.W.sameRank le c d = true
          · exfalso
            simp only [PySem.W.sameRank, Bool.and_eq_true] at h1 h2
            have := T.trans d c e h2.2 h1.1
            rw [hle] at this
            cases this
          · simp only [if_pos h1, if_neg h2]
        · simp only [if_neg h1]
    · rw [if_neg hlt]
      have hde : le d e = true := by
        cases q : le d e with
        | true => rfl
        | false => exact absurd (he.mpr q) hlt
      refine ⟨List.pairwise_cons.mpr ⟨fun x hx => ?_, hp⟩, fun c => rfl⟩
      rcases List.mem_cons.mp hx with q | q
      · rw [q]; exact hde
      · exact T.trans d e x hde (hp'.1 x q)
theorem sortD_eq {le : D → D → Bool} (T : PySem.W.TotalLe le) : ∀ l : List D, (∀ d ∈ l, ∀ e ∈ l, (e.ltb d = true ↔ le d e = false)) →
    (sortD l).Pairwise (fun a b => le a b = true) ∧ ∀ c, (sortD l).filter (PySem.W.sameRank le c) = l.filter (PySem.W.sameRank le c)
  | [], _ => ⟨List.Pairwise.nil, fun _ => rfl⟩
  | d :: l, h => by
    obtain ⟨a, b⟩ := sortD_eq T l fun x hx y hy => h x (List.mem_cons_of_mem _ hx) y (List.mem_cons_of_mem _ hy)
    obtain ⟨a', b'⟩ := insD_eq T d (sortD l) (fun e he => h d List.mem_cons_self e (List.mem_cons_of_mem _ ((sortD_perm l).mem_iff.mp he))) a
    refine ⟨a', fun c => ?_⟩
    show (insD d (sortD l)).filter _ = _
    rw [b' c, List.filter_cons, List.filter_cons, b c]
theorem alk_all {l : List D} (h : allAlk l = true) : ∀ d ∈ l, ∀ e ∈ l, d.alk e = true := fun d hd e he => by
  unfold allAlk at h
  exact List.all_eq_true.mp (List.all_eq_true.mp h d hd) e he
def leD : D → D → Bool := PySem.W.dataLe false D.py
theorem leD_total : PySem.W.TotalLe leD := PySem.W.sortLe_total (PyProof.Rows.listOrd PyProof.Rows.itemOrd) false fun b => PySem.W.keyToks (D.py b)
theorem leD_eq (d e : D) : leD d e = !PySem.W.dataLt e.py d.py := rfl
theorem ltb_leD {d e : D} (h : e.alk d = true) : e.ltb d = true ↔ leD d e = false := by
  rw [leD_eq, ltb_py e d h]
  cases D.ltb e d <;> simp
theorem sortD_merge {l : List D} (h : allAlk l = true) : sortD l = l.mergeSort leD := by
  obtain ⟨a, b⟩ := sortD_eq leD_total l fun d hd e he => ltb_leD (alk_all h e he d hd)
  exact PySem.W.sort_unique leD_total a b
/-- a permutation that is in order is the sorted list -/
theorem sortD_is {l m : List D} (hl : allAlk l = true) (hp : m.Perm l) (hs : m.Pairwise fun a b => b.ltb a = false) (hd : ∀ a ∈ m, ∀ b ∈ m, b.ltb a = false → a.ltb b = false → a = b) : sortD l = m := by
  have al := alk_all hl
  obtain ⟨a, _⟩ := sortD_eq leD_total l fun d hd e he => ltb_leD (al e he d hd)
  have mm : ∀ x ∈ m, x ∈ l := fun x hx => hp.mem_iff.mp hx
  have key : ∀ x ∈ m, ∀ y ∈ m, (leD x y = true ↔ y.ltb x = false) := fun x hx y hy => by
    have := ltb_leD (al y (mm y hy) x (mm x hx))
    cases q : D.ltb y x with
    | true => rw [this.mp q]; simp
    | false =>
      cases z : leD x y with
      | true => simp
      | false => rw [this.mpr z] at q; cases q
  have sm : m.Pairwise fun a b => leD a b = true := by
    refine List.Pairwise.imp_of_mem (fun {x y} hx hy h => (key x hx y hy).mpr h) hs
  have pp : (sortD l).Perm m := (sortD_perm l).trans hp.symm
  refine List.Perm.eq_of_pairwise (le := fun a b => leD a b = true) ?_ a sm pp
  intro x y hx hy h1 h2
  have hx' : x ∈ m := pp.mem_iff.mp hx
  exact hd x hx' y hy ((key x hx' y hy).mp h1) ((key y hy x hx').mp h2)
section
variable {X : Cx}
def rSortedD (K : PySem.W.Frag) (a0 : Addr) : List V → Hp → VK → Prop := fun vs H Q => ∃ (a : Addr) (xs : List V) (ds : List D) (F : Hp), vs = [V.ref a] ∧ SqL K H a xs ∧ Ex F H ∧ RpAll K a0 F xs ds ∧ okSort ds = true ∧
  ∀ ys p, RpAll K a0 F ys (sortD ds) → H p = none → Q (.ref p) (upd H p (.lst ys))
theorem each_rel {K : PySem.W.Frag} {a0 : Addr} {F : Hp} : ∀ {xs : List V} {us : List Value} {ds : List D}, Vals xs us → RpAll K a0 F xs ds → PySem.W.EachIs (fun u d => ∃ v : V, RelV v u ∧ Rp K a0 F v d) us ds
  | _, _, _, .nil, .nil => .nil
  | _, _, _, .cons h t, .cons g s => .cons ⟨_, h, g⟩ (each_rel t s)
theorem rel_each {K : PySem.W.Frag} {a0 : Addr} {F : Hp} : ∀ {us : List Value} {ds : List D}, PySem.W.EachIs (fun u d => ∃ v : V, RelV v u ∧ Rp K a0 F v d) us ds → ∃ xs, Vals xs us ∧ RpAll K a0 F xs ds
  | _, _, .nil => ⟨[], .nil, .nil⟩
  | _, _, .cons ⟨v, h, g⟩ t => by
    obtain ⟨xs, a, b⟩ := rel_each t
    exact ⟨v :: xs, .cons h a, .cons g b⟩
theorem each_reads {pins : List (Addr × Obj)} {σ : L2.St} {H : Hp} {s : Shared} (I : Inv X pins σ H s) {a0 : Addr} {F : Hp} (hf : Ex F H) : ∀ {xs : List V} {us : List Value} {ds : List D}, Vals xs us → RpAll X.K a0 F xs ds → (∀ d ∈ ds, D.okb 60 d = true) →
    PySem.W.EachIs (fun u d => ∃ as, Reads s.heap u (D.py d) as) us ds
  | _, _, _, .nil, .nil, _ => .nil
  | _, _, _, .cons h t, .cons g r, o => .cons (Dp.reads I _ _ _ (Rp.dp _ _ 60 (o _ List.mem_cons_self) (g.ex hf)) h) (each_reads I hf t r fun d hd => o d (List.mem_cons_of_mem _ hd))
theorem cr_sortedD {a0 : Addr} (hu : X.A.units + 64 < cLine) : CallR X (.builtin "sorted") (rSortedD X.K a0) := by
  intro pins s σ H vs us Q I r h
  obtain ⟨a, xs, ds, F, rfl, hs, hf, hr, hok, q⟩ := h
  obtain ⟨its, rv, hl, hz⟩ := I.list hs
  rw [Vals.ref1 r]
  unfold okSort at hok
  rw [Bool.and_eq_true, Bool.and_eq_true, Bool.or_eq_true] at hok
  obtain ⟨⟨h1, h2⟩, h3⟩ := hok
  have h2' : ∀ d ∈ ds, D.okb 60 d = true := fun d hd => List.all_eq_true.mp h2 d hd
  refine PySem.W.sorted_data (enc := D.py) hl.isList (each_rel rv hr) (each_reads I hf rv hr h2') ?_ ?_ (by rw [← hr.len]; exact hz) (fun d hd => ?_) fun out hlen ho => ?_
  · intro d hd d' hd'
    obtain ⟨x, hx, rfl⟩ := List.mem_map.mp hd
    obtain ⟨y, hy, rfl⟩ := List.mem_map.mp hd'
    exact alk_py x y (alk_all h1 x hx y hy)
  · rcases h3 with h3 | h3
    · refine .inl fun d hd => ?_
      obtain ⟨x, hx, rfl⟩ := List.mem_map.mp hd
      have := List.all_eq_true.mp h3 x hx
      match x, this with
      | .tup (y :: l), _ => exact ⟨_, _, by simp only [D.py, D.pys]; rfl⟩
    · refine .inr fun d hd => ?_
      obtain ⟨x, hx, rfl⟩ := List.mem_map.mp hd
      have := List.all_eq_true.mp h3 x hx
      match x, this with
      | .bl _, _ | .int _, _ | .str _, _ | .lst _, _ | .src, _ => exact ⟨by simp [D.py], by simp [D.py]⟩
  · have := (okb_py d 60 (h2' d hd)).2
    show X.A.units + 2 + (D.py d).depth < cLine
    omega
  · have ho : PySem.W.EachIs (fun u d => ∃ v : V, RelV v u ∧ Rp X.K a0 F v d) out (sortD ds) := by rw [sortD_merge h1]; exact ho
    obtain ⟨ys, g1, g2⟩ := rel_each ho
    obtain ⟨ep, he'⟩ := PyProof.Rows.sortedAll_at s.heap its out.toArray
    have hlen' : ys.length ≤ sizeLine := by
      rw [g2.len, (sortD_perm ds).length_eq, ← hr.len]
      exact hz
    exact ⟨.ref _, upd H (s.heap.objs.size + 1) (.lst ys), I.laid (t' := s.toks) (fun _ _ => PyProof.Rows.sortedAll_old) (Nat.le_succ _) ⟨hlen', out, ep, g1, he'⟩, rfl, q _ _ g2 (I.hok.fresh (Nat.le_succ _))⟩
end
section
variable {X : Cx} {Wx : WX} {fm : Fm}
def mSrtD (ma : W → R D) : W → R (List D) := fun w => (ma w).bind fun x w1 => R.lift (match x with | .lst l => if okSort l = true then some (sortD l) else none | _ => none) w1
theorem sf_srtD {e : Expr} {p pos : Pos} {m : W → R D} (hu : X.A.units + 64 < cLine) (h : SE X Wx fm e m) (hm : X.mg "sorted" = none) (hg : Gl X "sorted" := by rfl) (he : starEach [e] X.env = (false, eval e X.env) :: starEach [] X.env := by rfl) (hpl : (backTo pos (starEach [] X.env)).any (·.1) = false := by rfl) :
    SF X Wx fm (.Call (.Name "sorted" p) [e] [] pos) (mSrtD m) := by
  refine ⟨?_⟩
  intro ex σ H F w Q r q
  refine WE.of (pe_callB (cr_sortedD (a0 := fm.a0) hu) hg hm (by decide +kernel) (pa_cons pe_we pa_nil he) (by decide) (by decide) he hpl) ?_
  show WE X e σ H fun x H1 => rSortedD X.K fm.a0 [x] H1 Q
  refine h ex σ H F w _ r ((FinF.bindD q).imp fun d w1 H1 F1 ⟨r1, k1, e1, q1⟩ v hv => ?_)
  cases hv with
  | @lst p0 vs l h1 h2 =>
    have q1 : FinF X Wx fm ex σ H1 F1 Q (R.lift (if okSort l = true then some (sortD l) else none) w1) := q1
    by_cases hok : okSort l = true
    · rw [if_pos hok] at q1
      refine ⟨p0, vs, l, F1, rfl, .inl (.inl (r1.fh _ _ h1)), r1.fh, h2, hok, fun ys p hy hn => ?_⟩
      exact q1 p _ F1 (Gr.dark r1.fh hn).kp (Ex.refl _) (r1.lay hn hy)
    · rw [if_neg hok] at q1; exact (show False from q1).elim
  | _ => exact (show False from q1).elim
@[simp] theorem mSrtD_ap {w : W} (ma : W → R D) : mSrtD ma w = (ma w).bind fun x w1 => R.lift (match x with | .lst l => if okSort l = true then some (sortD l) else none | _ => none) w1 := Eq.trans rfl rfl
end
end TD


set_option Elab.async false
set_option linter.all false
set_option maxRecDepth 100000
set_option maxHeartbeats 4000000
namespace TP
open PySem PySem.Spec PyProof.Rows L2 TD
@[simp] theorem okb_str (n : Nat) (x : Str) : (D.str x).okb n = PyData.strOk x := by cases n <;> rfl
@[simp] theorem okb_int (n : Nat) (x : Int) : (D.int x).okb n = true := by cases n <;> rfl
@[simp] theorem okb_bl (n : Nat) (x : Bool) : (D.bl x).okb n = true := by cases n <;> rfl
@[simp] theorem okb_non (n : Nat) : D.non.okb n = true := by cases n <;> rfl
@[simp] theorem gNotIn_tup (d : D) (l : List D) : gNotIn d (.tup l) = if (d.flat && l.all D.flat) = true then some (.bl (!d.any l)) else none := by cases d <;> rfl
@[simp] theorem gIn_tup (d : D) (l : List D) : gIn d (.tup l) = if (d.flat && l.all D.flat) = true then some (.bl (d.any l)) else none := by cases d <;> rfl
@[simp] theorem gEq_def (d e : D) : gEq d e = if (d.okb 64 && e.okb 64) = true then some (.bl (D.eqv d e)) else none := Eq.trans rfl rfl
@[simp] theorem gNe_def (d e : D) : gNe d e = if (d.okb 64 && e.okb 64) = true then some (.bl (!D.eqv d e)) else none := Eq.trans rfl rfl
@[simp] theorem atI_0 {α : Type} (a : α) (l : List α) : atI (a :: l) 0 = some a := atI_nat (j := 0) rfl
@[simp] theorem atI_1 {α : Type} (a b : α) (l : List α) : atI (a :: b :: l) 1 = some b := atI_nat (j := 1) rfl
@[simp] theorem atI_2 {α : Type} (a b c : α) (l : List α) : atI (a :: b :: c :: l) 2 = some c := atI_nat (j := 2) rfl
@[simp] theorem atI_3 {α : Type} (a b c d : α) (l : List α) : atI (a :: b :: c :: d :: l) 3 = some d := atI_nat (j := 3) rfl
@[simp] theorem eqv_non_non   : D.eqv (.non) (.non) = true := by rw [D.eqv]
@[simp] theorem eqv_non_bl  (b : Bool) : D.eqv (.non) (.bl b) = false := by rw [D.eqv] <;> simp
@[simp] theorem eqv_non_int  (b : Int) : D.eqv (.non) (.int b) = false := by rw [D.eqv] <;> simp
@[simp] theorem eqv_non_str  (b : Str) : D.eqv (.non) (.str b) = false := by rw [D.eqv] <;> simp
@[simp] theorem eqv_non_tup  (b : List D) : D.eqv (.non) (.tup b) = false := by rw [D.eqv] <;> simp
@[simp] theorem eqv_bl_non (a : Bool)  : D.eqv (.bl a) (.non) = false := by rw [D.eqv] <;> simp
@[simp] theorem eqv_bl_bl (a : Bool) (b : Bool) : D.eqv (.bl a) (.bl b) = (a == b) := by rw [D.eqv]
@[simp] theorem eqv_bl_int (a : Bool) (b : Int) : D.eqv (.bl a) (.int b) = ((if a then 1 else 0) == b) := by rw [D.eqv]
@[simp] theorem eqv_bl_str (a : Bool) (b : Str) : D.eqv (.bl a) (.str b) = false := by rw [D.eqv] <;> simp
@[simp] theorem eqv_bl_tup (a : Bool) (b : List D) : D.eqv (.bl a) (.tup b) = false := by rw [D.eqv] <;> simp
@[simp] theorem eqv_int_non (a : Int)  : D.eqv (.int a) (.non) = false := by rw [D.eqv] <;> simp
@[simp] theorem eqv_int_bl (a : Int) (b : Bool) : D.eqv (.int a) (.bl b) = (a == (if b then 1 else 0)) := by rw [D.eqv]
@[simp] theorem eqv_int_int (a : Int) (b : Int) : D.eqv (.int a) (.int b) = (a == b) := by rw [D.eqv]
@[simp] theorem eqv_int_str (a : Int) (b : Str) : D.eqv (.int a) (.str b) = false := by rw [D.eqv] <;> simp
@[simp] theorem eqv_int_tup (a : Int) (b : List D) : D.eqv (.int a) (.tup b) = false := by rw [D.eqv] <;> simp
@[simp] theorem eqv_str_non (a : Str)  : D.eqv (.str a) (.non) = false := by rw [D.eqv] <;> simp
@[simp] theorem eqv_str_bl (a : Str) (b : Bool) : D.eqv (.str a) (.bl b) = false := by rw [D.eqv] <;> simp
@[simp] theorem eqv_str_int (a : Str) (b : Int) : D.eqv (.str a) (.int b) = false := by rw [D.eqv] <;> simp
@[simp] theorem eqv_str_str (a : Str) (b : Str) : D.eqv (.str a) (.str b) = (a == b) := by rw [D.eqv]
@[simp] theorem eqv_str_tup (a : Str) (b : List D) : D.eqv (.str a) (.tup b) = false := by rw [D.eqv] <;> simp
@[simp] theorem eqv_tup_non (a : List D)  : D.eqv (.tup a) (.non) = false := by rw [D.eqv] <;> simp
@[simp] theorem eqv_tup_bl (a : List D) (b : Bool) : D.eqv (.tup a) (.bl b) = false := by rw [D.eqv] <;> simp
@[simp] theorem eqv_tup_int (a : List D) (b : Int) : D.eqv (.tup a) (.int b) = false := by rw [D.eqv] <;> simp
@[simp] theorem eqv_tup_str (a : List D) (b : Str) : D.eqv (.tup a) (.str b) = false := by rw [D.eqv] <;> simp
@[simp] theorem eqv_tup_tup (a : List D) (b : List D) : D.eqv (.tup a) (.tup b) = D.eqvs a b := by rw [D.eqv]
@[simp] theorem eqvs_nil : D.eqvs [] [] = true := by rw [D.eqvs]
@[simp] theorem eqvs_cons (a b : D) (l m : List D) : D.eqvs (a :: l) (b :: m) = (D.eqv a b && D.eqvs l m) := by rw [D.eqvs]
@[simp] theorem eqvs_nc (b : D) (m : List D) : D.eqvs [] (b :: m) = false := by rw [D.eqvs] <;> simp
@[simp] theorem eqvs_cn (b : D) (m : List D) : D.eqvs (b :: m) [] = false := by rw [D.eqvs] <;> simp
@[simp] theorem any_def (d : D) (l : List D) : d.any l = l.any fun y => D.eqv y d := Eq.trans rfl rfl
structure SsOk (ss : SS) : Prop where
  ne : ss.cells ≠ []
  nn : ∀ c ∈ ss.cells, (0 : Int) ≤ c
  l : 0 ≤ ss.left
  t : 0 ≤ ss.turn
theorem pow_18 : gPow (.int 10) (.int 18) = some (.int 1000000000000000000) := by rfl
theorem mulOk_r (i j : Int) (h : j.natAbs < 18446744073709551616) : mulOk i j = true := by
  unfold mulOk
  rw [decide_eq_true (show j.natAbs < 2 ^ 64 from h)]
  simp
theorem log2_lt (n : Nat) (h : n < 2 ^ 9000) : n.log2 < 9000 := by
  by_cases h0 : n = 0
  · subst h0; decide
  · exact (Nat.log2_lt h0).mpr h
theorem divOk_of (m : Int) (h : 0 < m) (h2 : m < 2 ^ 9000) : divOk m = true := by
  unfold divOk
  rw [decide_eq_true h, decide_eq_true (log2_lt m.natAbs (by omega))]
  rfl
theorem atI_cells {cells : List Int} {i : Int} (h : 0 ≤ i) (h2 : i < cells.length) : ∃ c, c ∈ cells ∧ atI (cells.map D.int) i = some (.int c) := by
  obtain ⟨n, rfl⟩ := Int.eq_ofNat_of_zero_le h
  have hn : n < cells.length := by omega
  refine ⟨cells[n], List.getElem_mem hn, atI_nat ?_⟩
  simp [hn]
def PickR (many : Int) : RF → Prop
  | .ok (.int r) ss' => 0 ≤ r ∧ r < many ∧ SsOk ss'
  | _ => False
theorem PickR_ok (many r : Int) (ss : SS) : PickR many (.ok (.int r) ss) = (0 ≤ r ∧ r < many ∧ SsOk ss) := rfl
theorem PickR.ex {many : Int} {x : RF} (h : PickR many x) : ∃ r ss', x = .ok (.int r) ss' ∧ 0 ≤ r ∧ r < many ∧ SsOk ss' := by
  match x, h with
  | .ok (.int r) ss', h => exact ⟨r, ss', rfl, h⟩
/-- the laws' draw -/
def e_pick : W → RS :=
  sCons (sIf (mB (mBin gGt (mSrc 0 1) (mC (.int 0)))) (
    sCons (sSet 2 (mSrc 0 1)) (
    sCons (sSrc 0 1 (mBin gDiv (mVar 2) (mVar 1))) (
    sCons (sRet (mBin gMod (mBlt gInt (mCons (mVar 2) (mNil))) (mVar 1))) (sNil)))) (sNil)) (
  sCons (sSet 3 (mSrc 0 2)) (
  sCons (sSrc 0 2 (mBin gAdd (mVar 3) (mC (.int 1)))) (
  sCons (sSet 4 (mSrc 0 0)) (
  sCons (sSet 5 (mBin gIx (mVar 4) (mBin gMod (mBlt gInt (mCons (mVar 3) (mNil))) (mBlt gLen (mCons (mVar 4) (mNil)))))) (
  sCons (sIf (mAndT (mB (mBin gGe (mVar 5) (mBin gPow (mC (.int 10)) (mC (.int 18))))) (mB (mBin gLt (mVar 3) (mBlt gLen (mCons (mVar 4) (mNil)))))) (
    sCons (sSrc 0 1 (mBin gDiv (mVar 5) (mVar 1))) (
    sCons (sRet (mBin gMod (mBlt gInt (mCons (mVar 5) (mNil))) (mVar 1))) (sNil))) (sNil)) (
  sCons (sSet 6 (mBin gMod (mBlt gInt (mCons (mBin gAdd (mBin gAdd (mBin gMul (mBin gMod (mBlt gInt (mCons (mVar 5) (mNil))) (mC (.int 2147483647))) (mC (.int 48271))) (mBin gMul (mVar 3) (mC (.int 69621)))) (mC (.int 40692))) (mNil))) (mC (.int 2147483399)))) (
  sCons (sSet 7 (mBin gMod (mBlt gInt (mCons (mBin gAdd (mBin gAdd (mBin gMul (mVar 6) (mBin gAdd (mBin gMod (mBlt gInt (mCons (mVar 6) (mNil))) (mC (.int 65537))) (mC (.int 3)))) (mBin gMul (mVar 3) (mC (.int 7919)))) (mC (.int 17))) (mNil))) (mC (.int 2147483647)))) (
  sCons (sRet (mBin gMod (mBlt gInt (mCons (mBin gDiv (mVar 7) (mC (.int 5))) (mNil))) (mVar 1))) (sNil)))))))))
def pickM : List D → SS → RF := fnM 8 e_pick
theorem pick_okW (ss : SS) (h : SsOk ss) (many : Int) (hm : 0 < many) (hb : many < 2 ^ 9000) : PickR many (pickM [.src, .int many] ss) := by
  obtain ⟨cells, left, turn⟩ := ss
  obtain ⟨ne, nn, hl, ht⟩ := h
  simp only at ne nn hl ht
  have hd : divOk many = true := divOk_of many hm hb
  have hpos : (0 : Int) < cells.length := by
    cases cells with
    | nil => exact absurd rfl ne
    | cons a l => simp only [List.length_cons]; omega
  have hposN : 0 < cells.length := by omega
  by_cases h1 : 0 < left
  · have h2 : 0 ≤ left / many := Int.ediv_nonneg hl (by omega)
    simp [pickM, e_pick, mSrc, sSrc, h1, hm, hd, h2, PickR_ok]
    exact ⟨Int.emod_nonneg _ (by omega), Int.emod_lt_of_pos _ hm, ⟨ne, nn, h2, ht⟩⟩
  · obtain ⟨c, hc, hc2⟩ := atI_cells (cells := cells) (i := turn % cells.length) (Int.emod_nonneg _ (by omega)) (Int.emod_lt_of_pos _ hpos)
    have hc0 := nn c hc
    have ht1 : 0 ≤ turn + 1 := by omega
    have d5 : divOk 5 = true := by decide +kernel
    have mA : ∀ i : Int, mulOk i 48271 = true := fun i => mulOk_r i _ (by decide)
    have mB : ∀ i : Int, mulOk i 69621 = true := fun i => mulOk_r i _ (by decide)
    have mC : ∀ i : Int, mulOk i 7919 = true := fun i => mulOk_r i _ (by decide)
    have mD : ∀ i j : Int, mulOk i (j % 65537 + 3) = true := fun i j => mulOk_r i _ (by have := Int.emod_nonneg j (show (65537 : Int) ≠ 0 by decide); have := Int.emod_lt_of_pos j (show (0 : Int) < 65537 by decide); omega)
    by_cases h3 : 1000000000000000000 ≤ c
    · by_cases h4 : turn < cells.length
      · have h2 : 0 ≤ c / many := Int.ediv_nonneg hc0 (by omega)
        simp [pickM, e_pick, mSrc, sSrc, h1, hm, hd, h2, ht1, hposN, hc2, pow_18, h3, h4, PickR_ok]
        exact ⟨Int.emod_nonneg _ (by omega), Int.emod_lt_of_pos _ hm, ⟨ne, nn, h2, ht1⟩⟩
      · simp [PickR_ok, pickM, e_pick, mSrc, sSrc, h1, hm, hd, ht1, hposN, hc2, pow_18, h3, h4, d5, mA, mB, mC, mD]
        exact ⟨Int.emod_nonneg _ (by omega), Int.emod_lt_of_pos _ hm, ⟨ne, nn, hl, ht1⟩⟩
    · simp [PickR_ok, pickM, e_pick, mSrc, sSrc, h1, hm, hd, ht1, hposN, hc2, pow_18, h3, d5, mA, mB, mC, mD]
      exact ⟨Int.emod_nonneg _ (by omega), Int.emod_lt_of_pos _ hm, ⟨ne, nn, hl, ht1⟩⟩
theorem pick_ok (ss : SS) (h : SsOk ss) (many : Int) (hm : 0 < many) (hb : many < 1000000) : PickR many (pickM [.src, .int many] ss) := pick_okW ss h many hm (Int.lt_trans hb (by decide +kernel))
theorem rngD_nil {a b : Int} (h : b ≤ a) : rngD a b = [] := by
  unfold rngD
  rw [show (b - a).toNat = 0 by omega]
  rfl
theorem rngD_cons {a b : Int} (h : a < b) : rngD a b = .int a :: rngD (a + 1) b := by
  unfold rngD
  rw [show (b - a).toNat = (b - (a + 1)).toNat + 1 by omega, List.range_succ_eq_map, List.map_cons, List.map_map]
  congr 1
  · congr 1; simp
  · apply List.map_congr_left
    intro i _
    simp only [Function.comp]
    congr 1
    push_cast
    omega
@[simp] theorem okbl (w : W) (b : Bool) : (R.lift (D.bl b).b? w) = .ok b w := Eq.trans rfl rfl
/-! ### comprehensions -/
def lcStep (vs : List Nat) (set : D → W → Option W) (mt : W → R Bool) (me : W → R D) (d : D) (w : W) : R (Option D) := match set d w with
  | none => .stuck
  | some w1 => (mt w1).nox.bind fun b w2 => if b = true then (me w2).nox.bind fun y w3 => .ok (some y) { w3 with env := wipeE w3.env vs } else .ok none { w2 with env := wipeE w2.env vs }
theorem lcGo_step (vs : List Nat) (set : D → W → Option W) (mt : W → R Bool) (me : W → R D) (d : D) (ds acc : List D) (w : W) : lcGo vs set mt me (d :: ds) acc w = (lcStep vs set mt me d w).bind fun o w' => match o with
    | some y => if acc.length < 1000000 then lcGo vs set mt me ds (acc ++ [y]) w' else .stuck
    | none => lcGo vs set mt me ds acc w' := by
  rw [lcGo_cons]
  unfold lcStep
  cases set d w with
  | none => rfl
  | some w1 =>
    show (mt w1).nox.bind _ = ((mt w1).nox.bind _).bind _
    cases mt w1 with
    | ok b w2 =>
      cases b with
      | true =>
        show (me w2).nox.bind _ = ((me w2).nox.bind _).bind _
        cases me w2 <;> rfl
      | false => rfl
    | _ => rfl
theorem lc_pure {vs : List Nat} {set : D → W → Option W} {mt : W → R Bool} {me : W → R D} (h : D → Option D) (w : W) : ∀ (ds acc : List D), (∀ d ∈ ds, lcStep vs set mt me d w = .ok (h d) w) → acc.length + ds.length ≤ 1000000 → lcGo vs set mt me ds acc w = .ok (acc ++ ds.filterMap h) w
  | [], acc, _, _ => by simp
  | d :: ds, acc, hs, hl => by
    rw [lcGo_step, hs d (List.mem_cons_self ..)]
    have ih := fun a => lc_pure h w ds a (fun e he => hs e (List.mem_cons_of_mem _ he))
    simp only [List.length_cons] at hl
    show (match h d with
      | some y => if acc.length < 1000000 then lcGo vs set mt me ds (acc ++ [y]) w else .stuck
      | none => lcGo vs set mt me ds acc w) = _
    cases e : h d with
    | none =>
      rw [List.filterMap_cons_none e]
      exact ih acc (by omega)
    | some y =>
      rw [List.filterMap_cons_some e]
      show (if acc.length < 1000000 then _ else _) = _
      rw [if_pos (by omega), ih (acc ++ [y]) (by simp; omega)]
      simp
/-- each element is made of draws -/
theorem lc_draw {vs : List Nat} {set : D → W → Option W} {mt : W → R Bool} {me : W → R D} (P : SS → Prop) (Q : D → D → Prop) (env : TD.Env) : ∀ (ds acc : List D) (ss : SS), P ss → (∀ d ∈ ds, ∀ ss, P ss → ∃ y ss', lcStep vs set mt me d ⟨env, ss⟩ = .ok (some y) ⟨env, ss'⟩ ∧ P ss' ∧ Q d y) → acc.length + ds.length ≤ 1000000 →
    ∃ (ys : List D) (ss' : SS), lcGo vs set mt me ds acc ⟨env, ss⟩ = .ok (acc ++ ys) ⟨env, ss'⟩ ∧ P ss' ∧ ys.length = ds.length ∧ ∀ (i : Nat) (d y : D), ds[i]? = some d → ys[i]? = some y → Q d y
  | [], acc, ss, hp, _, _ => ⟨[], ss, by simp, hp, rfl, fun i d y h => by simp at h⟩
  | d :: ds, acc, ss, hp, hs, hl => by
    obtain ⟨y, ss1, e1, hp1, hq⟩ := hs d (List.mem_cons_self ..) ss hp
    simp only [List.length_cons] at hl
    obtain ⟨ys, ss2, e2, hp2, hl2, hq2⟩ := lc_draw P Q env ds (acc ++ [y]) ss1 hp1 (fun e he => hs e (List.mem_cons_of_mem _ he)) (by simp; omega)
    refine ⟨y :: ys, ss2, ?_, hp2, by simp [hl2], fun i d' y' h1 h2 => ?_⟩
    · rw [lcGo_step, e1]
      show (if acc.length < 1000000 then _ else _) = _
      rw [if_pos (by omega), e2]
      simp
    · cases i with
      | zero => simp at h1 h2; subst h1 h2; exact hq
      | succ i => exact hq2 i d' y' (by simpa using h1) (by simpa using h2)
theorem ints_map : ∀ L : List Int, ints? (L.map .int) = some L
  | [] => rfl
  | a :: L => by rw [List.map_cons, ints?, ints_map L]; rfl
theorem gMax_map {α : Type} (l : List α) (f : α → Nat) (m : Nat) (hm : ∀ a ∈ l, f a ≤ m) (hx : ∃ a ∈ l, f a = m) : gMax [.lst (l.map fun a => .int (f a))] = some (.int m) := by
  have e : l.map (fun a => D.int (f a)) = (l.map fun a => (f a : Int)).map .int := by simp
  obtain ⟨a, ha, hfa⟩ := hx
  have h1 : (m : Int) ∈ l.map fun a => (f a : Int) := List.mem_map.mpr ⟨a, ha, by rw [hfa]⟩
  have h2 := maxL_eq h1 (fun y hy => by obtain ⟨b, hb, rfl⟩ := List.mem_map.mp hy; have := hm b hb; omega)
  rw [e]
  unfold gMax
  simp only [ints_map]
  cases hL : l.map fun a => (f a : Int) with
  | nil => rw [hL] at h1; cases h1
  | cons b r => rw [hL] at h2; rw [h2]

/-! ### parts of rows -/
theorem cutD_from (l : List D) (k : Nat) : TD.cutD l (some (k : Int)) none = l.drop k := by
  unfold TD.cutD
  rw [HT.sIx_nat, HT.sIx_none]
  by_cases h : k ≤ l.length
  · rw [Nat.min_eq_left h]
    exact List.take_of_length_le (by simp)
  · rw [Nat.min_eq_right (by omega), List.drop_eq_nil_of_le (Nat.le_refl _), List.drop_eq_nil_of_le (by omega)]
    simp
theorem cutD_to (l : List D) (k : Nat) : TD.cutD l none (some (k : Int)) = l.take k := by
  unfold TD.cutD
  rw [HT.sIx_nat, HT.sIx_none]
  simp
theorem atI_map {α β : Type} (f : α → β) (l : List α) (i : Int) : atI (l.map f) i = (atI l i).map f := by
  unfold atI
  rw [List.length_map]
  cases ixN l.length i <;> simp
theorem atI_mem {α : Type} (l : List α) (i : Int) (h : 0 ≤ i) (h2 : i < l.length) : ∃ a, a ∈ l ∧ atI l i = some a := by
  obtain ⟨n, rfl⟩ := Int.eq_ofNat_of_zero_le h
  have hn : n < l.length := by omega
  exact ⟨l[n], List.getElem_mem hn, atI_nat (by simp [hn])⟩
theorem atI_pre {α : Type} (pre : List α) (x : α) (xs : List α) (i : Int) (h : i = pre.length) : atI (pre ++ x :: xs) i = some x := by
  subst h
  exact atI_nat (by simp)
@[simp] theorem cutD_one (l : List D) : TD.cutD l (some 1) none = l.drop 1 := cutD_from l 1
theorem small_le {i : Int} (h1 : -1000000 ≤ i) (h2 : i ≤ 1000000) : small i = true := by
  rw [small_eq]
  omega
theorem small_len {n : Nat} (h2 : n ≤ 1000000) : small (n : Int) = true := small_le (by omega) (by omega)
theorem small_len1 {n : Nat} (h2 : n ≤ 100000) : small ((n : Int) + 1) = true := small_le (by omega) (by omega)
@[simp] theorem small_0 : small 0 = true := by decide
@[simp] theorem small_1 : small 1 = true := by decide
@[simp] theorem small_2 : small 2 = true := by decide
@[simp] theorem small_3 : small 3 = true := by decide
@[simp] theorem small_4 : small 4 = true := by decide
@[simp] theorem small_6 : small 6 = true := by decide
@[simp] theorem okb_tup (n : Nat) (l : List D) : (D.tup l).okb (n + 1) = D.oks n l := Eq.trans rfl rfl
@[simp] theorem okb_lst (n : Nat) (l : List D) : (D.lst l).okb (n + 1) = D.oks n l := Eq.trans rfl rfl
@[simp] theorem okb64_tup (l : List D) : (D.tup l).okb 64 = D.oks 63 l := Eq.trans rfl rfl
@[simp] theorem okb63_tup (l : List D) : (D.tup l).okb 63 = D.oks 62 l := Eq.trans rfl rfl
@[simp] theorem okb62_tup (l : List D) : (D.tup l).okb 62 = D.oks 61 l := Eq.trans rfl rfl
@[simp] theorem okb61_tup (l : List D) : (D.tup l).okb 61 = D.oks 60 l := Eq.trans rfl rfl
@[simp] theorem okb64_lst (l : List D) : (D.lst l).okb 64 = D.oks 63 l := Eq.trans rfl rfl
@[simp] theorem okb63_lst (l : List D) : (D.lst l).okb 63 = D.oks 62 l := Eq.trans rfl rfl
@[simp] theorem oks_nil (n : Nat) : D.oks n [] = true := by cases n <;> rfl
@[simp] theorem oks_cons (n : Nat) (d : D) (l : List D) : D.oks n (d :: l) = (d.okb n && D.oks n l) := by cases n <;> rfl
@[simp] theorem oks_ints (n : Nat) : ∀ l : List Int, D.oks n (l.map D.int) = true
  | [] => oks_nil n
  | i :: l => by simp [oks_ints n l]
mutual
theorem eqv_self : ∀ (d : D) (n : Nat), d.okb n = true → D.eqv d d = true
  | .non, _, _ => by simp
  | .bl _, _, _ => by simp
  | .int _, _, _ => by simp
  | .str _, _, _ => by simp
  | .src, n, h => by cases n <;> simp [D.okb] at h
  | .tup l, n, h => by
    cases n with
    | zero => simp [D.okb] at h
    | succ n => rw [D.eqv]; exact eqvs_self l n h
  | .lst l, n, h => by
    cases n with
    | zero => simp [D.okb] at h
    | succ n => rw [D.eqv]; exact eqvs_self l n h
theorem eqvs_self : ∀ (l : List D) (n : Nat), D.oks n l = true → D.eqvs l l = true
  | [], _, _ => by simp
  | d :: l, n, h => by
    rw [oks_cons] at h
    have h' := Bool.and_eq_true_iff.mp h
    simp [eqv_self d n h'.1, eqvs_self l n h'.2]
end
theorem gNe_self {d : D} (h : d.okb 64 = true) : gNe d d = some (.bl false) := by simp [h, eqv_self d 64 h]
theorem gEq_self {d : D} (h : d.okb 64 = true) : gEq d d = some (.bl true) := by simp [h, eqv_self d 64 h]
theorem rng_map (n : Nat) (f : D → Option D) (g : Nat → D) (h : ∀ i < n, f (.int (i : Nat)) = some (g i)) : (rngD 0 n).filterMap f = (List.range n).map g := by
  unfold rngD
  rw [show ((n : Int) - 0).toNat = n by omega, List.filterMap_map]
  have : ∀ L : List Nat, (∀ i ∈ L, i < n) → L.filterMap (f ∘ fun (i : Nat) => D.int (0 + (i : Int))) = L.map g := by
    intro L
    induction L with
    | nil => intro _; rfl
    | cons i L ih =>
      intro hL
      rw [List.filterMap_cons_some (b := g i) (by simp [h i (hL i (List.mem_cons_self ..))]), ih fun j hj => hL j (List.mem_cons_of_mem _ hj), List.map_cons]
  exact this _ fun i hi => by simpa using hi
theorem rng_mem {n : Nat} {d : D} (h : d ∈ rngD 0 n) : ∃ i : Nat, i < n ∧ d = .int i := by
  unfold rngD at h
  obtain ⟨i, hi, rfl⟩ := List.mem_map.mp h
  exact ⟨i, by simpa using hi, by simp⟩
/-- [e for v in range(n)] -/
theorem lc_rng {v : Nat} {me : W → R D} (g : Nat → D) (env : TD.Env) (n : Nat) (hn : n ≤ 1000000) (ss : SS) (h : ∀ i : Nat, i < n → lcStep [v] (gsName v) mYes me (.int i) ⟨env, ss⟩ = .ok (some (g i)) ⟨env, ss⟩) :
    lcGo [v] (gsName v) mYes me (rngD 0 n) [] ⟨env, ss⟩ = .ok ((List.range n).map g) ⟨env, ss⟩ := by
  have q := lc_pure (vs := [v]) (set := gsName v) (mt := mYes) (me := me) (fun d => match d with | .int i => some (g i.toNat) | _ => none) ⟨env, ss⟩ (rngD 0 n) [] (fun d hd => by
    obtain ⟨i, hi, rfl⟩ := rng_mem hd
    simpa using h i hi) (by simp [rngD]; omega)
  rw [rng_map n _ g (fun i hi => by simp)] at q
  rw [q]
  simp
/-- one statement, then the rest -/
theorem nxtF {s k : W → RS} {w w' : W} {X : RF} (h : s w = .nx w') (h2 : (k w').fin = X) : (sCons s k w).fin = X := by
  show ((s w).bind k).fin = X
  rw [h]; exact h2
theorem nxtR {s k : W → RS} {w w' : W} {X : RS} (h : s w = .nx w') (h2 : k w' = X) : sCons s k w = X := by
  show (s w).bind k = X
  rw [h]; exact h2
theorem nxt {s k : W → RS} {w w' : W} {d : D} (h : s w = .nx w') (h2 : ∃ w2, k w' = .ret d w2) : ∃ w2, sCons s k w = .ret d w2 := by
  obtain ⟨w2, e⟩ := h2
  exact ⟨w2, by show (s w).bind k = _; rw [h]; exact e⟩
theorem cutD_from1 (l : List D) (k : Nat) : TD.cutD l (some ((k : Int) + 1)) none = l.drop (k + 1) := cutD_from l (k + 1)
@[simp] theorem cutD_240 (l : List D) : TD.cutD l none (some 240) = l.take 240 := cutD_to l 240
@[simp] theorem bind_sNil (r : RS) : r.bind sNil = r := by cases r <;> rfl
theorem lcGo_first {vs : List Nat} {set : D → W → Option W} {mt : W → R Bool} {me : W → R D} {w w' : W} {d : D} {ds acc : List D} (h : lcStep vs set mt me d w = lcStep vs set mt me d w') : lcGo vs set mt me (d :: ds) acc w = lcGo vs set mt me (d :: ds) acc w' := by
  rw [lcGo_step, lcGo_step, h]
/-- return f(..) -/
@[simp] theorem toR_ret (r : RF) (w : W) : ((r.toR w).toS fun d w' => RS.ret d w').fin = r := by cases r <;> rfl
@[simp] theorem eqv_lst_lst (a b : List D) : D.eqv (.lst a) (.lst b) = D.eqvs a b := by rw [D.eqv]
@[simp] theorem eqv_lst_tup (a b : List D) : D.eqv (.lst a) (.tup b) = false := by rw [D.eqv] <;> simp
@[simp] theorem eqv_tup_lst (a b : List D) : D.eqv (.tup a) (.lst b) = false := by rw [D.eqv] <;> simp
@[simp] theorem eqv_lst_non (a : List D) : D.eqv (.lst a) .non = false := by rw [D.eqv] <;> simp
@[simp] theorem eqv_non_lst (a : List D) : D.eqv .non (.lst a) = false := by rw [D.eqv] <;> simp
@[simp] theorem cutD_to1 (l : List D) : TD.cutD l none (some 1) = l.take 1 := cutD_to l 1
end TP

set_option Elab.async false
set_option linter.all false
set_option maxRecDepth 100000
set_option maxHeartbeats 4000000
namespace TP
open PySem PySem.Spec PyProof.Rows L2 TD
/-! ### texts as rows of signs -/
abbrev S (a : List Nat) : Str := ⟨a.toArray⟩
theorem S_app (a b : List Nat) : S a ++ S b = S (a ++ b) := by
  show Str.append (S a) (S b) = _
  unfold Str.append
  simp
theorem S_len (a : List Nat) : (S a).length = a.length := by show a.toArray.size = _; simp
theorem S_inj {a b : List Nat} : S a = S b ↔ a = b := by simp [S]
theorem S_beq (a b : List Nat) : (S a == S b) = decide (a = b) := by
  rw [Bool.eq_iff_iff, beq_iff_eq, S_inj, decide_eq_true_iff]
theorem S_nil : ("" : Str) = S [] := by decide +kernel
theorem join_S : ∀ ls : List (List Nat), Txt.join (S []) (ls.map S) = S ls.flatten
  | [] => rfl
  | x :: ls => by
    show Builtin.Str.glued (S []) (S x :: ls.map S) = _
    unfold Builtin.Str.glued
    have key : ∀ (ls : List (List Nat)) (acc : List Nat), (ls.map S).foldl (fun acc p => acc ++ (S []).cps ++ p.cps) acc.toArray = (acc ++ ls.flatten).toArray := by
      intro ls
      induction ls with
      | nil => intro acc; simp
      | cons y ls ih =>
        intro acc
        rw [List.map_cons, List.foldl_cons]
        have e : acc.toArray ++ (S []).cps ++ (S y).cps = (acc ++ y).toArray := by simp
        rw [e, ih]
        simp
    show (⟨(ls.map S).foldl (fun acc p => acc ++ (S []).cps ++ p.cps) x.toArray⟩ : Str) = _
    rw [key]
    simp
theorem strs_S : ∀ ls : List (List Nat), TD.strs? (ls.map fun t => D.str (S t)) = some (ls.map S)
  | [] => rfl
  | x :: ls => by rw [List.map_cons, TD.strs?, strs_S ls]; rfl
theorem lens_S (ls : List (List Nat)) : ((ls.map S).map (·.length)).sum = (ls.map List.length).sum := by
  rw [List.map_map]; congr 1
theorem joinD_tup (ls : List (List Nat)) (h : (ls.map List.length).sum ≤ 1000000) : joinD (S []) (.tup (ls.map fun t => D.str (S t))) = some (.str (S ls.flatten)) := by
  show ((TD.strs? (ls.map fun t => D.str (S t))).bind fun ys => if (ys.map (·.length)).sum + ys.length * (S []).length ≤ 1000000 then some (D.str (Txt.join (S []) ys)) else none) = _
  rw [strs_S]
  show (if ((ls.map S).map (·.length)).sum + (ls.map S).length * (S []).length ≤ 1000000 then some (D.str (Txt.join (S []) (ls.map S))) else none) = _
  have e : ((ls.map S).map (·.length)).sum + (ls.map S).length * (S []).length ≤ 1000000 := by
    rw [lens_S, S_len]; simpa using h
  rw [if_pos e, join_S]
theorem cutS_S (a : List Nat) (lo hi : Option Int) : cutS (S a) lo hi = S ((a.drop (HT.sIx a.length 0 lo)).take (HT.sIx a.length a.length hi - HT.sIx a.length 0 lo)) := by
  unfold cutS
  rw [S_len]
theorem cutS_to (a : List Nat) (k : Nat) : cutS (S a) none (some (k : Int)) = S (a.take k) := by
  rw [cutS_S, HT.sIx_nat, HT.sIx_none]
  simp
theorem cutS_from (a : List Nat) (k : Nat) : cutS (S a) (some (k : Int)) none = S (a.drop k) := by
  rw [cutS_S, HT.sIx_nat, HT.sIx_none]
  by_cases h : k ≤ a.length
  · rw [Nat.min_eq_left h, List.take_of_length_le (by simp)]
  · rw [Nat.min_eq_right (by omega), List.drop_eq_nil_of_le (Nat.le_refl _), List.drop_eq_nil_of_le (by omega)]
    simp
theorem subS_one (c : Nat) (a : List Nat) : subS (S [c]) (S a) = decide (c ∈ a) := StrLaws.found_one (S a) c
theorem signs_S (a : List Nat) : TD.signs (S a) = a.map fun c => D.str (S [c]) := by simp [TD.signs]
theorem gIx_S (a : List Nat) (i : Int) (h : a.length ≤ 1000000) : gIx (.str (S a)) (.int i) = (atI a i).map fun c => D.str (S [c]) := by
  rw [gIx_str, S_len, if_pos h]
theorem strOk_S {a : List Nat} (h : ∀ c ∈ a, c < 128) : PyData.strOk (S a) = true := by
  show (S a).cps.all (· < 0x110000) = true
  rw [Array.all_eq_true']
  intro c hc
  have := h c (by simpa [S] using hc)
  exact decide_eq_true (by omega)
@[simp] theorem isi_int_str (i : Int) : (D.int i).isi "str" = some false := by show kitB "int" "str" = _; decide +kernel
@[simp] theorem isi_bl_str (i : Bool) : (D.bl i).isi "str" = some false := by show kitB "bool" "str" = _; decide +kernel
@[simp] theorem isi_str_str (i : Str) : (D.str i).isi "str" = some true := by show kitB "str" "str" = _; decide +kernel
@[simp] theorem isi_non_str : D.non.isi "str" = some false := by show kitB "NoneType" "str" = _; decide +kernel
@[simp] theorem isi_tup_str (i : List D) : (D.tup i).isi "str" = some false := by show kitB "tuple" "str" = _; decide +kernel
@[simp] theorem isi_lst_str (i : List D) : (D.lst i).isi "str" = some false := by show kitB "list" "str" = _; decide +kernel
/-- a pure comprehension whose first step freezes a list -/
theorem lc_two {vs : List Nat} {set : D → W → Option W} {mt : W → R Bool} {me : W → R D} (h : D → Option D) (w w' : W) (ds : List D) (h1 : ∀ d ∈ ds, lcStep vs set mt me d w' = .ok (h d) w') (h2 : ∀ d ∈ ds, lcStep vs set mt me d w = .ok (h d) w') (hl : ds.length ≤ 1000000) :
    ∃ w2, (w2 = w ∨ w2 = w') ∧ lcGo vs set mt me ds [] w = .ok (ds.filterMap h) w2 := by
  cases ds with
  | nil => exact ⟨w, .inl rfl, rfl⟩
  | cons d ds =>
    refine ⟨w', .inr rfl, ?_⟩
    have := lc_pure h w' (d :: ds) [] h1 (by simpa using hl)
    rw [List.nil_append] at this
    rw [← this]
    exact lcGo_first ((h2 d (List.mem_cons_self ..)).trans (h1 d (List.mem_cons_self ..)).symm)
/-! ### two fors -/
def lc2Step (vs vs1 : List Nat) (set : D → W → Option W) (mt : W → R Bool) (mi1 : W → R (List D)) (set1 : D → W → Option W) (mt1 : W → R Bool) (me : W → R D) (d : D) (acc : List D) (w : W) : R (List D) := match set d w with
  | none => .stuck
  | some w1 => (mt w1).nox.bind fun b w2 => if b = true then (mi1 w2).nox.bind fun ds1 w3 => (lcGo vs1 set1 mt1 me ds1 acc { w3 with env := wipeE w3.env vs1 }).bind fun acc w4 => .ok acc { w4 with env := wipeE w4.env vs }
    else .ok acc { w2 with env := wipeE w2.env vs }
theorem lcGo2_step {vs vs1 : List Nat} {set : D → W → Option W} {mt : W → R Bool} {mi1 : W → R (List D)} {set1 : D → W → Option W} {mt1 : W → R Bool} {me : W → R D} (d : D) (ds acc : List D) (w : W) :
    lcGo2 vs vs1 set mt mi1 set1 mt1 me (d :: ds) acc w = (lc2Step vs vs1 set mt mi1 set1 mt1 me d acc w).bind fun acc w' => lcGo2 vs vs1 set mt mi1 set1 mt1 me ds acc w' := by
  rw [lcGo2, lc2Step]
  cases set d w with
  | none => rfl
  | some w1 =>
    show ((mt w1).nox.bind _) = ((mt w1).nox.bind _).bind _
    cases (mt w1).nox with
    | ok b w2 =>
      cases b with
      | false => rfl
      | true =>
        show ((mi1 w2).nox.bind _) = ((mi1 w2).nox.bind _).bind _
        cases (mi1 w2).nox with
        | ok ds1 w3 =>
          show ((lcGo vs1 set1 mt1 me ds1 acc { w3 with env := wipeE w3.env vs1 }).bind _) = ((lcGo vs1 set1 mt1 me ds1 acc { w3 with env := wipeE w3.env vs1 }).bind _).bind _
          cases lcGo vs1 set1 mt1 me ds1 acc { w3 with env := wipeE w3.env vs1 } <;> rfl
        | exc c w => rfl
        | stuck => rfl
    | exc c w => rfl
    | stuck => rfl
theorem lc2_pureN (N : Nat) {vs vs1 : List Nat} {set : D → W → Option W} {mt : W → R Bool} {mi1 : W → R (List D)} {set1 : D → W → Option W} {mt1 : W → R Bool} {me : W → R D} (out : D → List D) (w : W) : ∀ (ds acc : List D), (∀ d ∈ ds, ∀ acc : List D, acc.length + (out d).length ≤ N → lc2Step vs vs1 set mt mi1 set1 mt1 me d acc w = .ok (acc ++ out d) w) →
    acc.length + (ds.flatMap out).length ≤ N → lcGo2 vs vs1 set mt mi1 set1 mt1 me ds acc w = .ok (acc ++ ds.flatMap out) w
  | [], acc, _, _ => by rw [List.flatMap_nil, List.append_nil]; rfl
  | d :: ds, acc, h, hl => by
    rw [List.flatMap_cons, List.length_append] at hl
    rw [lcGo2_step, h d (List.mem_cons_self ..) acc (by omega)]
    show lcGo2 vs vs1 set mt mi1 set1 mt1 me ds (acc ++ out d) w = _
    rw [lc2_pureN N out w ds (acc ++ out d) (fun e he => h e (List.mem_cons_of_mem _ he)) (by rw [List.length_append]; omega), List.flatMap_cons, List.append_assoc]
theorem lc2_pure {vs vs1 : List Nat} {set : D → W → Option W} {mt : W → R Bool} {mi1 : W → R (List D)} {set1 : D → W → Option W} {mt1 : W → R Bool} {me : W → R D} (out : D → List D) (w : W) (ds acc : List D) (h : ∀ d ∈ ds, ∀ acc : List D, acc.length + (out d).length ≤ 1000000 → lc2Step vs vs1 set mt mi1 set1 mt1 me d acc w = .ok (acc ++ out d) w)
    (hl : acc.length + (ds.flatMap out).length ≤ 1000000) : lcGo2 vs vs1 set mt mi1 set1 mt1 me ds acc w = .ok (acc ++ ds.flatMap out) w := lc2_pureN 1000000 out w ds acc h hl
/-! ### draws -/
/-- a row of draws -/
theorem lc_picks (v : Nat) (many : Int) (m : W → R D) (hm : 0 < many ∧ many < 1000000) (env : TD.Env) (n : Int) (hn : 0 ≤ n ∧ n ≤ 1000) (ss : SS) (hs : SsOk ss)
    (h : ∀ (d : D) (ss ss' : SS) (r : Int), pickM [.src, .int many] ss = .ok (.int r) ss' → lcStep [v] (gsName v) mYes m d ⟨env, ss⟩ = .ok (some (.int r)) ⟨env, ss'⟩) :
    ∃ (l : List Int) (ss' : SS), lcGo [v] (gsName v) mYes m (rngD 0 n) [] ⟨env, ss⟩ = .ok (l.map D.int) ⟨env, ss'⟩ ∧ SsOk ss' ∧ l.length = n.toNat ∧ ∀ x ∈ l, 0 ≤ x ∧ x < many := by
  obtain ⟨ys, ss', e, h1, h2, h3⟩ := lc_draw (vs := [v]) (set := gsName v) (mt := mYes) (me := m) SsOk (fun _ y => ∃ r : Int, y = .int r ∧ 0 ≤ r ∧ r < many) env (rngD 0 n) [] ss hs (fun d _ s hs => by
    obtain ⟨r, s', e, r1, r2, hs'⟩ := (pick_ok s hs many hm.1 hm.2).ex
    exact ⟨.int r, s', h d s s' r e, hs', r, rfl, r1, r2⟩) (by simp [rngD]; omega)
  have hlen : (rngD 0 n).length = n.toNat := by simp [rngD]
  have key : ∀ (ys : List D), (∀ (i : Nat) (y : D), ys[i]? = some y → ∃ r : Int, y = .int r ∧ 0 ≤ r ∧ r < many) → ∃ l : List Int, ys = l.map D.int ∧ ∀ x ∈ l, 0 ≤ x ∧ x < many := by
    intro ys
    induction ys with
    | nil => intro _; exact ⟨[], rfl, fun _ h => nomatch h⟩
    | cons y ys ih =>
      intro hy
      obtain ⟨r, rfl, r1, r2⟩ := hy 0 y rfl
      obtain ⟨l, rfl, hl⟩ := ih fun i z hz => hy (i + 1) z (by simpa using hz)
      exact ⟨r :: l, rfl, fun x hx => by
        rcases List.mem_cons.mp hx with rfl | hx
        · exact ⟨r1, r2⟩
        · exact hl x hx⟩
  obtain ⟨l, rfl, hl⟩ := key ys fun i y hy => by
    have hi : i < (rngD 0 n).length := by rw [← h2]; exact (List.getElem?_eq_some_iff.mp hy).1
    exact h3 i _ y (List.getElem?_eq_getElem hi) hy
  exact ⟨l, ss', by simpa using e, h1, by simpa [hlen] using h2, hl⟩
end TP

set_option Elab.async false
set_option linter.all false
set_option maxRecDepth 100000
set_option maxHeartbeats 4000000
/-! TQ: the mirrors run by what must hold behind them -/
namespace TQ
open PySem PySem.Spec PyProof.Rows L2 TD TP
def wR {α : Type} (r : R α) (Q : α → W → Prop) (X : Exn → W → Prop) : Prop := match r with
  | .ok a w => Q a w
  | .exc c w => X c w
  | .stuck => False
def wF (r : RF) (Q : D → SS → Prop) (X : Exn → SS → Prop) : Prop := match r with
  | .ok a w => Q a w
  | .exc c w => X c w
  | .stuck => False
structure Po where
  N : W → Prop
  T : D → W → Prop
  B : W → Prop
  C : W → Prop
  X : Exn → W → Prop
def wS (r : RS) (P : Po) : Prop := match r with
  | .nx w => P.N w
  | .ret d w => P.T d w
  | .brk w => P.B w
  | .cnt w => P.C w
  | .exc c w => P.X c w
  | .stuck => False
def nX : Exn → W → Prop := fun _ _ => False
def nXs : Exn → SS → Prop := fun _ _ => False
theorem wR_congr {α : Type} {r r' : R α} {Q : α → W → Prop} {X : Exn → W → Prop} (h : r = r') : wR r Q X = wR r' Q X := by rw [h]
theorem wF_congr {r r' : RF} {Q : D → SS → Prop} {X : Exn → SS → Prop} (h : r = r') : wF r Q X = wF r' Q X := by rw [h]
theorem wS_congr {r r' : RS} {P : Po} (h : r = r') : wS r P = wS r' P := by rw [h]
section
variable {α β : Type} {Q : α → W → Prop} {Qb : β → W → Prop} {X : Exn → W → Prop} {P : Po} {w : W}
@[simp] theorem wR_ok (a : α) : wR (.ok a w) Q X = Q a w := rfl
@[simp] theorem wR_exc (c : Exn) : wR (.exc c w) Q X = X c w := rfl
@[simp] theorem wR_stuck : wR .stuck Q X = False := rfl
@[simp] theorem wR_bind (r : R α) (k : α → W → R β) : wR (r.bind k) Qb X = wR r (fun a w => wR (k a w) Qb X) X := by cases r <;> rfl
theorem wR_lift (o : Option α) : wR (R.lift o w) Q X = ∃ a, o = some a ∧ Q a w := by
  cases o with
  | none => simp [R.lift]
  | some a => simp [R.lift]
@[simp] theorem wR_lift_if (c : Prop) [Decidable c] (a : α) : wR (R.lift (if c then some a else none) w) Q X = (c ∧ Q a w) := by
  by_cases h : c <;> simp [h, R.lift]
@[simp] theorem wR_ite (c : Prop) [Decidable c] (a b : R α) : wR (if c then a else b) Q X = if c then wR a Q X else wR b Q X := by
  by_cases h : c <;> simp [h]
@[simp] theorem wR_nox (r : R α) : wR r.nox Q X = wR r Q nX := by cases r <;> rfl
@[simp] theorem wR_toR (f : RF) (Qd : D → W → Prop) : wR (f.toR w) Qd X = wF f (fun d s => Qd d { w with ss := s }) (fun c s => X c { w with ss := s }) := by cases f <;> rfl
@[simp] theorem wS_nx : wS (.nx w) P = P.N w := rfl
@[simp] theorem wS_ret (d : D) : wS (.ret d w) P = P.T d w := rfl
@[simp] theorem wS_brk : wS (.brk w) P = P.B w := rfl
@[simp] theorem wS_cnt : wS (.cnt w) P = P.C w := rfl
@[simp] theorem wS_exc (c : Exn) : wS (.exc c w) P = P.X c w := rfl
@[simp] theorem wS_stuck : wS .stuck P = False := rfl
@[simp] theorem wS_toS (r : R α) (k : α → W → RS) : wS (r.toS k) P = wR r (fun a w => wS (k a w) P) P.X := by cases r <;> rfl
@[simp] theorem wS_bind (r : RS) (k : W → RS) : wS (r.bind k) P = wS r { P with N := fun w => wS (k w) P } := by cases r <;> rfl
@[simp] theorem wS_ite (c : Prop) [Decidable c] (a b : RS) : wS (if c then a else b) P = if c then wS a P else wS b P := by
  by_cases h : c <;> simp [h]
@[simp] theorem wS_oS (o : Option α) (k : α → RS) : wS (oS o k) P = ∃ a, o = some a ∧ wS (k a) P := by
  cases o with
  | none => simp
  | some a => simp
@[simp] theorem wS_loop (r : RS) (k : W → RS) : wS (r.loop k) P = wS r { P with N := fun w => wS (k w) P, C := fun w => wS (k w) P, B := P.N } := by cases r <;> rfl
@[simp] theorem wF_ok (a : D) (s : SS) (Q : D → SS → Prop) (X : Exn → SS → Prop) : wF (.ok a s) Q X = Q a s := rfl
@[simp] theorem wF_exc (c : Exn) (s : SS) (Q : D → SS → Prop) (X : Exn → SS → Prop) : wF (.exc c s) Q X = X c s := rfl
@[simp] theorem wF_fin (r : RS) (Q : D → SS → Prop) (X : Exn → SS → Prop) : wF r.fin Q X = wS r ⟨fun w => Q .non w.ss, fun d w => Q d w.ss, fun _ => False, fun _ => False, fun c w => X c w.ss⟩ := by cases r <;> rfl
theorem wR.mono {r : R α} {Q Q' : α → W → Prop} {X X' : Exn → W → Prop} (h : wR r Q X) (hq : ∀ a w, Q a w → Q' a w) (hx : ∀ c w, X c w → X' c w) : wR r Q' X' := by
  cases r with
  | ok a w => exact hq a w h
  | exc c w => exact hx c w h
  | stuck => exact h
theorem wF.mono {r : RF} {Q Q' : D → SS → Prop} {X X' : Exn → SS → Prop} (h : wF r Q X) (hq : ∀ a w, Q a w → Q' a w) (hx : ∀ c w, X c w → X' c w) : wF r Q' X' := by
  cases r with
  | ok a w => exact hq a w h
  | exc c w => exact hx c w h
  | stuck => exact h
theorem wS.mono {r : RS} {P P' : Po} (h : wS r P) (h1 : ∀ w, P.N w → P'.N w) (h2 : ∀ d w, P.T d w → P'.T d w) (h3 : ∀ w, P.B w → P'.B w) (h4 : ∀ w, P.C w → P'.C w) (h5 : ∀ c w, P.X c w → P'.X c w) : wS r P' := by
  cases r with
  | nx w => exact h1 w h
  | ret d w => exact h2 d w h
  | brk w => exact h3 w h
  | cnt w => exact h4 w h
  | exc c w => exact h5 c w h
  | stuck => exact h
/-- an equation is as good -/
theorem wF.of {r : RF} {d : D} {s : SS} {Q : D → SS → Prop} {X : Exn → SS → Prop} (e : r = .ok d s) (q : Q d s) : wF r Q X := by rw [e]; exact q
theorem wF.eq {r : RF} {d : D} {s : SS} (h : wF r (fun d' s' => d' = d ∧ s' = s) nXs) : r = .ok d s := by
  cases r with
  | ok a w => obtain ⟨rfl, rfl⟩ := h; rfl
  | exc c w => exact h.elim
  | stuck => exact h.elim
theorem wF.xeq {r : RF} {c : Exn} {s : SS} (h : wF r (fun _ _ => False) (fun c' s' => c' = c ∧ s' = s)) : r = .exc c s := by
  cases r with
  | ok a w => exact h.elim
  | exc c w => obtain ⟨rfl, rfl⟩ := h; rfl
  | stuck => exact h.elim
/-- for -/
theorem for_wp {g : D → W → Option W} {b : W → RS} (I : List D → W → Prop) {ds : List D} {w : W} {P : Po} (h0 : I ds w) (he : ∀ w, I [] w → P.N w)
    (hs : ∀ d ds w, I (d :: ds) w → ∃ w1, g d w = some w1 ∧ wS (b w1) { P with N := I ds, C := I ds, B := P.N }) : wS (sForGo g b ds w) P := by
  induction ds generalizing w with
  | nil => exact he w h0
  | cons d ds ih =>
    rw [sForGo_cons, wS_oS]
    obtain ⟨w1, e, h⟩ := hs d ds w h0
    refine ⟨w1, e, ?_⟩
    rw [wS_loop]
    exact wS.mono h (fun w h => ih h) (fun _ _ h => h) (fun _ h => h) (fun w h => ih h) fun _ _ h => h
/-- for over the items of a list, one by one; what is done so far counted -/
theorem for_ix {g : D → W → Option W} {b : W → RS} (ds : List D) (I : Nat → W → Prop) {w : W} {P : Po} (h0 : I 0 w) (he : ∀ w, I ds.length w → P.N w)
    (hs : ∀ (i : Nat) (d : D) (w : W), ds[i]? = some d → I i w → ∃ w1, g d w = some w1 ∧ wS (b w1) { P with N := I (i + 1), C := I (i + 1), B := P.N }) : wS (sForGo g b ds w) P := by
  refine for_wp (fun l w => ∃ i, l = ds.drop i ∧ i ≤ ds.length ∧ I i w) ⟨0, rfl, Nat.zero_le _, h0⟩ ?_ ?_
  · rintro w ⟨i, e, hi, h⟩
    have : i = ds.length := by
      have := congrArg List.length e
      simp only [List.length_nil, List.length_drop] at this
      omega
    subst this
    exact he w h
  · rintro d l w ⟨i, e, hi, h⟩
    have hlt : i < ds.length := by
      have := congrArg List.length e
      simp only [List.length_cons, List.length_drop] at this
      omega
    rw [List.drop_eq_getElem_cons hlt] at e
    obtain ⟨rfl, rfl⟩ := List.cons.inj e
    obtain ⟨w1, e1, h1⟩ := hs i _ w (List.getElem?_eq_getElem hlt) h
    refine ⟨w1, e1, wS.mono h1 (fun w h => ⟨i + 1, rfl, hlt, h⟩) (fun _ _ h => h) (fun _ h => h) (fun w h => ⟨i + 1, rfl, hlt, h⟩) fun _ _ h => h⟩
theorem rng_get {n i : Nat} {d : D} (h : (rngD 0 (n : Int))[i]? = some d) : i < n ∧ d = .int i := by
  obtain ⟨hl, e⟩ := List.getElem?_eq_some_iff.mp h
  have hl' : i < n := by simpa [rngD] using hl
  refine ⟨hl', ?_⟩
  rw [← e]
  simp [rngD]
@[simp] theorem rng_len (n : Nat) : (rngD 0 (n : Int)).length = n := by simp [rngD]
/-- for over range(n) -/
theorem for_rng {g : D → W → Option W} {b : W → RS} (n : Nat) (I : Nat → W → Prop) {w : W} {P : Po} (h0 : I 0 w) (he : ∀ w, I n w → P.N w)
    (hs : ∀ (i : Nat) (w : W), i < n → I i w → ∃ w1, g (.int i) w = some w1 ∧ wS (b w1) { P with N := I (i + 1), C := I (i + 1), B := P.N }) : wS (sForGo g b (rngD 0 n) w) P := by
  refine for_ix _ I h0 (fun w h => he w (by rwa [rng_len] at h)) fun i d w hd h => ?_
  obtain ⟨hi, rfl⟩ := rng_get hd
  exact hs i w hi h
/-- while -/
theorem while_wp {t : W → R Bool} {b : W → RS} (I : Nat → W → Prop) {w : W} {P : Po} (k : Nat) (hk : k < fuel) (h0 : I k w)
    (hs : ∀ k w, I k w → wR (t w) (fun c w1 => if c = true then wS (b w1) { P with N := fun w2 => ∃ k', k' < k ∧ I k' w2, C := fun w2 => ∃ k', k' < k ∧ I k' w2, B := P.N } else P.N w1) P.X) : wS (sWhile t b w) P := by
  show wS (sWhGo t b fuel w) P
  generalize fuel = n at hk
  induction n generalizing k w with
  | zero => omega
  | succ n ih =>
    rw [sWhGo_succ, wS_toS]
    refine wR.mono (hs k w h0) (fun c w1 h => ?_) (fun _ _ h => h)
    cases c with
    | false =>
      rw [if_neg (by decide)] at h ⊢
      exact h
    | true =>
      rw [if_pos rfl] at h ⊢
      rw [wS_loop]
      exact wS.mono h (fun w ⟨k', hlt, h⟩ => ih k' h (by omega)) (fun _ _ h => h) (fun _ h => h) (fun w ⟨k', hlt, h⟩ => ih k' h (by omega)) fun _ _ h => h
/-- the draw -/
theorem pick_wp {ss : SS} {many : Int} {Q : D → SS → Prop} {X : Exn → SS → Prop} (hs : SsOk ss) (h1 : 0 < many) (h2 : many < 1000000) (q : ∀ (r : Int) (ss' : SS), 0 ≤ r → r < many → SsOk ss' → Q (.int r) ss') : wF (pickM [.src, .int many] ss) Q X := by
  obtain ⟨r, ss', e, a, b, c⟩ := (pick_ok ss hs many h1 h2).ex
  rw [e]
  exact q r ss' a b c
/-- a comprehension without draws -/
theorem lc_wp {vs : List Nat} {set : D → W → Option W} {mt : W → R Bool} {me : W → R D} (h : D → Option D) {w : W} {ds acc : List D} {Q : List D → W → Prop} {X : Exn → W → Prop} (hs : ∀ d ∈ ds, lcStep vs set mt me d w = .ok (h d) w) (hl : acc.length + ds.length ≤ 1000000) (q : Q (acc ++ ds.filterMap h) w) : wR (lcGo vs set mt me ds acc w) Q X := by
  rw [lc_pure h w ds acc hs hl]
  exact q
theorem lcm_wp {vs : List Nat} {set : D → W → Option W} {mt : W → R Bool} {me : W → R D} (h : D → D) {w : W} {ds acc : List D} {Q : List D → W → Prop} {X : Exn → W → Prop} (hs : ∀ d ∈ ds, lcStep vs set mt me d w = .ok (some (h d)) w) (hl : acc.length + ds.length ≤ 1000000) (q : Q (acc ++ ds.map h) w) : wR (lcGo vs set mt me ds acc w) Q X := by
  rw [lc_pure (fun d => some (h d)) w ds acc hs hl, List.filterMap_eq_map']
  exact q
/-- one turn, run -/
theorem lcStep_eq {vs : List Nat} {set : D → W → Option W} {mt : W → R Bool} {me : W → R D} {d : D} {w : W} {o : Option D} {w' : W} (h : wR (lcStep vs set mt me d w) (fun o' w2 => o' = o ∧ w2 = w') nX) : lcStep vs set mt me d w = .ok o w' := by
  revert h
  cases lcStep vs set mt me d w with
  | ok a w => rintro ⟨rfl, rfl⟩; rfl
  | exc c w => exact fun h => h.elim
  | stuck => exact fun h => h.elim
end
end TQ

set_option Elab.async false
set_option linter.all false
set_option maxRecDepth 100000
set_option maxHeartbeats 4000000
namespace K31
open PySem PySem.Spec PyProof.Rows L2 TD
def hx : HxT := [(("BadValue", "TalkError"), true), (("BadValue", "BadValue"), true), (("BadValue", "ValueError"), true), (("BadValue", "BadText"), false), (("BadValue", "TooMany"), false), (("BadValue", "Unlike"), false), (("BadValue", "Unknown"), false), (("BadValue", "BadPaper"), false)]
@[simp] theorem hx_BadValue_TalkError : xT hx "TalkError" "BadValue" = some true := by decide +kernel
@[simp] theorem hx_BadValue_BadValue : xT hx "BadValue" "BadValue" = some true := by decide +kernel
@[simp] theorem hx_BadValue_ValueError : xT hx "ValueError" "BadValue" = some true := by decide +kernel
@[simp] theorem hx_BadValue_BadText : xT hx "BadText" "BadValue" = some false := by decide +kernel
@[simp] theorem hx_BadValue_TooMany : xT hx "TooMany" "BadValue" = some false := by decide +kernel
@[simp] theorem hx_BadValue_Unlike : xT hx "Unlike" "BadValue" = some false := by decide +kernel
@[simp] theorem hx_BadValue_Unknown : xT hx "Unknown" "BadValue" = some false := by decide +kernel
@[simp] theorem hx_BadValue_BadPaper : xT hx "BadPaper" "BadValue" = some false := by decide +kernel
def e_is_count : W → RS := 
  sCons (sRet (mAndV (mIsi "int" (mVar 0)) (mAndV (mNotV (mIsi "bool" (mVar 0))) (mChain gLe gLe (mVar 1) (mVar 0) (mVar 2))))) (sNil)
def m_is_count : List D → SS → RF := fnM 3 e_is_count
def e_is_deal : W → RS := 
  sCons (sIf (mOrT (mNotT (mTru (mIsi "tuple" (mVar 0)))) (mB (mBin gGt (mBlt gLen (mCons (mVar 0) (mNil))) (mC (.int 240))))) (
    sCons (sRet (mC (.bl false))) (sNil)) (sNil)) (
  sCons (sRet (mBin gEq (mBlt gLen (mCons (mFrz (mLc [1] (mItems (mVar 0)) (gsName 1) (mNotT (mTru (mCall 3 m_is_count (mCons (mVar 1) (mCons (mC (.int 0)) (mCons (mBin gSub (mC (.int 4)) (mC (.int 1))) (mNil))))))) (mVar 1))) (mNil))) (mC (.int 0)))) (sNil))
def m_is_deal : List D → SS → RF := fnM 2 e_is_deal
def e_must_be_deal : W → RS := 
  sCons (sIf (mNotT (mTru (mCall 1 m_is_deal (mCons (mVar 0) (mNil))))) (
    sCons (sRaise "BadValue" "what" (mCons (mC (.str "deal")) (mNil))) (sNil)) (sNil)) (sNil)
def m_must_be_deal : List D → SS → RF := fnM 1 e_must_be_deal
def e_hands_of : W → RS := 
  sCons (sExpr (mCall 1 m_must_be_deal (mCons (mVar 0) (mNil)))) (
  sCons (sRet (mBin gAdd (mBlt gMax (mCons (mFrz (mCat (mFrz (mListOf (mVar 0))) (mFrz (mLst (mCons (mUn gNeg (mC (.int 1))) (mNil)))))) (mNil))) (mC (.int 1)))) (sNil))
def m_hands_of : List D → SS → RF := fnM 1 e_hands_of
def g_blocks_of_0 : D → W → Option W := gsName 3
def b_blocks_of_0 : W → RS := 
    sCons (sIf (mOrT (mB (mBin gEq (mVar 3) (mBlt gLen (mCons (mVar 0) (mNil))))) (mB (mBin gNe (mBin gIx (mVar 0) (mVar 3)) (mBin gIx (mVar 0) (mVar 2))))) (
      sCons (sApp 1 (mTup (mCons (mBin gIx (mVar 0) (mVar 2)) (mCons (mVar 2) (mCons (mVar 3) (mNil)))))) (
      sCons (sSet 2 (mVar 3)) (sNil))) (sNil)) (sNil)
def e_blocks_of : W → RS := 
  sCons (sExpr (mCall 1 m_must_be_deal (mCons (mVar 0) (mNil)))) (
  sCons (sSetF 1 (mLst (mNil))) (
  sCons (sSet 2 (mC (.int 0))) (
  sCons (sFor (mRng2 (mCons (mC (.int 1)) (mCons (mBin gAdd (mBlt gLen (mCons (mVar 0) (mNil))) (mC (.int 1))) (mNil)))) (g_blocks_of_0) (b_blocks_of_0)) (
  sCons (sRet (mBlt gTuple (mCons (mVar 1) (mNil)))) (sNil)))))
def m_blocks_of : List D → SS → RF := fnM 4 e_blocks_of
def e_short_deal : W → RS := 
  sCons (sRet (mBlt gTuple (mCons (mFrz (mLc [1] (mItems (mCall 1 m_blocks_of (mCons (mVar 0) (mNil)))) (gsName 1) (mYes) (mBin gIx (mVar 1) (mC (.int 0))))) (mNil)))) (sNil)
def m_short_deal : List D → SS → RF := fnM 2 e_short_deal
def e_turning_deal : W → RS := 
  sCons (sIf (mOrT (mNotT (mTru (mCall 3 m_is_count (mCons (mVar 0) (mCons (mC (.int 0)) (mCons (mC (.int 240)) (mNil))))))) (mB (mBin gNotIn (mVar 1) (mTup (mCons (mC (.int 0)) (mCons (mC (.int 1)) (mNil))))))) (
    sCons (sRaise "BadValue" "what" (mCons (mC (.str "deal")) (mNil))) (sNil)) (sNil)) (
  sCons (sRet (mBlt gTuple (mCons (mFrz (mLc [2] (mRng1 (mCons (mVar 0) (mNil))) (gsName 2) (mYes) (mBin gAnd (mBin gAdd (mVar 1) (mVar 2)) (mC (.int 1))))) (mNil)))) (sNil))
def m_turning_deal : List D → SS → RF := fnM 3 e_turning_deal
def e__law_pick : W → RS := 
  sCons (sIf (mB (mBin gGt (mSrc 0 1) (mC (.int 0)))) (
    sCons (sSet 2 (mSrc 0 1)) (
    sCons (sSrc 0 1 (mBin gDiv (mVar 2) (mVar 1))) (
    sCons (sRet (mBin gMod (mBlt gInt (mCons (mVar 2) (mNil))) (mVar 1))) (sNil)))) (sNil)) (
  sCons (sSet 3 (mSrc 0 2)) (
  sCons (sSrc 0 2 (mBin gAdd (mVar 3) (mC (.int 1)))) (
  sCons (sSet 4 (mSrc 0 0)) (
  sCons (sSet 5 (mBin gIx (mVar 4) (mBin gMod (mBlt gInt (mCons (mVar 3) (mNil))) (mBlt gLen (mCons (mVar 4) (mNil)))))) (
  sCons (sIf (mAndT (mB (mBin gGe (mVar 5) (mBin gPow (mC (.int 10)) (mC (.int 18))))) (mB (mBin gLt (mVar 3) (mBlt gLen (mCons (mVar 4) (mNil)))))) (
    sCons (sSrc 0 1 (mBin gDiv (mVar 5) (mVar 1))) (
    sCons (sRet (mBin gMod (mBlt gInt (mCons (mVar 5) (mNil))) (mVar 1))) (sNil))) (sNil)) (
  sCons (sSet 6 (mBin gMod (mBlt gInt (mCons (mBin gAdd (mBin gAdd (mBin gMul (mBin gMod (mBlt gInt (mCons (mVar 5) (mNil))) (mC (.int 2147483647))) (mC (.int 48271))) (mBin gMul (mVar 3) (mC (.int 69621)))) (mC (.int 40692))) (mNil))) (mC (.int 2147483399)))) (
  sCons (sSet 7 (mBin gMod (mBlt gInt (mCons (mBin gAdd (mBin gAdd (mBin gMul (mVar 6) (mBin gAdd (mBin gMod (mBlt gInt (mCons (mVar 6) (mNil))) (mC (.int 65537))) (mC (.int 3)))) (mBin gMul (mVar 3) (mC (.int 7919)))) (mC (.int 17))) (mNil))) (mC (.int 2147483647)))) (
  sCons (sRet (mBin gMod (mBlt gInt (mCons (mBin gDiv (mVar 7) (mC (.int 5))) (mNil))) (mVar 1))) (sNil)))))))))
def m__law_pick : List D → SS → RF := fnM 8 e__law_pick
def e__law_deal : W → RS := 
  sCons (sRet (mBlt gTuple (mCons (mFrz (mLc [3] (mRng1 (mCons (mVar 1) (mNil))) (gsName 3) (mYes) (mCall 2 m__law_pick (mCons (mVar 0) (mCons (mVar 2) (mNil)))))) (mNil)))) (sNil)
def m__law_deal : List D → SS → RF := fnM 4 e__law_deal
def e__law_is_int : W → RS := 
  sCons (sRet (mAndV (mIsi "int" (mVar 0)) (mNotV (mIsi "bool" (mVar 0))))) (sNil)
def m__law_is_int : List D → SS → RF := fnM 1 e__law_is_int
def g__law_wide_deal_0 : D → W → Option W := gsName 4
def b__law_wide_deal_0 : W → RS := 
      sCons (sSet 5 (mCall 2 m__law_pick (mCons (mVar 0) (mCons (mVar 1) (mNil))))) (
      sCons (sSetF 3 (mCat (mVar 3) (mFrz (mLc [6] (mRng1 (mCons (mBin gAdd (mC (.int 1)) (mCall 2 m__law_pick (mCons (mVar 0) (mCons (mC (.int 20)) (mNil))))) (mNil))) (gsName 6) (mYes) (mVar 5))))) (sNil))
def e__law_wide_deal : W → RS := 
  sCons (sSet 1 (mBin gAdd (mC (.int 1)) (mCall 2 m__law_pick (mCons (mVar 0) (mCons (mC (.int 4)) (mNil)))))) (
  sCons (sSet 2 (mCall 2 m__law_pick (mCons (mVar 0) (mCons (mC (.int 4)) (mNil))))) (
  sCons (sIf (mB (mBin gEq (mVar 2) (mC (.int 0)))) (
    sCons (sRet (mCall 3 m__law_deal (mCons (mVar 0) (mCons (mCall 2 m__law_pick (mCons (mVar 0) (mCons (mC (.int 13)) (mNil)))) (mCons (mVar 1) (mNil)))))) (sNil)) (sNil)) (
  sCons (sIf (mB (mBin gEq (mVar 2) (mC (.int 1)))) (
    sCons (sSetF 3 (mLst (mNil))) (
    sCons (sFor (mRng1 (mCons (mCall 2 m__law_pick (mCons (mVar 0) (mCons (mC (.int 13)) (mNil)))) (mNil))) (g__law_wide_deal_0) (b__law_wide_deal_0)) (
    sCons (sRet (mBlt gTuple (mCons (mFrz (mSlL (mVar 3) (mNoP) (mP (mC (.int 240))))) (mNil)))) (sNil)))) (sNil)) (
  sCons (sSet 7 (mCall 2 m__law_pick (mCons (mVar 0) (mCons (mC (.int 241)) (mNil))))) (
  sCons (sIf (mB (mBin gEq (mVar 2) (mC (.int 2)))) (
    sCons (sSet 7 (mBin gIx (mFrz (mLst (mCons (mC (.int 0)) (mCons (mC (.int 1)) (mCons (mC (.int 2)) (mCons (mC (.int 60)) (mCons (mC (.int 239)) (mCons (mC (.int 240)) (mNil))))))))) (mBin gMod (mBlt gInt (mCons (mVar 7) (mNil))) (mC (.int 6))))) (sNil)) (sNil)) (
  sCons (sSetF 8 (mLc [6] (mRng1 (mCons (mBin gAdd (mC (.int 1)) (mCall 2 m__law_pick (mCons (mVar 0) (mCons (mC (.int 6)) (mNil))))) (mNil))) (gsName 6) (mYes) (mCall 2 m__law_pick (mCons (mVar 0) (mCons (mVar 1) (mNil)))))) (
  sCons (sRet (mBlt gTuple (mCons (mFrz (mLc [6] (mRng1 (mCons (mVar 7) (mNil))) (gsName 6) (mYes) (mBin gIx (mVar 8) (mBin gMod (mBlt gInt (mCons (mVar 6) (mNil))) (mBlt gLen (mCons (mVar 8) (mNil))))))) (mNil)))) (sNil))))))))
def m__law_wide_deal : List D → SS → RF := fnM 9 e__law_wide_deal
def e__law_asked : W → RS := 
  sCons (sTry (xT hx "TalkError") 3 (
    sCons (sIf (mB (mBin gEq (mVar 0) (mC (.int 0)))) (
      sCons (sRet (mTup (mCons (mC (.str "told")) (mCons (mCall 1 m_hands_of (mCons (mVar 1) (mNil))) (mNil))))) (sNil)) (sNil)) (
    sCons (sIf (mB (mBin gEq (mVar 0) (mC (.int 1)))) (
      sCons (sRet (mTup (mCons (mC (.str "told")) (mCons (mCall 1 m_blocks_of (mCons (mVar 1) (mNil))) (mNil))))) (sNil)) (sNil)) (
    sCons (sIf (mB (mBin gEq (mVar 0) (mC (.int 2)))) (
      sCons (sRet (mTup (mCons (mC (.str "told")) (mCons (mCall 1 m_short_deal (mCons (mVar 1) (mNil))) (mNil))))) (sNil)) (sNil)) (
    sCons (sIf (mB (mBin gEq (mVar 0) (mC (.int 3)))) (
      sCons (sRet (mTup (mCons (mC (.str "told")) (mCons (mCall 2 m_turning_deal (mApp [.int (0)] (mCons (mVar 1) (mNil)))) (mNil))))) (sNil)) (sNil)) (
    sCons (sRet (mTup (mCons (mC (.str "told")) (mCons (mCall 2 m_turning_deal (mCons (mVar 1) (mCons (mVar 2) (mNil)))) (mNil))))) (sNil)))))) (
    sCons (sIf (mOrT (mNotT (mTru (mIsX 3 (xT hx "BadValue")))) (mNotT (mTru (mIsX 3 (xT hx "ValueError"))))) (
      sCons (sRet (mTup (mCons (mC (.str "other")) (mCons (mC .non) (mNil))))) (sNil)) (sNil)) (
    sCons (sIf (mTru (mIsX 3 (anyX [(xT hx "BadText"), (xT hx "TooMany"), (xT hx "Unlike"), (xT hx "Unknown"), (xT hx "BadPaper")]))) (
      sCons (sRet (mTup (mCons (mC (.str "other")) (mCons (mC .non) (mNil))))) (sNil)) (sNil)) (
    sCons (sRet (mTup (mCons (mC (.str "refused")) (mCons (mExf 3 "what") (mNil))))) (sNil))))) (sNil)
def m__law_asked : List D → SS → RF := fnM 4 e__law_asked
def g__law_hands_0 : D → W → Option W := gsName 2
def b__law_hands_0 : W → RS := 
    sCons (sSet 1 (mBlt gMax (mCons (mVar 1) (mCons (mBin gAdd (mVar 2) (mC (.int 1))) (mNil))))) (sNil)
def e__law_hands : W → RS := 
  sCons (sSet 1 (mC (.int 0))) (
  sCons (sFor (mItems (mVar 0)) (g__law_hands_0) (b__law_hands_0)) (
  sCons (sRet (mVar 1)) (sNil)))
def m__law_hands : List D → SS → RF := fnM 3 e__law_hands
def e__law_blocks : W → RS := 
  sCons (sSetF 1 (mLc [2] (mRng1 (mCons (mBlt gLen (mCons (mVar 0) (mNil))) (mNil))) (gsName 2) (mOrT (mB (mBin gEq (mVar 2) (mC (.int 0)))) (mB (mBin gNe (mBin gIx (mVar 0) (mVar 2)) (mBin gIx (mVar 0) (mBin gSub (mVar 2) (mC (.int 1))))))) (mVar 2))) (
  sCons (sSetF 3 (mCat (mFrz (mSlL (mVar 1) (mP (mC (.int 1))) (mNoP))) (mFrz (mLst (mCons (mBlt gLen (mCons (mVar 0) (mNil))) (mNil)))))) (
  sCons (sRet (mBlt gTuple (mCons (mFrz (mLc [4, 5] (mZip (mVar 1) (mVar 3)) (gsTup 2 (gsCons (gsName 4) (gsCons (gsName 5) (gsNil)))) (mYes) (mTup (mCons (mBin gIx (mVar 0) (mVar 4)) (mCons (mVar 4) (mCons (mVar 5) (mNil))))))) (mNil)))) (sNil)))
def m__law_blocks : List D → SS → RF := fnM 6 e__law_blocks
def e__law_are_hands : W → RS := 
  sCons (sIf (mNotT (mTru (mIsi "tuple" (mVar 0)))) (
    sCons (sRet (mC (.bl false))) (sNil)) (sNil)) (
  sCons (sRet (mBin gEq (mBlt gLen (mCons (mFrz (mLc [1] (mItems (mVar 0)) (gsName 1) (mNotT (mTru (mCall 1 m__law_is_int (mCons (mVar 1) (mNil))))) (mVar 1))) (mNil))) (mC (.int 0)))) (sNil))
def m__law_are_hands : List D → SS → RF := fnM 2 e__law_are_hands
def g__law_blocks_stand_0 : D → W → Option W := gsName 4
def b__law_blocks_stand_0 : W → RS := 
    sCons (sIf (mOrT (mNotT (mTru (mCall 1 m__law_are_hands (mCons (mVar 4) (mNil))))) (mB (mBin gNe (mBlt gLen (mCons (mVar 4) (mNil))) (mC (.int 3))))) (
      sCons (sRet (mC (.bl false))) (sNil)) (sNil)) (
    sCons (sAsg (gsTup 3 (gsCons (gsName 5) (gsCons (gsName 6) (gsCons (gsName 7) (gsNil))))) (mVar 4)) (
    sCons (sIf (mOrT (mB (mBin gNe (mVar 6) (mVar 2))) (mOrT (mB (mBin gLe (mVar 7) (mVar 6))) (mOrT (mB (mBin gGt (mVar 7) (mBlt gLen (mCons (mVar 0) (mNil))))) (mB (mBin gEq (mVar 5) (mVar 3)))))) (
      sCons (sRet (mC (.bl false))) (sNil)) (sNil)) (
    sCons (sIf (mB (mBin gGt (mBlt gLen (mCons (mFrz (mLc [8] (mRng2 (mCons (mVar 6) (mCons (mVar 7) (mNil)))) (gsName 8) (mB (mBin gNe (mBin gIx (mVar 0) (mVar 8)) (mVar 5))) (mVar 8))) (mNil))) (mC (.int 0)))) (
      sCons (sRet (mC (.bl false))) (sNil)) (sNil)) (
    sCons (sSet 2 (mVar 7)) (
    sCons (sSet 3 (mVar 5)) (sNil))))))
def e__law_blocks_stand : W → RS := 
  sCons (sIf (mNotT (mTru (mIsi "tuple" (mVar 1)))) (
    sCons (sRet (mC (.bl false))) (sNil)) (sNil)) (
  sCons (sSet 2 (mC (.int 0))) (
  sCons (sSet 3 (mC (.int 4))) (
  sCons (sFor (mItems (mVar 1)) (g__law_blocks_stand_0) (b__law_blocks_stand_0)) (
  sCons (sRet (mBin gEq (mVar 2) (mBlt gLen (mCons (mVar 0) (mNil))))) (sNil)))))
def m__law_blocks_stand : List D → SS → RF := fnM 9 e__law_blocks_stand
def e__law_deal_right : W → RS := 
  sCons (sIf (mB (mBin gIsNot (mCall 1 m_is_deal (mCons (mVar 0) (mNil))) (mC (.bl true)))) (
    sCons (sRet (mC (.bl false))) (sNil)) (sNil)) (
  sCons (sSet 1 (mCall 3 m__law_asked (mCons (mC (.int 0)) (mCons (mVar 0) (mCons (mC (.int 0)) (mNil)))))) (
  sCons (sIf (mOrT (mB (mBin gNe (mVar 1) (mTup (mCons (mC (.str "told")) (mCons (mCall 1 m__law_hands (mCons (mVar 0) (mNil))) (mNil)))))) (mNotT (mTru (mCall 1 m__law_is_int (mCons (mBin gIx (mVar 1) (mC (.int 1))) (mNil)))))) (
    sCons (sRet (mC (.bl false))) (sNil)) (sNil)) (
  sCons (sSet 2 (mCall 1 m__law_blocks (mCons (mVar 0) (mNil)))) (
  sCons (sSet 1 (mCall 3 m__law_asked (mCons (mC (.int 1)) (mCons (mVar 0) (mCons (mC (.int 0)) (mNil)))))) (
  sCons (sIf (mOrT (mB (mBin gNe (mVar 1) (mTup (mCons (mC (.str "told")) (mCons (mVar 2) (mNil)))))) (mNotT (mTru (mCall 2 m__law_blocks_stand (mCons (mVar 0) (mCons (mBin gIx (mVar 1) (mC (.int 1))) (mNil))))))) (
    sCons (sRet (mC (.bl false))) (sNil)) (sNil)) (
  sCons (sSet 3 (mBlt gTuple (mCons (mFrz (mLc [4] (mItems (mVar 2)) (gsName 4) (mYes) (mBin gIx (mVar 4) (mC (.int 0))))) (mNil)))) (
  sCons (sSet 1 (mCall 3 m__law_asked (mCons (mC (.int 2)) (mCons (mVar 0) (mCons (mC (.int 0)) (mNil)))))) (
  sCons (sIf (mOrT (mB (mBin gNe (mVar 1) (mTup (mCons (mC (.str "told")) (mCons (mVar 3) (mNil)))))) (mNotT (mTru (mCall 1 m__law_are_hands (mCons (mBin gIx (mVar 1) (mC (.int 1))) (mNil)))))) (
    sCons (sRet (mC (.bl false))) (sNil)) (sNil)) (
  sCons (sIf (mOrT (mB (mBin gIsNot (mCall 1 m_is_deal (mCons (mBin gIx (mVar 1) (mC (.int 1))) (mNil))) (mC (.bl true)))) (mB (mBin gNe (mCall 3 m__law_asked (mCons (mC (.int 2)) (mCons (mBin gIx (mVar 1) (mC (.int 1))) (mCons (mC (.int 0)) (mNil))))) (mTup (mCons (mC (.str "told")) (mCons (mVar 3) (mNil))))))) (
    sCons (sRet (mC (.bl false))) (sNil)) (sNil)) (
  sCons (sRet (mBin gEq (mCall 3 m__law_asked (mCons (mC (.int 0)) (mCons (mBin gIx (mVar 1) (mC (.int 1))) (mCons (mC (.int 0)) (mNil))))) (mTup (mCons (mC (.str "told")) (mCons (mCall 1 m__law_hands (mCons (mVar 0) (mNil))) (mNil)))))) (sNil)))))))))))
def m__law_deal_right : List D → SS → RF := fnM 5 e__law_deal_right
def g__law_turning_right_0 : D → W → Option W := gsTup 3 (gsCons (gsName 4) (gsCons (gsName 5) (gsCons (gsName 6) (gsNil))))
def b__law_turning_right_0 : W → RS := 
    sCons (sSet 7 (mCall 3 m__law_asked (mCons (mVar 4) (mCons (mVar 0) (mCons (mVar 5) (mNil)))))) (
    sCons (sIf (mOrT (mB (mBin gNe (mVar 7) (mTup (mCons (mC (.str "told")) (mCons (mVar 6) (mNil)))))) (mNotT (mTru (mCall 1 m__law_are_hands (mCons (mBin gIx (mVar 7) (mC (.int 1))) (mNil)))))) (
      sCons (sRet (mC (.bl false))) (sNil)) (sNil)) (
    sCons (sIf (mB (mBin gNe (mCall 3 m__law_asked (mCons (mC (.int 2)) (mCons (mBin gIx (mVar 7) (mC (.int 1))) (mCons (mC (.int 0)) (mNil))))) (mTup (mCons (mC (.str "told")) (mCons (mVar 6) (mNil)))))) (
      sCons (sRet (mC (.bl false))) (sNil)) (sNil)) (
    sCons (sIf (mB (mBin gNe (mCall 3 m__law_asked (mCons (mC (.int 1)) (mCons (mBin gIx (mVar 7) (mC (.int 1))) (mCons (mC (.int 0)) (mNil))))) (mTup (mCons (mC (.str "told")) (mCons (mBlt gTuple (mCons (mFrz (mLc [2] (mRng1 (mCons (mVar 0) (mNil))) (gsName 2) (mYes) (mTup (mCons (mBin gIx (mVar 6) (mVar 2)) (mCons (mVar 2) (mCons (mBin gAdd (mVar 2) (mC (.int 1))) (mNil))))))) (mNil))) (mNil)))))) (
      sCons (sRet (mC (.bl false))) (sNil)) (sNil)) (sNil))))
def e__law_turning_right : W → RS := 
  sCons (sSet 1 (mBlt gTuple (mCons (mFrz (mLc [2] (mRng1 (mCons (mVar 0) (mNil))) (gsName 2) (mYes) (mBin gMod (mBlt gInt (mCons (mVar 2) (mNil))) (mC (.int 2))))) (mNil)))) (
  sCons (sSet 3 (mBlt gTuple (mCons (mFrz (mLc [2] (mRng1 (mCons (mVar 0) (mNil))) (gsName 2) (mYes) (mBin gSub (mC (.int 1)) (mBin gMod (mBlt gInt (mCons (mVar 2) (mNil))) (mC (.int 2)))))) (mNil)))) (
  sCons (sFor (mItems (mTup (mCons (mTup (mCons (mC (.int 4)) (mCons (mC (.int 1)) (mCons (mVar 3) (mNil))))) (mCons (mTup (mCons (mC (.int 3)) (mCons (mC (.int 1)) (mCons (mVar 1) (mNil))))) (mCons (mTup (mCons (mC (.int 4)) (mCons (mC (.int 0)) (mCons (mVar 1) (mNil))))) (mNil)))))) (g__law_turning_right_0) (b__law_turning_right_0)) (
  sCons (sRet (mC (.bl true))) (sNil))))
def m__law_turning_right : List D → SS → RF := fnM 8 e__law_turning_right
def g__law_is_refused_0 : D → W → Option W := gsName 1
def b__law_is_refused_0 : W → RS := 
    sCons (sIf (mB (mBin gNe (mCall 3 m__law_asked (mCons (mVar 1) (mCons (mVar 0) (mCons (mC (.int 0)) (mNil))))) (mTup (mCons (mC (.str "refused")) (mCons (mC (.str "deal")) (mNil)))))) (
      sCons (sRet (mC (.bl false))) (sNil)) (sNil)) (sNil)
def e__law_is_refused : W → RS := 
  sCons (sIf (mB (mBin gIsNot (mCall 1 m_is_deal (mCons (mVar 0) (mNil))) (mC (.bl false)))) (
    sCons (sRet (mC (.bl false))) (sNil)) (sNil)) (
  sCons (sFor (mRng1 (mCons (mC (.int 3)) (mNil))) (g__law_is_refused_0) (b__law_is_refused_0)) (
  sCons (sRet (mC (.bl true))) (sNil)))
def m__law_is_refused : List D → SS → RF := fnM 2 e__law_is_refused
def g__law_refusals_right_0 : D → W → Option W := gsName 8
def b__law_refusals_right_0 : W → RS := 
    sCons (sIf (mNotT (mTru (mCall 1 m__law_is_refused (mCons (mVar 8) (mNil))))) (
      sCons (sRet (mC (.bl false))) (sNil)) (sNil)) (sNil)
def g__law_refusals_right_1 : D → W → Option W := gsName 8
def b__law_refusals_right_1 : W → RS := 
    sCons (sIf (mNotT (mTru (mCall 1 m__law_deal_right (mCons (mVar 8) (mNil))))) (
      sCons (sRet (mC (.bl false))) (sNil)) (sNil)) (sNil)
def g__law_refusals_right_2 : D → W → Option W := gsName 10
def b__law_refusals_right_2 : W → RS := 
    sCons (sIf (mOrT (mB (mBin gNe (mCall 3 m__law_asked (mCons (mC (.int 3)) (mCons (mVar 10) (mCons (mC (.int 0)) (mNil))))) (mTup (mCons (mC (.str "refused")) (mCons (mC (.str "deal")) (mNil)))))) (mB (mBin gNe (mCall 3 m__law_asked (mCons (mC (.int 4)) (mCons (mVar 10) (mCons (mC (.int 1)) (mNil))))) (mTup (mCons (mC (.str "refused")) (mCons (mC (.str "deal")) (mNil))))))) (
      sCons (sRet (mC (.bl false))) (sNil)) (sNil)) (sNil)
def g__law_refusals_right_3 : D → W → Option W := gsName 11
def b__law_refusals_right_3 : W → RS := 
    sCons (sIf (mB (mBin gNe (mCall 3 m__law_asked (mCons (mC (.int 4)) (mCons (mBlt gLen (mCons (mVar 1) (mNil))) (mCons (mVar 11) (mNil))))) (mTup (mCons (mC (.str "refused")) (mCons (mC (.str "deal")) (mNil)))))) (
      sCons (sRet (mC (.bl false))) (sNil)) (sNil)) (sNil)
def e__law_refusals_right : W → RS := 
  sCons (sSet 2 (mCall 2 m__law_pick (mCons (mVar 0) (mCons (mBin gAdd (mBlt gLen (mCons (mVar 1) (mNil))) (mC (.int 1))) (mNil))))) (
  sCons (sSetF 3 (mLst (mCons (mC (.int 4)) (mCons (mBin gSub (mC (.int 0)) (mC (.int 1))) (mCons (mC (.int 1000000)) (mCons (mC .non) (mCons (mC (.str "0")) (mCons (mTup (mCons (mC (.int 0)) (mNil))) (mNil))))))))) (
  sCons (sSet 4 (mCall 2 m__law_pick (mCons (mVar 0) (mCons (mC (.int 6)) (mNil))))) (
  sCons (sSet 5 (mBlt gTuple (mCons (mFrz (mLc [6] (mRng1 (mCons (mC (.int 241)) (mNil))) (gsName 6) (mYes) (mIfE (mB (mBin gGt (mBlt gLen (mCons (mVar 1) (mNil))) (mC (.int 0)))) (mBin gIx (mVar 1) (mBin gMod (mBlt gInt (mCons (mVar 6) (mNil))) (mBlt gLen (mCons (mVar 1) (mNil))))) (mC (.int 3))))) (mNil)))) (
  sCons (sSetF 7 (mLst (mCons (mBin gAdd (mBin gAdd (mSlT (mVar 1) (mNoP) (mP (mVar 2))) (mTup (mCons (mIxO 3 (mVar 4)) (mNil)))) (mSlT (mVar 1) (mP (mBin gAdd (mVar 2) (mC (.int 1)))) (mNoP))) (mCons (mVar 5) (mCons (mBin gAdd (mBin gAdd (mSlT (mVar 1) (mNoP) (mP (mVar 2))) (mTup (mCons (mIxO 3 (mBin gSub (mVar 4) (mC (.int 1)))) (mNil)))) (mSlT (mVar 1) (mP (mBin gAdd (mVar 2) (mC (.int 1)))) (mNoP))) (mNil)))))) (
  sCons (sFor (mItems (mFrz (mCat (mVar 7) (mFrz (mLst (mCons (mC .non) (mCons (mC (.str "01")) (mCons (mBlt gLen (mCons (mVar 1) (mNil))) (mNil))))))))) (g__law_refusals_right_0) (b__law_refusals_right_0)) (
  sCons (sSetF 9 (mLst (mCons (mSlT (mBin gAdd (mBin gAdd (mSlT (mVar 1) (mNoP) (mP (mVar 2))) (mTup (mCons (mC (.int 3)) (mNil)))) (mSlT (mVar 1) (mP (mBin gAdd (mVar 2) (mC (.int 1)))) (mNoP))) (mNoP) (mP (mC (.int 240)))) (mCons (mSlT (mBin gAdd (mBin gAdd (mSlT (mVar 1) (mNoP) (mP (mVar 2))) (mTup (mCons (mC (.int 0)) (mNil)))) (mSlT (mVar 1) (mP (mBin gAdd (mVar 2) (mC (.int 1)))) (mNoP))) (mNoP) (mP (mC (.int 240)))) (mCons (mSlT (mVar 5) (mNoP) (mP (mC (.int 240)))) (mNil)))))) (
  sCons (sFor (mItems (mVar 9)) (g__law_refusals_right_1) (b__law_refusals_right_1)) (
  sCons (sFor (mItems (mTup (mCons (mBin gSub (mC (.int 0)) (mC (.int 1))) (mCons (mC (.int 241)) (mCons (mC (.int 1000000)) (mCons (mC .non) (mCons (mC (.str "2")) (mCons (mTup (mCons (mC (.int 2)) (mNil))) (mNil))))))))) (g__law_refusals_right_2) (b__law_refusals_right_2)) (
  sCons (sFor (mItems (mTup (mCons (mC (.int 2)) (mCons (mBin gSub (mC (.int 0)) (mC (.int 1))) (mCons (mC (.int 3)) (mCons (mC .non) (mNil))))))) (g__law_refusals_right_3) (b__law_refusals_right_3)) (
  sCons (sRet (mC (.bl true))) (sNil)))))))))))
def m__law_refusals_right : List D → SS → RF := fnM 12 e__law_refusals_right
def g_law_0 : D → W → Option W := gsName 4
def b_law_0 : W → RS := 
    sCons (sIf (mNotT (mTru (mCall 1 m__law_deal_right (mCons (mVar 4) (mNil))))) (
      sCons (sRet (mC (.bl false))) (sNil)) (sNil)) (sNil)
def g_law_1 : D → W → Option W := gsName 6
def b_law_1 : W → RS := 
    sCons (sIf (mNotT (mTru (mCall 1 m__law_turning_right (mCons (mVar 6) (mNil))))) (
      sCons (sRet (mC (.bl false))) (sNil)) (sNil)) (sNil)
def e_law : W → RS := 
  sCons (sSet 2 (mCall 1 m__law_wide_deal (mCons (mVar 1) (mNil)))) (
  sCons (sSet 3 (mCall 1 m__law_wide_deal (mCons (mVar 1) (mNil)))) (
  sCons (sFor (mItems (mTup (mCons (mVar 2) (mCons (mVar 3) (mCons (mVar 2) (mNil)))))) (g_law_0) (b_law_0)) (
  sCons (sSet 5 (mCall 2 m__law_pick (mCons (mVar 1) (mCons (mC (.int 241)) (mNil))))) (
  sCons (sFor (mItems (mTup (mCons (mVar 5) (mCons (mBin gIx (mFrz (mLst (mCons (mC (.int 0)) (mCons (mC (.int 1)) (mCons (mC (.int 2)) (mCons (mC (.int 3)) (mCons (mC (.int 239)) (mCons (mC (.int 240)) (mNil))))))))) (mBin gMod (mBlt gInt (mCons (mVar 5) (mNil))) (mC (.int 6)))) (mNil))))) (g_law_1) (b_law_1)) (
  sCons (sIf (mNotT (mTru (mCall 2 m__law_refusals_right (mCons (mVar 1) (mCons (mVar 3) (mNil)))))) (
    sCons (sRet (mC (.bl false))) (sNil)) (sNil)) (
  sCons (sRet (mCall 1 m__law_deal_right (mCons (mVar 2) (mNil)))) (sNil)))))))
def envL : TD.Env := none :: some (.val .src) :: List.replicate 5 none
def LawTrue : Prop := ∀ cells : List Int, cells ≠ [] → (∀ c ∈ cells, (0 : Int) ≤ c) → ∃ w', e_law ⟨envL, ⟨cells, 0, 0⟩⟩ = .ret (.bl true) w'

end K31

set_option Elab.async false
set_option linter.all false
set_option maxRecDepth 100000
set_option maxHeartbeats 4000000
namespace K31
open PySem PySem.Spec PyProof.Rows L2 TD TP
theorem pick_eq : m__law_pick = pickM := rfl
def isCnt (d : D) (a b : Int) : Bool := match d with
  | .int i => decide (a ≤ i) && decide (i ≤ b)
  | _ => false
theorem is_count_eq (d : D) (hd : d ≠ .src) (a b : Int) (ss : SS) : m_is_count [d, .int a, .int b] ss = .ok (.bl (isCnt d a b)) ss := by
  cases d with
  | src => exact absurd rfl hd
  | int i =>
    simp [m_is_count, e_is_count, isCnt]
    by_cases h : a ≤ i <;> simp [h]
  | _ => simp [m_is_count, e_is_count, isCnt]
def isDeal : D → Bool
  | .tup ds => decide (ds.length ≤ 240) && ds.all fun d => isCnt d 0 3
  | _ => false
def NoS (d : D) : Prop := match d with
  | .src => False
  | .tup ds => ∀ e ∈ ds, e ≠ .src
  | _ => True
theorem NoS.ne {d : D} (h : NoS d) : d ≠ .src := by rintro rfl; exact h
theorem is_deal_eq (d : D) (h : NoS d) (ss : SS) : m_is_deal [d] ss = .ok (.bl (isDeal d)) ss := by
  cases d with
  | src => exact h.elim
  | tup ds =>
    have h : ∀ e ∈ ds, e ≠ .src := h
    by_cases hl : ds.length ≤ 240
    · have hl' : ¬ (240 : Int) < ds.length := by omega
      have q := lc_pure (vs := [1]) (set := gsName 1) (mt := mNotT (mTru (mCall 3 m_is_count (mCons (mVar 1) (mCons (mC (.int 0)) (mCons (mBin gSub (mC (.int 4)) (mC (.int 1))) (mNil))))))) (me := mVar 1)
        (fun e => if isCnt e 0 3 = true then none else some e) ⟨[some (.val (.tup ds)), none], ss⟩ ds [] (fun e he => by
          simp [lcStep, is_count_eq e (h e he)]
          cases isCnt e 0 3 <;> simp) (by simp; omega)
      have e : (ds.filterMap fun e => if isCnt e 0 3 = true then none else some e) = ds.filter fun d => !isCnt d 0 3 := by
        rw [← List.filterMap_eq_filter]
        congr 1
        funext e
        cases c : isCnt e 0 3 <;> simp [Option.guard, c]
      rw [e] at q
      have e2 : decide ((ds.filter fun d => !isCnt d 0 3).length = 0) = ds.all fun d => isCnt d 0 3 := by
        rw [Bool.eq_iff_iff]
        simp
      simp [m_is_deal, e_is_deal, hl', q, isDeal, hl]
      rw [← e2]
      cases h0 : (ds.filter fun d => !isCnt d 0 3) with
      | nil => simp [h0]
      | cons a r =>
        simp [h0]
        omega
    · have hl' : (240 : Int) < ds.length := by omega
      have hl2 : ¬ ds.length ≤ 240 := hl
      simp [m_is_deal, e_is_deal, hl', isDeal, hl2]
  | _ => simp [m_is_deal, e_is_deal, isDeal]
def bad : Exn := ⟨"BadValue", "what", .str "deal"⟩
theorem must_yes (d : D) (h : NoS d) (hd : isDeal d = true) (ss : SS) : m_must_be_deal [d] ss = .ok .non ss := by
  simp [m_must_be_deal, e_must_be_deal, is_deal_eq d h, hd]
theorem must_no (d : D) (h : NoS d) (hd : isDeal d = false) (ss : SS) : m_must_be_deal [d] ss = .exc bad ss := by
  simp [m_must_be_deal, e_must_be_deal, is_deal_eq d h, hd, bad]
structure Dl (l : List Int) : Prop where
  len : l.length ≤ 240
  rng : ∀ h ∈ l, 0 ≤ h ∧ h ≤ 3
abbrev dI (l : List Int) : D := .tup (l.map D.int)
theorem nos_dI (l : List Int) : NoS (dI l) := fun e he => by
  obtain ⟨i, _, rfl⟩ := List.mem_map.mp he
  simp
theorem Dl.deal {l : List Int} (h : Dl l) : isDeal (dI l) = true := by
  have h1 := h.len
  simp [isDeal, h1]
  intro i hi
  have := h.rng i hi
  simp [isCnt, this]
/-! ### hands -/
def hnd (l : List Int) : Int := l.foldl (fun m h => if h + 1 > m then h + 1 else m) 0
theorem hnd_go : ∀ (l : List Int) (a : Int), l.foldl max a + 1 = l.foldl (fun m h => if h + 1 > m then h + 1 else m) (a + 1)
  | [], a => rfl
  | h :: l, a => by
    rw [List.foldl_cons, List.foldl_cons, hnd_go l]
    congr 1
    rw [Int.max_def]
    split <;> split <;> omega
theorem maxL_app (l : List Int) (h : ∀ x ∈ l, 0 ≤ x) : maxL (l ++ [-1]) + 1 = hnd l := by
  have e : maxL (l ++ [-1]) = l.foldl max (-1) := by
    refine (maxL_eq ?_ ?_).symm
    · rcases foldl_max_mem l (-1) with q | q
      · rw [q]; simp
      · exact List.mem_append_left _ q
    · intro y hy
      rcases List.mem_append.mp hy with hy | hy
      · exact (foldl_max_ge l (-1)).2 y hy
      · have : y = -1 := by simpa using hy
        subst this
        exact (foldl_max_ge l (-1)).1
  rw [e, hnd_go]
  rfl
theorem ints_app (l : List Int) : ints? (l.map D.int ++ [.int (-1)]) = some (l ++ [-1]) := by
  have := TD.ints_map (l ++ [-1])
  rw [List.map_append] at this
  exact this
theorem gMax_app (l : List Int) : gMax [.lst (l.map D.int ++ [.int (-1)])] = some (.int (maxL (l ++ [-1]))) := by
  show (match ints? (l.map D.int ++ [.int (-1)]) with | some (n :: r) => some (D.int (maxL (n :: r))) | _ => none) = _
  rw [ints_app]
  cases l <;> rfl
theorem hands_eq {l : List Int} (h : Dl l) (ss : SS) : m_hands_of [dI l] ss = .ok (.int (hnd l)) ss := by
  have h1 := h.len
  have h2 : l.length + 1 ≤ 1000000 := by omega
  have m := must_yes (dI l) (nos_dI l) h.deal ss
  simp [m_hands_of, e_hands_of, m, h2, gMax_app, maxL_app l fun x hx => (h.rng x hx).1]
theorem hands_no {d : D} (h : NoS d) (hd : isDeal d = false) (ss : SS) : m_hands_of [d] ss = .exc bad ss := by
  simp [m_hands_of, e_hands_of, must_no d h hd]
theorem law_hands_go (V : Option TD.Slot) (ss : SS) : ∀ (l : List Int) (m : Int) (x : Option TD.Slot), ∃ y, sForGo g__law_hands_0 b__law_hands_0 (l.map D.int) ⟨[V, some (.val (.int m)), x], ss⟩ = .nx ⟨[V, some (.val (.int (l.foldl (fun m h => if h + 1 > m then h + 1 else m) m))), y], ss⟩
  | [], m, x => ⟨x, by simp⟩
  | h :: l, m, x => by
    rw [List.map_cons, sForGo_cons, List.foldl_cons]
    obtain ⟨y, e⟩ := law_hands_go V ss l (if h + 1 > m then h + 1 else m) (some (.val (.int h)))
    refine ⟨y, ?_⟩
    rw [← e]
    generalize sForGo g__law_hands_0 b__law_hands_0 (l.map D.int) = kk
    simp [g__law_hands_0, b__law_hands_0]
theorem law_hands_eq (l : List Int) (ss : SS) : m__law_hands [dI l] ss = .ok (.int (hnd l)) ss := by
  obtain ⟨y, e⟩ := law_hands_go (some (.val (dI l))) ss l 0 none
  simp [m__law_hands, e__law_hands, e, hnd]
end K31

set_option Elab.async false
set_option linter.all false
set_option maxRecDepth 100000
set_option maxHeartbeats 4000000
namespace K43
open PySem PySem.Spec PyProof.Rows L2 TD
def hx : HxT := [(("BadValue", "TooMany"), false), (("TooMany", "TooMany"), true), (("BadValue", "TalkError"), true), (("TooMany", "TalkError"), true), (("BadValue", "BadValue"), true), (("TooMany", "BadValue"), false)]
@[simp] theorem hx_BadValue_TooMany : xT hx "TooMany" "BadValue" = some false := by decide +kernel
@[simp] theorem hx_TooMany_TooMany : xT hx "TooMany" "TooMany" = some true := by decide +kernel
@[simp] theorem hx_BadValue_TalkError : xT hx "TalkError" "BadValue" = some true := by decide +kernel
@[simp] theorem hx_TooMany_TalkError : xT hx "TalkError" "TooMany" = some true := by decide +kernel
@[simp] theorem hx_BadValue_BadValue : xT hx "BadValue" "BadValue" = some true := by decide +kernel
@[simp] theorem hx_TooMany_BadValue : xT hx "BadValue" "TooMany" = some false := by decide +kernel
def e_is_count : W → RS := 
  sCons (sRet (mAndV (mIsi "int" (mVar 0)) (mAndV (mNotV (mIsi "bool" (mVar 0))) (mChain gLe gLe (mVar 1) (mVar 0) (mVar 2))))) (sNil)
def m_is_count : List D → SS → RF := fnM 3 e_is_count
def t_width_of_0 : W → R Bool := mTru (mBin gShr (mVar 0) (mVar 1))
def b_width_of_0 : W → RS := 
    sCons (sAug 1 gAddI (mC (.int 1))) (sNil)
def e_width_of : W → RS := 
  sCons (sSet 1 (mC (.int 0))) (
  sCons (sWhile (t_width_of_0) (b_width_of_0)) (
  sCons (sRet (mVar 1)) (sNil)))
def m_width_of : List D → SS → RF := fnM 2 e_width_of
def e_log_up : W → RS := 
  sCons (sRet (mCall 1 m_width_of (mCons (mBin gSub (mVar 0) (mC (.int 1))) (mNil)))) (sNil)
def m_log_up : List D → SS → RF := fnM 1 e_log_up
def e_is_prime : W → RS := 
  sCons (sIf (mNotT (mTru (mCall 3 m_is_count (mCons (mVar 0) (mCons (mC (.int 2)) (mCons (mC (.int 64)) (mNil))))))) (
    sCons (sRet (mC (.bl false))) (sNil)) (sNil)) (
  sCons (sRet (mBin gEq (mBlt gLen (mCons (mFrz (mLc [1] (mRng2 (mCons (mC (.int 2)) (mCons (mVar 0) (mNil)))) (gsName 1) (mB (mBin gEq (mBin gSub (mVar 0) (mBin gMul (mVar 1) (mBin gDiv (mVar 0) (mVar 1)))) (mC (.int 0)))) (mVar 1))) (mNil))) (mC (.int 0)))) (sNil))
def m_is_prime : List D → SS → RF := fnM 2 e_is_prime
def e_must_be_puzzle : W → RS := 
  sCons (sIf (mOrT (mB (mBin gNotInX (mVar 0) (mC (.tup [(.str "greater"), (.str "meet"), (.str "inner")])))) (mNotT (mTru (mCall 3 m_is_count (mCons (mVar 1) (mCons (mC (.int 1)) (mCons (mC (.int 1000)) (mNil)))))))) (
    sCons (sRaise "BadValue" "what" (mCons (mC (.str "puzzle")) (mNil))) (sNil)) (sNil)) (
  sCons (sIf (mAndT (mB (mBin gEq (mVar 0) (mC (.str "inner")))) (mNotT (mTru (mCall 1 m_is_prime (mCons (mVar 2) (mNil)))))) (
    sCons (sRaise "BadValue" "what" (mCons (mC (.str "puzzle")) (mNil))) (sNil)) (sNil)) (
  sCons (sIf (mAndT (mB (mBin gNe (mVar 0) (mC (.str "inner")))) (mB (mBin gNe (mVar 2) (mC (.int 0))))) (
    sCons (sRaise "BadValue" "what" (mCons (mC (.str "puzzle")) (mNil))) (sNil)) (sNil)) (sNil)))
def m_must_be_puzzle : List D → SS → RF := fnM 3 e_must_be_puzzle
def e_is_held : W → RS := 
  sCons (sIf (mB (mBin gEq (mVar 0) (mC (.str "greater")))) (
    sCons (sRet (mCall 3 m_is_count (mCons (mVar 3) (mCons (mC (.int 0)) (mCons (mBin gSub (mVar 1) (mC (.int 1))) (mNil)))))) (sNil)) (sNil)) (
  sCons (sIf (mOrT (mNotT (mTru (mIsi "tuple" (mVar 3)))) (mB (mBin gNe (mBlt gLen (mCons (mVar 3) (mNil))) (mVar 1)))) (
    sCons (sRet (mC (.bl false))) (sNil)) (sNil)) (
  sCons (sSet 4 (mIfE (mB (mBin gEq (mVar 0) (mC (.str "inner")))) (mBin gSub (mVar 2) (mC (.int 1))) (mC (.int 1)))) (
  sCons (sRet (mBin gEq (mBlt gLen (mCons (mFrz (mLc [5] (mItems (mVar 3)) (gsName 5) (mNotT (mTru (mCall 3 m_is_count (mCons (mVar 5) (mCons (mC (.int 0)) (mCons (mVar 4) (mNil))))))) (mVar 5))) (mNil))) (mC (.int 0)))) (sNil))))
def m_is_held : List D → SS → RF := fnM 6 e_is_held
def e_value_of : W → RS := 
  sCons (sIf (mB (mBin gEq (mVar 0) (mC (.str "greater")))) (
    sCons (sRet (mIfE (mB (mBin gLe (mVar 2) (mVar 3))) (mC (.int 1)) (mC (.int 0)))) (sNil)) (sNil)) (
  sCons (sSet 4 (mBlt gSum (mCons (mFrz (mLc [5, 6] (mZipA (mVar 2) (mVar 3)) (gsTup 2 (gsCons (gsName 5) (gsCons (gsName 6) (gsNil)))) (mYes) (mBin gMul (mVar 5) (mVar 6)))) (mNil)))) (
  sCons (sIf (mB (mBin gEq (mVar 0) (mC (.str "meet")))) (
    sCons (sRet (mVar 4)) (sNil)) (sNil)) (
  sCons (sRet (mBin gSub (mVar 4) (mBin gMul (mVar 1) (mBin gDiv (mVar 4) (mVar 1))))) (sNil))))
def m_value_of : List D → SS → RF := fnM 7 e_value_of
def g_all_held_0 : D → W → Option W := gsName 5
def b_all_held_0 : W → RS := 
    sCons (sIf (mScT (mB (mBin gGt (mBin gMul (mLenO 4) (mVar 3)) (mC (.int 256))))) (
      sCons (sRaise "TooMany" "what" (mCons (mC (.str "held")) (mNil))) (sNil)) (sNil)) (
    sCons (sSetF 4 (mLc2 [6, 7] [7] (mItems (mVar 4)) (gsName 6) (mYes) (mRng1 (mCons (mVar 3) (mNil))) (gsName 7) (mYes) (mBin gAdd (mVar 6) (mTup (mCons (mVar 7) (mNil)))))) (sNil))
def e_all_held : W → RS := 
  sCons (sExpr (mCall 3 m_must_be_puzzle (mCons (mVar 0) (mCons (mVar 1) (mCons (mVar 2) (mNil)))))) (
  sCons (sIf (mB (mBin gEq (mVar 0) (mC (.str "greater")))) (
    sCons (sIf (mB (mBin gGt (mVar 1) (mC (.int 256)))) (
      sCons (sRaise "TooMany" "what" (mCons (mC (.str "held")) (mNil))) (sNil)) (sNil)) (
    sCons (sRet (mTupRg (mVar 1))) (sNil))) (sNil)) (
  sCons (sSet 3 (mIfE (mB (mBin gEq (mVar 0) (mC (.str "inner")))) (mVar 2) (mC (.int 2)))) (
  sCons (sSetF 4 (mLst (mCons (mTup (mNil)) (mNil)))) (
  sCons (sFor (mRng1 (mCons (mVar 1) (mNil))) (g_all_held_0) (b_all_held_0)) (
  sCons (sRet (mTupO 4)) (sNil))))))
def m_all_held : List D → SS → RF := fnM 8 e_all_held
def g_puzzle_table_0 : D → W → Option W := gsName 7
def b_puzzle_table_0 : W → RS := 
      sCons (sSet 8 (mCall 4 m_value_of (mCons (mVar 0) (mCons (mVar 2) (mCons (mVar 5) (mCons (mVar 7) (mNil))))))) (
      sCons (sApp 6 (mIfE (mAndT (mB (mBin gEq (mVar 0) (mC (.str "meet")))) (mB (mBin gGt (mVar 8) (mC (.int 1))))) (mC .non) (mVar 8))) (sNil))
def g_puzzle_table_1 : D → W → Option W := gsName 5
def b_puzzle_table_1 : W → RS := 
    sCons (sSetF 6 (mLst (mNil))) (
    sCons (sFor (mItems (mVar 3)) (g_puzzle_table_0) (b_puzzle_table_0)) (
    sCons (sApp 4 (mSc (mTupO 6))) (sNil)))
def e_puzzle_table : W → RS := 
  sCons (sSet 3 (mCall 3 m_all_held (mCons (mVar 0) (mCons (mVar 1) (mCons (mVar 2) (mNil)))))) (
  sCons (sSetF 4 (mLst (mNil))) (
  sCons (sFor (mItems (mVar 3)) (g_puzzle_table_1) (b_puzzle_table_1)) (
  sCons (sRet (mTupO 4)) (sNil))))
def m_puzzle_table : List D → SS → RF := fnM 9 e_puzzle_table
def g_lines_of_0 : D → W → Option W := gsName 4
def b_lines_of_0 : W → RS := 
    sCons (sAug 2 gAddI (mVar 3)) (
    sCons (sSet 3 (mBin gMul (mVar 3) (mVar 1))) (sNil))
def e_lines_of : W → RS := 
  sCons (sSet 2 (mC (.int 0))) (
  sCons (sSet 3 (mC (.int 1))) (
  sCons (sFor (mRng1 (mCons (mVar 0) (mNil))) (g_lines_of_0) (b_lines_of_0)) (
  sCons (sRet (mVar 2)) (sNil))))
def m_lines_of : List D → SS → RF := fnM 5 e_lines_of
def g_fewest_leaves_0 : D → W → Option W := gsName 5
def b_fewest_leaves_0 : W → RS := 
      sCons (sPar 3 4 (mCons (mBin gMul (mC (.int 3)) (mVar 3)) (mCons (mBin gMul (mC (.int 2)) (mVar 4)) (mNil)))) (sNil)
def e_fewest_leaves : W → RS := 
  sCons (sExpr (mCall 3 m_must_be_puzzle (mCons (mVar 0) (mCons (mVar 1) (mCons (mVar 2) (mNil)))))) (
  sCons (sIf (mB (mBin gEq (mVar 0) (mC (.str "greater")))) (
    sCons (sRet (mBin gSub (mBin gMul (mC (.int 2)) (mVar 1)) (mC (.int 1)))) (sNil)) (sNil)) (
  sCons (sIf (mB (mBin gEq (mVar 0) (mC (.str "meet")))) (
    sCons (sAsg (gsTup 2 (gsCons (gsName 3) (gsCons (gsName 4) (gsNil)))) (mTup (mCons (mC (.int 1)) (mCons (mC (.int 1)) (mNil))))) (
    sCons (sFor (mRng1 (mCons (mVar 1) (mNil))) (g_fewest_leaves_0) (b_fewest_leaves_0)) (
    sCons (sRet (mBin gSub (mC (.int 1)) (mBin gDiv (mUn gNeg (mVar 3)) (mVar 4)))) (sNil)))) (sNil)) (
  sCons (sRet (mBin gSub (mBin gMul (mC (.int 2)) (mCall 2 m_lines_of (mCons (mVar 1) (mCons (mVar 2) (mNil))))) (mC (.int 1)))) (sNil))))
def m_fewest_leaves : List D → SS → RF := fnM 6 e_fewest_leaves
def e_fewest_bits : W → RS := 
  sCons (sRet (mCall 1 m_log_up (mCons (mCall 3 m_fewest_leaves (mCons (mVar 0) (mCons (mVar 1) (mCons (mVar 2) (mNil))))) (mNil)))) (sNil)
def m_fewest_bits : List D → SS → RF := fnM 3 e_fewest_bits
def e_meet_weights : W → RS := 
  sCons (sSet 1 (mCall 3 m_all_held (mCons (mC (.str "meet")) (mCons (mVar 0) (mCons (mC (.int 0)) (mNil)))))) (
  sCons (sRet (mBlt gTuple (mCons (mFrz (mLc2 [2, 3] [3] (mItems (mVar 1)) (gsName 2) (mYes) (mItems (mVar 1)) (gsName 3) (mB (mBin gEq (mCall 4 m_value_of (mCons (mC (.str "meet")) (mCons (mC (.int 0)) (mCons (mVar 2) (mCons (mVar 3) (mNil)))))) (mC (.int 0)))) (mTup (mCons (mVar 2) (mCons (mVar 3) (mNil)))))) (mNil)))) (sNil))
def m_meet_weights : List D → SS → RF := fnM 4 e_meet_weights
def g_lines_held_0 : D → W → Option W := gsName 3
def b_lines_held_0 : W → RS := 
    sCons (sSetF 4 (mLc [5] (mItems (mVar 3)) (gsName 5) (mB (mBin gNe (mVar 5) (mC (.int 0)))) (mVar 5))) (
    sCons (sIf (mScT (mB (mBin gEq (mFrz (mSlL (mVar 4) (mNoP) (mP (mC (.int 1))))) (mFrz (mLst (mCons (mC (.int 1)) (mNil))))))) (
      sCons (sApp 2 (mVar 3)) (sNil)) (sNil)) (sNil))
def e_lines_held : W → RS := 
  sCons (sSetF 2 (mLst (mNil))) (
  sCons (sFor (mItems (mCall 3 m_all_held (mCons (mC (.str "inner")) (mCons (mVar 0) (mCons (mVar 1) (mNil)))))) (g_lines_held_0) (b_lines_held_0)) (
  sCons (sRet (mTupO 2)) (sNil)))
def m_lines_held : List D → SS → RF := fnM 6 e_lines_held
def e__law_pick : W → RS := 
  sCons (sIf (mB (mBin gGt (mSrc 0 1) (mC (.int 0)))) (
    sCons (sSet 2 (mSrc 0 1)) (
    sCons (sSrc 0 1 (mBin gDiv (mVar 2) (mVar 1))) (
    sCons (sRet (mBin gMod (mBlt gInt (mCons (mVar 2) (mNil))) (mVar 1))) (sNil)))) (sNil)) (
  sCons (sSet 3 (mSrc 0 2)) (
  sCons (sSrc 0 2 (mBin gAdd (mVar 3) (mC (.int 1)))) (
  sCons (sSet 4 (mSrc 0 0)) (
  sCons (sSet 5 (mBin gIx (mVar 4) (mBin gMod (mBlt gInt (mCons (mVar 3) (mNil))) (mBlt gLen (mCons (mVar 4) (mNil)))))) (
  sCons (sIf (mAndT (mB (mBin gGe (mVar 5) (mBin gPow (mC (.int 10)) (mC (.int 18))))) (mB (mBin gLt (mVar 3) (mBlt gLen (mCons (mVar 4) (mNil)))))) (
    sCons (sSrc 0 1 (mBin gDiv (mVar 5) (mVar 1))) (
    sCons (sRet (mBin gMod (mBlt gInt (mCons (mVar 5) (mNil))) (mVar 1))) (sNil))) (sNil)) (
  sCons (sSet 6 (mBin gMod (mBlt gInt (mCons (mBin gAdd (mBin gAdd (mBin gMul (mBin gMod (mBlt gInt (mCons (mVar 5) (mNil))) (mC (.int 2147483647))) (mC (.int 48271))) (mBin gMul (mVar 3) (mC (.int 69621)))) (mC (.int 40692))) (mNil))) (mC (.int 2147483399)))) (
  sCons (sSet 7 (mBin gMod (mBlt gInt (mCons (mBin gAdd (mBin gAdd (mBin gMul (mVar 6) (mBin gAdd (mBin gMod (mBlt gInt (mCons (mVar 6) (mNil))) (mC (.int 65537))) (mC (.int 3)))) (mBin gMul (mVar 3) (mC (.int 7919)))) (mC (.int 17))) (mNil))) (mC (.int 2147483647)))) (
  sCons (sRet (mBin gMod (mBlt gInt (mCons (mBin gDiv (mVar 7) (mC (.int 5))) (mNil))) (mVar 1))) (sNil)))))))))
def m__law_pick : List D → SS → RF := fnM 8 e__law_pick
def e__law_is_int : W → RS := 
  sCons (sRet (mAndV (mIsi "int" (mVar 0)) (mNotV (mIsi "bool" (mVar 0))))) (sNil)
def m__law_is_int : List D → SS → RF := fnM 1 e__law_is_int
def e__law_numbers : W → RS := 
  sCons (sIf (mNotT (mTru (mIsi "tuple" (mVar 0)))) (
    sCons (sRet (mC (.bl false))) (sNil)) (sNil)) (
  sCons (sRet (mBin gEq (mBlt gLen (mCons (mFrz (mLc [1] (mItems (mVar 0)) (gsName 1) (mNotT (mTru (mCall 1 m__law_is_int (mCons (mVar 1) (mNil))))) (mVar 1))) (mNil))) (mC (.int 0)))) (sNil))
def m__law_numbers : List D → SS → RF := fnM 2 e__law_numbers
def g__law_primes_0 : D → W → Option W := gsName 1
def b__law_primes_0 : W → RS := 
    sCons (sIf (mScT (mB (mBin gEq (mBlt gLen (mCons (mFrz (mLc [2] (mItems (mVar 0)) (gsName 2) (mB (mBin gEq (mBin gMod (mBlt gInt (mCons (mVar 1) (mNil))) (mVar 2)) (mC (.int 0)))) (mVar 2))) (mNil))) (mC (.int 0))))) (
      sCons (sApp 0 (mVar 1)) (sNil)) (sNil)) (sNil)
def e__law_primes : W → RS := 
  sCons (sSetF 0 (mLst (mNil))) (
  sCons (sFor (mRng2 (mCons (mC (.int 2)) (mCons (mC (.int 65)) (mNil)))) (g__law_primes_0) (b__law_primes_0)) (
  sCons (sRet (mVar 0)) (sNil)))
def m__law_primes : List D → SS → RF := fnM 3 e__law_primes
def t__law_size_0 : W → R Bool := mB (mBin gLe (mVar 7) (mIfE (mTru (mVar 2)) (mC (.int 256)) (mC (.int 64))))
def b__law_size_0 : W → RS := 
    sCons (sAug 6 gAddI (mC (.int 1))) (
    sCons (sSet 7 (mBin gMul (mVar 7) (mVar 5))) (sNil))
def e__law_size : W → RS := 
  sCons (sSet 2 (mBin gEq (mCall 2 m__law_pick (mCons (mVar 0) (mCons (mC (.int 24)) (mNil)))) (mC (.int 0)))) (
  sCons (sIf (mB (mBin gEq (mVar 1) (mC (.str "greater")))) (
    sCons (sRet (mTup (mCons (mBin gAdd (mC (.int 1)) (mCall 2 m__law_pick (mCons (mVar 0) (mCons (mIfE (mTru (mVar 2)) (mC (.int 256)) (mC (.int 12))) (mNil))))) (mCons (mC (.int 0)) (mNil))))) (sNil)) (sNil)) (
  sCons (sIf (mB (mBin gEq (mVar 1) (mC (.str "meet")))) (
    sCons (sRet (mTup (mCons (mBin gAdd (mC (.int 1)) (mCall 2 m__law_pick (mCons (mVar 0) (mCons (mIfE (mTru (mVar 2)) (mC (.int 8)) (mC (.int 4))) (mNil))))) (mCons (mC (.int 0)) (mNil))))) (sNil)) (sNil)) (
  sCons (sSet 3 (mCall0 m__law_primes)) (
  sCons (sSet 4 (mBin gGt (mCall 2 m__law_pick (mCons (mVar 0) (mCons (mC (.int 4)) (mNil)))) (mC (.int 0)))) (
  sCons (sSet 5 (mBin gIx (mVar 3) (mCall 2 m__law_pick (mCons (mVar 0) (mCons (mIfE (mTru (mVar 4)) (mC (.int 4)) (mBlt gLen (mCons (mVar 3) (mNil)))) (mNil)))))) (
  sCons (sSet 6 (mC (.int 0))) (
  sCons (sSet 7 (mVar 5)) (
  sCons (sWhile (t__law_size_0) (b__law_size_0)) (
  sCons (sRet (mTup (mCons (mBin gAdd (mC (.int 1)) (mCall 2 m__law_pick (mCons (mVar 0) (mCons (mVar 6) (mNil))))) (mCons (mVar 5) (mNil))))) (sNil))))))))))
def m__law_size : List D → SS → RF := fnM 8 e__law_size
def t__law_helds_0 : W → R Bool := mScT (mAndT (mB (mBin gGe (mVar 9) (mC (.int 0)))) (mB (mBin gEq (mIxO 5 (mVar 9)) (mVar 4))))
def b__law_helds_0 : W → RS := 
      sCons (sSetIx 5 (mVar 9) (mC (.int 0))) (
      sCons (sAug 9 gSub (mC (.int 1))) (sNil))
def g__law_helds_1 : D → W → Option W := gsName 8
def b__law_helds_1 : W → RS := 
    sCons (sSet 9 (mBin gSub (mVar 1) (mC (.int 1)))) (
    sCons (sWhile (t__law_helds_0) (b__law_helds_0)) (
    sCons (sIf (mB (mBin gLt (mVar 9) (mC (.int 0)))) (
      sCons (RS.brk) (sNil)) (sNil)) (
    sCons (sAugIx 5 (mVar 9) gAddI (mC (.int 1))) (
    sCons (sApp 7 (mSc (mTupO 5))) (sNil)))))
def e__law_helds : W → RS := 
  sCons (sIf (mB (mBin gEq (mVar 0) (mC (.str "greater")))) (
    sCons (sRet (mFrz (mLc [3] (mRng1 (mCons (mVar 1) (mNil))) (gsName 3) (mYes) (mVar 3)))) (sNil)) (sNil)) (
  sCons (sSet 4 (mIfE (mB (mBin gEq (mVar 0) (mC (.str "inner")))) (mBin gSub (mVar 2) (mC (.int 1))) (mC (.int 1)))) (
  sCons (sSetF 5 (mLc [6] (mRng1 (mCons (mVar 1) (mNil))) (gsName 6) (mYes) (mC (.int 0)))) (
  sCons (sSetF 7 (mLst (mCons (mTupO 5) (mNil)))) (
  sCons (sFor (mRng1 (mCons (mC (.int 256)) (mNil))) (g__law_helds_1) (b__law_helds_1)) (
  sCons (sRet (mVar 7)) (sNil))))))
def m__law_helds : List D → SS → RF := fnM 10 e__law_helds
def g__law_value_0 : D → W → Option W := gsName 5
def b__law_value_0 : W → RS := 
    sCons (sAug 4 gAddI (mBin gMul (mBin gIx (mVar 2) (mVar 5)) (mBin gIx (mVar 3) (mVar 5)))) (sNil)
def e__law_value : W → RS := 
  sCons (sIf (mB (mBin gEq (mVar 0) (mC (.str "greater")))) (
    sCons (sRet (mIfE (mB (mBin gLt (mVar 3) (mVar 2))) (mC (.int 0)) (mC (.int 1)))) (sNil)) (sNil)) (
  sCons (sSet 4 (mC (.int 0))) (
  sCons (sFor (mRng1 (mCons (mBlt gLen (mCons (mVar 2) (mNil))) (mNil))) (g__law_value_0) (b__law_value_0)) (
  sCons (sIf (mB (mBin gEq (mVar 0) (mC (.str "inner")))) (
    sCons (sSet 4 (mBin gMod (mBlt gInt (mCons (mVar 4) (mNil))) (mVar 1))) (sNil)) (sNil)) (
  sCons (sRet (mVar 4)) (sNil)))))
def m__law_value : List D → SS → RF := fnM 6 e__law_value
def e__law_can_hold : W → RS := 
  sCons (sIf (mB (mBin gEq (mVar 0) (mC (.str "greater")))) (
    sCons (sRet (mAndV (mCall 1 m__law_is_int (mCons (mVar 3) (mNil))) (mAndV (mBin gLe (mC (.int 0)) (mVar 3)) (mBin gLt (mVar 3) (mVar 1))))) (sNil)) (sNil)) (
  sCons (sIf (mOrT (mNotT (mTru (mCall 1 m__law_numbers (mCons (mVar 3) (mNil))))) (mB (mBin gNe (mBlt gLen (mCons (mVar 3) (mNil))) (mVar 1)))) (
    sCons (sRet (mC (.bl false))) (sNil)) (sNil)) (
  sCons (sSet 4 (mIfE (mB (mBin gEq (mVar 0) (mC (.str "inner")))) (mBin gSub (mVar 2) (mC (.int 1))) (mC (.int 1)))) (
  sCons (sRet (mBin gEq (mBlt gLen (mCons (mFrz (mLc [5] (mItems (mVar 3)) (gsName 5) (mOrT (mB (mBin gLt (mVar 5) (mC (.int 0)))) (mB (mBin gGt (mVar 5) (mVar 4)))) (mVar 5))) (mNil))) (mC (.int 0)))) (sNil))))
def m__law_can_hold : List D → SS → RF := fnM 6 e__law_can_hold
def e__law_changed : W → RS := 
  sCons (sIf (mB (mBin gEq (mVar 1) (mC (.str "greater")))) (
    sCons (sRet (mBin gIx (mFrz (mLst (mCons (mVar 2) (mCons (mBin gSub (mC (.int 0)) (mC (.int 1))) (mCons (mBin gSub (mVar 4) (mVar 2)) (mCons (mBin gAdd (mVar 4) (mVar 2)) (mCons (mTup (mCons (mVar 4) (mNil))) (mCons (mC .non) (mCons (mBlt gStrI (mCons (mVar 4) (mNil))) (mCons (mTup (mNil)) (mNil))))))))))) (mCall 2 m__law_pick (mCons (mVar 0) (mCons (mC (.int 8)) (mNil)))))) (sNil)) (sNil)) (
  sCons (sSet 5 (mIfE (mB (mBin gEq (mVar 1) (mC (.str "inner")))) (mVar 3) (mC (.int 2)))) (
  sCons (sSet 6 (mCall 2 m__law_pick (mCons (mVar 0) (mCons (mVar 2) (mNil))))) (
  sCons (sSet 7 (mCall 2 m__law_pick (mCons (mVar 0) (mCons (mC (.int 10)) (mNil))))) (
  sCons (sIf (mB (mBin gLt (mVar 7) (mC (.int 5)))) (
    sCons (sSet 8 (mBin gIx (mFrz (mLst (mCons (mVar 5) (mCons (mBin gSub (mC (.int 0)) (mC (.int 1))) (mCons (mBin gAdd (mVar 5) (mBin gIx (mVar 4) (mVar 6))) (mCons (mC .non) (mCons (mBlt gStrI (mCons (mBin gIx (mVar 4) (mVar 6)) (mNil))) (mNil)))))))) (mVar 7))) (
    sCons (sRet (mBin gAdd (mBin gAdd (mSlX (mVar 4) (mNoP) (mP (mVar 6))) (mTup (mCons (mVar 8) (mNil)))) (mSlX (mVar 4) (mP (mBin gAdd (mVar 6) (mC (.int 1)))) (mNoP)))) (sNil))) (sNil)) (
  sCons (sRet (mBin gIx (mFrz (mLst (mCons (mBin gAdd (mVar 4) (mTup (mCons (mC (.int 0)) (mNil)))) (mCons (mSlX (mVar 4) (mP (mC (.int 1))) (mNoP)) (mCons (mBin gIx (mVar 4) (mVar 6)) (mCons (mC .non) (mCons (mTup (mCons (mVar 4) (mNil))) (mNil)))))))) (mBin gSub (mVar 7) (mC (.int 5))))) (sNil))))))
def m__law_changed : List D → SS → RF := fnM 9 e__law_changed
def g__law_primes_right_0 : D → W → Option W := gsName 2
def b__law_primes_right_0 : W → RS := 
    sCons (sSet 4 (mCall 1 m_is_prime (mCons (mVar 2) (mNil)))) (
    sCons (sIf (mAndT (mB (mBin gInX (mVar 2) (mVar 1))) (mB (mBin gIsNot (mVar 4) (mC (.bl true))))) (
      sCons (sRet (mC (.bl false))) (sNil)) (sNil)) (
    sCons (sIf (mAndT (mB (mBin gNotInX (mVar 2) (mVar 1))) (mB (mBin gIsNot (mVar 4) (mC (.bl false))))) (
      sCons (sRet (mC (.bl false))) (sNil)) (sNil)) (sNil)))
def e__law_primes_right : W → RS := 
  sCons (sSet 1 (mCall0 m__law_primes)) (
  sCons (sFor (mItems (mFrz (mCat (mFrz (mLc [3] (mRng1 (mCons (mC (.int 76)) (mNil))) (gsName 3) (mYes) (mBin gSub (mVar 3) (mC (.int 3))))) (mFrz (mLst (mCons (mBin gAdd (mC (.int 65)) (mCall 2 m__law_pick (mCons (mVar 0) (mCons (mC (.int 1000000)) (mNil))))) (mNil))))))) (g__law_primes_right_0) (b__law_primes_right_0)) (
  sCons (sRet (mC (.bl true))) (sNil)))
def m__law_primes_right : List D → SS → RF := fnM 5 e__law_primes_right
def e__law_helds_right : W → RS := 
  sCons (sSet 3 (mCall 3 m_all_held (mCons (mVar 0) (mCons (mVar 1) (mCons (mVar 2) (mNil)))))) (
  sCons (sIf (mOrT (mNotT (mTru (mIsi "tuple" (mVar 3)))) (mB (mBin gNe (mVar 3) (mBlt gTuple (mCons (mCall 3 m__law_helds (mCons (mVar 0) (mCons (mVar 1) (mCons (mVar 2) (mNil))))) (mNil)))))) (
    sCons (sRet (mC (.bl false))) (sNil)) (sNil)) (
  sCons (sIf (mB (mBin gEq (mVar 0) (mC (.str "greater")))) (
    sCons (sRet (mCall 1 m__law_numbers (mCons (mVar 3) (mNil)))) (sNil)) (sNil)) (
  sCons (sRet (mBin gEq (mBlt gLen (mCons (mFrz (mLc [4] (mItems (mVar 3)) (gsName 4) (mNotT (mTru (mCall 1 m__law_numbers (mCons (mVar 4) (mNil))))) (mVar 4))) (mNil))) (mC (.int 0)))) (sNil))))
def m__law_helds_right : List D → SS → RF := fnM 5 e__law_helds_right
def g__law_table_right_0 : D → W → Option W := gsName 10
def b__law_table_right_0 : W → RS := 
      sCons (sSet 11 (mCall 4 m__law_value (mCons (mVar 1) (mCons (mVar 3) (mCons (mBin gIx (mVar 4) (mVar 8)) (mCons (mBin gIx (mVar 4) (mVar 10)) (mNil))))))) (
      sCons (sSet 12 (mBin gIx (mBin gIx (mVar 6) (mVar 8)) (mVar 10))) (
      sCons (sIf (mAndT (mB (mBin gEq (mVar 1) (mC (.str "meet")))) (mB (mBin gGt (mVar 11) (mC (.int 1))))) (
        sCons (sIf (mB (mBin gIsNot (mVar 12) (mC .non))) (
          sCons (sRet (mC (.bl false))) (sNil)) (sNil)) (sNil)) (
        sCons (sIf (mOrT (mNotT (mTru (mCall 1 m__law_is_int (mCons (mVar 12) (mNil))))) (mB (mBin gNe (mVar 12) (mVar 11)))) (
          sCons (sRet (mC (.bl false))) (sNil)) (sNil)) (sNil))) (sNil)))
def g__law_table_right_1 : D → W → Option W := gsName 8
def b__law_table_right_1 : W → RS := 
    sCons (sIf (mOrT (mNotT (mTru (mIsi "tuple" (mBin gIx (mVar 6) (mVar 8))))) (mB (mBin gNe (mBlt gLen (mCons (mBin gIx (mVar 6) (mVar 8)) (mNil))) (mVar 5)))) (
      sCons (sRet (mC (.bl false))) (sNil)) (sNil)) (
    sCons (sFor (mRng1 (mCons (mVar 5) (mNil))) (g__law_table_right_0) (b__law_table_right_0)) (sNil))
def e__law_table_right : W → RS := 
  sCons (sSet 4 (mCall 3 m__law_helds (mCons (mVar 1) (mCons (mVar 2) (mCons (mVar 3) (mNil)))))) (
  sCons (sSet 5 (mBlt gLen (mCons (mVar 4) (mNil)))) (
  sCons (sSet 6 (mCall 3 m_puzzle_table (mCons (mVar 1) (mCons (mVar 2) (mCons (mVar 3) (mNil)))))) (
  sCons (sIf (mOrT (mNotT (mTru (mIsi "tuple" (mVar 6)))) (mB (mBin gNe (mBlt gLen (mCons (mVar 6) (mNil))) (mVar 5)))) (
    sCons (sRet (mC (.bl false))) (sNil)) (sNil)) (
  sCons (sSetF 7 (mLc [8] (mRng1 (mCons (mVar 5) (mNil))) (gsName 8) (mYes) (mVar 8))) (
  sCons (sIf (mB (mBin gGt (mVar 5) (mC (.int 64)))) (
    sCons (sSetF 7 (mLc [9] (mRng1 (mCons (mC (.int 4)) (mNil))) (gsName 9) (mYes) (mCall 2 m__law_pick (mCons (mVar 0) (mCons (mVar 5) (mNil)))))) (sNil)) (sNil)) (
  sCons (sFor (mItems (mVar 7)) (g__law_table_right_1) (b__law_table_right_1)) (
  sCons (sRet (mC (.bl true))) (sNil))))))))
def m__law_table_right : List D → SS → RF := fnM 13 e__law_table_right
def g__law_things_right_0 : D → W → Option W := gsName 10
def b__law_things_right_0 : W → RS := 
        sCons (sSet 11 (mCall 4 m__law_can_hold (mCons (mVar 1) (mCons (mVar 10) (mCons (mVar 3) (mCons (mVar 9) (mNil))))))) (
        sCons (sSet 12 (mCall 4 m_is_held (mCons (mVar 1) (mCons (mVar 10) (mCons (mVar 3) (mCons (mVar 9) (mNil))))))) (
        sCons (sIf (mAndT (mTru (mVar 11)) (mB (mBin gIsNot (mVar 12) (mC (.bl true))))) (
          sCons (sRet (mC (.bl false))) (sNil)) (sNil)) (
        sCons (sIf (mAndT (mNotT (mTru (mVar 11))) (mB (mBin gIsNot (mVar 12) (mC (.bl false))))) (
          sCons (sRet (mC (.bl false))) (sNil)) (sNil)) (sNil))))
def g__law_things_right_1 : D → W → Option W := gsName 9
def b__law_things_right_1 : W → RS := 
      sCons (sFor (mItems (mTup (mCons (mVar 2) (mCons (mBin gAdd (mVar 2) (mC (.int 1))) (mNil))))) (g__law_things_right_0) (b__law_things_right_0)) (sNil)
def g__law_things_right_2 : D → W → Option W := gsName 6
def b__law_things_right_2 : W → RS := 
    sCons (sSet 7 (mBin gIx (mVar 4) (mCall 2 m__law_pick (mCons (mVar 0) (mCons (mVar 5) (mNil)))))) (
    sCons (sSet 8 (mCall 5 m__law_changed (mCons (mVar 0) (mCons (mVar 1) (mCons (mVar 2) (mCons (mVar 3) (mCons (mVar 7) (mNil)))))))) (
    sCons (sFor (mItems (mTup (mCons (mVar 7) (mCons (mVar 8) (mNil))))) (g__law_things_right_1) (b__law_things_right_1)) (
    sCons (sSet 13 (mBin gIx (mVar 4) (mCall 2 m__law_pick (mCons (mVar 0) (mCons (mVar 5) (mNil)))))) (
    sCons (sSet 14 (mCall 4 m_value_of (mCons (mVar 1) (mCons (mVar 3) (mCons (mVar 7) (mCons (mVar 13) (mNil))))))) (
    sCons (sIf (mOrT (mNotT (mTru (mCall 1 m__law_is_int (mCons (mVar 14) (mNil))))) (mB (mBin gNe (mVar 14) (mCall 4 m__law_value (mCons (mVar 1) (mCons (mVar 3) (mCons (mVar 7) (mCons (mVar 13) (mNil))))))))) (
      sCons (sRet (mC (.bl false))) (sNil)) (sNil)) (sNil))))))
def e__law_things_right : W → RS := 
  sCons (sSet 4 (mCall 3 m__law_helds (mCons (mVar 1) (mCons (mVar 2) (mCons (mVar 3) (mNil)))))) (
  sCons (sSet 5 (mBlt gLen (mCons (mVar 4) (mNil)))) (
  sCons (sFor (mRng1 (mCons (mC (.int 6)) (mNil))) (g__law_things_right_2) (b__law_things_right_2)) (
  sCons (sRet (mC (.bl true))) (sNil))))
def m__law_things_right : List D → SS → RF := fnM 15 e__law_things_right
def e__law_refusal : W → RS := 
  sCons (sTryL [(xT hx "TooMany", some 4, 
    sCons (sRet (mTup (mCons (mC (.str "many")) (mCons (mExf 4 "what") (mCons (mAndV (mIsX 4 (xT hx "TalkError")) (mNotV (mIsX 4 (xT hx "BadValue")))) (mNil)))))) (sNil)), (xT hx "BadValue", some 4, 
    sCons (sRet (mTup (mCons (mC (.str "value")) (mCons (mExf 4 "what") (mCons (mAndV (mIsX 4 (xT hx "TalkError")) (mNotV (mIsX 4 (xT hx "TooMany")))) (mNil)))))) (sNil))] (
    sCons (sIf (mB (mBin gEq (mVar 0) (mC (.int 0)))) (
      sCons (sExpr (mCall 3 m_all_held (mCons (mVar 1) (mCons (mVar 2) (mCons (mVar 3) (mNil)))))) (sNil)) (
      sCons (sIf (mB (mBin gEq (mVar 0) (mC (.int 1)))) (
        sCons (sExpr (mCall 3 m_puzzle_table (mCons (mVar 1) (mCons (mVar 2) (mCons (mVar 3) (mNil)))))) (sNil)) (
        sCons (sIf (mB (mBin gEq (mVar 0) (mC (.int 2)))) (
          sCons (sExpr (mCall 3 m_fewest_leaves (mCons (mVar 1) (mCons (mVar 2) (mCons (mVar 3) (mNil)))))) (sNil)) (
          sCons (sIf (mB (mBin gEq (mVar 0) (mC (.int 3)))) (
            sCons (sExpr (mCall 3 m_fewest_bits (mCons (mVar 1) (mCons (mVar 2) (mCons (mVar 3) (mNil)))))) (sNil)) (
            sCons (sIf (mB (mBin gEq (mVar 0) (mC (.int 4)))) (
              sCons (sExpr (mCall 1 m_meet_weights (mCons (mVar 2) (mNil)))) (sNil)) (
              sCons (sExpr (mCall 2 m_lines_held (mCons (mVar 2) (mCons (mVar 3) (mNil))))) (sNil))) (sNil))) (sNil))) (sNil))) (sNil))) (sNil))) (
  sCons (sRet (mC .non)) (sNil))
def m__law_refusal : List D → SS → RF := fnM 5 e__law_refusal
def g__law_refused_0 : D → W → Option W := gsName 10
def b__law_refused_0 : W → RS := 
    sCons (sIf (mOrT (mB (mBin gNe (mCall 4 m__law_refusal (mCons (mVar 10) (mCons (mVar 5) (mCons (mVar 2) (mCons (mVar 3) (mNil)))))) (mVar 4))) (mB (mBin gNe (mCall 4 m__law_refusal (mCons (mVar 10) (mCons (mVar 1) (mCons (mVar 7) (mCons (mVar 3) (mNil)))))) (mVar 4)))) (
      sCons (sRet (mC (.bl false))) (sNil)) (sNil)) (
    sCons (sIf (mOrT (mB (mBin gNe (mCall 4 m__law_refusal (mCons (mVar 10) (mCons (mVar 1) (mCons (mVar 2) (mCons (mVar 9) (mNil)))))) (mVar 4))) (mB (mBin gNe (mCall 4 m__law_refusal (mCons (mVar 10) (mCons (mVar 1) (mCons (mC (.int 1000)) (mCons (mVar 9) (mNil)))))) (mVar 4)))) (
      sCons (sRet (mC (.bl false))) (sNil)) (sNil)) (
    sCons (sIf (mAndT (mB (mBin gNe (mVar 10) (mC (.int 1)))) (mB (mBin gIsNot (mCall 4 m__law_refusal (mCons (mVar 10) (mCons (mVar 1) (mCons (mVar 2) (mCons (mVar 3) (mNil)))))) (mC .non)))) (
      sCons (sRet (mC (.bl false))) (sNil)) (sNil)) (sNil)))
def e__law_refused : W → RS := 
  sCons (sSet 4 (mTup (mCons (mC (.str "value")) (mCons (mC (.str "puzzle")) (mCons (mC (.bl true)) (mNil)))))) (
  sCons (sSet 5 (mBin gIx (mFrz (mLst (mCons (mBin gAdd (mVar 1) (mC (.str "s"))) (mCons (mSlX (mVar 1) (mP (mC (.int 1))) (mNoP)) (mCons (mBin gAdd (mVar 1) (mVar 1)) (mCons (mC (.str "")) (mCons (mC (.str "least")) (mNil)))))))) (mCall 2 m__law_pick (mCons (mVar 0) (mCons (mC (.int 5)) (mNil)))))) (
  sCons (sSetF 6 (mLst (mCons (mC (.int 0)) (mCons (mBin gSub (mC (.int 0)) (mC (.int 1))) (mCons (mBin gSub (mC (.int 0)) (mVar 2)) (mCons (mC (.int 1001)) (mCons (mBin gAdd (mC (.int 1001)) (mCall 2 m__law_pick (mCons (mVar 0) (mCons (mC (.int 1000000)) (mNil))))) (mCons (mC .non) (mCons (mC (.str "1")) (mCons (mTup (mCons (mVar 2) (mNil))) (mNil))))))))))) (
  sCons (sSet 7 (mSc (mIxO 6 (mCall 2 m__law_pick (mCons (mVar 0) (mCons (mLenO 6) (mNil))))))) (
  sCons (sSetF 8 (mLst (mCons (mC (.int 1)) (mCons (mC (.int 2)) (mCons (mBin gSub (mC (.int 0)) (mC (.int 1))) (mCons (mC (.int 61)) (mCons (mBin gAdd (mC (.int 1)) (mCall 2 m__law_pick (mCons (mVar 0) (mCons (mC (.int 1000)) (mNil))))) (mCons (mC .non) (mNil))))))))) (
  sCons (sIf (mB (mBin gEq (mVar 1) (mC (.str "inner")))) (
    sCons (sSetF 8 (mLst (mCons (mC (.int 0)) (mCons (mC (.int 1)) (mCons (mC (.int 4)) (mCons (mBin gSub (mC (.int 0)) (mVar 3)) (mCons (mBin gMul (mVar 3) (mVar 3)) (mCons (mC (.int 63)) (mCons (mC (.int 67)) (mCons (mC .non) (mNil))))))))))) (sNil)) (sNil)) (
  sCons (sSet 9 (mSc (mIxO 8 (mCall 2 m__law_pick (mCons (mVar 0) (mCons (mLenO 8) (mNil))))))) (
  sCons (sFor (mRng1 (mCons (mC (.int 4)) (mNil))) (g__law_refused_0) (b__law_refused_0)) (
  sCons (sIf (mB (mBin gNe (mCall 4 m__law_refusal (mCons (mC (.int 4)) (mCons (mC (.str "meet")) (mCons (mVar 7) (mCons (mC (.int 0)) (mNil)))))) (mVar 4))) (
    sCons (sRet (mC (.bl false))) (sNil)) (sNil)) (
  sCons (sIf (mB (mBin gEq (mVar 1) (mC (.str "inner")))) (
    sCons (sRet (mAndV (mBin gEq (mCall 4 m__law_refusal (mCons (mC (.int 5)) (mCons (mVar 1) (mCons (mVar 7) (mCons (mVar 3) (mNil)))))) (mVar 4)) (mBin gEq (mCall 4 m__law_refusal (mCons (mC (.int 5)) (mCons (mVar 1) (mCons (mVar 2) (mCons (mVar 9) (mNil)))))) (mVar 4)))) (sNil)) (sNil)) (
  sCons (sRet (mC (.bl true))) (sNil)))))))))))
def m__law_refused : List D → SS → RF := fnM 11 e__law_refused
def t__law_bound_right_0 : W → R Bool := mB (mBin gLe (mVar 5) (mC (.int 256)))
def b__law_bound_right_0 : W → RS := 
      sCons (sAug 3 gAddI (mC (.int 1))) (
      sCons (sSet 5 (mBin gMul (mVar 5) (mVar 2))) (sNil))
def g__law_bound_right_1 : D → W → Option W := gsName 7
def b__law_bound_right_1 : W → RS := 
    sCons (sIf (mOrT (mB (mBin gNe (mCall 4 m__law_refusal (mCons (mC (.int 0)) (mCons (mVar 1) (mCons (mVar 7) (mCons (mVar 2) (mNil)))))) (mVar 6))) (mB (mBin gNe (mCall 4 m__law_refusal (mCons (mC (.int 1)) (mCons (mVar 1) (mCons (mVar 7) (mCons (mVar 2) (mNil)))))) (mVar 6)))) (
      sCons (sRet (mC (.bl false))) (sNil)) (sNil)) (
    sCons (sIf (mAndT (mB (mBin gEq (mVar 1) (mC (.str "meet")))) (mB (mBin gNe (mCall 4 m__law_refusal (mCons (mC (.int 4)) (mCons (mVar 1) (mCons (mVar 7) (mCons (mC (.int 0)) (mNil)))))) (mVar 6)))) (
      sCons (sRet (mC (.bl false))) (sNil)) (sNil)) (
    sCons (sIf (mAndT (mB (mBin gEq (mVar 1) (mC (.str "inner")))) (mB (mBin gNe (mCall 4 m__law_refusal (mCons (mC (.int 5)) (mCons (mVar 1) (mCons (mVar 7) (mCons (mVar 2) (mNil)))))) (mVar 6)))) (
      sCons (sRet (mC (.bl false))) (sNil)) (sNil)) (
    sCons (sIf (mB (mBin gIsNot (mCall 4 m__law_refusal (mCons (mC (.int 2)) (mCons (mVar 1) (mCons (mVar 7) (mCons (mVar 2) (mNil)))))) (mC .non))) (
      sCons (sRet (mC (.bl false))) (sNil)) (sNil)) (sNil))))
def e__law_bound_right : W → RS := 
  sCons (sSet 2 (mC (.int 0))) (
  sCons (sSet 3 (mIfE (mB (mBin gEq (mVar 1) (mC (.str "meet")))) (mC (.int 9)) (mC (.int 257)))) (
  sCons (sIf (mB (mBin gEq (mVar 1) (mC (.str "inner")))) (
    sCons (sSet 4 (mCall0 m__law_primes)) (
    sCons (sSet 2 (mBin gIx (mVar 4) (mCall 2 m__law_pick (mCons (mVar 0) (mCons (mBlt gLen (mCons (mVar 4) (mNil))) (mNil)))))) (
    sCons (sSet 3 (mC (.int 1))) (
    sCons (sSet 5 (mVar 2)) (
    sCons (sWhile (t__law_bound_right_0) (b__law_bound_right_0)) (sNil)))))) (sNil)) (
  sCons (sIf (mOrT (mB (mBin gIsNot (mCall 4 m__law_refusal (mCons (mC (.int 0)) (mCons (mVar 1) (mCons (mBin gSub (mVar 3) (mC (.int 1))) (mCons (mVar 2) (mNil)))))) (mC .non))) (mNotT (mTru (mCall 3 m__law_helds_right (mCons (mVar 1) (mCons (mBin gSub (mVar 3) (mC (.int 1))) (mCons (mVar 2) (mNil)))))))) (
    sCons (sRet (mC (.bl false))) (sNil)) (sNil)) (
  sCons (sSet 6 (mTup (mCons (mC (.str "many")) (mCons (mC (.str "held")) (mCons (mC (.bl true)) (mNil)))))) (
  sCons (sFor (mItems (mTup (mCons (mVar 3) (mCons (mBin gAdd (mVar 3) (mCall 2 m__law_pick (mCons (mVar 0) (mCons (mBin gSub (mC (.int 1001)) (mVar 3)) (mNil))))) (mCons (mC (.int 1000)) (mNil)))))) (g__law_bound_right_1) (b__law_bound_right_1)) (
  sCons (sRet (mC (.bl true))) (sNil)))))))
def m__law_bound_right : List D → SS → RF := fnM 8 e__law_bound_right
def g_law_0 : D → W → Option W := gsName 3
def b_law_0 : W → RS := 
    sCons (sSet 4 (mBin gIx (mFrz (mLst (mCons (mC (.str "greater")) (mCons (mC (.str "meet")) (mCons (mC (.str "inner")) (mNil)))))) (mBin gMod (mBlt gInt (mCons (mBin gAdd (mVar 2) (mVar 3)) (mNil))) (mC (.int 3))))) (
    sCons (sAsg (gsTup 2 (gsCons (gsName 5) (gsCons (gsName 6) (gsNil)))) (mCall 2 m__law_size (mCons (mVar 1) (mCons (mVar 4) (mNil))))) (
    sCons (sIf (mOrT (mNotT (mTru (mCall 3 m__law_helds_right (mCons (mVar 4) (mCons (mVar 5) (mCons (mVar 6) (mNil))))))) (mNotT (mTru (mCall 4 m__law_things_right (mCons (mVar 1) (mCons (mVar 4) (mCons (mVar 5) (mCons (mVar 6) (mNil))))))))) (
      sCons (sRet (mC (.bl false))) (sNil)) (sNil)) (
    sCons (sIf (mNotT (mTru (mCall 4 m__law_table_right (mCons (mVar 1) (mCons (mVar 4) (mCons (mVar 5) (mCons (mVar 6) (mNil)))))))) (
      sCons (sRet (mC (.bl false))) (sNil)) (sNil)) (
    sCons (sIf (mOrT (mNotT (mTru (mCall 4 m__law_refused (mCons (mVar 1) (mCons (mVar 4) (mCons (mVar 5) (mCons (mVar 6) (mNil)))))))) (mNotT (mTru (mCall 2 m__law_bound_right (mCons (mVar 1) (mCons (mVar 4) (mNil))))))) (
      sCons (sRet (mC (.bl false))) (sNil)) (sNil)) (sNil)))))
def e_law : W → RS := 
  sCons (sIf (mNotT (mTru (mCall 1 m__law_primes_right (mCons (mVar 1) (mNil))))) (
    sCons (sRet (mC (.bl false))) (sNil)) (sNil)) (
  sCons (sSet 2 (mCall 2 m__law_pick (mCons (mVar 1) (mCons (mC (.int 3)) (mNil))))) (
  sCons (sFor (mRng1 (mCons (mC (.int 3)) (mNil))) (g_law_0) (b_law_0)) (
  sCons (sRet (mC (.bl true))) (sNil))))
def envL : TD.Env := none :: some (.val .src) :: List.replicate 5 none
def LawTrue : Prop := ∀ cells : List Int, cells ≠ [] → (∀ c ∈ cells, (0 : Int) ≤ c) → ∃ w', e_law ⟨envL, ⟨cells, 0, 0⟩⟩ = .ret (.bl true) w'

end K43

set_option Elab.async false
set_option linter.all false
set_option maxRecDepth 100000
set_option maxHeartbeats 4000000
namespace K43
open PySem PySem.Spec PyProof.Rows L2 TD TP
open K31 (isCnt)
theorem pick_eq : m__law_pick = pickM := rfl
theorem is_count_eq (d : D) (hd : d ≠ .src) (a b : Int) (ss : SS) : m_is_count [d, .int a, .int b] ss = .ok (.bl (isCnt d a b)) ss := K31.is_count_eq d hd a b ss
def primes : List Int := [2, 3, 5, 7, 11, 13, 17, 19, 23, 29, 31, 37, 41, 43, 47, 53, 59, 61]
theorem primes_eq (ss : SS) : m__law_primes [] ss = .ok (.lst (primes.map D.int)) ss := by kernel_rfl
def noDiv (n : Int) : Bool := (rngD 2 n).all fun d => match d with | .int b => !decide (n - b * (n / b) = 0) | _ => true
def isPr (d : D) : Bool := isCnt d 2 64 && match d with | .int n => noDiv n | _ => false
theorem div_step (n b : Int) (h2 : 2 ≤ b) (h : b < n) (hn : n ≤ 64) (ss : SS) : lcStep [1] (gsName 1) (mB (mBin gEq (mBin gSub (mVar 0) (mBin gMul (mVar 1) (mBin gDiv (mVar 0) (mVar 1)))) (mC (.int 0)))) (mVar 1) (.int b) ⟨[some (.val (.int n)), none], ss⟩ = .ok (if n - b * (n / b) = 0 then some (.int b) else none) ⟨[some (.val (.int n)), none], ss⟩ := by
  have h1 : divOk b = true := divOk_of b (by omega) (Int.lt_of_le_of_lt (by omega : b ≤ 64) (by decide +kernel))
  have hq : 0 ≤ n / b := Int.ediv_nonneg (by omega) (by omega)
  have hq2 : n / b ≤ n := Int.ediv_le_self _ (by omega)
  have h2 : mulOk b (n / b) = true := mulOk_r _ _ (by omega)
  by_cases e : n - b * (n / b) = 0 <;> simp [lcStep, h1, h2, e]
theorem is_prime_run (n : Int) (F : List D) (ss : SS) (h : isCnt (.int n) 2 64 = true) (hs : small n = true)
    (q : lcGo [1] (gsName 1) (mB (mBin gEq (mBin gSub (mVar 0) (mBin gMul (mVar 1) (mBin gDiv (mVar 0) (mVar 1)))) (mC (.int 0)))) (mVar 1) (rngD 2 n) [] ⟨[some (.val (.int n)), none], ss⟩ = .ok F ⟨[some (.val (.int n)), none], ss⟩) : m_is_prime [.int n] ss = .ok (.bl (decide ((F.length : Int) = 0))) ss := by
  simp [m_is_prime, e_is_prime, is_count_eq, h, hs, q]
  cases F <;> simp
  omega
theorem is_prime_eq (d : D) (hd : d ≠ .src) (ss : SS) : m_is_prime [d] ss = .ok (.bl (isPr d)) ss := by
  cases h : isCnt d 2 64 with
  | false => simp [m_is_prime, e_is_prime, is_count_eq d hd, h, isPr]
  | true =>
    cases d with
    | int n =>
      have hn : 2 ≤ n ∧ n ≤ 64 := by simpa [isCnt] using h
      have q := lc_pure (vs := [1]) (set := gsName 1) (mt := mB (mBin gEq (mBin gSub (mVar 0) (mBin gMul (mVar 1) (mBin gDiv (mVar 0) (mVar 1)))) (mC (.int 0)))) (me := mVar 1) (fun d => match d with | .int b => if n - b * (n / b) = 0 then some (.int b) else none | _ => none) ⟨[some (.val (.int n)), none], ss⟩ (rngD 2 n) [] (fun d hd => by
        unfold rngD at hd
        obtain ⟨i, hi, rfl⟩ := List.mem_map.mp hd
        have hi : i < (n - 2).toNat := by simpa using hi
        exact div_step n (2 + i) (by omega) (by omega) hn.2 ss) (by simp [rngD]; omega)
      rw [List.nil_append] at q
      rw [is_prime_run n _ ss h (small_le (by omega) (by omega)) q]
      congr 2
      rw [isPr, h, Bool.true_and, Bool.eq_iff_iff, decide_eq_true_iff]
      unfold noDiv
      rw [List.all_eq_true]
      constructor
      · intro e x hx
        have e : ((rngD 2 n).filterMap fun d => match d with | .int b => if n - b * (n / b) = 0 then some (D.int b) else none | _ => none) = [] := List.length_eq_zero_iff.mp (by omega)
        have := List.filterMap_eq_nil_iff.mp e x hx
        revert this
        cases x <;> simp
      · intro e
        have : ((rngD 2 n).filterMap fun d => match d with | .int b => if n - b * (n / b) = 0 then some (D.int b) else none | _ => none) = [] := List.filterMap_eq_nil_iff.mpr fun x hx => by
          have := e x hx
          revert this
          cases x <;> simp
        rw [this]; rfl
    | _ => simp [isCnt] at h
theorem prime_iff (n : Int) (h1 : -3 ≤ n) (h2 : n ≤ 72) : isPr (.int n) = decide (n ∈ primes) := by
  have key : ∀ k : Fin 76, isPr (.int ((k.val : Int) - 3)) = decide ((k.val : Int) - 3 ∈ primes) := by decide +kernel
  have := key ⟨(n + 3).toNat, by omega⟩
  have e : (((n + 3).toNat : Nat) : Int) - 3 = n := by omega
  rw [show ((⟨(n + 3).toNat, by omega⟩ : Fin 76).val : Int) - 3 = n from e] at this
  exact this
theorem prime_big (n : Int) (h : 65 ≤ n) : isPr (.int n) = decide (n ∈ primes) := by
  have h1 : isPr (.int n) = false := by
    have : ¬ n ≤ 64 := by omega
    simp [isPr, isCnt, this]
  have h2 : n ∉ primes := by
    intro h3
    have : ∀ m ∈ primes, m ≤ 64 := by decide +kernel
    have := this n h3
    omega
  rw [h1, decide_eq_false h2]
theorem prime_all (n : Int) (h : -3 ≤ n) : isPr (.int n) = decide (n ∈ primes) := by
  by_cases h2 : n ≤ 72
  · exact prime_iff n h h2
  · exact prime_big n (by omega)
theorem primes_rng : ∀ p ∈ primes, 2 ≤ p ∧ p ≤ 61 ∧ isPr (.int p) = true := by decide +kernel
theorem in_primes (n : Int) : gInX (.int n) (.lst (primes.map D.int)) = some (.bl (decide (n ∈ primes))) := by
  rw [gInX_lst]
  show gIn _ _ = _
  have : ∀ l : List Int, D.any (.int n) (l.map D.int) = decide (n ∈ l) := by
    intro l
    rw [any_def, List.any_map, Bool.eq_iff_iff, List.any_eq_true, decide_eq_true_iff]
    simp
  have fl : (primes.map D.int).all D.flat = true := by decide +kernel
  show (if ((D.int n).flat && (primes.map D.int).all D.flat) = true then some (D.bl (D.any (.int n) (primes.map D.int))) else none) = _
  rw [fl, this]
  rfl
theorem notin_primes (n : Int) : gNotInX (.int n) (.lst (primes.map D.int)) = some (.bl (!decide (n ∈ primes))) := by
  have h := in_primes n
  rw [gInX_lst] at h
  rw [gNotInX_lst]
  have h : (if ((D.int n).flat && (primes.map D.int).all D.flat) = true then some (D.bl (D.any (.int n) (primes.map D.int))) else none) = _ := h
  show (if ((D.int n).flat && (primes.map D.int).all D.flat) = true then some (D.bl (!D.any (.int n) (primes.map D.int))) else none) = _
  split at h
  · rename_i c
    rw [if_pos c]
    have h : D.any (.int n) (primes.map D.int) = decide (n ∈ primes) := by simpa using h
    rw [h]
  · cases h
theorem pr_body (S PL : D) (x3 x4 : Option TD.Slot) (x2 : Option TD.Slot) (n : Int) (b : Bool) (ss : SS) (h1 : m_is_prime [.int n] ss = .ok (.bl b) ss) (h2 : gInX (.int n) PL = some (.bl b)) (h3 : gNotInX (.int n) PL = some (.bl (!b))) (k : W → RS) :
    oS (g__law_primes_right_0 (.int n) ⟨[some (.val S), some (.val PL), x2, x3, x4], ss⟩) (fun w => (b__law_primes_right_0 w).loop k) = k ⟨[some (.val S), some (.val PL), some (.val (.int n)), x3, some (.val (.bl b))], ss⟩ := by
  cases b <;> simp [g__law_primes_right_0, b__law_primes_right_0, h1, h2, h3, gIsNot]
theorem pr_go (S : D) (x3 : Option TD.Slot) (ss : SS) : ∀ (ns : List Int) (x2 x4 : Option TD.Slot), (∀ n ∈ ns, -3 ≤ n) → ∃ y2 y4,
    sForGo g__law_primes_right_0 b__law_primes_right_0 (ns.map D.int) ⟨[some (.val S), some (.val (.lst (primes.map D.int))), x2, x3, x4], ss⟩ = .nx ⟨[some (.val S), some (.val (.lst (primes.map D.int))), y2, x3, y4], ss⟩
  | [], x2, x4, _ => ⟨x2, x4, rfl⟩
  | n :: ns, x2, x4, h => by
    have h0 := h n (List.mem_cons_self ..)
    obtain ⟨y2, y4, e⟩ := pr_go S x3 ss ns (some (.val (.int n))) (some (.val (.bl (decide (n ∈ primes))))) fun m hm => h m (List.mem_cons_of_mem _ hm)
    refine ⟨y2, y4, ?_⟩
    rw [List.map_cons, sForGo_cons, pr_body S _ x3 x4 x2 n (decide (n ∈ primes)) ss (by rw [is_prime_eq _ (by simp), prime_all n h0]) (in_primes n) (notin_primes n)]
    exact e
theorem pright_run (PL : D) (A : List D) (r : Int) (y2 y4 : Option TD.Slot) (ss ss' : SS) (h1 : ∀ ss, m__law_primes [] ss = .ok PL ss) (hA : A.length ≤ 1000) (q : lcGo [3] (gsName 3) mYes (mBin gSub (mVar 3) (mC (.int 3))) (rngD 0 76) [] ⟨[some (.val .src), some (.val PL), none, none, none], ss⟩ = .ok A ⟨[some (.val .src), some (.val PL), none, none, none], ss⟩)
    (hp : pickM [.src, .int 1000000] ss = .ok (.int r) ss') (q2 : sForGo g__law_primes_right_0 b__law_primes_right_0 (A ++ [.int (65 + r)]) ⟨[some (.val .src), some (.val PL), none, none, none], ss'⟩ = .nx ⟨[some (.val .src), some (.val PL), y2, none, y4], ss'⟩) : m__law_primes_right [.src] ss = .ok (.bl true) ss' := by
  have s76 : small 76 = true := by decide
  have hl : A.length + 1 ≤ 1000000 := by omega
  simp [m__law_primes_right, e__law_primes_right, h1, s76, q, pick_eq, hp, hl, q2]
theorem primes_right (ss : SS) (hs : SsOk ss) : ∃ ss', m__law_primes_right [.src] ss = .ok (.bl true) ss' ∧ SsOk ss' := by
  obtain ⟨r, ss', e, a, b, hs'⟩ : ∃ r ss', pickM [.src, .int 1000000] ss = .ok (.int r) ss' ∧ 0 ≤ r ∧ r < 1000000 ∧ SsOk ss' := by
    exact (pick_okW ss hs 1000000 (by decide) (by decide +kernel)).ex
  have q := lc_rng (v := 3) (me := mBin gSub (mVar 3) (mC (.int 3))) (fun (i : Nat) => D.int ((i : Int) - 3)) [some (.val .src), some (.val (.lst (primes.map D.int))), none, none, none] 76 (by decide) ss fun i hi => by simp [lcStep]
  have e2 : (List.range 76).map (fun (i : Nat) => D.int ((i : Int) - 3)) = ((List.range 76).map fun (i : Nat) => (i : Int) - 3).map D.int := by rw [List.map_map]; rfl
  obtain ⟨y2, y4, q2⟩ := pr_go .src none ss' (((List.range 76).map fun (i : Nat) => (i : Int) - 3) ++ [65 + r]) none none fun n hn => by
    rcases List.mem_append.mp hn with hn | hn
    · obtain ⟨i, _, rfl⟩ := List.mem_map.mp hn
      omega
    · have : n = 65 + r := by simpa using hn
      omega
  rw [List.map_append] at q2
  rw [e2] at q
  exact ⟨ss', pright_run _ _ r y2 y4 ss ss' primes_eq (by simp) q e q2, hs'⟩
end K43

set_option Elab.async false
set_option linter.all false
set_option maxRecDepth 100000
set_option maxHeartbeats 4000000
namespace K43
open PySem PySem.Spec PyProof.Rows L2 TD TP
open K31 (isCnt dI)
/-! ### names -/
inductive Nm | gr | me | inn
  deriving DecidableEq
def Nm.s : Nm → Str
  | .gr => "greater"
  | .me => "meet"
  | .inn => "inner"
abbrev nmD (x : Nm) : D := .str x.s
@[simp] theorem s_gr : Nm.gr.s = ("greater" : Str) := rfl
@[simp] theorem s_me : Nm.me.s = ("meet" : Str) := rfl
@[simp] theorem s_inn : Nm.inn.s = ("inner" : Str) := rfl
@[simp] theorem ok_gr : PyData.strOk ("greater" : Str) = true := by decide +kernel
@[simp] theorem ok_me : PyData.strOk ("meet" : Str) = true := by decide +kernel
@[simp] theorem ok_inn : PyData.strOk ("inner" : Str) = true := by decide +kernel
@[simp] theorem gm : (("greater" : Str) == ("meet" : Str)) = false := by decide +kernel
@[simp] theorem gi : (("greater" : Str) == ("inner" : Str)) = false := by decide +kernel
@[simp] theorem mg' : (("meet" : Str) == ("greater" : Str)) = false := by decide +kernel
@[simp] theorem mi' : (("meet" : Str) == ("inner" : Str)) = false := by decide +kernel
@[simp] theorem ig : (("inner" : Str) == ("greater" : Str)) = false := by decide +kernel
@[simp] theorem im : (("inner" : Str) == ("meet" : Str)) = false := by decide +kernel
@[simp] theorem gm' : (("greater" : Str) = ("meet" : Str)) = False := by decide +kernel
@[simp] theorem gi' : (("greater" : Str) = ("inner" : Str)) = False := by decide +kernel
@[simp] theorem mg2 : (("meet" : Str) = ("greater" : Str)) = False := by decide +kernel
@[simp] theorem mi2 : (("meet" : Str) = ("inner" : Str)) = False := by decide +kernel
@[simp] theorem ig2 : (("inner" : Str) = ("greater" : Str)) = False := by decide +kernel
@[simp] theorem im2 : (("inner" : Str) = ("meet" : Str)) = False := by decide +kernel
def badP : Exn := ⟨"BadValue", "what", .str "puzzle"⟩
def many : Exn := ⟨"TooMany", "what", .str "held"⟩
structure Pz (x : Nm) (n md : Int) : Prop where
  lo : 1 ≤ n
  hi : n ≤ 1000
  pr : x = .inn → md ∈ primes
  no : x ≠ .inn → md = 0
theorem must_yes {x : Nm} {n md : Int} (h : Pz x n md) (ss : SS) : m_must_be_puzzle [nmD x, .int n, .int md] ss = .ok .non ss := by
  have h1 : isCnt (.int n) 1 1000 = true := by simp [isCnt, h.lo, h.hi]
  cases x with
  | gr =>
    have := h.no (by decide)
    subst this
    simp [m_must_be_puzzle, e_must_be_puzzle, is_count_eq, h1, D.flat]
  | me =>
    have := h.no (by decide)
    subst this
    simp [m_must_be_puzzle, e_must_be_puzzle, is_count_eq, h1, D.flat]
  | inn =>
    have hp := (primes_rng md (h.pr rfl)).2.2
    simp [m_must_be_puzzle, e_must_be_puzzle, is_count_eq, h1, D.flat, is_prime_eq, hp]
theorem no_name (z : Str) (h1 : (("greater" : Str) == z) = false) (h2 : (("meet" : Str) == z) = false) (h3 : (("inner" : Str) == z) = false) (n md : D) (ss : SS) : m_must_be_puzzle [.str z, n, md] ss = .exc badP ss := by
  simp only [beq_eq_false_iff_ne, ne_eq] at h1 h2 h3
  simp [m_must_be_puzzle, e_must_be_puzzle, D.flat, badP, h1, h2, h3]
theorem no_size (x : Nm) (d : D) (hd : d ≠ .src) (h : isCnt d 1 1000 = false) (md : D) (ss : SS) : m_must_be_puzzle [nmD x, d, md] ss = .exc badP ss := by
  cases x <;> simp [m_must_be_puzzle, e_must_be_puzzle, D.flat, badP, is_count_eq d hd, h]
theorem no_mod (x : Nm) (n : Int) (h : 1 ≤ n ∧ n ≤ 1000) (d : D) (hd : d ≠ .src) (hi : x = .inn → isPr d = false) (hn : x ≠ .inn → d.okb 64 = true ∧ D.eqv d (.int 0) = false) (ss : SS) : m_must_be_puzzle [nmD x, .int n, d] ss = .exc badP ss := by
  have h1 : isCnt (.int n) 1 1000 = true := by simp [isCnt, h]
  cases x with
  | gr =>
    obtain ⟨a, b⟩ := hn (by decide)
    simp [m_must_be_puzzle, e_must_be_puzzle, is_count_eq, h1, D.flat, badP, a, b]
  | me =>
    obtain ⟨a, b⟩ := hn (by decide)
    simp [m_must_be_puzzle, e_must_be_puzzle, is_count_eq, h1, D.flat, badP, a, b]
  | inn =>
    have := hi rfl
    simp [m_must_be_puzzle, e_must_be_puzzle, is_count_eq, h1, D.flat, badP, is_prime_eq d hd, this]
end K43

set_option Elab.async false
set_option linter.all false
set_option maxRecDepth 100000
set_option maxHeartbeats 4000000
namespace K43
open PySem PySem.Spec PyProof.Rows L2 TD TP
open K31 (isCnt dI)
/-! ### rows of places, ascending -/
def dig (b : Nat) : Nat → Nat → List Int
  | 0, _ => []
  | n + 1, i => dig b n (i / b) ++ [((i % b : Nat) : Int)]
theorem dig_len (b : Nat) : ∀ n i, (dig b n i).length = n
  | 0, _ => rfl
  | n + 1, i => by rw [dig, List.length_append, dig_len b n]; rfl
theorem dig_rng (b : Nat) (hb : 0 < b) : ∀ n i, ∀ y ∈ dig b n i, 0 ≤ y ∧ y < b
  | 0, _, y, h => nomatch h
  | n + 1, i, y, h => by
    rw [dig] at h
    rcases List.mem_append.mp h with h | h
    · exact dig_rng b hb n _ y h
    · have : y = ((i % b : Nat) : Int) := by simpa using h
      subst this
      have := Nat.mod_lt i hb
      omega
def rows (b n : Nat) : List (List Int) := (List.range (b ^ n)).map (dig b n)
theorem rows_len (b n : Nat) : (rows b n).length = b ^ n := by simp [rows]
theorem range_mul {α : Type} (b : Nat) (f : Nat → α) : ∀ m : Nat, (List.range (m * b)).map f = (List.range m).flatMap fun q => (List.range b).map fun r => f (q * b + r)
  | 0 => by simp
  | m + 1 => by
    rw [Nat.succ_mul, List.range_add, List.map_append, range_mul b f m, List.range_succ, List.flatMap_append, List.map_map]
    simp [Function.comp_def]
theorem rows_succ (b n : Nat) (hb : 0 < b) : rows b (n + 1) = (rows b n).flatMap fun r => (List.range b).map fun (p : Nat) => r ++ [(p : Int)] := by
  unfold rows
  rw [Nat.pow_succ, range_mul, List.flatMap_map]
  congr 1
  funext q
  apply List.map_congr_left
  intro r hr
  have hr : r < b := by simpa using hr
  rw [dig]
  have e1 : (q * b + r) / b = q := by rw [Nat.mul_comm, Nat.mul_add_div hb, Nat.div_eq_of_lt hr, Nat.add_zero]
  have e2 : (q * b + r) % b = r := by rw [Nat.mul_comm, Nat.mul_add_mod, Nat.mod_eq_of_lt hr]
  rw [e1, e2]
abbrev rwD (r : List (List Int)) : List D := r.map dI
def bs (x : Nm) (md : Int) : Nat := if x = .inn then md.toNat else 2
theorem bs_ge {x : Nm} {n md : Int} (h : Pz x n md) : 2 ≤ bs x md ∧ bs x md ≤ 61 := by
  unfold bs
  split
  · have := primes_rng md (h.pr (by assumption))
    omega
  · omega
/-! ### all that can be held -/
theorem ah_inner (nm sz md T pl RR : D) (b : Int) (r : List Int) (p : Int) (hr : r.length ≤ 1000) (ss : SS) : lcStep [7] (gsName 7) (mYes) (mBin gAdd (mVar 6) (mTup (mCons (mVar 7) (mNil)))) (.int p) ⟨[some (.val nm), some (.val sz), some (.val md), some (.val (.int b)), some (.val T), some (.val pl), some (.val (dI r)), none], ss⟩ =
    .ok (some (dI (r ++ [p]))) ⟨[some (.val nm), some (.val sz), some (.val md), some (.val (.int b)), some (.val T), some (.val pl), some (.val (dI r)), none], ss⟩ := by
  have h1 : (r.map D.int).length + 1 ≤ 1000000 := by simp; omega
  have e : dI (r ++ [p]) = .tup (r.map D.int ++ [.int p]) := by simp [dI]
  rw [e]
  have e2 : dI r = .tup (r.map D.int) := rfl
  rw [e2]
  generalize r.map D.int = R at h1 ⊢
  simp [lcStep, h1]
theorem ah_step (nm sz md T pl : D) (b : Int) (B : Nat) (hB : b = B) (hB2 : B ≤ 61) (r : List Int) (hr : r.length ≤ 1000) (acc : List D) (ha : acc.length + B ≤ 1000000) (ss : SS) :
    lc2Step [6, 7] [7] (gsName 6) (mYes) (mRng1 (mCons (mVar 3) (mNil))) (gsName 7) (mYes) (mBin gAdd (mVar 6) (mTup (mCons (mVar 7) (mNil)))) (dI r) acc ⟨[some (.val nm), some (.val sz), some (.val md), some (.val (.int b)), some (.val T), some (.val pl), none, none], ss⟩ =
    .ok (acc ++ (List.range B).map fun (p : Nat) => dI (r ++ [(p : Int)])) ⟨[some (.val nm), some (.val sz), some (.val md), some (.val (.int b)), some (.val T), some (.val pl), none, none], ss⟩ := by
  have q := lc_pure (vs := [7]) (set := gsName 7) (mt := mYes) (me := mBin gAdd (mVar 6) (mTup (mCons (mVar 7) (mNil)))) (fun d => match d with | .int p => some (dI (r ++ [p])) | _ => none) ⟨[some (.val nm), some (.val sz), some (.val md), some (.val (.int b)), some (.val T), some (.val pl), some (.val (dI r)), none], ss⟩ (rngD 0 b) acc (fun d hd => by
    subst hB
    obtain ⟨i, hi, rfl⟩ := rng_mem hd
    exact ah_inner nm sz md T pl T _ r i hr ss) (by subst hB; simp [rngD]; omega)
  have e : (rngD 0 b).filterMap (fun d => match d with | .int p => some (dI (r ++ [p])) | _ => none) = (List.range B).map fun (p : Nat) => dI (r ++ [(p : Int)]) := by
    subst hB
    exact rng_map B _ _ fun i hi => rfl
  rw [e] at q
  have s1 : small b = true := small_le (by omega) (by omega)
  generalize dI r = DR at q ⊢
  have hR : (if small b = true then some (rngD 0 b) else none) = some (rngD 0 b) := if_pos s1
  generalize (List.range B).map (fun (p : Nat) => dI (r ++ [(p : Int)])) = O at q ⊢
  simp [lc2Step, s1, q]
theorem ah_comp (nm sz md pl : D) (b : Int) (B : Nat) (hB : b = B) (hB2 : 1 ≤ B ∧ B ≤ 61) (k : Nat) (hk : k ≤ 999) (hl : B ^ (k + 1) ≤ 256) (T : D) (ss : SS) :
    lcGo2 [6, 7] [7] (gsName 6) (mYes) (mRng1 (mCons (mVar 3) (mNil))) (gsName 7) (mYes) (mBin gAdd (mVar 6) (mTup (mCons (mVar 7) (mNil)))) (rwD (rows B k)) [] ⟨[some (.val nm), some (.val sz), some (.val md), some (.val (.int b)), some (.val T), some (.val pl), none, none], ss⟩ =
    .ok (rwD (rows B (k + 1))) ⟨[some (.val nm), some (.val sz), some (.val md), some (.val (.int b)), some (.val T), some (.val pl), none, none], ss⟩ := by
  have hlen : ∀ r ∈ rows B k, r.length ≤ 1000 := fun r hr => by
    unfold rows at hr
    obtain ⟨i, _, rfl⟩ := List.mem_map.mp hr
    rw [dig_len]; omega
  have e0 : (rwD (rows B k)).flatMap (fun d => match d with | .tup l => (List.range B).map fun (p : Nat) => D.tup (l ++ [.int (p : Int)]) | _ => []) = rwD (rows B (k + 1)) := by
    rw [rows_succ B k hB2.1, List.flatMap_map, rwD, List.map_flatMap]
    congr 1
    funext r
    show ((List.range B).map fun (p : Nat) => D.tup (r.map D.int ++ [.int (p : Int)])) = ((List.range B).map fun (p : Nat) => r ++ [(p : Int)]).map dI
    rw [List.map_map]
    apply List.map_congr_left
    intro p _
    simp [dI]
  have := lc2_pure (vs := [6, 7]) (vs1 := [7]) (set := gsName 6) (mt := mYes) (mi1 := mRng1 (mCons (mVar 3) (mNil))) (set1 := gsName 7) (mt1 := mYes) (me := mBin gAdd (mVar 6) (mTup (mCons (mVar 7) (mNil)))) (fun d => match d with | .tup l => (List.range B).map fun (p : Nat) => D.tup (l ++ [.int (p : Int)]) | _ => [])
    ⟨[some (.val nm), some (.val sz), some (.val md), some (.val (.int b)), some (.val T), some (.val pl), none, none], ss⟩ (rwD (rows B k)) [] (fun d hd acc ha => by
      obtain ⟨r, hr, rfl⟩ := List.mem_map.mp hd
      have ha : acc.length + B ≤ 1000000 := by simpa using ha
      rw [ah_step nm sz md T pl b B hB hB2.2 r (hlen r hr) acc ha ss]
      congr 2
      apply List.map_congr_left
      intro p _
      simp [dI]) (by rw [e0]; simp [rwD, rows_len]; omega)
  rw [this, e0, List.nil_append]
theorem ah_body (nm sz md d : D) (b L : Int) (A A' : List D) (hA : (A.length : Int) = L) (hm : mulOk L b = true) (x5 : Option TD.Slot) (ss : SS) (h : ¬ 256 < L * b)
    (q : lcGo2 [6, 7] [7] (gsName 6) (mYes) (mRng1 (mCons (mVar 3) (mNil))) (gsName 7) (mYes) (mBin gAdd (mVar 6) (mTup (mCons (mVar 7) (mNil)))) A [] ⟨[some (.val nm), some (.val sz), some (.val md), some (.val (.int b)), some (.val (.lst A)), some (.val d), none, none], ss⟩ = .ok A' ⟨[some (.val nm), some (.val sz), some (.val md), some (.val (.int b)), some (.val (.lst A)), some (.val d), none, none], ss⟩) (k : W → RS) :
    oS (g_all_held_0 d ⟨[some (.val nm), some (.val sz), some (.val md), some (.val (.int b)), some (.own A), x5, none, none], ss⟩) (fun w => (b_all_held_0 w).loop k) = k ⟨[some (.val nm), some (.val sz), some (.val md), some (.val (.int b)), some (.own A'), some (.val d), none, none], ss⟩ := by
  simp [g_all_held_0, b_all_held_0, hA, hm, h, q]
theorem ah_stop (nm sz md d : D) (b L : Int) (A : List D) (hA : (A.length : Int) = L) (hm : mulOk L b = true) (x5 : Option TD.Slot) (ss : SS) (h : 256 < L * b) (k : W → RS) :
    oS (g_all_held_0 d ⟨[some (.val nm), some (.val sz), some (.val md), some (.val (.int b)), some (.own A), x5, none, none], ss⟩) (fun w => (b_all_held_0 w).loop k) = .exc many ⟨[some (.val nm), some (.val sz), some (.val md), some (.val (.int b)), some (.own A), some (.val d), none, none], ss⟩ := by
  simp [g_all_held_0, b_all_held_0, hA, hm, h, many]
theorem ah_go (nm sz md : D) (b : Int) (B : Nat) (hB : b = B) (hB2 : 2 ≤ B ∧ B ≤ 61) (ss : SS) : ∀ (ds : List D) (k : Nat) (x5 : Option TD.Slot), k + ds.length ≤ 1000 → B ^ k ≤ 256 →
    if B ^ (k + ds.length) ≤ 256 then ∃ y, sForGo g_all_held_0 b_all_held_0 ds ⟨[some (.val nm), some (.val sz), some (.val md), some (.val (.int b)), some (.own (rwD (rows B k))), x5, none, none], ss⟩ = .nx ⟨[some (.val nm), some (.val sz), some (.val md), some (.val (.int b)), some (.own (rwD (rows B (k + ds.length)))), y, none, none], ss⟩
    else ∃ w, w.ss = ss ∧ sForGo g_all_held_0 b_all_held_0 ds ⟨[some (.val nm), some (.val sz), some (.val md), some (.val (.int b)), some (.own (rwD (rows B k))), x5, none, none], ss⟩ = .exc many w
  | [], k, x5, hk, hl => by
    simp only [List.length_nil, Nat.add_zero]
    rw [if_pos hl]
    exact ⟨x5, rfl⟩
  | d :: ds, k, x5, hk, hl => by
    simp only [List.length_cons] at hk ⊢
    have hlen : ((rwD (rows B k)).length : Int) = ((B ^ k : Nat) : Int) := by rw [rwD, List.length_map, rows_len]
    have hm : mulOk ((B ^ k : Nat) : Int) b = true := mulOk_r _ _ (by omega)
    have hp : ((B ^ k : Nat) : Int) * b = ((B ^ (k + 1) : Nat) : Int) := by rw [hB, Nat.pow_succ, Int.natCast_mul]
    by_cases h : B ^ (k + 1) ≤ 256
    · have ih := ah_go nm sz md b B hB hB2 ss ds (k + 1) (some (.val d)) (by omega) h
      have e : k + (ds.length + 1) = k + 1 + ds.length := by omega
      rw [e]
      rw [sForGo_cons, ah_body nm sz md d b _ _ _ hlen hm x5 ss (by rw [hp]; omega) (ah_comp nm sz md d b B hB ⟨by omega, hB2.2⟩ k (by omega) h _ ss)]
      exact ih
    · have h2 : ¬ B ^ (k + (ds.length + 1)) ≤ 256 := by
        have := Nat.pow_le_pow_right (show 0 < B by omega) (show k + 1 ≤ k + (ds.length + 1) by omega)
        omega
      rw [if_neg h2, sForGo_cons, ah_stop nm sz md d b _ _ hlen hm x5 ss (by rw [hp]; omega)]
      exact ⟨_, rfl, rfl⟩
theorem ah_run (x : Nm) (hx : x ≠ .gr) (n md b : Int) (hb : b = if x = .inn then md else 2) (hs : small n = true) (ss : SS) (R : List D) (y : Option TD.Slot) (m : m_must_be_puzzle [nmD x, .int n, .int md] ss = .ok .non ss)
    (q : sForGo g_all_held_0 b_all_held_0 (rngD 0 n) ⟨[some (.val (nmD x)), some (.val (.int n)), some (.val (.int md)), some (.val (.int b)), some (.own [.tup []]), none, none, none], ss⟩ = .nx ⟨[some (.val (nmD x)), some (.val (.int n)), some (.val (.int md)), some (.val (.int b)), some (.own R), y, none, none], ss⟩) : m_all_held [nmD x, .int n, .int md] ss = .ok (.tup R) ss := by
  cases x with
  | gr => exact absurd rfl hx
  | me =>
    have hb : b = 2 := hb
    subst hb
    simp only [nmD, s_me] at m q ⊢
    simp [m_all_held, e_all_held, m, hs, q]
  | inn =>
    have hb : b = md := hb
    subst hb
    simp only [nmD, s_inn] at m q ⊢
    simp [m_all_held, e_all_held, m, hs, q]
theorem ah_run_no (x : Nm) (hx : x ≠ .gr) (n md b : Int) (hb : b = if x = .inn then md else 2) (hs : small n = true) (ss : SS) (w : W) (hw : w.ss = ss) (m : m_must_be_puzzle [nmD x, .int n, .int md] ss = .ok .non ss)
    (q : sForGo g_all_held_0 b_all_held_0 (rngD 0 n) ⟨[some (.val (nmD x)), some (.val (.int n)), some (.val (.int md)), some (.val (.int b)), some (.own [.tup []]), none, none, none], ss⟩ = .exc many w) : m_all_held [nmD x, .int n, .int md] ss = .exc many ss := by
  obtain ⟨e, s⟩ := w
  cases hw
  cases x with
  | gr => exact absurd rfl hx
  | me =>
    have hb : b = 2 := hb
    subst hb
    simp only [nmD, s_me] at m q ⊢
    simp [m_all_held, e_all_held, m, hs, q]
  | inn =>
    have hb : b = md := hb
    subst hb
    simp only [nmD, s_inn] at m q ⊢
    simp [m_all_held, e_all_held, m, hs, q]
/-- how many things can be held -/
def cnt (x : Nm) (n : Nat) (md : Int) : Nat := if x = .gr then n else bs x md ^ n
/-- the things -/
def hel (x : Nm) (n : Nat) (md : Int) : List D := if x = .gr then (List.range n).map fun (i : Nat) => D.int (i : Int) else rwD (rows (bs x md) n)
theorem hel_len (x : Nm) (n : Nat) (md : Int) : (hel x n md).length = cnt x n md := by
  unfold hel cnt
  split
  · simp
  · rw [rwD, List.length_map, rows_len]
theorem bs_int {x : Nm} {n md : Int} (h : Pz x n md) : ((bs x md : Nat) : Int) = if x = .inn then md else 2 := by
  unfold bs
  split
  · rename_i e
    have := primes_rng md (h.pr e)
    omega
  · rfl
theorem all_held_eq {x : Nm} {n : Nat} {md : Int} (h : Pz x n md) (ss : SS) : m_all_held [nmD x, .int n, .int md] ss = if cnt x n md ≤ 256 then .ok (.tup (hel x n md)) ss else .exc many ss := by
  have m := must_yes h ss
  have h1 := h.lo
  have h2 := h.hi
  have hs : small (n : Int) = true := small_len (by omega)
  by_cases hx : x = .gr
  · subst hx
    have e1 : cnt .gr n md = n := rfl
    have e2 : rngD 0 (n : Int) = hel .gr n md := by
      have := rng_map n (fun d => some d) (fun (i : Nat) => D.int (i : Int)) fun i _ => rfl
      rw [List.filterMap_some] at this
      exact this
    rw [e1, ← e2]
    simp only [nmD, s_gr] at m ⊢
    by_cases h3 : n ≤ 256
    · rw [if_pos h3]
      have h4 : ¬ (256 : Int) < n := by omega
      have h5 : (0 : Int) ≤ n ∧ (n : Int) ≤ 1000000 := by omega
      generalize (n : Int) = N at *
      simp [m_all_held, e_all_held, m, h4, h5]
    · rw [if_neg h3]
      have h4 : (256 : Int) < n := by omega
      generalize (n : Int) = N at *
      simp [m_all_held, e_all_held, m, h4, many]
  · have hB := bs_ge h
    have e1 : cnt x n md = bs x md ^ n := by unfold cnt; rw [if_neg hx]
    have e2 : hel x n md = rwD (rows (bs x md) n) := by unfold hel; rw [if_neg hx]
    have hl : (rngD 0 (n : Int)).length = n := by simp [rngD]
    have r0 : rwD (rows (bs x md) 0) = [.tup []] := rfl
    have g := ah_go (nmD x) (.int n) (.int md) (bs x md : Nat) (bs x md) rfl hB ss (rngD 0 n) 0 none (by omega) (by simp)
    rw [hl, r0, Nat.zero_add] at g
    rw [e1, e2]
    by_cases h3 : bs x md ^ n ≤ 256
    · rw [if_pos h3] at g ⊢
      obtain ⟨y, g⟩ := g
      exact ah_run x hx n md _ (bs_int h) hs ss _ y m g
    · rw [if_neg h3] at g ⊢
      obtain ⟨w, hw, g⟩ := g
      exact ah_run_no x hx n md _ (bs_int h) hs ss w hw m g
theorem all_held_no {z n md : D} {ss : SS} (h : m_must_be_puzzle [z, n, md] ss = .exc badP ss) : m_all_held [z, n, md] ss = .exc badP ss := by
  simp [m_all_held, e_all_held, h]
end K43

set_option Elab.async false
set_option linter.all false
set_option maxRecDepth 100000
set_option maxHeartbeats 4000000
namespace K43
open PySem PySem.Spec PyProof.Rows L2 TD TP
open K31 (isCnt dI)
/-! ### counting up -/
theorem wh_end (x0 x1 x2 x3 x4 x6 x7 x8 : Option TD.Slot) (ln : List D) (ss : SS) (n : Nat) : sWhGo t__law_helds_0 b__law_helds_0 (n + 1) ⟨[x0, x1, x2, x3, x4, some (.own ln), x6, x7, x8, some (.val (.int (-1)))], ss⟩ = .nx ⟨[x0, x1, x2, x3, x4, some (.own ln), x6, x7, x8, some (.val (.int (-1)))], ss⟩ := by
  rw [sWhGo_succ]
  generalize sWhGo t__law_helds_0 b__law_helds_0 n = kk
  simp [t__law_helds_0]
theorem wh_stop (x0 x1 x2 x3 x6 x7 x8 : Option TD.Slot) (mo at' v : Int) (ln : List D) (h0 : 0 ≤ at') (h : atI ln at' = some (.int v)) (hne : v ≠ mo) (ss : SS) (n : Nat) : sWhGo t__law_helds_0 b__law_helds_0 (n + 1) ⟨[x0, x1, x2, x3, some (.val (.int mo)), some (.own ln), x6, x7, x8, some (.val (.int at'))], ss⟩ = .nx ⟨[x0, x1, x2, x3, some (.val (.int mo)), some (.own ln), x6, x7, x8, some (.val (.int at'))], ss⟩ := by
  rw [sWhGo_succ]
  generalize sWhGo t__law_helds_0 b__law_helds_0 n = kk
  simp [t__law_helds_0, h0, h, hne]
theorem wh_more (x0 x1 x2 x3 x6 x7 x8 : Option TD.Slot) (mo at' : Int) (ln ln' : List D) (j : Nat) (h0 : 0 ≤ at') (h : atI ln at' = some (.int mo)) (hj : ixN ln.length at' = some j) (hs : ln.set j (.int 0) = ln') (ss : SS) (n : Nat) : sWhGo t__law_helds_0 b__law_helds_0 (n + 1) ⟨[x0, x1, x2, x3, some (.val (.int mo)), some (.own ln), x6, x7, x8, some (.val (.int at'))], ss⟩ = sWhGo t__law_helds_0 b__law_helds_0 n ⟨[x0, x1, x2, x3, some (.val (.int mo)), some (.own ln'), x6, x7, x8, some (.val (.int (at' - 1)))], ss⟩ := by
  rw [sWhGo_succ]
  generalize sWhGo t__law_helds_0 b__law_helds_0 n = kk
  simp [t__law_helds_0, b__law_helds_0, h0, h, hj, hs]
theorem ixN_nat {n j : Nat} (h : j < n) : ixN n (j : Int) = some j := by
  unfold ixN
  rw [if_pos (by omega), if_pos (by omega)]
  rfl
theorem wh_go (x0 x1 x2 x3 x6 x7 x8 : Option TD.Slot) (b : Nat) (hb : 2 ≤ b) (mo : Int) (hmo : mo = (b : Int) - 1) (ss : SS) : ∀ (a i c n : Nat), i < b ^ a → a < n →
    (i + 1 = b ^ a → ∃ ln, sWhGo t__law_helds_0 b__law_helds_0 n ⟨[x0, x1, x2, x3, some (.val (.int mo)), some (.own ((dig b a i ++ List.replicate c 0).map D.int)), x6, x7, x8, some (.val (.int ((a : Int) - 1)))], ss⟩ = .nx ⟨[x0, x1, x2, x3, some (.val (.int mo)), some (.own ln), x6, x7, x8, some (.val (.int (-1)))], ss⟩) ∧
    (i + 1 < b ^ a → ∃ (pre : List Int) (v : Int) (post : List Int), sWhGo t__law_helds_0 b__law_helds_0 n ⟨[x0, x1, x2, x3, some (.val (.int mo)), some (.own ((dig b a i ++ List.replicate c 0).map D.int)), x6, x7, x8, some (.val (.int ((a : Int) - 1)))], ss⟩ = .nx ⟨[x0, x1, x2, x3, some (.val (.int mo)), some (.own ((pre ++ v :: post).map D.int)), x6, x7, x8, some (.val (.int pre.length))], ss⟩ ∧ pre ++ (v + 1) :: post = dig b a (i + 1) ++ List.replicate c 0)
  | 0, i, c, n, hi, hn => by
    obtain ⟨m, rfl⟩ : ∃ m, n = m + 1 := ⟨n - 1, by omega⟩
    have hi : i < 1 := by simpa using hi
    refine ⟨fun _ => ⟨(dig b 0 i ++ List.replicate c 0).map D.int, ?_⟩, fun h => ?_⟩
    · exact wh_end x0 x1 x2 x3 _ x6 x7 x8 _ ss m
    · have h : i + 1 < 1 := by simpa using h
      omega
  | a + 1, i, c, n, hi, hn => by
    obtain ⟨m, rfl⟩ : ∃ m, n = m + 1 := ⟨n - 1, by omega⟩
    have hb0 : 0 < b := by omega
    have hr := Nat.mod_lt i hb0
    have hdm := Nat.div_add_mod i b
    have hq : i / b < b ^ a := by rw [Nat.div_lt_iff_lt_mul hb0, ← Nat.pow_succ]; exact hi
    have hl : (dig b a (i / b)).length = a := dig_len b a _
    have hc : ((a + 1 : Nat) : Int) - 1 = (a : Int) := by omega
    rw [hc]
    have e1 : dig b (a + 1) i ++ List.replicate c 0 = dig b a (i / b) ++ ((i % b : Nat) : Int) :: List.replicate c 0 := by rw [dig, List.append_assoc]; rfl
    rw [e1]
    have hat : atI ((dig b a (i / b) ++ ((i % b : Nat) : Int) :: List.replicate c 0).map D.int) (a : Int) = some (.int ((i % b : Nat) : Int)) := by
      rw [atI_map, atI_pre _ _ _ _ (by rw [hl])]; rfl
    by_cases hmod : i % b = b - 1
    · have hm1 : ((i % b : Nat) : Int) = mo := by omega
      have hs : ((dig b a (i / b) ++ ((i % b : Nat) : Int) :: List.replicate c 0).map D.int).set a (.int 0) = (dig b a (i / b) ++ List.replicate (c + 1) 0).map D.int := by
        rw [List.map_append, List.set_append, if_neg (by simp [hl])]
        simp [hl, List.replicate_succ]
      rw [hm1] at hat hs ⊢
      have step := wh_more x0 x1 x2 x3 x6 x7 x8 mo a _ _ a (by omega) hat (ixN_nat (by simp [hl])) hs ss m
      rw [step]
      obtain ⟨ih1, ih2⟩ := wh_go x0 x1 x2 x3 x6 x7 x8 b hb mo hmo ss a (i / b) (c + 1) m hq (by omega)
      have hsucc : i + 1 = b * (i / b + 1) := by rw [Nat.mul_add, Nat.mul_one]; omega
      have hpow : b ^ (a + 1) = b * b ^ a := by rw [Nat.pow_succ, Nat.mul_comm]
      refine ⟨fun h => ih1 ?_, fun h => ?_⟩
      · rw [hsucc, hpow] at h
        exact Nat.eq_of_mul_eq_mul_left hb0 h
      · rw [hsucc, hpow] at h
        obtain ⟨pre, v, post, e, e2⟩ := ih2 (Nat.lt_of_mul_lt_mul_left h)
        refine ⟨pre, v, post, e, ?_⟩
        rw [e2, dig, hsucc, Nat.mul_div_cancel_left _ hb0, Nat.mul_mod_right]
        simp [List.replicate_succ]
    · have hne : ((i % b : Nat) : Int) ≠ mo := by omega
      have hd : (i + 1) / b = i / b := by
        have : i + 1 = (i % b + 1) + b * (i / b) := by omega
        rw [this, Nat.add_mul_div_left _ _ hb0, Nat.div_eq_of_lt (by omega), Nat.zero_add]
      have hm : (i + 1) % b = i % b + 1 := by
        have : i + 1 = (i % b + 1) + b * (i / b) := by omega
        rw [this, Nat.add_mul_mod_self_left, Nat.mod_eq_of_lt (by omega)]
      refine ⟨fun h => ?_, fun _ => ⟨dig b a (i / b), ((i % b : Nat) : Int), List.replicate c 0, ?_, ?_⟩⟩
      · exfalso
        have : (i + 1) % b = 0 := by rw [h, Nat.pow_succ, Nat.mul_mod_left]
        omega
      · rw [wh_stop x0 x1 x2 x3 x6 x7 x8 mo a _ _ (by omega) hat hne ss m, hl]
      · rw [dig, hd, hm, List.append_assoc]
        simp
theorem turn_stop (x0 x2 x3 x6 x7 : Option TD.Slot) (n mo : Int) (line ln : List D) (d : D) (x8 x9 : Option TD.Slot) (ss : SS) (e : sWhGo t__law_helds_0 b__law_helds_0 fuel ⟨[x0, some (.val (.int n)), x2, x3, some (.val (.int mo)), some (.own line), x6, x7, some (.val d), some (.val (.int (n - 1)))], ss⟩ = .nx ⟨[x0, some (.val (.int n)), x2, x3, some (.val (.int mo)), some (.own ln), x6, x7, some (.val d), some (.val (.int (-1)))], ss⟩) (k : W → RS) :
    oS (g__law_helds_1 d ⟨[x0, some (.val (.int n)), x2, x3, some (.val (.int mo)), some (.own line), x6, x7, x8, x9], ss⟩) (fun w => (b__law_helds_1 w).loop k) = .nx ⟨[x0, some (.val (.int n)), x2, x3, some (.val (.int mo)), some (.own ln), x6, x7, some (.val d), some (.val (.int (-1)))], ss⟩ := by
  simp [g__law_helds_1, b__law_helds_1, sWhile, e]
theorem turn_more (x0 x2 x3 x6 : Option TD.Slot) (n mo p v : Int) (j : Nat) (line ln ln' told : List D) (d : D) (x8 x9 : Option TD.Slot) (ss : SS) (e : sWhGo t__law_helds_0 b__law_helds_0 fuel ⟨[x0, some (.val (.int n)), x2, x3, some (.val (.int mo)), some (.own line), x6, some (.own told), some (.val d), some (.val (.int (n - 1)))], ss⟩ = .nx ⟨[x0, some (.val (.int n)), x2, x3, some (.val (.int mo)), some (.own ln), x6, some (.own told), some (.val d), some (.val (.int p))], ss⟩)
    (h0 : ¬ p < 0) (hat : atI ln p = some (.int v)) (hj : ixN ln.length p = some j) (hs : ln.set j (.int (v + 1)) = ln') (ht : told.length < 1000) (k : W → RS) :
    oS (g__law_helds_1 d ⟨[x0, some (.val (.int n)), x2, x3, some (.val (.int mo)), some (.own line), x6, some (.own told), x8, x9], ss⟩) (fun w => (b__law_helds_1 w).loop k) = k ⟨[x0, some (.val (.int n)), x2, x3, some (.val (.int mo)), some (.own ln'), x6, some (.own (told ++ [.tup ln'])), some (.val d), some (.val (.int p))], ss⟩ := by
  have ht' : told.length < 1000000 := by omega
  simp [g__law_helds_1, b__law_helds_1, sWhile, e, h0, hat, hj, hs, ht']
theorem count_go (x0 x2 x3 x6 : Option TD.Slot) (b : Nat) (hb : 2 ≤ b) (mo : Int) (hmo : mo = (b : Int) - 1) (n : Nat) (hn : n ≤ 1000) (hbn : b ^ n ≤ 256) (ss : SS) : ∀ (m : Nat) (ds : List D) (i : Nat) (x8 x9 : Option TD.Slot), i + m + 1 = b ^ n → m < ds.length →
    ∃ ln y8 y9, sForGo g__law_helds_1 b__law_helds_1 ds ⟨[x0, some (.val (.int n)), x2, x3, some (.val (.int mo)), some (.own ((dig b n i).map D.int)), x6, some (.own (((List.range (i + 1)).map (dig b n)).map dI)), x8, x9], ss⟩ =
      .nx ⟨[x0, some (.val (.int n)), x2, x3, some (.val (.int mo)), some (.own ln), x6, some (.own (rwD (rows b n))), y8, y9], ss⟩
  | m, [], i, x8, x9, hi, hm => by simp at hm
  | 0, d :: ds, i, x8, x9, hi, hm => by
    have hf : n < fuel := by unfold fuel; omega
    obtain ⟨w1, _⟩ := wh_go x0 (some (.val (.int n))) x2 x3 x6 (some (.own (((List.range (i + 1)).map (dig b n)).map dI))) (some (.val d)) b hb mo hmo ss n i 0 fuel (by omega) hf
    obtain ⟨ln, e⟩ := w1 (by omega)
    rw [List.replicate_zero, List.append_nil] at e
    refine ⟨ln, some (.val d), some (.val (.int (-1))), ?_⟩
    rw [sForGo_cons, turn_stop _ _ _ _ _ n mo _ ln d x8 x9 ss e]
    have : i + 1 = b ^ n := by omega
    rw [this]
    rfl
  | m + 1, d :: ds, i, x8, x9, hi, hm => by
    have hf : n < fuel := by unfold fuel; omega
    obtain ⟨_, w2⟩ := wh_go x0 (some (.val (.int n))) x2 x3 x6 (some (.own (((List.range (i + 1)).map (dig b n)).map dI))) (some (.val d)) b hb mo hmo ss n i 0 fuel (by omega) hf
    obtain ⟨pre, v, post, e, e2⟩ := w2 (by omega)
    rw [List.replicate_zero, List.append_nil] at e e2
    have hat : atI ((pre ++ v :: post).map D.int) (pre.length : Int) = some (.int v) := by rw [atI_map, atI_pre pre v post _ rfl]; rfl
    have hs : ((pre ++ v :: post).map D.int).set pre.length (.int (v + 1)) = (dig b n (i + 1)).map D.int := by
      rw [← e2, List.map_append, List.set_append, if_neg (by simp)]
      simp
    have step := turn_more x0 x2 x3 x6 n mo pre.length v pre.length _ _ _ (((List.range (i + 1)).map (dig b n)).map dI) d x8 x9 ss e (by omega) hat (ixN_nat (by simp)) hs (by simp; omega) (sForGo g__law_helds_1 b__law_helds_1 ds)
    obtain ⟨ln, y8, y9, ih⟩ := count_go x0 x2 x3 x6 b hb mo hmo n hn hbn ss m ds (i + 1) (some (.val d)) (some (.val (.int pre.length))) (by omega) (by simpa using hm)
    refine ⟨ln, y8, y9, ?_⟩
    rw [sForGo_cons, step, ← ih, List.range_succ (n := i + 1)]
    simp [dI]
theorem lh_gr (n md : Int) (V : List D) (ss : SS) (hs : small n = true) (q : lcGo [3] (gsName 3) mYes (mVar 3) (rngD 0 n) [] ⟨[some (.val (nmD .gr)), some (.val (.int n)), some (.val (.int md)), none, none, none, none, none, none, none], ss⟩ = .ok V ⟨[some (.val (nmD .gr)), some (.val (.int n)), some (.val (.int md)), none, none, none, none, none, none, none], ss⟩) : m__law_helds [nmD .gr, .int n, .int md] ss = .ok (.lst V) ss := by
  simp only [nmD, s_gr] at q ⊢
  simp [m__law_helds, e__law_helds, hs, q]
theorem lh_run (x : Nm) (hx : x ≠ .gr) (n md mo : Int) (hmo : mo = if x = .inn then md - 1 else 1) (Z R ln : List D) (y8 y9 : Option TD.Slot) (ss : SS) (hs : small n = true) (hs2 : small 256 = true) (hZ : Z.length ≤ 1000)
    (q : lcGo [6] (gsName 6) mYes (mC (.int 0)) (rngD 0 n) [] ⟨[some (.val (nmD x)), some (.val (.int n)), some (.val (.int md)), none, some (.val (.int mo)), none, none, none, none, none], ss⟩ = .ok Z ⟨[some (.val (nmD x)), some (.val (.int n)), some (.val (.int md)), none, some (.val (.int mo)), none, none, none, none, none], ss⟩)
    (q2 : sForGo g__law_helds_1 b__law_helds_1 (rngD 0 256) ⟨[some (.val (nmD x)), some (.val (.int n)), some (.val (.int md)), none, some (.val (.int mo)), some (.own Z), none, some (.own [.tup Z]), none, none], ss⟩ = .nx ⟨[some (.val (nmD x)), some (.val (.int n)), some (.val (.int md)), none, some (.val (.int mo)), some (.own ln), none, some (.own R), y8, y9], ss⟩) :
    m__law_helds [nmD x, .int n, .int md] ss = .ok (.lst R) ss := by
  cases x with
  | gr => exact absurd rfl hx
  | me =>
    have hmo : mo = 1 := hmo
    subst hmo
    simp only [nmD, s_me] at q q2 ⊢
    simp [m__law_helds, e__law_helds, hs, hs2, q, q2]
  | inn =>
    have hmo : mo = md - 1 := hmo
    subst hmo
    simp only [nmD, s_inn] at q q2 ⊢
    simp [m__law_helds, e__law_helds, hs, hs2, q, q2]
theorem dig_zero (b : Nat) : ∀ n, dig b n 0 = List.replicate n 0
  | 0 => rfl
  | n + 1 => by rw [dig, Nat.zero_div, dig_zero b n, Nat.zero_mod, List.replicate_succ']; rfl
theorem law_helds_eq {x : Nm} {n : Nat} {md : Int} (h : Pz x n md) (hc : cnt x n md ≤ 256) (ss : SS) : m__law_helds [nmD x, .int n, .int md] ss = .ok (.lst (hel x n md)) ss := by
  have h1 := h.lo
  have h2 := h.hi
  have hs : small (n : Int) = true := small_len (by omega)
  by_cases hx : x = .gr
  · subst hx
    have q := lc_rng (v := 3) (me := mVar 3) (fun (i : Nat) => D.int (i : Int)) [some (.val (nmD .gr)), some (.val (.int n)), some (.val (.int md)), none, none, none, none, none, none, none] n (by omega) ss fun i hi => by simp [lcStep]
    exact lh_gr n md _ ss hs q
  · have hB := bs_ge h
    have e1 : cnt x n md = bs x md ^ n := by unfold cnt; rw [if_neg hx]
    have e2 : hel x n md = rwD (rows (bs x md) n) := by unfold hel; rw [if_neg hx]
    rw [e1] at hc
    rw [e2]
    have hbi := bs_int h
    have hmo : ((bs x md : Nat) : Int) - 1 = if x = .inn then md - 1 else 1 := by rw [hbi]; split <;> rfl
    have q := lc_rng (v := 6) (me := mC (.int 0)) (fun (i : Nat) => D.int 0) [some (.val (nmD x)), some (.val (.int n)), some (.val (.int md)), none, some (.val (.int (((bs x md : Nat) : Int) - 1))), none, none, none, none, none] n (by omega) ss fun i hi => by simp [lcStep]
    have e3 : (List.range n).map (fun (i : Nat) => D.int 0) = (dig (bs x md) n 0).map D.int := by rw [dig_zero, List.map_const', List.length_range, List.map_replicate]
    rw [e3] at q
    have hp : 1 ≤ bs x md ^ n := Nat.one_le_pow _ _ (by omega)
    obtain ⟨ln, y8, y9, q2⟩ := count_go (some (.val (nmD x))) (some (.val (.int md))) none none (bs x md) hB.1 _ rfl n (by omega) hc ss (bs x md ^ n - 1) (rngD 0 256) 0 none none (by omega) (by simp [rngD]; omega)
    refine lh_run x hx n md _ hmo _ _ ln y8 y9 ss hs (by decide) (by simp [dig_len]; omega) q ?_
    have e4 : ((List.range (0 + 1)).map (dig (bs x md) n)).map dI = [.tup ((dig (bs x md) n 0).map D.int)] := rfl
    rw [e4] at q2
    exact q2
end K43

set_option Elab.async false
set_option linter.all false
set_option maxRecDepth 100000
set_option maxHeartbeats 4000000
namespace K43
open PySem PySem.Spec PyProof.Rows L2 TD TP
open K31 (isCnt dI)
/-! ### numbers -/
def isInt (d : D) : Bool := match d with | .int _ => true | _ => false
theorem is_int_eq (d : D) (hd : d ≠ .src) (ss : SS) : m__law_is_int [d] ss = .ok (.bl (isInt d)) ss := by
  cases d with
  | src => exact absurd rfl hd
  | _ => simp [m__law_is_int, e__law_is_int, isInt]
def numb (d : D) : Bool := match d with | .tup ds => ds.all isInt | _ => false
def NoS (d : D) : Prop := match d with
  | .src => False
  | .tup ds => (∀ e ∈ ds, e ≠ .src) ∧ ds.length ≤ 2000
  | _ => True
theorem NoS.ne {d : D} (h : NoS d) : d ≠ .src := by rintro rfl; exact h
theorem num_run (ds F : List D) (ss : SS) (q : lcGo [1] (gsName 1) (mNotT (mTru (mCall 1 m__law_is_int (mCons (mVar 1) (mNil))))) (mVar 1) ds [] ⟨[some (.val (.tup ds)), none], ss⟩ = .ok F ⟨[some (.val (.tup ds)), none], ss⟩) : m__law_numbers [.tup ds] ss = .ok (.bl (decide (F = []))) ss := by
  simp [m__law_numbers, e__law_numbers, q]
  cases F <;> simp
  omega
theorem fm_nil {α β : Type} (p : α → Bool) (f : α → β) (l : List α) : decide ((l.filterMap fun d => if p d = true then none else some (f d)) = []) = l.all p := by
  rw [Bool.eq_iff_iff, decide_eq_true_iff, List.filterMap_eq_nil_iff, List.all_eq_true]
  refine forall_congr' fun d => imp_congr_right fun _ => ?_
  cases p d <;> simp
theorem numbers_eq (d : D) (h : NoS d) (ss : SS) : m__law_numbers [d] ss = .ok (.bl (numb d)) ss := by
  cases d with
  | src => exact h.elim
  | tup ds =>
    obtain ⟨h1, h2⟩ := h
    have q := lc_pure (vs := [1]) (set := gsName 1) (mt := mNotT (mTru (mCall 1 m__law_is_int (mCons (mVar 1) (mNil))))) (me := mVar 1) (fun e => if isInt e = true then none else some e) ⟨[some (.val (.tup ds)), none], ss⟩ ds [] (fun e he => by
      simp [lcStep, is_int_eq e (h1 e he)]
      cases isInt e <;> simp) (by simp; omega)
    rw [List.nil_append] at q
    rw [num_run ds _ ss q, fm_nil isInt (fun e => e)]
    rfl
  | _ => simp [m__law_numbers, e__law_numbers, numb]
theorem hel_mem {x : Nm} {n : Nat} {md : Int} {d : D} (h : d ∈ hel x n md) : (x = .gr ∧ ∃ i : Nat, i < n ∧ d = .int i) ∨ (x ≠ .gr ∧ ∃ i : Nat, d = dI (dig (bs x md) n i)) := by
  unfold hel at h
  split at h
  · obtain ⟨i, hi, rfl⟩ := List.mem_map.mp h
    exact .inl ⟨by assumption, i, by simpa using hi, rfl⟩
  · obtain ⟨r, hr, rfl⟩ := List.mem_map.mp h
    unfold rows at hr
    obtain ⟨i, _, rfl⟩ := List.mem_map.mp hr
    exact .inr ⟨by assumption, i, rfl⟩
theorem nos_row (l : List Int) (h : l.length ≤ 1000) : NoS (dI l) := ⟨fun e he => by
  obtain ⟨i, _, rfl⟩ := List.mem_map.mp he
  simp, by simp; omega⟩
theorem numb_row (l : List Int) : numb (dI l) = true := by
  show (l.map D.int).all isInt = true
  rw [List.all_eq_true]
  intro e he
  obtain ⟨i, _, rfl⟩ := List.mem_map.mp he
  rfl
theorem oks_all (n : Nat) : ∀ ds : List D, (∀ d ∈ ds, d.okb n = true) → D.oks n ds = true
  | [], _ => oks_nil n
  | d :: ds, h => by rw [oks_cons, h d (List.mem_cons_self ..), oks_all n ds fun z hz => h z (List.mem_cons_of_mem _ hz)]; rfl
theorem hel_ok (x : Nm) (n : Nat) (md : Int) : D.oks 63 (hel x n md) = true := oks_all 63 _ fun d hd => by
  rcases hel_mem hd with ⟨_, i, _, rfl⟩ | ⟨_, i, rfl⟩
  · simp
  · simp
theorem hr_gr (n md : D) (V : List D) (ss : SS) (h1 : m_all_held [nmD .gr, n, md] ss = .ok (.tup V) ss) (h2 : m__law_helds [nmD .gr, n, md] ss = .ok (.lst V) ss) (h3 : m__law_numbers [.tup V] ss = .ok (.bl true) ss) (ok : D.oks 63 V = true) : m__law_helds_right [nmD .gr, n, md] ss = .ok (.bl true) ss := by
  have e := eqvs_self V 63 ok
  simp only [nmD, s_gr] at h1 h2 ⊢
  simp [m__law_helds_right, e__law_helds_right, h1, h2, h3, ok, e]
theorem hr_no (x : Nm) (hx : x ≠ .gr) (n md : D) (V : List D) (ss : SS) (h1 : m_all_held [nmD x, n, md] ss = .ok (.tup V) ss) (h2 : m__law_helds [nmD x, n, md] ss = .ok (.lst V) ss) (ok : D.oks 63 V = true)
    (q : lcGo [4] (gsName 4) (mNotT (mTru (mCall 1 m__law_numbers (mCons (mVar 4) (mNil))))) (mVar 4) V [] ⟨[some (.val (nmD x)), some (.val n), some (.val md), some (.val (.tup V)), none], ss⟩ = .ok [] ⟨[some (.val (nmD x)), some (.val n), some (.val md), some (.val (.tup V)), none], ss⟩) : m__law_helds_right [nmD x, n, md] ss = .ok (.bl true) ss := by
  have e := eqvs_self V 63 ok
  cases x with
  | gr => exact absurd rfl hx
  | me =>
    simp only [nmD, s_me] at h1 h2 q ⊢
    simp [m__law_helds_right, e__law_helds_right, h1, h2, q, ok, e]
  | inn =>
    simp only [nmD, s_inn] at h1 h2 q ⊢
    simp [m__law_helds_right, e__law_helds_right, h1, h2, q, ok, e]
theorem helds_right {x : Nm} {n : Nat} {md : Int} (h : Pz x n md) (hc : cnt x n md ≤ 256) (ss : SS) : m__law_helds_right [nmD x, .int n, .int md] ss = .ok (.bl true) ss := by
  have h1 := all_held_eq h ss
  rw [if_pos hc] at h1
  have h2 := law_helds_eq h hc ss
  have hl := hel_len x n md
  have hn := h.hi
  by_cases hx : x = .gr
  · subst hx
    refine hr_gr _ _ _ ss h1 h2 ?_ (hel_ok _ _ _)
    have hno : NoS (.tup (hel .gr n md)) := ⟨fun e he => by
      rcases hel_mem he with ⟨_, i, _, rfl⟩ | ⟨h, _⟩
      · simp
      · exact absurd rfl h, by omega⟩
    rw [numbers_eq _ hno]
    congr 2
    show (hel .gr n md).all isInt = true
    rw [List.all_eq_true]
    intro e he
    rcases hel_mem he with ⟨_, i, _, rfl⟩ | ⟨h, _⟩
    · rfl
    · exact absurd rfl h
  · refine hr_no x hx _ _ _ ss h1 h2 (hel_ok _ _ _) ?_
    have q := lc_pure (vs := [4]) (set := gsName 4) (mt := mNotT (mTru (mCall 1 m__law_numbers (mCons (mVar 4) (mNil))))) (me := mVar 4) (fun e => none) ⟨[some (.val (nmD x)), some (.val (.int n)), some (.val (.int md)), some (.val (.tup (hel x n md))), none], ss⟩ (hel x n md) [] (fun e he => by
      rcases hel_mem he with ⟨hg, _⟩ | ⟨_, i, rfl⟩
      · exact absurd hg hx
      · have hne : NoS (dI (dig (bs x md) n i)) := nos_row _ (by rw [dig_len]; omega)
        have e1 := numbers_eq (dI (dig (bs x md) n i)) hne ss
        rw [numb_row] at e1
        generalize dI (dig (bs x md) n i) = R at e1 ⊢
        generalize hel x n md = HL
        generalize nmD x = NX
        simp [lcStep, e1]) (by simp; omega)
    rw [q]
    simp
/-! ### values -/
def ip (r q : List Int) : Int := (List.zipWith (· * ·) r q).sum
def vl (x : Nm) (md : Int) (r q : List Int) : Int := if x = .inn then ip r q % md else ip r q
def unI : List D → List Int
  | [] => []
  | .int i :: l => i :: unI l
  | _ :: l => unI l
theorem unI_map : ∀ l : List Int, unI (l.map D.int) = l
  | [] => rfl
  | i :: l => by rw [List.map_cons, unI, unI_map l]
/-- the value of two things -/
def vD (x : Nm) (md : Int) (d e : D) : Int := match d, e with
  | .int i, .int j => if i ≤ j then 1 else 0
  | .tup r, .tup q => vl x md (unI r) (unI q)
  | _, _ => 0
theorem vD_row (x : Nm) (md : Int) (r q : List Int) : vD x md (dI r) (dI q) = vl x md r q := by
  show vl x md (unI (r.map D.int)) (unI (q.map D.int)) = _
  rw [unI_map, unI_map]
theorem vo_gr (md : D) (i j : Int) (ss : SS) : m_value_of [nmD .gr, md, .int i, .int j] ss = .ok (.int (if i ≤ j then 1 else 0)) ss := by
  simp only [nmD, s_gr]
  by_cases h : i ≤ j <;> simp [m_value_of, e_value_of, h]
theorem lv_gr (md : D) (i j : Int) (ss : SS) : m__law_value [nmD .gr, md, .int i, .int j] ss = .ok (.int (if i ≤ j then 1 else 0)) ss := by
  simp only [nmD, s_gr]
  by_cases h : i ≤ j
  · have h' : ¬ j < i := by omega
    simp [m__law_value, e__law_value, h, h']
  · have h' : j < i := by omega
    simp [m__law_value, e__law_value, h, h']
theorem vo_run (x : Nm) (hx : x ≠ .gr) (md : Int) (hmd : x = .inn → divOk md = true ∧ ∀ j, mulOk md j = true) (R Q : List D) (L : List Int) (ss : SS)
    (q : lcGo [5, 6] (gsTup 2 (gsCons (gsName 5) (gsCons (gsName 6) (gsNil)))) (mYes) (mBin gMul (mVar 5) (mVar 6)) (zipD R Q) [] ⟨[some (.val (nmD x)), some (.val (.int md)), some (.val (.tup R)), some (.val (.tup Q)), none, none, none], ss⟩ = .ok (L.map D.int) ⟨[some (.val (nmD x)), some (.val (.int md)), some (.val (.tup R)), some (.val (.tup Q)), none, none, none], ss⟩) :
    m_value_of [nmD x, .int md, .tup R, .tup Q] ss = .ok (.int (if x = .inn then L.sum % md else L.sum)) ss := by
  have gS : gSum [.lst (L.map D.int)] = some (.int L.sum) := by
    show (ints? (L.map D.int)).map _ = _
    rw [TP.ints_map]; rfl
  generalize L.map D.int = LD at q gS
  cases x with
  | gr => exact absurd rfl hx
  | me =>
    have e : (if Nm.me = .inn then L.sum % md else L.sum) = L.sum := if_neg (by decide)
    rw [e]
    generalize L.sum = S at gS ⊢
    simp only [nmD, s_me] at q ⊢
    simp [m_value_of, e_value_of, q, gS]
  | inn =>
    obtain ⟨h1, h2⟩ := hmd rfl
    have e : (if Nm.inn = .inn then L.sum % md else L.sum) = L.sum - md * (L.sum / md) := by rw [if_pos rfl, Int.emod_def]
    rw [e]
    generalize L.sum = S at gS ⊢
    simp only [nmD, s_inn] at q ⊢
    simp [m_value_of, e_value_of, q, gS, h1, h2]
theorem zip_ip : ∀ r q : List Int, (zipD (r.map D.int) (q.map D.int)).filterMap (fun d => match d with | .tup [.int a, .int b] => some (D.int (a * b)) | _ => none) = (List.zipWith (· * ·) r q).map D.int
  | [], q => by simp [zipD]
  | a :: r, [] => by simp [zipD]
  | a :: r, b :: q => by
    have ih := zip_ip r q
    unfold zipD at ih ⊢
    exact congrArg (D.int (a * b) :: ·) ih
theorem mem_zip2 {r q : List Int} {d : D} (h : d ∈ zipD (r.map D.int) (q.map D.int)) : ∃ a b, a ∈ r ∧ b ∈ q ∧ d = .tup [.int a, .int b] := by
  induction r generalizing q with
  | nil => simp [zipD] at h
  | cons x r ih =>
    cases q with
    | nil => simp [zipD] at h
    | cons y q =>
      unfold zipD at ih h
      rw [List.map_cons, List.map_cons, List.zipWith_cons_cons] at h
      rcases List.mem_cons.mp h with rfl | h
      · exact ⟨x, y, List.mem_cons_self .., List.mem_cons_self .., rfl⟩
      · obtain ⟨a, b, h1, h2, h3⟩ := ih h
        exact ⟨a, b, List.mem_cons_of_mem _ h1, List.mem_cons_of_mem _ h2, h3⟩
theorem md_ok {x : Nm} {n md : Int} (h : Pz x n md) (hx : x = .inn) : divOk md = true ∧ (∀ j, mulOk md j = true) ∧ 0 < md := by
  have := primes_rng md (h.pr hx)
  refine ⟨divOk_of md (by omega) (Int.lt_of_le_of_lt this.2.1 (by decide +kernel)), fun j => ?_, by omega⟩
  unfold mulOk
  rw [decide_eq_true (show md.natAbs < 2 ^ 64 by have : md.natAbs ≤ 61 := by omega
                                                 omega)]
  rfl
theorem vo_row {x : Nm} {n md : Int} (h : Pz x n md) (hx : x ≠ .gr) (r q : List Int) (hr : r.length ≤ 1000) (hb : ∀ b ∈ q, 0 ≤ b ∧ b < 1000) (ss : SS) : m_value_of [nmD x, .int md, dI r, dI q] ss = .ok (.int (vl x md r q)) ss := by
  have q1 := lc_pure (vs := [5, 6]) (set := gsTup 2 (gsCons (gsName 5) (gsCons (gsName 6) (gsNil)))) (mt := mYes) (me := mBin gMul (mVar 5) (mVar 6)) (fun d => match d with | .tup [.int a, .int b] => some (D.int (a * b)) | _ => none) ⟨[some (.val (nmD x)), some (.val (.int md)), some (.val (.tup (r.map D.int))), some (.val (.tup (q.map D.int))), none, none, none], ss⟩ (zipD (r.map D.int) (q.map D.int)) [] (fun d hd => by
    obtain ⟨a, b, ha, hb', rfl⟩ := mem_zip2 hd
    have hm : mulOk a b = true := mulOk_r _ _ (by have := hb b hb'; omega)
    generalize nmD x = NX
    generalize r.map D.int = R
    generalize q.map D.int = Q
    simp [lcStep, hm]) (by simp [zipD]; omega)
  rw [zip_ip, List.nil_append] at q1
  exact vo_run x hx md (fun e => ⟨(md_ok h e).1, (md_ok h e).2.1⟩) _ _ _ ss q1
theorem lv_body (nm md T Q : D) (s a b i : Int) (hm : mulOk a b = true) (e1 : gIx T (.int i) = some (.int a)) (e2 : gIx Q (.int i) = some (.int b)) (x5 : Option TD.Slot) (ss : SS) (k : W → RS) :
    oS (g__law_value_0 (.int i) ⟨[some (.val nm), some (.val md), some (.val T), some (.val Q), some (.val (.int s)), x5], ss⟩) (fun w => (b__law_value_0 w).loop k) = k ⟨[some (.val nm), some (.val md), some (.val T), some (.val Q), some (.val (.int (s + a * b))), some (.val (.int i))], ss⟩ := by
  simp [g__law_value_0, b__law_value_0, e1, e2, hm]
theorem lv_go (nm md : D) (r q : List Int) (hb : ∀ b ∈ q, 0 ≤ b ∧ b < 1000) (ss : SS) : ∀ (r2 q2 r1 q1 : List Int) (s i : Int) (x5 : Option TD.Slot), r = r1 ++ r2 → q = q1 ++ q2 → r1.length = q1.length → r2.length = q2.length → i = r1.length →
    ∃ y, sForGo g__law_value_0 b__law_value_0 (rngD i r.length) ⟨[some (.val nm), some (.val md), some (.val (dI r)), some (.val (dI q)), some (.val (.int s)), x5], ss⟩ = .nx ⟨[some (.val nm), some (.val md), some (.val (dI r)), some (.val (dI q)), some (.val (.int (s + ip r2 q2))), y], ss⟩
  | [], [], r1, q1, s, i, x5, e1, e2, e3, e4, e5 => by
    have : i = r.length := by rw [e5, e1]; simp
    rw [this, rngD_nil (Int.le_refl _)]
    exact ⟨x5, by simp [ip]⟩
  | [], b :: q2, r1, q1, s, i, x5, e1, e2, e3, e4, e5 => by simp at e4
  | a :: r2, [], r1, q1, s, i, x5, e1, e2, e3, e4, e5 => by simp at e4
  | a :: r2, b :: q2, r1, q1, s, i, x5, e1, e2, e3, e4, e5 => by
    have hlt : i < r.length := by rw [e5, e1]; simp; omega
    have hm : mulOk a b = true := mulOk_r _ _ (by have := hb b (by rw [e2]; simp); omega)
    have g1 : gIx (dI r) (.int i) = some (.int a) := by
      show atI (r.map D.int) i = _
      rw [atI_map, e1, atI_pre r1 a r2 i e5]; rfl
    have g2 : gIx (dI q) (.int i) = some (.int b) := by
      show atI (q.map D.int) i = _
      rw [atI_map, e2, atI_pre q1 b q2 i (by omega)]; rfl
    obtain ⟨y, ih⟩ := lv_go nm md r q hb ss r2 q2 (r1 ++ [a]) (q1 ++ [b]) (s + a * b) (i + 1) (some (.val (.int i))) (by simp [e1]) (by simp [e2]) (by simp [e3]) (by simpa using e4) (by simp [e5])
    refine ⟨y, ?_⟩
    rw [rngD_cons hlt, sForGo_cons, lv_body nm md (dI r) (dI q) s a b i hm g1 g2 x5 ss, ih]
    have : s + a * b + ip r2 q2 = s + ip (a :: r2) (b :: q2) := by simp [ip]; omega
    rw [this]
theorem lv_run (x : Nm) (hx : x ≠ .gr) (md : Int) (hmd : x = .inn → 0 < md) (R : List D) (Q : D) (L S : Int) (y : Option TD.Slot) (ss : SS) (hL : gLen [.tup R] = some (.int L)) (hs : small L = true)
    (q : sForGo g__law_value_0 b__law_value_0 (rngD 0 L) ⟨[some (.val (nmD x)), some (.val (.int md)), some (.val (.tup R)), some (.val Q), some (.val (.int 0)), none], ss⟩ = .nx ⟨[some (.val (nmD x)), some (.val (.int md)), some (.val (.tup R)), some (.val Q), some (.val (.int S)), y], ss⟩) :
    m__law_value [nmD x, .int md, .tup R, Q] ss = .ok (.int (if x = .inn then S % md else S)) ss := by
  simp only [gLen_tup] at hL
  cases x with
  | gr => exact absurd rfl hx
  | me =>
    have e : (if Nm.me = .inn then S % md else S) = S := if_neg (by decide)
    rw [e]
    simp only [nmD, s_me] at q ⊢
    show (e__law_value ⟨[some (.val (.str "meet")), some (.val (.int md)), some (.val (.tup R)), some (.val Q), none, none], ss⟩).fin = _
    unfold e__law_value
    refine nxtF (w' := ⟨[some (.val (.str "meet")), some (.val (.int md)), some (.val (.tup R)), some (.val Q), none, none], ss⟩) (by simp) ?_
    refine nxtF (w' := ⟨[some (.val (.str "meet")), some (.val (.int md)), some (.val (.tup R)), some (.val Q), some (.val (.int 0)), none], ss⟩) (by simp) ?_
    refine nxtF (w' := ⟨[some (.val (.str "meet")), some (.val (.int md)), some (.val (.tup R)), some (.val Q), some (.val (.int S)), y], ss⟩) (by simp [hL, hs, q]) ?_
    refine nxtF (w' := ⟨[some (.val (.str "meet")), some (.val (.int md)), some (.val (.tup R)), some (.val Q), some (.val (.int S)), y], ss⟩) (by simp) ?_
    simp
  | inn =>
    have h1 := hmd rfl
    have e : (if Nm.inn = .inn then S % md else S) = S % md := if_pos rfl
    rw [e]
    simp only [nmD, s_inn] at q ⊢
    show (e__law_value ⟨[some (.val (.str "inner")), some (.val (.int md)), some (.val (.tup R)), some (.val Q), none, none], ss⟩).fin = _
    unfold e__law_value
    refine nxtF (w' := ⟨[some (.val (.str "inner")), some (.val (.int md)), some (.val (.tup R)), some (.val Q), none, none], ss⟩) (by simp) ?_
    refine nxtF (w' := ⟨[some (.val (.str "inner")), some (.val (.int md)), some (.val (.tup R)), some (.val Q), some (.val (.int 0)), none], ss⟩) (by simp) ?_
    refine nxtF (w' := ⟨[some (.val (.str "inner")), some (.val (.int md)), some (.val (.tup R)), some (.val Q), some (.val (.int S)), y], ss⟩) (by simp [hL, hs, q]) ?_
    refine nxtF (w' := ⟨[some (.val (.str "inner")), some (.val (.int md)), some (.val (.tup R)), some (.val Q), some (.val (.int (S % md))), y], ss⟩) (by simp [h1]) ?_
    simp
theorem lv_row {x : Nm} {n md : Int} (h : Pz x n md) (hx : x ≠ .gr) (r q : List Int) (hr : r.length ≤ 1000) (hl : r.length = q.length) (hb : ∀ b ∈ q, 0 ≤ b ∧ b < 1000) (ss : SS) : m__law_value [nmD x, .int md, dI r, dI q] ss = .ok (.int (vl x md r q)) ss := by
  obtain ⟨y, e⟩ := lv_go (nmD x) (.int md) r q hb ss r q [] [] 0 0 none rfl rfl rfl hl rfl
  rw [Int.zero_add] at e
  exact lv_run x hx md (fun e => (md_ok h e).2.2) _ _ r.length _ y ss (by simp) (small_len (by omega)) e
theorem dig_b {x : Nm} {n : Nat} {md : Int} (h : Pz x n md) (i : Nat) : ∀ b ∈ dig (bs x md) n i, 0 ≤ b ∧ b < 1000 := fun b hb => by
  have h1 := bs_ge h
  have := dig_rng (bs x md) (by omega) n i b hb
  omega
theorem value_eq {x : Nm} {n : Nat} {md : Int} (h : Pz x n md) {d e : D} (hd : d ∈ hel x n md) (he : e ∈ hel x n md) (ss : SS) : m_value_of [nmD x, .int md, d, e] ss = .ok (.int (vD x md d e)) ss := by
  have hn := h.hi
  rcases hel_mem hd with ⟨hx, i, _, rfl⟩ | ⟨hx, i, rfl⟩
  · rcases hel_mem he with ⟨_, j, _, rfl⟩ | ⟨h2, _⟩
    · subst hx; exact vo_gr _ _ _ ss
    · exact absurd hx h2
  · rcases hel_mem he with ⟨h2, _⟩ | ⟨_, j, rfl⟩
    · exact absurd h2 hx
    · rw [vD_row]
      exact vo_row h hx _ _ (by rw [dig_len]; omega) (dig_b h j) ss
theorem lvalue_eq {x : Nm} {n : Nat} {md : Int} (h : Pz x n md) {d e : D} (hd : d ∈ hel x n md) (he : e ∈ hel x n md) (ss : SS) : m__law_value [nmD x, .int md, d, e] ss = .ok (.int (vD x md d e)) ss := by
  have hn := h.hi
  rcases hel_mem hd with ⟨hx, i, _, rfl⟩ | ⟨hx, i, rfl⟩
  · rcases hel_mem he with ⟨_, j, _, rfl⟩ | ⟨h2, _⟩
    · subst hx; exact lv_gr _ _ _ ss
    · exact absurd hx h2
  · rcases hel_mem he with ⟨h2, _⟩ | ⟨_, j, rfl⟩
    · exact absurd h2 hx
    · rw [vD_row]
      exact lv_row h hx _ _ (by rw [dig_len]; omega) (by rw [dig_len, dig_len]) (dig_b h j) ss
end K43

set_option Elab.async false
set_option linter.all false
set_option maxRecDepth 100000
set_option maxHeartbeats 4000000
namespace K43
open PySem PySem.Spec PyProof.Rows L2 TD TP
open K31 (isCnt dI)
/-! ### the table -/
def ent (x : Nm) (v : Int) : D := if x = .me ∧ 1 < v then .non else .int v
theorem pt0_body (x : Nm) (sz md HL d e : D) (v : Int) (acc rows : List D) (hacc : acc.length < 1000) (x7 x8 : Option TD.Slot) (ss : SS) (q : m_value_of [nmD x, md, d, e] ss = .ok (.int v) ss) (k : W → RS) :
    oS (g_puzzle_table_0 e ⟨[some (.val (nmD x)), some (.val sz), some (.val md), some (.val HL), some (.own rows), some (.val d), some (.own acc), x7, x8], ss⟩) (fun w => (b_puzzle_table_0 w).loop k) = k ⟨[some (.val (nmD x)), some (.val sz), some (.val md), some (.val HL), some (.own rows), some (.val d), some (.own (acc ++ [ent x v])), some (.val e), some (.val (.int v))], ss⟩ := by
  have ha : acc.length < 1000000 := by omega
  cases x with
  | gr =>
    have e0 : ent .gr v = .int v := if_neg (fun h => by cases h.1)
    rw [e0]
    simp only [nmD, s_gr] at q ⊢
    simp [g_puzzle_table_0, b_puzzle_table_0, q, ha]
  | inn =>
    have e0 : ent .inn v = .int v := if_neg (fun h => by cases h.1)
    rw [e0]
    simp only [nmD, s_inn] at q ⊢
    simp [g_puzzle_table_0, b_puzzle_table_0, q, ha]
  | me =>
    simp only [nmD, s_me] at q ⊢
    by_cases h : 1 < v
    · have e0 : ent .me v = .non := if_pos ⟨rfl, h⟩
      rw [e0]
      simp [g_puzzle_table_0, b_puzzle_table_0, q, ha, h]
    · have e0 : ent .me v = .int v := if_neg (fun h' => h h'.2)
      rw [e0]
      simp [g_puzzle_table_0, b_puzzle_table_0, q, ha, h]
theorem pt0_go (x : Nm) (sz md HL d : D) (f : D → Int) (rows : List D) (ss : SS) : ∀ (es acc : List D) (x7 x8 : Option TD.Slot), acc.length + es.length ≤ 1000 → (∀ e ∈ es, m_value_of [nmD x, md, d, e] ss = .ok (.int (f e)) ss) →
    ∃ y7 y8, sForGo g_puzzle_table_0 b_puzzle_table_0 es ⟨[some (.val (nmD x)), some (.val sz), some (.val md), some (.val HL), some (.own rows), some (.val d), some (.own acc), x7, x8], ss⟩ = .nx ⟨[some (.val (nmD x)), some (.val sz), some (.val md), some (.val HL), some (.own rows), some (.val d), some (.own (acc ++ es.map fun e => ent x (f e))), y7, y8], ss⟩
  | [], acc, x7, x8, _, _ => ⟨x7, x8, by simp⟩
  | e :: es, acc, x7, x8, hl, h => by
    simp only [List.length_cons] at hl
    obtain ⟨y7, y8, ih⟩ := pt0_go x sz md HL d f rows ss es (acc ++ [ent x (f e)]) (some (.val e)) (some (.val (.int (f e)))) (by simp; omega) fun z hz => h z (List.mem_cons_of_mem _ hz)
    refine ⟨y7, y8, ?_⟩
    rw [sForGo_cons, pt0_body x sz md HL d e (f e) acc rows (by omega) x7 x8 ss (h e (List.mem_cons_self ..)), ih]
    simp
theorem pt1_body (nm sz md d : D) (HL R rows : List D) (x5 x6 x7 x8 y7 y8 : Option TD.Slot) (hr : rows.length < 1000) (ss : SS)
    (q : sForGo g_puzzle_table_0 b_puzzle_table_0 HL ⟨[some (.val nm), some (.val sz), some (.val md), some (.val (.tup HL)), some (.own rows), some (.val d), some (.own []), x7, x8], ss⟩ = .nx ⟨[some (.val nm), some (.val sz), some (.val md), some (.val (.tup HL)), some (.own rows), some (.val d), some (.own R), y7, y8], ss⟩) (k : W → RS) :
    ∃ y6, oS (g_puzzle_table_1 d ⟨[some (.val nm), some (.val sz), some (.val md), some (.val (.tup HL)), some (.own rows), x5, x6, x7, x8], ss⟩) (fun w => (b_puzzle_table_1 w).loop k) = k ⟨[some (.val nm), some (.val sz), some (.val md), some (.val (.tup HL)), some (.own (rows ++ [.tup R])), some (.val d), y6, y7, y8], ss⟩ := by
  have hr' : rows.length < 1000000 := by omega
  exact ⟨_, by simp [g_puzzle_table_1, b_puzzle_table_1, q, hr']; rfl⟩
theorem pt1_go (x : Nm) (sz md : D) (HL : List D) (f : D → D → Int) (ss : SS) (hH : HL.length ≤ 900) : ∀ (ds rows : List D) (x5 x6 x7 x8 : Option TD.Slot), rows.length + ds.length ≤ 900 → (∀ d ∈ ds, ∀ e ∈ HL, m_value_of [nmD x, md, d, e] ss = .ok (.int (f d e)) ss) →
    ∃ y5 y6 y7 y8, sForGo g_puzzle_table_1 b_puzzle_table_1 ds ⟨[some (.val (nmD x)), some (.val sz), some (.val md), some (.val (.tup HL)), some (.own rows), x5, x6, x7, x8], ss⟩ = .nx ⟨[some (.val (nmD x)), some (.val sz), some (.val md), some (.val (.tup HL)), some (.own (rows ++ ds.map fun d => .tup (HL.map fun e => ent x (f d e)))), y5, y6, y7, y8], ss⟩
  | [], rows, x5, x6, x7, x8, _, _ => ⟨x5, x6, x7, x8, by simp⟩
  | d :: ds, rows, x5, x6, x7, x8, hl, h => by
    simp only [List.length_cons] at hl
    obtain ⟨y7, y8, q⟩ := pt0_go x sz md (.tup HL) d (f d) rows ss HL [] x7 x8 (by simp; omega) (h d (List.mem_cons_self ..))
    rw [List.nil_append] at q
    obtain ⟨y6, e⟩ := pt1_body (nmD x) sz md d HL _ rows x5 x6 x7 x8 y7 y8 (by omega) ss q (sForGo g_puzzle_table_1 b_puzzle_table_1 ds)
    obtain ⟨z5, z6, z7, z8, ih⟩ := pt1_go x sz md HL f ss hH ds (rows ++ [.tup (HL.map fun e => ent x (f d e))]) (some (.val d)) y6 y7 y8 (by simp; omega) fun z hz => h z (List.mem_cons_of_mem _ hz)
    refine ⟨z5, z6, z7, z8, ?_⟩
    rw [sForGo_cons, e, ih]
    simp
theorem ptb_run (z sz md : D) (HL R : List D) (y5 y6 y7 y8 : Option TD.Slot) (ss : SS) (h1 : m_all_held [z, sz, md] ss = .ok (.tup HL) ss)
    (q : sForGo g_puzzle_table_1 b_puzzle_table_1 HL ⟨[some (.val z), some (.val sz), some (.val md), some (.val (.tup HL)), some (.own []), none, none, none, none], ss⟩ = .nx ⟨[some (.val z), some (.val sz), some (.val md), some (.val (.tup HL)), some (.own R), y5, y6, y7, y8], ss⟩) : m_puzzle_table [z, sz, md] ss = .ok (.tup R) ss := by
  simp [m_puzzle_table, e_puzzle_table, h1, q]
theorem ptb_exc (z sz md : D) (c : Exn) (ss : SS) (h1 : m_all_held [z, sz, md] ss = .exc c ss) : m_puzzle_table [z, sz, md] ss = .exc c ss := by
  simp [m_puzzle_table, e_puzzle_table, h1]
def tab (x : Nm) (n : Nat) (md : Int) : List D := (hel x n md).map fun d => .tup ((hel x n md).map fun e => ent x (vD x md d e))
theorem table_eq {x : Nm} {n : Nat} {md : Int} (h : Pz x n md) (ss : SS) : m_puzzle_table [nmD x, .int n, .int md] ss = if cnt x n md ≤ 256 then .ok (.tup (tab x n md)) ss else .exc many ss := by
  have h1 := all_held_eq h ss
  by_cases hc : cnt x n md ≤ 256
  · rw [if_pos hc] at h1 ⊢
    have hl := hel_len x n md
    obtain ⟨y5, y6, y7, y8, q⟩ := pt1_go x (.int n) (.int md) (hel x n md) (vD x md) ss (by omega) (hel x n md) [] none none none none (by simp; omega) fun d hd e he => value_eq h hd he ss
    rw [List.nil_append] at q
    exact ptb_run _ _ _ _ _ y5 y6 y7 y8 ss h1 q
  · rw [if_neg hc] at h1 ⊢
    exact ptb_exc _ _ _ _ ss h1
/-! ### the table is right -/
theorem tr0_body (x : Nm) (S sz md HL TB a d e : D) (M at' p : Int) (v : Int) (row : D) (x7 x9 x10 x11 x12 : Option TD.Slot) (ss : SS) (e1 : gIx HL (.int at') = some d) (e2 : gIx HL (.int p) = some e) (e3 : gIx TB (.int at') = some row) (e4 : gIx row (.int p) = some (ent x v)) (q : m__law_value [nmD x, md, d, e] ss = .ok (.int v) ss) (k : W → RS) :
    oS (g__law_table_right_0 (.int p) ⟨[some (.val S), some (.val (nmD x)), some (.val sz), some (.val md), some (.val HL), some (.val (.int M)), some (.val TB), x7, some (.val (.int at')), x9, x10, x11, x12], ss⟩) (fun w => (b__law_table_right_0 w).loop k) = k ⟨[some (.val S), some (.val (nmD x)), some (.val sz), some (.val md), some (.val HL), some (.val (.int M)), some (.val TB), x7, some (.val (.int at')), x9, some (.val (.int p)), some (.val (.int v)), some (.val (ent x v))], ss⟩ := by
  have i1 : m__law_is_int [.int v] ss = .ok (.bl true) ss := is_int_eq _ (by simp) ss
  cases x with
  | gr =>
    have e0 : ent .gr v = .int v := if_neg (fun h => by cases h.1)
    rw [e0] at e4 ⊢
    simp only [nmD, s_gr] at q ⊢
    simp [g__law_table_right_0, b__law_table_right_0, e1, e2, e3, e4, q, i1]
  | inn =>
    have e0 : ent .inn v = .int v := if_neg (fun h => by cases h.1)
    rw [e0] at e4 ⊢
    simp only [nmD, s_inn] at q ⊢
    simp [g__law_table_right_0, b__law_table_right_0, e1, e2, e3, e4, q, i1]
  | me =>
    simp only [nmD, s_me] at q ⊢
    by_cases h : 1 < v
    · have e0 : ent .me v = .non := if_pos ⟨rfl, h⟩
      rw [e0] at e4 ⊢
      simp [g__law_table_right_0, b__law_table_right_0, e1, e2, e3, e4, q, h, gIsNot]
    · have e0 : ent .me v = .int v := if_neg (fun h' => h h'.2)
      rw [e0] at e4 ⊢
      simp [g__law_table_right_0, b__law_table_right_0, e1, e2, e3, e4, q, h, i1]
theorem tr0_go {x : Nm} {n : Nat} {md : Int} (h : Pz x n md) (S : D) (at' : Nat) (hat : at' < cnt x n md) (x7 x9 : Option TD.Slot) (ss : SS) (M : Int) : ∀ (m p : Nat) (x10 x11 x12 : Option TD.Slot), p + m = cnt x n md →
    ∃ y10 y11 y12, sForGo g__law_table_right_0 b__law_table_right_0 (rngD p (cnt x n md)) ⟨[some (.val S), some (.val (nmD x)), some (.val (.int n)), some (.val (.int md)), some (.val (.lst (hel x n md))), some (.val (.int M)), some (.val (.tup (tab x n md))), x7, some (.val (.int at')), x9, x10, x11, x12], ss⟩ = .nx ⟨[some (.val S), some (.val (nmD x)), some (.val (.int n)), some (.val (.int md)), some (.val (.lst (hel x n md))), some (.val (.int M)), some (.val (.tup (tab x n md))), x7, some (.val (.int at')), x9, y10, y11, y12], ss⟩
  | 0, p, x10, x11, x12, e => by
    have : p = cnt x n md := by omega
    subst this
    rw [rngD_nil (Int.le_refl _)]
    exact ⟨x10, x11, x12, rfl⟩
  | m + 1, p, x10, x11, x12, e => by
    have hl := hel_len x n md
    have h1 : at' < (hel x n md).length := by omega
    have h2 : p < (hel x n md).length := by omega
    have g1 : gIx (.lst (hel x n md)) (.int at') = some (hel x n md)[at'] := atI_nat (List.getElem?_eq_getElem h1)
    have g2 : gIx (.lst (hel x n md)) (.int p) = some (hel x n md)[p] := atI_nat (List.getElem?_eq_getElem h2)
    have g3 : gIx (.tup (tab x n md)) (.int at') = some (.tup ((hel x n md).map fun e => ent x (vD x md (hel x n md)[at'] e))) := atI_nat (by simp [tab, h1])
    have g4 : gIx (.tup ((hel x n md).map fun e => ent x (vD x md (hel x n md)[at'] e))) (.int p) = some (ent x (vD x md (hel x n md)[at'] (hel x n md)[p])) := atI_nat (by simp [h2])
    have q := lvalue_eq h (List.getElem_mem h1) (List.getElem_mem h2) ss
    obtain ⟨y10, y11, y12, ih⟩ := tr0_go h S at' hat x7 x9 ss M m (p + 1) (some (.val (.int p))) (some (.val (.int (vD x md (hel x n md)[at'] (hel x n md)[p])))) (some (.val (ent x (vD x md (hel x n md)[at'] (hel x n md)[p])))) (by omega)
    refine ⟨y10, y11, y12, ?_⟩
    rw [rngD_cons (by omega), sForGo_cons, tr0_body x S (.int n) (.int md) _ _ .non _ _ M at' p _ _ x7 x9 x10 x11 x12 ss g1 g2 g3 g4 q]
    exact ih
theorem tr1_body (nm S sz md HL TB : D) (M at' : Int) (row : List D) (x7 x8 x9 x10 x11 x12 y10 y11 y12 : Option TD.Slot) (ss : SS) (e1 : gIx TB (.int at') = some (.tup row)) (e2 : gLen [.tup row] = some (.int M)) (hs : small M = true)
    (q : sForGo g__law_table_right_0 b__law_table_right_0 (rngD 0 M) ⟨[some (.val S), some (.val nm), some (.val sz), some (.val md), some (.val HL), some (.val (.int M)), some (.val TB), x7, some (.val (.int at')), x9, x10, x11, x12], ss⟩ = .nx ⟨[some (.val S), some (.val nm), some (.val sz), some (.val md), some (.val HL), some (.val (.int M)), some (.val TB), x7, some (.val (.int at')), x9, y10, y11, y12], ss⟩) (k : W → RS) :
    oS (g__law_table_right_1 (.int at') ⟨[some (.val S), some (.val nm), some (.val sz), some (.val md), some (.val HL), some (.val (.int M)), some (.val TB), x7, x8, x9, x10, x11, x12], ss⟩) (fun w => (b__law_table_right_1 w).loop k) = k ⟨[some (.val S), some (.val nm), some (.val sz), some (.val md), some (.val HL), some (.val (.int M)), some (.val TB), x7, some (.val (.int at')), x9, y10, y11, y12], ss⟩ := by
  simp only [gLen_tup] at e2
  simp [g__law_table_right_1, b__law_table_right_1, e1, e2, hs, q]
theorem tr1_go {x : Nm} {n : Nat} {md : Int} (h : Pz x n md) (hc : cnt x n md ≤ 256) (S : D) (x7 x9 : Option TD.Slot) (ss : SS) : ∀ (ats : List Nat) (x8 x10 x11 x12 : Option TD.Slot), (∀ a ∈ ats, a < cnt x n md) →
    ∃ y8 y10 y11 y12, sForGo g__law_table_right_1 b__law_table_right_1 (ats.map fun (a : Nat) => .int (a : Int)) ⟨[some (.val S), some (.val (nmD x)), some (.val (.int n)), some (.val (.int md)), some (.val (.lst (hel x n md))), some (.val (.int (cnt x n md))), some (.val (.tup (tab x n md))), x7, x8, x9, x10, x11, x12], ss⟩ = .nx ⟨[some (.val S), some (.val (nmD x)), some (.val (.int n)), some (.val (.int md)), some (.val (.lst (hel x n md))), some (.val (.int (cnt x n md))), some (.val (.tup (tab x n md))), x7, y8, x9, y10, y11, y12], ss⟩
  | [], x8, x10, x11, x12, _ => ⟨x8, x10, x11, x12, rfl⟩
  | a :: ats, x8, x10, x11, x12, ha => by
    have hl := hel_len x n md
    have hlt := ha a (List.mem_cons_self ..)
    have h1 : a < (hel x n md).length := by omega
    have g3 : gIx (.tup (tab x n md)) (.int a) = some (.tup ((hel x n md).map fun e => ent x (vD x md (hel x n md)[a] e))) := atI_nat (by simp [tab, h1])
    obtain ⟨y10, y11, y12, q⟩ := tr0_go h S a hlt x7 x9 ss (cnt x n md) (cnt x n md) 0 x10 x11 x12 (by omega)
    obtain ⟨z8, z10, z11, z12, ih⟩ := tr1_go h hc S x7 x9 ss ats (some (.val (.int a))) y10 y11 y12 fun b hb => ha b (List.mem_cons_of_mem _ hb)
    refine ⟨z8, z10, z11, z12, ?_⟩
    rw [List.map_cons, sForGo_cons, tr1_body (nmD x) S (.int n) (.int md) _ _ (cnt x n md) a _ x7 x8 x9 x10 x11 x12 y10 y11 y12 ss g3 (by simp [hl]) (small_len (by omega)) q]
    exact ih
theorem tr_run (nm sz md : D) (HL TB A R : List D) (M : Int) (y7 y8 y9 y10 y11 y12 : Option TD.Slot) (ss ss' : SS) (h1 : m__law_helds [nm, sz, md] ss = .ok (.lst HL) ss) (h2 : gLen [.lst HL] = some (.int M)) (h3 : m_puzzle_table [nm, sz, md] ss = .ok (.tup TB) ss) (h4 : gLen [.tup TB] = some (.int M)) (hs : small M = true)
    (q1 : lcGo [8] (gsName 8) mYes (mVar 8) (rngD 0 M) [] ⟨[some (.val .src), some (.val nm), some (.val sz), some (.val md), some (.val (.lst HL)), some (.val (.int M)), some (.val (.tup TB)), none, none, none, none, none, none], ss⟩ = .ok A ⟨[some (.val .src), some (.val nm), some (.val sz), some (.val md), some (.val (.lst HL)), some (.val (.int M)), some (.val (.tup TB)), none, none, none, none, none, none], ss⟩)
    (hR : (¬ 64 < M ∧ R = A ∧ ss' = ss) ∨ (64 < M ∧ lcGo [9] (gsName 9) mYes (mCall 2 pickM (mCons (mVar 0) (mCons (mVar 5) (mNil)))) (rngD 0 4) [] ⟨[some (.val .src), some (.val nm), some (.val sz), some (.val md), some (.val (.lst HL)), some (.val (.int M)), some (.val (.tup TB)), some (.own A), none, none, none, none, none], ss⟩ = .ok R ⟨[some (.val .src), some (.val nm), some (.val sz), some (.val md), some (.val (.lst HL)), some (.val (.int M)), some (.val (.tup TB)), some (.own A), none, none, none, none, none], ss'⟩))
    (q2 : sForGo g__law_table_right_1 b__law_table_right_1 R ⟨[some (.val .src), some (.val nm), some (.val sz), some (.val md), some (.val (.lst HL)), some (.val (.int M)), some (.val (.tup TB)), some (.val (.lst R)), none, none, none, none, none], ss'⟩ = .nx ⟨[some (.val .src), some (.val nm), some (.val sz), some (.val md), some (.val (.lst HL)), some (.val (.int M)), some (.val (.tup TB)), y7, y8, y9, y10, y11, y12], ss'⟩) :
    m__law_table_right [.src, nm, sz, md] ss = .ok (.bl true) ss' := by
  have h2' : gLen [.lst HL] = some (.int M) := h2
  simp only [gLen_tup] at h4
  show (e__law_table_right ⟨[some (.val .src), some (.val nm), some (.val sz), some (.val md), none, none, none, none, none, none, none, none, none], ss⟩).fin = _
  unfold e__law_table_right
  refine nxtF (w' := ⟨[some (.val .src), some (.val nm), some (.val sz), some (.val md), some (.val (.lst HL)), none, none, none, none, none, none, none, none], ss⟩) (by simp [h1]) ?_
  refine nxtF (w' := ⟨[some (.val .src), some (.val nm), some (.val sz), some (.val md), some (.val (.lst HL)), some (.val (.int M)), none, none, none, none, none, none, none], ss⟩) (by generalize D.lst HL = LH at *; simp [h2']) ?_
  refine nxtF (w' := ⟨[some (.val .src), some (.val nm), some (.val sz), some (.val md), some (.val (.lst HL)), some (.val (.int M)), some (.val (.tup TB)), none, none, none, none, none, none], ss⟩) (by simp [h3]) ?_
  refine nxtF (w' := ⟨[some (.val .src), some (.val nm), some (.val sz), some (.val md), some (.val (.lst HL)), some (.val (.int M)), some (.val (.tup TB)), none, none, none, none, none, none], ss⟩) (by simp [h4]) ?_
  refine nxtF (w' := ⟨[some (.val .src), some (.val nm), some (.val sz), some (.val md), some (.val (.lst HL)), some (.val (.int M)), some (.val (.tup TB)), some (.own A), none, none, none, none, none], ss⟩) (by simp [hs, q1]) ?_
  refine nxtF (w' := ⟨[some (.val .src), some (.val nm), some (.val sz), some (.val md), some (.val (.lst HL)), some (.val (.int M)), some (.val (.tup TB)), some (.own R), none, none, none, none, none], ss'⟩) ?_ ?_
  · have s4 : small 4 = true := by decide
    rcases hR with ⟨h5, rfl, rfl⟩ | ⟨h5, h6⟩
    · simp [h5]
    · simp [h5, pick_eq, s4, h6]
  refine nxtF (w' := ⟨[some (.val .src), some (.val nm), some (.val sz), some (.val md), some (.val (.lst HL)), some (.val (.int M)), some (.val (.tup TB)), y7, y8, y9, y10, y11, y12], ss'⟩) (by simp [q2]) ?_
  simp
theorem table_right {x : Nm} {n : Nat} {md : Int} (h : Pz x n md) (hc : cnt x n md ≤ 256) (hc0 : 1 ≤ cnt x n md) (ss : SS) (hs : SsOk ss) : ∃ ss', m__law_table_right [.src, nmD x, .int n, .int md] ss = .ok (.bl true) ss' ∧ SsOk ss' := by
  have hl := hel_len x n md
  have h3 := table_eq h ss
  rw [if_pos hc] at h3
  have q1 := lc_rng (v := 8) (me := mVar 8) (fun (i : Nat) => D.int (i : Int)) [some (.val .src), some (.val (nmD x)), some (.val (.int n)), some (.val (.int md)), some (.val (.lst (hel x n md))), some (.val (.int (cnt x n md))), some (.val (.tup (tab x n md))), none, none, none, none, none, none] (cnt x n md) (by omega) ss fun i hi => by
    generalize nmD x = NX
    generalize D.lst (hel x n md) = HL
    generalize D.tup (tab x n md) = TB
    simp [lcStep]
  have key : ∃ (ats : List Nat) (ss' : SS), (∀ a ∈ ats, a < cnt x n md) ∧ SsOk ss' ∧ ((¬ 64 < (cnt x n md : Int) ∧ (ats.map fun (a : Nat) => D.int (a : Int)) = (List.range (cnt x n md)).map (fun (i : Nat) => D.int (i : Int)) ∧ ss' = ss) ∨ (64 < (cnt x n md : Int) ∧ lcGo [9] (gsName 9) mYes (mCall 2 pickM (mCons (mVar 0) (mCons (mVar 5) (mNil)))) (rngD 0 4) [] ⟨[some (.val .src), some (.val (nmD x)), some (.val (.int n)), some (.val (.int md)), some (.val (.lst (hel x n md))), some (.val (.int (cnt x n md))), some (.val (.tup (tab x n md))), some (.own ((List.range (cnt x n md)).map (fun (i : Nat) => D.int (i : Int)))), none, none, none, none, none], ss⟩ = .ok (ats.map fun (a : Nat) => D.int (a : Int)) ⟨[some (.val .src), some (.val (nmD x)), some (.val (.int n)), some (.val (.int md)), some (.val (.lst (hel x n md))), some (.val (.int (cnt x n md))), some (.val (.tup (tab x n md))), some (.own ((List.range (cnt x n md)).map (fun (i : Nat) => D.int (i : Int)))), none, none, none, none, none], ss'⟩)) := by
    by_cases h64 : 64 < (cnt x n md : Int)
    · obtain ⟨l, ss', e, hs', l1, l2⟩ := lc_picks 9 (cnt x n md) (mCall 2 pickM (mCons (mVar 0) (mCons (mVar 5) (mNil)))) ⟨by omega, by omega⟩ [some (.val .src), some (.val (nmD x)), some (.val (.int n)), some (.val (.int md)), some (.val (.lst (hel x n md))), some (.val (.int (cnt x n md))), some (.val (.tup (tab x n md))), some (.own ((List.range (cnt x n md)).map (fun (i : Nat) => D.int (i : Int)))), none, none, none, none, none] 4 (by decide) ss hs (fun d s s' r e => by
        generalize nmD x = NX
        generalize D.lst (hel x n md) = HL
        generalize D.tup (tab x n md) = TB
        generalize (cnt x n md : Int) = C at e ⊢
        simp [lcStep, e])
      refine ⟨l.map Int.toNat, ss', fun a ha => ?_, hs', .inr ⟨h64, ?_⟩⟩
      · obtain ⟨z, hz, rfl⟩ := List.mem_map.mp ha
        have := l2 z hz
        omega
      · rw [e]
        congr 1
        rw [List.map_map]
        apply List.map_congr_left
        intro z hz
        have := l2 z hz
        show D.int z = D.int ((z.toNat : Nat) : Int)
        congr 1
        omega
    · exact ⟨List.range (cnt x n md), ss, fun a ha => by simpa using ha, hs, .inl ⟨h64, rfl, rfl⟩⟩
  obtain ⟨ats, ss', ha, hs', hR⟩ := key
  obtain ⟨y8, y10, y11, y12, q2⟩ := tr1_go h hc .src (some (.val (.lst (ats.map fun (a : Nat) => D.int (a : Int))))) none ss' ats none none none none ha
  exact ⟨ss', tr_run (nmD x) (.int n) (.int md) (hel x n md) (tab x n md) _ (ats.map fun (a : Nat) => D.int (a : Int)) (cnt x n md) _ y8 none y10 y11 y12 ss ss' (law_helds_eq h hc ss) (by show some (D.int ((hel x n md).length : Int)) = _; rw [hl]) h3 (by simp [tab, hl]) (small_len (by omega)) q1 hR q2, hs'⟩
end K43

set_option Elab.async false
set_option linter.all false
set_option maxRecDepth 100000
set_option maxHeartbeats 4000000
namespace K43
open PySem PySem.Spec PyProof.Rows L2 TD TP
open K31 (isCnt dI)
/-! ### what can be held -/
def mo (x : Nm) (md : Int) : Int := if x = .inn then md - 1 else 1
def hld (x : Nm) (md w : Int) (d : D) : Bool := match x with
  | .gr => isCnt d 0 (w - 1)
  | _ => match d with
    | .tup ds => decide ((ds.length : Int) = w) && ds.all fun e => isCnt e 0 (mo x md)
    | _ => false
theorem is_held_gr (w md : Int) (d : D) (hd : d ≠ .src) (ss : SS) : m_is_held [nmD .gr, .int w, .int md, d] ss = .ok (.bl (hld .gr md w d)) ss := by
  have h := is_count_eq d hd 0 (w - 1) ss
  show m_is_held [nmD .gr, .int w, .int md, d] ss = .ok (.bl (isCnt d 0 (w - 1))) ss
  simp only [nmD, s_gr]
  simp [m_is_held, e_is_held, h]
theorem ih_run (x : Nm) (hx : x ≠ .gr) (w md : Int) (ds F : List D) (L : Int) (hL : gLen [.tup ds] = some (.int L)) (ss : SS)
    (q : lcGo [5] (gsName 5) (mNotT (mTru (mCall 3 m_is_count (mCons (mVar 5) (mCons (mC (.int 0)) (mCons (mVar 4) (mNil))))))) (mVar 5) ds [] ⟨[some (.val (nmD x)), some (.val (.int w)), some (.val (.int md)), some (.val (.tup ds)), some (.val (.int (mo x md))), none], ss⟩ = .ok F ⟨[some (.val (nmD x)), some (.val (.int w)), some (.val (.int md)), some (.val (.tup ds)), some (.val (.int (mo x md))), none], ss⟩) :
    m_is_held [nmD x, .int w, .int md, .tup ds] ss = .ok (.bl (decide (L = w) && decide (F = []))) ss := by
  simp only [gLen_tup] at hL
  have hF : ((F.length : Int) == 0) = decide (F = []) := by cases F <;> simp; omega
  by_cases hw : L = w
  · rw [decide_eq_true hw, Bool.true_and]
    cases x with
    | gr => exact absurd rfl hx
    | me =>
      have e : mo .me md = 1 := rfl
      rw [e] at q
      simp only [nmD, s_me] at q ⊢
      simp [m_is_held, e_is_held, hL, hw, q]
      exact hF
    | inn =>
      have e : mo .inn md = md - 1 := rfl
      rw [e] at q
      simp only [nmD, s_inn] at q ⊢
      simp [m_is_held, e_is_held, hL, hw, q]
      exact hF
  · rw [decide_eq_false hw, Bool.false_and]
    cases x with
    | gr => exact absurd rfl hx
    | me => simp only [nmD, s_me]; simp [m_is_held, e_is_held, hL, hw]
    | inn => simp only [nmD, s_inn]; simp [m_is_held, e_is_held, hL, hw]
theorem ih_no (x : Nm) (hx : x ≠ .gr) (w md d : D) (h : d.isi "tuple" = some false) (ss : SS) : m_is_held [nmD x, w, md, d] ss = .ok (.bl false) ss := by
  cases x with
  | gr => exact absurd rfl hx
  | me => simp only [nmD, s_me]; simp [m_is_held, e_is_held, h]
  | inn => simp only [nmD, s_inn]; simp [m_is_held, e_is_held, h]
theorem is_held_eq (x : Nm) (w md : Int) (d : D) (hd : NoS d) (ss : SS) : m_is_held [nmD x, .int w, .int md, d] ss = .ok (.bl (hld x md w d)) ss := by
  by_cases hx : x = .gr
  · subst hx; exact is_held_gr w md d hd.ne ss
  · cases d with
    | src => exact hd.elim
    | tup ds =>
      obtain ⟨h1, h2⟩ := hd
      have q := lc_pure (vs := [5]) (set := gsName 5) (mt := mNotT (mTru (mCall 3 m_is_count (mCons (mVar 5) (mCons (mC (.int 0)) (mCons (mVar 4) (mNil))))))) (me := mVar 5) (fun e => if isCnt e 0 (mo x md) = true then none else some e) ⟨[some (.val (nmD x)), some (.val (.int w)), some (.val (.int md)), some (.val (.tup ds)), some (.val (.int (mo x md))), none], ss⟩ ds [] (fun e he => by
        have := is_count_eq e (h1 e he) 0 (mo x md) ss
        generalize isCnt e 0 (mo x md) = b at this ⊢
        generalize mo x md = MO at this ⊢
        generalize nmD x = NX
        cases b <;> simp [lcStep, this]) (by simp; omega)
      rw [List.nil_append] at q
      rw [ih_run x hx w md ds _ ds.length (by simp) ss q, fm_nil (fun e => isCnt e 0 (mo x md)) (fun e => e)]
      cases x with
      | gr => exact absurd rfl hx
      | _ => rfl
    | non => rw [ih_no x hx _ _ _ (by simp)]; cases x <;> first | exact absurd rfl hx | rfl
    | bl _ => rw [ih_no x hx _ _ _ (by simp)]; cases x <;> first | exact absurd rfl hx | rfl
    | int _ => rw [ih_no x hx _ _ _ (by simp)]; cases x <;> first | exact absurd rfl hx | rfl
    | str _ => rw [ih_no x hx _ _ _ (by simp)]; cases x <;> first | exact absurd rfl hx | rfl
    | lst _ => rw [ih_no x hx _ _ _ (by simp)]; cases x <;> first | exact absurd rfl hx | rfl
theorem ch_gr (w md : Int) (d : D) (hd : d ≠ .src) (ss : SS) : m__law_can_hold [nmD .gr, .int w, .int md, d] ss = .ok (.bl (hld .gr md w d)) ss := by
  show m__law_can_hold [nmD .gr, .int w, .int md, d] ss = .ok (.bl (isCnt d 0 (w - 1))) ss
  have h := is_int_eq d hd ss
  cases d with
  | src => exact absurd rfl hd
  | int i =>
    have h : m__law_is_int [.int i] ss = .ok (.bl true) ss := h
    simp only [nmD, s_gr]
    by_cases h0 : 0 ≤ i
    · by_cases h1 : i < w
      · have h2 : i ≤ w - 1 := by omega
        simp [m__law_can_hold, e__law_can_hold, h, h0, h1, h2, isCnt]
      · have h2 : ¬ i ≤ w - 1 := by omega
        simp [m__law_can_hold, e__law_can_hold, h, h0, h1, h2, isCnt]
    · simp [m__law_can_hold, e__law_can_hold, h, h0, isCnt]
  | non =>
    have h : m__law_is_int [.non] ss = .ok (.bl false) ss := h
    simp only [nmD, s_gr]; simp [m__law_can_hold, e__law_can_hold, h, isCnt]
  | bl b =>
    have h : m__law_is_int [.bl b] ss = .ok (.bl false) ss := h
    simp only [nmD, s_gr]; simp [m__law_can_hold, e__law_can_hold, h, isCnt]
  | str b =>
    have h : m__law_is_int [.str b] ss = .ok (.bl false) ss := h
    simp only [nmD, s_gr]; simp [m__law_can_hold, e__law_can_hold, h, isCnt]
  | tup b =>
    have h : m__law_is_int [.tup b] ss = .ok (.bl false) ss := h
    simp only [nmD, s_gr]; simp [m__law_can_hold, e__law_can_hold, h, isCnt]
  | lst b =>
    have h : m__law_is_int [.lst b] ss = .ok (.bl false) ss := h
    simp only [nmD, s_gr]; simp [m__law_can_hold, e__law_can_hold, h, isCnt]
theorem ch_no (x : Nm) (hx : x ≠ .gr) (w md d : D) (ss : SS) (h : m__law_numbers [d] ss = .ok (.bl false) ss) : m__law_can_hold [nmD x, w, md, d] ss = .ok (.bl false) ss := by
  cases x with
  | gr => exact absurd rfl hx
  | me => simp only [nmD, s_me]; simp [m__law_can_hold, e__law_can_hold, h]
  | inn => simp only [nmD, s_inn]; simp [m__law_can_hold, e__law_can_hold, h]
theorem ch_run (x : Nm) (hx : x ≠ .gr) (w md : Int) (ds F : List D) (L : Int) (hL : gLen [.tup ds] = some (.int L)) (ss : SS) (h : m__law_numbers [.tup ds] ss = .ok (.bl true) ss)
    (q : lcGo [5] (gsName 5) (mOrT (mB (mBin gLt (mVar 5) (mC (.int 0)))) (mB (mBin gGt (mVar 5) (mVar 4)))) (mVar 5) ds [] ⟨[some (.val (nmD x)), some (.val (.int w)), some (.val (.int md)), some (.val (.tup ds)), some (.val (.int (mo x md))), none], ss⟩ = .ok F ⟨[some (.val (nmD x)), some (.val (.int w)), some (.val (.int md)), some (.val (.tup ds)), some (.val (.int (mo x md))), none], ss⟩) :
    m__law_can_hold [nmD x, .int w, .int md, .tup ds] ss = .ok (.bl (decide (L = w) && decide (F = []))) ss := by
  simp only [gLen_tup] at hL
  have hF : ((F.length : Int) == 0) = decide (F = []) := by cases F <;> simp; omega
  by_cases hw : L = w
  · rw [decide_eq_true hw, Bool.true_and]
    cases x with
    | gr => exact absurd rfl hx
    | me =>
      have e : mo .me md = 1 := rfl
      rw [e] at q
      simp only [nmD, s_me] at q ⊢
      simp [m__law_can_hold, e__law_can_hold, h, hL, hw, q]
      exact hF
    | inn =>
      have e : mo .inn md = md - 1 := rfl
      rw [e] at q
      simp only [nmD, s_inn] at q ⊢
      simp [m__law_can_hold, e__law_can_hold, h, hL, hw, q]
      exact hF
  · rw [decide_eq_false hw, Bool.false_and]
    cases x with
    | gr => exact absurd rfl hx
    | me => simp only [nmD, s_me]; simp [m__law_can_hold, e__law_can_hold, h, hL, hw]
    | inn => simp only [nmD, s_inn]; simp [m__law_can_hold, e__law_can_hold, h, hL, hw]
theorem hld_numb (x : Nm) (hx : x ≠ .gr) (md w : Int) (d : D) (h : numb d = false) : hld x md w d = false := by
  cases d with
  | tup ds =>
    have h : ds.all isInt = false := h
    have : (ds.all fun e => isCnt e 0 (mo x md)) = false := by
      rw [List.all_eq_false] at h ⊢
      obtain ⟨e, he, h2⟩ := h
      refine ⟨e, he, ?_⟩
      cases e <;> simp [isInt, isCnt] at h2 ⊢
    cases x with
    | gr => exact absurd rfl hx
    | me => show (decide _ && _) = false; rw [this, Bool.and_false]
    | inn => show (decide _ && _) = false; rw [this, Bool.and_false]
  | _ => cases x <;> first | exact absurd rfl hx | rfl
theorem can_hold_eq (x : Nm) (w md : Int) (d : D) (hd : NoS d) (ss : SS) : m__law_can_hold [nmD x, .int w, .int md, d] ss = .ok (.bl (hld x md w d)) ss := by
  by_cases hx : x = .gr
  · subst hx; exact ch_gr w md d hd.ne ss
  · have hn := numbers_eq d hd ss
    cases hb : numb d with
    | false => rw [hb] at hn; rw [ch_no x hx _ _ _ ss hn, hld_numb x hx md w d hb]
    | true =>
      rw [hb] at hn
      cases d with
      | tup ds =>
        have hb : ds.all isInt = true := hb
        have q := lc_pure (vs := [5]) (set := gsName 5) (mt := mOrT (mB (mBin gLt (mVar 5) (mC (.int 0)))) (mB (mBin gGt (mVar 5) (mVar 4)))) (me := mVar 5) (fun e => if isCnt e 0 (mo x md) = true then none else some e) ⟨[some (.val (nmD x)), some (.val (.int w)), some (.val (.int md)), some (.val (.tup ds)), some (.val (.int (mo x md))), none], ss⟩ ds [] (fun e he => by
          have hi := List.all_eq_true.mp hb e he
          cases e with
          | int i =>
            generalize mo x md = MO
            generalize nmD x = NX
            by_cases h0 : i < 0
            · have h0' : ¬ 0 ≤ i := by omega
              simp [lcStep, isCnt, h0, h0']
            · have h0' : 0 ≤ i := by omega
              by_cases h1 : MO < i
              · have h1' : ¬ i ≤ MO := by omega
                simp [lcStep, isCnt, h0, h0', h1, h1']
              · have h1' : i ≤ MO := by omega
                simp [lcStep, isCnt, h0, h0', h1, h1']
          | _ => cases hi) (by have := hd.2; simp; omega)
        rw [List.nil_append] at q
        rw [ch_run x hx w md ds _ ds.length (by simp) ss hn q, fm_nil (fun e => isCnt e 0 (mo x md)) (fun e => e)]
        cases x with
        | gr => exact absurd rfl hx
        | _ => rfl
      | _ => cases hb
end K43

set_option Elab.async false
set_option linter.all false
set_option maxRecDepth 100000
set_option maxHeartbeats 4000000
namespace K43
open PySem PySem.Spec PyProof.Rows L2 TD TP
open K31 (isCnt dI)
/-! ### changed things -/
theorem lg_small (i : Int) (h : -1000000 ≤ i ∧ i ≤ 1000000) : i.natAbs.log2 < 1920 := by
  have h1 : i.natAbs ≤ 1000000 := by omega
  rcases Nat.eq_zero_or_pos i.natAbs with e | e
  · rw [e]; decide
  · exact (Nat.log2_lt (by omega)).mpr (Nat.lt_of_le_of_lt h1 (by decide +kernel))
theorem cg_run (i n md : Int) (Z : Str) (L : List D) (K : Int) (d : D) (ss ss' : SS) (hz : gStrI [.int i] = some (.str Z)) (p : pickM [.src, .int 8] ss = .ok (.int K) ss') (hL : L = [.int n, .int (-1), .int (i - n), .int (i + n), .tup [.int i], .non, .str Z, .tup []]) (h : atI L K = some d) :
    m__law_changed [.src, nmD .gr, .int n, .int md, .int i] ss = .ok d ss' := by
  subst hL
  simp only [nmD, s_gr]
  simp [m__law_changed, e__law_changed, hz, pick_eq, p, h]
theorem ch_gr_eq (n i md : Int) (hn : 1 ≤ n ∧ n ≤ 1000) (hi : 0 ≤ i ∧ i < n) (ss : SS) (hs : SsOk ss) : ∃ d ss', m__law_changed [.src, nmD .gr, .int n, .int md, .int i] ss = .ok d ss' ∧ NoS d ∧ SsOk ss' := by
  obtain ⟨K, ss', p, a, b, hs'⟩ := (pick_ok ss hs 8 (by decide) (by decide)).ex
  have hz : gStrI [.int i] = some (.str (toString i)) := if_pos (lg_small i (by omega))
  obtain ⟨d, hd, e⟩ := atI_mem [D.int n, .int (-1), .int (i - n), .int (i + n), .tup [.int i], .non, .str (toString i), .tup []] K a (by simpa using b)
  refine ⟨d, ss', cg_run i n md _ _ K d ss ss' hz p rfl e, ?_, hs'⟩
  simp only [List.mem_cons, List.not_mem_nil, or_false] at hd
  rcases hd with rfl | rfl | rfl | rfl | rfl | rfl | rfl | rfl
  · trivial
  · trivial
  · trivial
  · trivial
  · exact ⟨fun e he => (by
      have := List.mem_singleton.mp he
      subst this; simp), by simp⟩
  · trivial
  · trivial
  · exact ⟨fun e he => (nomatch he), by simp⟩
theorem cn_lo (x : Nm) (hx : x ≠ .gr) (n md most v A W : Int) (hm : most = if x = .inn then md else 2) (rs P Q : List D) (Z : Str) (o : D) (L : List D) (hL : L = [.int most, .int (-1), .int (most + v), .non, .str Z]) (ss ss1 ss2 : SS) (hz : gStrI [.int v] = some (.str Z)) (p1 : pickM [.src, .int n] ss = .ok (.int A) ss1) (p2 : pickM [.src, .int 10] ss1 = .ok (.int W) ss2) (hW : W < 5)
    (hv : gIx (.tup rs) (.int A) = some (.int v)) (ho : atI L W = some o) (hP : TD.cutD rs none (some A) = P) (hQ : TD.cutD rs (some (A + 1)) none = Q) (hl : P.length + Q.length ≤ 1000) :
    m__law_changed [.src, nmD x, .int n, .int md, .tup rs] ss = .ok (.tup (P ++ o :: Q)) ss2 := by
  have e5 : P.length + 1 ≤ 1000000 := by omega
  have e6 : P.length + 1 + Q.length ≤ 1000000 := by omega
  have hv : atI rs A = some (.int v) := hv
  subst hL
  cases x with
  | gr => exact absurd rfl hx
  | me =>
    have hm : most = 2 := hm
    subst hm
    simp only [nmD, s_me]
    simp [m__law_changed, e__law_changed, pick_eq, p1, p2, hW, hv, hz, ho, hP, hQ, e5, e6]
  | inn =>
    have hm : most = md := hm
    subst hm
    simp only [nmD, s_inn]
    simp [m__law_changed, e__law_changed, pick_eq, p1, p2, hW, hv, hz, ho, hP, hQ, e5, e6]
theorem cn_hi (x : Nm) (hx : x ≠ .gr) (n md v A W : Int) (rs : List D) (o : D) (L : List D) (hL : L = [.tup (rs ++ [.int 0]), .tup (rs.drop 1), .int v, .non, .tup [.tup rs]]) (hl : rs.length ≤ 1000) (ss ss1 ss2 : SS) (p1 : pickM [.src, .int n] ss = .ok (.int A) ss1) (p2 : pickM [.src, .int 10] ss1 = .ok (.int W) ss2) (hW : ¬ W < 5)
    (hv : gIx (.tup rs) (.int A) = some (.int v)) (ho : atI L (W - 5) = some o) :
    m__law_changed [.src, nmD x, .int n, .int md, .tup rs] ss = .ok o ss2 := by
  have e5 : rs.length + 1 ≤ 1000000 := by omega
  have hv : atI rs A = some (.int v) := hv
  subst hL
  simp only [List.drop_one] at ho
  cases x with
  | gr => exact absurd rfl hx
  | me =>
    simp only [nmD, s_me]
    simp [m__law_changed, e__law_changed, pick_eq, p1, p2, hW, hv, ho, e5]
  | inn =>
    simp only [nmD, s_inn]
    simp [m__law_changed, e__law_changed, pick_eq, p1, p2, hW, hv, ho, e5]
theorem ch_no_eq {x : Nm} {n : Nat} {md : Int} (h : Pz x n md) (hx : x ≠ .gr) (r : List Int) (hr : r.length = n) (hb : ∀ b ∈ r, 0 ≤ b ∧ b < 1000) (ss : SS) (hs : SsOk ss) : ∃ d ss', m__law_changed [.src, nmD x, .int n, .int md, dI r] ss = .ok d ss' ∧ NoS d ∧ SsOk ss' := by
  have h1 := h.lo
  have h2 := h.hi
  obtain ⟨A, ss1, p1, a1, b1, hs1⟩ := (pick_ok ss hs n (by omega) (by omega)).ex
  obtain ⟨W, ss2, p2, a2, b2, hs2⟩ := (pick_ok ss1 hs1 10 (by decide) (by decide)).ex
  obtain ⟨i, rfl⟩ := Int.eq_ofNat_of_zero_le a1
  have hi : i < r.length := by omega
  have hv : gIx (.tup (r.map D.int)) (.int i) = some (.int r[i]) := atI_nat (by simp [hi])
  have hvb := hb r[i] (List.getElem_mem hi)
  have hz : gStrI [.int r[i]] = some (.str (toString r[i])) := if_pos (lg_small _ (by omega))
  have ns : ∀ e ∈ r.map D.int, e ≠ .src := fun e he => by
    obtain ⟨j, _, rfl⟩ := List.mem_map.mp he
    simp
  by_cases hW : W < 5
  · obtain ⟨o, ho1, ho2⟩ := atI_mem [D.int (if x = .inn then md else 2), .int (-1), .int ((if x = .inn then md else 2) + r[i]), .non, .str (toString r[i])] W a2 (by simpa using hW)
    refine ⟨_, ss2, cn_lo x hx n md _ _ i W rfl (r.map D.int) ((r.map D.int).take i) ((r.map D.int).drop (i + 1)) _ o _ rfl ss ss1 ss2 hz p1 p2 hW hv ho2 (cutD_to _ _) (cutD_from1 _ _) (by simp; omega), ⟨fun e he => ?_, by simp; omega⟩, hs2⟩
    rcases List.mem_append.mp he with he | he
    · exact ns e (List.mem_of_mem_take he)
    · rcases List.mem_cons.mp he with rfl | he
      · simp only [List.mem_cons, List.not_mem_nil, or_false] at ho1
        rcases ho1 with rfl | rfl | rfl | rfl | rfl <;> simp
      · exact ns e (List.mem_of_mem_drop he)
  · obtain ⟨o, ho1, ho2⟩ := atI_mem [D.tup (r.map D.int ++ [.int 0]), .tup ((r.map D.int).drop 1), .int r[i], .non, .tup [.tup (r.map D.int)]] (W - 5) (by omega) (by show W - 5 < 5; omega)
    refine ⟨o, ss2, cn_hi x hx n md _ i W (r.map D.int) o _ rfl (by simp; omega) ss ss1 ss2 p1 p2 hW hv ho2, ?_, hs2⟩
    simp only [List.mem_cons, List.not_mem_nil, or_false] at ho1
    rcases ho1 with rfl | rfl | rfl | rfl | rfl
    · refine ⟨fun e he => ?_, by simp; omega⟩
      rcases List.mem_append.mp he with he | he
      · exact ns e he
      · simp at he; subst he; simp
    · exact ⟨fun e he => ns e (List.mem_of_mem_drop he), by simp; omega⟩
    · trivial
    · trivial
    · exact ⟨fun e he => (by
      have := List.mem_singleton.mp he
      subst this; simp), by simp⟩
theorem changed_eq {x : Nm} {n : Nat} {md : Int} (h : Pz x n md) {d : D} (hd : d ∈ hel x n md) (ss : SS) (hs : SsOk ss) : ∃ e ss', m__law_changed [.src, nmD x, .int n, .int md, d] ss = .ok e ss' ∧ NoS e ∧ SsOk ss' := by
  have h1 := h.lo
  have h2 := h.hi
  rcases hel_mem hd with ⟨hx, i, hi, rfl⟩ | ⟨hx, i, rfl⟩
  · subst hx; exact ch_gr_eq n i md ⟨h1, h2⟩ (by omega) ss hs
  · exact ch_no_eq h hx _ (dig_len _ _ _) (dig_b h i) ss hs
theorem hel_nos {x : Nm} {n : Nat} {md : Int} (h : Pz x n md) {d : D} (hd : d ∈ hel x n md) : NoS d := by
  have h2 := h.hi
  rcases hel_mem hd with ⟨hx, i, hi, rfl⟩ | ⟨hx, i, rfl⟩
  · trivial
  · exact nos_row _ (by rw [dig_len]; omega)
/-! ### things -/
theorem th0_body (x : Nm) (w md : Int) (d : D) (hd : NoS d) (S x2 x4 x5 x6 x7 x8 x10 x11 x12 x13 x14 : Option TD.Slot) (ss : SS) (k : W → RS) : ∃ y11 y12,
    oS (g__law_things_right_0 (.int w) ⟨[S, some (.val (nmD x)), x2, some (.val (.int md)), x4, x5, x6, x7, x8, some (.val d), x10, x11, x12, x13, x14], ss⟩) (fun w => (b__law_things_right_0 w).loop k) = k ⟨[S, some (.val (nmD x)), x2, some (.val (.int md)), x4, x5, x6, x7, x8, some (.val d), some (.val (.int w)), y11, y12, x13, x14], ss⟩ := by
  have h1 := is_held_eq x w md d hd ss
  have h2 := can_hold_eq x w md d hd ss
  generalize hld x md w d = b at h1 h2
  generalize nmD x = NX at h1 h2 ⊢
  refine ⟨some (.val (.bl b)), some (.val (.bl b)), ?_⟩
  cases b <;> simp [g__law_things_right_0, b__law_things_right_0, h1, h2, gIsNot]
theorem th1_body (x : Nm) (n md : Int) (d : D) (hd : NoS d) (S x4 x5 x6 x7 x8 x9 x10 x11 x12 x13 x14 : Option TD.Slot) (ss : SS) (k : W → RS) : ∃ y10 y11 y12,
    oS (g__law_things_right_1 d ⟨[S, some (.val (nmD x)), some (.val (.int n)), some (.val (.int md)), x4, x5, x6, x7, x8, x9, x10, x11, x12, x13, x14], ss⟩) (fun w => (b__law_things_right_1 w).loop k) = k ⟨[S, some (.val (nmD x)), some (.val (.int n)), some (.val (.int md)), x4, x5, x6, x7, x8, some (.val d), y10, y11, y12, x13, x14], ss⟩ := by
  obtain ⟨a11, a12, e1⟩ := th0_body x n md d hd S (some (.val (.int n))) x4 x5 x6 x7 x8 x10 x11 x12 x13 x14 ss (sForGo g__law_things_right_0 b__law_things_right_0 [.int (n + 1)])
  obtain ⟨c11, c12, e2⟩ := th0_body x (n + 1) md d hd S (some (.val (.int n))) x4 x5 x6 x7 x8 (some (.val (.int n))) a11 a12 x13 x14 ss (sForGo g__law_things_right_0 b__law_things_right_0 [])
  have f : sForGo g__law_things_right_0 b__law_things_right_0 [.int n, .int (n + 1)] ⟨[S, some (.val (nmD x)), some (.val (.int n)), some (.val (.int md)), x4, x5, x6, x7, x8, some (.val d), x10, x11, x12, x13, x14], ss⟩ = .nx ⟨[S, some (.val (nmD x)), some (.val (.int n)), some (.val (.int md)), x4, x5, x6, x7, x8, some (.val d), some (.val (.int (n + 1))), c11, c12, x13, x14], ss⟩ := by
    rw [sForGo_cons, e1, sForGo_cons, e2]; rfl
  generalize nmD x = NX at f ⊢
  exact ⟨_, _, _, by simp [g__law_things_right_1, b__law_things_right_1, f]; rfl⟩
theorem th2_run (x : Nm) (n md A B v : Int) (HL : List D) (C : Int) (d e m : D) (x6 x7 x8 x9 x10 x11 x12 x13 x14 y9 y10 y11 y12 : Option TD.Slot) (t : D) (ss ss1 ss2 ss3 : SS) (p1 : pickM [.src, .int C] ss = .ok (.int A) ss1) (hA : atI HL A = some d) (h1 : m__law_changed [.src, nmD x, .int n, .int md, d] ss1 = .ok e ss2)
    (f : sForGo g__law_things_right_1 b__law_things_right_1 [d, e] ⟨[some (.val .src), some (.val (nmD x)), some (.val (.int n)), some (.val (.int md)), some (.val (.lst HL)), some (.val (.int C)), some (.val t), some (.val d), some (.val e), x9, x10, x11, x12, x13, x14], ss2⟩ = .nx ⟨[some (.val .src), some (.val (nmD x)), some (.val (.int n)), some (.val (.int md)), some (.val (.lst HL)), some (.val (.int C)), some (.val t), some (.val d), some (.val e), y9, y10, y11, y12, x13, x14], ss2⟩)
    (p2 : pickM [.src, .int C] ss2 = .ok (.int B) ss3) (hB : atI HL B = some m) (h2 : m_value_of [nmD x, .int md, d, m] ss3 = .ok (.int v) ss3) (h3 : m__law_value [nmD x, .int md, d, m] ss3 = .ok (.int v) ss3) (k : W → RS) :
    oS (g__law_things_right_2 t ⟨[some (.val .src), some (.val (nmD x)), some (.val (.int n)), some (.val (.int md)), some (.val (.lst HL)), some (.val (.int C)), x6, x7, x8, x9, x10, x11, x12, x13, x14], ss⟩) (fun w => (b__law_things_right_2 w).loop k) = k ⟨[some (.val .src), some (.val (nmD x)), some (.val (.int n)), some (.val (.int md)), some (.val (.lst HL)), some (.val (.int C)), some (.val t), some (.val d), some (.val e), y9, y10, y11, y12, some (.val m), some (.val (.int v))], ss3⟩ := by
  have i1 : m__law_is_int [.int v] ss3 = .ok (.bl true) ss3 := is_int_eq _ (by simp) ss3
  generalize nmD x = NX at *
  simp [g__law_things_right_2, b__law_things_right_2, pick_eq, p1, hA, h1, f, p2, hB, h2, h3, i1]
theorem th2_go {x : Nm} {n : Nat} {md : Int} (h : Pz x n md) (hc : cnt x n md ≤ 256) (hc0 : 1 ≤ cnt x n md) : ∀ (ts : List D) (x6 x7 x8 x9 x10 x11 x12 x13 x14 : Option TD.Slot) (ss : SS), SsOk ss →
    ∃ y6 y7 y8 y9 y10 y11 y12 y13 y14 ss', sForGo g__law_things_right_2 b__law_things_right_2 ts ⟨[some (.val .src), some (.val (nmD x)), some (.val (.int n)), some (.val (.int md)), some (.val (.lst (hel x n md))), some (.val (.int (cnt x n md))), x6, x7, x8, x9, x10, x11, x12, x13, x14], ss⟩ = .nx ⟨[some (.val .src), some (.val (nmD x)), some (.val (.int n)), some (.val (.int md)), some (.val (.lst (hel x n md))), some (.val (.int (cnt x n md))), y6, y7, y8, y9, y10, y11, y12, y13, y14], ss'⟩ ∧ SsOk ss'
  | [], x6, x7, x8, x9, x10, x11, x12, x13, x14, ss, hs => ⟨_, _, _, _, _, _, _, _, _, ss, rfl, hs⟩
  | t :: ts, x6, x7, x8, x9, x10, x11, x12, x13, x14, ss, hs => by
    have hl := hel_len x n md
    obtain ⟨A, ss1, p1, a1, b1, hs1⟩ := (pick_ok ss hs (cnt x n md) (by omega) (by omega)).ex
    obtain ⟨d, hd, hA⟩ := atI_mem (hel x n md) A a1 (by omega)
    obtain ⟨e, ss2, h1, hne, hs2⟩ := changed_eq h hd ss1 hs1
    obtain ⟨B, ss3, p2, a2, b2, hs3⟩ := (pick_ok ss2 hs2 (cnt x n md) (by omega) (by omega)).ex
    obtain ⟨m, hm, hB⟩ := atI_mem (hel x n md) B a2 (by omega)
    obtain ⟨c10, c11, c12, e1⟩ := th1_body x n md d (hel_nos h hd) (some (.val .src)) (some (.val (.lst (hel x n md)))) (some (.val (.int (cnt x n md)))) (some (.val t)) (some (.val d)) (some (.val e)) x9 x10 x11 x12 x13 x14 ss2 (sForGo g__law_things_right_1 b__law_things_right_1 [e])
    obtain ⟨f10, f11, f12, e2⟩ := th1_body x n md e hne (some (.val .src)) (some (.val (.lst (hel x n md)))) (some (.val (.int (cnt x n md)))) (some (.val t)) (some (.val d)) (some (.val e)) (some (.val d)) c10 c11 c12 x13 x14 ss2 (sForGo g__law_things_right_1 b__law_things_right_1 [])
    have f : sForGo g__law_things_right_1 b__law_things_right_1 [d, e] ⟨[some (.val .src), some (.val (nmD x)), some (.val (.int n)), some (.val (.int md)), some (.val (.lst (hel x n md))), some (.val (.int (cnt x n md))), some (.val t), some (.val d), some (.val e), x9, x10, x11, x12, x13, x14], ss2⟩ = .nx ⟨[some (.val .src), some (.val (nmD x)), some (.val (.int n)), some (.val (.int md)), some (.val (.lst (hel x n md))), some (.val (.int (cnt x n md))), some (.val t), some (.val d), some (.val e), some (.val e), f10, f11, f12, x13, x14], ss2⟩ := by
      rw [sForGo_cons, e1, sForGo_cons, e2]; rfl
    have step := th2_run x n md A B _ (hel x n md) (cnt x n md) d e m x6 x7 x8 x9 x10 x11 x12 x13 x14 _ f10 f11 f12 t ss ss1 ss2 ss3 p1 hA h1 f p2 hB (value_eq h hd hm ss3) (lvalue_eq h hd hm ss3) (sForGo g__law_things_right_2 b__law_things_right_2 ts)
    obtain ⟨y6, y7, y8, y9, y10, y11, y12, y13, y14, ss4, ih, hs4⟩ := th2_go h hc hc0 ts (some (.val t)) (some (.val d)) (some (.val e)) (some (.val e)) f10 f11 f12 (some (.val m)) (some (.val (.int (vD x md d m)))) ss3 hs3
    exact ⟨y6, y7, y8, y9, y10, y11, y12, y13, y14, ss4, by rw [sForGo_cons, step, ih], hs4⟩
theorem thr_run (nm sz md : D) (HL : List D) (M : Int) (y6 y7 y8 y9 y10 y11 y12 y13 y14 : Option TD.Slot) (ss ss' : SS) (h1 : m__law_helds [nm, sz, md] ss = .ok (.lst HL) ss) (h2 : gLen [.lst HL] = some (.int M))
    (q : sForGo g__law_things_right_2 b__law_things_right_2 (rngD 0 6) ⟨[some (.val .src), some (.val nm), some (.val sz), some (.val md), some (.val (.lst HL)), some (.val (.int M)), none, none, none, none, none, none, none, none, none], ss⟩ = .nx ⟨[some (.val .src), some (.val nm), some (.val sz), some (.val md), some (.val (.lst HL)), some (.val (.int M)), y6, y7, y8, y9, y10, y11, y12, y13, y14], ss'⟩) : m__law_things_right [.src, nm, sz, md] ss = .ok (.bl true) ss' := by
  have s6 : small 6 = true := by decide
  generalize D.lst HL = LH at *
  simp [m__law_things_right, e__law_things_right, h1, h2, s6, q]
theorem things_right {x : Nm} {n : Nat} {md : Int} (h : Pz x n md) (hc : cnt x n md ≤ 256) (hc0 : 1 ≤ cnt x n md) (ss : SS) (hs : SsOk ss) : ∃ ss', m__law_things_right [.src, nmD x, .int n, .int md] ss = .ok (.bl true) ss' ∧ SsOk ss' := by
  have hl := hel_len x n md
  obtain ⟨y6, y7, y8, y9, y10, y11, y12, y13, y14, ss', q, hs'⟩ := th2_go h hc hc0 (rngD 0 6) none none none none none none none none none ss hs
  exact ⟨ss', thr_run (nmD x) (.int n) (.int md) (hel x n md) (cnt x n md) y6 y7 y8 y9 y10 y11 y12 y13 y14 ss ss' (law_helds_eq h hc ss) (by show some (D.int ((hel x n md).length : Int)) = _; rw [hl]) q, hs'⟩
end K43

set_option Elab.async false
set_option linter.all false
set_option maxRecDepth 100000
set_option maxHeartbeats 4000000
namespace K43
open PySem PySem.Spec PyProof.Rows L2 TD TP
open K31 (isCnt dI)
/-! ### least leaves, bits -/
theorem w_step (m : Int) (w : Int) (h0 : 0 ≤ w) (h : m / 2 ^ w.toNat ≠ 0) (n : Nat) (ss : SS) : sWhGo t_width_of_0 b_width_of_0 (n + 1) ⟨[some (.val (.int m)), some (.val (.int w))], ss⟩ = sWhGo t_width_of_0 b_width_of_0 n ⟨[some (.val (.int m)), some (.val (.int (w + 1)))], ss⟩ := by
  have g : gShr (.int m) (.int w) = some (.int (m / 2 ^ w.toNat)) := if_pos h0
  rw [sWhGo_succ]
  generalize sWhGo t_width_of_0 b_width_of_0 n = kk
  generalize m / 2 ^ w.toNat = V at g h
  simp [t_width_of_0, b_width_of_0, g, h]
theorem w_end (m : Int) (w : Int) (h0 : 0 ≤ w) (h : m / 2 ^ w.toNat = 0) (n : Nat) (ss : SS) : sWhGo t_width_of_0 b_width_of_0 (n + 1) ⟨[some (.val (.int m)), some (.val (.int w))], ss⟩ = .nx ⟨[some (.val (.int m)), some (.val (.int w))], ss⟩ := by
  have g : gShr (.int m) (.int w) = some (.int (m / 2 ^ w.toNat)) := if_pos h0
  rw [h] at g
  rw [sWhGo_succ]
  generalize sWhGo t_width_of_0 b_width_of_0 n = kk
  simp [t_width_of_0, b_width_of_0, g]
theorem w_go (m : Int) (hm : 0 ≤ m) (ss : SS) : ∀ (d : Nat) (w : Nat) (n : Nat), m < 2 ^ (w + d) → d < n → ∃ v : Int, sWhGo t_width_of_0 b_width_of_0 n ⟨[some (.val (.int m)), some (.val (.int w))], ss⟩ = .nx ⟨[some (.val (.int m)), some (.val (.int v))], ss⟩
  | 0, w, n, h, hn => by
    obtain ⟨k, rfl⟩ : ∃ k, n = k + 1 := ⟨n - 1, by omega⟩
    refine ⟨w, w_end m w (by omega) ?_ k ss⟩
    rw [Nat.add_zero] at h
    exact Int.ediv_eq_zero_of_lt hm (by simpa using h)
  | d + 1, w, n, h, hn => by
    obtain ⟨k, rfl⟩ : ∃ k, n = k + 1 := ⟨n - 1, by omega⟩
    by_cases h2 : m / 2 ^ ((w : Int)).toNat = 0
    · exact ⟨w, w_end m w (by omega) h2 k ss⟩
    · obtain ⟨v, ih⟩ := w_go m hm ss d (w + 1) k (by rw [show w + 1 + d = w + (d + 1) by omega]; exact h) (by omega)
      refine ⟨v, ?_⟩
      rw [w_step m w (by omega) h2 k ss]
      exact ih
theorem wo_run (m v : Int) (ss : SS) (e : sWhGo t_width_of_0 b_width_of_0 fuel ⟨[some (.val (.int m)), some (.val (.int 0))], ss⟩ = .nx ⟨[some (.val (.int m)), some (.val (.int v))], ss⟩) : m_width_of [.int m] ss = .ok (.int v) ss := by
  simp [m_width_of, e_width_of, sWhile, e]
theorem lu_run (m v : Int) (ss : SS) (h : m_width_of [.int (m - 1)] ss = .ok (.int v) ss) : m_log_up [.int m] ss = .ok (.int v) ss := by
  simp [m_log_up, e_log_up, h]
theorem log_up_ok (m : Int) (h1 : 1 ≤ m) (N : Nat) (hN : N < 100000) (h : m - 1 < 2 ^ N) (ss : SS) : ∃ v : Int, m_log_up [.int m] ss = .ok (.int v) ss := by
  obtain ⟨v, e⟩ := w_go (m - 1) (by omega) ss N 0 fuel (by rw [Nat.zero_add]; exact h) (by unfold fuel; omega)
  exact ⟨v, lu_run m v ss (wo_run _ v ss e)⟩
theorem mulOk_l (i j : Int) (h : i.natAbs < 18446744073709551616) : mulOk i j = true := by
  unfold mulOk
  rw [decide_eq_true (show i.natAbs < 2 ^ 64 from h)]
  rfl
/-- meet: the powers -/
theorem fl_body (nm sz md : D) (a b : Int) (d : D) (x5 : Option TD.Slot) (ss : SS) (k : W → RS) : oS (g_fewest_leaves_0 d ⟨[some (.val nm), some (.val sz), some (.val md), some (.val (.int a)), some (.val (.int b)), x5], ss⟩) (fun w => (b_fewest_leaves_0 w).loop k) = k ⟨[some (.val nm), some (.val sz), some (.val md), some (.val (.int (3 * a))), some (.val (.int (2 * b))), some (.val d)], ss⟩ := by
  have h1 : mulOk 3 a = true := mulOk_l _ _ (by decide)
  have h2 : mulOk 2 b = true := mulOk_l _ _ (by decide)
  simp [g_fewest_leaves_0, b_fewest_leaves_0, h1, h2]
theorem fl_go (nm sz md : D) (ss : SS) : ∀ (ds : List D) (k : Nat) (x5 : Option TD.Slot), ∃ y, sForGo g_fewest_leaves_0 b_fewest_leaves_0 ds ⟨[some (.val nm), some (.val sz), some (.val md), some (.val (.int (3 ^ k))), some (.val (.int (2 ^ k))), x5], ss⟩ = .nx ⟨[some (.val nm), some (.val sz), some (.val md), some (.val (.int (3 ^ (k + ds.length)))), some (.val (.int (2 ^ (k + ds.length)))), y], ss⟩
  | [], k, x5 => ⟨x5, rfl⟩
  | d :: ds, k, x5 => by
    obtain ⟨y, ih⟩ := fl_go nm sz md ss ds (k + 1) (some (.val d))
    refine ⟨y, ?_⟩
    rw [sForGo_cons, fl_body nm sz md (3 ^ k) (2 ^ k) d x5 ss, show (3 : Int) * 3 ^ k = 3 ^ (k + 1) by rw [Int.pow_succ, Int.mul_comm], show (2 : Int) * 2 ^ k = 2 ^ (k + 1) by rw [Int.pow_succ, Int.mul_comm], ih, List.length_cons, show k + 1 + ds.length = k + (ds.length + 1) by omega]
theorem fl_gr (n md : Int) (ss : SS) (m : m_must_be_puzzle [nmD .gr, .int n, .int md] ss = .ok .non ss) : m_fewest_leaves [nmD .gr, .int n, .int md] ss = .ok (.int (2 * n - 1)) ss := by
  have h1 : mulOk 2 n = true := mulOk_l _ _ (by decide)
  simp only [nmD, s_gr] at m ⊢
  simp [m_fewest_leaves, e_fewest_leaves, m, h1]
theorem fl_me (n md T B : Int) (y : Option TD.Slot) (ss : SS) (hs : small n = true) (m : m_must_be_puzzle [nmD .me, .int n, .int md] ss = .ok .non ss) (hB : divOk B = true)
    (q : sForGo g_fewest_leaves_0 b_fewest_leaves_0 (rngD 0 n) ⟨[some (.val (nmD .me)), some (.val (.int n)), some (.val (.int md)), some (.val (.int 1)), some (.val (.int 1)), none], ss⟩ = .nx ⟨[some (.val (nmD .me)), some (.val (.int n)), some (.val (.int md)), some (.val (.int T)), some (.val (.int B)), y], ss⟩) : m_fewest_leaves [nmD .me, .int n, .int md] ss = .ok (.int (1 - (-T) / B)) ss := by
  simp only [nmD, s_me] at m q ⊢
  simp [m_fewest_leaves, e_fewest_leaves, m, hs, q, hB]
theorem fl_inn (n md L : Int) (ss : SS) (m : m_must_be_puzzle [nmD .inn, .int n, .int md] ss = .ok .non ss) (q : m_lines_of [.int n, .int md] ss = .ok (.int L) ss) : m_fewest_leaves [nmD .inn, .int n, .int md] ss = .ok (.int (2 * L - 1)) ss := by
  have h1 : mulOk 2 L = true := mulOk_l _ _ (by decide)
  simp only [nmD, s_inn] at m ⊢
  simp [m_fewest_leaves, e_fewest_leaves, m, q, h1]
/-- lines -/
theorem lo_body (sz : D) (md f p : Int) (h : mulOk p md = true) (d : D) (x4 : Option TD.Slot) (ss : SS) (k : W → RS) : oS (g_lines_of_0 d ⟨[some (.val sz), some (.val (.int md)), some (.val (.int f)), some (.val (.int p)), x4], ss⟩) (fun w => (b_lines_of_0 w).loop k) = k ⟨[some (.val sz), some (.val (.int md)), some (.val (.int (f + p))), some (.val (.int (p * md))), some (.val d)], ss⟩ := by
  simp [g_lines_of_0, b_lines_of_0, h]
theorem lo_go (sz : D) (md : Int) (hmd : 2 ≤ md ∧ md ≤ 61) (ss : SS) : ∀ (ds : List D) (k : Nat) (f : Int) (x4 : Option TD.Slot), 0 ≤ f → f < md ^ k → ∃ (f' : Int) (y : Option TD.Slot) (P : Int), sForGo g_lines_of_0 b_lines_of_0 ds ⟨[some (.val sz), some (.val (.int md)), some (.val (.int f)), some (.val (.int (md ^ k))), x4], ss⟩ = .nx ⟨[some (.val sz), some (.val (.int md)), some (.val (.int f')), some (.val (.int P)), y], ss⟩ ∧ f + ds.length ≤ f' ∧ f' < md ^ (k + ds.length)
  | [], k, f, x4, h0, h1 => ⟨f, x4, md ^ k, rfl, by simp, h1⟩
  | d :: ds, k, f, x4, h0, h1 => by
    have hp : 0 < md ^ k := Int.pow_pos (by omega)
    have hm : mulOk (md ^ k) md = true := mulOk_r _ _ (by omega)
    have h2 : md ^ k * 2 ≤ md ^ k * md := Int.mul_le_mul_of_nonneg_left hmd.1 (Int.le_of_lt hp)
    have e : md ^ (k + 1) = md ^ k * md := Int.pow_succ ..
    obtain ⟨f', y, P, ih, l1, l2⟩ := lo_go sz md hmd ss ds (k + 1) (f + md ^ k) (some (.val d)) (by omega) (by rw [e]; omega)
    refine ⟨f', y, P, ?_, ?_, ?_⟩
    · rw [sForGo_cons, lo_body sz md f (md ^ k) hm d x4 ss, ← e, ih]
    · simp only [List.length_cons]; omega
    · rw [List.length_cons, show k + (ds.length + 1) = k + 1 + ds.length by omega]; exact l2
theorem lo_run (n md F P : Int) (y : Option TD.Slot) (ss : SS) (hs : small n = true) (q : sForGo g_lines_of_0 b_lines_of_0 (rngD 0 n) ⟨[some (.val (.int n)), some (.val (.int md)), some (.val (.int 0)), some (.val (.int 1)), none], ss⟩ = .nx ⟨[some (.val (.int n)), some (.val (.int md)), some (.val (.int F)), some (.val (.int P)), y], ss⟩) : m_lines_of [.int n, .int md] ss = .ok (.int F) ss := by
  simp [m_lines_of, e_lines_of, hs, q]
theorem pow_le_int (a b k n : Nat) (h1 : a ≤ b) (h2 : k ≤ n) (h3 : 1 ≤ b) : (a : Int) ^ k ≤ (b : Int) ^ n := by
  have := Nat.le_trans (Nat.pow_le_pow_left h1 k) (Nat.pow_le_pow_right h3 h2)
  exact_mod_cast this
theorem leaves_ok {x : Nm} {n : Nat} {md : Int} (h : Pz x n md) (ss : SS) : ∃ v : Int, m_fewest_leaves [nmD x, .int n, .int md] ss = .ok (.int v) ss ∧ 1 ≤ v ∧ v - 1 < 2 ^ 7000 := by
  have h1 := h.lo
  have h2 := h.hi
  have m := must_yes h ss
  have hs : small (n : Int) = true := small_len (by omega)
  have hlen : (rngD 0 (n : Int)).length = n := by simp [rngD]
  cases x with
  | gr =>
    refine ⟨_, fl_gr n md ss m, by omega, Int.lt_trans (show 2 * (n : Int) - 1 - 1 < 2 ^ 20 by omega) (by decide +kernel)⟩
  | me =>
    obtain ⟨y, q⟩ := fl_go (nmD .me) (.int n) (.int md) ss (rngD 0 n) 0 none
    rw [hlen, Nat.zero_add] at q
    have b0 : (0 : Int) < 2 ^ n := Int.pow_pos (by decide)
    have b1 : (2 : Int) ^ n < 2 ^ 9000 := Int.pow_lt_pow_of_lt (by decide) (by omega)
    have t0 : (0 : Int) < 3 ^ n := Int.pow_pos (by decide)
    have t1 : (3 : Int) ^ n ≤ 3 ^ 1000 := pow_le_int 3 3 n 1000 (by decide) (by omega) (by decide)
    refine ⟨_, fl_me n md (3 ^ n) (2 ^ n) y ss hs m (divOk_of _ b0 b1) q, ?_, ?_⟩
    · have : (-(3 : Int) ^ n) / 2 ^ n ≤ 0 := Int.ediv_nonpos_of_nonpos_of_neg (by omega) b0
      omega
    · have h3 : -(3 : Int) ^ n ≤ (-(3 : Int) ^ n) / 2 ^ n := by
        have := Int.ediv_le_ediv b0 (show -(3 : Int) ^ n * 2 ^ n ≤ -(3 : Int) ^ n by
          have : (3 : Int) ^ n * 1 ≤ 3 ^ n * 2 ^ n := Int.mul_le_mul_of_nonneg_left (by omega) (by omega)
          rw [Int.neg_mul]; omega)
        rwa [Int.mul_ediv_cancel _ (by omega)] at this
      have : (3 : Int) ^ 1000 < 2 ^ 7000 := by decide +kernel
      omega
  | inn =>
    have hp := primes_rng md (h.pr rfl)
    obtain ⟨F, y, P, q, l1, l2⟩ := lo_go (.int n) md ⟨hp.1, hp.2.1⟩ ss (rngD 0 n) 0 0 none (Int.le_refl _) (by simp)
    rw [hlen] at l1 l2
    rw [Nat.zero_add] at l2
    rw [Int.pow_zero] at q
    refine ⟨_, fl_inn n md F ss m (lo_run n md F P y ss hs q), by omega, ?_⟩
    have a1 : md ^ n ≤ 61 ^ 1000 := by
      have := pow_le_int md.toNat 61 n 1000 (by omega) (by omega) (by decide)
      rwa [show ((md.toNat : Nat) : Int) = md by omega] at this
    have a3 : 2 * (61 : Int) ^ 1000 < 2 ^ 7000 := by decide +kernel
    omega
theorem fb_run (z n md : D) (L v : Int) (ss : SS) (h1 : m_fewest_leaves [z, n, md] ss = .ok (.int L) ss) (h2 : m_log_up [.int L] ss = .ok (.int v) ss) : m_fewest_bits [z, n, md] ss = .ok (.int v) ss := by
  simp [m_fewest_bits, e_fewest_bits, h1, h2]
theorem bits_ok {x : Nm} {n : Nat} {md : Int} (h : Pz x n md) (ss : SS) : ∃ v : Int, m_fewest_bits [nmD x, .int n, .int md] ss = .ok (.int v) ss := by
  obtain ⟨L, h1, h2, h3⟩ := leaves_ok h ss
  obtain ⟨v, h4⟩ := log_up_ok L h2 7000 (by decide) h3 ss
  exact ⟨v, fb_run _ _ _ L v ss h1 h4⟩
theorem leaves_no {z n md : D} {ss : SS} (h : m_must_be_puzzle [z, n, md] ss = .exc badP ss) : m_fewest_leaves [z, n, md] ss = .exc badP ss := by
  simp [m_fewest_leaves, e_fewest_leaves, h]
theorem bits_no {z n md : D} {ss : SS} (h : m_must_be_puzzle [z, n, md] ss = .exc badP ss) : m_fewest_bits [z, n, md] ss = .exc badP ss := by
  simp [m_fewest_bits, e_fewest_bits, leaves_no h]
end K43

set_option Elab.async false
set_option linter.all false
set_option maxRecDepth 100000
set_option maxHeartbeats 4000000
namespace K43
open PySem PySem.Spec PyProof.Rows L2 TD TP
open K31 (isCnt dI)
/-! ### weights of meet -/
theorem mw_inner (sz HL d e : D) (v : Int) (ss : SS) (h : m_value_of [.str "meet", .int 0, d, e] ss = .ok (.int v) ss) : lcStep [3] (gsName 3) (mB (mBin gEq (mCall 4 m_value_of (mCons (mC (.str "meet")) (mCons (mC (.int 0)) (mCons (mVar 2) (mCons (mVar 3) (mNil)))))) (mC (.int 0)))) (mTup (mCons (mVar 2) (mCons (mVar 3) (mNil)))) e ⟨[some (.val sz), some (.val HL), some (.val d), none], ss⟩ =
    .ok (if v = 0 then some (.tup [d, e]) else none) ⟨[some (.val sz), some (.val HL), some (.val d), none], ss⟩ := by
  by_cases hv : v = 0 <;> simp [lcStep, h, hv]
theorem mw_step (sz d : D) (HL O acc : List D) (ss : SS) (q : lcGo [3] (gsName 3) (mB (mBin gEq (mCall 4 m_value_of (mCons (mC (.str "meet")) (mCons (mC (.int 0)) (mCons (mVar 2) (mCons (mVar 3) (mNil)))))) (mC (.int 0)))) (mTup (mCons (mVar 2) (mCons (mVar 3) (mNil)))) HL acc ⟨[some (.val sz), some (.val (.tup HL)), some (.val d), none], ss⟩ = .ok (acc ++ O) ⟨[some (.val sz), some (.val (.tup HL)), some (.val d), none], ss⟩) :
    lc2Step [2, 3] [3] (gsName 2) mYes (mItems (mVar 1)) (gsName 3) (mB (mBin gEq (mCall 4 m_value_of (mCons (mC (.str "meet")) (mCons (mC (.int 0)) (mCons (mVar 2) (mCons (mVar 3) (mNil)))))) (mC (.int 0)))) (mTup (mCons (mVar 2) (mCons (mVar 3) (mNil)))) d acc ⟨[some (.val sz), some (.val (.tup HL)), none, none], ss⟩ = .ok (acc ++ O) ⟨[some (.val sz), some (.val (.tup HL)), none, none], ss⟩ := by
  generalize acc ++ O = AO at q ⊢
  simp [lc2Step, q]
theorem mw_run (n : Int) (HL V : List D) (ss : SS) (h : m_all_held [.str "meet", .int n, .int 0] ss = .ok (.tup HL) ss)
    (q : lcGo2 [2, 3] [3] (gsName 2) mYes (mItems (mVar 1)) (gsName 3) (mB (mBin gEq (mCall 4 m_value_of (mCons (mC (.str "meet")) (mCons (mC (.int 0)) (mCons (mVar 2) (mCons (mVar 3) (mNil)))))) (mC (.int 0)))) (mTup (mCons (mVar 2) (mCons (mVar 3) (mNil)))) HL [] ⟨[some (.val (.int n)), some (.val (.tup HL)), none, none], ss⟩ = .ok V ⟨[some (.val (.int n)), some (.val (.tup HL)), none, none], ss⟩) : m_meet_weights [.int n] ss = .ok (.tup V) ss := by
  simp [m_meet_weights, e_meet_weights, h, q]
theorem mw_exc (d : D) (c : Exn) (ss : SS) (h : m_all_held [.str "meet", d, .int 0] ss = .exc c ss) : m_meet_weights [d] ss = .exc c ss := by
  simp [m_meet_weights, e_meet_weights, h]
theorem weights_ok {n : Nat} (h : Pz .me n 0) (hc : cnt .me n 0 ≤ 256) (ss : SS) : ∃ V, m_meet_weights [.int n] ss = .ok (.tup V) ss := by
  have h1 := all_held_eq h ss
  rw [if_pos hc] at h1
  have hl := hel_len .me n 0
  let out : D → List D := fun d => (hel .me n 0).filterMap fun e => if vD .me 0 d e = 0 then some (.tup [d, e]) else none
  have ho : ∀ d, (out d).length ≤ 256 := fun d => Nat.le_trans (List.length_filterMap_le _ _) (by omega)
  have hfl : ∀ ds : List D, (ds.flatMap out).length ≤ 256 * ds.length := by
    intro ds
    induction ds with
    | nil => simp
    | cons d ds ih =>
      rw [List.flatMap_cons, List.length_append, List.length_cons]
      have := ho d
      omega
  have q := lc2_pureN 70000 (vs := [2, 3]) (vs1 := [3]) (set := gsName 2) (mt := mYes) (mi1 := mItems (mVar 1)) (set1 := gsName 3) (mt1 := mB (mBin gEq (mCall 4 m_value_of (mCons (mC (.str "meet")) (mCons (mC (.int 0)) (mCons (mVar 2) (mCons (mVar 3) (mNil)))))) (mC (.int 0)))) (me := mTup (mCons (mVar 2) (mCons (mVar 3) (mNil)))) out ⟨[some (.val (.int n)), some (.val (.tup (hel .me n 0))), none, none], ss⟩ (hel .me n 0) [] (fun d hd acc ha => by
    refine mw_step (.int n) d (hel .me n 0) (out d) acc ss ?_
    refine lc_pure (fun e => if vD .me 0 d e = 0 then some (.tup [d, e]) else none) _ (hel .me n 0) acc (fun e he => ?_) ?_
    · have := value_eq h hd he ss
      exact mw_inner (.int n) _ d e _ ss this
    · omega) (by have := hfl (hel .me n 0); simp only [List.length_nil]; omega)
  exact ⟨_, mw_run n _ _ ss h1 q⟩
/-! ### lines -/
theorem lh_body (n md : D) (r h : List D) (b : Bool) (told : List D) (ht : told.length < 1000) (x3 x4 : Option TD.Slot) (ss : SS)
    (q : lcGo [5] (gsName 5) (mB (mBin gNe (mVar 5) (mC (.int 0)))) (mVar 5) r [] ⟨[some (.val n), some (.val md), some (.own told), some (.val (.tup r)), x4, none], ss⟩ = .ok h ⟨[some (.val n), some (.val md), some (.own told), some (.val (.tup r)), x4, none], ss⟩)
    (ok : D.oks 63 (h.take 1) = true) (hb : D.eqvs (h.take 1) [.int 1] = b) (k : W → RS) : ∃ (told' : List D) (y4 : Option TD.Slot), oS (g_lines_held_0 (.tup r) ⟨[some (.val n), some (.val md), some (.own told), x3, x4, none], ss⟩) (fun w => (b_lines_held_0 w).loop k) = k ⟨[some (.val n), some (.val md), some (.own told'), some (.val (.tup r)), y4, none], ss⟩ ∧ told'.length ≤ told.length + 1 := by
  have ht' : told.length < 1000000 := by omega
  cases b with
  | false => exact ⟨told, some (.own h), by simp [g_lines_held_0, b_lines_held_0, q, ok, hb], by omega⟩
  | true => exact ⟨told ++ [.tup r], some (.own h), by simp [g_lines_held_0, b_lines_held_0, q, ok, hb, ht'], by simp⟩
theorem ne_step (n md : D) (told : List D) (R : D) (i : Int) (x4 : Option TD.Slot) (ss : SS) : lcStep [5] (gsName 5) (mB (mBin gNe (mVar 5) (mC (.int 0)))) (mVar 5) (.int i) ⟨[some (.val n), some (.val md), some (.own told), some (.val R), x4, none], ss⟩ = .ok (if i = 0 then none else some (.int i)) ⟨[some (.val n), some (.val md), some (.own told), some (.val R), x4, none], ss⟩ := by
  by_cases h : i = 0 <;> simp [lcStep, h]
theorem lh_go (n md : D) (ss : SS) : ∀ (rs : List (List Int)) (told : List D) (x3 x4 : Option TD.Slot), told.length + rs.length ≤ 900 → (∀ r ∈ rs, r.length ≤ 1000) →
    ∃ (told' : List D) (y3 y4 : Option TD.Slot), sForGo g_lines_held_0 b_lines_held_0 (rwD rs) ⟨[some (.val n), some (.val md), some (.own told), x3, x4, none], ss⟩ = .nx ⟨[some (.val n), some (.val md), some (.own told'), y3, y4, none], ss⟩
  | [], told, x3, x4, _, _ => ⟨told, x3, x4, rfl⟩
  | r :: rs, told, x3, x4, hl, hr => by
    simp only [List.length_cons] at hl
    have hr0 := hr r (List.mem_cons_self ..)
    have q := lc_pure (vs := [5]) (set := gsName 5) (mt := mB (mBin gNe (mVar 5) (mC (.int 0)))) (me := mVar 5) (fun d => match d with | .int i => if i = 0 then none else some (.int i) | _ => none) ⟨[some (.val n), some (.val md), some (.own told), some (.val (dI r)), x4, none], ss⟩ (r.map D.int) [] (fun d hd => by
      obtain ⟨i, _, rfl⟩ := List.mem_map.mp hd
      exact ne_step n md told _ i x4 ss) (by simp; omega)
    rw [List.nil_append] at q
    have ok : D.oks 63 (((r.map D.int).filterMap (fun d => match d with | .int i => if i = 0 then none else some (D.int i) | _ => none)).take 1) = true := oks_all 63 _ fun d hd => by
      obtain ⟨e, he, h2⟩ := List.mem_filterMap.mp (List.mem_of_mem_take hd)
      obtain ⟨i, _, rfl⟩ := List.mem_map.mp he
      have h2 : (if i = 0 then none else some (D.int i)) = some d := h2
      split at h2
      · cases h2
      · cases h2; simp
    obtain ⟨told', y4, e, hl'⟩ := lh_body n md (r.map D.int) _ _ told (by omega) x3 x4 ss q ok rfl (sForGo g_lines_held_0 b_lines_held_0 (rwD rs))
    obtain ⟨t2, y3, y5, ih⟩ := lh_go n md ss rs told' (some (.val (.tup (r.map D.int)))) y4 (by omega) fun z hz => hr z (List.mem_cons_of_mem _ hz)
    exact ⟨t2, y3, y5, by rw [rwD, List.map_cons, sForGo_cons]; exact e.trans ih⟩
theorem lhd_run (n md : D) (HL V : List D) (y3 y4 : Option TD.Slot) (ss : SS) (h : m_all_held [.str "inner", n, md] ss = .ok (.tup HL) ss) (q : sForGo g_lines_held_0 b_lines_held_0 HL ⟨[some (.val n), some (.val md), some (.own []), none, none, none], ss⟩ = .nx ⟨[some (.val n), some (.val md), some (.own V), y3, y4, none], ss⟩) : m_lines_held [n, md] ss = .ok (.tup V) ss := by
  simp [m_lines_held, e_lines_held, h, q]
theorem lhd_exc (n md : D) (c : Exn) (ss : SS) (h : m_all_held [.str "inner", n, md] ss = .exc c ss) : m_lines_held [n, md] ss = .exc c ss := by
  simp [m_lines_held, e_lines_held, h]
/-! ### refusals -/
def cal (w : Int) (z n md : D) (ss : SS) : RF := if w = 0 then m_all_held [z, n, md] ss else if w = 1 then m_puzzle_table [z, n, md] ss else if w = 2 then m_fewest_leaves [z, n, md] ss else if w = 3 then m_fewest_bits [z, n, md] ss else if w = 4 then m_meet_weights [n] ss else m_lines_held [n, md] ss
theorem w6 {w : Int} (h : 0 ≤ w ∧ w < 6) : w = 0 ∨ w = 1 ∨ w = 2 ∨ w = 3 ∨ w = 4 ∨ w = 5 := by omega
def dueD (k : Str) (x : Str) : D := .tup [.str k, .str x, .bl true]
theorem ref_ok (w : Int) (hw : 0 ≤ w ∧ w < 6) (z n md d : D) (ss : SS) (h : cal w z n md ss = .ok d ss) : m__law_refusal [.int w, z, n, md] ss = .ok .non ss := by
  rcases w6 hw with rfl | rfl | rfl | rfl | rfl | rfl <;> simp only [cal] at h <;> simp at h <;> simp [m__law_refusal, e__law_refusal, h]
theorem ref_val (w : Int) (hw : 0 ≤ w ∧ w < 6) (z n md : D) (ss : SS) (h : cal w z n md ss = .exc badP ss) : m__law_refusal [.int w, z, n, md] ss = .ok (dueD "value" "puzzle") ss := by
  rcases w6 hw with rfl | rfl | rfl | rfl | rfl | rfl <;> simp only [cal] at h <;> simp at h <;> simp [m__law_refusal, e__law_refusal, h, badP, dueD]
theorem ref_many (w : Int) (hw : 0 ≤ w ∧ w < 6) (z n md : D) (ss : SS) (h : cal w z n md ss = .exc many ss) : m__law_refusal [.int w, z, n, md] ss = .ok (dueD "many" "held") ss := by
  rcases w6 hw with rfl | rfl | rfl | rfl | rfl | rfl <;> simp only [cal] at h <;> simp at h <;> simp [m__law_refusal, e__law_refusal, h, many, dueD]
end K43

set_option Elab.async false
set_option linter.all false
set_option maxRecDepth 100000
set_option maxHeartbeats 4000000
namespace K44
open PySem PySem.Spec PyProof.Rows L2 TD
def hx : HxT := [(("BadValue", "TooMany"), false), (("TooMany", "TooMany"), true)]
@[simp] theorem hx_BadValue_TooMany : xT hx "TooMany" "BadValue" = some false := by decide +kernel
@[simp] theorem hx_TooMany_TooMany : xT hx "TooMany" "TooMany" = some true := by decide +kernel
def e_is_count : W → RS := 
  sCons (sRet (mAndV (mIsi "int" (mVar 0)) (mAndV (mNotV (mIsi "bool" (mVar 0))) (mChain gLe gLe (mVar 1) (mVar 0) (mVar 2))))) (sNil)
def m_is_count : List D → SS → RF := fnM 3 e_is_count
def t_width_of_0 : W → R Bool := mTru (mBin gShr (mVar 0) (mVar 1))
def b_width_of_0 : W → RS := 
    sCons (sAug 1 gAddI (mC (.int 1))) (sNil)
def e_width_of : W → RS := 
  sCons (sSet 1 (mC (.int 0))) (
  sCons (sWhile (t_width_of_0) (b_width_of_0)) (
  sCons (sRet (mVar 1)) (sNil)))
def m_width_of : List D → SS → RF := fnM 2 e_width_of
def e_log_up : W → RS := 
  sCons (sRet (mCall 1 m_width_of (mCons (mBin gSub (mVar 0) (mC (.int 1))) (mNil)))) (sNil)
def m_log_up : List D → SS → RF := fnM 1 e_log_up
def e_is_prime : W → RS := 
  sCons (sIf (mNotT (mTru (mCall 3 m_is_count (mCons (mVar 0) (mCons (mC (.int 2)) (mCons (mC (.int 64)) (mNil))))))) (
    sCons (sRet (mC (.bl false))) (sNil)) (sNil)) (
  sCons (sRet (mBin gEq (mBlt gLen (mCons (mFrz (mLc [1] (mRng2 (mCons (mC (.int 2)) (mCons (mVar 0) (mNil)))) (gsName 1) (mB (mBin gEq (mBin gSub (mVar 0) (mBin gMul (mVar 1) (mBin gDiv (mVar 0) (mVar 1)))) (mC (.int 0)))) (mVar 1))) (mNil))) (mC (.int 0)))) (sNil))
def m_is_prime : List D → SS → RF := fnM 2 e_is_prime
def e_must_be_puzzle : W → RS := 
  sCons (sIf (mOrT (mB (mBin gNotInX (mVar 0) (mC (.tup [(.str "greater"), (.str "meet"), (.str "inner")])))) (mNotT (mTru (mCall 3 m_is_count (mCons (mVar 1) (mCons (mC (.int 1)) (mCons (mC (.int 1000)) (mNil)))))))) (
    sCons (sRaise "BadValue" "what" (mCons (mC (.str "puzzle")) (mNil))) (sNil)) (sNil)) (
  sCons (sIf (mAndT (mB (mBin gEq (mVar 0) (mC (.str "inner")))) (mNotT (mTru (mCall 1 m_is_prime (mCons (mVar 2) (mNil)))))) (
    sCons (sRaise "BadValue" "what" (mCons (mC (.str "puzzle")) (mNil))) (sNil)) (sNil)) (
  sCons (sIf (mAndT (mB (mBin gNe (mVar 0) (mC (.str "inner")))) (mB (mBin gNe (mVar 2) (mC (.int 0))))) (
    sCons (sRaise "BadValue" "what" (mCons (mC (.str "puzzle")) (mNil))) (sNil)) (sNil)) (sNil)))
def m_must_be_puzzle : List D → SS → RF := fnM 3 e_must_be_puzzle
def e_value_of : W → RS := 
  sCons (sIf (mB (mBin gEq (mVar 0) (mC (.str "greater")))) (
    sCons (sRet (mIfE (mB (mBin gLe (mVar 2) (mVar 3))) (mC (.int 1)) (mC (.int 0)))) (sNil)) (sNil)) (
  sCons (sSet 4 (mBlt gSum (mCons (mFrz (mLc [5, 6] (mZipA (mVar 2) (mVar 3)) (gsTup 2 (gsCons (gsName 5) (gsCons (gsName 6) (gsNil)))) (mYes) (mBin gMul (mVar 5) (mVar 6)))) (mNil)))) (
  sCons (sIf (mB (mBin gEq (mVar 0) (mC (.str "meet")))) (
    sCons (sRet (mVar 4)) (sNil)) (sNil)) (
  sCons (sRet (mBin gSub (mVar 4) (mBin gMul (mVar 1) (mBin gDiv (mVar 4) (mVar 1))))) (sNil))))
def m_value_of : List D → SS → RF := fnM 7 e_value_of
def g_all_held_0 : D → W → Option W := gsName 5
def b_all_held_0 : W → RS := 
    sCons (sIf (mScT (mB (mBin gGt (mBin gMul (mLenO 4) (mVar 3)) (mC (.int 256))))) (
      sCons (sRaise "TooMany" "what" (mCons (mC (.str "held")) (mNil))) (sNil)) (sNil)) (
    sCons (sSetF 4 (mLc2 [6, 7] [7] (mItems (mVar 4)) (gsName 6) (mYes) (mRng1 (mCons (mVar 3) (mNil))) (gsName 7) (mYes) (mBin gAdd (mVar 6) (mTup (mCons (mVar 7) (mNil)))))) (sNil))
def e_all_held : W → RS := 
  sCons (sExpr (mCall 3 m_must_be_puzzle (mCons (mVar 0) (mCons (mVar 1) (mCons (mVar 2) (mNil)))))) (
  sCons (sIf (mB (mBin gEq (mVar 0) (mC (.str "greater")))) (
    sCons (sIf (mB (mBin gGt (mVar 1) (mC (.int 256)))) (
      sCons (sRaise "TooMany" "what" (mCons (mC (.str "held")) (mNil))) (sNil)) (sNil)) (
    sCons (sRet (mTupRg (mVar 1))) (sNil))) (sNil)) (
  sCons (sSet 3 (mIfE (mB (mBin gEq (mVar 0) (mC (.str "inner")))) (mVar 2) (mC (.int 2)))) (
  sCons (sSetF 4 (mLst (mCons (mTup (mNil)) (mNil)))) (
  sCons (sFor (mRng1 (mCons (mVar 1) (mNil))) (g_all_held_0) (b_all_held_0)) (
  sCons (sRet (mTupO 4)) (sNil))))))
def m_all_held : List D → SS → RF := fnM 8 e_all_held
def g_lines_of_0 : D → W → Option W := gsName 4
def b_lines_of_0 : W → RS := 
    sCons (sAug 2 gAddI (mVar 3)) (
    sCons (sSet 3 (mBin gMul (mVar 3) (mVar 1))) (sNil))
def e_lines_of : W → RS := 
  sCons (sSet 2 (mC (.int 0))) (
  sCons (sSet 3 (mC (.int 1))) (
  sCons (sFor (mRng1 (mCons (mVar 0) (mNil))) (g_lines_of_0) (b_lines_of_0)) (
  sCons (sRet (mVar 2)) (sNil))))
def m_lines_of : List D → SS → RF := fnM 5 e_lines_of
def g_fewest_leaves_0 : D → W → Option W := gsName 5
def b_fewest_leaves_0 : W → RS := 
      sCons (sPar 3 4 (mCons (mBin gMul (mC (.int 3)) (mVar 3)) (mCons (mBin gMul (mC (.int 2)) (mVar 4)) (mNil)))) (sNil)
def e_fewest_leaves : W → RS := 
  sCons (sExpr (mCall 3 m_must_be_puzzle (mCons (mVar 0) (mCons (mVar 1) (mCons (mVar 2) (mNil)))))) (
  sCons (sIf (mB (mBin gEq (mVar 0) (mC (.str "greater")))) (
    sCons (sRet (mBin gSub (mBin gMul (mC (.int 2)) (mVar 1)) (mC (.int 1)))) (sNil)) (sNil)) (
  sCons (sIf (mB (mBin gEq (mVar 0) (mC (.str "meet")))) (
    sCons (sAsg (gsTup 2 (gsCons (gsName 3) (gsCons (gsName 4) (gsNil)))) (mTup (mCons (mC (.int 1)) (mCons (mC (.int 1)) (mNil))))) (
    sCons (sFor (mRng1 (mCons (mVar 1) (mNil))) (g_fewest_leaves_0) (b_fewest_leaves_0)) (
    sCons (sRet (mBin gSub (mC (.int 1)) (mBin gDiv (mUn gNeg (mVar 3)) (mVar 4)))) (sNil)))) (sNil)) (
  sCons (sRet (mBin gSub (mBin gMul (mC (.int 2)) (mCall 2 m_lines_of (mCons (mVar 1) (mCons (mVar 2) (mNil))))) (mC (.int 1)))) (sNil))))
def m_fewest_leaves : List D → SS → RF := fnM 6 e_fewest_leaves
def e_fewest_bits : W → RS := 
  sCons (sRet (mCall 1 m_log_up (mCons (mCall 3 m_fewest_leaves (mCons (mVar 0) (mCons (mVar 1) (mCons (mVar 2) (mNil))))) (mNil)))) (sNil)
def m_fewest_bits : List D → SS → RF := fnM 3 e_fewest_bits
def e_greater_lots : W → RS := 
  sCons (sSet 1 (mBlt gTuple (mCons (mFrz (mLc [2] (mRng1 (mCons (mVar 0) (mNil))) (gsName 2) (mYes) (mTup (mCons (mVar 2) (mCons (mVar 2) (mNil)))))) (mNil)))) (
  sCons (sSet 3 (mBlt gTuple (mCons (mFrz (mLc [2] (mRng1 (mCons (mBin gSub (mVar 0) (mC (.int 1))) (mNil))) (gsName 2) (mYes) (mTup (mCons (mBin gAdd (mVar 2) (mC (.int 1))) (mCons (mVar 2) (mNil)))))) (mNil)))) (
  sCons (sRet (mTup (mCons (mVar 1) (mCons (mVar 3) (mNil))))) (sNil)))
def m_greater_lots : List D → SS → RF := fnM 4 e_greater_lots
def e_meet_weights : W → RS := 
  sCons (sSet 1 (mCall 3 m_all_held (mCons (mC (.str "meet")) (mCons (mVar 0) (mCons (mC (.int 0)) (mNil)))))) (
  sCons (sRet (mBlt gTuple (mCons (mFrz (mLc2 [2, 3] [3] (mItems (mVar 1)) (gsName 2) (mYes) (mItems (mVar 1)) (gsName 3) (mB (mBin gEq (mCall 4 m_value_of (mCons (mC (.str "meet")) (mCons (mC (.int 0)) (mCons (mVar 2) (mCons (mVar 3) (mNil)))))) (mC (.int 0)))) (mTup (mCons (mVar 2) (mCons (mVar 3) (mNil)))))) (mNil)))) (sNil))
def m_meet_weights : List D → SS → RF := fnM 4 e_meet_weights
def g_lines_held_0 : D → W → Option W := gsName 3
def b_lines_held_0 : W → RS := 
    sCons (sSetF 4 (mLc [5] (mItems (mVar 3)) (gsName 5) (mB (mBin gNe (mVar 5) (mC (.int 0)))) (mVar 5))) (
    sCons (sIf (mScT (mB (mBin gEq (mFrz (mSlL (mVar 4) (mNoP) (mP (mC (.int 1))))) (mFrz (mLst (mCons (mC (.int 1)) (mNil))))))) (
      sCons (sApp 2 (mVar 3)) (sNil)) (sNil)) (sNil))
def e_lines_held : W → RS := 
  sCons (sSetF 2 (mLst (mNil))) (
  sCons (sFor (mItems (mCall 3 m_all_held (mCons (mC (.str "inner")) (mCons (mVar 0) (mCons (mVar 1) (mNil)))))) (g_lines_held_0) (b_lines_held_0)) (
  sCons (sRet (mTupO 2)) (sNil)))
def m_lines_held : List D → SS → RF := fnM 6 e_lines_held
def e__law_pick : W → RS := 
  sCons (sIf (mB (mBin gGt (mSrc 0 1) (mC (.int 0)))) (
    sCons (sSet 2 (mSrc 0 1)) (
    sCons (sSrc 0 1 (mBin gDiv (mVar 2) (mVar 1))) (
    sCons (sRet (mBin gMod (mBlt gInt (mCons (mVar 2) (mNil))) (mVar 1))) (sNil)))) (sNil)) (
  sCons (sSet 3 (mSrc 0 2)) (
  sCons (sSrc 0 2 (mBin gAdd (mVar 3) (mC (.int 1)))) (
  sCons (sSet 4 (mSrc 0 0)) (
  sCons (sSet 5 (mBin gIx (mVar 4) (mBin gMod (mBlt gInt (mCons (mVar 3) (mNil))) (mBlt gLen (mCons (mVar 4) (mNil)))))) (
  sCons (sIf (mAndT (mB (mBin gGe (mVar 5) (mBin gPow (mC (.int 10)) (mC (.int 18))))) (mB (mBin gLt (mVar 3) (mBlt gLen (mCons (mVar 4) (mNil)))))) (
    sCons (sSrc 0 1 (mBin gDiv (mVar 5) (mVar 1))) (
    sCons (sRet (mBin gMod (mBlt gInt (mCons (mVar 5) (mNil))) (mVar 1))) (sNil))) (sNil)) (
  sCons (sSet 6 (mBin gMod (mBlt gInt (mCons (mBin gAdd (mBin gAdd (mBin gMul (mBin gMod (mBlt gInt (mCons (mVar 5) (mNil))) (mC (.int 2147483647))) (mC (.int 48271))) (mBin gMul (mVar 3) (mC (.int 69621)))) (mC (.int 40692))) (mNil))) (mC (.int 2147483399)))) (
  sCons (sSet 7 (mBin gMod (mBlt gInt (mCons (mBin gAdd (mBin gAdd (mBin gMul (mVar 6) (mBin gAdd (mBin gMod (mBlt gInt (mCons (mVar 6) (mNil))) (mC (.int 65537))) (mC (.int 3)))) (mBin gMul (mVar 3) (mC (.int 7919)))) (mC (.int 17))) (mNil))) (mC (.int 2147483647)))) (
  sCons (sRet (mBin gMod (mBlt gInt (mCons (mBin gDiv (mVar 7) (mC (.int 5))) (mNil))) (mVar 1))) (sNil)))))))))
def m__law_pick : List D → SS → RF := fnM 8 e__law_pick
def e__law_is_int : W → RS := 
  sCons (sRet (mAndV (mIsi "int" (mVar 0)) (mNotV (mIsi "bool" (mVar 0))))) (sNil)
def m__law_is_int : List D → SS → RF := fnM 1 e__law_is_int
def e__law_numbers : W → RS := 
  sCons (sIf (mOrT (mNotT (mTru (mIsi "tuple" (mVar 0)))) (mB (mBin gNe (mBlt gLen (mCons (mVar 0) (mNil))) (mVar 1)))) (
    sCons (sRet (mC (.bl false))) (sNil)) (sNil)) (
  sCons (sRet (mBin gEq (mBlt gLen (mCons (mFrz (mLc [3] (mItems (mVar 0)) (gsName 3) (mOrT (mNotT (mTru (mCall 1 m__law_is_int (mCons (mVar 3) (mNil))))) (mOrT (mB (mBin gLt (mVar 3) (mC (.int 0)))) (mB (mBin gGe (mVar 3) (mVar 2))))) (mVar 3))) (mNil))) (mC (.int 0)))) (sNil))
def m__law_numbers : List D → SS → RF := fnM 4 e__law_numbers
def g__law_primes_0 : D → W → Option W := gsName 1
def b__law_primes_0 : W → RS := 
    sCons (sIf (mScT (mB (mBin gEq (mBlt gLen (mCons (mFrz (mLc [2] (mItems (mVar 0)) (gsName 2) (mB (mBin gEq (mBin gMod (mBlt gInt (mCons (mVar 1) (mNil))) (mVar 2)) (mC (.int 0)))) (mVar 2))) (mNil))) (mC (.int 0))))) (
      sCons (sApp 0 (mVar 1)) (sNil)) (sNil)) (sNil)
def e__law_primes : W → RS := 
  sCons (sSetF 0 (mLst (mNil))) (
  sCons (sFor (mRng2 (mCons (mC (.int 2)) (mCons (mC (.int 65)) (mNil)))) (g__law_primes_0) (b__law_primes_0)) (
  sCons (sRet (mVar 0)) (sNil)))
def m__law_primes : List D → SS → RF := fnM 3 e__law_primes
def g__law_power_0 : D → W → Option W := gsName 3
def b__law_power_0 : W → RS := 
    sCons (sSet 2 (mBin gMul (mVar 2) (mVar 0))) (sNil)
def e__law_power : W → RS := 
  sCons (sSet 2 (mC (.int 1))) (
  sCons (sFor (mRng1 (mCons (mVar 1) (mNil))) (g__law_power_0) (b__law_power_0)) (
  sCons (sRet (mVar 2)) (sNil)))
def m__law_power : List D → SS → RF := fnM 4 e__law_power
def e__law_any_size : W → RS := 
  sCons (sSet 1 (mCall 2 m__law_pick (mCons (mVar 0) (mCons (mC (.int 4)) (mNil))))) (
  sCons (sIf (mB (mBin gEq (mVar 1) (mC (.int 0)))) (
    sCons (sRet (mBin gAdd (mC (.int 1)) (mCall 2 m__law_pick (mCons (mVar 0) (mCons (mC (.int 1000)) (mNil)))))) (sNil)) (sNil)) (
  sCons (sIf (mB (mBin gEq (mVar 1) (mC (.int 1)))) (
    sCons (sRet (mBin gIx (mFrz (mLst (mCons (mC (.int 1)) (mCons (mC (.int 2)) (mCons (mC (.int 999)) (mCons (mC (.int 1000)) (mNil))))))) (mCall 2 m__law_pick (mCons (mVar 0) (mCons (mC (.int 4)) (mNil)))))) (sNil)) (sNil)) (
  sCons (sRet (mBin gAdd (mC (.int 1)) (mCall 2 m__law_pick (mCons (mVar 0) (mCons (mC (.int 12)) (mNil)))))) (sNil))))
def m__law_any_size : List D → SS → RF := fnM 2 e__law_any_size
def e__law_bits_right : W → RS := 
  sCons (sIf (mOrT (mNotT (mTru (mCall 1 m__law_is_int (mCons (mVar 0) (mNil))))) (mOrT (mNotT (mTru (mCall 1 m__law_is_int (mCons (mVar 1) (mNil))))) (mOrT (mB (mBin gLt (mVar 0) (mC (.int 1)))) (mOrT (mB (mBin gLt (mVar 1) (mC (.int 0)))) (mB (mBin gGt (mVar 1) (mC (.int 10000)))))))) (
    sCons (sRet (mC (.bl false))) (sNil)) (sNil)) (
  sCons (sIf (mB (mBin gLt (mBin gShl (mC (.int 1)) (mVar 1)) (mVar 0))) (
    sCons (sRet (mC (.bl false))) (sNil)) (sNil)) (
  sCons (sRet (mOrV (mBin gEq (mVar 1) (mC (.int 0))) (mBin gLt (mBin gShl (mC (.int 1)) (mBin gSub (mVar 1) (mC (.int 1)))) (mVar 0)))) (sNil)))
def m__law_bits_right : List D → SS → RF := fnM 2 e__law_bits_right
def e__law_leaves_right : W → RS := 
  sCons (sSet 3 (mCall 3 m_fewest_leaves (mCons (mVar 0) (mCons (mVar 1) (mCons (mVar 2) (mNil)))))) (
  sCons (sIf (mNotT (mTru (mCall 2 m__law_bits_right (mCons (mVar 3) (mCons (mCall 3 m_fewest_bits (mCons (mVar 0) (mCons (mVar 1) (mCons (mVar 2) (mNil))))) (mNil)))))) (
    sCons (sRet (mC (.bl false))) (sNil)) (sNil)) (
  sCons (sIf (mB (mBin gEq (mVar 0) (mC (.str "greater")))) (
    sCons (sRet (mBin gEq (mVar 3) (mBin gAdd (mVar 1) (mBin gSub (mVar 1) (mC (.int 1)))))) (sNil)) (sNil)) (
  sCons (sIf (mB (mBin gEq (mVar 0) (mC (.str "meet")))) (
    sCons (sPar 4 5 (mCons (mCall 2 m__law_power (mCons (mC (.int 3)) (mCons (mVar 1) (mNil)))) (mCons (mCall 2 m__law_power (mCons (mC (.int 2)) (mCons (mVar 1) (mNil)))) (mNil)))) (
    sCons (sRet (mAndV (mBin gGe (mBin gMul (mBin gSub (mVar 3) (mC (.int 1))) (mVar 5)) (mVar 4)) (mBin gLt (mBin gMul (mBin gSub (mVar 3) (mC (.int 2))) (mVar 5)) (mVar 4)))) (sNil))) (sNil)) (
  sCons (sSet 6 (mCall 2 m_lines_of (mCons (mVar 1) (mCons (mVar 2) (mNil))))) (
  sCons (sIf (mOrT (mNotT (mTru (mCall 1 m__law_is_int (mCons (mVar 6) (mNil))))) (mB (mBin gNe (mBin gMul (mVar 6) (mBin gSub (mVar 2) (mC (.int 1)))) (mBin gSub (mCall 2 m__law_power (mCons (mVar 2) (mCons (mVar 1) (mNil)))) (mC (.int 1)))))) (
    sCons (sRet (mC (.bl false))) (sNil)) (sNil)) (
  sCons (sRet (mBin gEq (mVar 3) (mBin gSub (mBin gAdd (mVar 6) (mVar 6)) (mC (.int 1))))) (sNil)))))))
def m__law_leaves_right : List D → SS → RF := fnM 7 e__law_leaves_right
def g__law_lot_right_0 : D → W → Option W := gsName 5
def b__law_lot_right_0 : W → RS := 
      sCons (sAsg (gsTup 2 (gsCons (gsName 6) (gsCons (gsName 7) (gsNil)))) (mBin gIx (mVar 0) (mVar 5))) (
      sCons (sIf (mB (mBin gEq (mBin gIx (mVar 0) (mVar 2)) (mBin gIx (mVar 0) (mVar 5)))) (
        sCons (sRet (mC (.bl false))) (sNil)) (sNil)) (
      sCons (sIf (mAndT (mB (mBin gEq (mIfE (mB (mBin gLe (mVar 3) (mVar 7))) (mC (.int 1)) (mC (.int 0))) (mVar 1))) (mB (mBin gEq (mIfE (mB (mBin gLe (mVar 6) (mVar 4))) (mC (.int 1)) (mC (.int 0))) (mVar 1)))) (
        sCons (sRet (mC (.bl false))) (sNil)) (sNil)) (sNil)))
def g__law_lot_right_1 : D → W → Option W := gsName 2
def b__law_lot_right_1 : W → RS := 
    sCons (sAsg (gsTup 2 (gsCons (gsName 3) (gsCons (gsName 4) (gsNil)))) (mBin gIx (mVar 0) (mVar 2))) (
    sCons (sIf (mB (mBin gNe (mIfE (mB (mBin gLe (mVar 3) (mVar 4))) (mC (.int 1)) (mC (.int 0))) (mVar 1))) (
      sCons (sRet (mC (.bl false))) (sNil)) (sNil)) (
    sCons (sFor (mRng1 (mCons (mVar 2) (mNil))) (g__law_lot_right_0) (b__law_lot_right_0)) (sNil)))
def e__law_lot_right : W → RS := 
  sCons (sFor (mRng1 (mCons (mBlt gLen (mCons (mVar 0) (mNil))) (mNil))) (g__law_lot_right_1) (b__law_lot_right_1)) (
  sCons (sRet (mC (.bl true))) (sNil))
def m__law_lot_right : List D → SS → RF := fnM 8 e__law_lot_right
def g__law_lots_right_0 : D → W → Option W := gsName 3
def b__law_lots_right_0 : W → RS := 
    sCons (sSet 4 (mBin gIx (mVar 2) (mVar 3))) (
    sCons (sIf (mOrT (mNotT (mTru (mIsi "tuple" (mVar 4)))) (mB (mBin gNe (mBlt gLen (mCons (mVar 4) (mNil))) (mBin gSub (mVar 0) (mVar 3))))) (
      sCons (sRet (mC (.bl false))) (sNil)) (sNil)) (
    sCons (sIf (mB (mBin gGt (mBlt gLen (mCons (mFrz (mLc [5] (mItems (mVar 4)) (gsName 5) (mNotT (mTru (mCall 3 m__law_numbers (mCons (mVar 5) (mCons (mC (.int 2)) (mCons (mVar 0) (mNil))))))) (mVar 5))) (mNil))) (mC (.int 0)))) (
      sCons (sRet (mC (.bl false))) (sNil)) (sNil)) (
    sCons (sIf (mB (mBin gNe (mFrz (mSrtD (mFrz (mLc [5] (mItems (mVar 4)) (gsName 5) (mYes) (mVar 5))))) (mFrz (mLc [6] (mRng1 (mCons (mBin gSub (mVar 0) (mVar 3)) (mNil))) (gsName 6) (mYes) (mTup (mCons (mBin gAdd (mVar 6) (mVar 3)) (mCons (mVar 6) (mNil)))))))) (
      sCons (sRet (mC (.bl false))) (sNil)) (sNil)) (
    sCons (sIf (mAndT (mTru (mVar 1)) (mNotT (mTru (mCall 2 m__law_lot_right (mCons (mVar 4) (mCons (mBin gSub (mC (.int 1)) (mVar 3)) (mNil))))))) (
      sCons (sRet (mC (.bl false))) (sNil)) (sNil)) (sNil)))))
def e__law_lots_right : W → RS := 
  sCons (sSet 2 (mCall 1 m_greater_lots (mCons (mVar 0) (mNil)))) (
  sCons (sIf (mOrT (mNotT (mTru (mIsi "tuple" (mVar 2)))) (mB (mBin gNe (mBlt gLen (mCons (mVar 2) (mNil))) (mC (.int 2))))) (
    sCons (sRet (mC (.bl false))) (sNil)) (sNil)) (
  sCons (sFor (mRng1 (mCons (mC (.int 2)) (mNil))) (g__law_lots_right_0) (b__law_lots_right_0)) (
  sCons (sRet (mBin gEq (mCall 3 m_fewest_leaves (mCons (mC (.str "greater")) (mCons (mVar 0) (mCons (mC (.int 0)) (mNil))))) (mBin gAdd (mBlt gLen (mCons (mBin gIx (mVar 2) (mC (.int 0))) (mNil))) (mBlt gLen (mCons (mBin gIx (mVar 2) (mC (.int 1))) (mNil)))))) (sNil))))
def m__law_lots_right : List D → SS → RF := fnM 7 e__law_lots_right
def g__law_apart_0 : D → W → Option W := gsTup 2 (gsCons (gsName 4) (gsCons (gsName 5) (gsNil)))
def b__law_apart_0 : W → RS := 
      sCons (sApp 3 (mTup (mCons (mBin gAdd (mVar 4) (mTup (mCons (mC (.int 0)) (mNil)))) (mCons (mBin gAdd (mVar 5) (mTup (mCons (mC (.int 0)) (mNil)))) (mNil))))) (
      sCons (sApp 3 (mTup (mCons (mBin gAdd (mVar 4) (mTup (mCons (mC (.int 0)) (mNil)))) (mCons (mBin gAdd (mVar 5) (mTup (mCons (mC (.int 1)) (mNil)))) (mNil))))) (
      sCons (sApp 3 (mTup (mCons (mBin gAdd (mVar 4) (mTup (mCons (mC (.int 1)) (mNil)))) (mCons (mBin gAdd (mVar 5) (mTup (mCons (mC (.int 0)) (mNil)))) (mNil))))) (sNil)))
def g__law_apart_1 : D → W → Option W := gsName 2
def b__law_apart_1 : W → RS := 
    sCons (sSetF 3 (mLst (mNil))) (
    sCons (sFor (mItems (mVar 1)) (g__law_apart_0) (b__law_apart_0)) (
    sCons (sSet 1 (mVar 3)) (sNil)))
def e__law_apart : W → RS := 
  sCons (sSetF 1 (mLst (mCons (mTup (mCons (mTup (mNil)) (mCons (mTup (mNil)) (mNil)))) (mNil)))) (
  sCons (sFor (mRng1 (mCons (mVar 0) (mNil))) (g__law_apart_1) (b__law_apart_1)) (
  sCons (sRet (mFrz (mSrtD (mVar 1)))) (sNil)))
def m__law_apart : List D → SS → RF := fnM 6 e__law_apart
def g__law_weights_right_0 : D → W → Option W := gsName 2
def b__law_weights_right_0 : W → RS := 
    sCons (sIf (mOrT (mNotT (mTru (mIsi "tuple" (mVar 2)))) (mB (mBin gNe (mBlt gLen (mCons (mVar 2) (mNil))) (mC (.int 2))))) (
      sCons (sRet (mC (.bl false))) (sNil)) (sNil)) (
    sCons (sIf (mOrT (mNotT (mTru (mCall 3 m__law_numbers (mCons (mBin gIx (mVar 2) (mC (.int 0))) (mCons (mVar 0) (mCons (mC (.int 2)) (mNil))))))) (mNotT (mTru (mCall 3 m__law_numbers (mCons (mBin gIx (mVar 2) (mC (.int 1))) (mCons (mVar 0) (mCons (mC (.int 2)) (mNil)))))))) (
      sCons (sRet (mC (.bl false))) (sNil)) (sNil)) (sNil))
def e__law_weights_right : W → RS := 
  sCons (sSet 1 (mCall 1 m_meet_weights (mCons (mVar 0) (mNil)))) (
  sCons (sIf (mOrT (mNotT (mTru (mIsi "tuple" (mVar 1)))) (mB (mBin gNe (mVar 1) (mBlt gTuple (mCons (mCall 1 m__law_apart (mCons (mVar 0) (mNil))) (mNil)))))) (
    sCons (sRet (mC (.bl false))) (sNil)) (sNil)) (
  sCons (sFor (mItems (mVar 1)) (g__law_weights_right_0) (b__law_weights_right_0)) (
  sCons (sSet 3 (mBin gSub (mCall 3 m_fewest_leaves (mCons (mC (.str "meet")) (mCons (mVar 0) (mCons (mC (.int 0)) (mNil))))) (mC (.int 1)))) (
  sCons (sSet 4 (mBin gShl (mC (.int 1)) (mVar 0))) (
  sCons (sRet (mAndV (mBin gEq (mBlt gLen (mCons (mVar 1) (mNil))) (mCall 2 m__law_power (mCons (mC (.int 3)) (mCons (mVar 0) (mNil))))) (mAndV (mBin gGe (mBin gMul (mVar 3) (mVar 4)) (mBlt gLen (mCons (mVar 1) (mNil)))) (mBin gLt (mBin gMul (mBin gSub (mVar 3) (mC (.int 1))) (mVar 4)) (mBlt gLen (mCons (mVar 1) (mNil))))))) (sNil))))))
def m__law_weights_right : List D → SS → RF := fnM 5 e__law_weights_right
def g__law_rows_0 : D → W → Option W := gsName 6
def b__law_rows_0 : W → RS := 
        sCons (sApp 4 (mBin gAdd (mVar 5) (mTup (mCons (mVar 6) (mNil))))) (sNil)
def g__law_rows_1 : D → W → Option W := gsName 5
def b__law_rows_1 : W → RS := 
      sCons (sFor (mRng1 (mCons (mVar 1) (mNil))) (g__law_rows_0) (b__law_rows_0)) (sNil)
def g__law_rows_2 : D → W → Option W := gsName 3
def b__law_rows_2 : W → RS := 
    sCons (sSetF 4 (mLst (mNil))) (
    sCons (sFor (mItems (mVar 2)) (g__law_rows_1) (b__law_rows_1)) (
    sCons (sSet 2 (mVar 4)) (sNil)))
def e__law_rows : W → RS := 
  sCons (sSetF 2 (mLst (mCons (mTup (mNil)) (mNil)))) (
  sCons (sFor (mRng1 (mCons (mVar 0) (mNil))) (g__law_rows_2) (b__law_rows_2)) (
  sCons (sRet (mVar 2)) (sNil)))
def m__law_rows : List D → SS → RF := fnM 7 e__law_rows
def g__law_lines_right_0 : D → W → Option W := gsName 7
def b__law_lines_right_0 : W → RS := 
      sCons (sApp 3 (mBlt gTuple (mCons (mFrz (mLc [6] (mItems (mVar 4)) (gsName 6) (mYes) (mBin gMod (mBlt gInt (mCons (mBin gMul (mVar 7) (mVar 6)) (mNil))) (mVar 1)))) (mNil)))) (sNil)
def g__law_lines_right_1 : D → W → Option W := gsName 4
def b__law_lines_right_1 : W → RS := 
    sCons (sIf (mNotT (mTru (mCall 3 m__law_numbers (mCons (mVar 4) (mCons (mVar 0) (mCons (mVar 1) (mNil))))))) (
      sCons (sRet (mC (.bl false))) (sNil)) (sNil)) (
    sCons (sSetF 5 (mLc [6] (mItems (mVar 4)) (gsName 6) (mB (mBin gNe (mVar 6) (mC (.int 0)))) (mVar 6))) (
    sCons (sIf (mScT (mOrT (mB (mBin gEq (mLenO 5) (mC (.int 0)))) (mB (mBin gNe (mIxO 5 (mC (.int 0))) (mC (.int 1)))))) (
      sCons (sRet (mC (.bl false))) (sNil)) (sNil)) (
    sCons (sFor (mRng2 (mCons (mC (.int 1)) (mCons (mVar 1) (mNil)))) (g__law_lines_right_0) (b__law_lines_right_0)) (sNil))))
def e__law_lines_right : W → RS := 
  sCons (sSet 2 (mCall 2 m_lines_held (mCons (mVar 0) (mCons (mVar 1) (mNil))))) (
  sCons (sIf (mNotT (mTru (mIsi "tuple" (mVar 2)))) (
    sCons (sRet (mC (.bl false))) (sNil)) (sNil)) (
  sCons (sSetF 3 (mLst (mNil))) (
  sCons (sFor (mItems (mVar 2)) (g__law_lines_right_1) (b__law_lines_right_1)) (
  sCons (sIf (mB (mBin gNe (mFrz (mSrtD (mFrz (mLc [4] (mItems (mVar 2)) (gsName 4) (mYes) (mVar 4))))) (mFrz (mLc [4] (mItems (mVar 2)) (gsName 4) (mYes) (mVar 4))))) (
    sCons (sRet (mC (.bl false))) (sNil)) (sNil)) (
  sCons (sIf (mScT (mB (mBin gNe (mFrz (mSrtD (mVar 3))) (mFrz (mSlL (mCall 2 m__law_rows (mCons (mVar 0) (mCons (mVar 1) (mNil)))) (mP (mC (.int 1))) (mNoP)))))) (
    sCons (sRet (mC (.bl false))) (sNil)) (sNil)) (
  sCons (sRet (mAndV (mBin gEq (mBlt gLen (mCons (mVar 2) (mNil))) (mCall 2 m_lines_of (mCons (mVar 0) (mCons (mVar 1) (mNil))))) (mBin gEq (mCall 3 m_fewest_leaves (mCons (mC (.str "inner")) (mCons (mVar 0) (mCons (mVar 1) (mNil))))) (mBin gSub (mBin gMul (mC (.int 2)) (mBlt gLen (mCons (mVar 2) (mNil)))) (mC (.int 1)))))) (sNil)))))))
def m__law_lines_right : List D → SS → RF := fnM 8 e__law_lines_right
def e__law_refused : W → RS := 
  sCons (sTry (xT hx "TooMany") 3 (
    sCons (sIf (mB (mBin gEq (mVar 0) (mC (.int 0)))) (
      sCons (sExpr (mCall 1 m_meet_weights (mCons (mVar 1) (mNil)))) (sNil)) (
      sCons (sExpr (mCall 2 m_lines_held (mCons (mVar 1) (mCons (mVar 2) (mNil))))) (sNil))) (sNil)) (
    sCons (sRet (mBin gEq (mExf 3 "what") (mC (.str "held")))) (sNil))) (
  sCons (sRet (mC (.bl false))) (sNil))
def m__law_refused : List D → SS → RF := fnM 4 e__law_refused
def t__law_papers_right_0 : W → R Bool := mB (mBin gLe (mVar 7) (mC (.int 256)))
def b__law_papers_right_0 : W → RS := 
    sCons (sIf (mB (mBin gLe (mVar 7) (mVar 4))) (
      sCons (sAug 5 gAddI (mC (.int 1))) (sNil)) (sNil)) (
    sCons (sAug 6 gAddI (mC (.int 1))) (
    sCons (sSet 7 (mBin gMul (mVar 7) (mVar 3))) (sNil)))
def e__law_papers_right : W → RS := 
  sCons (sIf (mOrT (mNotT (mTru (mCall 2 m__law_lots_right (mCons (mBin gAdd (mC (.int 1)) (mCall 2 m__law_pick (mCons (mVar 0) (mCons (mC (.int 24)) (mNil))))) (mCons (mC (.bl true)) (mNil)))))) (mNotT (mTru (mCall 2 m__law_lots_right (mCons (mCall 1 m__law_any_size (mCons (mVar 0) (mNil))) (mCons (mC (.bl false)) (mNil))))))) (
    sCons (sRet (mC (.bl false))) (sNil)) (sNil)) (
  sCons (sSet 1 (mIfE (mB (mBin gEq (mCall 2 m__law_pick (mCons (mVar 0) (mCons (mC (.int 24)) (mNil)))) (mC (.int 0)))) (mBin gAdd (mC (.int 5)) (mCall 2 m__law_pick (mCons (mVar 0) (mCons (mC (.int 4)) (mNil))))) (mBin gAdd (mC (.int 1)) (mCall 2 m__law_pick (mCons (mVar 0) (mCons (mC (.int 4)) (mNil))))))) (
  sCons (sIf (mOrT (mNotT (mTru (mCall 1 m__law_weights_right (mCons (mVar 1) (mNil))))) (mNotT (mTru (mCall 3 m__law_refused (mCons (mC (.int 0)) (mCons (mBin gAdd (mC (.int 9)) (mCall 2 m__law_pick (mCons (mVar 0) (mCons (mC (.int 992)) (mNil))))) (mCons (mC (.int 0)) (mNil)))))))) (
    sCons (sRet (mC (.bl false))) (sNil)) (sNil)) (
  sCons (sSet 2 (mCall0 m__law_primes)) (
  sCons (sSet 3 (mIfE (mB (mBin gEq (mCall 2 m__law_pick (mCons (mVar 0) (mCons (mC (.int 3)) (mNil)))) (mC (.int 0)))) (mBin gIx (mVar 2) (mCall 2 m__law_pick (mCons (mVar 0) (mCons (mBlt gLen (mCons (mVar 2) (mNil))) (mNil))))) (mBin gIx (mVar 2) (mCall 2 m__law_pick (mCons (mVar 0) (mCons (mC (.int 4)) (mNil))))))) (
  sCons (sSet 4 (mIfE (mB (mBin gEq (mCall 2 m__law_pick (mCons (mVar 0) (mCons (mC (.int 12)) (mNil)))) (mC (.int 0)))) (mC (.int 256)) (mC (.int 64)))) (
  sCons (sAsg (gsTup 2 (gsCons (gsName 5) (gsCons (gsName 6) (gsNil)))) (mTup (mCons (mC (.int 0)) (mCons (mC (.int 1)) (mNil))))) (
  sCons (sSet 7 (mVar 3)) (
  sCons (sWhile (t__law_papers_right_0) (b__law_papers_right_0)) (
  sCons (sIf (mNotT (mTru (mCall 2 m__law_lines_right (mCons (mBin gAdd (mC (.int 1)) (mCall 2 m__law_pick (mCons (mVar 0) (mCons (mVar 5) (mNil))))) (mCons (mVar 3) (mNil)))))) (
    sCons (sRet (mC (.bl false))) (sNil)) (sNil)) (
  sCons (sRet (mCall 3 m__law_refused (mCons (mC (.int 1)) (mCons (mBin gAdd (mVar 6) (mCall 2 m__law_pick (mCons (mVar 0) (mCons (mBin gSub (mC (.int 1001)) (mVar 6)) (mNil))))) (mCons (mVar 3) (mNil)))))) (sNil)))))))))))
def m__law_papers_right : List D → SS → RF := fnM 8 e__law_papers_right
def g_law_0 : D → W → Option W := gsName 4
def b_law_0 : W → RS := 
      sCons (sSet 5 (mIfE (mB (mBin gEq (mVar 3) (mC (.str "inner")))) (mBin gIx (mVar 2) (mCall 2 m__law_pick (mCons (mVar 1) (mCons (mBlt gLen (mCons (mVar 2) (mNil))) (mNil))))) (mC (.int 0)))) (
      sCons (sIf (mNotT (mTru (mCall 3 m__law_leaves_right (mCons (mVar 3) (mCons (mCall 1 m__law_any_size (mCons (mVar 1) (mNil))) (mCons (mVar 5) (mNil))))))) (
        sCons (sRet (mC (.bl false))) (sNil)) (sNil)) (sNil))
def g_law_1 : D → W → Option W := gsName 3
def b_law_1 : W → RS := 
    sCons (sFor (mRng1 (mCons (mC (.int 2)) (mNil))) (g_law_0) (b_law_0)) (sNil)
def e_law : W → RS := 
  sCons (sSet 2 (mCall0 m__law_primes)) (
  sCons (sFor (mItems (mTup (mCons (mC (.str "greater")) (mCons (mC (.str "meet")) (mCons (mC (.str "inner")) (mNil)))))) (g_law_1) (b_law_1)) (
  sCons (sRet (mCall 1 m__law_papers_right (mCons (mVar 1) (mNil)))) (sNil)))
def envL : TD.Env := none :: some (.val .src) :: List.replicate 4 none
def LawTrue : Prop := ∀ cells : List Int, cells ≠ [] → (∀ c ∈ cells, (0 : Int) ≤ c) → ∃ w', e_law ⟨envL, ⟨cells, 0, 0⟩⟩ = .ret (.bl true) w'

end K44

set_option Elab.async false
set_option linter.all false
set_option maxRecDepth 100000
set_option maxHeartbeats 4000000
namespace K44
open PySem PySem.Spec PyProof.Rows L2 TD
def top (i : Nat) : Stmt := PySem.Challenge.pw_talkgrowth_k44_what_bars.main.body.getD i (.Pass ⟨0, 0, 0, 0⟩)
abbrev s_is_count : Stmt := top 5
abbrev s_width_of : Stmt := top 6
abbrev s_log_up : Stmt := top 7
abbrev s_must_be_puzzle : Stmt := top 11
abbrev s_is_prime : Stmt := top 12
abbrev s_value_of : Stmt := top 13
abbrev s_all_held : Stmt := top 14
abbrev s_fewest_leaves : Stmt := top 15
abbrev s_lines_of : Stmt := top 16
abbrev s_fewest_bits : Stmt := top 17
abbrev s_greater_lots : Stmt := top 18
abbrev s_meet_weights : Stmt := top 19
abbrev s_lines_held : Stmt := top 20
abbrev s__law_source : Stmt := top 22
abbrev s__law_pick : Stmt := top 23
abbrev s__law_is_int : Stmt := top 24
abbrev s__law_numbers : Stmt := top 25
abbrev s__law_primes : Stmt := top 26
abbrev s__law_power : Stmt := top 27
abbrev s__law_any_size : Stmt := top 28
abbrev s__law_bits_right : Stmt := top 29
abbrev s__law_leaves_right : Stmt := top 30
abbrev s__law_lot_right : Stmt := top 31
abbrev s__law_lots_right : Stmt := top 32
abbrev s__law_apart : Stmt := top 33
abbrev s__law_weights_right : Stmt := top 34
abbrev s__law_rows : Stmt := top 35
abbrev s__law_lines_right : Stmt := top 36
abbrev s__law_refused : Stmt := top 37
abbrev s__law_papers_right : Stmt := top 38
abbrev s_law : Stmt := top 39
structure Txt (P : Program) (K : PySem.W.Frag) (mg : Str → Option Value) : Prop where
  f_is_count : ∃ (f : Addr) (fd : FuncData), FunD K "is_count" "is_count" (defArgs s_is_count) (defBody s_is_count) (defScope s_is_count) [] [] f fd ∧ mg "is_count" = some (.ref f)
  f_width_of : ∃ (f : Addr) (fd : FuncData), FunD K "width_of" "width_of" (defArgs s_width_of) (defBody s_width_of) (defScope s_width_of) [] [] f fd ∧ mg "width_of" = some (.ref f)
  f_log_up : ∃ (f : Addr) (fd : FuncData), FunD K "log_up" "log_up" (defArgs s_log_up) (defBody s_log_up) (defScope s_log_up) [] [] f fd ∧ mg "log_up" = some (.ref f)
  f_must_be_puzzle : ∃ (f : Addr) (fd : FuncData), FunD K "must_be_puzzle" "must_be_puzzle" (defArgs s_must_be_puzzle) (defBody s_must_be_puzzle) (defScope s_must_be_puzzle) [] [] f fd ∧ mg "must_be_puzzle" = some (.ref f)
  f_is_prime : ∃ (f : Addr) (fd : FuncData), FunD K "is_prime" "is_prime" (defArgs s_is_prime) (defBody s_is_prime) (defScope s_is_prime) [] [] f fd ∧ mg "is_prime" = some (.ref f)
  f_value_of : ∃ (f : Addr) (fd : FuncData), FunD K "value_of" "value_of" (defArgs s_value_of) (defBody s_value_of) (defScope s_value_of) [] [] f fd ∧ mg "value_of" = some (.ref f)
  f_all_held : ∃ (f : Addr) (fd : FuncData), FunD K "all_held" "all_held" (defArgs s_all_held) (defBody s_all_held) (defScope s_all_held) [] [] f fd ∧ mg "all_held" = some (.ref f)
  f_fewest_leaves : ∃ (f : Addr) (fd : FuncData), FunD K "fewest_leaves" "fewest_leaves" (defArgs s_fewest_leaves) (defBody s_fewest_leaves) (defScope s_fewest_leaves) [] [] f fd ∧ mg "fewest_leaves" = some (.ref f)
  f_lines_of : ∃ (f : Addr) (fd : FuncData), FunD K "lines_of" "lines_of" (defArgs s_lines_of) (defBody s_lines_of) (defScope s_lines_of) [] [] f fd ∧ mg "lines_of" = some (.ref f)
  f_fewest_bits : ∃ (f : Addr) (fd : FuncData), FunD K "fewest_bits" "fewest_bits" (defArgs s_fewest_bits) (defBody s_fewest_bits) (defScope s_fewest_bits) [] [] f fd ∧ mg "fewest_bits" = some (.ref f)
  f_greater_lots : ∃ (f : Addr) (fd : FuncData), FunD K "greater_lots" "greater_lots" (defArgs s_greater_lots) (defBody s_greater_lots) (defScope s_greater_lots) [] [] f fd ∧ mg "greater_lots" = some (.ref f)
  f_meet_weights : ∃ (f : Addr) (fd : FuncData), FunD K "meet_weights" "meet_weights" (defArgs s_meet_weights) (defBody s_meet_weights) (defScope s_meet_weights) [] [] f fd ∧ mg "meet_weights" = some (.ref f)
  f_lines_held : ∃ (f : Addr) (fd : FuncData), FunD K "lines_held" "lines_held" (defArgs s_lines_held) (defBody s_lines_held) (defScope s_lines_held) [] [] f fd ∧ mg "lines_held" = some (.ref f)
  f__law_source : ∃ (f : Addr) (fd : FuncData), FunD K "_law_source" "_law_source" (defArgs s__law_source) (defBody s__law_source) (defScope s__law_source) [] [] f fd ∧ mg "_law_source" = some (.ref f)
  f__law_pick : ∃ (f : Addr) (fd : FuncData), FunD K "_law_pick" "_law_pick" (defArgs s__law_pick) (defBody s__law_pick) (defScope s__law_pick) [] [] f fd ∧ mg "_law_pick" = some (.ref f)
  f__law_is_int : ∃ (f : Addr) (fd : FuncData), FunD K "_law_is_int" "_law_is_int" (defArgs s__law_is_int) (defBody s__law_is_int) (defScope s__law_is_int) [] [] f fd ∧ mg "_law_is_int" = some (.ref f)
  f__law_numbers : ∃ (f : Addr) (fd : FuncData), FunD K "_law_numbers" "_law_numbers" (defArgs s__law_numbers) (defBody s__law_numbers) (defScope s__law_numbers) [] [] f fd ∧ mg "_law_numbers" = some (.ref f)
  f__law_primes : ∃ (f : Addr) (fd : FuncData), FunD K "_law_primes" "_law_primes" (defArgs s__law_primes) (defBody s__law_primes) (defScope s__law_primes) [] [] f fd ∧ mg "_law_primes" = some (.ref f)
  f__law_power : ∃ (f : Addr) (fd : FuncData), FunD K "_law_power" "_law_power" (defArgs s__law_power) (defBody s__law_power) (defScope s__law_power) [] [] f fd ∧ mg "_law_power" = some (.ref f)
  f__law_any_size : ∃ (f : Addr) (fd : FuncData), FunD K "_law_any_size" "_law_any_size" (defArgs s__law_any_size) (defBody s__law_any_size) (defScope s__law_any_size) [] [] f fd ∧ mg "_law_any_size" = some (.ref f)
  f__law_bits_right : ∃ (f : Addr) (fd : FuncData), FunD K "_law_bits_right" "_law_bits_right" (defArgs s__law_bits_right) (defBody s__law_bits_right) (defScope s__law_bits_right) [] [] f fd ∧ mg "_law_bits_right" = some (.ref f)
  f__law_leaves_right : ∃ (f : Addr) (fd : FuncData), FunD K "_law_leaves_right" "_law_leaves_right" (defArgs s__law_leaves_right) (defBody s__law_leaves_right) (defScope s__law_leaves_right) [] [] f fd ∧ mg "_law_leaves_right" = some (.ref f)
  f__law_lot_right : ∃ (f : Addr) (fd : FuncData), FunD K "_law_lot_right" "_law_lot_right" (defArgs s__law_lot_right) (defBody s__law_lot_right) (defScope s__law_lot_right) [] [] f fd ∧ mg "_law_lot_right" = some (.ref f)
  f__law_lots_right : ∃ (f : Addr) (fd : FuncData), FunD K "_law_lots_right" "_law_lots_right" (defArgs s__law_lots_right) (defBody s__law_lots_right) (defScope s__law_lots_right) [] [] f fd ∧ mg "_law_lots_right" = some (.ref f)
  f__law_apart : ∃ (f : Addr) (fd : FuncData), FunD K "_law_apart" "_law_apart" (defArgs s__law_apart) (defBody s__law_apart) (defScope s__law_apart) [] [] f fd ∧ mg "_law_apart" = some (.ref f)
  f__law_weights_right : ∃ (f : Addr) (fd : FuncData), FunD K "_law_weights_right" "_law_weights_right" (defArgs s__law_weights_right) (defBody s__law_weights_right) (defScope s__law_weights_right) [] [] f fd ∧ mg "_law_weights_right" = some (.ref f)
  f__law_rows : ∃ (f : Addr) (fd : FuncData), FunD K "_law_rows" "_law_rows" (defArgs s__law_rows) (defBody s__law_rows) (defScope s__law_rows) [] [] f fd ∧ mg "_law_rows" = some (.ref f)
  f__law_lines_right : ∃ (f : Addr) (fd : FuncData), FunD K "_law_lines_right" "_law_lines_right" (defArgs s__law_lines_right) (defBody s__law_lines_right) (defScope s__law_lines_right) [] [] f fd ∧ mg "_law_lines_right" = some (.ref f)
  f__law_refused : ∃ (f : Addr) (fd : FuncData), FunD K "_law_refused" "_law_refused" (defArgs s__law_refused) (defBody s__law_refused) (defScope s__law_refused) [] [] f fd ∧ mg "_law_refused" = some (.ref f)
  f__law_papers_right : ∃ (f : Addr) (fd : FuncData), FunD K "_law_papers_right" "_law_papers_right" (defArgs s__law_papers_right) (defBody s__law_papers_right) (defScope s__law_papers_right) [] [] f fd ∧ mg "_law_papers_right" = some (.ref f)
  f_law : ∃ (f : Addr) (fd : FuncData), FunD K "law" "law" (defArgs s_law) (defBody s_law) (defScope s_law) [] [] f fd ∧ mg "law" = some (.ref f)
  t_NAMES : KstX K mg "NAMES" (.tup [(.str "greater"), (.str "meet"), (.str "inner")])
  e_BadValue : ∀ (w : World) (base : Heap), Err P w K mg base "BadValue" "what"
  e_TooMany : ∀ (w : World) (base : Heap), Err P w K mg base "TooMany" "what"
  x_TooMany : ClsK K mg hx "TooMany"
  b_abs : mg "abs" = none
  b_bool : mg "bool" = none
  b_int : mg "int" = none
  b_isinstance : mg "isinstance" = none
  b_len : mg "len" = none
  b_range : mg "range" = none
  b_sorted : mg "sorted" = none
  b_sum : mg "sum" = none
  b_tuple : mg "tuple" = none
  b_zip : mg "zip" = none
  k_MOST_HELD : ∃ t, mg "MOST_HELD" = some (.int 256 t)
section
variable {P : Program} {w : World} {K : PySem.W.Frag} {mg : Str → Option Value} {base : Heap}
abbrev n_is_count : List Str := ["value", "least", "most"]
theorem sc_is_count : FnScope n_is_count ["value", "least", "most"] (defScope s_is_count) := ⟨rfl, rfl, rfl, by decide +kernel, rfl, by decide +kernel, by decide +kernel⟩
theorem c_is_count (T : Txt P K mg) : Cal P w K mg base 1 "is_count" 3 m_is_count := by
  obtain ⟨f, fd, F, g⟩ := T.f_is_count
  refine ⟨f, fd, ["value", "least", "most"], fn_td (N := n_is_count) (m := e_is_count) F sc_is_count fun cdv A outer s H E fm hr => ?_, g, F.kp, F.bindsN fun _ _ _ _ _ _ us hl => match us, hl with | [_, _, _], _ => rfl⟩
  have hN : n_is_count.Nodup := sc_is_count.nd
  have tk := tk_of (P := P) (w := w) (K := K) (mg := mg) (base := base) (N := n_is_count) (qual := "is_count") (scope := defScope s_is_count) (f := f) (cd := cdv) (A := A) (outer := outer) (s := s) (H := H) (E := E)
  have po := po_of (P := P) (w := w) (K := K) (mg := mg) (base := base) (N := n_is_count) (qual := "is_count") (scope := defScope s_is_count) (f := f) (cd := cdv) (A := A) (outer := outer) (s := s) (H := H) (E := E)
  exact 
  sss_cons (ss_ret (se_and (se_isi (T := "int") (se_var (i := 0)) T.b_isinstance T.b_int (by decide +kernel)) (se_and (se_not (se_isi (T := "bool") (se_var (i := 0)) T.b_isinstance T.b_bool (by decide +kernel))) (se_one (se_chain dop_le dop_le (se_var (i := 1)) (se_var (i := 0)) (se_var (i := 2))))))) (sss_nil)
abbrev n_width_of : List Str := ["most", "width"]
theorem sc_width_of : FnScope n_width_of ["most"] (defScope s_width_of) := ⟨rfl, rfl, rfl, by decide +kernel, rfl, by decide +kernel, by decide +kernel⟩
theorem c_width_of (T : Txt P K mg) : Cal P w K mg base 1 "width_of" 1 m_width_of := by
  obtain ⟨f, fd, F, g⟩ := T.f_width_of
  refine ⟨f, fd, ["most"], fn_td (N := n_width_of) (m := e_width_of) F sc_width_of fun cdv A outer s H E fm hr => ?_, g, F.kp, F.bindsN fun _ _ _ _ _ _ us hl => match us, hl with | [_], _ => rfl⟩
  have hN : n_width_of.Nodup := sc_width_of.nd
  have tk := tk_of (P := P) (w := w) (K := K) (mg := mg) (base := base) (N := n_width_of) (qual := "width_of") (scope := defScope s_width_of) (f := f) (cd := cdv) (A := A) (outer := outer) (s := s) (H := H) (E := E)
  have po := po_of (P := P) (w := w) (K := K) (mg := mg) (base := base) (N := n_width_of) (qual := "width_of") (scope := defScope s_width_of) (f := f) (cd := cdv) (A := A) (outer := outer) (s := s) (H := H) (E := E)
  exact 
  sss_cons (ss_set (i := 1) hN (se_int)) (
  sss_cons (ss_while po (st_tru (se_bin dop_shr (se_var (i := 0)) (se_var (i := 1)))) (
    sss_cons (ss_aug (i := 1) hN dop_iadd (se_int)) (sss_nil))) (
  sss_cons (ss_ret (se_var (i := 1))) (sss_nil)))
abbrev n_log_up : List Str := ["many"]
theorem sc_log_up : FnScope n_log_up ["many"] (defScope s_log_up) := ⟨rfl, rfl, rfl, by decide +kernel, rfl, by decide +kernel, by decide +kernel⟩
theorem c_log_up (T : Txt P K mg) : Cal P w K mg base 2 "log_up" 1 m_log_up := by
  obtain ⟨f, fd, F, g⟩ := T.f_log_up
  refine ⟨f, fd, ["many"], fn_td (N := n_log_up) (m := e_log_up) F sc_log_up fun cdv A outer s H E fm hr => ?_, g, F.kp, F.bindsN fun _ _ _ _ _ _ us hl => match us, hl with | [_], _ => rfl⟩
  have hN : n_log_up.Nodup := sc_log_up.nd
  have tk := tk_of (P := P) (w := w) (K := K) (mg := mg) (base := base) (N := n_log_up) (qual := "log_up") (scope := defScope s_log_up) (f := f) (cd := cdv) (A := A) (outer := outer) (s := s) (H := H) (E := E)
  have po := po_of (P := P) (w := w) (K := K) (mg := mg) (base := base) (N := n_log_up) (qual := "log_up") (scope := defScope s_log_up) (f := f) (cd := cdv) (A := A) (outer := outer) (s := s) (H := H) (E := E)
  exact 
  sss_cons (ss_ret (se_call (c_width_of T) tk (hr.mono (by decide)) (sa_cons (se_bin dop_sub (se_var (i := 0)) (se_int)) (sa_nil)))) (sss_nil)
abbrev n_is_prime : List Str := ["number", "by"]
theorem sc_is_prime : FnScope n_is_prime ["number"] (defScope s_is_prime) := ⟨rfl, rfl, rfl, by decide +kernel, rfl, by decide +kernel, by decide +kernel⟩
theorem c_is_prime (T : Txt P K mg) : Cal P w K mg base 2 "is_prime" 1 m_is_prime := by
  obtain ⟨f, fd, F, g⟩ := T.f_is_prime
  refine ⟨f, fd, ["number"], fn_td (N := n_is_prime) (m := e_is_prime) F sc_is_prime fun cdv A outer s H E fm hr => ?_, g, F.kp, F.bindsN fun _ _ _ _ _ _ us hl => match us, hl with | [_], _ => rfl⟩
  have hN : n_is_prime.Nodup := sc_is_prime.nd
  have tk := tk_of (P := P) (w := w) (K := K) (mg := mg) (base := base) (N := n_is_prime) (qual := "is_prime") (scope := defScope s_is_prime) (f := f) (cd := cdv) (A := A) (outer := outer) (s := s) (H := H) (E := E)
  have po := po_of (P := P) (w := w) (K := K) (mg := mg) (base := base) (N := n_is_prime) (qual := "is_prime") (scope := defScope s_is_prime) (f := f) (cd := cdv) (A := A) (outer := outer) (s := s) (H := H) (E := E)
  exact 
  sss_cons (ss_if (st_not (st_tru (se_call (c_is_count T) tk (hr.mono (by decide)) (sa_cons (se_var (i := 0)) (sa_cons (se_int) (sa_cons (se_int) (sa_nil))))))) (
    sss_cons (ss_ret (se_bl)) (sss_nil)) (sss_nil)) (
  sss_cons (ss_ret (se_cmp (dop_eq hr.units) (se_callB dc_len T.b_len (by decide +kernel) (sa_cons (se_frz (sf_lc (own := [("by", 1)]) rfl hN (si_rng2 (sa_cons (se_int) (sa_cons (se_var (i := 0)) (sa_nil))) T.b_range) (blkOk_by (by kernel_rfl)) (fun _ _ _ _ _ => sg_name (i := 1) hN) (by decide) (fun _ _ _ _ _ => sts_one (st_cmp (dop_eq hr.units) (se_bin dop_sub (se_var (i := 0)) (se_bin dop_mul (se_var (i := 1)) (se_bin dop_div (se_var (i := 0)) (se_var (i := 1))))) (se_int))) (fun _ _ _ _ _ => se_var (i := 1)))) (sa_nil))) (se_int))) (sss_nil))
abbrev n_must_be_puzzle : List Str := ["name", "size", "modulus"]
theorem sc_must_be_puzzle : FnScope n_must_be_puzzle ["name", "size", "modulus"] (defScope s_must_be_puzzle) := ⟨rfl, rfl, rfl, by decide +kernel, rfl, by decide +kernel, by decide +kernel⟩
theorem c_must_be_puzzle (T : Txt P K mg) : Cal P w K mg base 3 "must_be_puzzle" 3 m_must_be_puzzle := by
  obtain ⟨f, fd, F, g⟩ := T.f_must_be_puzzle
  refine ⟨f, fd, ["name", "size", "modulus"], fn_td (N := n_must_be_puzzle) (m := e_must_be_puzzle) F sc_must_be_puzzle fun cdv A outer s H E fm hr => ?_, g, F.kp, F.bindsN fun _ _ _ _ _ _ us hl => match us, hl with | [_, _, _], _ => rfl⟩
  have hN : n_must_be_puzzle.Nodup := sc_must_be_puzzle.nd
  have tk := tk_of (P := P) (w := w) (K := K) (mg := mg) (base := base) (N := n_must_be_puzzle) (qual := "must_be_puzzle") (scope := defScope s_must_be_puzzle) (f := f) (cd := cdv) (A := A) (outer := outer) (s := s) (H := H) (E := E)
  have po := po_of (P := P) (w := w) (K := K) (mg := mg) (base := base) (N := n_must_be_puzzle) (qual := "must_be_puzzle") (scope := defScope s_must_be_puzzle) (f := f) (cd := cdv) (A := A) (outer := outer) (s := s) (H := H) (E := E)
  exact 
  sss_cons (ss_if (SW.st (sw_or (st_cmp dop_notInX (se_var (i := 0)) (se_kst T.t_NAMES)) (sw_or1 (st_not (st_tru (se_call (c_is_count T) tk (hr.mono (by decide)) (sa_cons (se_var (i := 1)) (sa_cons (se_int) (sa_cons (se_int) (sa_nil)))))))))) (
    sss_cons (ss_raise rfl tk (T.e_BadValue _ _) (hr.mono (by decide)) passL (sa_cons (se_str) (sa_nil))) (sss_nil)) (sss_nil)) (
  sss_cons (ss_if (SW.st (sw_and (st_cmp (dop_eq hr.units) (se_var (i := 0)) (se_str)) (sw_and1 (st_not (st_tru (se_call (c_is_prime T) tk (hr.mono (by decide)) (sa_cons (se_var (i := 2)) (sa_nil)))))))) (
    sss_cons (ss_raise rfl tk (T.e_BadValue _ _) (hr.mono (by decide)) passL (sa_cons (se_str) (sa_nil))) (sss_nil)) (sss_nil)) (
  sss_cons (ss_if (SW.st (sw_and (st_cmp (dop_ne hr.units) (se_var (i := 0)) (se_str)) (sw_and1 (st_cmp (dop_ne hr.units) (se_var (i := 2)) (se_int))))) (
    sss_cons (ss_raise rfl tk (T.e_BadValue _ _) (hr.mono (by decide)) passL (sa_cons (se_str) (sa_nil))) (sss_nil)) (sss_nil)) (sss_nil)))
abbrev n_value_of : List Str := ["name", "modulus", "one", "other", "found", "a", "b"]
theorem sc_value_of : FnScope n_value_of ["name", "modulus", "one", "other"] (defScope s_value_of) := ⟨rfl, rfl, rfl, by decide +kernel, rfl, by decide +kernel, by decide +kernel⟩
theorem c_value_of (T : Txt P K mg) : Cal P w K mg base 1 "value_of" 4 m_value_of := by
  obtain ⟨f, fd, F, g⟩ := T.f_value_of
  refine ⟨f, fd, ["name", "modulus", "one", "other"], fn_td (N := n_value_of) (m := e_value_of) F sc_value_of fun cdv A outer s H E fm hr => ?_, g, F.kp, F.bindsN fun _ _ _ _ _ _ us hl => match us, hl with | [_, _, _, _], _ => rfl⟩
  have hN : n_value_of.Nodup := sc_value_of.nd
  have tk := tk_of (P := P) (w := w) (K := K) (mg := mg) (base := base) (N := n_value_of) (qual := "value_of") (scope := defScope s_value_of) (f := f) (cd := cdv) (A := A) (outer := outer) (s := s) (H := H) (E := E)
  have po := po_of (P := P) (w := w) (K := K) (mg := mg) (base := base) (N := n_value_of) (qual := "value_of") (scope := defScope s_value_of) (f := f) (cd := cdv) (A := A) (outer := outer) (s := s) (H := H) (E := E)
  exact 
  sss_cons (ss_if (st_cmp (dop_eq hr.units) (se_var (i := 0)) (se_str)) (
    sss_cons (ss_ret (se_if (st_cmp dop_le (se_var (i := 2)) (se_var (i := 3))) (se_int) (se_int))) (sss_nil)) (sss_nil)) (
  sss_cons (ss_set (i := 4) hN (se_callB (dc_sum rfl) T.b_sum (by decide +kernel) (sa_cons (se_frz (sf_lc (own := [("a", 5), ("b", 6)]) rfl hN (si_zipA (se_var (i := 2)) (se_var (i := 3)) T.b_zip) (blkOk_by (by kernel_rfl)) (fun _ _ _ _ _ => sg_tup (n := 2) rfl (sgs_cons (sg_name (i := 5) hN) (sgs_cons (sg_name (i := 6) hN) (sgs_nil)))) (by decide) (fun _ _ _ _ _ => sts_nil) (fun _ _ _ _ _ => se_bin dop_mul (se_var (i := 5)) (se_var (i := 6))))) (sa_nil)))) (
  sss_cons (ss_if (st_cmp (dop_eq hr.units) (se_var (i := 0)) (se_str)) (
    sss_cons (ss_ret (se_var (i := 4))) (sss_nil)) (sss_nil)) (
  sss_cons (ss_ret (se_bin dop_sub (se_var (i := 4)) (se_bin dop_mul (se_var (i := 1)) (se_bin dop_div (se_var (i := 4)) (se_var (i := 1)))))) (sss_nil))))
abbrev n_all_held : List Str := ["name", "size", "modulus", "base", "told", "place", "held", "part"]
theorem sc_all_held : FnScope n_all_held ["name", "size", "modulus"] (defScope s_all_held) := ⟨rfl, rfl, rfl, by decide +kernel, rfl, by decide +kernel, by decide +kernel⟩
theorem c_all_held (T : Txt P K mg) : Cal P w K mg base 4 "all_held" 3 m_all_held := by
  obtain ⟨f, fd, F, g⟩ := T.f_all_held
  refine ⟨f, fd, ["name", "size", "modulus"], fn_td (N := n_all_held) (m := e_all_held) F sc_all_held fun cdv A outer s H E fm hr => ?_, g, F.kp, F.bindsN fun _ _ _ _ _ _ us hl => match us, hl with | [_, _, _], _ => rfl⟩
  have hN : n_all_held.Nodup := sc_all_held.nd
  have tk := tk_of (P := P) (w := w) (K := K) (mg := mg) (base := base) (N := n_all_held) (qual := "all_held") (scope := defScope s_all_held) (f := f) (cd := cdv) (A := A) (outer := outer) (s := s) (H := H) (E := E)
  have po := po_of (P := P) (w := w) (K := K) (mg := mg) (base := base) (N := n_all_held) (qual := "all_held") (scope := defScope s_all_held) (f := f) (cd := cdv) (A := A) (outer := outer) (s := s) (H := H) (E := E)
  exact 
  sss_cons (ss_expr (se_call (c_must_be_puzzle T) tk (hr.mono (by decide)) (sa_cons (se_var (i := 0)) (sa_cons (se_var (i := 1)) (sa_cons (se_var (i := 2)) (sa_nil)))))) (
  sss_cons (ss_if (st_cmp (dop_eq hr.units) (se_var (i := 0)) (se_str)) (
    sss_cons (ss_if (st_cmp dop_gt (se_var (i := 1)) (se_gint T.k_MOST_HELD)) (
      sss_cons (ss_raise rfl tk (T.e_TooMany _ _) (hr.mono (by decide)) passL (sa_cons (se_str) (sa_nil))) (sss_nil)) (sss_nil)) (
    sss_cons (ss_ret (se_tupRg rfl (se_var (i := 1)) T.b_tuple T.b_range)) (sss_nil))) (sss_nil)) (
  sss_cons (ss_set (i := 3) hN (se_if (st_cmp (dop_eq hr.units) (se_var (i := 0)) (se_str)) (se_var (i := 2)) (se_int))) (
  sss_cons (ss_setF (i := 4) hN (sf_lst (sa_cons (se_tup (sa_nil)) (sa_nil)))) (
  sss_cons (ss_for po rfl (si_rng1 (sa_cons (se_var (i := 1)) (sa_nil)) T.b_range) (sg_name (i := 5) hN) (
    sss_cons (ss_if (st_sc (st_cmp dop_gt (se_bin dop_mul (se_lenO (i := 4) T.b_len) (se_var (i := 3))) (se_gint T.k_MOST_HELD))) (
      sss_cons (ss_raise rfl tk (T.e_TooMany _ _) (hr.mono (by decide)) passL (sa_cons (se_str) (sa_nil))) (sss_nil)) (sss_nil)) (
    sss_cons (ss_setLcF2 (i := 4) (own := [("held", 6), ("part", 7)]) (vs1 := [7]) rfl hN (si_seq (se_var (i := 4))) (blkOk_by (by kernel_rfl)) (by decide) (fun _ _ _ _ _ => sg_name (i := 6) hN) (by decide) (fun _ _ _ _ _ => sts_nil) (fun _ _ _ _ _ => si_rng1 (sa_cons (se_var (i := 3)) (sa_nil)) T.b_range) (fun _ _ _ _ _ => sg_name (i := 7) hN) (by decide) (fun _ _ _ _ _ => sts_nil) (fun _ _ _ _ _ => se_bin dop_add (se_var (i := 6)) (se_tup (sa_cons (se_var (i := 7)) (sa_nil))))) (sss_nil)))) (
  sss_cons (ss_ret (se_tupO (i := 4) T.b_tuple)) (sss_nil))))))
abbrev n_lines_of : List Str := ["size", "modulus", "found", "power", "place"]
theorem sc_lines_of : FnScope n_lines_of ["size", "modulus"] (defScope s_lines_of) := ⟨rfl, rfl, rfl, by decide +kernel, rfl, by decide +kernel, by decide +kernel⟩
theorem c_lines_of (T : Txt P K mg) : Cal P w K mg base 1 "lines_of" 2 m_lines_of := by
  obtain ⟨f, fd, F, g⟩ := T.f_lines_of
  refine ⟨f, fd, ["size", "modulus"], fn_td (N := n_lines_of) (m := e_lines_of) F sc_lines_of fun cdv A outer s H E fm hr => ?_, g, F.kp, F.bindsN fun _ _ _ _ _ _ us hl => match us, hl with | [_, _], _ => rfl⟩
  have hN : n_lines_of.Nodup := sc_lines_of.nd
  have tk := tk_of (P := P) (w := w) (K := K) (mg := mg) (base := base) (N := n_lines_of) (qual := "lines_of") (scope := defScope s_lines_of) (f := f) (cd := cdv) (A := A) (outer := outer) (s := s) (H := H) (E := E)
  have po := po_of (P := P) (w := w) (K := K) (mg := mg) (base := base) (N := n_lines_of) (qual := "lines_of") (scope := defScope s_lines_of) (f := f) (cd := cdv) (A := A) (outer := outer) (s := s) (H := H) (E := E)
  exact 
  sss_cons (ss_set (i := 2) hN (se_int)) (
  sss_cons (ss_set (i := 3) hN (se_int)) (
  sss_cons (ss_for po rfl (si_rng1 (sa_cons (se_var (i := 0)) (sa_nil)) T.b_range) (sg_name (i := 4) hN) (
    sss_cons (ss_aug (i := 2) hN dop_iadd (se_var (i := 3))) (
    sss_cons (ss_set (i := 3) hN (se_bin dop_mul (se_var (i := 3)) (se_var (i := 1)))) (sss_nil)))) (
  sss_cons (ss_ret (se_var (i := 2))) (sss_nil))))
abbrev n_fewest_leaves : List Str := ["name", "size", "modulus", "top", "down", "place"]
theorem sc_fewest_leaves : FnScope n_fewest_leaves ["name", "size", "modulus"] (defScope s_fewest_leaves) := ⟨rfl, rfl, rfl, by decide +kernel, rfl, by decide +kernel, by decide +kernel⟩
theorem c_fewest_leaves (T : Txt P K mg) : Cal P w K mg base 4 "fewest_leaves" 3 m_fewest_leaves := by
  obtain ⟨f, fd, F, g⟩ := T.f_fewest_leaves
  refine ⟨f, fd, ["name", "size", "modulus"], fn_td (N := n_fewest_leaves) (m := e_fewest_leaves) F sc_fewest_leaves fun cdv A outer s H E fm hr => ?_, g, F.kp, F.bindsN fun _ _ _ _ _ _ us hl => match us, hl with | [_, _, _], _ => rfl⟩
  have hN : n_fewest_leaves.Nodup := sc_fewest_leaves.nd
  have tk := tk_of (P := P) (w := w) (K := K) (mg := mg) (base := base) (N := n_fewest_leaves) (qual := "fewest_leaves") (scope := defScope s_fewest_leaves) (f := f) (cd := cdv) (A := A) (outer := outer) (s := s) (H := H) (E := E)
  have po := po_of (P := P) (w := w) (K := K) (mg := mg) (base := base) (N := n_fewest_leaves) (qual := "fewest_leaves") (scope := defScope s_fewest_leaves) (f := f) (cd := cdv) (A := A) (outer := outer) (s := s) (H := H) (E := E)
  exact 
  sss_cons (ss_expr (se_call (c_must_be_puzzle T) tk (hr.mono (by decide)) (sa_cons (se_var (i := 0)) (sa_cons (se_var (i := 1)) (sa_cons (se_var (i := 2)) (sa_nil)))))) (
  sss_cons (ss_if (st_cmp (dop_eq hr.units) (se_var (i := 0)) (se_str)) (
    sss_cons (ss_ret (se_bin dop_sub (se_bin dop_mul (se_int) (se_var (i := 1))) (se_int))) (sss_nil)) (sss_nil)) (
  sss_cons (ss_if (st_cmp (dop_eq hr.units) (se_var (i := 0)) (se_str)) (
    sss_cons (ss_asg (sg_tup (n := 2) rfl (sgs_cons (sg_name (i := 3) hN) (sgs_cons (sg_name (i := 4) hN) (sgs_nil)))) (se_tup (sa_cons (se_int) (sa_cons (se_int) (sa_nil))))) (
    sss_cons (ss_for po rfl (si_rng1 (sa_cons (se_var (i := 1)) (sa_nil)) T.b_range) (sg_name (i := 5) hN) (
      sss_cons (ss_par (i := 3) (j := 4) rfl hN (sa_cons (se_bin dop_mul (se_int) (se_var (i := 3))) (sa_cons (se_bin dop_mul (se_int) (se_var (i := 4))) (sa_nil)))) (sss_nil))) (
    sss_cons (ss_ret (se_bin dop_sub (se_int) (se_bin dop_div (se_un dun_neg (se_var (i := 3))) (se_var (i := 4))))) (sss_nil)))) (sss_nil)) (
  sss_cons (ss_ret (se_bin dop_sub (se_bin dop_mul (se_int) (se_call (c_lines_of T) tk (hr.mono (by decide)) (sa_cons (se_var (i := 1)) (sa_cons (se_var (i := 2)) (sa_nil))))) (se_int))) (sss_nil))))
abbrev n_fewest_bits : List Str := ["name", "size", "modulus"]
theorem sc_fewest_bits : FnScope n_fewest_bits ["name", "size", "modulus"] (defScope s_fewest_bits) := ⟨rfl, rfl, rfl, by decide +kernel, rfl, by decide +kernel, by decide +kernel⟩
theorem c_fewest_bits (T : Txt P K mg) : Cal P w K mg base 5 "fewest_bits" 3 m_fewest_bits := by
  obtain ⟨f, fd, F, g⟩ := T.f_fewest_bits
  refine ⟨f, fd, ["name", "size", "modulus"], fn_td (N := n_fewest_bits) (m := e_fewest_bits) F sc_fewest_bits fun cdv A outer s H E fm hr => ?_, g, F.kp, F.bindsN fun _ _ _ _ _ _ us hl => match us, hl with | [_, _, _], _ => rfl⟩
  have hN : n_fewest_bits.Nodup := sc_fewest_bits.nd
  have tk := tk_of (P := P) (w := w) (K := K) (mg := mg) (base := base) (N := n_fewest_bits) (qual := "fewest_bits") (scope := defScope s_fewest_bits) (f := f) (cd := cdv) (A := A) (outer := outer) (s := s) (H := H) (E := E)
  have po := po_of (P := P) (w := w) (K := K) (mg := mg) (base := base) (N := n_fewest_bits) (qual := "fewest_bits") (scope := defScope s_fewest_bits) (f := f) (cd := cdv) (A := A) (outer := outer) (s := s) (H := H) (E := E)
  exact 
  sss_cons (ss_ret (se_call (c_log_up T) tk (hr.mono (by decide)) (sa_cons (se_call (c_fewest_leaves T) tk (hr.mono (by decide)) (sa_cons (se_var (i := 0)) (sa_cons (se_var (i := 1)) (sa_cons (se_var (i := 2)) (sa_nil))))) (sa_nil)))) (sss_nil)
abbrev n_greater_lots : List Str := ["size", "yes", "at", "no"]
theorem sc_greater_lots : FnScope n_greater_lots ["size"] (defScope s_greater_lots) := ⟨rfl, rfl, rfl, by decide +kernel, rfl, by decide +kernel, by decide +kernel⟩
theorem c_greater_lots (T : Txt P K mg) : Cal P w K mg base 1 "greater_lots" 1 m_greater_lots := by
  obtain ⟨f, fd, F, g⟩ := T.f_greater_lots
  refine ⟨f, fd, ["size"], fn_td (N := n_greater_lots) (m := e_greater_lots) F sc_greater_lots fun cdv A outer s H E fm hr => ?_, g, F.kp, F.bindsN fun _ _ _ _ _ _ us hl => match us, hl with | [_], _ => rfl⟩
  have hN : n_greater_lots.Nodup := sc_greater_lots.nd
  have tk := tk_of (P := P) (w := w) (K := K) (mg := mg) (base := base) (N := n_greater_lots) (qual := "greater_lots") (scope := defScope s_greater_lots) (f := f) (cd := cdv) (A := A) (outer := outer) (s := s) (H := H) (E := E)
  have po := po_of (P := P) (w := w) (K := K) (mg := mg) (base := base) (N := n_greater_lots) (qual := "greater_lots") (scope := defScope s_greater_lots) (f := f) (cd := cdv) (A := A) (outer := outer) (s := s) (H := H) (E := E)
  exact 
  sss_cons (ss_set (i := 1) hN (se_callTy dc_tuple T.b_tuple (by decide +kernel) (sa_cons (se_frz (sf_lc (own := [("at", 2)]) rfl hN (si_rng1 (sa_cons (se_var (i := 0)) (sa_nil)) T.b_range) (blkOk_by (by kernel_rfl)) (fun _ _ _ _ _ => sg_name (i := 2) hN) (by decide) (fun _ _ _ _ _ => sts_nil) (fun _ _ _ _ _ => se_tup (sa_cons (se_var (i := 2)) (sa_cons (se_var (i := 2)) (sa_nil)))))) (sa_nil)))) (
  sss_cons (ss_set (i := 3) hN (se_callTy dc_tuple T.b_tuple (by decide +kernel) (sa_cons (se_frz (sf_lc (own := [("at", 2)]) rfl hN (si_rng1 (sa_cons (se_bin dop_sub (se_var (i := 0)) (se_int)) (sa_nil)) T.b_range) (blkOk_by (by kernel_rfl)) (fun _ _ _ _ _ => sg_name (i := 2) hN) (by decide) (fun _ _ _ _ _ => sts_nil) (fun _ _ _ _ _ => se_tup (sa_cons (se_bin dop_add (se_var (i := 2)) (se_int)) (sa_cons (se_var (i := 2)) (sa_nil)))))) (sa_nil)))) (
  sss_cons (ss_ret (se_tup (sa_cons (se_var (i := 1)) (sa_cons (se_var (i := 3)) (sa_nil))))) (sss_nil)))
abbrev n_meet_weights : List Str := ["size", "helds", "one", "other"]
theorem sc_meet_weights : FnScope n_meet_weights ["size"] (defScope s_meet_weights) := ⟨rfl, rfl, rfl, by decide +kernel, rfl, by decide +kernel, by decide +kernel⟩
theorem c_meet_weights (T : Txt P K mg) : Cal P w K mg base 5 "meet_weights" 1 m_meet_weights := by
  obtain ⟨f, fd, F, g⟩ := T.f_meet_weights
  refine ⟨f, fd, ["size"], fn_td (N := n_meet_weights) (m := e_meet_weights) F sc_meet_weights fun cdv A outer s H E fm hr => ?_, g, F.kp, F.bindsN fun _ _ _ _ _ _ us hl => match us, hl with | [_], _ => rfl⟩
  have hN : n_meet_weights.Nodup := sc_meet_weights.nd
  have tk := tk_of (P := P) (w := w) (K := K) (mg := mg) (base := base) (N := n_meet_weights) (qual := "meet_weights") (scope := defScope s_meet_weights) (f := f) (cd := cdv) (A := A) (outer := outer) (s := s) (H := H) (E := E)
  have po := po_of (P := P) (w := w) (K := K) (mg := mg) (base := base) (N := n_meet_weights) (qual := "meet_weights") (scope := defScope s_meet_weights) (f := f) (cd := cdv) (A := A) (outer := outer) (s := s) (H := H) (E := E)
  exact 
  sss_cons (ss_set (i := 1) hN (se_call (c_all_held T) tk (hr.mono (by decide)) (sa_cons (se_str) (sa_cons (se_var (i := 0)) (sa_cons (se_int) (sa_nil)))))) (
  sss_cons (ss_ret (se_callTy dc_tuple T.b_tuple (by decide +kernel) (sa_cons (se_frz (sf_lc2 (own := [("one", 2), ("other", 3)]) (vs1 := [3]) rfl hN (si_seq (se_var (i := 1))) (blkOk_by (by kernel_rfl)) (by decide) (fun _ _ _ _ _ => sg_name (i := 2) hN) (by decide) (fun _ _ _ _ _ => sts_nil) (fun _ _ _ _ _ => si_seq (se_var (i := 1))) (fun _ _ _ _ _ => sg_name (i := 3) hN) (by decide) (fun _ _ _ _ _ => sts_one (st_cmp (dop_eq hr.units) (se_call (c_value_of T) takes0 (hr.mono (by decide)) (sa_cons (se_str) (sa_cons (se_int) (sa_cons (se_var (i := 2)) (sa_cons (se_var (i := 3)) (sa_nil)))))) (se_int))) (fun _ _ _ _ _ => se_tup (sa_cons (se_var (i := 2)) (sa_cons (se_var (i := 3)) (sa_nil)))))) (sa_nil)))) (sss_nil))
abbrev n_lines_held : List Str := ["size", "modulus", "told", "held", "heads", "part"]
theorem sc_lines_held : FnScope n_lines_held ["size", "modulus"] (defScope s_lines_held) := ⟨rfl, rfl, rfl, by decide +kernel, rfl, by decide +kernel, by decide +kernel⟩
theorem c_lines_held (T : Txt P K mg) : Cal P w K mg base 5 "lines_held" 2 m_lines_held := by
  obtain ⟨f, fd, F, g⟩ := T.f_lines_held
  refine ⟨f, fd, ["size", "modulus"], fn_td (N := n_lines_held) (m := e_lines_held) F sc_lines_held fun cdv A outer s H E fm hr => ?_, g, F.kp, F.bindsN fun _ _ _ _ _ _ us hl => match us, hl with | [_, _], _ => rfl⟩
  have hN : n_lines_held.Nodup := sc_lines_held.nd
  have tk := tk_of (P := P) (w := w) (K := K) (mg := mg) (base := base) (N := n_lines_held) (qual := "lines_held") (scope := defScope s_lines_held) (f := f) (cd := cdv) (A := A) (outer := outer) (s := s) (H := H) (E := E)
  have po := po_of (P := P) (w := w) (K := K) (mg := mg) (base := base) (N := n_lines_held) (qual := "lines_held") (scope := defScope s_lines_held) (f := f) (cd := cdv) (A := A) (outer := outer) (s := s) (H := H) (E := E)
  exact 
  sss_cons (ss_setF (i := 2) hN (sf_lst (sa_nil))) (
  sss_cons (ss_for po rfl (si_seq (se_call (c_all_held T) tk (hr.mono (by decide)) (sa_cons (se_str) (sa_cons (se_var (i := 0)) (sa_cons (se_var (i := 1)) (sa_nil)))))) (sg_name (i := 3) hN) (
    sss_cons (ss_setLcF (i := 4) (own := [("part", 5)]) rfl hN (si_seq (se_var (i := 3))) (blkOk_by (by kernel_rfl)) (fun _ _ _ _ _ => sg_name (i := 5) hN) (by decide) (fun _ _ _ _ _ => sts_one (st_cmp (dop_ne hr.units) (se_var (i := 5)) (se_int))) (fun _ _ _ _ _ => se_var (i := 5))) (
    sss_cons (ss_if (st_sc (st_cmp (dop_eq hr.units) (se_frz (sf_slL (se_var (i := 4)) (so_none) (so_some (se_int)))) (se_frz (sf_lst (sa_cons (se_int) (sa_nil)))))) (
      sss_cons (ss_append (i := 2) (se_var (i := 3))) (sss_nil)) (sss_nil)) (sss_nil)))) (
  sss_cons (ss_ret (se_tupO (i := 2) T.b_tuple)) (sss_nil)))
abbrev n__law_source : List Str := ["script", "cells", "cell"]
theorem sc__law_source : FnScope n__law_source ["script"] (defScope s__law_source) := ⟨rfl, rfl, rfl, by decide +kernel, rfl, by decide +kernel, by decide +kernel⟩
abbrev n__law_pick : List Str := ["source", "many", "left", "turn", "cells", "cell", "first", "second"]
theorem sc__law_pick : FnScope n__law_pick ["source", "many"] (defScope s__law_pick) := ⟨rfl, rfl, rfl, by decide +kernel, rfl, by decide +kernel, by decide +kernel⟩
theorem c__law_pick (T : Txt P K mg) : Cal P w K mg base 1 "_law_pick" 2 m__law_pick := by
  obtain ⟨f, fd, F, g⟩ := T.f__law_pick
  refine ⟨f, fd, ["source", "many"], fn_td (N := n__law_pick) (m := e__law_pick) F sc__law_pick fun cdv A outer s H E fm hr => ?_, g, F.kp, F.bindsN fun _ _ _ _ _ _ us hl => match us, hl with | [_, _], _ => rfl⟩
  have hN : n__law_pick.Nodup := sc__law_pick.nd
  have tk := tk_of (P := P) (w := w) (K := K) (mg := mg) (base := base) (N := n__law_pick) (qual := "_law_pick") (scope := defScope s__law_pick) (f := f) (cd := cdv) (A := A) (outer := outer) (s := s) (H := H) (E := E)
  have po := po_of (P := P) (w := w) (K := K) (mg := mg) (base := base) (N := n__law_pick) (qual := "_law_pick") (scope := defScope s__law_pick) (f := f) (cd := cdv) (A := A) (outer := outer) (s := s) (H := H) (E := E)
  exact 
  sss_cons (ss_if (st_cmp dop_gt (se_src (i := 0)) (se_int)) (
    sss_cons (ss_set (i := 2) hN (se_src (i := 0))) (
    sss_cons (ss_src (i := 0) (se_bin dop_div (se_var (i := 2)) (se_var (i := 1)))) (
    sss_cons (ss_ret (se_bin dop_mod (se_callTy dc_int T.b_int (by decide +kernel) (sa_cons (se_var (i := 2)) (sa_nil))) (se_var (i := 1)))) (sss_nil)))) (sss_nil)) (
  sss_cons (ss_set (i := 3) hN (se_src (i := 0))) (
  sss_cons (ss_src (i := 0) (se_bin dop_add (se_var (i := 3)) (se_int))) (
  sss_cons (ss_set (i := 4) hN (se_src (i := 0))) (
  sss_cons (ss_set (i := 5) hN (se_ix (se_var (i := 4)) (se_bin dop_mod (se_callTy dc_int T.b_int (by decide +kernel) (sa_cons (se_var (i := 3)) (sa_nil))) (se_callB dc_len T.b_len (by decide +kernel) (sa_cons (se_var (i := 4)) (sa_nil)))))) (
  sss_cons (ss_if (SW.st (sw_and (st_cmp dop_ge (se_var (i := 5)) (se_bin dop_pow (se_int) (se_int))) (sw_and1 (st_cmp dop_lt (se_var (i := 3)) (se_callB dc_len T.b_len (by decide +kernel) (sa_cons (se_var (i := 4)) (sa_nil))))))) (
    sss_cons (ss_src (i := 0) (se_bin dop_div (se_var (i := 5)) (se_var (i := 1)))) (
    sss_cons (ss_ret (se_bin dop_mod (se_callTy dc_int T.b_int (by decide +kernel) (sa_cons (se_var (i := 5)) (sa_nil))) (se_var (i := 1)))) (sss_nil))) (sss_nil)) (
  sss_cons (ss_set (i := 6) hN (se_bin dop_mod (se_callTy dc_int T.b_int (by decide +kernel) (sa_cons (se_bin dop_add (se_bin dop_add (se_bin dop_mul (se_bin dop_mod (se_callTy dc_int T.b_int (by decide +kernel) (sa_cons (se_var (i := 5)) (sa_nil))) (se_int)) (se_int)) (se_bin dop_mul (se_var (i := 3)) (se_int))) (se_int)) (sa_nil))) (se_int))) (
  sss_cons (ss_set (i := 7) hN (se_bin dop_mod (se_callTy dc_int T.b_int (by decide +kernel) (sa_cons (se_bin dop_add (se_bin dop_add (se_bin dop_mul (se_var (i := 6)) (se_bin dop_add (se_bin dop_mod (se_callTy dc_int T.b_int (by decide +kernel) (sa_cons (se_var (i := 6)) (sa_nil))) (se_int)) (se_int))) (se_bin dop_mul (se_var (i := 3)) (se_int))) (se_int)) (sa_nil))) (se_int))) (
  sss_cons (ss_ret (se_bin dop_mod (se_callTy dc_int T.b_int (by decide +kernel) (sa_cons (se_bin dop_div (se_var (i := 7)) (se_int)) (sa_nil))) (se_var (i := 1)))) (sss_nil)))))))))
abbrev n__law_is_int : List Str := ["value"]
theorem sc__law_is_int : FnScope n__law_is_int ["value"] (defScope s__law_is_int) := ⟨rfl, rfl, rfl, by decide +kernel, rfl, by decide +kernel, by decide +kernel⟩
theorem c__law_is_int (T : Txt P K mg) : Cal P w K mg base 1 "_law_is_int" 1 m__law_is_int := by
  obtain ⟨f, fd, F, g⟩ := T.f__law_is_int
  refine ⟨f, fd, ["value"], fn_td (N := n__law_is_int) (m := e__law_is_int) F sc__law_is_int fun cdv A outer s H E fm hr => ?_, g, F.kp, F.bindsN fun _ _ _ _ _ _ us hl => match us, hl with | [_], _ => rfl⟩
  have hN : n__law_is_int.Nodup := sc__law_is_int.nd
  have tk := tk_of (P := P) (w := w) (K := K) (mg := mg) (base := base) (N := n__law_is_int) (qual := "_law_is_int") (scope := defScope s__law_is_int) (f := f) (cd := cdv) (A := A) (outer := outer) (s := s) (H := H) (E := E)
  have po := po_of (P := P) (w := w) (K := K) (mg := mg) (base := base) (N := n__law_is_int) (qual := "_law_is_int") (scope := defScope s__law_is_int) (f := f) (cd := cdv) (A := A) (outer := outer) (s := s) (H := H) (E := E)
  exact 
  sss_cons (ss_ret (se_and (se_isi (T := "int") (se_var (i := 0)) T.b_isinstance T.b_int (by decide +kernel)) (se_one (se_not (se_isi (T := "bool") (se_var (i := 0)) T.b_isinstance T.b_bool (by decide +kernel)))))) (sss_nil)
abbrev n__law_numbers : List Str := ["row", "many", "below", "part"]
theorem sc__law_numbers : FnScope n__law_numbers ["row", "many", "below"] (defScope s__law_numbers) := ⟨rfl, rfl, rfl, by decide +kernel, rfl, by decide +kernel, by decide +kernel⟩
theorem c__law_numbers (T : Txt P K mg) : Cal P w K mg base 2 "_law_numbers" 3 m__law_numbers := by
  obtain ⟨f, fd, F, g⟩ := T.f__law_numbers
  refine ⟨f, fd, ["row", "many", "below"], fn_td (N := n__law_numbers) (m := e__law_numbers) F sc__law_numbers fun cdv A outer s H E fm hr => ?_, g, F.kp, F.bindsN fun _ _ _ _ _ _ us hl => match us, hl with | [_, _, _], _ => rfl⟩
  have hN : n__law_numbers.Nodup := sc__law_numbers.nd
  have tk := tk_of (P := P) (w := w) (K := K) (mg := mg) (base := base) (N := n__law_numbers) (qual := "_law_numbers") (scope := defScope s__law_numbers) (f := f) (cd := cdv) (A := A) (outer := outer) (s := s) (H := H) (E := E)
  have po := po_of (P := P) (w := w) (K := K) (mg := mg) (base := base) (N := n__law_numbers) (qual := "_law_numbers") (scope := defScope s__law_numbers) (f := f) (cd := cdv) (A := A) (outer := outer) (s := s) (H := H) (E := E)
  exact 
  sss_cons (ss_if (SW.st (sw_or (st_not (st_tru (se_isi (T := "tuple") (se_var (i := 0)) T.b_isinstance T.b_tuple (by decide +kernel)))) (sw_or1 (st_cmp (dop_ne hr.units) (se_callB dc_len T.b_len (by decide +kernel) (sa_cons (se_var (i := 0)) (sa_nil))) (se_var (i := 1)))))) (
    sss_cons (ss_ret (se_bl)) (sss_nil)) (sss_nil)) (
  sss_cons (ss_ret (se_cmp (dop_eq hr.units) (se_callB dc_len T.b_len (by decide +kernel) (sa_cons (se_frz (sf_lc (own := [("part", 3)]) rfl hN (si_seq (se_var (i := 0))) (blkOk_by (by kernel_rfl)) (fun _ _ _ _ _ => sg_name (i := 3) hN) (by decide) (fun _ _ _ _ _ => sts_one (SW.st (sw_or (st_not (st_tru (se_call (c__law_is_int T) takes0 (hr.mono (by decide)) (sa_cons (se_var (i := 3)) (sa_nil))))) (sw_or (st_cmp dop_lt (se_var (i := 3)) (se_int)) (sw_or1 (st_cmp dop_ge (se_var (i := 3)) (se_var (i := 2)))))))) (fun _ _ _ _ _ => se_var (i := 3)))) (sa_nil))) (se_int))) (sss_nil))
abbrev n__law_primes : List Str := ["told", "number", "by"]
theorem sc__law_primes : FnScope n__law_primes [] (defScope s__law_primes) := ⟨rfl, rfl, rfl, by decide +kernel, rfl, by decide +kernel, by decide +kernel⟩
theorem c__law_primes (T : Txt P K mg) : Cal P w K mg base 1 "_law_primes" 0 m__law_primes := by
  obtain ⟨f, fd, F, g⟩ := T.f__law_primes
  refine ⟨f, fd, [], fn_td (N := n__law_primes) (m := e__law_primes) F sc__law_primes fun cdv A outer s H E fm hr => ?_, g, F.kp, F.bindsN fun _ _ _ _ _ _ us hl => match us, hl with | [], _ => rfl⟩
  have hN : n__law_primes.Nodup := sc__law_primes.nd
  have tk := tk_of (P := P) (w := w) (K := K) (mg := mg) (base := base) (N := n__law_primes) (qual := "_law_primes") (scope := defScope s__law_primes) (f := f) (cd := cdv) (A := A) (outer := outer) (s := s) (H := H) (E := E)
  have po := po_of (P := P) (w := w) (K := K) (mg := mg) (base := base) (N := n__law_primes) (qual := "_law_primes") (scope := defScope s__law_primes) (f := f) (cd := cdv) (A := A) (outer := outer) (s := s) (H := H) (E := E)
  exact 
  sss_cons (ss_setF (i := 0) hN (sf_lst (sa_nil))) (
  sss_cons (ss_for po rfl (si_rng2 (sa_cons (se_int) (sa_cons (se_int) (sa_nil))) T.b_range) (sg_name (i := 1) hN) (
    sss_cons (ss_if (st_sc (st_cmp (dop_eq hr.units) (se_callB dc_len T.b_len (by decide +kernel) (sa_cons (se_frz (sf_lc (own := [("by", 2)]) rfl hN (si_seq (se_var (i := 0))) (blkOk_by (by kernel_rfl)) (fun _ _ _ _ _ => sg_name (i := 2) hN) (by decide) (fun _ _ _ _ _ => sts_one (st_cmp (dop_eq hr.units) (se_bin dop_mod (se_callTy dc_int T.b_int (by decide +kernel) (sa_cons (se_var (i := 1)) (sa_nil))) (se_var (i := 2))) (se_int))) (fun _ _ _ _ _ => se_var (i := 2)))) (sa_nil))) (se_int))) (
      sss_cons (ss_append (i := 0) (se_var (i := 1))) (sss_nil)) (sss_nil)) (sss_nil))) (
  sss_cons (ss_ret (se_var (i := 0))) (sss_nil)))
abbrev n__law_power : List Str := ["base", "size", "found", "place"]
theorem sc__law_power : FnScope n__law_power ["base", "size"] (defScope s__law_power) := ⟨rfl, rfl, rfl, by decide +kernel, rfl, by decide +kernel, by decide +kernel⟩
theorem c__law_power (T : Txt P K mg) : Cal P w K mg base 1 "_law_power" 2 m__law_power := by
  obtain ⟨f, fd, F, g⟩ := T.f__law_power
  refine ⟨f, fd, ["base", "size"], fn_td (N := n__law_power) (m := e__law_power) F sc__law_power fun cdv A outer s H E fm hr => ?_, g, F.kp, F.bindsN fun _ _ _ _ _ _ us hl => match us, hl with | [_, _], _ => rfl⟩
  have hN : n__law_power.Nodup := sc__law_power.nd
  have tk := tk_of (P := P) (w := w) (K := K) (mg := mg) (base := base) (N := n__law_power) (qual := "_law_power") (scope := defScope s__law_power) (f := f) (cd := cdv) (A := A) (outer := outer) (s := s) (H := H) (E := E)
  have po := po_of (P := P) (w := w) (K := K) (mg := mg) (base := base) (N := n__law_power) (qual := "_law_power") (scope := defScope s__law_power) (f := f) (cd := cdv) (A := A) (outer := outer) (s := s) (H := H) (E := E)
  exact 
  sss_cons (ss_set (i := 2) hN (se_int)) (
  sss_cons (ss_for po rfl (si_rng1 (sa_cons (se_var (i := 1)) (sa_nil)) T.b_range) (sg_name (i := 3) hN) (
    sss_cons (ss_set (i := 2) hN (se_bin dop_mul (se_var (i := 2)) (se_var (i := 0)))) (sss_nil))) (
  sss_cons (ss_ret (se_var (i := 2))) (sss_nil)))
abbrev n__law_any_size : List Str := ["source", "way"]
theorem sc__law_any_size : FnScope n__law_any_size ["source"] (defScope s__law_any_size) := ⟨rfl, rfl, rfl, by decide +kernel, rfl, by decide +kernel, by decide +kernel⟩
theorem c__law_any_size (T : Txt P K mg) : Cal P w K mg base 2 "_law_any_size" 1 m__law_any_size := by
  obtain ⟨f, fd, F, g⟩ := T.f__law_any_size
  refine ⟨f, fd, ["source"], fn_td (N := n__law_any_size) (m := e__law_any_size) F sc__law_any_size fun cdv A outer s H E fm hr => ?_, g, F.kp, F.bindsN fun _ _ _ _ _ _ us hl => match us, hl with | [_], _ => rfl⟩
  have hN : n__law_any_size.Nodup := sc__law_any_size.nd
  have tk := tk_of (P := P) (w := w) (K := K) (mg := mg) (base := base) (N := n__law_any_size) (qual := "_law_any_size") (scope := defScope s__law_any_size) (f := f) (cd := cdv) (A := A) (outer := outer) (s := s) (H := H) (E := E)
  have po := po_of (P := P) (w := w) (K := K) (mg := mg) (base := base) (N := n__law_any_size) (qual := "_law_any_size") (scope := defScope s__law_any_size) (f := f) (cd := cdv) (A := A) (outer := outer) (s := s) (H := H) (E := E)
  exact 
  sss_cons (ss_set (i := 1) hN (se_call (c__law_pick T) tk (hr.mono (by decide)) (sa_cons (se_var (i := 0)) (sa_cons (se_int) (sa_nil))))) (
  sss_cons (ss_if (st_cmp (dop_eq hr.units) (se_var (i := 1)) (se_int)) (
    sss_cons (ss_ret (se_bin dop_add (se_int) (se_call (c__law_pick T) tk (hr.mono (by decide)) (sa_cons (se_var (i := 0)) (sa_cons (se_int) (sa_nil)))))) (sss_nil)) (sss_nil)) (
  sss_cons (ss_if (st_cmp (dop_eq hr.units) (se_var (i := 1)) (se_int)) (
    sss_cons (ss_ret (se_ix (se_frz (sf_lst (sa_cons (se_int) (sa_cons (se_int) (sa_cons (se_int) (sa_cons (se_int) (sa_nil))))))) (se_call (c__law_pick T) tk (hr.mono (by decide)) (sa_cons (se_var (i := 0)) (sa_cons (se_int) (sa_nil)))))) (sss_nil)) (sss_nil)) (
  sss_cons (ss_ret (se_bin dop_add (se_int) (se_call (c__law_pick T) tk (hr.mono (by decide)) (sa_cons (se_var (i := 0)) (sa_cons (se_int) (sa_nil)))))) (sss_nil))))
abbrev n__law_bits_right : List Str := ["told", "bits"]
theorem sc__law_bits_right : FnScope n__law_bits_right ["told", "bits"] (defScope s__law_bits_right) := ⟨rfl, rfl, rfl, by decide +kernel, rfl, by decide +kernel, by decide +kernel⟩
theorem c__law_bits_right (T : Txt P K mg) : Cal P w K mg base 2 "_law_bits_right" 2 m__law_bits_right := by
  obtain ⟨f, fd, F, g⟩ := T.f__law_bits_right
  refine ⟨f, fd, ["told", "bits"], fn_td (N := n__law_bits_right) (m := e__law_bits_right) F sc__law_bits_right fun cdv A outer s H E fm hr => ?_, g, F.kp, F.bindsN fun _ _ _ _ _ _ us hl => match us, hl with | [_, _], _ => rfl⟩
  have hN : n__law_bits_right.Nodup := sc__law_bits_right.nd
  have tk := tk_of (P := P) (w := w) (K := K) (mg := mg) (base := base) (N := n__law_bits_right) (qual := "_law_bits_right") (scope := defScope s__law_bits_right) (f := f) (cd := cdv) (A := A) (outer := outer) (s := s) (H := H) (E := E)
  have po := po_of (P := P) (w := w) (K := K) (mg := mg) (base := base) (N := n__law_bits_right) (qual := "_law_bits_right") (scope := defScope s__law_bits_right) (f := f) (cd := cdv) (A := A) (outer := outer) (s := s) (H := H) (E := E)
  exact 
  sss_cons (ss_if (SW.st (sw_or (st_not (st_tru (se_call (c__law_is_int T) tk (hr.mono (by decide)) (sa_cons (se_var (i := 0)) (sa_nil))))) (sw_or (st_not (st_tru (se_call (c__law_is_int T) tk (hr.mono (by decide)) (sa_cons (se_var (i := 1)) (sa_nil))))) (sw_or (st_cmp dop_lt (se_var (i := 0)) (se_int)) (sw_or (st_cmp dop_lt (se_var (i := 1)) (se_int)) (sw_or1 (st_cmp dop_gt (se_var (i := 1)) (se_int)))))))) (
    sss_cons (ss_ret (se_bl)) (sss_nil)) (sss_nil)) (
  sss_cons (ss_if (st_cmp dop_lt (se_bin dop_shl (se_int) (se_var (i := 1))) (se_var (i := 0))) (
    sss_cons (ss_ret (se_bl)) (sss_nil)) (sss_nil)) (
  sss_cons (ss_ret (se_or (se_cmp (dop_eq hr.units) (se_var (i := 1)) (se_int)) (se_one (se_cmp dop_lt (se_bin dop_shl (se_int) (se_bin dop_sub (se_var (i := 1)) (se_int))) (se_var (i := 0)))))) (sss_nil)))
abbrev n__law_leaves_right : List Str := ["name", "size", "modulus", "told", "three", "two", "lines"]
theorem sc__law_leaves_right : FnScope n__law_leaves_right ["name", "size", "modulus"] (defScope s__law_leaves_right) := ⟨rfl, rfl, rfl, by decide +kernel, rfl, by decide +kernel, by decide +kernel⟩
theorem c__law_leaves_right (T : Txt P K mg) : Cal P w K mg base 6 "_law_leaves_right" 3 m__law_leaves_right := by
  obtain ⟨f, fd, F, g⟩ := T.f__law_leaves_right
  refine ⟨f, fd, ["name", "size", "modulus"], fn_td (N := n__law_leaves_right) (m := e__law_leaves_right) F sc__law_leaves_right fun cdv A outer s H E fm hr => ?_, g, F.kp, F.bindsN fun _ _ _ _ _ _ us hl => match us, hl with | [_, _, _], _ => rfl⟩
  have hN : n__law_leaves_right.Nodup := sc__law_leaves_right.nd
  have tk := tk_of (P := P) (w := w) (K := K) (mg := mg) (base := base) (N := n__law_leaves_right) (qual := "_law_leaves_right") (scope := defScope s__law_leaves_right) (f := f) (cd := cdv) (A := A) (outer := outer) (s := s) (H := H) (E := E)
  have po := po_of (P := P) (w := w) (K := K) (mg := mg) (base := base) (N := n__law_leaves_right) (qual := "_law_leaves_right") (scope := defScope s__law_leaves_right) (f := f) (cd := cdv) (A := A) (outer := outer) (s := s) (H := H) (E := E)
  exact 
  sss_cons (ss_set (i := 3) hN (se_call (c_fewest_leaves T) tk (hr.mono (by decide)) (sa_cons (se_var (i := 0)) (sa_cons (se_var (i := 1)) (sa_cons (se_var (i := 2)) (sa_nil)))))) (
  sss_cons (ss_if (st_not (st_tru (se_call (c__law_bits_right T) tk (hr.mono (by decide)) (sa_cons (se_var (i := 3)) (sa_cons (se_call (c_fewest_bits T) tk (hr.mono (by decide)) (sa_cons (se_var (i := 0)) (sa_cons (se_var (i := 1)) (sa_cons (se_var (i := 2)) (sa_nil))))) (sa_nil)))))) (
    sss_cons (ss_ret (se_bl)) (sss_nil)) (sss_nil)) (
  sss_cons (ss_if (st_cmp (dop_eq hr.units) (se_var (i := 0)) (se_str)) (
    sss_cons (ss_ret (se_cmp (dop_eq hr.units) (se_var (i := 3)) (se_bin dop_add (se_var (i := 1)) (se_bin dop_sub (se_var (i := 1)) (se_int))))) (sss_nil)) (sss_nil)) (
  sss_cons (ss_if (st_cmp (dop_eq hr.units) (se_var (i := 0)) (se_str)) (
    sss_cons (ss_par (i := 4) (j := 5) rfl hN (sa_cons (se_call (c__law_power T) tk (hr.mono (by decide)) (sa_cons (se_int) (sa_cons (se_var (i := 1)) (sa_nil)))) (sa_cons (se_call (c__law_power T) tk (hr.mono (by decide)) (sa_cons (se_int) (sa_cons (se_var (i := 1)) (sa_nil)))) (sa_nil)))) (
    sss_cons (ss_ret (se_and (se_cmp dop_ge (se_bin dop_mul (se_bin dop_sub (se_var (i := 3)) (se_int)) (se_var (i := 5))) (se_var (i := 4))) (se_one (se_cmp dop_lt (se_bin dop_mul (se_bin dop_sub (se_var (i := 3)) (se_int)) (se_var (i := 5))) (se_var (i := 4)))))) (sss_nil))) (sss_nil)) (
  sss_cons (ss_set (i := 6) hN (se_call (c_lines_of T) tk (hr.mono (by decide)) (sa_cons (se_var (i := 1)) (sa_cons (se_var (i := 2)) (sa_nil))))) (
  sss_cons (ss_if (SW.st (sw_or (st_not (st_tru (se_call (c__law_is_int T) tk (hr.mono (by decide)) (sa_cons (se_var (i := 6)) (sa_nil))))) (sw_or1 (st_cmp (dop_ne hr.units) (se_bin dop_mul (se_var (i := 6)) (se_bin dop_sub (se_var (i := 2)) (se_int))) (se_bin dop_sub (se_call (c__law_power T) tk (hr.mono (by decide)) (sa_cons (se_var (i := 2)) (sa_cons (se_var (i := 1)) (sa_nil)))) (se_int)))))) (
    sss_cons (ss_ret (se_bl)) (sss_nil)) (sss_nil)) (
  sss_cons (ss_ret (se_cmp (dop_eq hr.units) (se_var (i := 3)) (se_bin dop_sub (se_bin dop_add (se_var (i := 6)) (se_var (i := 6))) (se_int)))) (sss_nil)))))))
abbrev n__law_lot_right : List Str := ["lot", "answer", "at", "i", "j", "other", "k", "m"]
theorem sc__law_lot_right : FnScope n__law_lot_right ["lot", "answer"] (defScope s__law_lot_right) := ⟨rfl, rfl, rfl, by decide +kernel, rfl, by decide +kernel, by decide +kernel⟩
theorem c__law_lot_right (T : Txt P K mg) : Cal P w K mg base 1 "_law_lot_right" 2 m__law_lot_right := by
  obtain ⟨f, fd, F, g⟩ := T.f__law_lot_right
  refine ⟨f, fd, ["lot", "answer"], fn_td (N := n__law_lot_right) (m := e__law_lot_right) F sc__law_lot_right fun cdv A outer s H E fm hr => ?_, g, F.kp, F.bindsN fun _ _ _ _ _ _ us hl => match us, hl with | [_, _], _ => rfl⟩
  have hN : n__law_lot_right.Nodup := sc__law_lot_right.nd
  have tk := tk_of (P := P) (w := w) (K := K) (mg := mg) (base := base) (N := n__law_lot_right) (qual := "_law_lot_right") (scope := defScope s__law_lot_right) (f := f) (cd := cdv) (A := A) (outer := outer) (s := s) (H := H) (E := E)
  have po := po_of (P := P) (w := w) (K := K) (mg := mg) (base := base) (N := n__law_lot_right) (qual := "_law_lot_right") (scope := defScope s__law_lot_right) (f := f) (cd := cdv) (A := A) (outer := outer) (s := s) (H := H) (E := E)
  exact 
  sss_cons (ss_for po rfl (si_rng1 (sa_cons (se_callB dc_len T.b_len (by decide +kernel) (sa_cons (se_var (i := 0)) (sa_nil))) (sa_nil)) T.b_range) (sg_name (i := 2) hN) (
    sss_cons (ss_asg (sg_tup (n := 2) rfl (sgs_cons (sg_name (i := 3) hN) (sgs_cons (sg_name (i := 4) hN) (sgs_nil)))) (se_ix (se_var (i := 0)) (se_var (i := 2)))) (
    sss_cons (ss_if (st_cmp (dop_ne hr.units) (se_if (st_cmp dop_le (se_var (i := 3)) (se_var (i := 4))) (se_int) (se_int)) (se_var (i := 1))) (
      sss_cons (ss_ret (se_bl)) (sss_nil)) (sss_nil)) (
    sss_cons (ss_for po rfl (si_rng1 (sa_cons (se_var (i := 2)) (sa_nil)) T.b_range) (sg_name (i := 5) hN) (
      sss_cons (ss_asg (sg_tup (n := 2) rfl (sgs_cons (sg_name (i := 6) hN) (sgs_cons (sg_name (i := 7) hN) (sgs_nil)))) (se_ix (se_var (i := 0)) (se_var (i := 5)))) (
      sss_cons (ss_if (st_cmp (dop_eq hr.units) (se_ix (se_var (i := 0)) (se_var (i := 2))) (se_ix (se_var (i := 0)) (se_var (i := 5)))) (
        sss_cons (ss_ret (se_bl)) (sss_nil)) (sss_nil)) (
      sss_cons (ss_if (SW.st (sw_and (st_cmp (dop_eq hr.units) (se_if (st_cmp dop_le (se_var (i := 3)) (se_var (i := 7))) (se_int) (se_int)) (se_var (i := 1))) (sw_and1 (st_cmp (dop_eq hr.units) (se_if (st_cmp dop_le (se_var (i := 6)) (se_var (i := 4))) (se_int) (se_int)) (se_var (i := 1)))))) (
        sss_cons (ss_ret (se_bl)) (sss_nil)) (sss_nil)) (sss_nil))))) (sss_nil))))) (
  sss_cons (ss_ret (se_bl)) (sss_nil))
abbrev n__law_lots_right : List Str := ["size", "looked", "told", "side", "lot", "pair", "at"]
theorem sc__law_lots_right : FnScope n__law_lots_right ["size", "looked"] (defScope s__law_lots_right) := ⟨rfl, rfl, rfl, by decide +kernel, rfl, by decide +kernel, by decide +kernel⟩
theorem c__law_lots_right (T : Txt P K mg) : Cal P w K mg base 5 "_law_lots_right" 2 m__law_lots_right := by
  obtain ⟨f, fd, F, g⟩ := T.f__law_lots_right
  refine ⟨f, fd, ["size", "looked"], fn_td (N := n__law_lots_right) (m := e__law_lots_right) F sc__law_lots_right fun cdv A outer s H E fm hr => ?_, g, F.kp, F.bindsN fun _ _ _ _ _ _ us hl => match us, hl with | [_, _], _ => rfl⟩
  have hN : n__law_lots_right.Nodup := sc__law_lots_right.nd
  have tk := tk_of (P := P) (w := w) (K := K) (mg := mg) (base := base) (N := n__law_lots_right) (qual := "_law_lots_right") (scope := defScope s__law_lots_right) (f := f) (cd := cdv) (A := A) (outer := outer) (s := s) (H := H) (E := E)
  have po := po_of (P := P) (w := w) (K := K) (mg := mg) (base := base) (N := n__law_lots_right) (qual := "_law_lots_right") (scope := defScope s__law_lots_right) (f := f) (cd := cdv) (A := A) (outer := outer) (s := s) (H := H) (E := E)
  exact 
  sss_cons (ss_set (i := 2) hN (se_call (c_greater_lots T) tk (hr.mono (by decide)) (sa_cons (se_var (i := 0)) (sa_nil)))) (
  sss_cons (ss_if (SW.st (sw_or (st_not (st_tru (se_isi (T := "tuple") (se_var (i := 2)) T.b_isinstance T.b_tuple (by decide +kernel)))) (sw_or1 (st_cmp (dop_ne hr.units) (se_callB dc_len T.b_len (by decide +kernel) (sa_cons (se_var (i := 2)) (sa_nil))) (se_int))))) (
    sss_cons (ss_ret (se_bl)) (sss_nil)) (sss_nil)) (
  sss_cons (ss_for po rfl (si_rng1 (sa_cons (se_int) (sa_nil)) T.b_range) (sg_name (i := 3) hN) (
    sss_cons (ss_set (i := 4) hN (se_ix (se_var (i := 2)) (se_var (i := 3)))) (
    sss_cons (ss_if (SW.st (sw_or (st_not (st_tru (se_isi (T := "tuple") (se_var (i := 4)) T.b_isinstance T.b_tuple (by decide +kernel)))) (sw_or1 (st_cmp (dop_ne hr.units) (se_callB dc_len T.b_len (by decide +kernel) (sa_cons (se_var (i := 4)) (sa_nil))) (se_bin dop_sub (se_var (i := 0)) (se_var (i := 3))))))) (
      sss_cons (ss_ret (se_bl)) (sss_nil)) (sss_nil)) (
    sss_cons (ss_if (st_cmp dop_gt (se_callB dc_len T.b_len (by decide +kernel) (sa_cons (se_frz (sf_lc (own := [("pair", 5)]) rfl hN (si_seq (se_var (i := 4))) (blkOk_by (by kernel_rfl)) (fun _ _ _ _ _ => sg_name (i := 5) hN) (by decide) (fun _ _ _ _ _ => sts_one (st_not (st_tru (se_call (c__law_numbers T) takes0 (hr.mono (by decide)) (sa_cons (se_var (i := 5)) (sa_cons (se_int) (sa_cons (se_var (i := 0)) (sa_nil)))))))) (fun _ _ _ _ _ => se_var (i := 5)))) (sa_nil))) (se_int)) (
      sss_cons (ss_ret (se_bl)) (sss_nil)) (sss_nil)) (
    sss_cons (ss_if (st_cmp (dop_ne hr.units) (se_frz (sf_srtD hr.units (se_frz (sf_lc (own := [("pair", 5)]) rfl hN (si_seq (se_var (i := 4))) (blkOk_by (by kernel_rfl)) (fun _ _ _ _ _ => sg_name (i := 5) hN) (by decide) (fun _ _ _ _ _ => sts_nil) (fun _ _ _ _ _ => se_var (i := 5)))) T.b_sorted)) (se_frz (sf_lc (own := [("at", 6)]) rfl hN (si_rng1 (sa_cons (se_bin dop_sub (se_var (i := 0)) (se_var (i := 3))) (sa_nil)) T.b_range) (blkOk_by (by kernel_rfl)) (fun _ _ _ _ _ => sg_name (i := 6) hN) (by decide) (fun _ _ _ _ _ => sts_nil) (fun _ _ _ _ _ => se_tup (sa_cons (se_bin dop_add (se_var (i := 6)) (se_var (i := 3))) (sa_cons (se_var (i := 6)) (sa_nil))))))) (
      sss_cons (ss_ret (se_bl)) (sss_nil)) (sss_nil)) (
    sss_cons (ss_if (SW.st (sw_and (st_tru (se_var (i := 1))) (sw_and1 (st_not (st_tru (se_call (c__law_lot_right T) tk (hr.mono (by decide)) (sa_cons (se_var (i := 4)) (sa_cons (se_bin dop_sub (se_int) (se_var (i := 3))) (sa_nil))))))))) (
      sss_cons (ss_ret (se_bl)) (sss_nil)) (sss_nil)) (sss_nil))))))) (
  sss_cons (ss_ret (se_cmp (dop_eq hr.units) (se_call (c_fewest_leaves T) tk (hr.mono (by decide)) (sa_cons (se_str) (sa_cons (se_var (i := 0)) (sa_cons (se_int) (sa_nil))))) (se_bin dop_add (se_callB dc_len T.b_len (by decide +kernel) (sa_cons (se_ix (se_var (i := 2)) (se_int)) (sa_nil))) (se_callB dc_len T.b_len (by decide +kernel) (sa_cons (se_ix (se_var (i := 2)) (se_int)) (sa_nil)))))) (sss_nil))))
abbrev n__law_apart : List Str := ["size", "told", "place", "longer", "one", "other"]
theorem sc__law_apart : FnScope n__law_apart ["size"] (defScope s__law_apart) := ⟨rfl, rfl, rfl, by decide +kernel, rfl, by decide +kernel, by decide +kernel⟩
theorem c__law_apart (T : Txt P K mg) : Cal P w K mg base 1 "_law_apart" 1 m__law_apart := by
  obtain ⟨f, fd, F, g⟩ := T.f__law_apart
  refine ⟨f, fd, ["size"], fn_td (N := n__law_apart) (m := e__law_apart) F sc__law_apart fun cdv A outer s H E fm hr => ?_, g, F.kp, F.bindsN fun _ _ _ _ _ _ us hl => match us, hl with | [_], _ => rfl⟩
  have hN : n__law_apart.Nodup := sc__law_apart.nd
  have tk := tk_of (P := P) (w := w) (K := K) (mg := mg) (base := base) (N := n__law_apart) (qual := "_law_apart") (scope := defScope s__law_apart) (f := f) (cd := cdv) (A := A) (outer := outer) (s := s) (H := H) (E := E)
  have po := po_of (P := P) (w := w) (K := K) (mg := mg) (base := base) (N := n__law_apart) (qual := "_law_apart") (scope := defScope s__law_apart) (f := f) (cd := cdv) (A := A) (outer := outer) (s := s) (H := H) (E := E)
  exact 
  sss_cons (ss_setF (i := 1) hN (sf_lst (sa_cons (se_tup (sa_cons (se_tup (sa_nil)) (sa_cons (se_tup (sa_nil)) (sa_nil)))) (sa_nil)))) (
  sss_cons (ss_for po rfl (si_rng1 (sa_cons (se_var (i := 0)) (sa_nil)) T.b_range) (sg_name (i := 2) hN) (
    sss_cons (ss_setF (i := 3) hN (sf_lst (sa_nil))) (
    sss_cons (ss_for po rfl (si_seq (se_var (i := 1))) (sg_tup (n := 2) rfl (sgs_cons (sg_name (i := 4) hN) (sgs_cons (sg_name (i := 5) hN) (sgs_nil)))) (
      sss_cons (ss_append (i := 3) (se_tup (sa_cons (se_bin dop_add (se_var (i := 4)) (se_tup (sa_cons (se_int) (sa_nil)))) (sa_cons (se_bin dop_add (se_var (i := 5)) (se_tup (sa_cons (se_int) (sa_nil)))) (sa_nil))))) (
      sss_cons (ss_append (i := 3) (se_tup (sa_cons (se_bin dop_add (se_var (i := 4)) (se_tup (sa_cons (se_int) (sa_nil)))) (sa_cons (se_bin dop_add (se_var (i := 5)) (se_tup (sa_cons (se_int) (sa_nil)))) (sa_nil))))) (
      sss_cons (ss_append (i := 3) (se_tup (sa_cons (se_bin dop_add (se_var (i := 4)) (se_tup (sa_cons (se_int) (sa_nil)))) (sa_cons (se_bin dop_add (se_var (i := 5)) (se_tup (sa_cons (se_int) (sa_nil)))) (sa_nil))))) (sss_nil))))) (
    sss_cons (ss_set (i := 1) hN (se_var (i := 3))) (sss_nil))))) (
  sss_cons (ss_ret (se_frz (sf_srtD hr.units (se_var (i := 1)) T.b_sorted))) (sss_nil)))
abbrev n__law_weights_right : List Str := ["size", "told", "pair", "least", "many"]
theorem sc__law_weights_right : FnScope n__law_weights_right ["size"] (defScope s__law_weights_right) := ⟨rfl, rfl, rfl, by decide +kernel, rfl, by decide +kernel, by decide +kernel⟩
theorem c__law_weights_right (T : Txt P K mg) : Cal P w K mg base 6 "_law_weights_right" 1 m__law_weights_right := by
  obtain ⟨f, fd, F, g⟩ := T.f__law_weights_right
  refine ⟨f, fd, ["size"], fn_td (N := n__law_weights_right) (m := e__law_weights_right) F sc__law_weights_right fun cdv A outer s H E fm hr => ?_, g, F.kp, F.bindsN fun _ _ _ _ _ _ us hl => match us, hl with | [_], _ => rfl⟩
  have hN : n__law_weights_right.Nodup := sc__law_weights_right.nd
  have tk := tk_of (P := P) (w := w) (K := K) (mg := mg) (base := base) (N := n__law_weights_right) (qual := "_law_weights_right") (scope := defScope s__law_weights_right) (f := f) (cd := cdv) (A := A) (outer := outer) (s := s) (H := H) (E := E)
  have po := po_of (P := P) (w := w) (K := K) (mg := mg) (base := base) (N := n__law_weights_right) (qual := "_law_weights_right") (scope := defScope s__law_weights_right) (f := f) (cd := cdv) (A := A) (outer := outer) (s := s) (H := H) (E := E)
  exact 
  sss_cons (ss_set (i := 1) hN (se_call (c_meet_weights T) tk (hr.mono (by decide)) (sa_cons (se_var (i := 0)) (sa_nil)))) (
  sss_cons (ss_if (SW.st (sw_or (st_not (st_tru (se_isi (T := "tuple") (se_var (i := 1)) T.b_isinstance T.b_tuple (by decide +kernel)))) (sw_or1 (st_cmp (dop_ne hr.units) (se_var (i := 1)) (se_callTy dc_tuple T.b_tuple (by decide +kernel) (sa_cons (se_call (c__law_apart T) tk (hr.mono (by decide)) (sa_cons (se_var (i := 0)) (sa_nil))) (sa_nil))))))) (
    sss_cons (ss_ret (se_bl)) (sss_nil)) (sss_nil)) (
  sss_cons (ss_for po rfl (si_seq (se_var (i := 1))) (sg_name (i := 2) hN) (
    sss_cons (ss_if (SW.st (sw_or (st_not (st_tru (se_isi (T := "tuple") (se_var (i := 2)) T.b_isinstance T.b_tuple (by decide +kernel)))) (sw_or1 (st_cmp (dop_ne hr.units) (se_callB dc_len T.b_len (by decide +kernel) (sa_cons (se_var (i := 2)) (sa_nil))) (se_int))))) (
      sss_cons (ss_ret (se_bl)) (sss_nil)) (sss_nil)) (
    sss_cons (ss_if (SW.st (sw_or (st_not (st_tru (se_call (c__law_numbers T) tk (hr.mono (by decide)) (sa_cons (se_ix (se_var (i := 2)) (se_int)) (sa_cons (se_var (i := 0)) (sa_cons (se_int) (sa_nil))))))) (sw_or1 (st_not (st_tru (se_call (c__law_numbers T) tk (hr.mono (by decide)) (sa_cons (se_ix (se_var (i := 2)) (se_int)) (sa_cons (se_var (i := 0)) (sa_cons (se_int) (sa_nil)))))))))) (
      sss_cons (ss_ret (se_bl)) (sss_nil)) (sss_nil)) (sss_nil)))) (
  sss_cons (ss_set (i := 3) hN (se_bin dop_sub (se_call (c_fewest_leaves T) tk (hr.mono (by decide)) (sa_cons (se_str) (sa_cons (se_var (i := 0)) (sa_cons (se_int) (sa_nil))))) (se_int))) (
  sss_cons (ss_set (i := 4) hN (se_bin dop_shl (se_int) (se_var (i := 0)))) (
  sss_cons (ss_ret (se_and (se_cmp (dop_eq hr.units) (se_callB dc_len T.b_len (by decide +kernel) (sa_cons (se_var (i := 1)) (sa_nil))) (se_call (c__law_power T) tk (hr.mono (by decide)) (sa_cons (se_int) (sa_cons (se_var (i := 0)) (sa_nil))))) (se_and (se_cmp dop_ge (se_bin dop_mul (se_var (i := 3)) (se_var (i := 4))) (se_callB dc_len T.b_len (by decide +kernel) (sa_cons (se_var (i := 1)) (sa_nil)))) (se_one (se_cmp dop_lt (se_bin dop_mul (se_bin dop_sub (se_var (i := 3)) (se_int)) (se_var (i := 4))) (se_callB dc_len T.b_len (by decide +kernel) (sa_cons (se_var (i := 1)) (sa_nil)))))))) (sss_nil))))))
abbrev n__law_rows : List Str := ["size", "modulus", "told", "place", "longer", "row", "part"]
theorem sc__law_rows : FnScope n__law_rows ["size", "modulus"] (defScope s__law_rows) := ⟨rfl, rfl, rfl, by decide +kernel, rfl, by decide +kernel, by decide +kernel⟩
theorem c__law_rows (T : Txt P K mg) : Cal P w K mg base 1 "_law_rows" 2 m__law_rows := by
  obtain ⟨f, fd, F, g⟩ := T.f__law_rows
  refine ⟨f, fd, ["size", "modulus"], fn_td (N := n__law_rows) (m := e__law_rows) F sc__law_rows fun cdv A outer s H E fm hr => ?_, g, F.kp, F.bindsN fun _ _ _ _ _ _ us hl => match us, hl with | [_, _], _ => rfl⟩
  have hN : n__law_rows.Nodup := sc__law_rows.nd
  have tk := tk_of (P := P) (w := w) (K := K) (mg := mg) (base := base) (N := n__law_rows) (qual := "_law_rows") (scope := defScope s__law_rows) (f := f) (cd := cdv) (A := A) (outer := outer) (s := s) (H := H) (E := E)
  have po := po_of (P := P) (w := w) (K := K) (mg := mg) (base := base) (N := n__law_rows) (qual := "_law_rows") (scope := defScope s__law_rows) (f := f) (cd := cdv) (A := A) (outer := outer) (s := s) (H := H) (E := E)
  exact 
  sss_cons (ss_setF (i := 2) hN (sf_lst (sa_cons (se_tup (sa_nil)) (sa_nil)))) (
  sss_cons (ss_for po rfl (si_rng1 (sa_cons (se_var (i := 0)) (sa_nil)) T.b_range) (sg_name (i := 3) hN) (
    sss_cons (ss_setF (i := 4) hN (sf_lst (sa_nil))) (
    sss_cons (ss_for po rfl (si_seq (se_var (i := 2))) (sg_name (i := 5) hN) (
      sss_cons (ss_for po rfl (si_rng1 (sa_cons (se_var (i := 1)) (sa_nil)) T.b_range) (sg_name (i := 6) hN) (
        sss_cons (ss_append (i := 4) (se_bin dop_add (se_var (i := 5)) (se_tup (sa_cons (se_var (i := 6)) (sa_nil))))) (sss_nil))) (sss_nil))) (
    sss_cons (ss_set (i := 2) hN (se_var (i := 4))) (sss_nil))))) (
  sss_cons (ss_ret (se_var (i := 2))) (sss_nil)))
abbrev n__law_lines_right : List Str := ["size", "modulus", "told", "multiples", "line", "heads", "part", "by"]
theorem sc__law_lines_right : FnScope n__law_lines_right ["size", "modulus"] (defScope s__law_lines_right) := ⟨rfl, rfl, rfl, by decide +kernel, rfl, by decide +kernel, by decide +kernel⟩
theorem c__law_lines_right (T : Txt P K mg) : Cal P w K mg base 6 "_law_lines_right" 2 m__law_lines_right := by
  obtain ⟨f, fd, F, g⟩ := T.f__law_lines_right
  refine ⟨f, fd, ["size", "modulus"], fn_td (N := n__law_lines_right) (m := e__law_lines_right) F sc__law_lines_right fun cdv A outer s H E fm hr => ?_, g, F.kp, F.bindsN fun _ _ _ _ _ _ us hl => match us, hl with | [_, _], _ => rfl⟩
  have hN : n__law_lines_right.Nodup := sc__law_lines_right.nd
  have tk := tk_of (P := P) (w := w) (K := K) (mg := mg) (base := base) (N := n__law_lines_right) (qual := "_law_lines_right") (scope := defScope s__law_lines_right) (f := f) (cd := cdv) (A := A) (outer := outer) (s := s) (H := H) (E := E)
  have po := po_of (P := P) (w := w) (K := K) (mg := mg) (base := base) (N := n__law_lines_right) (qual := "_law_lines_right") (scope := defScope s__law_lines_right) (f := f) (cd := cdv) (A := A) (outer := outer) (s := s) (H := H) (E := E)
  exact 
  sss_cons (ss_set (i := 2) hN (se_call (c_lines_held T) tk (hr.mono (by decide)) (sa_cons (se_var (i := 0)) (sa_cons (se_var (i := 1)) (sa_nil))))) (
  sss_cons (ss_if (st_not (st_tru (se_isi (T := "tuple") (se_var (i := 2)) T.b_isinstance T.b_tuple (by decide +kernel)))) (
    sss_cons (ss_ret (se_bl)) (sss_nil)) (sss_nil)) (
  sss_cons (ss_setF (i := 3) hN (sf_lst (sa_nil))) (
  sss_cons (ss_for po rfl (si_seq (se_var (i := 2))) (sg_name (i := 4) hN) (
    sss_cons (ss_if (st_not (st_tru (se_call (c__law_numbers T) tk (hr.mono (by decide)) (sa_cons (se_var (i := 4)) (sa_cons (se_var (i := 0)) (sa_cons (se_var (i := 1)) (sa_nil))))))) (
      sss_cons (ss_ret (se_bl)) (sss_nil)) (sss_nil)) (
    sss_cons (ss_setLcF (i := 5) (own := [("part", 6)]) rfl hN (si_seq (se_var (i := 4))) (blkOk_by (by kernel_rfl)) (fun _ _ _ _ _ => sg_name (i := 6) hN) (by decide) (fun _ _ _ _ _ => sts_one (st_cmp (dop_ne hr.units) (se_var (i := 6)) (se_int))) (fun _ _ _ _ _ => se_var (i := 6))) (
    sss_cons (ss_if (st_sc (SW.st (sw_or (st_cmp (dop_eq hr.units) (se_lenO (i := 5) T.b_len) (se_int)) (sw_or1 (st_cmp (dop_ne hr.units) (se_ixO (i := 5) (se_int)) (se_int)))))) (
      sss_cons (ss_ret (se_bl)) (sss_nil)) (sss_nil)) (
    sss_cons (ss_for po rfl (si_rng2 (sa_cons (se_int) (sa_cons (se_var (i := 1)) (sa_nil))) T.b_range) (sg_name (i := 7) hN) (
      sss_cons (ss_append (i := 3) (se_callTy dc_tuple T.b_tuple (by decide +kernel) (sa_cons (se_frz (sf_lc (own := [("part", 6)]) rfl hN (si_seq (se_var (i := 4))) (blkOk_by (by kernel_rfl)) (fun _ _ _ _ _ => sg_name (i := 6) hN) (by decide) (fun _ _ _ _ _ => sts_nil) (fun _ _ _ _ _ => se_bin dop_mod (se_callTy dc_int T.b_int (by decide +kernel) (sa_cons (se_bin dop_mul (se_var (i := 7)) (se_var (i := 6))) (sa_nil))) (se_var (i := 1))))) (sa_nil)))) (sss_nil))) (sss_nil)))))) (
  sss_cons (ss_if (st_cmp (dop_ne hr.units) (se_frz (sf_srtD hr.units (se_frz (sf_lc (own := [("line", 4)]) rfl hN (si_seq (se_var (i := 2))) (blkOk_by (by kernel_rfl)) (fun _ _ _ _ _ => sg_name (i := 4) hN) (by decide) (fun _ _ _ _ _ => sts_nil) (fun _ _ _ _ _ => se_var (i := 4)))) T.b_sorted)) (se_frz (sf_lc (own := [("line", 4)]) rfl hN (si_seq (se_var (i := 2))) (blkOk_by (by kernel_rfl)) (fun _ _ _ _ _ => sg_name (i := 4) hN) (by decide) (fun _ _ _ _ _ => sts_nil) (fun _ _ _ _ _ => se_var (i := 4))))) (
    sss_cons (ss_ret (se_bl)) (sss_nil)) (sss_nil)) (
  sss_cons (ss_if (st_sc (st_cmp (dop_ne hr.units) (se_frz (sf_srtD hr.units (se_var (i := 3)) T.b_sorted)) (se_frz (sf_slL (se_call (c__law_rows T) tk (hr.mono (by decide)) (sa_cons (se_var (i := 0)) (sa_cons (se_var (i := 1)) (sa_nil)))) (so_some (se_int)) (so_none))))) (
    sss_cons (ss_ret (se_bl)) (sss_nil)) (sss_nil)) (
  sss_cons (ss_ret (se_and (se_cmp (dop_eq hr.units) (se_callB dc_len T.b_len (by decide +kernel) (sa_cons (se_var (i := 2)) (sa_nil))) (se_call (c_lines_of T) tk (hr.mono (by decide)) (sa_cons (se_var (i := 0)) (sa_cons (se_var (i := 1)) (sa_nil))))) (se_one (se_cmp (dop_eq hr.units) (se_call (c_fewest_leaves T) tk (hr.mono (by decide)) (sa_cons (se_str) (sa_cons (se_var (i := 0)) (sa_cons (se_var (i := 1)) (sa_nil))))) (se_bin dop_sub (se_bin dop_mul (se_int) (se_callB dc_len T.b_len (by decide +kernel) (sa_cons (se_var (i := 2)) (sa_nil)))) (se_int)))))) (sss_nil)))))))
abbrev n__law_refused : List Str := ["way", "size", "modulus", "refused"]
theorem sc__law_refused : FnScope n__law_refused ["way", "size", "modulus"] (defScope s__law_refused) := ⟨rfl, rfl, rfl, by decide +kernel, rfl, by decide +kernel, by decide +kernel⟩
theorem c__law_refused (T : Txt P K mg) : Cal P w K mg base 6 "_law_refused" 3 m__law_refused := by
  obtain ⟨f, fd, F, g⟩ := T.f__law_refused
  refine ⟨f, fd, ["way", "size", "modulus"], fn_td (N := n__law_refused) (m := e__law_refused) F sc__law_refused fun cdv A outer s H E fm hr => ?_, g, F.kp, F.bindsN fun _ _ _ _ _ _ us hl => match us, hl with | [_, _, _], _ => rfl⟩
  have hN : n__law_refused.Nodup := sc__law_refused.nd
  have tk := tk_of (P := P) (w := w) (K := K) (mg := mg) (base := base) (N := n__law_refused) (qual := "_law_refused") (scope := defScope s__law_refused) (f := f) (cd := cdv) (A := A) (outer := outer) (s := s) (H := H) (E := E)
  have po := po_of (P := P) (w := w) (K := K) (mg := mg) (base := base) (N := n__law_refused) (qual := "_law_refused") (scope := defScope s__law_refused) (f := f) (cd := cdv) (A := A) (outer := outer) (s := s) (H := H) (E := E)
  exact 
  sss_cons (ss_try_as (i := 3) rfl rfl hN rfl rfl T.x_TooMany rfl (by decide) tk (fun _ _ _ tk po => 
    sss_cons (ss_if (st_cmp (dop_eq hr.units) (se_var (i := 0)) (se_int)) (
      sss_cons (ss_expr (se_call (c_meet_weights T) tk (hr.mono (by decide)) (sa_cons (se_var (i := 1)) (sa_nil)))) (sss_nil)) (
      sss_cons (ss_expr (se_call (c_lines_held T) tk (hr.mono (by decide)) (sa_cons (se_var (i := 1)) (sa_cons (se_var (i := 2)) (sa_nil))))) (sss_nil))) (sss_nil)) (fun _ _ _ _ _ _ hS => 
    sss_cons (ss_ret (se_cmp (dop_eq hr.units) (se_exf (i := 3) hS) (se_str))) (sss_nil))) (
  sss_cons (ss_ret (se_bl)) (sss_nil))
abbrev n__law_papers_right : List Str := ["source", "size", "primes", "modulus", "most", "sizes", "least", "many"]
theorem sc__law_papers_right : FnScope n__law_papers_right ["source"] (defScope s__law_papers_right) := ⟨rfl, rfl, rfl, by decide +kernel, rfl, by decide +kernel, by decide +kernel⟩
theorem c__law_papers_right (T : Txt P K mg) : Cal P w K mg base 7 "_law_papers_right" 1 m__law_papers_right := by
  obtain ⟨f, fd, F, g⟩ := T.f__law_papers_right
  refine ⟨f, fd, ["source"], fn_td (N := n__law_papers_right) (m := e__law_papers_right) F sc__law_papers_right fun cdv A outer s H E fm hr => ?_, g, F.kp, F.bindsN fun _ _ _ _ _ _ us hl => match us, hl with | [_], _ => rfl⟩
  have hN : n__law_papers_right.Nodup := sc__law_papers_right.nd
  have tk := tk_of (P := P) (w := w) (K := K) (mg := mg) (base := base) (N := n__law_papers_right) (qual := "_law_papers_right") (scope := defScope s__law_papers_right) (f := f) (cd := cdv) (A := A) (outer := outer) (s := s) (H := H) (E := E)
  have po := po_of (P := P) (w := w) (K := K) (mg := mg) (base := base) (N := n__law_papers_right) (qual := "_law_papers_right") (scope := defScope s__law_papers_right) (f := f) (cd := cdv) (A := A) (outer := outer) (s := s) (H := H) (E := E)
  exact 
  sss_cons (ss_if (SW.st (sw_or (st_not (st_tru (se_call (c__law_lots_right T) tk (hr.mono (by decide)) (sa_cons (se_bin dop_add (se_int) (se_call (c__law_pick T) tk (hr.mono (by decide)) (sa_cons (se_var (i := 0)) (sa_cons (se_int) (sa_nil))))) (sa_cons (se_bl) (sa_nil)))))) (sw_or1 (st_not (st_tru (se_call (c__law_lots_right T) tk (hr.mono (by decide)) (sa_cons (se_call (c__law_any_size T) tk (hr.mono (by decide)) (sa_cons (se_var (i := 0)) (sa_nil))) (sa_cons (se_bl) (sa_nil))))))))) (
    sss_cons (ss_ret (se_bl)) (sss_nil)) (sss_nil)) (
  sss_cons (ss_set (i := 1) hN (se_if (st_cmp (dop_eq hr.units) (se_call (c__law_pick T) tk (hr.mono (by decide)) (sa_cons (se_var (i := 0)) (sa_cons (se_int) (sa_nil)))) (se_int)) (se_bin dop_add (se_int) (se_call (c__law_pick T) tk (hr.mono (by decide)) (sa_cons (se_var (i := 0)) (sa_cons (se_int) (sa_nil))))) (se_bin dop_add (se_int) (se_call (c__law_pick T) tk (hr.mono (by decide)) (sa_cons (se_var (i := 0)) (sa_cons (se_int) (sa_nil))))))) (
  sss_cons (ss_if (SW.st (sw_or (st_not (st_tru (se_call (c__law_weights_right T) tk (hr.mono (by decide)) (sa_cons (se_var (i := 1)) (sa_nil))))) (sw_or1 (st_not (st_tru (se_call (c__law_refused T) tk (hr.mono (by decide)) (sa_cons (se_int) (sa_cons (se_bin dop_add (se_int) (se_call (c__law_pick T) tk (hr.mono (by decide)) (sa_cons (se_var (i := 0)) (sa_cons (se_int) (sa_nil))))) (sa_cons (se_int) (sa_nil)))))))))) (
    sss_cons (ss_ret (se_bl)) (sss_nil)) (sss_nil)) (
  sss_cons (ss_set (i := 2) hN (se_call0 (c__law_primes T) (hr.mono (by decide)))) (
  sss_cons (ss_set (i := 3) hN (se_if (st_cmp (dop_eq hr.units) (se_call (c__law_pick T) tk (hr.mono (by decide)) (sa_cons (se_var (i := 0)) (sa_cons (se_int) (sa_nil)))) (se_int)) (se_ix (se_var (i := 2)) (se_call (c__law_pick T) tk (hr.mono (by decide)) (sa_cons (se_var (i := 0)) (sa_cons (se_callB dc_len T.b_len (by decide +kernel) (sa_cons (se_var (i := 2)) (sa_nil))) (sa_nil))))) (se_ix (se_var (i := 2)) (se_call (c__law_pick T) tk (hr.mono (by decide)) (sa_cons (se_var (i := 0)) (sa_cons (se_int) (sa_nil))))))) (
  sss_cons (ss_set (i := 4) hN (se_if (st_cmp (dop_eq hr.units) (se_call (c__law_pick T) tk (hr.mono (by decide)) (sa_cons (se_var (i := 0)) (sa_cons (se_int) (sa_nil)))) (se_int)) (se_int) (se_int))) (
  sss_cons (ss_asg (sg_tup (n := 2) rfl (sgs_cons (sg_name (i := 5) hN) (sgs_cons (sg_name (i := 6) hN) (sgs_nil)))) (se_tup (sa_cons (se_int) (sa_cons (se_int) (sa_nil))))) (
  sss_cons (ss_set (i := 7) hN (se_var (i := 3))) (
  sss_cons (ss_while po (st_cmp dop_le (se_var (i := 7)) (se_int)) (
    sss_cons (ss_if (st_cmp dop_le (se_var (i := 7)) (se_var (i := 4))) (
      sss_cons (ss_aug (i := 5) hN dop_iadd (se_int)) (sss_nil)) (sss_nil)) (
    sss_cons (ss_aug (i := 6) hN dop_iadd (se_int)) (
    sss_cons (ss_set (i := 7) hN (se_bin dop_mul (se_var (i := 7)) (se_var (i := 3)))) (sss_nil))))) (
  sss_cons (ss_if (st_not (st_tru (se_call (c__law_lines_right T) tk (hr.mono (by decide)) (sa_cons (se_bin dop_add (se_int) (se_call (c__law_pick T) tk (hr.mono (by decide)) (sa_cons (se_var (i := 0)) (sa_cons (se_var (i := 5)) (sa_nil))))) (sa_cons (se_var (i := 3)) (sa_nil)))))) (
    sss_cons (ss_ret (se_bl)) (sss_nil)) (sss_nil)) (
  sss_cons (ss_ret (se_call (c__law_refused T) tk (hr.mono (by decide)) (sa_cons (se_int) (sa_cons (se_bin dop_add (se_var (i := 6)) (se_call (c__law_pick T) tk (hr.mono (by decide)) (sa_cons (se_var (i := 0)) (sa_cons (se_bin dop_sub (se_int) (se_var (i := 6))) (sa_nil))))) (sa_cons (se_var (i := 3)) (sa_nil)))))) (sss_nil)))))))))))
abbrev n_law : List Str := ["script", "source", "primes", "name", "turn", "modulus"]
theorem sc_law : FnScope n_law ["script"] (defScope s_law) := ⟨rfl, rfl, rfl, by decide +kernel, rfl, by decide +kernel, by decide +kernel⟩
theorem w_law (T : Txt P K mg) {f : Addr} {cdv : Value} {A : Around} {outer : List PySem.Env} {s : Shared} {H : Hp} {E : XK} {fm : Fm} (hr : Room 7 (A.deeper (envOfC "law" (defScope s_law) s.heap.objs.size f cdv))) :
    SSs (cxOf (L2.CX P w) P w K mg base n_law "law" (defScope s_law) f cdv A outer s H E) (fun c d _ H => E c d H) fm ((defBody s_law).drop 1) e_law := by
  have hN : n_law.Nodup := sc_law.nd
  have tk := tk_of (P := P) (w := w) (K := K) (mg := mg) (base := base) (N := n_law) (qual := "law") (scope := defScope s_law) (f := f) (cd := cdv) (A := A) (outer := outer) (s := s) (H := H) (E := E)
  have po := po_of (P := P) (w := w) (K := K) (mg := mg) (base := base) (N := n_law) (qual := "law") (scope := defScope s_law) (f := f) (cd := cdv) (A := A) (outer := outer) (s := s) (H := H) (E := E)
  exact 
  sss_cons (ss_set (i := 2) hN (se_call0 (c__law_primes T) (hr.mono (by decide)))) (
  sss_cons (ss_for po rfl (si_seq (se_tup (sa_cons (se_str) (sa_cons (se_str) (sa_cons (se_str) (sa_nil)))))) (sg_name (i := 3) hN) (
    sss_cons (ss_for po rfl (si_rng1 (sa_cons (se_int) (sa_nil)) T.b_range) (sg_name (i := 4) hN) (
      sss_cons (ss_set (i := 5) hN (se_if (st_cmp (dop_eq hr.units) (se_var (i := 3)) (se_str)) (se_ix (se_var (i := 2)) (se_call (c__law_pick T) tk (hr.mono (by decide)) (sa_cons (se_var (i := 1)) (sa_cons (se_callB dc_len T.b_len (by decide +kernel) (sa_cons (se_var (i := 2)) (sa_nil))) (sa_nil))))) (se_int))) (
      sss_cons (ss_if (st_not (st_tru (se_call (c__law_leaves_right T) tk (hr.mono (by decide)) (sa_cons (se_var (i := 3)) (sa_cons (se_call (c__law_any_size T) tk (hr.mono (by decide)) (sa_cons (se_var (i := 1)) (sa_nil))) (sa_cons (se_var (i := 5)) (sa_nil))))))) (
        sss_cons (ss_ret (se_bl)) (sss_nil)) (sss_nil)) (sss_nil)))) (sss_nil))) (
  sss_cons (ss_ret (se_call (c__law_papers_right T) tk (hr.mono (by decide)) (sa_cons (se_var (i := 1)) (sa_nil)))) (sss_nil)))
end
end K44

set_option Elab.async false
set_option linter.all false
set_option maxRecDepth 100000
set_option maxHeartbeats 4000000
namespace K44
open PySem PySem.Spec PyProof.Rows L2 TD TP TQ
open K31 (isCnt dI)
open K43 (Nm nmD Pz primes primes_rng cnt hel bs rows dig rwD badP many mulOk_l)
theorem pick_eq : m__law_pick = pickM := rfl
theorem must_yes {x : Nm} {n md : Int} (h : Pz x n md) (ss : SS) : m_must_be_puzzle [nmD x, .int n, .int md] ss = .ok .non ss := K43.must_yes h ss
theorem all_held_eq {x : Nm} {n : Nat} {md : Int} (h : Pz x n md) (ss : SS) : m_all_held [nmD x, .int n, .int md] ss = if cnt x n md ≤ 256 then .ok (.tup (hel x n md)) ss else .exc many ss := K43.all_held_eq h ss
theorem value_eq {x : Nm} {n : Nat} {md : Int} (h : Pz x n md) {d e : D} (hd : d ∈ hel x n md) (he : e ∈ hel x n md) (ss : SS) : m_value_of [nmD x, .int md, d, e] ss = .ok (.int (K43.vD x md d e)) ss := K43.value_eq h hd he ss
theorem primes_eq (ss : SS) : m__law_primes [] ss = .ok (.lst (primes.map D.int)) ss := by kernel_rfl
/-! ### numbers of lines, powers -/
def lin (p : Int) : Nat → Int
  | 0 => 0
  | k + 1 => lin p k + p ^ k
theorem lin_eq (p : Int) : ∀ k, lin p k * (p - 1) = p ^ k - 1
  | 0 => by simp [lin]
  | k + 1 => by rw [lin, Int.add_mul, lin_eq p k, Int.pow_succ, Int.mul_sub, Int.mul_one]; omega
theorem lin_pos (p : Int) (hp : 0 < p) : ∀ k, 1 ≤ k → 1 ≤ lin p k
  | 0, h => by omega
  | 1, _ => by simp [lin]
  | k + 2, _ => by
    have := lin_pos p hp (k + 1) (by omega)
    have : 0 < p ^ (k + 1) := Int.pow_pos hp
    rw [lin]; omega
theorem lin_lt (p : Int) (hp : 2 ≤ p) : ∀ k, lin p k < p ^ k
  | 0 => by simp [lin]
  | k + 1 => by
    have := lin_lt p hp k
    have h2 : p ^ k * 2 ≤ p ^ k * p := Int.mul_le_mul_of_nonneg_left hp (Int.le_of_lt (Int.pow_pos (by omega)))
    rw [lin, Int.pow_succ]; omega
theorem lines_eq (n : Nat) (p : Int) (hn : n ≤ 1000) (hp : 2 ≤ p ∧ p ≤ 61) (ss : SS) : m_lines_of [.int n, .int p] ss = .ok (.int (lin p n)) ss := by
  obtain ⟨N, hN⟩ : ∃ N : Int, N = n := ⟨_, rfl⟩
  have hs : small N = true := by rw [hN]; exact small_len (by omega)
  refine wF.eq ?_
  rw [← hN]
  simp [m_lines_of, e_lines_of, hs]
  rw [hN]
  refine for_rng n (fun k w => ∃ x4, w = ⟨[some (.val (.int n)), some (.val (.int p)), some (.val (.int (lin p k))), some (.val (.int (p ^ k))), x4], ss⟩) ⟨none, by simp [lin]⟩ ?_ ?_
  · rintro w ⟨x4, rfl⟩
    simp
  · rintro k w hk ⟨x4, rfl⟩
    have hm : mulOk (p ^ k) p = true := mulOk_r _ _ (by omega)
    simp [g_lines_of_0, b_lines_of_0, hm, lin, Int.pow_succ]
theorem power_eq (b : Int) (hb : b.natAbs < 1000) (n : Nat) (hn : n ≤ 1000) (ss : SS) : m__law_power [.int b, .int n] ss = .ok (.int (b ^ n)) ss := by
  obtain ⟨N, hN⟩ : ∃ N : Int, N = n := ⟨_, rfl⟩
  have hs : small N = true := by rw [hN]; exact small_len (by omega)
  refine wF.eq ?_
  rw [← hN]
  simp [m__law_power, e__law_power, hs]
  rw [hN]
  refine for_rng n (fun k w => ∃ x, w = ⟨[some (.val (.int b)), some (.val (.int n)), some (.val (.int (b ^ k))), x], ss⟩) ⟨none, by simp⟩ ?_ ?_
  · rintro w ⟨x4, rfl⟩
    simp
  · rintro k w hk ⟨x4, rfl⟩
    have hm : mulOk (b ^ k) b = true := mulOk_r _ _ (by omega)
    simp [g__law_power_0, b__law_power_0, hm, Int.pow_succ]
/-! ### the least width -/
theorem gShr_nat (m : Int) (v : Nat) : gShr (.int m) (.int (v : Int)) = some (.int (m / 2 ^ v)) := by
  show (if (0 : Int) ≤ (v : Int) then some (D.int (m / 2 ^ ((v : Int).toNat))) else none) = _
  rw [if_pos (by omega), Int.toNat_natCast]
theorem width_eq (m : Int) (hm : 0 ≤ m) (N : Nat) (hN : N < 100000) (h : m < 2 ^ N) (ss : SS) : ∃ v : Nat, v ≤ N ∧ m_width_of [.int m] ss = .ok (.int v) ss ∧ m < 2 ^ v ∧ (v = 0 ∨ (2 : Int) ^ (v - 1) ≤ m) := by
  have key : wF (m_width_of [.int m] ss) (fun d s => ∃ v : Nat, v ≤ N ∧ d = .int v ∧ s = ss ∧ m < 2 ^ v ∧ (v = 0 ∨ (2 : Int) ^ (v - 1) ≤ m)) nXs := by
    simp [m_width_of, e_width_of]
    refine while_wp (fun k w => ∃ v : Nat, v + k = N ∧ w = ⟨[some (.val (.int m)), some (.val (.int v))], ss⟩ ∧ (v = 0 ∨ (2 : Int) ^ (v - 1) ≤ m)) N (by unfold fuel; omega) ⟨0, by omega, rfl, .inl rfl⟩ ?_
    rintro k w ⟨v, hv, rfl, hl⟩
    have g := gShr_nat m v
    by_cases h2 : m / 2 ^ v = 0
    · rw [h2] at g
      have hp : (0 : Int) < 2 ^ v := Int.pow_pos (by decide)
      have h3 : m < 2 ^ v := by
        have := Int.lt_mul_of_ediv_lt hp (show m / 2 ^ v < 1 by omega)
        omega
      have h4 : v ≤ N := by omega
      generalize hV : (v : Int) = V at g
      simp [t_width_of_0, g]
      exact ⟨v, h4, hV.symm, h3, hl⟩
    · have hle : (2 : Int) ^ v ≤ m := by
        by_cases h3 : m < 2 ^ v
        · exact absurd (Int.ediv_eq_zero_of_lt hm h3) h2
        · omega
      have hk : 0 < k := by
        by_cases h0 : k = 0
        · subst h0
          have : v = N := by omega
          subst this
          omega
        · omega
      generalize m / 2 ^ v = V at g h2
      generalize hV : (v : Int) = VV at g
      simp [t_width_of_0, b_width_of_0, g, h2]
      exact ⟨k - 1, by omega, v + 1, by omega, by omega, .inr (by simpa using hle)⟩
  cases e : m_width_of [.int m] ss with
  | ok d s =>
    rw [e] at key
    obtain ⟨v, h1, rfl, rfl, h2, h3⟩ := key
    exact ⟨v, h1, rfl, h2, h3⟩
  | exc c s => rw [e] at key; exact key.elim
  | stuck => rw [e] at key; exact key.elim
theorem log_up_eq (m : Int) (h1 : 1 ≤ m) (N : Nat) (hN : N < 100000) (h : m - 1 < 2 ^ N) (ss : SS) : ∃ v : Nat, v ≤ N ∧ m_log_up [.int m] ss = .ok (.int v) ss ∧ m ≤ 2 ^ v ∧ (v = 0 ∨ (2 : Int) ^ (v - 1) < m) := by
  obtain ⟨v, a, b, c, d⟩ := width_eq (m - 1) (by omega) N hN h ss
  exact ⟨v, a, by simp [m_log_up, e_log_up, b], by omega, by omega⟩
end K44

set_option Elab.async false
set_option linter.all false
set_option maxRecDepth 100000
set_option maxHeartbeats 4000000
namespace K44
open PySem PySem.Spec PyProof.Rows L2 TD TP TQ
open K31 (isCnt dI)
open K43 (Nm nmD Pz primes primes_rng cnt hel bs rows dig rwD badP many mulOk_l s_gr s_me s_inn)
/-! ### least leaves -/
def lv (x : Nm) (n : Nat) (md : Int) : Int := match x with
  | .gr => 2 * n - 1
  | .me => 1 - (-(3 : Int) ^ n) / 2 ^ n
  | .inn => 2 * lin md n - 1
theorem leaves_eq {x : Nm} {n : Nat} {md : Int} (h : Pz x n md) (ss : SS) : m_fewest_leaves [nmD x, .int n, .int md] ss = .ok (.int (lv x n md)) ss := by
  have h2 := h.hi
  have m := K43.must_yes h ss
  have hs : small (n : Int) = true := small_len (by omega)
  cases x with
  | gr => exact K43.fl_gr n md ss m
  | me =>
    obtain ⟨y, q⟩ := K43.fl_go (nmD .me) (.int n) (.int md) ss (rngD 0 n) 0 none
    rw [rng_len, Nat.zero_add] at q
    have b0 : (0 : Int) < 2 ^ n := Int.pow_pos (by decide)
    have b1 : (2 : Int) ^ n < 2 ^ 9000 := Int.pow_lt_pow_of_lt (by decide) (by omega)
    exact K43.fl_me n md (3 ^ n) (2 ^ n) y ss hs m (divOk_of _ b0 b1) q
  | inn =>
    have hp := primes_rng md (h.pr rfl)
    exact K43.fl_inn n md _ ss m (lines_eq n md (by omega) ⟨hp.1, hp.2.1⟩ ss)
theorem lv_bd {x : Nm} {n : Nat} {md : Int} (h : Pz x n md) (ss : SS) : 1 ≤ lv x n md ∧ lv x n md - 1 < 2 ^ 7000 := by
  obtain ⟨v, e, a, b⟩ := K43.leaves_ok h ss
  have e2 := (leaves_eq h ss).symm.trans e
  have : lv x n md = v := by
    injection e2 with e3
    injection e3
  rw [this]
  exact ⟨a, b⟩
theorem gShl_one (v : Nat) (h : v ≤ 10000) : gShl (.int 1) (.int (v : Int)) = some (.int (2 ^ v)) := by
  show (if 0 ≤ (v : Int) ∧ (Builtin.Int.intBits 1 : Int) + (v : Int) ≤ 2 ^ 27 then some (D.int (1 * 2 ^ ((v : Int).toNat))) else none) = _
  have : (Builtin.Int.intBits 1 : Int) = 1 := by decide +kernel
  rw [if_pos ⟨by omega, by omega⟩, Int.toNat_natCast, Int.one_mul]
theorem bits_right (L : Int) (v : Nat) (h1 : 1 ≤ L) (hv : v ≤ 7000) (h2 : L ≤ 2 ^ v) (h3 : v = 0 ∨ (2 : Int) ^ (v - 1) < L) (ss : SS) : m__law_bits_right [.int L, .int v] ss = .ok (.bl true) ss := by
  have g := gShl_one v (by omega)
  have g2 := gShl_one (v - 1) (by omega)
  have a1 : ¬ L < 1 := by omega
  have a2 : ¬ (v : Int) < 0 := by omega
  have a3 : ¬ (10000 : Int) < v := by omega
  have a4 : ¬ (2 : Int) ^ v < L := by omega
  by_cases h0 : v = 0
  · subst h0
    have z : ((0 : Nat) : Int) = 0 := rfl
    rw [z] at *
    have g' : gShl (.int 1) (.int 0) = some (.int 1) := g
    have a5 : ¬ (1 : Int) < L := by simpa using a4
    simp [m__law_bits_right, e__law_bits_right, m__law_is_int, e__law_is_int, a1, g', a5]
  · have h3 := h3.resolve_left h0
    have e : (v : Int) - 1 = ((v - 1 : Nat) : Int) := by omega
    rw [← e] at g2
    have n0 : ¬ (v : Int) = 0 := by omega
    generalize (v : Int) = V at *
    generalize (2 : Int) ^ v = A at *
    generalize (2 : Int) ^ (v - 1) = B at *
    simp [m__law_bits_right, e__law_bits_right, m__law_is_int, e__law_is_int, a1, a2, a3, a4, g, g2, n0, h3]
theorem fbits_eq {x : Nm} {n : Nat} {md : Int} (h : Pz x n md) (ss : SS) : ∃ v : Nat, v ≤ 7000 ∧ m_fewest_bits [nmD x, .int n, .int md] ss = .ok (.int v) ss ∧ lv x n md ≤ 2 ^ v ∧ (v = 0 ∨ (2 : Int) ^ (v - 1) < lv x n md) := by
  obtain ⟨a, b⟩ := lv_bd h ss
  obtain ⟨v, c, d, e, f⟩ := log_up_eq (lv x n md) a 7000 (by decide) b ss
  exact ⟨v, c, K43.fb_run _ _ _ _ _ ss (leaves_eq h ss) d, e, f⟩
theorem meet_lv (n : Nat) : (lv .me n 0 - 1) * 2 ^ n ≥ 3 ^ n ∧ (lv .me n 0 - 2) * 2 ^ n < 3 ^ n := by
  have b0 : (0 : Int) < 2 ^ n := Int.pow_pos (by decide)
  have h1 := Int.mul_ediv_add_emod (-(3 : Int) ^ n) (2 ^ n)
  have h2 := Int.emod_nonneg (-(3 : Int) ^ n) (Int.ne_of_gt b0)
  have h3 := Int.emod_lt_of_pos (-(3 : Int) ^ n) b0
  show (1 - (-(3 : Int) ^ n) / 2 ^ n - 1) * 2 ^ n ≥ 3 ^ n ∧ (1 - (-(3 : Int) ^ n) / 2 ^ n - 2) * 2 ^ n < 3 ^ n
  generalize (-(3 : Int) ^ n) / 2 ^ n = q at *
  generalize (-(3 : Int) ^ n) % 2 ^ n = r at *
  have e1 : (1 - q - 1) * 2 ^ n = - (2 ^ n * q) := by rw [show 1 - q - 1 = -q by omega, Int.neg_mul, Int.mul_comm]
  have e2 : (1 - q - 2) * 2 ^ n = - (2 ^ n * q) - 2 ^ n := by rw [show 1 - q - 2 = -q - 1 by omega, Int.sub_mul, Int.neg_mul, Int.mul_comm, Int.one_mul]
  rw [e1, e2]
  omega
theorem nat_lt (a : Int) (k : Nat) (h0 : 0 ≤ a) (h : a < 2 ^ k) : a.natAbs < 2 ^ k := by
  have e : (a.natAbs : Int) = a := Int.natAbs_of_nonneg h0
  rw [← e] at h
  exact_mod_cast h
theorem mul_pow (a : Int) (n k : Nat) (hn : n < 9000) (hk : k < 9000) (h0 : 0 ≤ a) (h : a < 2 ^ k) : mulOk a (2 ^ n) = true := by
  have h1 : a.natAbs.log2 < 9000 := log2_lt _ (Nat.lt_trans (nat_lt a k h0 h) (Nat.pow_lt_pow_of_lt (by decide) hk))
  have h2 : ((2 : Int) ^ n).natAbs.log2 < 9000 := log2_lt _ (by
    rw [Int.natAbs_pow]
    exact Nat.pow_lt_pow_of_lt (by decide) hn)
  generalize ((2 : Int) ^ n) = B at *
  unfold mulOk
  simp only [Bool.or_eq_true, decide_eq_true_eq]
  right
  clear h h0
  omega
theorem meet_mul0 (n k : Nat) (hn : n ≤ 1000) (hk : k < 9000) (L : Int) (h : 1 ≤ L ∧ L - 1 < 2 ^ k) (h2 : (L - 1) * 2 ^ n ≥ 3 ^ n) : mulOk (L - 1) (2 ^ n) = true ∧ mulOk (L - 2) (2 ^ n) = true := by
  have hge : 2 ≤ L := by
    by_cases h0 : L - 1 ≤ 0
    · have : (L - 1) * 2 ^ n ≤ 0 := Int.mul_nonpos_of_nonpos_of_nonneg h0 (Int.le_of_lt (Int.pow_pos (by decide)))
      have t0 : (0 : Int) < 3 ^ n := Int.pow_pos (by decide)
      omega
    · omega
  exact ⟨mul_pow _ n k (by omega) hk (by omega) h.2, mul_pow _ n k (by omega) hk (by omega) (Int.lt_trans (by omega) h.2)⟩
theorem meet_mul (n : Nat) (hn : n ≤ 1000) (L : Int) (h : 1 ≤ L ∧ L - 1 < 2 ^ 7000) (h2 : (L - 1) * 2 ^ n ≥ 3 ^ n) : mulOk (L - 1) (2 ^ n) = true ∧ mulOk (L - 2) (2 ^ n) = true := meet_mul0 n 7000 hn (by decide) L h h2
theorem lr_gr (N md L V : Int) (ss : SS) (e1 : m_fewest_leaves [.str "greater", .int N, .int md] ss = .ok (.int L) ss) (b2 : m_fewest_bits [.str "greater", .int N, .int md] ss = .ok (.int V) ss) (e2 : m__law_bits_right [.int L, .int V] ss = .ok (.bl true) ss) (e3 : L = N + (N - 1)) :
    m__law_leaves_right [.str "greater", .int N, .int md] ss = .ok (.bl true) ss := by
  simp [m__law_leaves_right, e__law_leaves_right, e1, e2, b2]
  omega
theorem lr_me (N L V A B : Int) (ss : SS) (e1 : m_fewest_leaves [.str "meet", .int N, .int 0] ss = .ok (.int L) ss) (b2 : m_fewest_bits [.str "meet", .int N, .int 0] ss = .ok (.int V) ss) (e2 : m__law_bits_right [.int L, .int V] ss = .ok (.bl true) ss)
    (p3 : m__law_power [.int 3, .int N] ss = .ok (.int A) ss) (p2 : m__law_power [.int 2, .int N] ss = .ok (.int B) ss) (k2 : mulOk (L - 1) B = true) (k3 : mulOk (L - 2) B = true) (c1 : (L - 1) * B ≥ A) (c2 : (L - 2) * B < A) :
    m__law_leaves_right [.str "meet", .int N, .int 0] ss = .ok (.bl true) ss := by
  simp [m__law_leaves_right, e__law_leaves_right, e1, e2, b2, p3, p2, k2, k3, c1, c2]
theorem lr_inn (N md L V Z A : Int) (ss : SS) (e1 : m_fewest_leaves [.str "inner", .int N, .int md] ss = .ok (.int L) ss) (b2 : m_fewest_bits [.str "inner", .int N, .int md] ss = .ok (.int V) ss) (e2 : m__law_bits_right [.int L, .int V] ss = .ok (.bl true) ss)
    (p1 : m__law_power [.int md, .int N] ss = .ok (.int A) ss) (p2 : m_lines_of [.int N, .int md] ss = .ok (.int Z) ss) (k1 : mulOk Z (md - 1) = true) (c : Z * (md - 1) = A - 1) (e3 : L = Z + Z - 1) :
    m__law_leaves_right [.str "inner", .int N, .int md] ss = .ok (.bl true) ss := by
  simp [m__law_leaves_right, e__law_leaves_right, m__law_is_int, e__law_is_int, e1, e2, b2, p1, p2, k1, c]
  omega
theorem leaves_right {x : Nm} {n : Nat} {md : Int} (h : Pz x n md) (ss : SS) : m__law_leaves_right [nmD x, .int n, .int md] ss = .ok (.bl true) ss := by
  have hn : n ≤ 1000 := by have := h.hi; omega
  have e1 := leaves_eq h ss
  obtain ⟨v, b1, b2, b3, b4⟩ := fbits_eq h ss
  have e2 := bits_right _ v (lv_bd h ss).1 b1 b3 b4 ss
  cases x with
  | gr => exact lr_gr n md _ v ss e1 b2 e2 (by show 2 * (n : Int) - 1 = _; omega)
  | me =>
    have hmd : md = 0 := h.no (by decide)
    subst hmd
    obtain ⟨k2, k3⟩ := meet_mul n hn _ (lv_bd h ss) (meet_lv n).1
    exact lr_me n _ v _ _ ss e1 b2 e2 (power_eq 3 (by decide) n hn ss) (power_eq 2 (by decide) n hn ss) k2 k3 (meet_lv n).1 (meet_lv n).2
  | inn =>
    have hp := primes_rng md (h.pr rfl)
    exact lr_inn n md _ v _ _ ss e1 b2 e2 (power_eq md (by omega) n hn ss) (lines_eq n md hn ⟨hp.1, hp.2.1⟩ ss) (mulOk_r _ _ (by omega)) (lin_eq md n) (by show 2 * lin md n - 1 = _; omega)
theorem any_size {ss : SS} (hs : SsOk ss) {Q : D → SS → Prop} {X : Exn → SS → Prop} (q : ∀ (n : Nat) (ss' : SS), 1 ≤ n → n ≤ 1000 → SsOk ss' → Q (.int n) ss') : wF (m__law_any_size [.src] ss) Q X := by
  have q' : ∀ (n : Int) (ss' : SS), 1 ≤ n → n ≤ 1000 → SsOk ss' → Q (.int n) ss' := fun n ss' a b c => by
    obtain ⟨k, rfl⟩ := Int.eq_ofNat_of_zero_le (show 0 ≤ n by omega)
    exact q k ss' (by omega) (by omega) c
  simp [m__law_any_size, e__law_any_size, pick_eq]
  refine pick_wp hs (by decide) (by decide) fun r ss1 a1 b1 hs1 => ?_
  simp
  by_cases h0 : r = 0
  · simp [h0, pick_eq]
    exact pick_wp hs1 (by decide) (by decide) fun r ss2 a2 b2 hs2 => q' _ _ (by omega) (by omega) hs2
  · by_cases h1 : r = 1
    · simp [h0, h1, pick_eq]
      refine pick_wp hs1 (by decide) (by decide) fun r ss2 a2 b2 hs2 => ?_
      have : r = 0 ∨ r = 1 ∨ r = 2 ∨ r = 3 := by omega
      rcases this with rfl | rfl | rfl | rfl <;> simp <;> exact q' _ _ (by decide) (by decide) hs2
    · simp [h0, h1, pick_eq]
      exact pick_wp hs1 (by decide) (by decide) fun r ss2 a2 b2 hs2 => q' _ _ (by omega) (by omega) hs2
end K44

set_option Elab.async false
set_option linter.all false
set_option maxRecDepth 100000
set_option maxHeartbeats 4000000


namespace K44
open PySem PySem.Spec PyProof.Rows L2 TD TP TQ
open K31 (isCnt dI)
open K43 (Nm nmD Pz primes primes_rng cnt hel bs rows dig rwD badP many mulOk_l s_gr s_me s_inn)
/-! ### the lots of greater -/
def lotD (s n : Nat) : List D := (List.range (n - s)).map fun i => .tup [.int ((i + s : Nat) : Int), .int (i : Nat)]
theorem lotD_len (s n : Nat) : (lotD s n).length = n - s := by simp [lotD]
theorem lotD_mem {s n : Nat} {d : D} (h : d ∈ lotD s n) : ∃ i : Nat, i + s < n ∧ d = .tup [.int ((i + s : Nat) : Int), .int (i : Nat)] := by
  obtain ⟨i, hi, rfl⟩ := List.mem_map.mp h
  have := List.mem_range.mp hi
  exact ⟨i, by omega, rfl⟩
theorem rng_lc (n : Nat) (f : Nat → D) (h : D → D) (e : ∀ i < n, h (.int (i : Nat)) = f i) : (rngD 0 (n : Int)).map h = (List.range n).map f := by
  have := rng_map n (fun d => some (h d)) f fun i hi => by rw [e i hi]
  rwa [List.filterMap_eq_map'] at this
theorem gl_run (N : Int) (A B : List D) (hs : small N = true) (hs1 : small (N - 1) = true) (ss : SS)
    (q1 : lcGo [2] (gsName 2) mYes (mTup (mCons (mVar 2) (mCons (mVar 2) mNil))) (rngD 0 N) [] ⟨[some (.val (.int N)), none, none, none], ss⟩ = .ok A ⟨[some (.val (.int N)), none, none, none], ss⟩)
    (q2 : lcGo [2] (gsName 2) mYes (mTup (mCons (mBin gAdd (mVar 2) (mC (.int 1))) (mCons (mVar 2) mNil))) (rngD 0 (N - 1)) [] ⟨[some (.val (.int N)), some (.val (.tup A)), none, none], ss⟩ = .ok B ⟨[some (.val (.int N)), some (.val (.tup A)), none, none], ss⟩) :
    m_greater_lots [.int N] ss = .ok (.tup [.tup A, .tup B]) ss := by
  simp [m_greater_lots, e_greater_lots, hs, hs1, q1, q2]
theorem lots_eq (n : Nat) (h1 : 1 ≤ n) (h : n ≤ 1000) (ss : SS) : m_greater_lots [.int n] ss = .ok (.tup [.tup (lotD 0 n), .tup (lotD 1 n)]) ss := by
  have hn : ((n : Int) - 1) = ((n - 1 : Nat) : Int) := by omega
  refine gl_run n _ _ (small_len (by omega)) (by rw [hn]; exact small_len (by omega)) ss ?_ ?_
  · have q := lc_pure (vs := [2]) (set := gsName 2) (mt := mYes) (me := mTup (mCons (mVar 2) (mCons (mVar 2) mNil))) (fun d => some (.tup [d, d])) ⟨[some (.val (.int n)), none, none, none], ss⟩ (rngD 0 n) [] (fun d _ => by simp [lcStep]) (by simp; omega)
    rw [q, List.filterMap_eq_map', rng_lc n _ _ fun i _ => rfl]
    simp [lotD]
  · generalize lotD 0 n = A
    rw [hn]
    have q := lc_pure (vs := [2]) (set := gsName 2) (mt := mYes) (me := mTup (mCons (mBin gAdd (mVar 2) (mC (.int 1))) (mCons (mVar 2) mNil))) (fun d => match d with | .int i => some (.tup [.int (i + 1), .int i]) | _ => none) ⟨[some (.val (.int n)), some (.val (.tup A)), none, none], ss⟩ (rngD 0 (n - 1 : Nat)) [] (fun d hd => by
      obtain ⟨i, _, rfl⟩ := rng_mem hd
      generalize (i : Int) = I
      simp [lcStep]) (by simp; omega)
    rw [q, rng_map (n - 1) _ (fun (i : Nat) => D.tup [.int ((i : Int) + 1), .int (i : Int)]) fun i _ => rfl]
    simp [lotD]
theorem sorted_lot (s n : Nat) : sortD (lotD s n) = lotD s n := by
  have ha : allAlk (lotD s n) = true := by
    unfold allAlk
    refine List.all_eq_true.mpr fun d hd => List.all_eq_true.mpr fun e he => ?_
    obtain ⟨i, _, rfl⟩ := lotD_mem hd
    obtain ⟨j, _, rfl⟩ := lotD_mem he
    simp [D.alk, D.alks]
  refine sortD_is ha (List.Perm.refl _) ?_ ?_
  · unfold lotD
    rw [List.pairwise_map]
    refine List.pairwise_lt_range.imp fun {i j} h => ?_
    have h1 : ¬ ((j + s : Nat) : Int) = ((i + s : Nat) : Int) := by omega
    have h2 : ¬ ((j + s : Nat) : Int) < ((i + s : Nat) : Int) := by omega
    generalize ((j + s : Nat) : Int) = J at *
    generalize ((i + s : Nat) : Int) = I at *
    simp [D.ltb, D.ltbs, h1]
    omega
  · intro a ha b hb h1 h2
    obtain ⟨i, _, rfl⟩ := lotD_mem ha
    obtain ⟨j, _, rfl⟩ := lotD_mem hb
    by_cases hij : i = j
    · rw [hij]
    · exfalso
      have n1 : ¬ ((j + s : Nat) : Int) = ((i + s : Nat) : Int) := by omega
      have n2 : ¬ ((i + s : Nat) : Int) = ((j + s : Nat) : Int) := by omega
      generalize ((j + s : Nat) : Int) = J at *
      generalize ((i + s : Nat) : Int) = I at *
      simp [D.ltb, D.ltbs, n1, n2] at h1 h2
      omega
theorem ok_lot (s n : Nat) : okSort (lotD s n) = true := by
  have ha : allAlk (lotD s n) = true := by
    unfold allAlk
    refine List.all_eq_true.mpr fun d hd => List.all_eq_true.mpr fun e he => ?_
    obtain ⟨i, _, rfl⟩ := lotD_mem hd
    obtain ⟨j, _, rfl⟩ := lotD_mem he
    simp [D.alk, D.alks]
  unfold okSort
  rw [ha, List.all_eq_true.mpr fun d hd => (by obtain ⟨i, _, rfl⟩ := lotD_mem hd; simp [D.okb, D.oks] : D.okb 60 d = true), List.all_eq_true.mpr fun d hd => (by obtain ⟨i, _, rfl⟩ := lotD_mem hd; rfl : D.isTup1 d = true)]
  rfl
theorem oks_of {n : Nat} : ∀ {l : List D}, (∀ d ∈ l, d.okb n = true) → D.oks n l = true
  | [], _ => by simp [D.oks]
  | d :: l, h => by
    rw [D.oks, h d (List.mem_cons_self ..), oks_of fun e he => h e (List.mem_cons_of_mem _ he)]
    rfl
theorem lot_looked : ∀ n ≤ 24, ∀ s < 2, ∀ ss : SS, m__law_lot_right [.tup (lotD s n), .int (1 - (s : Nat))] ss = .ok (.bl true) ss := by
  intro n hn s hs ss
  have key : ∀ n ∈ List.range 25, ∀ s ∈ List.range 2, m__law_lot_right [.tup (lotD s n), .int (1 - (s : Nat))] ss = .ok (.bl true) ss := by
    intro n hn s hs
    simp only [List.range, List.range.loop, List.mem_cons, List.not_mem_nil, or_false] at hn hs
    rcases hs with rfl | rfl
    all_goals
      rcases hn with rfl | rfl | rfl | rfl | rfl | rfl | rfl | rfl | rfl | rfl | rfl | rfl | rfl | rfl | rfl | rfl | rfl | rfl | rfl | rfl | rfl | rfl | rfl | rfl | rfl
      all_goals kernel_rfl
  exact key n (List.mem_range.mpr (by omega)) s (List.mem_range.mpr hs)

theorem fm_none {α β : Type} (l : List α) : l.filterMap (fun _ => (none : Option β)) = [] := List.filterMap_eq_nil_iff.mpr fun _ _ => rfl
theorem is_int_eq (d : D) (hd : d ≠ .src) (ss : SS) : m__law_is_int [d] ss = .ok (.bl (match d with | .int _ => true | _ => false)) ss := by
  cases d <;> first | exact absurd rfl hd | simp [m__law_is_int, e__law_is_int]
/-- a tuple of whole numbers below a bound -/
theorem numbers_eq (l : List Int) (n b : Int) (hl : (l.length : Int) = n) (h1000 : l.length ≤ 100000) (h : ∀ i ∈ l, 0 ≤ i ∧ i < b) (ss : SS) : m__law_numbers [.tup (l.map D.int), .int n, .int b] ss = .ok (.bl true) ss := by
  have q := lc_pure (vs := [3]) (set := gsName 3) (mt := mOrT (mNotT (mTru (mCall 1 m__law_is_int (mCons (mVar 3) mNil)))) (mOrT (mB (mBin gLt (mVar 3) (mC (.int 0)))) (mB (mBin gGe (mVar 3) (mVar 2))))) (me := mVar 3) (fun _ => none) ⟨[some (.val (.tup (l.map D.int))), some (.val (.int n)), some (.val (.int b)), none], ss⟩ (l.map D.int) [] (fun d hd => by
    obtain ⟨i, hi, rfl⟩ := List.mem_map.mp hd
    obtain ⟨a1, a2⟩ := h i hi
    have b1 : ¬ i < 0 := by omega
    have b2 : ¬ b ≤ i := by omega
    generalize l.map D.int = LL
    simp [lcStep, is_int_eq, b1, b2]) (by simp; omega)
  rw [fm_none, List.append_nil] at q
  have hg : gLen [.tup (l.map D.int)] = some (.int n) := by simp [hl]
  generalize l.map D.int = LL at q hg
  simp only [gLen_tup] at hg
  simp [m__law_numbers, e__law_numbers, q, hg]
theorem lr_body_t (n s : Int) (A0 A1 L : List D) (x3 x4 : Option TD.Slot) (ss : SS) (hat : atI [D.tup A0, D.tup A1] s = some (.tup L)) (hlen : gLen [.tup L] = some (.int (n - s))) (hs : small (n - s) = true)
    (q1 : lcGo [5] (gsName 5) (mNotT (mTru (mCall 3 m__law_numbers (mCons (mVar 5) (mCons (mC (.int 2)) (mCons (mVar 0) mNil)))))) (mVar 5) L [] ⟨[some (.val (.int n)), some (.val (.bl true)), some (.val (.tup [.tup A0, .tup A1])), some (.val (.int s)), some (.val (.tup L)), none, none], ss⟩ = .ok [] ⟨[some (.val (.int n)), some (.val (.bl true)), some (.val (.tup [.tup A0, .tup A1])), some (.val (.int s)), some (.val (.tup L)), none, none], ss⟩)
    (q2 : lcGo [5] (gsName 5) mYes (mVar 5) L [] ⟨[some (.val (.int n)), some (.val (.bl true)), some (.val (.tup [.tup A0, .tup A1])), some (.val (.int s)), some (.val (.tup L)), none, none], ss⟩ = .ok L ⟨[some (.val (.int n)), some (.val (.bl true)), some (.val (.tup [.tup A0, .tup A1])), some (.val (.int s)), some (.val (.tup L)), none, none], ss⟩)
    (hok : okSort L = true) (hst : sortD L = L) (q3 : lcGo [6] (gsName 6) mYes (mTup (mCons (mBin gAdd (mVar 6) (mVar 3)) (mCons (mVar 6) mNil))) (rngD 0 (n - s)) [] ⟨[some (.val (.int n)), some (.val (.bl true)), some (.val (.tup [.tup A0, .tup A1])), some (.val (.int s)), some (.val (.tup L)), none, none], ss⟩ = .ok L ⟨[some (.val (.int n)), some (.val (.bl true)), some (.val (.tup [.tup A0, .tup A1])), some (.val (.int s)), some (.val (.tup L)), none, none], ss⟩)
    (hoks : D.oks 63 L = true) (hl : m__law_lot_right [.tup L, .int (1 - s)] ss = .ok (.bl true) ss) (k : W → RS) :
    oS (g__law_lots_right_0 (.int s) ⟨[some (.val (.int n)), some (.val (.bl true)), some (.val (.tup [.tup A0, .tup A1])), x3, x4, none, none], ss⟩) (fun w => (b__law_lots_right_0 w).loop k) = k ⟨[some (.val (.int n)), some (.val (.bl true)), some (.val (.tup [.tup A0, .tup A1])), some (.val (.int s)), some (.val (.tup L)), none, none], ss⟩ := by
  have he : D.eqvs L L = true := eqvs_self L 63 hoks
  have ho : (D.lst L).okb 64 = true := by rw [D.okb]; exact hoks
  have he2 : D.eqv (.lst L) (.lst L) = true := by rw [D.eqv]; exact he
  simp [-gLen_tup, g__law_lots_right_0, b__law_lots_right_0, hat, hlen, hs, q1, q2, q3, hok, hst, ho, he2, hl]
theorem lr_body_f (n s : Int) (A0 A1 L : List D) (x3 x4 : Option TD.Slot) (ss : SS) (hat : atI [D.tup A0, D.tup A1] s = some (.tup L)) (hlen : gLen [.tup L] = some (.int (n - s))) (hs : small (n - s) = true)
    (q1 : lcGo [5] (gsName 5) (mNotT (mTru (mCall 3 m__law_numbers (mCons (mVar 5) (mCons (mC (.int 2)) (mCons (mVar 0) mNil)))))) (mVar 5) L [] ⟨[some (.val (.int n)), some (.val (.bl false)), some (.val (.tup [.tup A0, .tup A1])), some (.val (.int s)), some (.val (.tup L)), none, none], ss⟩ = .ok [] ⟨[some (.val (.int n)), some (.val (.bl false)), some (.val (.tup [.tup A0, .tup A1])), some (.val (.int s)), some (.val (.tup L)), none, none], ss⟩)
    (q2 : lcGo [5] (gsName 5) mYes (mVar 5) L [] ⟨[some (.val (.int n)), some (.val (.bl false)), some (.val (.tup [.tup A0, .tup A1])), some (.val (.int s)), some (.val (.tup L)), none, none], ss⟩ = .ok L ⟨[some (.val (.int n)), some (.val (.bl false)), some (.val (.tup [.tup A0, .tup A1])), some (.val (.int s)), some (.val (.tup L)), none, none], ss⟩)
    (hok : okSort L = true) (hst : sortD L = L) (q3 : lcGo [6] (gsName 6) mYes (mTup (mCons (mBin gAdd (mVar 6) (mVar 3)) (mCons (mVar 6) mNil))) (rngD 0 (n - s)) [] ⟨[some (.val (.int n)), some (.val (.bl false)), some (.val (.tup [.tup A0, .tup A1])), some (.val (.int s)), some (.val (.tup L)), none, none], ss⟩ = .ok L ⟨[some (.val (.int n)), some (.val (.bl false)), some (.val (.tup [.tup A0, .tup A1])), some (.val (.int s)), some (.val (.tup L)), none, none], ss⟩)
    (hoks : D.oks 63 L = true) (k : W → RS) :
    oS (g__law_lots_right_0 (.int s) ⟨[some (.val (.int n)), some (.val (.bl false)), some (.val (.tup [.tup A0, .tup A1])), x3, x4, none, none], ss⟩) (fun w => (b__law_lots_right_0 w).loop k) = k ⟨[some (.val (.int n)), some (.val (.bl false)), some (.val (.tup [.tup A0, .tup A1])), some (.val (.int s)), some (.val (.tup L)), none, none], ss⟩ := by
  have he : D.eqvs L L = true := eqvs_self L 63 hoks
  have ho : (D.lst L).okb 64 = true := by rw [D.okb]; exact hoks
  have he2 : D.eqv (.lst L) (.lst L) = true := by rw [D.eqv]; exact he
  simp [-gLen_tup, g__law_lots_right_0, b__law_lots_right_0, hat, hlen, hs, q1, q2, q3, hok, hst, ho, he2]
theorem lot_side_t (n s : Nat) (hs : s < 2) (h1 : 1 ≤ n) (hn : n ≤ 1000) (hk : n ≤ 24) (x3 x4 : Option TD.Slot) (ss : SS) (k : W → RS) :
    oS (g__law_lots_right_0 (.int (s : Nat)) ⟨[some (.val (.int n)), some (.val (.bl true)), some (.val (.tup [.tup (lotD 0 n), .tup (lotD 1 n)])), x3, x4, none, none], ss⟩) (fun w => (b__law_lots_right_0 w).loop k) = k ⟨[some (.val (.int n)), some (.val (.bl true)), some (.val (.tup [.tup (lotD 0 n), .tup (lotD 1 n)])), some (.val (.int (s : Nat))), some (.val (.tup (lotD s n))), none, none], ss⟩ := by
  have hns : ((n : Int) - (s : Nat)) = ((n - s : Nat) : Int) := by omega
  have hoks : D.oks 63 (lotD s n) = true := oks_of fun d hd => by
    obtain ⟨i, _, rfl⟩ := lotD_mem hd
    simp [D.okb, D.oks]
  have hat : atI [D.tup (lotD 0 n), D.tup (lotD 1 n)] (s : Nat) = some (.tup (lotD s n)) := by
    have : s = 0 ∨ s = 1 := by omega
    rcases this with rfl | rfl <;> rfl
  have hlk := lot_looked n hk s hs ss
  have hnum : ∀ d ∈ lotD s n, m__law_numbers [d, .int 2, .int n] ss = .ok (.bl true) ss := fun d hd => by
    obtain ⟨i, hi, rfl⟩ := lotD_mem hd
    exact numbers_eq [((i + s : Nat) : Int), (i : Int)] 2 n rfl (by simp) (fun j hj => by simp at hj; omega) ss
  refine lr_body_t n s _ _ _ x3 x4 ss hat (by rw [gLen_tup, lotD_len, hns]) (by rw [hns]; exact small_len (by omega)) ?_ ?_ (ok_lot s n) (sorted_lot s n) ?_ hoks hlk k
  · have hl : (lotD s n).length ≤ 1000 := by rw [lotD_len]; omega
    generalize (n : Int) = N at *
    generalize lotD 0 n = A0
    generalize lotD 1 n = A1
    generalize lotD s n = L at *
    generalize ((s : Nat) : Int) = S
    have q := lc_pure (vs := [5]) (set := gsName 5) (mt := mNotT (mTru (mCall 3 m__law_numbers (mCons (mVar 5) (mCons (mC (.int 2)) (mCons (mVar 0) mNil)))))) (me := mVar 5) (fun _ => none) ⟨[some (.val (.int N)), some (.val (.bl true)), some (.val (.tup [.tup A0, .tup A1])), some (.val (.int S)), some (.val (.tup L)), none, none], ss⟩ L [] (fun d hd => by
      simp [lcStep, hnum d hd]) (by simp; omega)
    rw [q, fm_none]
    rfl
  · have hl : (lotD s n).length ≤ 1000 := by rw [lotD_len]; omega
    generalize (n : Int) = N
    generalize lotD 0 n = A0
    generalize lotD 1 n = A1
    generalize lotD s n = L at *
    generalize ((s : Nat) : Int) = S
    have q := lc_pure (vs := [5]) (set := gsName 5) (mt := mYes) (me := mVar 5) some ⟨[some (.val (.int N)), some (.val (.bl true)), some (.val (.tup [.tup A0, .tup A1])), some (.val (.int S)), some (.val (.tup L)), none, none], ss⟩ L [] (fun d hd => by
      simp [lcStep]) (by simp; omega)
    rw [q, List.filterMap_some]
    rfl
  · rw [hns]
    generalize hA : lotD 0 n = A0
    generalize lotD 1 n = A1
    generalize hB : lotD s n = L
    have q := lc_pure (vs := [6]) (set := gsName 6) (mt := mYes) (me := mTup (mCons (mBin gAdd (mVar 6) (mVar 3)) (mCons (mVar 6) mNil))) (fun d => match d with | .int i => some (.tup [.int (i + (s : Nat)), .int i]) | _ => none) ⟨[some (.val (.int n)), some (.val (.bl true)), some (.val (.tup [.tup A0, .tup A1])), some (.val (.int (s : Nat))), some (.val (.tup L)), none, none], ss⟩ (rngD 0 (n - s : Nat)) [] (fun d hd => by
      obtain ⟨i, _, rfl⟩ := rng_mem hd
      generalize (i : Int) = I
      generalize ((s : Nat) : Int) = S
      generalize ((n : Nat) : Int) = N
      simp [lcStep]) (by simp; omega)
    rw [q, rng_map (n - s) _ (fun (i : Nat) => D.tup [.int ((i : Int) + (s : Nat)), .int (i : Int)]) fun i _ => rfl, ← hB]
    simp [lotD]
theorem lot_side_f (n s : Nat) (hs : s < 2) (h1 : 1 ≤ n) (hn : n ≤ 1000) (x3 x4 : Option TD.Slot) (ss : SS) (k : W → RS) :
    oS (g__law_lots_right_0 (.int (s : Nat)) ⟨[some (.val (.int n)), some (.val (.bl false)), some (.val (.tup [.tup (lotD 0 n), .tup (lotD 1 n)])), x3, x4, none, none], ss⟩) (fun w => (b__law_lots_right_0 w).loop k) = k ⟨[some (.val (.int n)), some (.val (.bl false)), some (.val (.tup [.tup (lotD 0 n), .tup (lotD 1 n)])), some (.val (.int (s : Nat))), some (.val (.tup (lotD s n))), none, none], ss⟩ := by
  have hns : ((n : Int) - (s : Nat)) = ((n - s : Nat) : Int) := by omega
  have hoks : D.oks 63 (lotD s n) = true := oks_of fun d hd => by
    obtain ⟨i, _, rfl⟩ := lotD_mem hd
    simp [D.okb, D.oks]
  have hat : atI [D.tup (lotD 0 n), D.tup (lotD 1 n)] (s : Nat) = some (.tup (lotD s n)) := by
    have : s = 0 ∨ s = 1 := by omega
    rcases this with rfl | rfl <;> rfl
  have hnum : ∀ d ∈ lotD s n, m__law_numbers [d, .int 2, .int n] ss = .ok (.bl true) ss := fun d hd => by
    obtain ⟨i, hi, rfl⟩ := lotD_mem hd
    exact numbers_eq [((i + s : Nat) : Int), (i : Int)] 2 n rfl (by simp) (fun j hj => by simp at hj; omega) ss
  refine lr_body_f n s _ _ _ x3 x4 ss hat (by rw [gLen_tup, lotD_len, hns]) (by rw [hns]; exact small_len (by omega)) ?_ ?_ (ok_lot s n) (sorted_lot s n) ?_ hoks k
  · have hl : (lotD s n).length ≤ 1000 := by rw [lotD_len]; omega
    generalize (n : Int) = N at *
    generalize lotD 0 n = A0
    generalize lotD 1 n = A1
    generalize lotD s n = L at *
    generalize ((s : Nat) : Int) = S
    have q := lc_pure (vs := [5]) (set := gsName 5) (mt := mNotT (mTru (mCall 3 m__law_numbers (mCons (mVar 5) (mCons (mC (.int 2)) (mCons (mVar 0) mNil)))))) (me := mVar 5) (fun _ => none) ⟨[some (.val (.int N)), some (.val (.bl false)), some (.val (.tup [.tup A0, .tup A1])), some (.val (.int S)), some (.val (.tup L)), none, none], ss⟩ L [] (fun d hd => by
      simp [lcStep, hnum d hd]) (by simp; omega)
    rw [q, fm_none]
    rfl
  · have hl : (lotD s n).length ≤ 1000 := by rw [lotD_len]; omega
    generalize (n : Int) = N
    generalize lotD 0 n = A0
    generalize lotD 1 n = A1
    generalize lotD s n = L at *
    generalize ((s : Nat) : Int) = S
    have q := lc_pure (vs := [5]) (set := gsName 5) (mt := mYes) (me := mVar 5) some ⟨[some (.val (.int N)), some (.val (.bl false)), some (.val (.tup [.tup A0, .tup A1])), some (.val (.int S)), some (.val (.tup L)), none, none], ss⟩ L [] (fun d hd => by
      simp [lcStep]) (by simp; omega)
    rw [q, List.filterMap_some]
    rfl
  · rw [hns]
    generalize hA : lotD 0 n = A0
    generalize lotD 1 n = A1
    generalize hB : lotD s n = L
    have q := lc_pure (vs := [6]) (set := gsName 6) (mt := mYes) (me := mTup (mCons (mBin gAdd (mVar 6) (mVar 3)) (mCons (mVar 6) mNil))) (fun d => match d with | .int i => some (.tup [.int (i + (s : Nat)), .int i]) | _ => none) ⟨[some (.val (.int n)), some (.val (.bl false)), some (.val (.tup [.tup A0, .tup A1])), some (.val (.int (s : Nat))), some (.val (.tup L)), none, none], ss⟩ (rngD 0 (n - s : Nat)) [] (fun d hd => by
      obtain ⟨i, _, rfl⟩ := rng_mem hd
      generalize (i : Int) = I
      generalize ((s : Nat) : Int) = S
      generalize ((n : Nat) : Int) = N
      simp [lcStep]) (by simp; omega)
    rw [q, rng_map (n - s) _ (fun (i : Nat) => D.tup [.int ((i : Int) + (s : Nat)), .int (i : Int)]) fun i _ => rfl, ← hB]
    simp [lotD]
theorem lt_run (N : Int) (looked : Bool) (A0 A1 : List D) (x4 : Option TD.Slot) (a b : Int) (ss : SS) (e1 : m_greater_lots [.int N] ss = .ok (.tup [.tup A0, .tup A1]) ss) (h0 : gLen [.tup A0] = some (.int a)) (h1 : gLen [.tup A1] = some (.int b))
    (q : sForGo g__law_lots_right_0 b__law_lots_right_0 [.int 0, .int 1] ⟨[some (.val (.int N)), some (.val (.bl looked)), some (.val (.tup [.tup A0, .tup A1])), none, none, none, none], ss⟩ = .nx ⟨[some (.val (.int N)), some (.val (.bl looked)), some (.val (.tup [.tup A0, .tup A1])), some (.val (.int 1)), x4, none, none], ss⟩)
    (e2 : m_fewest_leaves [.str "greater", .int N, .int 0] ss = .ok (.int (a + b)) ss) : m__law_lots_right [.int N, .bl looked] ss = .ok (.bl true) ss := by
  have r2 : rngD 0 2 = [.int 0, .int 1] := rfl
  have h2 : gLen [.tup [.tup A0, .tup A1]] = some (.int 2) := rfl
  simp [-gLen_tup, m__law_lots_right, e__law_lots_right, e1, r2, q, e2, h0, h1, h2]
theorem lots_right (n : Nat) (h1 : 1 ≤ n) (hn : n ≤ 1000) (looked : Bool) (hk : looked = true → n ≤ 24) (ss : SS) : m__law_lots_right [.int n, .bl looked] ss = .ok (.bl true) ss := by
  have P : Pz .gr n 0 := ⟨by omega, by omega, fun h => (by cases h), fun _ => rfl⟩
  have e2 := leaves_eq P ss
  refine lt_run n looked (lotD 0 n) (lotD 1 n) (some (.val (.tup (lotD 1 n)))) (n : Int) ((n - 1 : Nat) : Int) ss (lots_eq n h1 hn ss) (by rw [gLen_tup, lotD_len]; rfl) (by rw [gLen_tup, lotD_len]) ?_ ?_
  · cases looked with
    | true =>
      have a := lot_side_t n 0 (by decide) h1 hn (hk rfl) none none ss
      have b := lot_side_t n 1 (by decide) h1 hn (hk rfl) (some (.val (.int (0 : Nat)))) (some (.val (.tup (lotD 0 n)))) ss
      rw [sForGo_cons]
      refine (a _).trans ?_
      rw [sForGo_cons]
      exact b _
    | false =>
      have a := lot_side_f n 0 (by decide) h1 hn none none ss
      have b := lot_side_f n 1 (by decide) h1 hn (some (.val (.int (0 : Nat)))) (some (.val (.tup (lotD 0 n)))) ss
      rw [sForGo_cons]
      refine (a _).trans ?_
      rw [sForGo_cons]
      exact b _
  · have : (n : Int) + ((n - 1 : Nat) : Int) = lv .gr n 0 := by show _ = 2 * (n : Int) - 1; omega
    rw [this]
    exact e2
end K44

set_option Elab.async false
set_option linter.all false
set_option maxRecDepth 100000
set_option maxHeartbeats 4000000
namespace K44
open PySem PySem.Spec PyProof.Rows L2 TD TP TQ
open K31 (isCnt dI)
open K43 (Nm nmD Pz primes primes_rng cnt hel bs rows dig dig_len dig_rng rows_succ rwD badP many mulOk_l s_gr s_me s_inn)
/-! ### rows of whole numbers, in order -/
def lexI : List Int → List Int → Bool
  | x :: xs, y :: ys => if x = y then lexI xs ys else decide (x < y)
  | [], _ :: _ => true
  | _, [] => false
theorem eqvs_ints : ∀ l m : List Int, D.eqvs (l.map D.int) (m.map D.int) = decide (l = m)
  | [], [] => by simp
  | [], _ :: _ => by simp
  | _ :: _, [] => by simp
  | x :: l, y :: m => by
    rw [List.map_cons, List.map_cons, eqvs_cons, eqvs_ints l m, eqv_int_int]
    by_cases h : x = y <;> by_cases h2 : l = m <;> simp [h, h2]
theorem ltbs_ints : ∀ l m : List Int, D.ltbs (l.map D.int) (m.map D.int) = lexI l m
  | [], [] => by simp [D.ltbs, lexI]
  | [], _ :: _ => by simp [D.ltbs, lexI]
  | _ :: _, [] => by simp [D.ltbs, lexI]
  | x :: l, y :: m => by
    rw [List.map_cons, List.map_cons, D.ltbs, ltbs_ints l m, lexI, eqv_int_int, D.ltb]
    by_cases h : x = y <;> simp [h]
theorem eqv_dI (l m : List Int) : D.eqv (dI l) (dI m) = decide (l = m) := by rw [dI, dI, eqv_tup_tup, eqvs_ints]
theorem ltb_dI (l m : List Int) : D.ltb (dI l) (dI m) = lexI l m := by rw [dI, dI, D.ltb, ltbs_ints]
theorem alk_ints : ∀ l m : List Int, D.alks (l.map D.int) (m.map D.int) = true
  | [], _ => by simp [D.alks]
  | _ :: _, [] => by simp [D.alks]
  | x :: l, y :: m => by rw [List.map_cons, List.map_cons, D.alks, D.alk, alk_ints l m]; rfl
theorem alk_dI (l m : List Int) : D.alk (dI l) (dI m) = true := by rw [dI, dI, D.alk, alk_ints]
theorem okb_dI (n : Nat) (l : List Int) : (dI l).okb (n + 1) = true := by
  rw [dI, D.okb]
  exact oks_of fun d hd => by
    obtain ⟨i, _, rfl⟩ := List.mem_map.mp hd
    simp
theorem lexI_irr : ∀ l : List Int, lexI l l = false
  | [] => rfl
  | x :: l => by rw [lexI, if_pos rfl, lexI_irr l]
theorem lexI_asym : ∀ l m : List Int, lexI l m = true → lexI m l = false
  | [], [], h => by simp [lexI] at h
  | [], _ :: _, _ => rfl
  | _ :: _, [], h => by simp [lexI] at h
  | x :: l, y :: m, h => by
    rw [lexI] at h ⊢
    by_cases e : x = y
    · rw [if_pos e] at h
      rw [if_pos e.symm]
      exact lexI_asym l m h
    · rw [if_neg e] at h
      rw [if_neg (Ne.symm e)]
      have := of_decide_eq_true h
      exact decide_eq_false (by omega)
theorem lexI_total : ∀ l m : List Int, lexI l m = false → lexI m l = false → l = m
  | [], [], _, _ => rfl
  | [], _ :: _, h, _ => by simp [lexI] at h
  | _ :: _, [], _, h => by simp [lexI] at h
  | x :: l, y :: m, h, h2 => by
    rw [lexI] at h h2
    by_cases e : x = y
    · rw [if_pos e] at h
      rw [if_pos e.symm] at h2
      rw [e, lexI_total l m h h2]
    · rw [if_neg e] at h
      rw [if_neg (Ne.symm e)] at h2
      have := of_decide_eq_false h
      have := of_decide_eq_false h2
      omega
theorem lexI_snoc : ∀ (l m : List Int) (x y : Int), l.length = m.length → lexI (l ++ [x]) (m ++ [y]) = if l = m then decide (x < y) else lexI l m
  | [], [], x, y, _ => by
    show (if x = y then lexI [] [] else decide (x < y)) = _
    rw [if_pos rfl]
    split
    · rename_i h; rw [h]; simp [lexI]
    · rfl
  | [], _ :: _, _, _, h => by simp at h
  | _ :: _, [], _, _, h => by simp at h
  | a :: l, b :: m, x, y, h => by
    show (if a = b then lexI (l ++ [x]) (m ++ [y]) else decide (a < b)) = (if a :: l = b :: m then decide (x < y) else if a = b then lexI l m else decide (a < b))
    rw [lexI_snoc l m x y (by simpa using h)]
    by_cases e : a = b
    · subst e
      simp
    · simp [e]
theorem rows_mem {b n : Nat} {r : List Int} (h : r ∈ rows b n) : r.length = n := by
  obtain ⟨i, _, rfl⟩ := List.mem_map.mp h
  exact dig_len b n i
theorem range_pair (b : Nat) : (List.range b).Pairwise (· < ·) := List.pairwise_lt_range
/-- the rows ascend -/
theorem rows_asc (b : Nat) (hb : 0 < b) : ∀ n, (rows b n).Pairwise fun r s => lexI r s = true
  | 0 => by simp [rows]
  | n + 1 => by
    rw [rows_succ b n hb, List.pairwise_flatMap]
    refine ⟨fun r hr => ?_, ?_⟩
    · rw [List.pairwise_map]
      refine List.pairwise_lt_range.imp fun {i j} h => ?_
      rw [lexI_snoc r r _ _ rfl, if_pos rfl]
      exact decide_eq_true (by omega)
    · refine (rows_asc b hb n).imp_of_mem fun {r s} hr hs h x hx y hy => ?_
      obtain ⟨i, _, rfl⟩ := List.mem_map.mp hx
      obtain ⟨j, _, rfl⟩ := List.mem_map.mp hy
      rw [lexI_snoc r s _ _ (by rw [rows_mem hr, rows_mem hs])]
      have : r ≠ s := fun e => by rw [e, lexI_irr] at h; cases h
      rw [if_neg this]
      exact h
/-- ascending rows are in order, and whatever they are made of sorts to them -/
theorem sort_rows {m : List (List Int)} (hm : m.Pairwise fun r s => lexI r s = true) {l : List (List Int)} (hp : m.Perm l) : sortD (rwD l) = rwD m := by
  have ha : allAlk (rwD l) = true := by
    unfold allAlk
    refine List.all_eq_true.mpr fun d hd => List.all_eq_true.mpr fun e he => ?_
    obtain ⟨i, _, rfl⟩ := List.mem_map.mp hd
    obtain ⟨j, _, rfl⟩ := List.mem_map.mp he
    exact alk_dI i j
  refine sortD_is ha (hp.map _) ?_ ?_
  · unfold rwD
    rw [List.pairwise_map]
    refine hm.imp fun {r s} h => ?_
    rw [ltb_dI]
    exact lexI_asym _ _ h
  · intro a ha b hb h1 h2
    obtain ⟨i, _, rfl⟩ := List.mem_map.mp ha
    obtain ⟨j, _, rfl⟩ := List.mem_map.mp hb
    rw [ltb_dI] at h1 h2
    rw [lexI_total i j h2 h1]
theorem ok_rows {l : List (List Int)} (h : ∀ r ∈ l, r ≠ []) : okSort (rwD l) = true := by
  have ha : allAlk (rwD l) = true := by
    unfold allAlk
    refine List.all_eq_true.mpr fun d hd => List.all_eq_true.mpr fun e he => ?_
    obtain ⟨i, _, rfl⟩ := List.mem_map.mp hd
    obtain ⟨j, _, rfl⟩ := List.mem_map.mp he
    exact alk_dI i j
  unfold okSort
  rw [ha, List.all_eq_true.mpr fun d hd => (by obtain ⟨i, _, rfl⟩ := List.mem_map.mp hd; exact okb_dI 59 i : D.okb 60 d = true), List.all_eq_true.mpr fun d hd => (by
    obtain ⟨i, hi, rfl⟩ := List.mem_map.mp hd
    have := h i hi
    cases i with
    | nil => exact absurd rfl this
    | cons x i => rfl : D.isTup1 d = true)]
  rfl
theorem oks_rows (n : Nat) (l : List (List Int)) : D.oks (n + 1) (rwD l) = true := oks_of fun d hd => by
  obtain ⟨i, _, rfl⟩ := List.mem_map.mp hd
  exact okb_dI n i
/-! ### pairs of rows -/
abbrev prR (q : List Int × List Int) : D := .tup [dI q.1, dI q.2]
def lexP (p q : List Int × List Int) : Bool := if p.1 = q.1 then (if p.2 = q.2 then false else lexI p.2 q.2) else lexI p.1 q.1
theorem ltb_prR (p q : List Int × List Int) : D.ltb (prR p) (prR q) = lexP p q := by
  unfold prR lexP
  rw [D.ltb, D.ltbs, D.ltbs, D.ltbs, eqv_dI, eqv_dI, ltb_dI, ltb_dI]
  simp only [decide_eq_true_eq]
theorem sort_pairs {m : List (List Int × List Int)} (hm : m.Pairwise fun r s => lexP s r = false) {l : List (List Int × List Int)} (hp : m.Perm l) : sortD (l.map prR) = m.map prR := by
  have ha : allAlk (l.map prR) = true := by
    unfold allAlk
    refine List.all_eq_true.mpr fun d hd => List.all_eq_true.mpr fun e he => ?_
    obtain ⟨i, _, rfl⟩ := List.mem_map.mp hd
    obtain ⟨j, _, rfl⟩ := List.mem_map.mp he
    unfold prR
    rw [D.alk, D.alks, D.alks, D.alks, alk_dI, alk_dI]
    rfl
  refine sortD_is ha (hp.map _) ?_ ?_
  · rw [List.pairwise_map]
    refine hm.imp fun {r s} h => ?_
    rw [ltb_prR]
    exact h
  · intro a ha b hb h1 h2
    obtain ⟨i, _, rfl⟩ := List.mem_map.mp ha
    obtain ⟨j, _, rfl⟩ := List.mem_map.mp hb
    rw [ltb_prR, lexP] at h1 h2
    by_cases e : i.1 = j.1
    · rw [if_pos e.symm] at h1
      rw [if_pos e] at h2
      by_cases e2 : i.2 = j.2
      · rw [show i = j from Prod.ext e e2]
      · rw [if_neg (Ne.symm e2)] at h1
        rw [if_neg e2] at h2
        exact absurd (lexI_total _ _ h2 h1) e2
    · rw [if_neg (Ne.symm e)] at h1
      rw [if_neg e] at h2
      exact absurd (lexI_total _ _ h2 h1) e
theorem ok_pairs (l : List (List Int × List Int)) : okSort (l.map prR) = true := by
  have ha : allAlk (l.map prR) = true := by
    unfold allAlk
    refine List.all_eq_true.mpr fun d hd => List.all_eq_true.mpr fun e he => ?_
    obtain ⟨i, _, rfl⟩ := List.mem_map.mp hd
    obtain ⟨j, _, rfl⟩ := List.mem_map.mp he
    unfold prR
    rw [D.alk, D.alks, D.alks, D.alks, alk_dI, alk_dI]
    rfl
  unfold okSort
  rw [ha, List.all_eq_true.mpr fun d hd => (by
    obtain ⟨i, _, rfl⟩ := List.mem_map.mp hd
    unfold prR
    rw [D.okb, D.oks, D.oks, D.oks, okb_dI 58, okb_dI 58]
    rfl : D.okb 60 d = true), List.all_eq_true.mpr fun d hd => (by
    obtain ⟨i, hi, rfl⟩ := List.mem_map.mp hd
    rfl : D.isTup1 d = true)]
  rfl
theorem oks_pairs (l : List (List Int × List Int)) : D.oks 63 (l.map prR) = true := oks_of fun d hd => by
  obtain ⟨i, _, rfl⟩ := List.mem_map.mp hd
  unfold prR
  rw [D.okb, D.oks, D.oks, D.oks, okb_dI 61, okb_dI 61]
  rfl
end K44

set_option Elab.async false
set_option linter.all false
set_option maxRecDepth 100000
set_option maxHeartbeats 4000000
namespace K44
open PySem PySem.Spec PyProof.Rows L2 TD TP TQ
open K31 (isCnt dI)
open K43 (Nm nmD Pz primes primes_rng cnt hel bs rows dig dig_len dig_rng rows_succ rows_len rwD badP many mulOk_l s_gr s_me s_inn ip)
/-! ### the weights of meet -/
def Wt (n : Nat) : List (List Int × List Int) := (rows 2 n).flatMap fun a => (rows 2 n).filterMap fun b => if ip a b = 0 then some (a, b) else none
def T3 (p : List Int × List Int) : List (List Int × List Int) := [(p.1 ++ [0], p.2 ++ [0]), (p.1 ++ [0], p.2 ++ [1]), (p.1 ++ [1], p.2 ++ [0])]
def Ap : Nat → List (List Int × List Int)
  | 0 => [([], [])]
  | n + 1 => (Ap n).flatMap T3
theorem Ap_len : ∀ n, (Ap n).length = 3 ^ n
  | 0 => rfl
  | n + 1 => by
    rw [Ap, List.length_flatMap]
    have : (Ap n).map (fun a => (T3 a).length) = (Ap n).map fun _ => 3 := List.map_congr_left fun _ _ => rfl
    rw [this, List.map_const', List.sum_replicate_nat, Ap_len n, Nat.pow_succ]
theorem fm_swap {β γ : Type} (l : List β) (f g : β → List γ) : (l.flatMap f ++ l.flatMap g).Perm (l.flatMap fun x => f x ++ g x) := by
  induction l with
  | nil => exact List.Perm.refl _
  | cons x l ih =>
    simp only [List.flatMap_cons]
    refine List.Perm.trans ?_ (List.Perm.append_left _ ih)
    have : (f x ++ l.flatMap f ++ (g x ++ l.flatMap g)).Perm (f x ++ (g x ++ (l.flatMap f ++ l.flatMap g))) := by
      rw [List.append_assoc]
      refine List.Perm.append_left _ ?_
      rw [← List.append_assoc, ← List.append_assoc]
      exact List.Perm.append_right _ List.perm_append_comm
    rw [List.append_assoc (f x) (g x)]
    exact this
theorem fm_perm {α γ : Type} {l : List α} {f g : α → List γ} (h : ∀ a ∈ l, (f a).Perm (g a)) : (l.flatMap f).Perm (l.flatMap g) := by
  induction l with
  | nil => exact List.Perm.refl _
  | cons a l ih =>
    rw [List.flatMap_cons, List.flatMap_cons]
    exact (h a (List.mem_cons_self ..)).append (ih fun x hx => h x (List.mem_cons_of_mem _ hx))
theorem ip_snoc : ∀ (a b : List Int) (x y : Int), a.length = b.length → ip (a ++ [x]) (b ++ [y]) = ip a b + x * y
  | [], [], x, y, _ => by simp [ip]
  | [], _ :: _, _, _, h => by simp at h
  | _ :: _, [], _, _, h => by simp at h
  | p :: a, q :: b, x, y, h => by
    have ih := ip_snoc a b x y (by simpa using h)
    simp only [ip, List.cons_append, List.zipWith_cons_cons, List.sum_cons] at ih ⊢
    omega
theorem ip_nn : ∀ (a b : List Int), (∀ x ∈ a, 0 ≤ x) → (∀ x ∈ b, 0 ≤ x) → 0 ≤ ip a b
  | [], b, _, _ => by simp [ip]
  | _ :: _, [], _, _ => by simp [ip]
  | p :: a, q :: b, h, g => by
    have ih := ip_nn a b (fun x hx => h x (List.mem_cons_of_mem _ hx)) fun x hx => g x (List.mem_cons_of_mem _ hx)
    have := Int.mul_nonneg (h p (List.mem_cons_self ..)) (g q (List.mem_cons_self ..))
    simp only [ip, List.zipWith_cons_cons, List.sum_cons] at ih ⊢
    omega
theorem row_nn {n : Nat} {r : List Int} (h : r ∈ rows 2 n) : ∀ x ∈ r, 0 ≤ x := by
  obtain ⟨i, _, rfl⟩ := List.mem_map.mp h
  exact fun x hx => (dig_rng 2 (by decide) n i x hx).1
theorem rows2 (n : Nat) : rows 2 (n + 1) = (rows 2 n).flatMap fun r => [r ++ [0], r ++ [1]] := by
  rw [rows_succ 2 n (by decide)]
  rfl
theorem Wt_succ (n : Nat) : (Wt (n + 1)).Perm ((Wt n).flatMap T3) := by
  have e1 : Wt (n + 1) = (rows 2 n).flatMap fun a => ((rows 2 n).flatMap fun b => [b ++ [0], b ++ [1]].filterMap fun b' => if ip (a ++ [0]) b' = 0 then some (a ++ [0], b') else none) ++ (rows 2 n).flatMap fun b => [b ++ [0], b ++ [1]].filterMap fun b' => if ip (a ++ [1]) b' = 0 then some (a ++ [1], b') else none := by
    unfold Wt
    rw [rows2, List.flatMap_assoc]
    congr 1
    funext a
    simp only [List.flatMap_cons, List.flatMap_nil, List.append_nil, List.filterMap_flatMap]
  have e2 : (Wt n).flatMap T3 = (rows 2 n).flatMap fun a => (rows 2 n).flatMap fun b => if ip a b = 0 then T3 (a, b) else [] := by
    unfold Wt
    rw [List.flatMap_assoc]
    congr 1
    funext a
    induction rows 2 n with
    | nil => rfl
    | cons b l ih =>
      rw [List.filterMap_cons, List.flatMap_cons]
      by_cases h : ip a b = 0
      · simp only [h, if_true, List.flatMap_cons, ih]
      · simp only [h, if_false, ih, List.nil_append]
  rw [e1, e2]
  refine fm_perm fun a ha => (fm_swap _ _ _).trans (fm_perm fun b hb => ?_)
  have hl : a.length = b.length := by rw [rows_mem ha, rows_mem hb]
  have h0 := ip_nn a b (row_nn ha) (row_nn hb)
  have z : ∀ x y, ip (a ++ [x]) (b ++ [y]) = ip a b + x * y := fun x y => ip_snoc a b x y hl
  by_cases h : ip a b = 0
  · rw [if_pos h]
    simp [z, h, T3]
  · rw [if_neg h]
    have h1 : ¬ ip a b + 1 = 0 := by omega
    simp [z, h, h1]
theorem Wt_perm : ∀ n, (Wt n).Perm (Ap n)
  | 0 => by
    have : Wt 0 = Ap 0 := by decide +kernel
    rw [this]
  | n + 1 => (Wt_succ n).trans (fm_perm_l (Wt_perm n))
where fm_perm_l {l m : List (List Int × List Int)} (h : l.Perm m) : (l.flatMap T3).Perm (m.flatMap T3) := h.flatMap_right T3
theorem Wt_asc (n : Nat) : (Wt n).Pairwise fun r s => lexP s r = false := by
  unfold Wt
  rw [List.pairwise_flatMap]
  refine ⟨fun a ha => ?_, ?_⟩
  · rw [List.pairwise_filterMap]
    refine (rows_asc 2 (by decide) n).imp fun {b c} h x hx y hy => ?_
    by_cases h1 : ip a b = 0
    · by_cases h2 : ip a c = 0
      · simp only [h1, h2, if_true, Option.some.injEq] at hx hy
        subst hx hy
        unfold lexP
        rw [if_pos rfl]
        split
        · rfl
        · exact lexI_asym _ _ h
      · simp only [h2, if_false] at hy; cases hy
    · simp only [h1, if_false] at hx; cases hx
  · refine (rows_asc 2 (by decide) n).imp fun {a c} h x hx y hy => ?_
    obtain ⟨b, _, hb⟩ := List.mem_filterMap.mp hx
    obtain ⟨d, _, hd⟩ := List.mem_filterMap.mp hy
    have e1 : x.1 = a := by split at hb <;> cases hb; rfl
    have e2 : y.1 = c := by split at hd <;> cases hd; rfl
    unfold lexP
    rw [e1, e2, if_neg fun e => by rw [e, lexI_irr] at h; cases h]
    exact lexI_asym _ _ h
theorem sort_Ap (n : Nat) : sortD ((Ap n).map prR) = (Wt n).map prR := sort_pairs (Wt_asc n) (Wt_perm n)
/-! the law's own list -/
theorem ap_in (A : List (List Int × List Int)) (hA : A.length ≤ 100000) (hr : ∀ p ∈ A, p.1.length ≤ 1000 ∧ p.2.length ≤ 1000) (n pl : D) (x4 x5 : Option TD.Slot) (ss : SS) (P : Po) (hP : ∀ y4 y5, P.N ⟨[some (.val n), some (.val (.lst (A.map prR))), some (.val pl), some (.own ((A.flatMap T3).map prR)), y4, y5], ss⟩) :
    wS (sForGo g__law_apart_0 b__law_apart_0 (A.map prR) ⟨[some (.val n), some (.val (.lst (A.map prR))), some (.val pl), some (.own []), x4, x5], ss⟩) P := by
  generalize hLL : D.lst (A.map prR) = LL at hP ⊢
  refine for_ix (A.map prR) (fun i w => ∃ y4 y5, w = ⟨[some (.val n), some (.val LL), some (.val pl), some (.own (((A.take i).flatMap T3).map prR)), y4, y5], ss⟩) ⟨x4, x5, by simp⟩ ?_ ?_
  · rintro w ⟨y4, y5, rfl⟩
    rw [List.length_map, List.take_length]
    exact hP y4 y5
  · rintro i d w hd ⟨y4, y5, rfl⟩
    rw [List.getElem?_map] at hd
    obtain ⟨⟨a, b⟩, hp, rfl⟩ := Option.map_eq_some_iff.mp hd
    obtain ⟨hi, e⟩ := List.getElem?_eq_some_iff.mp hp
    obtain ⟨l1, l2⟩ := hr (a, b) (e ▸ List.getElem_mem hi)
    have hlen : (((A.take i).flatMap T3).map prR).length = 3 * i := by
      rw [List.length_map, List.length_flatMap]
      have : (A.take i).map (fun a => (T3 a).length) = (A.take i).map fun _ => 3 := List.map_congr_left fun _ _ => rfl
      rw [this, List.map_const', List.sum_replicate_nat, List.length_take, Nat.min_eq_left (by omega), Nat.mul_comm]
    have hnext : ((A.take (i + 1)).flatMap T3).map prR = ((A.take i).flatMap T3).map prR ++ [prR (a ++ [0], b ++ [0]), prR (a ++ [0], b ++ [1]), prR (a ++ [1], b ++ [0])] := by
      rw [List.take_add_one, hp]
      simp [T3]
    generalize ((A.take i).flatMap T3).map prR = acc at hlen hnext ⊢
    generalize ((A.take (i + 1)).flatMap T3).map prR = acc' at hnext ⊢
    simp only at l1 l2
    have b1 : acc.length < 1000000 := by omega
    have b2 : acc.length + 1 < 1000000 := by omega
    have b3 : acc.length + 1 + 1 < 1000000 := by omega
    have c1 : a.length + 1 ≤ 1000000 := by omega
    have c2 : b.length + 1 ≤ 1000000 := by omega
    refine ⟨⟨[some (.val n), some (.val LL), some (.val pl), some (.own acc), some (.val (dI a)), some (.val (dI b))], ss⟩, by simp [g__law_apart_0], ?_⟩
    simp [b__law_apart_0, b1, b2, b3, c1, c2]
    rw [hnext]
    simp
theorem ap_run (N : Int) (V : List D) (hs : small N = true) (hok : okSort V = true) (x2 : Option TD.Slot) (x3 x4 x5 : Option TD.Slot) (T : TD.Slot) (hT : T = .own V ∨ T = .val (.lst V)) (ss : SS)
    (q : sForGo g__law_apart_1 b__law_apart_1 (rngD 0 N) ⟨[some (.val (.int N)), some (.own [.tup [.tup [], .tup []]]), none, none, none, none], ss⟩ = .nx ⟨[some (.val (.int N)), some T, x2, x3, x4, x5], ss⟩) : m__law_apart [.int N] ss = .ok (.lst (sortD V)) ss := by
  rcases hT with rfl | rfl <;> simp [m__law_apart, e__law_apart, hs, q, hok]
theorem apart_eq (n : Nat) (hn : n ≤ 9) (ss : SS) : m__law_apart [.int n] ss = .ok (.lst ((Wt n).map prR)) ss := by
  have key : wS (sForGo g__law_apart_1 b__law_apart_1 (rngD 0 n) ⟨[some (.val (.int n)), some (.own [.tup [.tup [], .tup []]]), none, none, none, none], ss⟩) ⟨fun w => ∃ T x2 x3 x4 x5, w = ⟨[some (.val (.int n)), some T, x2, x3, x4, x5], ss⟩ ∧ (T = .own ((Ap n).map prR) ∨ T = .val (.lst ((Ap n).map prR))), fun _ _ => False, fun _ => False, fun _ => False, fun _ _ => False⟩ := by
    refine for_rng n (fun k w => k ≤ 9 ∧ (∀ p ∈ Ap k, p.1.length = k ∧ p.2.length = k) ∧ ∃ T x2 x3 x4 x5, w = ⟨[some (.val (.int n)), some T, x2, x3, x4, x5], ss⟩ ∧ (T = .own ((Ap k).map prR) ∨ T = .val (.lst ((Ap k).map prR)))) ⟨by omega, by simp [Ap], _, _, _, _, _, rfl, .inl rfl⟩ (fun w h => h.2.2) ?_
    rintro k w hk ⟨hk9, hlen, T, x2, x3, x4, x5, rfl, hT⟩
    have hl3 : 3 ^ k ≤ 3 ^ 9 := Nat.pow_le_pow_right (by decide) hk9
    have hA := Ap_len k
    have hlen' : ∀ p ∈ Ap (k + 1), p.1.length = k + 1 ∧ p.2.length = k + 1 := by
      intro p hp
      obtain ⟨q, hq, hp⟩ := List.mem_flatMap.mp hp
      obtain ⟨a1, a2⟩ := hlen q hq
      simp only [T3, List.mem_cons, List.not_mem_nil, or_false] at hp
      rcases hp with rfl | rfl | rfl <;> simp [a1, a2]
    have inner := ap_in (Ap k) (by omega) (fun p hp => by have := hlen p hp; omega) (.int n) (.int k) x4 x5 ss
    have hnext : (Ap (k + 1)) = (Ap k).flatMap T3 := rfl
    rw [← hnext] at inner
    refine ⟨_, rfl, ?_⟩
    have hk9' : k + 1 ≤ 9 := by omega
    generalize (Ap k).map prR = V at hT inner ⊢
    generalize hV' : (Ap (k + 1)).map prR = V' at inner ⊢
    rcases hT with rfl | rfl
    · simp [b__law_apart_1]
      exact inner _ fun y4 y5 => by simp; exact ⟨by omega, fun a b h => hlen' (a, b) h⟩
    · simp [b__law_apart_1]
      exact inner _ fun y4 y5 => by simp; exact ⟨by omega, fun a b h => hlen' (a, b) h⟩
  revert key
  cases e : sForGo g__law_apart_1 b__law_apart_1 (rngD 0 n) ⟨[some (.val (.int n)), some (.own [.tup [.tup [], .tup []]]), none, none, none, none], ss⟩ with
  | nx w =>
    rintro ⟨T, x2, x3, x4, x5, rfl, hT⟩
    rw [ap_run n _ (small_len (by omega)) (ok_pairs _) x2 x3 x4 x5 T hT ss e, sort_Ap]
  | _ => exact fun h => h.elim

/-! the told weights -/
theorem fmap_pr (d : List Int) (l : List (List Int)) : (rwD l).filterMap (fun e => if K43.vD .me 0 (dI d) e = 0 then some (D.tup [dI d, e]) else none) = (l.filterMap fun b => if ip d b = 0 then some (d, b) else none).map prR := by
  induction l with
  | nil => rfl
  | cons b l ih =>
    rw [rwD, List.map_cons, List.filterMap_cons, List.filterMap_cons]
    have e : K43.vD .me 0 (dI d) (dI b) = ip d b := by rw [K43.vD_row]; rfl
    rw [e]
    by_cases h : ip d b = 0
    · simp only [h, if_true, List.map_cons]
      rw [← ih]
    · simp only [h, if_false]
      exact ih
theorem fmap_all (m l : List (List Int)) : (rwD m).flatMap (fun d => (rwD l).filterMap fun e => if K43.vD .me 0 d e = 0 then some (D.tup [d, e]) else none) = (m.flatMap fun a => l.filterMap fun b => if ip a b = 0 then some (a, b) else none).map prR := by
  induction m with
  | nil => rfl
  | cons a m ih =>
    rw [List.flatMap_cons, List.map_append, ← ih, ← fmap_pr]
    rfl
theorem weights_eq {n : Nat} (h : Pz .me n 0) (hc : n ≤ 8) (ss : SS) : m_meet_weights [.int n] ss = .ok (.tup ((Wt n).map prR)) ss := by
  have hcn : cnt .me n 0 = 2 ^ n := rfl
  have h2 : 2 ^ n ≤ 2 ^ 8 := Nat.pow_le_pow_right (by decide) hc
  have h1 := K43.all_held_eq h ss
  rw [if_pos (by omega)] at h1
  have hl := K43.hel_len .me n 0
  have hel_eq : hel .me n 0 = rwD (rows 2 n) := rfl
  let out : D → List D := fun d => (hel .me n 0).filterMap fun e => if K43.vD .me 0 d e = 0 then some (.tup [d, e]) else none
  have ho : ∀ d, (out d).length ≤ 256 := fun d => Nat.le_trans (List.length_filterMap_le _ _) (by omega)
  have hfl : ∀ ds : List D, (ds.flatMap out).length ≤ 256 * ds.length := by
    intro ds
    induction ds with
    | nil => simp
    | cons d ds ih =>
      rw [List.flatMap_cons, List.length_append, List.length_cons]
      have := ho d
      omega
  have q := lc2_pureN 70000 (vs := [2, 3]) (vs1 := [3]) (set := gsName 2) (mt := mYes) (mi1 := mItems (mVar 1)) (set1 := gsName 3) (mt1 := mB (mBin gEq (mCall 4 K43.m_value_of (mCons (mC (.str "meet")) (mCons (mC (.int 0)) (mCons (mVar 2) (mCons (mVar 3) (mNil)))))) (mC (.int 0)))) (me := mTup (mCons (mVar 2) (mCons (mVar 3) (mNil)))) out ⟨[some (.val (.int n)), some (.val (.tup (hel .me n 0))), none, none], ss⟩ (hel .me n 0) [] (fun d hd acc ha => by
    refine K43.mw_step (.int n) d (hel .me n 0) (out d) acc ss ?_
    refine lc_pure (fun e => if K43.vD .me 0 d e = 0 then some (.tup [d, e]) else none) _ (hel .me n 0) acc (fun e he => ?_) ?_
    · have := K43.value_eq h hd he ss
      exact K43.mw_inner (.int n) _ d e _ ss this
    · omega) (by have := hfl (hel .me n 0); simp only [List.length_nil]; omega)
  have r := K43.mw_run n _ _ ss h1 q
  rw [List.nil_append] at r
  have e : (hel .me n 0).flatMap out = (Wt n).map prR := by
    show (hel .me n 0).flatMap (fun d => (hel .me n 0).filterMap fun e => if K43.vD .me 0 d e = 0 then some (D.tup [d, e]) else none) = _
    rw [hel_eq, fmap_all]
    rfl
  rw [e] at r
  exact r
theorem wr_body (n V : D) (a b : List D) (h1 : m__law_numbers [.tup a, n, .int 2] ss = .ok (.bl true) ss) (h2 : m__law_numbers [.tup b, n, .int 2] ss = .ok (.bl true) ss) (x2 : Option TD.Slot) (P : Po) (hP : P.N ⟨[some (.val n), some (.val V), some (.val (.tup [.tup a, .tup b])), none, none], ss⟩) :
    wS (b__law_weights_right_0 ⟨[some (.val n), some (.val V), some (.val (.tup [.tup a, .tup b])), none, none], ss⟩) P := by
  simp [b__law_weights_right_0, h1, h2]
  exact hP
theorem wr_run (N L3 B2 Q : Int) (V : List D) (x2 : Option TD.Slot) (ss : SS) (e1 : m_meet_weights [.int N] ss = .ok (.tup V) ss) (e2 : m__law_apart [.int N] ss = .ok (.lst V) ss) (ok : D.oks 63 V = true)
    (q : sForGo g__law_weights_right_0 b__law_weights_right_0 V ⟨[some (.val (.int N)), some (.val (.tup V)), none, none, none], ss⟩ = .nx ⟨[some (.val (.int N)), some (.val (.tup V)), x2, none, none], ss⟩)
    (e3 : m_fewest_leaves [.str "meet", .int N, .int 0] ss = .ok (.int Q) ss) (e4 : gShl (.int 1) (.int N) = some (.int B2)) (e5 : m__law_power [.int 3, .int N] ss = .ok (.int L3) ss) (e6 : gLen [.tup V] = some (.int L3)) (k1 : mulOk (Q - 1) B2 = true) (k2 : mulOk (Q - 2) B2 = true)
    (c1 : (Q - 1) * B2 ≥ L3) (c2 : (Q - 2) * B2 < L3) : m__law_weights_right [.int N] ss = .ok (.bl true) ss := by
  have he : D.eqvs V V = true := eqvs_self V 63 ok
  have ho : (D.tup V).okb 64 = true := by rw [D.okb]; exact ok
  have he2 : D.eqv (.tup V) (.tup V) = true := by rw [D.eqv]; exact he
  have c3 : Q - 1 - 1 = Q - 2 := by omega
  simp [-gLen_tup, m__law_weights_right, e__law_weights_right, e1, e2, ho, he, he2, q, e3, e4, e5, e6, k1, k2, c1, c2, c3]
theorem Wt_len (n : Nat) : (Wt n).length = 3 ^ n := by rw [(Wt_perm n).length_eq, Ap_len]
theorem Wt_num {n : Nat} {p : List Int × List Int} (h : p ∈ Wt n) : p.1 ∈ rows 2 n ∧ p.2 ∈ rows 2 n := by
  obtain ⟨a, ha, hp⟩ := List.mem_flatMap.mp h
  obtain ⟨b, hb, hp⟩ := List.mem_filterMap.mp hp
  split at hp
  · cases hp; exact ⟨ha, hb⟩
  · cases hp
theorem row_num {b n : Nat} (hb : 0 < b) (hn : n ≤ 1000) {r : List Int} (h : r ∈ rows b n) (ss : SS) : m__law_numbers [dI r, .int n, .int b] ss = .ok (.bl true) ss := by
  obtain ⟨i, _, rfl⟩ := List.mem_map.mp h
  exact numbers_eq (dig b n i) n b (by rw [dig_len]) (by rw [dig_len]; omega) (dig_rng b hb n i) ss
theorem weights_right (n : Nat) (h1 : 1 ≤ n) (hn : n ≤ 8) (ss : SS) : m__law_weights_right [.int n] ss = .ok (.bl true) ss := by
  have h : Pz .me n 0 := ⟨by omega, by omega, fun h => (by cases h), fun _ => rfl⟩
  obtain ⟨c1, c2⟩ := meet_lv n
  obtain ⟨k1, k2⟩ := meet_mul n (by omega) _ (lv_bd h ss) c1
  have key : wS (sForGo g__law_weights_right_0 b__law_weights_right_0 ((Wt n).map prR) ⟨[some (.val (.int n)), some (.val (.tup ((Wt n).map prR))), none, none, none], ss⟩) ⟨fun w => ∃ x2, w = ⟨[some (.val (.int n)), some (.val (.tup ((Wt n).map prR))), x2, none, none], ss⟩, fun _ _ => False, fun _ => False, fun _ => False, fun _ _ => False⟩ := by
    generalize hV : D.tup ((Wt n).map prR) = V
    refine for_wp (fun rest w => (∀ d ∈ rest, d ∈ (Wt n).map prR) ∧ ∃ x2, w = ⟨[some (.val (.int n)), some (.val V), x2, none, none], ss⟩) ⟨fun _ h => h, none, rfl⟩ (fun w h => h.2) ?_
    rintro d rest w ⟨hm, x2, rfl⟩
    obtain ⟨p, hp, rfl⟩ := List.mem_map.mp (hm d (List.mem_cons_self ..))
    obtain ⟨a1, a2⟩ := Wt_num hp
    refine ⟨_, rfl, wr_body (.int n) V _ _ (row_num (by decide) (by omega) a1 ss) (row_num (by decide) (by omega) a2 ss) x2 _ ⟨fun e he => hm e (List.mem_cons_of_mem _ he), _, rfl⟩⟩
  revert key
  cases e : sForGo g__law_weights_right_0 b__law_weights_right_0 ((Wt n).map prR) ⟨[some (.val (.int n)), some (.val (.tup ((Wt n).map prR))), none, none, none], ss⟩ with
  | nx w =>
    rintro ⟨x2, rfl⟩
    exact wr_run n (3 ^ n) (2 ^ n) _ _ x2 ss (weights_eq h hn ss) (apart_eq n (by omega) ss) (oks_pairs _) e (leaves_eq h ss) (gShl_one n (by omega)) (power_eq 3 (by decide) n (by omega) ss) (by rw [gLen_tup, List.length_map, Wt_len]; push_cast; rfl) k1 k2 c1 c2
  | _ => exact fun h => h.elim
end K44

set_option Elab.async false
set_option linter.all false
set_option maxRecDepth 100000
set_option maxHeartbeats 4000000
namespace K44
open PySem PySem.Spec PyProof.Rows L2 TD TP TQ
open K31 (isCnt dI)
open K43 (Nm nmD Pz primes primes_rng cnt hel bs rows dig dig_len dig_rng rows_succ rows_len rwD badP many mulOk_l s_gr s_me s_inn ip)
/-! ### the lines of inner -/
def hd (p : Nat) : Nat → Nat → Nat
  | 0, _ => 0
  | n + 1, i => if hd p n (i / p) = 0 then i % p else hd p n (i / p)
def mulc (p k : Nat) : Nat → Nat → Nat
  | 0, _ => 0
  | n + 1, i => mulc p k n (i / p) * p + (k * (i % p)) % p
def lnI (p n : Nat) : List Nat := (List.range (p ^ n)).filter fun i => hd p n i == 1
def codes (p n : Nat) : List Nat := (lnI p n).flatMap fun i => (List.range (p - 1)).map fun k => mulc p (k + 1) n i
def chk (p n : Nat) : Bool := ((List.range (p ^ n - 1)).all fun j => (codes p n).contains (j + 1)) && (codes p n).length == p ^ n - 1
def Ln (p n : Nat) : List (List Int) := (lnI p n).map (dig p n)
theorem heads_eq (p : Nat) : ∀ n i, ((dig p n i).filter fun x => decide (x ≠ 0)).take 1 = if hd p n i = 0 then [] else [((hd p n i : Nat) : Int)]
  | 0, i => rfl
  | n + 1, i => by
    have ih := heads_eq p n (i / p)
    rw [dig, List.filter_append, hd]
    by_cases h : hd p n (i / p) = 0
    · rw [if_pos h] at ih ⊢
      have h0 : (dig p n (i / p)).filter (fun x => decide (x ≠ 0)) = [] := by
        cases e : (dig p n (i / p)).filter (fun x => decide (x ≠ 0)) with
        | nil => rfl
        | cons a l => rw [e] at ih; simp at ih
      rw [h0, List.nil_append]
      by_cases h2 : i % p = 0
      · rw [if_pos h2]
        have : ¬ (((i % p : Nat) : Int) ≠ 0) := by omega
        rw [List.filter_cons_of_neg (by simpa using this)]
        rfl
      · rw [if_neg h2]
        have : (((i % p : Nat) : Int) ≠ 0) := by omega
        rw [List.filter_cons_of_pos (by simpa using this)]
        rfl
    · rw [if_neg h] at ih ⊢
      rw [if_neg h]
      have h0 : ∃ l, (dig p n (i / p)).filter (fun x => decide (x ≠ 0)) = ((hd p n (i / p) : Nat) : Int) :: l := by
        cases e : (dig p n (i / p)).filter (fun x => decide (x ≠ 0)) with
        | nil => rw [e] at ih; simp at ih
        | cons a l =>
          rw [e] at ih
          simp at ih
          exact ⟨l, by rw [ih]⟩
      obtain ⟨l, e⟩ := h0
      rw [e]
      rfl
theorem dig_mul (p k : Nat) (hp : 0 < p) : ∀ n i, dig p n (mulc p k n i) = (dig p n i).map fun x => ((k : Int) * x) % (p : Int)
  | 0, _ => rfl
  | n + 1, i => by
    have hr : (k * (i % p)) % p < p := Nat.mod_lt _ hp
    rw [mulc, dig, dig, List.map_append]
    have e1 : (mulc p k n (i / p) * p + (k * (i % p)) % p) / p = mulc p k n (i / p) := by rw [Nat.mul_comm, Nat.mul_add_div hp, Nat.div_eq_of_lt hr, Nat.add_zero]
    have e2 : (mulc p k n (i / p) * p + (k * (i % p)) % p) % p = (k * (i % p)) % p := by rw [Nat.mul_comm, Nat.mul_add_mod, Nat.mod_eq_of_lt hr]
    rw [e1, e2, dig_mul p k hp n (i / p)]
    simp only [List.map_cons, List.map_nil]
    congr 2
theorem perm_of_sub {α : Type} [DecidableEq α] : ∀ (m l : List α), m.Nodup → (∀ x ∈ m, x ∈ l) → l.length = m.length → m.Perm l
  | [], l, _, _, h => by rw [List.length_nil, List.length_eq_zero_iff] at h; rw [h]
  | x :: m, l, hn, hs, h => by
    have hx := hs x (List.mem_cons_self ..)
    have hn' := List.nodup_cons.mp hn
    have p := List.perm_cons_erase hx
    refine List.Perm.trans ?_ p.symm
    refine List.Perm.cons x (perm_of_sub m (l.erase x) hn'.2 (fun y hy => ?_) ?_)
    · have : y ≠ x := fun e => hn'.1 (e ▸ hy)
      exact (List.mem_erase_of_ne this).mpr (hs y (List.mem_cons_of_mem _ hy))
    · rw [List.length_erase_of_mem hx, h]; simp
def pairsPN : List (Nat × Nat) := [2, 3, 5, 7, 11, 13, 17, 19, 23, 29, 31, 37, 41, 43, 47, 53, 59, 61].flatMap fun p => ([1, 2, 3, 4, 5, 6, 7, 8].filter fun n => decide (p ^ n ≤ 256)).map fun n => (p, n)
theorem all_chk : (pairsPN.all fun q => chk q.1 q.2) = true := by decide +kernel
theorem chk_ok (p n : Nat) (hp : (p : Int) ∈ primes) (h1 : 1 ≤ n) (h : p ^ n ≤ 256) : chk p n = true := by
  have hp2 : 2 ≤ p := by have := primes_rng _ hp; omega
  have hn : n ≤ 8 := by
    by_cases h8 : n ≤ 8
    · exact h8
    · have : 2 ^ 9 ≤ p ^ n := Nat.le_trans (Nat.pow_le_pow_left hp2 9) (Nat.pow_le_pow_right (by omega) (by omega))
      omega
  have hm : (p, n) ∈ pairsPN := by
    unfold pairsPN
    refine List.mem_flatMap.mpr ⟨p, ?_, List.mem_map.mpr ⟨n, List.mem_filter.mpr ⟨?_, by simpa using h⟩, rfl⟩⟩
    · simp only [primes, List.mem_cons, List.not_mem_nil, or_false] at hp ⊢
      omega
    · simp only [List.mem_cons, List.not_mem_nil, or_false]
      omega
  exact List.all_eq_true.mp all_chk _ hm
theorem rows_tail (p n : Nat) (hp : 0 < p) : (rows p n).tail = ((List.range (p ^ n - 1)).map (· + 1)).map (dig p n) := by
  unfold rows
  obtain ⟨m, hm⟩ : ∃ m, p ^ n = m + 1 := ⟨p ^ n - 1, by have := Nat.pow_pos (n := n) hp; omega⟩
  rw [hm, List.range_succ_eq_map]
  simp
def Mu (p n : Nat) : List (List Int) := (Ln p n).flatMap fun r => (List.range (p - 1)).map fun k => r.map fun x => (((k + 1 : Nat) : Int) * x) % (p : Int)
theorem Mu_eq (p n : Nat) (hp : 0 < p) : Mu p n = (codes p n).map (dig p n) := by
  unfold Mu Ln codes
  rw [List.flatMap_map, List.map_flatMap]
  congr 1
  funext i
  rw [List.map_map]
  apply List.map_congr_left
  intro k _
  exact (dig_mul p (k + 1) hp n i).symm
theorem Mu_perm (p n : Nat) (hp : 0 < p) (h : chk p n = true) : (rows p n).tail.Perm (Mu p n) := by
  unfold chk at h
  rw [Bool.and_eq_true, beq_iff_eq] at h
  rw [rows_tail p n hp, Mu_eq p n hp]
  refine List.Perm.map _ (perm_of_sub _ _ ?_ ?_ ?_)
  · unfold List.Nodup
    rw [List.pairwise_map]
    exact List.pairwise_lt_range.imp fun h e => by omega
  · intro x hx
    obtain ⟨j, hj, rfl⟩ := List.mem_map.mp hx
    have := List.all_eq_true.mp h.1 j hj
    simpa using this
  · rw [h.2]; simp
theorem Ln_len (p n : Nat) (hp : 2 ≤ p) (h : chk p n = true) : ((Ln p n).length : Int) = lin p n := by
  have h1 := (Mu_perm p n (by omega) h).length_eq
  rw [List.length_tail, rows_len] at h1
  have h2 : (Mu p n).length = (Ln p n).length * (p - 1) := by
    unfold Mu
    rw [List.length_flatMap]
    have : (Ln p n).map (fun r => ((List.range (p - 1)).map fun k => r.map fun x => (((k + 1 : Nat) : Int) * x) % (p : Int)).length) = (Ln p n).map fun _ => p - 1 := List.map_congr_left fun _ _ => by simp
    rw [this, List.map_const', List.sum_replicate_nat]
  have h3 := lin_eq p n
  have h4 : (Ln p n).length * (p - 1) = p ^ n - 1 := by rw [← h2, ← h1]
  have h5 : 1 ≤ p ^ n := Nat.pow_pos (by omega)
  have h6 : ((Ln p n).length : Int) * ((p : Int) - 1) = (p : Int) ^ n - 1 := by
    have : (((Ln p n).length * (p - 1) : Nat) : Int) = ((p ^ n - 1 : Nat) : Int) := by rw [h4]
    rw [Int.natCast_mul, Int.natCast_sub (by omega), Int.natCast_sub h5, Int.natCast_pow] at this
    simpa using this
  exact Int.eq_of_mul_eq_mul_right (a := (p : Int) - 1) (by omega) (by rw [h6, h3])
theorem Ln_rows {p n : Nat} {r : List Int} (h : r ∈ Ln p n) : r ∈ rows p n := by
  obtain ⟨i, hi, rfl⟩ := List.mem_map.mp h
  exact List.mem_map.mpr ⟨i, (List.mem_filter.mp hi).1, rfl⟩
theorem Ln_head {p n : Nat} {r : List Int} (h : r ∈ Ln p n) : (r.filter fun x => decide (x ≠ 0)).take 1 = [1] := by
  obtain ⟨i, hi, rfl⟩ := List.mem_map.mp h
  have h1 : hd p n i = 1 := by simpa using (List.mem_filter.mp hi).2
  rw [heads_eq, h1]
  rfl
theorem Ln_filter (p n : Nat) : Ln p n = (rows p n).filter fun r => decide ((r.filter fun x => decide (x ≠ 0)).take 1 = [1]) := by
  unfold Ln lnI rows
  rw [List.filter_map]
  congr 1
  apply List.filter_congr
  intro i _
  show (hd p n i == 1) = decide (((dig p n i).filter fun x => decide (x ≠ 0)).take 1 = [1])
  rw [heads_eq]
  by_cases h : hd p n i = 0
  · simp [h]
  · rw [if_neg h]
    by_cases h1 : hd p n i = 1
    · simp [h1]
    · have : ¬ ((hd p n i : Nat) : Int) = 1 := by omega
      simp [h1, this]
theorem Ln_asc (p n : Nat) (hp : 0 < p) : (Ln p n).Pairwise fun r s => lexI r s = true := by
  rw [Ln_filter]
  exact (rows_asc p hp n).filter _
end K44

set_option Elab.async false
set_option linter.all false
set_option maxRecDepth 100000
set_option maxHeartbeats 4000000
namespace K44
open PySem PySem.Spec PyProof.Rows L2 TD TP TQ
open K31 (isCnt dI)
open K43 (Nm nmD Pz primes primes_rng cnt hel bs rows dig dig_len dig_rng rows_succ rows_len rwD badP many mulOk_l s_gr s_me s_inn ip)
/-! ### lines_held -/
theorem nz_step (w : W) (i : Int) (a b : TD.Env) (ss : SS) (he : a.length = 5) : lcStep [5] (gsName 5) (mB (mBin gNe (mVar 5) (mC (.int 0)))) (mVar 5) (.int i) ⟨a ++ [none], ss⟩ = .ok (if i = 0 then none else some (.int i)) ⟨a ++ [none], ss⟩ := by
  match a, he with
  | [x0, x1, x2, x3, x4], _ => by_cases h : i = 0 <;> simp [lcStep, h]
def nzD (d : D) : Option D := match d with | .int i => if i = 0 then none else some (.int i) | _ => none
theorem nz_all (r : List Int) : (r.map D.int).filterMap nzD = (r.filter fun x => decide (x ≠ 0)).map D.int := by
  induction r with
  | nil => rfl
  | cons x r ih =>
    rw [List.map_cons, List.filterMap_cons, List.filter_cons]
    by_cases h : x = 0
    · simp [nzD, h]
      simpa using ih
    · simp [nzD, h]
      simpa using ih
theorem lh_yes (n md : D) (r h : List D) (told : List D) (b : Bool) (ht : told.length < 1000) (x3 x4 : Option TD.Slot) (ss : SS)
    (q : lcGo [5] (gsName 5) (mB (mBin gNe (mVar 5) (mC (.int 0)))) (mVar 5) r [] ⟨[some (.val n), some (.val md), some (.own told), some (.val (.tup r)), x4, none], ss⟩ = .ok h ⟨[some (.val n), some (.val md), some (.own told), some (.val (.tup r)), x4, none], ss⟩)
    (ok : D.oks 63 (h.take 1) = true) (hb : D.eqvs (h.take 1) [.int 1] = b) (P : Po) (hP : P.N ⟨[some (.val n), some (.val md), some (.own (told ++ if b = true then [.tup r] else [])), some (.val (.tup r)), some (.own h), none], ss⟩) :
    wS (b_lines_held_0 ⟨[some (.val n), some (.val md), some (.own told), some (.val (.tup r)), x4, none], ss⟩) P := by
  have ht' : told.length < 1000000 := by omega
  cases b with
  | false =>
    simp [b_lines_held_0, q, ok, hb]
    simpa using hP
  | true =>
    simp [b_lines_held_0, q, ok, hb, ht']
    simpa using hP
theorem lhx_run (n md : D) (HL V : List D) (y3 y4 : Option TD.Slot) (ss : SS) (h : m_all_held [.str "inner", n, md] ss = .ok (.tup HL) ss) (q : sForGo g_lines_held_0 b_lines_held_0 HL ⟨[some (.val n), some (.val md), some (.own []), none, none, none], ss⟩ = .nx ⟨[some (.val n), some (.val md), some (.own V), y3, y4, none], ss⟩) : m_lines_held [n, md] ss = .ok (.tup V) ss := by
  simp [m_lines_held, e_lines_held, h, q]
theorem held_eq {n p : Nat} (h : Pz .inn n p) (hc : p ^ n ≤ 256) (ss : SS) : m_lines_held [.int n, .int p] ss = .ok (.tup (rwD (Ln p n))) ss := by
  have hcn : cnt .inn n p = p ^ n := rfl
  have h1 := all_held_eq h ss
  rw [if_pos (by omega)] at h1
  have hel_eq : hel .inn n p = rwD (rows p n) := rfl
  rw [hel_eq] at h1
  have h2 := h.hi
  have key : wS (sForGo g_lines_held_0 b_lines_held_0 (rwD (rows p n)) ⟨[some (.val (.int n)), some (.val (.int p)), some (.own []), none, none, none], ss⟩) ⟨fun w => ∃ x3 x4, w = ⟨[some (.val (.int n)), some (.val (.int p)), some (.own (rwD (Ln p n))), x3, x4, none], ss⟩, fun _ _ => False, fun _ => False, fun _ => False, fun _ _ => False⟩ := by
    refine for_ix (rwD (rows p n)) (fun i w => ∃ x3 x4, w = ⟨[some (.val (.int n)), some (.val (.int p)), some (.own (rwD (((rows p n).take i).filter fun r => decide ((r.filter fun x => decide (x ≠ 0)).take 1 = [1])))), x3, x4, none], ss⟩) ⟨none, none, rfl⟩ ?_ ?_
    · rintro w ⟨x3, x4, rfl⟩
      rw [rwD, List.length_map, List.take_length, ← Ln_filter]
      exact ⟨x3, x4, rfl⟩
    · rintro i d w hd ⟨x3, x4, rfl⟩
      rw [rwD, List.getElem?_map] at hd
      obtain ⟨r, hr, rfl⟩ := Option.map_eq_some_iff.mp hd
      obtain ⟨hi, e⟩ := List.getElem?_eq_some_iff.mp hr
      have hrm : r ∈ rows p n := e ▸ List.getElem_mem hi
      have hrl := rows_mem hrm
      have hil : i < 256 := by rw [rows_len] at hi; omega
      have hlt : (rwD (((rows p n).take i).filter fun r => decide ((r.filter fun x => decide (x ≠ 0)).take 1 = [1]))).length < 1000 := by
        rw [rwD, List.length_map]
        have := List.length_filter_le (fun r : List Int => decide ((r.filter fun x => decide (x ≠ 0)).take 1 = [1])) ((rows p n).take i)
        have := List.length_take_le i (rows p n)
        omega
      have hnext : rwD (((rows p n).take (i + 1)).filter fun r => decide ((r.filter fun x => decide (x ≠ 0)).take 1 = [1])) = rwD (((rows p n).take i).filter fun r => decide ((r.filter fun x => decide (x ≠ 0)).take 1 = [1])) ++ if decide ((r.filter fun x => decide (x ≠ 0)).take 1 = [1]) = true then [dI r] else [] := by
        rw [List.take_add_one, hr, List.filter_append, rwD, List.map_append]
        congr 1
        by_cases hh : (r.filter fun x => decide (x ≠ 0)).take 1 = [1]
        · rw [if_pos (decide_eq_true hh)]
          show List.map dI (List.filter _ [r]) = _
          rw [List.filter_cons_of_pos (by rw [decide_eq_true hh])]
          rfl
        · rw [if_neg (by rw [decide_eq_false hh]; decide)]
          show List.map dI (List.filter _ [r]) = _
          rw [List.filter_cons_of_neg (by rw [decide_eq_false hh]; decide)]
          rfl
      refine ⟨⟨[some (.val (.int n)), some (.val (.int p)), some (.own (rwD (((rows p n).take i).filter fun r => decide ((r.filter fun x => decide (x ≠ 0)).take 1 = [1])))), some (.val (dI r)), x4, none], ss⟩, rfl, ?_⟩
      rw [hnext]
      generalize rwD (((rows p n).take i).filter fun r => decide ((r.filter fun x => decide (x ≠ 0)).take 1 = [1])) = told at hlt ⊢
      have q := lc_pure (vs := [5]) (set := gsName 5) (mt := mB (mBin gNe (mVar 5) (mC (.int 0)))) (me := mVar 5) nzD ⟨[some (.val (.int n)), some (.val (.int p)), some (.own told), some (.val (dI r)), x4, none], ss⟩ (r.map D.int) [] (fun d hd => by
        obtain ⟨j, _, rfl⟩ := List.mem_map.mp hd
        exact nz_step ⟨[], ss⟩ j [some (.val (.int n)), some (.val (.int p)), some (.own told), some (.val (dI r)), x4] [] ss rfl) (by simp; omega)
      rw [List.nil_append, nz_all] at q
      have tk : ((r.filter fun x => decide (x ≠ 0)).map D.int).take 1 = ((r.filter fun x => decide (x ≠ 0)).take 1).map D.int := by rw [List.map_take]
      refine lh_yes (.int n) (.int p) (r.map D.int) _ told (decide ((r.filter fun x => decide (x ≠ 0)).take 1 = [1])) hlt x3 x4 ss q ?_ ?_ _ ⟨_, _, rfl⟩
      · rw [tk]
        exact oks_of fun d hd => by
          obtain ⟨j, _, rfl⟩ := List.mem_map.mp hd
          simp
      · rw [tk]
        exact eqvs_ints _ [1]
  revert key
  cases e : sForGo g_lines_held_0 b_lines_held_0 (rwD (rows p n)) ⟨[some (.val (.int n)), some (.val (.int p)), some (.own []), none, none, none], ss⟩ with
  | nx w =>
    rintro ⟨x3, x4, rfl⟩
    exact lhx_run _ _ _ _ x3 x4 ss h1 e
  | _ => exact fun h => h.elim
/-! ### the law's own rows -/
theorem rw_in (r : List Int) (p : Nat) (acc : List (List Int)) (hr : r.length ≤ 1000) (ha : acc.length + p ≤ 1000) (n LL pl : D) (x6 : Option TD.Slot) (ss : SS) (P : Po) (hP : ∀ y6, P.N ⟨[some (.val n), some (.val (.int p)), some (.val LL), some (.val pl), some (.own (rwD (acc ++ (List.range p).map fun (k : Nat) => r ++ [(k : Int)]))), some (.val (dI r)), y6], ss⟩) :
    wS (sForGo g__law_rows_0 b__law_rows_0 (rngD 0 p) ⟨[some (.val n), some (.val (.int p)), some (.val LL), some (.val pl), some (.own (rwD acc)), some (.val (dI r)), x6], ss⟩) P := by
  refine for_rng p (fun i w => ∃ y6, w = ⟨[some (.val n), some (.val (.int p)), some (.val LL), some (.val pl), some (.own (rwD (acc ++ (List.range i).map fun (k : Nat) => r ++ [(k : Int)]))), some (.val (dI r)), y6], ss⟩) ⟨x6, by simp⟩ ?_ ?_
  · rintro w ⟨y6, rfl⟩
    exact hP y6
  · rintro i w hi ⟨y6, rfl⟩
    have hnext : rwD (acc ++ (List.range (i + 1)).map fun (k : Nat) => r ++ [(k : Int)]) = rwD (acc ++ (List.range i).map fun (k : Nat) => r ++ [(k : Int)]) ++ [dI (r ++ [(i : Int)])] := by
      rw [List.range_succ]; simp [rwD]
    have hl : (rwD (acc ++ (List.range i).map fun (k : Nat) => r ++ [(k : Int)])).length < 1000000 := by simp; omega
    have c1 : r.length + 1 ≤ 1000000 := by omega
    refine ⟨_, rfl, ?_⟩
    rw [hnext]
    generalize rwD (acc ++ (List.range i).map fun (k : Nat) => r ++ [(k : Int)]) = A at hl ⊢
    generalize (i : Int) = I
    generalize (p : Int) = pp
    simp [b__law_rows_0, hl, c1]
theorem rw_mid (p : Nat) (R : List (List Int)) (hR : R.length * p ≤ 500) (hp : p ≤ 100) (hr : ∀ r ∈ R, r.length ≤ 1000) (n pl : D) (x5 x6 : Option TD.Slot) (ss : SS) (P : Po) (hP : ∀ y5 y6, P.N ⟨[some (.val n), some (.val (.int p)), some (.val (.lst (rwD R))), some (.val pl), some (.own (rwD (R.flatMap fun r => (List.range p).map fun (k : Nat) => r ++ [(k : Int)]))), y5, y6], ss⟩) :
    wS (sForGo g__law_rows_1 b__law_rows_1 (rwD R) ⟨[some (.val n), some (.val (.int p)), some (.val (.lst (rwD R))), some (.val pl), some (.own []), x5, x6], ss⟩) P := by
  generalize hLL : D.lst (rwD R) = LL at hP ⊢
  refine for_ix (rwD R) (fun i w => ∃ y5 y6, w = ⟨[some (.val n), some (.val (.int p)), some (.val LL), some (.val pl), some (.own (rwD ((R.take i).flatMap fun r => (List.range p).map fun (k : Nat) => r ++ [(k : Int)]))), y5, y6], ss⟩) ⟨x5, x6, rfl⟩ ?_ ?_
  · rintro w ⟨y5, y6, rfl⟩
    rw [rwD, List.length_map, List.take_length]
    exact hP y5 y6
  · rintro i d w hd ⟨y5, y6, rfl⟩
    rw [rwD, List.getElem?_map] at hd
    obtain ⟨r, hr', rfl⟩ := Option.map_eq_some_iff.mp hd
    obtain ⟨hi, e⟩ := List.getElem?_eq_some_iff.mp hr'
    have hlen : ((R.take i).flatMap fun r => (List.range p).map fun (k : Nat) => r ++ [(k : Int)]).length = i * p := by
      rw [List.length_flatMap]
      have : (R.take i).map (fun r => ((List.range p).map fun (k : Nat) => r ++ [(k : Int)]).length) = (R.take i).map fun _ => p := List.map_congr_left fun _ _ => by simp
      rw [this, List.map_const', List.sum_replicate_nat, List.length_take, Nat.min_eq_left (by omega)]
    have hle : (i + 1) * p ≤ R.length * p := Nat.mul_le_mul_right _ hi
    rw [Nat.add_mul, Nat.one_mul] at hle
    have hnext : ((R.take (i + 1)).flatMap fun r => (List.range p).map fun (k : Nat) => r ++ [(k : Int)]) = ((R.take i).flatMap fun r => (List.range p).map fun (k : Nat) => r ++ [(k : Int)]) ++ (List.range p).map fun (k : Nat) => r ++ [(k : Int)] := by
      rw [List.take_add_one, hr']; simp
    refine ⟨_, rfl, ?_⟩
    have inner := rw_in r p ((R.take i).flatMap fun r => (List.range p).map fun (k : Nat) => r ++ [(k : Int)]) (hr r (e ▸ List.getElem_mem hi)) (by omega) n LL pl y6 ss
    rw [← hnext] at inner
    have hs : small (p : Int) = true := small_len (by omega)
    generalize ((R.take i).flatMap fun r => (List.range p).map fun (k : Nat) => r ++ [(k : Int)]) = acc at inner ⊢
    generalize (p : Int) = pp at inner hs ⊢
    simp [b__law_rows_1, hs]
    exact inner _ fun y6 => ⟨_, _, rfl⟩
theorem rows_run (N p : D) (hs : small M = true) (hN : N = .int M) (V : List D) (x3 x4 x5 x6 : Option TD.Slot) (T : TD.Slot) (hT : T = .own V ∨ T = .val (.lst V)) (ss : SS)
    (q : sForGo g__law_rows_2 b__law_rows_2 (rngD 0 M) ⟨[some (.val N), some (.val p), some (.own [.tup []]), none, none, none, none], ss⟩ = .nx ⟨[some (.val N), some (.val p), some T, x3, x4, x5, x6], ss⟩) : m__law_rows [N, p] ss = .ok (.lst V) ss := by
  subst hN
  rcases hT with rfl | rfl <;> simp [m__law_rows, e__law_rows, hs, q]
theorem lrows_eq (p n : Nat) (h1 : 1 ≤ p) (hp : p ≤ 100) (hn : n ≤ 1000) (hc : p ^ n ≤ 256) (ss : SS) : m__law_rows [.int n, .int p] ss = .ok (.lst (rwD (rows p n))) ss := by
  have key : wS (sForGo g__law_rows_2 b__law_rows_2 (rngD 0 n) ⟨[some (.val (.int n)), some (.val (.int p)), some (.own [.tup []]), none, none, none, none], ss⟩) ⟨fun w => ∃ T x3 x4 x5 x6, w = ⟨[some (.val (.int n)), some (.val (.int p)), some T, x3, x4, x5, x6], ss⟩ ∧ (T = .own (rwD (rows p n)) ∨ T = .val (.lst (rwD (rows p n)))), fun _ _ => False, fun _ => False, fun _ => False, fun _ _ => False⟩ := by
    refine for_rng n (fun k w => ∃ T x3 x4 x5 x6, w = ⟨[some (.val (.int n)), some (.val (.int p)), some T, x3, x4, x5, x6], ss⟩ ∧ (T = .own (rwD (rows p k)) ∨ T = .val (.lst (rwD (rows p k))))) ⟨_, _, _, _, _, rfl, .inl rfl⟩ (fun w h => h) ?_
    rintro k w hk ⟨T, x3, x4, x5, x6, rfl, hT⟩
    have hle : p ^ (k + 1) ≤ p ^ n := Nat.pow_le_pow_right h1 hk
    have inner := rw_mid p (rows p k) (by rw [rows_len, ← Nat.pow_succ]; exact Nat.le_trans hle (by omega)) hp (fun r hr => by rw [rows_mem hr]; omega) (.int n) (.int k) x5 x6 ss
    rw [← rows_succ p k h1] at inner
    refine ⟨_, rfl, ?_⟩
    generalize rwD (rows p k) = V at hT inner ⊢
    generalize rwD (rows p (k + 1)) = V' at inner ⊢
    generalize (k : Int) = K at inner ⊢
    generalize (n : Int) = N at inner ⊢
    generalize (p : Int) = pp at inner ⊢
    rcases hT with rfl | rfl
    · simp [b__law_rows_2]
      exact inner _ fun y4 y5 => by simp
    · simp [b__law_rows_2]
      exact inner _ fun y4 y5 => by simp
  revert key
  cases e : sForGo g__law_rows_2 b__law_rows_2 (rngD 0 n) ⟨[some (.val (.int n)), some (.val (.int p)), some (.own [.tup []]), none, none, none, none], ss⟩ with
  | nx w =>
    rintro ⟨T, x2, x3, x4, x5, rfl, hT⟩
    exact rows_run _ _ (small_len (by omega)) rfl _ x2 x3 x4 x5 T hT ss e
  | _ => exact fun h => h.elim
end K44

set_option Elab.async false
set_option linter.all false
set_option maxRecDepth 100000
set_option maxHeartbeats 4000000
namespace K44
open PySem PySem.Spec PyProof.Rows L2 TD TP TQ
open K31 (isCnt dI)
open K43 (Nm nmD Pz primes primes_rng cnt hel bs rows dig dig_len dig_rng rows_succ rows_len rwD badP many mulOk_l s_gr s_me s_inn ip)
theorem rng_one (p : Nat) (h : 1 ≤ p) : rngD 1 (p : Int) = (List.range (p - 1)).map fun (k : Nat) => D.int ((k + 1 : Nat) : Int) := by
  unfold rngD
  rw [show ((p : Int) - 1).toNat = p - 1 by omega]
  apply List.map_congr_left
  intro i _
  congr 1
  omega
def mulR (p k : Nat) (r : List Int) : List Int := r.map fun x => (((k + 1 : Nat) : Int) * x) % (p : Int)
theorem ml_step (n p by' : Int) (T : D) (M H : List D) (L : D) (i : Int) (h0 : 0 < p) (hm : mulOk by' i = true) (ss : SS) : lcStep [6] (gsName 6) mYes (mBin gMod (mBlt gInt (mCons (mBin gMul (mVar 7) (mVar 6)) mNil)) (mVar 1)) (.int i) ⟨[some (.val (.int n)), some (.val (.int p)), some (.val T), some (.own M), some (.val L), some (.own H), none, some (.val (.int by'))], ss⟩ = .ok (some (.int ((by' * i) % p))) ⟨[some (.val (.int n)), some (.val (.int p)), some (.val T), some (.own M), some (.val L), some (.own H), none, some (.val (.int by'))], ss⟩ := by
  simp [lcStep, h0, hm]
theorem mb_run (n p by' : D) (T : D) (M H : List D) (L V : List D) (hM : M.length < 1000000) (x7 : Option TD.Slot) (ss : SS) (P : Po)
    (q : lcGo [6] (gsName 6) mYes (mBin gMod (mBlt gInt (mCons (mBin gMul (mVar 7) (mVar 6)) mNil)) (mVar 1)) L [] ⟨[some (.val n), some (.val p), some (.val T), some (.own M), some (.val (.tup L)), some (.own H), none, some (.val by')], ss⟩ = .ok V ⟨[some (.val n), some (.val p), some (.val T), some (.own M), some (.val (.tup L)), some (.own H), none, some (.val by')], ss⟩)
    (hP : P.N ⟨[some (.val n), some (.val p), some (.val T), some (.own (M ++ [.tup V])), some (.val (.tup L)), some (.own H), none, some (.val by')], ss⟩) : wS (b__law_lines_right_0 ⟨[some (.val n), some (.val p), some (.val T), some (.own M), some (.val (.tup L)), some (.own H), none, some (.val by')], ss⟩) P := by
  simp [b__law_lines_right_0, q, hM]
  exact hP
theorem ml_in (n p : Nat) (hp : 2 ≤ p ∧ p ≤ 61) (r : List Int) (hr : r.length ≤ 1000) (acc : List (List Int)) (ha : acc.length + p ≤ 1000) (T : D) (H : List D) (x7 : Option TD.Slot) (ss : SS) (P : Po)
    (hP : ∀ y7, P.N ⟨[some (.val (.int n)), some (.val (.int p)), some (.val T), some (.own (rwD (acc ++ (List.range (p - 1)).map fun k => mulR p k r))), some (.val (dI r)), some (.own H), none, y7], ss⟩) :
    wS (sForGo g__law_lines_right_0 b__law_lines_right_0 ((List.range (p - 1)).map fun (k : Nat) => D.int ((k + 1 : Nat) : Int)) ⟨[some (.val (.int n)), some (.val (.int p)), some (.val T), some (.own (rwD acc)), some (.val (dI r)), some (.own H), none, x7], ss⟩) P := by
  refine for_ix _ (fun i w => ∃ y7, w = ⟨[some (.val (.int n)), some (.val (.int p)), some (.val T), some (.own (rwD (acc ++ (List.range i).map fun k => mulR p k r))), some (.val (dI r)), some (.own H), none, y7], ss⟩) ⟨x7, by simp⟩ ?_ ?_
  · rintro w ⟨y7, rfl⟩
    simp only [List.length_map, List.length_range]
    exact hP y7
  · rintro i d w hd ⟨y7, rfl⟩
    rw [List.getElem?_map] at hd
    obtain ⟨k, hk, rfl⟩ := Option.map_eq_some_iff.mp hd
    obtain ⟨hi, e⟩ := List.getElem?_eq_some_iff.mp hk
    have hki : k = i := by simpa using e.symm
    subst hki
    have hk2 : k < p - 1 := by simpa using hi
    have hnext : rwD (acc ++ (List.range (k + 1)).map fun k => mulR p k r) = rwD (acc ++ (List.range k).map fun k => mulR p k r) ++ [.tup ((mulR p k r).map D.int)] := by
      rw [List.range_succ]; simp [rwD, dI]
    have hl : (rwD (acc ++ (List.range k).map fun k => mulR p k r)).length < 1000000 := by simp; omega
    refine ⟨_, rfl, ?_⟩
    rw [hnext]
    generalize rwD (acc ++ (List.range k).map fun k => mulR p k r) = A at hl ⊢
    refine mb_run (.int n) (.int p) (.int ((k + 1 : Nat) : Int)) T A H (r.map D.int) _ hl y7 ss _ ?_ ⟨_, rfl⟩
    have q := lc_pure (vs := [6]) (set := gsName 6) (mt := mYes) (me := mBin gMod (mBlt gInt (mCons (mBin gMul (mVar 7) (mVar 6)) mNil)) (mVar 1)) (fun d => match d with | .int i => some (D.int ((((k + 1 : Nat) : Int) * i) % (p : Int))) | _ => none) ⟨[some (.val (.int n)), some (.val (.int p)), some (.val T), some (.own A), some (.val (.tup (r.map D.int))), some (.own H), none, some (.val (.int ((k + 1 : Nat) : Int)))], ss⟩ (r.map D.int) [] (fun d hd => by
      obtain ⟨j, _, rfl⟩ := List.mem_map.mp hd
      exact ml_step n p _ T A H _ j (by omega) (mulOk_l _ _ (by omega)) ss) (by simp; omega)
    rw [q, List.filterMap_map, List.nil_append]
    congr 1
    unfold mulR
    rw [List.map_map, ← List.filterMap_eq_map]
    rfl
theorem lr1_run (n p : Int) (T : D) (M : List D) (r H : List D) (ss : SS) (P : Po) (hs : small p = true) (h1 : m__law_numbers [.tup r, .int n, .int p] ss = .ok (.bl true) ss)
    (x5 x7 : Option TD.Slot) (q : lcGo [6] (gsName 6) (mB (mBin gNe (mVar 6) (mC (.int 0)))) (mVar 6) r [] ⟨[some (.val (.int n)), some (.val (.int p)), some (.val T), some (.own M), some (.val (.tup r)), x5, none, x7], ss⟩ = .ok (.int 1 :: H) ⟨[some (.val (.int n)), some (.val (.int p)), some (.val T), some (.own M), some (.val (.tup r)), x5, none, x7], ss⟩)
    (hl : ∀ m : Int, gLen [.lst (D.int 1 :: H)] = some (.int m) → m ≠ 0)
    (hP : wS (sForGo g__law_lines_right_0 b__law_lines_right_0 (rngD 1 p) ⟨[some (.val (.int n)), some (.val (.int p)), some (.val T), some (.own M), some (.val (.tup r)), some (.own (.int 1 :: H)), none, x7], ss⟩) P) :
    wS (b__law_lines_right_1 ⟨[some (.val (.int n)), some (.val (.int p)), some (.val T), some (.own M), some (.val (.tup r)), x5, none, x7], ss⟩) P := by
  have h0 : ¬ ((H.length : Int) + 1 = 0) := by omega
  have s1 : small 1 = true := by decide +kernel
  simp [b__law_lines_right_1, h1, q, h0, hs, s1]
  exact wS.mono hP (fun _ h => h) (fun _ _ h => h) (fun _ h => h) (fun _ h => h) fun _ _ h => h
theorem nz_step6 (a : TD.Env) (x7 : Option TD.Slot) (i : Int) (ss : SS) (he : a.length = 6) : lcStep [6] (gsName 6) (mB (mBin gNe (mVar 6) (mC (.int 0)))) (mVar 6) (.int i) ⟨a ++ [none, x7], ss⟩ = .ok (if i = 0 then none else some (.int i)) ⟨a ++ [none, x7], ss⟩ := by
  match a, he with
  | [x0, x1, x2, x3, x4, x5], _ => by_cases h : i = 0 <;> simp [lcStep, h]
theorem lines_loop (n p : Nat) (hn : n ≤ 1000) (hp : 2 ≤ p ∧ p ≤ 61) (hc : p ^ n ≤ 256) (hk : chk p n = true) (T : D) (ss : SS) (P : Po)
    (hP : ∀ y4 y5 y7, P.N ⟨[some (.val (.int n)), some (.val (.int p)), some (.val T), some (.own (rwD (Mu p n))), y4, y5, none, y7], ss⟩) :
    wS (sForGo g__law_lines_right_1 b__law_lines_right_1 (rwD (Ln p n)) ⟨[some (.val (.int n)), some (.val (.int p)), some (.val T), some (.own []), none, none, none, none], ss⟩) P := by
  have hMu := (Mu_perm p n (by omega) hk).length_eq
  rw [List.length_tail, rows_len] at hMu
  have hMuL : (Mu p n).length = (Ln p n).length * (p - 1) := by
    unfold Mu
    rw [List.length_flatMap]
    have : (Ln p n).map (fun r => ((List.range (p - 1)).map fun k => r.map fun x => (((k + 1 : Nat) : Int) * x) % (p : Int)).length) = (Ln p n).map fun _ => p - 1 := List.map_congr_left fun _ _ => by simp
    rw [this, List.map_const', List.sum_replicate_nat]
  refine for_ix (rwD (Ln p n)) (fun i w => ∃ y4 y5 y7, w = ⟨[some (.val (.int n)), some (.val (.int p)), some (.val T), some (.own (rwD (((Ln p n).take i).flatMap fun r => (List.range (p - 1)).map fun k => mulR p k r))), y4, y5, none, y7], ss⟩) ⟨none, none, none, rfl⟩ ?_ ?_
  · rintro w ⟨y4, y5, y7, rfl⟩
    rw [rwD, List.length_map, List.take_length]
    exact hP y4 y5 y7
  · rintro i d w hd ⟨y4, y5, y7, rfl⟩
    rw [rwD, List.getElem?_map] at hd
    obtain ⟨r, hr, rfl⟩ := Option.map_eq_some_iff.mp hd
    obtain ⟨hi, e⟩ := List.getElem?_eq_some_iff.mp hr
    have hrm : r ∈ Ln p n := e ▸ List.getElem_mem hi
    have hrr := Ln_rows hrm
    have hrl := rows_mem hrr
    have hlen : (((Ln p n).take i).flatMap fun r => (List.range (p - 1)).map fun k => mulR p k r).length = i * (p - 1) := by
      rw [List.length_flatMap]
      have : ((Ln p n).take i).map (fun r => ((List.range (p - 1)).map fun k => mulR p k r).length) = ((Ln p n).take i).map fun _ => p - 1 := List.map_congr_left fun _ _ => by simp
      rw [this, List.map_const', List.sum_replicate_nat, List.length_take, Nat.min_eq_left (by omega)]
    have hle : i * (p - 1) ≤ (Ln p n).length * (p - 1) := Nat.mul_le_mul_right _ (by omega)
    have hnext : (((Ln p n).take (i + 1)).flatMap fun r => (List.range (p - 1)).map fun k => mulR p k r) = (((Ln p n).take i).flatMap fun r => (List.range (p - 1)).map fun k => mulR p k r) ++ (List.range (p - 1)).map fun k => mulR p k r := by
      rw [List.take_add_one, hr]; simp
    refine ⟨_, rfl, ?_⟩
    have inner := fun H => ml_in n p hp r (by omega) (((Ln p n).take i).flatMap fun r => (List.range (p - 1)).map fun k => mulR p k r) (by omega) T H y7 ss
    rw [← hnext] at inner
    have hnum := row_num (b := p) (by omega) hn hrr ss
    generalize hA : ((Ln p n).take i).flatMap (fun r => (List.range (p - 1)).map fun k => mulR p k r) = A at inner ⊢
    have q := lc_pure (vs := [6]) (set := gsName 6) (mt := mB (mBin gNe (mVar 6) (mC (.int 0)))) (me := mVar 6) nzD ⟨[some (.val (.int n)), some (.val (.int p)), some (.val T), some (.own (rwD A)), some (.val (dI r)), y5, none, y7], ss⟩ (r.map D.int) [] (fun d hd => by
      obtain ⟨j, _, rfl⟩ := List.mem_map.mp hd
      exact nz_step6 [some (.val (.int n)), some (.val (.int p)), some (.val T), some (.own (rwD A)), some (.val (dI r)), y5] y7 j ss rfl) (by simp; omega)
    rw [List.nil_append, nz_all] at q
    have hh := Ln_head hrm
    obtain ⟨H, hH⟩ : ∃ H, (r.filter fun x => decide (x ≠ 0)) = 1 :: H := by
      cases e : (r.filter fun x => decide (x ≠ 0)) with
      | nil => rw [e] at hh; simp at hh
      | cons a l =>
        rw [e] at hh
        simp at hh
        exact ⟨l, by rw [hh]⟩
    rw [hH, List.map_cons] at q
    refine lr1_run n p T (rwD A) (r.map D.int) (H.map D.int) ss _ (small_len (by omega)) hnum y5 y7 q (fun m hm => by
      rw [gLen_lst] at hm
      injection hm with hm
      injection hm with hm
      rw [List.length_cons] at hm
      omega) ?_
    rw [rng_one p (by omega)]
    exact inner _ _ fun z7 => ⟨_, _, _, rfl⟩
theorem lx_run (n p : Int) (LL M V R : List D) (a b : Int) (y4 y5 y7 : Option TD.Slot) (ss : SS) (e1 : m_lines_held [.int n, .int p] ss = .ok (.tup LL) ss)
    (q : sForGo g__law_lines_right_1 b__law_lines_right_1 LL ⟨[some (.val (.int n)), some (.val (.int p)), some (.val (.tup LL)), some (.own []), none, none, none, none], ss⟩ = .nx ⟨[some (.val (.int n)), some (.val (.int p)), some (.val (.tup LL)), some (.own M), y4, y5, none, y7], ss⟩)
    (q2 : lcGo [4] (gsName 4) mYes (mVar 4) LL [] ⟨[some (.val (.int n)), some (.val (.int p)), some (.val (.tup LL)), some (.own M), none, y5, none, y7], ss⟩ = .ok LL ⟨[some (.val (.int n)), some (.val (.int p)), some (.val (.tup LL)), some (.own M), none, y5, none, y7], ss⟩)
    (o1 : okSort LL = true) (o2 : sortD LL = LL) (o3 : D.oks 63 LL = true) (o4 : okSort M = true) (o5 : sortD M = R) (o6 : D.oks 63 R = true) (e2 : m__law_rows [.int n, .int p] ss = .ok (.lst V) ss) (hV : V.drop 1 = R)
    (e3 : m_lines_of [.int n, .int p] ss = .ok (.int a) ss) (hl : gLen [.tup LL] = some (.int a)) (e4 : m_fewest_leaves [.str "inner", .int n, .int p] ss = .ok (.int (2 * a - 1)) ss) : m__law_lines_right [.int n, .int p] ss = .ok (.bl true) ss := by
  have s1 : D.eqvs LL LL = true := eqvs_self LL 63 o3
  have s2 : (D.lst LL).okb 64 = true := by rw [D.okb]; exact o3
  have s3 : D.eqv (.lst LL) (.lst LL) = true := by rw [D.eqv]; exact s1
  have s4 : D.eqvs R R = true := eqvs_self R 63 o6
  have s5 : (D.lst R).okb 64 = true := by rw [D.okb]; exact o6
  have s6 : D.eqv (.lst R) (.lst R) = true := by rw [D.eqv]; exact s4
  have c : V.tail = R := by rw [← hV, List.drop_one]
  have k1 : mulOk 2 a = true := mulOk_l _ _ (by decide)
  match y4 with
  | none => simp [-gLen_tup, m__law_lines_right, e__law_lines_right, e1, q, q2, o1, o2, s1, s2, s3, s4, s5, s6, o4, o5, o6, e2, c, e3, hl, e4, k1]
  | some (.val d) => simp [-gLen_tup, m__law_lines_right, e__law_lines_right, e1, q, q2, o1, o2, s1, s2, s3, s4, s5, s6, o4, o5, o6, e2, c, e3, hl, e4, k1]
  | some (.own d) => simp [-gLen_tup, m__law_lines_right, e__law_lines_right, e1, q, q2, o1, o2, s1, s2, s3, s4, s5, s6, o4, o5, o6, e2, c, e3, hl, e4, k1]
  | some (.exn d) => simp [-gLen_tup, m__law_lines_right, e__law_lines_right, e1, q, q2, o1, o2, s1, s2, s3, s4, s5, s6, o4, o5, o6, e2, c, e3, hl, e4, k1]
  | some (.dic t d) => simp [-gLen_tup, m__law_lines_right, e__law_lines_right, e1, q, q2, o1, o2, s1, s2, s3, s4, s5, s6, o4, o5, o6, e2, c, e3, hl, e4, k1]
theorem lines_right (n p : Nat) (h : Pz .inn n p) (hc : p ^ n ≤ 256) (ss : SS) : m__law_lines_right [.int n, .int p] ss = .ok (.bl true) ss := by
  have hp := primes_rng _ (h.pr rfl)
  have hp' : 2 ≤ p ∧ p ≤ 61 := by omega
  have hn : 1 ≤ n ∧ n ≤ 1000 := by have := h.lo; have := h.hi; omega
  have hk := chk_ok p n (h.pr rfl) hn.1 hc
  have key := lines_loop n p hn.2 hp' hc hk (.tup (rwD (Ln p n))) ss ⟨fun w => ∃ y4 y5 y7, w = ⟨[some (.val (.int n)), some (.val (.int p)), some (.val (.tup (rwD (Ln p n)))), some (.own (rwD (Mu p n))), y4, y5, none, y7], ss⟩, fun _ _ => False, fun _ => False, fun _ => False, fun _ _ => False⟩ fun y4 y5 y7 => ⟨y4, y5, y7, rfl⟩
  have hL : (Ln p n).length ≤ 256 := by
    have h1 := (List.length_filter_le (fun r : List Int => decide ((r.filter fun x => decide (x ≠ 0)).take 1 = [1])) (rows p n))
    rw [← Ln_filter, rows_len] at h1
    omega
  have perm := Mu_perm p n (by omega) hk
  have asc := rows_asc p (by omega) n
  have ne : ∀ r ∈ rows p n, r ≠ [] := fun r hr e => by
    have := rows_mem hr
    rw [e] at this
    simp at this
    omega
  revert key
  cases e : sForGo g__law_lines_right_1 b__law_lines_right_1 (rwD (Ln p n)) ⟨[some (.val (.int n)), some (.val (.int p)), some (.val (.tup (rwD (Ln p n)))), some (.own []), none, none, none, none], ss⟩ with
  | nx w =>
    rintro ⟨y4, y5, y7, rfl⟩
    refine lx_run n p (rwD (Ln p n)) (rwD (Mu p n)) (rwD (rows p n)) (rwD (rows p n).tail) (lin p n) 0 y4 y5 y7 ss (held_eq h hc ss) e ?_ (ok_rows fun r hr => ne r (Ln_rows hr)) (sort_rows (Ln_asc p n (by omega)) (List.Perm.refl _)) (oks_rows 62 _) (ok_rows fun r hr => ?_) ?_ (oks_rows 62 _) (lrows_eq p n (by omega) (by omega) hn.2 hc ss) ?_ (lines_eq n p hn.2 (by omega) ss) ?_ (leaves_eq h ss)
    · have q := lc_pure (vs := [4]) (set := gsName 4) (mt := mYes) (me := mVar 4) some ⟨[some (.val (.int n)), some (.val (.int p)), some (.val (.tup (rwD (Ln p n)))), some (.own (rwD (Mu p n))), none, y5, none, y7], ss⟩ (rwD (Ln p n)) [] (fun d hd => by
        generalize (n : Int) = N
        generalize (p : Int) = pp
        generalize rwD (Ln p n) = A
        generalize rwD (Mu p n) = B
        simp [lcStep]) (by simp; omega)
      rw [q, List.filterMap_some]
      rfl
    · exact ne r (List.mem_of_mem_tail (perm.mem_iff.mpr hr))
    · exact sort_rows (asc.sublist (List.tail_sublist _)) perm
    · rw [rwD, rwD, ← List.map_drop, List.drop_one]
    · rw [gLen_tup, rwD, List.length_map, Ln_len p n hp'.1 hk]
  | _ => exact fun h => h.elim
end K44

set_option Elab.async false
set_option linter.all false
set_option maxRecDepth 100000
set_option maxHeartbeats 4000000
namespace K44
open PySem PySem.Spec PyProof.Rows L2 TD TP TQ
open K31 (isCnt dI)
open K43 (Nm nmD Pz primes primes_rng cnt hel bs rows dig dig_len dig_rng rows_succ rows_len rwD badP many mulOk_l s_gr s_me s_inn ip)
/-! ### refusals -/
theorem rf_run0 (n : D) (ss : SS) (h : m_meet_weights [n] ss = .exc many ss) : m__law_refused [.int 0, n, .int 0] ss = .ok (.bl true) ss := by
  have ok : PyData.strOk ("held" : Str) = true := by decide +kernel
  simp [m__law_refused, e__law_refused, h, many, ok]
theorem rf_run1 (n md : D) (ss : SS) (h : m_lines_held [n, md] ss = .exc many ss) : m__law_refused [.int 1, n, md] ss = .ok (.bl true) ss := by
  have ok : PyData.strOk ("held" : Str) = true := by decide +kernel
  simp [m__law_refused, e__law_refused, h, many, ok]
theorem refused0 (n : Nat) (h9 : 9 ≤ n) (hn : n ≤ 1000) (ss : SS) : m__law_refused [.int 0, .int n, .int 0] ss = .ok (.bl true) ss := by
  have h : Pz .me n 0 := ⟨by omega, by omega, fun h => (by cases h), fun _ => rfl⟩
  have h1 := K43.all_held_eq h ss
  have hc : cnt .me n 0 = 2 ^ n := rfl
  have h2 : 2 ^ 9 ≤ 2 ^ n := Nat.pow_le_pow_right (by decide) h9
  rw [if_neg (by omega)] at h1
  exact rf_run0 _ ss (K43.mw_exc _ _ ss h1)
theorem refused1 (n p : Nat) (h1 : 1 ≤ n) (hn : n ≤ 1000) (hp : (p : Int) ∈ primes) (hb : 256 < p ^ n) (ss : SS) : m__law_refused [.int 1, .int n, .int p] ss = .ok (.bl true) ss := by
  have h : Pz .inn n p := ⟨by omega, by omega, fun _ => hp, fun h => absurd rfl h⟩
  have h1 := K43.all_held_eq h ss
  have hc : cnt .inn n p = p ^ n := rfl
  rw [if_neg (by omega)] at h1
  exact rf_run1 _ _ ss (K43.lhd_exc _ _ _ ss h1)
/-! ### all papers -/
theorem nat_of {i : Int} (h : 0 ≤ i) : ∃ k : Nat, i = k := Int.eq_ofNat_of_zero_le h
theorem prime_at (i : Int) (h0 : 0 ≤ i) (h : i < 18) : ∃ p : Nat, gIx (.lst (primes.map D.int)) (.int i) = some (.int p) ∧ (p : Int) ∈ primes ∧ 2 ≤ p ∧ p ≤ 61 := by
  obtain ⟨a, ha, e⟩ := atI_mem primes i h0 (by simpa [primes] using h)
  have := primes_rng a ha
  obtain ⟨p, rfl⟩ := nat_of (show 0 ≤ a by omega)
  refine ⟨p, ?_, ha, by omega, by omega⟩
  show atI (primes.map D.int) i = _
  rw [atI_map, e]; rfl
theorem while_ok (x0 x1 x2 : Option TD.Slot) (p most : Nat) (hp : 2 ≤ p ∧ p ≤ 61) (hm : 64 ≤ most) (ss : SS) (P : Po)
    (hP : ∀ (s l : Nat) (x7 : Option TD.Slot), 1 ≤ s → s ≤ 8 → p ^ s ≤ most → 1 ≤ l → l ≤ 9 → 256 < p ^ l → P.N ⟨[x0, x1, x2, some (.val (.int p)), some (.val (.int most)), some (.val (.int s)), some (.val (.int l)), x7], ss⟩) :
    wS (sWhile t__law_papers_right_0 b__law_papers_right_0 ⟨[x0, x1, x2, some (.val (.int p)), some (.val (.int most)), some (.val (.int 0)), some (.val (.int 1)), some (.val (.int p))], ss⟩) P := by
  refine while_wp (fun k w => ∃ (j s : Nat), j + k = 9 ∧ s ≤ j ∧ j ≤ 8 ∧ p ^ s ≤ most ∧ (1 ≤ j → 1 ≤ s) ∧ (p ^ (j + 1) ≤ most → s = j) ∧ p ^ j ≤ 256 ∧ w = ⟨[x0, x1, x2, some (.val (.int p)), some (.val (.int most)), some (.val (.int s)), some (.val (.int ((j + 1 : Nat) : Int))), some (.val (.int ((p ^ (j + 1) : Nat) : Int)))], ss⟩) 9 (by unfold fuel; decide) ⟨0, 0, rfl, Nat.le_refl _, by decide, by simp; omega, fun h => absurd h (by decide), fun _ => rfl, by simp, by simp⟩ ?_
  rintro k w ⟨j, s, hjk, hsj, hj8, hps, hs1, heq, hpj, rfl⟩
  have hpow : p ^ (j + 1) = p ^ j * p := Nat.pow_succ ..
  have hm1 : mulOk (((p ^ (j + 1) : Nat) : Int)) (p : Int) = true := mulOk_r _ _ (by omega)
  have hnext : (((p ^ (j + 1) : Nat) : Int)) * (p : Int) = ((p ^ (j + 1 + 1) : Nat) : Int) := by rw [Nat.pow_succ p (j + 1)]; push_cast; rfl
  by_cases hbig : p ^ (j + 1) ≤ 256
  · have hj7 : j ≤ 7 := by
      by_cases h7 : j ≤ 7
      · exact h7
      · have : 2 ^ 9 ≤ p ^ (j + 1) := Nat.le_trans (Nat.pow_le_pow_left hp.1 9) (Nat.pow_le_pow_right (by omega) (by omega))
        omega
    have c1 : (((p ^ (j + 1) : Nat) : Int)) ≤ 256 := by omega
    have hl : ((j + 1 : Nat) : Int) + 1 = ((j + 1 + 1 : Nat) : Int) := by omega
    have mono : p ^ (j + 1) ≤ p ^ (j + 1 + 1) := Nat.pow_le_pow_right (by omega) (by omega)
    by_cases hmo : p ^ (j + 1) ≤ most
    · have c2 : (((p ^ (j + 1) : Nat) : Int)) ≤ (most : Int) := by omega
      have hsj' := heq hmo
      subst hsj'
      push_cast at c1 c2 hm1 hnext
      simp [t__law_papers_right_0, b__law_papers_right_0, c1, c2, hm1]
      refine ⟨8 - s, by omega, s + 1, by omega, s + 1, by omega, by omega, hmo, fun _ => by omega, fun _ => rfl, hbig, by omega, by omega, hnext⟩
    · have c2 : ¬ (((p ^ (j + 1) : Nat) : Int)) ≤ (most : Int) := by omega
      have hj1 : 1 ≤ j := by
        by_cases h1 : 1 ≤ j
        · exact h1
        · have : j = 0 := by omega
          subst this
          simp at hmo
          omega
      push_cast at c1 c2 hm1 hnext
      simp [t__law_papers_right_0, b__law_papers_right_0, c1, c2, hm1]
      refine ⟨8 - j, by omega, j + 1, by omega, s, by omega, by omega, hps, fun _ => hs1 hj1, fun h => absurd (Nat.le_trans mono h) hmo, hbig, rfl, by omega, hnext⟩
  · have c1 : ¬ (((p ^ (j + 1) : Nat) : Int)) ≤ 256 := by omega
    have hj1 : 1 ≤ j := by
      by_cases h1 : 1 ≤ j
      · exact h1
      · have : j = 0 := by omega
        subst this
        simp at hbig
        omega
    have fin := hP s (j + 1) (some (.val (.int ((p ^ (j + 1) : Nat) : Int)))) (hs1 hj1) (by omega) hps (by omega) (by omega) (by omega)
    push_cast at c1 fin
    simp [t__law_papers_right_0, c1]
    simpa using fin
def okT : D → SS → Prop := fun d s => d = .bl true ∧ SsOk s
theorem papers_right {ss : SS} (hs : SsOk ss) : wF (m__law_papers_right [.src] ss) okT nXs := by
  have A : ∀ (i : Int) (ss : SS), 0 ≤ i → i < 24 → m__law_lots_right [.int (1 + i), .bl true] ss = .ok (.bl true) ss := fun i ss h0 h1 => by
    obtain ⟨k, rfl⟩ := nat_of h0
    have := lots_right (k + 1) (by omega) (by omega) true (fun _ => by omega) ss
    rwa [show ((k + 1 : Nat) : Int) = 1 + (k : Int) by omega] at this
  have C : ∀ (i : Int) (ss : SS), 1 ≤ i → i ≤ 8 → m__law_weights_right [.int i] ss = .ok (.bl true) ss := fun i ss h0 h1 => by
    obtain ⟨k, rfl⟩ := nat_of (show 0 ≤ i by omega)
    exact weights_right k (by omega) (by omega) ss
  have F : ∀ (i : Int) (ss : SS), 0 ≤ i → i < 992 → m__law_refused [.int 0, .int (9 + i), .int 0] ss = .ok (.bl true) ss := fun i ss h0 h1 => by
    obtain ⟨k, rfl⟩ := nat_of (show 0 ≤ i by omega)
    have := refused0 (k + 9) (by omega) (by omega) ss
    rwa [show ((k + 9 : Nat) : Int) = 9 + (k : Int) by omega] at this
  have lenP : ((primes.map D.int).length : Int) = 18 := rfl
  have L : ∀ (p s : Nat) (r : Int) (ss : SS), (p : Int) ∈ primes → p ^ s ≤ 256 → s ≤ 8 → 0 ≤ r → r < s → m__law_lines_right [.int (1 + r), .int p] ss = .ok (.bl true) ss := fun p s r ss hp hps s8 r0 rs => by
    obtain ⟨k, rfl⟩ := nat_of r0
    have h : Pz .inn ((k + 1 : Nat) : Int) p := ⟨by omega, by omega, fun _ => hp, fun h => absurd rfl h⟩
    have hp2 := primes_rng _ hp
    have := lines_right (k + 1) p h (Nat.le_trans (Nat.pow_le_pow_right (by omega) (by omega : k + 1 ≤ s)) (by omega)) ss
    rwa [show ((k + 1 : Nat) : Int) = 1 + (k : Int) by omega] at this
  have R : ∀ (p l : Nat) (r : Int) (ss : SS), (p : Int) ∈ primes → 1 ≤ l → 256 < p ^ l → 0 ≤ r → r < 1001 - (l : Int) → m__law_refused [.int 1, .int ((l : Int) + r), .int p] ss = .ok (.bl true) ss := fun p l r ss hp l1 hbig r0 rs => by
    obtain ⟨k, rfl⟩ := nat_of r0
    have hp2 := primes_rng _ hp
    have := refused1 (l + k) p (by omega) (by omega) hp (Nat.lt_of_lt_of_le hbig (Nat.pow_le_pow_right (by omega) (by omega))) ss
    rwa [show ((l + k : Nat) : Int) = (l : Int) + (k : Int) by omega] at this
  have tail : ∀ (most : Nat) (x1 : D) (p : Nat) (hp : (p : Int) ∈ primes) (h2 : 2 ≤ p ∧ p ≤ 61) (ss : SS) (hs : SsOk ss), 64 ≤ most → most ≤ 256 → ∀ (P : Po) (e : W → RS), (P.T = fun d w => okT d w.ss) → (e = sCons (sIf (mNotT (mTru (mCall 2 m__law_lines_right (mCons (mBin gAdd (mC (.int 1)) (mCall 2 m__law_pick (mCons (mVar 0) (mCons (mVar 5) (mNil))))) (mCons (mVar 3) (mNil)))))) (
    sCons (sRet (mC (.bl false))) (sNil)) (sNil)) (
  sCons (sRet (mCall 3 m__law_refused (mCons (mC (.int 1)) (mCons (mBin gAdd (mVar 6) (mCall 2 m__law_pick (mCons (mVar 0) (mCons (mBin TD.gSub (mC (.int 1001)) (mVar 6)) (mNil))))) (mCons (mVar 3) (mNil)))))) (sNil))) → wS (sWhile t__law_papers_right_0 b__law_papers_right_0 ⟨[some (.val .src), some (.val x1), some (.val (.lst (primes.map D.int))), some (.val (.int p)), some (.val (.int most)), some (.val (.int 0)), some (.val (.int 1)), some (.val (.int p))], ss⟩) { P with N := fun w => wS (e w) P } := by
    intro most x1 p hp h2 ss hs m64 m256 P e hT he
    subst he
    refine while_ok _ _ _ p most h2 m64 ss _ fun s l x7 s1 s8 hps l1 l9 hbig => ?_
    have hps' : p ^ s ≤ 256 := by omega
    simp [pick_eq]
    refine pick_wp hs (by omega) (by omega) fun r ss1 r0 r1 hs1 => ?_
    simp [L p s r ss1 hp hps' s8 r0 r1, pick_eq]
    refine pick_wp hs1 (by omega) (by omega) fun r2 ss2 r20 r21 hs2 => ?_
    simp [R p l r2 ss2 hp l1 hbig r20 r21, hT]
    exact ⟨rfl, hs2⟩
  simp [m__law_papers_right, e__law_papers_right, pick_eq]
  refine pick_wp hs (by decide) (by decide) fun i ss1 i0 i1 hs1 => ?_
  simp [A i ss1 i0 i1]
  refine any_size hs1 fun n ss2 n1 n2 hs2 => ?_
  simp [lots_right n n1 n2 false (fun h => by cases h), pick_eq]
  refine pick_wp hs2 (by decide) (by decide) fun j ss3 j0 j1 hs3 => ?_
  have rest : ∀ (sz : Int) (ss : SS), SsOk ss → 1 ≤ sz → sz ≤ 8 → wS ((sCons (sIf (mOrT (mNotT (mTru (mCall 1 m__law_weights_right (mCons (mVar 1) (mNil))))) (mNotT (mTru (mCall 3 m__law_refused (mCons (mC (.int 0)) (mCons (mBin gAdd (mC (.int 9)) (mCall 2 m__law_pick (mCons (mVar 0) (mCons (mC (.int 992)) (mNil))))) (mCons (mC (.int 0)) (mNil)))))))) (
    sCons (sRet (mC (.bl false))) (sNil)) (sNil)) (
  sCons (sSet 2 (mCall0 m__law_primes)) (
  sCons (sSet 3 (mIfE (mB (mBin gEq (mCall 2 m__law_pick (mCons (mVar 0) (mCons (mC (.int 3)) (mNil)))) (mC (.int 0)))) (mBin gIx (mVar 2) (mCall 2 m__law_pick (mCons (mVar 0) (mCons (mBlt gLen (mCons (mVar 2) (mNil))) (mNil))))) (mBin gIx (mVar 2) (mCall 2 m__law_pick (mCons (mVar 0) (mCons (mC (.int 4)) (mNil))))))) (
  sCons (sSet 4 (mIfE (mB (mBin gEq (mCall 2 m__law_pick (mCons (mVar 0) (mCons (mC (.int 12)) (mNil)))) (mC (.int 0)))) (mC (.int 256)) (mC (.int 64)))) (
  sCons (sAsg (gsTup 2 (gsCons (gsName 5) (gsCons (gsName 6) (gsNil)))) (mTup (mCons (mC (.int 0)) (mCons (mC (.int 1)) (mNil))))) (
  sCons (sSet 7 (mVar 3)) (
  sCons (sWhile (t__law_papers_right_0) (b__law_papers_right_0)) (
  sCons (sIf (mNotT (mTru (mCall 2 m__law_lines_right (mCons (mBin gAdd (mC (.int 1)) (mCall 2 m__law_pick (mCons (mVar 0) (mCons (mVar 5) (mNil))))) (mCons (mVar 3) (mNil)))))) (
    sCons (sRet (mC (.bl false))) (sNil)) (sNil)) (
  sCons (sRet (mCall 3 m__law_refused (mCons (mC (.int 1)) (mCons (mBin gAdd (mVar 6) (mCall 2 m__law_pick (mCons (mVar 0) (mCons (mBin TD.gSub (mC (.int 1001)) (mVar 6)) (mNil))))) (mCons (mVar 3) (mNil)))))) (sNil)))))))))) ⟨[some (.val .src), some (.val (.int sz)), none, none, none, none, none, none], ss⟩) ⟨fun w => okT .non w.ss, fun d w => okT d w.ss, fun _ => False, fun _ => False, fun c w => nXs c w.ss⟩ := by
    intro sz ss hs z1 z8
    simp [C sz ss z1 z8, pick_eq]
    refine pick_wp hs (by decide) (by decide) fun i ss1 i0 i1 hs1 => ?_
    simp [F i ss1 i0 i1, primes_eq, pick_eq]
    refine pick_wp hs1 (by decide) (by decide) fun t ss2 t0 t1 hs2 => ?_
    by_cases ht : t = 0
    · subst ht
      simp [pick_eq, lenP]
      refine pick_wp hs2 (by decide) (by decide) fun q ss3 q0 q1 hs3 => ?_
      obtain ⟨p, e, hp, h2⟩ := prime_at q q0 q1
      rw [gIx_lst] at e
      simp [e, pick_eq]
      refine pick_wp hs3 (by decide) (by decide) fun u ss4 u0 u1 hs4 => ?_
      by_cases hu : u = 0
      · simp [hu]
        have := tail 256 (.int sz) p hp h2 ss4 hs4 (by decide) (by decide) ⟨fun w => okT .non w.ss, fun d w => okT d w.ss, fun _ => False, fun _ => False, fun c w => nXs c w.ss⟩ _ rfl rfl
        simpa [pick_eq] using this
      · simp [hu]
        have := tail 64 (.int sz) p hp h2 ss4 hs4 (by decide) (by decide) ⟨fun w => okT .non w.ss, fun d w => okT d w.ss, fun _ => False, fun _ => False, fun c w => nXs c w.ss⟩ _ rfl rfl
        simpa [pick_eq] using this
    · simp [ht, pick_eq]
      refine pick_wp hs2 (by decide) (by decide) fun q ss3 q0 q1 hs3 => ?_
      obtain ⟨p, e, hp, h2⟩ := prime_at q q0 (by omega)
      rw [gIx_lst] at e
      simp [e, pick_eq]
      refine pick_wp hs3 (by decide) (by decide) fun u ss4 u0 u1 hs4 => ?_
      by_cases hu : u = 0
      · simp [hu]
        have := tail 256 (.int sz) p hp h2 ss4 hs4 (by decide) (by decide) ⟨fun w => okT .non w.ss, fun d w => okT d w.ss, fun _ => False, fun _ => False, fun c w => nXs c w.ss⟩ _ rfl rfl
        simpa [pick_eq] using this
      · simp [hu]
        have := tail 64 (.int sz) p hp h2 ss4 hs4 (by decide) (by decide) ⟨fun w => okT .non w.ss, fun d w => okT d w.ss, fun _ => False, fun _ => False, fun c w => nXs c w.ss⟩ _ rfl rfl
        simpa [pick_eq] using this
  by_cases hj : j = 0
  · simp [hj, pick_eq]
    refine pick_wp hs3 (by decide) (by decide) fun k ss4 k0 k1 hs4 => ?_
    have := rest (5 + k) ss4 hs4 (by omega) (by omega)
    simpa [pick_eq] using this
  · simp [hj, pick_eq]
    refine pick_wp hs3 (by decide) (by decide) fun k ss4 k0 k1 hs4 => ?_
    have := rest (1 + k) ss4 hs4 (by omega) (by omega)
    simpa [pick_eq] using this
theorem name_turn (x : Nm) (x3 x4 x5 : Option TD.Slot) (ss : SS) (hs : SsOk ss) (d : D) (P : Po) (hP : ∀ y4 y5 ss', SsOk ss' → P.N ⟨[none, some (.val .src), some (.val (.lst (primes.map D.int))), some (.val (nmD x)), y4, y5], ss'⟩) :
    wS (b_law_0 ⟨[none, some (.val .src), some (.val (.lst (primes.map D.int))), some (.val (nmD x)), some (.val d), x5], ss⟩) P := by
  have lenP : ((primes.map D.int).length : Int) = 18 := rfl
  cases x with
  | gr =>
    have lv := fun n (ss : SS) (h1 : 1 ≤ n) (h2 : n ≤ 1000) => leaves_right (x := .gr) (n := n) (md := 0) ⟨by omega, by omega, fun h => (by cases h), fun _ => rfl⟩ ss
    simp only [nmD, s_gr] at lv hP ⊢
    simp [b_law_0]
    refine any_size hs fun n ss1 n1 n2 hs1 => ?_
    simp [lv n ss1 n1 n2]
    exact hP _ _ _ hs1
  | me =>
    have lv := fun n (ss : SS) (h1 : 1 ≤ n) (h2 : n ≤ 1000) => leaves_right (x := .me) (n := n) (md := 0) ⟨by omega, by omega, fun h => (by cases h), fun _ => rfl⟩ ss
    simp only [nmD, s_me] at lv hP ⊢
    simp [b_law_0]
    refine any_size hs fun n ss1 n1 n2 hs1 => ?_
    simp [lv n ss1 n1 n2]
    exact hP _ _ _ hs1
  | inn =>
    have lv := fun (p : Nat) n (ss : SS) (hp : (p : Int) ∈ primes) (h1 : 1 ≤ n) (h2 : n ≤ 1000) => leaves_right (x := .inn) (n := n) (md := p) ⟨by omega, by omega, fun _ => hp, fun h => absurd rfl h⟩ ss
    simp only [nmD, s_inn] at lv hP ⊢
    simp [b_law_0, lenP, pick_eq]
    refine pick_wp hs (by decide) (by decide) fun q ss0 q0 q1 hs0 => ?_
    obtain ⟨p, e, hp, h2⟩ := prime_at q q0 q1
    rw [gIx_lst] at e
    simp [e]
    refine any_size hs0 fun n ss1 n1 n2 hs1 => ?_
    simp [lv p n ss1 hp n1 n2]
    exact hP _ _ _ hs1
theorem law_true : LawTrue := by
  intro cells ne nn
  have hs0 : SsOk ⟨cells, 0, 0⟩ := ⟨ne, nn, Int.le_refl _, Int.le_refl _⟩
  have key : wS (e_law ⟨envL, ⟨cells, 0, 0⟩⟩) ⟨fun _ => False, fun d _ => d = .bl true, fun _ => False, fun _ => False, fun _ _ => False⟩ := by
    generalize (⟨cells, 0, 0⟩ : SS) = ss at hs0
    simp [e_law, envL, primes_eq]
    refine for_wp (fun rest w => (∀ d ∈ rest, ∃ x : Nm, d = nmD x) ∧ ∃ y3 y4 y5 ss, w = ⟨[none, some (.val .src), some (.val (.lst (primes.map D.int))), y3, y4, y5], ss⟩ ∧ SsOk ss) ⟨?_, _, _, _, _, rfl, hs0⟩ ?_ ?_
    · intro d hd
      simp only [List.mem_cons, List.not_mem_nil, or_false] at hd
      rcases hd with rfl | rfl | rfl
      · exact ⟨.gr, rfl⟩
      · exact ⟨.me, rfl⟩
      · exact ⟨.inn, rfl⟩
    · rintro w ⟨_, y3, y4, y5, ss, rfl, hs⟩
      simp
      exact wF.mono (papers_right hs) (fun d s h => h.1) fun _ _ h => h
    · rintro d rest w ⟨hd, y3, y4, y5, ss, rfl, hs⟩
      obtain ⟨x, rfl⟩ := hd d (List.mem_cons_self ..)
      refine ⟨_, rfl, ?_⟩
      have r2 : rngD 0 2 = [.int 0, .int 1] := rfl
      have s2 : small 2 = true := by decide +kernel
      have go : wS (sForGo g_law_0 b_law_0 [.int 0, .int 1] ⟨[none, some (.val .src), some (.val (.lst (primes.map D.int))), some (.val (nmD x)), y4, y5], ss⟩) ⟨fun w => (∀ d ∈ rest, ∃ x : Nm, d = nmD x) ∧ ∃ y3 y4 y5 ss, w = ⟨[none, some (.val .src), some (.val (.lst (primes.map D.int))), y3, y4, y5], ss⟩ ∧ SsOk ss, fun d _ => d = .bl true, fun _ => False, fun _ => False, fun _ _ => False⟩ := by
        refine for_wp (fun _ w => ∃ y4 y5 ss, w = ⟨[none, some (.val .src), some (.val (.lst (primes.map D.int))), some (.val (nmD x)), y4, y5], ss⟩ ∧ SsOk ss) ⟨_, _, _, rfl, hs⟩ ?_ ?_
        · rintro w ⟨y4, y5, ss, rfl, hs⟩
          exact ⟨fun e he => hd e (List.mem_cons_of_mem _ he), _, _, _, _, rfl, hs⟩
        · rintro e r w ⟨y4, y5, ss, rfl, hs⟩
          refine ⟨_, rfl, ?_⟩
          exact name_turn x y4 y4 y5 ss hs e _ fun z4 z5 ss' hs' => ⟨_, _, _, rfl, hs'⟩
      show wS (b_law_1 ⟨[none, some (.val .src), some (.val (.lst (primes.map D.int))), some (.val (nmD x)), y4, y5], ss⟩) _
      generalize nmD x = NX at go ⊢
      unfold b_law_1
      rw [sCons_ap, sFor_ap, mRng1_ap, mCons_ap, mC_ap, R.bind_ok, mNil_ap, R.bind_ok, R.bind_ok]
      simp only [s2, if_true, R.lift_some, R.toS_ok, r2]
      rw [wS_bind]
      exact wS.mono go (fun w h => h) (fun _ _ h => h) (fun _ h => h.elim) (fun _ h => h.elim) fun _ _ h => h
  revert key
  cases e_law ⟨envL, ⟨cells, 0, 0⟩⟩ with
  | ret d w => intro h; exact ⟨w, by rw [show d = .bl true from h]⟩
  | _ => exact fun h => h.elim
end K44


set_option Elab.async false
set_option linter.all false
set_option maxRecDepth 100000
set_option maxHeartbeats 4000000
namespace K44
open PySem PySem.Spec PyProof.Rows L2 TD
set_option maxHeartbeats 0
section
variable {P : Program} {w : World} {K : PySem.W.Frag} {mg : Str → Option Value} {base : Heap}
def spSource (K : PySem.W.Frag) : Sp := fun vs H Q _ => ∃ (a : Addr) (ns : List Int), vs = [.ref a] ∧ SqL K H a (ns.map V.int) ∧ ns.length ≤ 63 ∧
  ∀ H' a0 c0 cells, Ex H H' → H' a0 = some (.lst [.ref c0, .int 0, .int 0]) → H' c0 = some (.lst (cells.map V.int)) → a0 ≠ c0 → cells ≠ [] → (∀ c ∈ cells, (0 : Int) ≤ c) → Q (.ref a0) H'
def absI (i : Int) : Int := if i < 0 then -i else i
theorem ok_source {f : Addr} {fd : FuncData} (F : FunD K "_law_source" "_law_source" (defArgs s__law_source) (defBody s__law_source) (defScope s__law_source) [] [] f fd) (mabs : mg "abs" = none) (mint : mg "int" = none) (mlen : mg "len" = none) :
    FnOk P w K mg base (L2.CX P w) 1 f fd ["script"] (spSource K) := by
  have nd := sc__law_source.nd
  refine F.ok sc__law_source (fun vs H Q E h => ?_) (fun cdv A outer s H vs Q E hr h => ?_)
  · obtain ⟨a, ns, rfl, _⟩ := h
    rfl
  obtain ⟨a, ns, rfl, hS, hlen, q⟩ := h
  refine ⟨_, pss_cons (ps_setLc (i := 1) (own := [("cell", 2)]) (g := gName 2) (tt := tYes) rfl nd rfl rfl (sw_true rfl rfl rfl (by decide +kernel)) (pi_list (pe_slice sl_list (pv 0) po_none (po_some pe_int))) (blkOk_by (by kernel_rfl)) (fun _ _ _ _ _ => pg_name (i := 2) nd rfl (Or.inl rfl)) (fun _ _ _ _ _ => pts_nil)
      (fun _ _ _ _ _ => pe_callB call_abs (by rfl) mabs (by decide +kernel) (pa_cons (pe_callTy call_int1 (by rfl) mint (by decide +kernel) (pa_cons (pv 2) pa_nil)) pa_nil)))
    (pss_cons (ps_if (pt_cmpR op_eq (pe_callB call_len_seq (by rfl) mlen PySem.boot_len (pa_cons (pv 1) pa_nil)) pe_int (nomark _)) (pss_one (ps_set (i := 1) nd rfl (.inl rfl) (pe_lst (pa_cons pe_int pa_nil)))) pss_nil)
      (pss_one (ps_ret (pe_lst (pa_cons (pv 1) (pa_cons pe_int (pa_cons pe_int pa_nil))))))), ?_⟩
  -- script[:63]
  refine ⟨.ref a, rfl, 63, rfl, a, ns.map V.int, rfl, hS, fun p hp => ?_⟩
  have hcut : cutV (ns.map V.int) none (some 63) = ns.map V.int := by
    unfold cutV
    rw [show HT.sIx (ns.map V.int).length (ns.map V.int).length (some 63) = min 63 (ns.map V.int).length from HT.sIx_nat _ _ 63, HT.sIx_none, List.length_map, List.drop_zero, Nat.sub_zero]
    exact List.take_of_length_le (by rw [List.length_map]; omega)
  rw [hcut]
  have ex1 : Ex H (upd H p (.lst (ns.map V.int))) := Ex.new hp
  have hP : SqL K (upd H p (.lst (ns.map V.int))) p (ns.map V.int) := .inl (.inl upd_same)
  refine ⟨p, rfl, ⟨_, hP⟩, fun Dl hD => ?_⟩
  have tail : ∀ (c0 : Addr) (cells : List Int) (H' : Hp), Ex H H' → H' c0 = some (.lst (cells.map V.int)) → (∀ c ∈ cells, (0 : Int) ≤ c) → cells ≠ [] →
      ∀ σ : L2.St, σ[1]? = some (some (.ref c0)) → tRet (tLst (tCons (tVar 1) (tCons (tC (.int 0)) (tCons (tC (.int 0)) tNil)))) { nx := fun _ H' => Q .non H', rt := Q } σ H' := by
    intro c0 cells H' e h nn ne σ hσ
    refine ⟨.ref c0, hσ, by show 3 ≤ sizeLine; rw [sizeLine_eq]; decide, fun a0 ha => ?_⟩
    have ne2 : c0 ≠ a0 := ne_of_none h ha
    exact q _ a0 c0 cells (e.trans (Ex.new ha)) upd_same (by rw [upd_ne ne2]; exact h) ne2.symm ne nn
  refine lc_list (K := K) (xs := ns.map V.int) (a := p) (fun i H' => Ex (upd H p (.lst (ns.map V.int))) H' ∧ H' Dl = some (.lst (((ns.take i).map absI).map V.int))) ⟨Ex.new hD, upd_same⟩ (fun i H' _ h => .inl (.inl (h.1 _ _ upd_same))) (fun i x H' hx h => ?_) (fun H' h => ?_)
  · obtain ⟨h1, h2⟩ := h
    have hi : i < ns.length := by
      have := (List.getElem?_eq_some_iff.mp hx).1
      simpa using this
    have ex : x = .int ns[i] := by
      rw [List.getElem?_map, List.getElem?_eq_getElem hi] at hx
      exact (Option.some.inj hx).symm
    subst ex
    refine ⟨rfl, .int ns[i], rfl, .inl ⟨_, rfl, _, rfl, _, h2, ?_, ?_, ?_⟩⟩
    · rw [List.length_map, List.length_map, List.length_take]
      exact line_lt (by omega)
    · intro b o e
      have : b ≠ Dl := fun z => by subst z; rw [hD] at e; cases e
      rw [upd_ne this]
      exact h1 b o e
    · rw [upd_same, show ns.take (i + 1) = ns.take i ++ [ns[i]] by rw [List.take_add_one, List.getElem?_eq_getElem hi]; rfl, List.map_append, List.map_append]
      rfl
  · obtain ⟨h1, h2⟩ := h
    have hl : (ns.map V.int).length = ns.length := List.length_map ..
    rw [hl, List.take_length] at h2
    have nn : ∀ c ∈ ns.map absI, (0 : Int) ≤ c := fun c hc => by
      obtain ⟨z, _, rfl⟩ := List.mem_map.mp hc
      unfold absI
      split <;> omega
    refine ⟨.ref Dl, rfl, Dl, _, rfl, .inl (.inl (.inl h2)), rfl, _, rfl, ite2 (fun e => ?_) (fun e => ?_)⟩
    · refine ⟨by show 1 ≤ sizeLine; rw [sizeLine_eq]; decide, fun c hc => ?_⟩
      exact tail c [0] _ ((ex1.trans h1).trans (Ex.new hc)) upd_same (fun z hz => by simp at hz; omega) (by simp) _ rfl
    · refine tail Dl _ H' (ex1.trans h1) h2 nn (fun z => e ?_) _ rfl
      have z' : ns = [] := List.map_eq_nil_iff.mp z
      subst z'
      rfl

end
/-! ### the law -/
section
variable {P : Program} {w : World} {K : PySem.W.Frag} {mg : Str → Option Value} {base : Heap}
def spLaw (K : PySem.W.Frag) : Sp := fun vs H Q _ => ∃ (a : Addr) (ns : List Int), vs = [.ref a] ∧ SqL K H a (ns.map V.int) ∧ ns.length ≤ 63 ∧ ∀ H', Q (.bl true) H'
theorem ok_law (T : Txt P K mg) (hl : LawTrue) {f : Addr} {fd : FuncData} (F : FunD K "law" "law" (defArgs s_law) (defBody s_law) (defScope s_law) [] [] f fd) : FnOk P w K mg base (L2.CX P w) 8 f fd ["script"] (spLaw K) := by
  obtain ⟨fS, fdS, FS, gS⟩ := T.f__law_source
  have GS : FnOk P w K mg base (L2.CX P w) 1 fS fdS ["script"] (spSource K) := ok_source FS T.b_abs T.b_int T.b_len
  have bS : Binds K fdS ["script"] [] := FS.bindsN fun _ _ _ _ _ _ us hl => match us, hl with | [_], _ => rfl
  have nd := sc_law.nd
  refine F.ok sc_law (fun vs H Q E h => ?_) (fun cdv A outer s H vs Q E hr h => ?_)
  · obtain ⟨a, ns, rfl, _⟩ := h
    rfl
  obtain ⟨a, ns, rfl, hS, hlen, q⟩ := h
  refine ⟨_, pss_cons (ps_set (i := 1) nd rfl (by first | exact Or.inl rfl | exact Or.inr rfl) (pe_call GS (hr.mono (by decide)) (by rfl) gS FS.kp bS .nil passL (pa_cons (pv 0) pa_nil))) pss_wss, ?_⟩
  refine ⟨.ref a, rfl, a, ns, rfl, hS, hlen, fun H1 a0 c0 cells ex h1 h2 ne nn ng => ?_⟩
  have hF : Ex (upd (fun _ => none) c0 (.lst (cells.map V.int))) H1 := fun b o e => by
    by_cases hb : b = c0
    · subst hb; rw [upd_same] at e; cases e; exact h2
    · rw [upd_ne hb] at e; cases e
  have hR : Rel K ⟨a0, c0, H1, upd (fun _ => none) c0 (.lst (cells.map V.int)), 0, 0, "", 0⟩ [] (some (.ref a) :: some (.ref a0) :: List.replicate 4 none) H1 (upd (fun _ => none) c0 (.lst (cells.map V.int))) ⟨envL, ⟨cells, 0, 0⟩⟩ := by
    refine ⟨Ex.refl _, hF, fun _ _ _ h => h, fun _ _ h => .inl h, ⟨by show upd _ c0 _ a0 = none; rw [upd_ne ne], h1, upd_same, nn, ng, Int.le_refl _, Int.le_refl _⟩, by simp [envL], fun i s h => ?_, fun i j xs ys p h => ?_, fun i j t u xs ys p h => ?_, (fun q hq => nomatch hq), List.nodup_nil, (fun q hq => nomatch hq)⟩
    · match i, h with
      | 0, h => cases h
      | 1, h => cases h; exact ⟨_, rfl, .src⟩
      | i + 2, h =>
        have := List.mem_of_getElem? (show (List.replicate 4 (none : Option Slot))[i]? = some (some s) from h)
        rw [List.mem_replicate] at this
        cases this.2
    · match i, h with
      | 0, h => cases h
      | 1, h => cases h
      | i + 2, h =>
        have := List.mem_of_getElem? (show (List.replicate 4 (none : Option Slot))[i]? = some (some (.own xs)) from h)
        rw [List.mem_replicate] at this
        cases this.2
    · match i, h with
      | 0, h => cases h
      | 1, h => cases h
      | i + 2, h =>
        have := List.mem_of_getElem? (show (List.replicate 4 (none : Option Slot))[i]? = some (some (.dic t xs)) from h)
        rw [List.mem_replicate] at this
        cases this.2
  obtain ⟨w', hw⟩ := hl cells nn ng
  refine (w_law (f := f) (cdv := cdv) (E := E) T hr).run [] _ H1 _ _ _ hR ?_
  rw [hw]
  intro v σ' H' F' _ _ rv
  cases rv
  exact q H'
end
/-! ### the head -/
theorem cx_none {P : Program} {w : World} {H : Hp} {s : Shared} {e : Value} {s' : Shared} (h : L2.CX P w [] H s (fun _ _ _ => False) e s') : False := by
  obtain ⟨_, _, _, _, _, _, _, _, _, _, _, _, z⟩ := h
  exact z
/-- HeadEnd's, what may be let out hanging on the world -/
theorem walk_ofW {l : PySem.W.OpenLaw} {n k : Nat} {q : Program} {loose : List Str} {XP : (Str → Option Value) → Heap → Prop} {YP : World → Heap → Prop} {d : DefRec} {CX : World → CXT} {x : Str}
    (hn : l.most = some n) (hn2 : n ≤ sizeLine) (hdf : d.params.defaults = []) (hr : Room k callerA)
    (F : ∀ (w : World) (mg : Str → Option Value) (fa : Addr) (h : Heap), YP w h → h.Ns mainGlobals mg → mg d.name = some (.ref fa) →
      ∃ (K : PySem.W.Frag) (fd : FuncData) (sp : Sp), K.In h ∧ (∀ (s : Shared) (u : Value), BindsTo s fd ⟨[u], []⟩ [(x, u)]) ∧
        (∀ (H : Hp) (a : Addr) (ns : List Int), ns.length ≤ n → Only H → SqL K H a (ns.map V.int) → sp [.ref a] H (fun v _ => v = .bl true) fun _ _ _ => False) ∧
        ∀ base : Heap, K.In base → base.Ns mainGlobals mg → FnOk l.prog w K mg base (CX w) k fa fd [x] sp)
    (hCX : ∀ (w : World) (H : Hp) (s : Shared) (e : Value) (s' : Shared), CX w [] H s (fun _ _ _ => False) e s' → False) :
    PySem.W.WalkO q loose XP YP l.row.toRowW d [] (fun f vs => PySem.call f vs) := by
  refine Att.attach_call hn hdf fun w s₀ s₁ mg mb fa o pm cd doc a vs ns G Y ho hd hcd hmg hobj hints hlen hg => ?_
  obtain ⟨K, fd, sp, KX, hb, hsp, hF⟩ := F w mg fa _ Y G.T.g hmg
  exact law_call KX G.T.g G.T.b G.T.builtins G.T.nolimit hg hobj hints (Nat.le_trans hlen hn2) hr hF hb (fun H hO hS => hsp H a ns hlen hO hS) fun H e s' => hCX w H s₁ e s'
abbrev R0 : PySem.W.OpenRow := PySem.W.OpenLaw.row PySem.Challenge.rw_talkgrowth_k44_what_bars
def d_is_count : He.DefD := ⟨("is_count", none), "is_count", "is_count", defArgs s_is_count, defBody s_is_count, defScope s_is_count, [], []⟩
def d_width_of : He.DefD := ⟨("width_of", none), "width_of", "width_of", defArgs s_width_of, defBody s_width_of, defScope s_width_of, [], []⟩
def d_log_up : He.DefD := ⟨("log_up", none), "log_up", "log_up", defArgs s_log_up, defBody s_log_up, defScope s_log_up, [], []⟩
def d_must_be_puzzle : He.DefD := ⟨("must_be_puzzle", none), "must_be_puzzle", "must_be_puzzle", defArgs s_must_be_puzzle, defBody s_must_be_puzzle, defScope s_must_be_puzzle, [], []⟩
def d_is_prime : He.DefD := ⟨("is_prime", none), "is_prime", "is_prime", defArgs s_is_prime, defBody s_is_prime, defScope s_is_prime, [], []⟩
def d_value_of : He.DefD := ⟨("value_of", none), "value_of", "value_of", defArgs s_value_of, defBody s_value_of, defScope s_value_of, [], []⟩
def d_all_held : He.DefD := ⟨("all_held", none), "all_held", "all_held", defArgs s_all_held, defBody s_all_held, defScope s_all_held, [], []⟩
def d_fewest_leaves : He.DefD := ⟨("fewest_leaves", none), "fewest_leaves", "fewest_leaves", defArgs s_fewest_leaves, defBody s_fewest_leaves, defScope s_fewest_leaves, [], []⟩
def d_lines_of : He.DefD := ⟨("lines_of", none), "lines_of", "lines_of", defArgs s_lines_of, defBody s_lines_of, defScope s_lines_of, [], []⟩
def d_fewest_bits : He.DefD := ⟨("fewest_bits", none), "fewest_bits", "fewest_bits", defArgs s_fewest_bits, defBody s_fewest_bits, defScope s_fewest_bits, [], []⟩
def d_greater_lots : He.DefD := ⟨("greater_lots", none), "greater_lots", "greater_lots", defArgs s_greater_lots, defBody s_greater_lots, defScope s_greater_lots, [], []⟩
def d_meet_weights : He.DefD := ⟨("meet_weights", none), "meet_weights", "meet_weights", defArgs s_meet_weights, defBody s_meet_weights, defScope s_meet_weights, [], []⟩
def d_lines_held : He.DefD := ⟨("lines_held", none), "lines_held", "lines_held", defArgs s_lines_held, defBody s_lines_held, defScope s_lines_held, [], []⟩
def d__law_source : He.DefD := ⟨("_law_source", none), "_law_source", "_law_source", defArgs s__law_source, defBody s__law_source, defScope s__law_source, [], []⟩
def d__law_pick : He.DefD := ⟨("_law_pick", none), "_law_pick", "_law_pick", defArgs s__law_pick, defBody s__law_pick, defScope s__law_pick, [], []⟩
def d__law_is_int : He.DefD := ⟨("_law_is_int", none), "_law_is_int", "_law_is_int", defArgs s__law_is_int, defBody s__law_is_int, defScope s__law_is_int, [], []⟩
def d__law_numbers : He.DefD := ⟨("_law_numbers", none), "_law_numbers", "_law_numbers", defArgs s__law_numbers, defBody s__law_numbers, defScope s__law_numbers, [], []⟩
def d__law_primes : He.DefD := ⟨("_law_primes", none), "_law_primes", "_law_primes", defArgs s__law_primes, defBody s__law_primes, defScope s__law_primes, [], []⟩
def d__law_power : He.DefD := ⟨("_law_power", none), "_law_power", "_law_power", defArgs s__law_power, defBody s__law_power, defScope s__law_power, [], []⟩
def d__law_any_size : He.DefD := ⟨("_law_any_size", none), "_law_any_size", "_law_any_size", defArgs s__law_any_size, defBody s__law_any_size, defScope s__law_any_size, [], []⟩
def d__law_bits_right : He.DefD := ⟨("_law_bits_right", none), "_law_bits_right", "_law_bits_right", defArgs s__law_bits_right, defBody s__law_bits_right, defScope s__law_bits_right, [], []⟩
def d__law_leaves_right : He.DefD := ⟨("_law_leaves_right", none), "_law_leaves_right", "_law_leaves_right", defArgs s__law_leaves_right, defBody s__law_leaves_right, defScope s__law_leaves_right, [], []⟩
def d__law_lot_right : He.DefD := ⟨("_law_lot_right", none), "_law_lot_right", "_law_lot_right", defArgs s__law_lot_right, defBody s__law_lot_right, defScope s__law_lot_right, [], []⟩
def d__law_lots_right : He.DefD := ⟨("_law_lots_right", none), "_law_lots_right", "_law_lots_right", defArgs s__law_lots_right, defBody s__law_lots_right, defScope s__law_lots_right, [], []⟩
def d__law_apart : He.DefD := ⟨("_law_apart", none), "_law_apart", "_law_apart", defArgs s__law_apart, defBody s__law_apart, defScope s__law_apart, [], []⟩
def d__law_weights_right : He.DefD := ⟨("_law_weights_right", none), "_law_weights_right", "_law_weights_right", defArgs s__law_weights_right, defBody s__law_weights_right, defScope s__law_weights_right, [], []⟩
def d__law_rows : He.DefD := ⟨("_law_rows", none), "_law_rows", "_law_rows", defArgs s__law_rows, defBody s__law_rows, defScope s__law_rows, [], []⟩
def d__law_lines_right : He.DefD := ⟨("_law_lines_right", none), "_law_lines_right", "_law_lines_right", defArgs s__law_lines_right, defBody s__law_lines_right, defScope s__law_lines_right, [], []⟩
def d__law_refused : He.DefD := ⟨("_law_refused", none), "_law_refused", "_law_refused", defArgs s__law_refused, defBody s__law_refused, defScope s__law_refused, [], []⟩
def d__law_papers_right : He.DefD := ⟨("_law_papers_right", none), "_law_papers_right", "_law_papers_right", defArgs s__law_papers_right, defBody s__law_papers_right, defScope s__law_papers_right, [], []⟩
def d_law : He.DefD := ⟨("law", none), "law", "law", defArgs s_law, defBody s_law, defScope s_law, [], []⟩
def i_BadValue : Stmt := (clsBody (top 2)).getD 0 (.Pass ⟨0, 0, 0, 0⟩)
def er_BadValue : ErrD := ⟨"BadValue", "BadValue.__init__", "what", defArgs i_BadValue, defBody i_BadValue, defScope i_BadValue⟩
theorem ew_BadValue : ErrW R0.prog R0.prog.main.file er_BadValue "an argument is not right" (argAt (defArgs i_BadValue) 0) (argAt (defArgs i_BadValue) 1) (zOf (defBody i_BadValue)) := ⟨by kernel_rfl, by kernel_rfl, by kernel_rfl, by kernel_rfl, NdefX.nscope_by (by decide +kernel), by decide +kernel, by kernel_rfl, rfl, by kernel_rfl, fun _ _ _ => ⟨fun _ _ _ _ _ _ => by kernel_rfl, fun _ => by kernel_rfl, fun _ => by kernel_rfl, fun _ => ⟨_, rfl⟩⟩⟩
def i_TooMany : Stmt := (clsBody (top 3)).getD 0 (.Pass ⟨0, 0, 0, 0⟩)
def er_TooMany : ErrD := ⟨"TooMany", "TooMany.__init__", "what", defArgs i_TooMany, defBody i_TooMany, defScope i_TooMany⟩
theorem ew_TooMany : ErrW R0.prog R0.prog.main.file er_TooMany "a bound is passed" (argAt (defArgs i_TooMany) 0) (argAt (defArgs i_TooMany) 1) (zOf (defBody i_TooMany)) := ⟨by kernel_rfl, by kernel_rfl, by kernel_rfl, by kernel_rfl, NdefX.nscope_by (by decide +kernel), by decide +kernel, by kernel_rfl, rfl, by kernel_rfl, fun _ _ _ => ⟨fun _ _ _ _ _ _ => by kernel_rfl, fun _ => by kernel_rfl, fun _ => by kernel_rfl, fun _ => ⟨_, rfl⟩⟩⟩
def fn : List He.DefD := ([d_is_count, d_width_of, d_log_up, d_must_be_puzzle, d_is_prime, d_value_of, d_all_held, d_fewest_leaves, d_lines_of, d_fewest_bits, d_greater_lots, d_meet_weights, d_lines_held, d__law_source, d__law_pick, d__law_is_int, d__law_numbers, d__law_primes, d__law_power, d__law_any_size, d__law_bits_right, d__law_leaves_right, d__law_lot_right, d__law_lots_right, d__law_apart, d__law_weights_right, d__law_rows, d__law_lines_right, d__law_refused, d__law_papers_right] : List He.DefD) ++ ([d_law] : List He.DefD)
def fa : List He.Fa := ([.glo "is_count", .glo "width_of", .glo "log_up", .glo "must_be_puzzle", .glo "is_prime", .glo "value_of", .glo "all_held", .glo "fewest_leaves", .glo "lines_of", .glo "fewest_bits", .glo "greater_lots", .glo "meet_weights", .glo "lines_held", .glo "_law_source", .glo "_law_pick", .glo "_law_is_int", .glo "_law_numbers", .glo "_law_primes", .glo "_law_power", .glo "_law_any_size", .glo "_law_bits_right", .glo "_law_leaves_right", .glo "_law_lot_right", .glo "_law_lots_right", .glo "_law_apart", .glo "_law_weights_right", .glo "_law_rows", .glo "_law_lines_right", .glo "_law_refused", .glo "_law_papers_right"] : List He.Fa) ++ ([.glo "law", .free "abs", .free "bool", .free "int", .free "isinstance", .free "len", .free "range", .free "sorted", .free "sum", .free "tuple", .free "zip", .int "MOST_HELD" 256, .free "super"] : List He.Fa)
def tyB (y : Str) : Option String := none
def er : List ErrD := [er_BadValue, er_TooMany]
def ck (K : PySem.W.Frag) : Bool := ckAll [kstB K "NAMES" (.tup [(.str "greater"), (.str "meet"), (.str "inner")])]
abbrev hk : PySem.W.Hook := hookX 4 fa fn R0.prog.main.file tyB hx er ck
def ob (s : PySem.W.SharedT) : AlX := obsXG 4 fa fn R0.prog.main.file tyB hx er ck (HandSHeadRun.getT s)
theorem ob_eq (s : PySem.W.SharedT) : ob s = hk.obs s.abs := obsXG_eq (HandSHeadRun.getT_eq s)
def names : List Str := (["TalkError", "BadValue", "TooMany", "is_count", "width_of", "log_up", "NAMES", "MOST_HELD", "must_be_puzzle", "is_prime", "value_of", "all_held", "fewest_leaves", "lines_of", "fewest_bits", "greater_lots", "meet_weights", "lines_held", "_law_source", "_law_pick", "_law_is_int", "_law_numbers", "_law_primes", "_law_power", "_law_any_size", "_law_bits_right", "_law_leaves_right", "_law_lot_right", "_law_lots_right", "_law_apart"] : List Str) ++ (["_law_weights_right", "_law_rows", "_law_lines_right", "_law_refused", "_law_papers_right"] : List Str)
theorem run (w : World) : HandSHeadRun.RunEq R0 (PySem.W.view R0.prog [39]) hk ob 4000 names w := by
  intro os
  kernel_rfl
theorem txt {K : PySem.W.Frag} {h : Heap} {mg : Str → Option Value} (X : K.In h) (G : h.Ns mainGlobals mg) (c : obsX fa fn R0.prog.main.file tyB hx er ck K = valX fn er) : Txt R0.prog K mg where
  f_is_count := by
    obtain ⟨fd, F⟩ := (saysX_d c).def_ 0 (d := d_is_count) rfl
    exact ⟨_, fd, F, He.glo_ok X G ((saysX_d c).fact 0 (f := .glo "is_count") rfl)⟩
  f_width_of := by
    obtain ⟨fd, F⟩ := (saysX_d c).def_ 1 (d := d_width_of) rfl
    exact ⟨_, fd, F, He.glo_ok X G ((saysX_d c).fact 1 (f := .glo "width_of") rfl)⟩
  f_log_up := by
    obtain ⟨fd, F⟩ := (saysX_d c).def_ 2 (d := d_log_up) rfl
    exact ⟨_, fd, F, He.glo_ok X G ((saysX_d c).fact 2 (f := .glo "log_up") rfl)⟩
  f_must_be_puzzle := by
    obtain ⟨fd, F⟩ := (saysX_d c).def_ 3 (d := d_must_be_puzzle) rfl
    exact ⟨_, fd, F, He.glo_ok X G ((saysX_d c).fact 3 (f := .glo "must_be_puzzle") rfl)⟩
  f_is_prime := by
    obtain ⟨fd, F⟩ := (saysX_d c).def_ 4 (d := d_is_prime) rfl
    exact ⟨_, fd, F, He.glo_ok X G ((saysX_d c).fact 4 (f := .glo "is_prime") rfl)⟩
  f_value_of := by
    obtain ⟨fd, F⟩ := (saysX_d c).def_ 5 (d := d_value_of) rfl
    exact ⟨_, fd, F, He.glo_ok X G ((saysX_d c).fact 5 (f := .glo "value_of") rfl)⟩
  f_all_held := by
    obtain ⟨fd, F⟩ := (saysX_d c).def_ 6 (d := d_all_held) rfl
    exact ⟨_, fd, F, He.glo_ok X G ((saysX_d c).fact 6 (f := .glo "all_held") rfl)⟩
  f_fewest_leaves := by
    obtain ⟨fd, F⟩ := (saysX_d c).def_ 7 (d := d_fewest_leaves) rfl
    exact ⟨_, fd, F, He.glo_ok X G ((saysX_d c).fact 7 (f := .glo "fewest_leaves") rfl)⟩
  f_lines_of := by
    obtain ⟨fd, F⟩ := (saysX_d c).def_ 8 (d := d_lines_of) rfl
    exact ⟨_, fd, F, He.glo_ok X G ((saysX_d c).fact 8 (f := .glo "lines_of") rfl)⟩
  f_fewest_bits := by
    obtain ⟨fd, F⟩ := (saysX_d c).def_ 9 (d := d_fewest_bits) rfl
    exact ⟨_, fd, F, He.glo_ok X G ((saysX_d c).fact 9 (f := .glo "fewest_bits") rfl)⟩
  f_greater_lots := by
    obtain ⟨fd, F⟩ := (saysX_d c).def_ 10 (d := d_greater_lots) rfl
    exact ⟨_, fd, F, He.glo_ok X G ((saysX_d c).fact 10 (f := .glo "greater_lots") rfl)⟩
  f_meet_weights := by
    obtain ⟨fd, F⟩ := (saysX_d c).def_ 11 (d := d_meet_weights) rfl
    exact ⟨_, fd, F, He.glo_ok X G ((saysX_d c).fact 11 (f := .glo "meet_weights") rfl)⟩
  f_lines_held := by
    obtain ⟨fd, F⟩ := (saysX_d c).def_ 12 (d := d_lines_held) rfl
    exact ⟨_, fd, F, He.glo_ok X G ((saysX_d c).fact 12 (f := .glo "lines_held") rfl)⟩
  f__law_source := by
    obtain ⟨fd, F⟩ := (saysX_d c).def_ 13 (d := d__law_source) rfl
    exact ⟨_, fd, F, He.glo_ok X G ((saysX_d c).fact 13 (f := .glo "_law_source") rfl)⟩
  f__law_pick := by
    obtain ⟨fd, F⟩ := (saysX_d c).def_ 14 (d := d__law_pick) rfl
    exact ⟨_, fd, F, He.glo_ok X G ((saysX_d c).fact 14 (f := .glo "_law_pick") rfl)⟩
  f__law_is_int := by
    obtain ⟨fd, F⟩ := (saysX_d c).def_ 15 (d := d__law_is_int) rfl
    exact ⟨_, fd, F, He.glo_ok X G ((saysX_d c).fact 15 (f := .glo "_law_is_int") rfl)⟩
  f__law_numbers := by
    obtain ⟨fd, F⟩ := (saysX_d c).def_ 16 (d := d__law_numbers) rfl
    exact ⟨_, fd, F, He.glo_ok X G ((saysX_d c).fact 16 (f := .glo "_law_numbers") rfl)⟩
  f__law_primes := by
    obtain ⟨fd, F⟩ := (saysX_d c).def_ 17 (d := d__law_primes) rfl
    exact ⟨_, fd, F, He.glo_ok X G ((saysX_d c).fact 17 (f := .glo "_law_primes") rfl)⟩
  f__law_power := by
    obtain ⟨fd, F⟩ := (saysX_d c).def_ 18 (d := d__law_power) rfl
    exact ⟨_, fd, F, He.glo_ok X G ((saysX_d c).fact 18 (f := .glo "_law_power") rfl)⟩
  f__law_any_size := by
    obtain ⟨fd, F⟩ := (saysX_d c).def_ 19 (d := d__law_any_size) rfl
    exact ⟨_, fd, F, He.glo_ok X G ((saysX_d c).fact 19 (f := .glo "_law_any_size") rfl)⟩
  f__law_bits_right := by
    obtain ⟨fd, F⟩ := (saysX_d c).def_ 20 (d := d__law_bits_right) rfl
    exact ⟨_, fd, F, He.glo_ok X G ((saysX_d c).fact 20 (f := .glo "_law_bits_right") rfl)⟩
  f__law_leaves_right := by
    obtain ⟨fd, F⟩ := (saysX_d c).def_ 21 (d := d__law_leaves_right) rfl
    exact ⟨_, fd, F, He.glo_ok X G ((saysX_d c).fact 21 (f := .glo "_law_leaves_right") rfl)⟩
  f__law_lot_right := by
    obtain ⟨fd, F⟩ := (saysX_d c).def_ 22 (d := d__law_lot_right) rfl
    exact ⟨_, fd, F, He.glo_ok X G ((saysX_d c).fact 22 (f := .glo "_law_lot_right") rfl)⟩
  f__law_lots_right := by
    obtain ⟨fd, F⟩ := (saysX_d c).def_ 23 (d := d__law_lots_right) rfl
    exact ⟨_, fd, F, He.glo_ok X G ((saysX_d c).fact 23 (f := .glo "_law_lots_right") rfl)⟩
  f__law_apart := by
    obtain ⟨fd, F⟩ := (saysX_d c).def_ 24 (d := d__law_apart) rfl
    exact ⟨_, fd, F, He.glo_ok X G ((saysX_d c).fact 24 (f := .glo "_law_apart") rfl)⟩
  f__law_weights_right := by
    obtain ⟨fd, F⟩ := (saysX_d c).def_ 25 (d := d__law_weights_right) rfl
    exact ⟨_, fd, F, He.glo_ok X G ((saysX_d c).fact 25 (f := .glo "_law_weights_right") rfl)⟩
  f__law_rows := by
    obtain ⟨fd, F⟩ := (saysX_d c).def_ 26 (d := d__law_rows) rfl
    exact ⟨_, fd, F, He.glo_ok X G ((saysX_d c).fact 26 (f := .glo "_law_rows") rfl)⟩
  f__law_lines_right := by
    obtain ⟨fd, F⟩ := (saysX_d c).def_ 27 (d := d__law_lines_right) rfl
    exact ⟨_, fd, F, He.glo_ok X G ((saysX_d c).fact 27 (f := .glo "_law_lines_right") rfl)⟩
  f__law_refused := by
    obtain ⟨fd, F⟩ := (saysX_d c).def_ 28 (d := d__law_refused) rfl
    exact ⟨_, fd, F, He.glo_ok X G ((saysX_d c).fact 28 (f := .glo "_law_refused") rfl)⟩
  f__law_papers_right := by
    obtain ⟨fd, F⟩ := (saysX_d c).def_ 29 (d := d__law_papers_right) rfl
    exact ⟨_, fd, F, He.glo_ok X G ((saysX_d c).fact 29 (f := .glo "_law_papers_right") rfl)⟩
  f_law := by
    obtain ⟨fd, F⟩ := (saysX_d c).def_ 30 (d := d_law) rfl
    exact ⟨_, fd, F, He.glo_ok X G ((saysX_d c).fact 30 (f := .glo "law") rfl)⟩
  b_abs := He.free_ok X G ((saysX_d c).fact 31 (f := .free "abs") rfl)
  b_bool := He.free_ok X G ((saysX_d c).fact 32 (f := .free "bool") rfl)
  b_int := He.free_ok X G ((saysX_d c).fact 33 (f := .free "int") rfl)
  b_isinstance := He.free_ok X G ((saysX_d c).fact 34 (f := .free "isinstance") rfl)
  b_len := He.free_ok X G ((saysX_d c).fact 35 (f := .free "len") rfl)
  b_range := He.free_ok X G ((saysX_d c).fact 36 (f := .free "range") rfl)
  b_sorted := He.free_ok X G ((saysX_d c).fact 37 (f := .free "sorted") rfl)
  b_sum := He.free_ok X G ((saysX_d c).fact 38 (f := .free "sum") rfl)
  b_tuple := He.free_ok X G ((saysX_d c).fact 39 (f := .free "tuple") rfl)
  b_zip := He.free_ok X G ((saysX_d c).fact 40 (f := .free "zip") rfl)
  k_MOST_HELD := He.int_ok X G ((saysX_d c).fact 41 (f := .int "MOST_HELD" 256) rfl)
  e_BadValue := fun w base => by
    obtain ⟨h1, h2⟩ := saysX_er c 0 (d := er_BadValue) rfl
    exact err_ok X G h1 h2 (He.free_ok X G ((saysX_d c).fact 42 (f := .free "super") rfl)) ew_BadValue
  e_TooMany := fun w base => by
    obtain ⟨h1, h2⟩ := saysX_er c 1 (d := er_TooMany) rfl
    exact err_ok X G h1 h2 (He.free_ok X G ((saysX_d c).fact 42 (f := .free "super") rfl)) ew_TooMany
  x_TooMany := clsK_ok X G (saysX_hx c) rfl ⟨"BadValue", false, by decide +kernel⟩
  t_NAMES := kst_ok X G (ckAt (saysX_ck c) 0 rfl)
theorem facts (hl : LawTrue) {w : World} {K : PySem.W.Frag} {h : Heap} {mg : Str → Option Value} {f : Addr} (X : K.In h) (G : h.Ns mainGlobals mg) (hfa : mg ("law" : Str) = some (.ref f)) (c : obsX fa fn R0.prog.main.file tyB hx er ck K = valX fn er) :
    ∃ fd : FuncData, (∀ (s : Shared) (v : Value), BindsTo s fd ⟨[v], []⟩ [("script", v)]) ∧ ∀ base : Heap, K.In base → base.Ns mainGlobals mg → FnOk R0.prog w K mg base (L2.CX R0.prog w) 8 f fd ["script"] (spLaw K) := by
  have T := txt X G c
  obtain ⟨f2, fd, F, g⟩ := T.f_law
  have e := hfa.symm.trans g
  cases e
  have b := FunD.bindsA (ps := ["script"]) F fun _ _ _ _ _ _ us hl => match us, hl with | [_], _ => rfl
  exact ⟨fd, fun s v => b s [v] rfl, fun base _ _ => ok_law T hl F⟩

end K44

set_option Elab.async false
set_option linter.all false
set_option maxRecDepth 100000
set_option maxHeartbeats 4000000
set_option maxHeartbeats 0
open PySem PySem.W PySem.Calls PyProof.Rows
theorem PySem.Challenge.cw_talkgrowth_k44_what_bars_holds : PySem.Challenge.rw_talkgrowth_k44_what_bars.Holds := by
  w_on; o_law
  refine HandSHeadRun.head_any (r := OpenLaw.row PySem.Challenge.rw_talkgrowth_k44_what_bars) (q := view (OpenLaw.row PySem.Challenge.rw_talkgrowth_k44_what_bars).prog [39]) (H := K44.hk) (ob := K44.ob) (M := 4000) (loose := K44.names) (d := HandSHeadRun.topDef (OpenLaw.row PySem.Challenge.rw_talkgrowth_k44_what_bars).prog 39) (kwd := []) K44.ob_eq
    (by kernel_rfl) (fun s => by kernel_rfl) K44.run (by kernel_rfl) (by kernel_rfl) (by kernel_rfl) (by rfl) (by first | assumption | decide +kernel) (by decide +kernel) ⟨rfl, rfl, rfl, rfl, rfl, by decide +kernel⟩ ?hw ?hc
  case hw => w_witness2
  case hc =>
    refine K44.walk_ofW (l := PySem.Challenge.rw_talkgrowth_k44_what_bars) (n := 63) (k := 8) (x := "script") (CX := fun w => L2.CX (PySem.Challenge.rw_talkgrowth_k44_what_bars).prog w) rfl (by decide) (by kernel_rfl) ⟨rfl, by decide, by decide⟩ ?F (fun _ _ _ _ _ z => K44.cx_none z)
    intro w mg fa h Y G hmg0
    obtain ⟨K, KX, c⟩ := Y
    have hmg : mg ("law" : PySem.Str) = some (.ref fa) := by
      have e : (HandSHeadRun.topDef (OpenLaw.row PySem.Challenge.rw_talkgrowth_k44_what_bars).prog 39).name = ("law" : PySem.Str) := by kernel_rfl
      rw [← e]
      exact hmg0
    obtain ⟨fd, hb, hF⟩ := K44.facts K44.law_true (w := w) KX G hmg c
    exact ⟨K, fd, K44.spLaw K, KX, hb, fun H a ns hl _ hS => ⟨a, ns, rfl, hS, hl, fun _ => rfl⟩, hF⟩
