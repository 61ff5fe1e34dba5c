import PyProof.Rows.All
import Wide.All
import OpenK.AllK
import Wide.FinOn
import KE.KStateDown
import HandS.ForMost
import HandS.Exc
import HandS.WordsExc
import HandS.TryOnly
import HandS.Defaults
import HandS.Wide
import HandS.Flow
import HandS.NoneIn
import HandS.Slots
import HandS.CallSlots
import HandS.Evl
import HandS.Head0
import HandS.Head1
import HandS.Head2
import HandS.HeadEnd
import HandS.HeadHook1
import HandS.HeadHook2
import HandS.EndBits
import HandS.Steps
import HandS.IsInst
import HandS.New0
import KE.KSuper
import KE.KExcSuper
import HandS.Nested
import HandS.ClsMeth
import HandS.ExcInit
import HandS.ExcIs
import HandS.ExcField
import HandS.TryMany
import KE.KExcIs
import HandS.SortRule
import HandS.SlotsOwn
import KE.KOpsOwn
import HandS.FStr
import HandS.Text
import HandS.More
import KE.KCallOwn
import HandS.Star
import HandS.OwnIter
import HandS.IterNext
import HandS.DictSub
import PyProof.MeetsIn
import HandS.MakeKw
import HandS.MakeKwOnly
import KE.KStar
import HandS.RevRange
import HandS.Property
import HandS.Dict
import HandS.Style
import HandS.SetBool
import HandS.SetTxt0
import HandS.DictComp
import HandS.SortKw
import KE.KMinKey
import PySem.Challenge.RW_stretchesread_k37_one_test
set_option Elab.async false
set_option linter.all false
set_option maxRecDepth 100000
/-! DW, part 1: data as a whole (Dt), what a value denotes (Den), the state of a def in such data (Stt), the links between readings and deep readings. -/
namespace DW
open PySem L2

/-- data as a whole: a value, a list, a tuple, an instance, an instance with one slot, a caught exception, a dict; drw: the one list that is drawn from -/
inductive Dt where
  | v (x : V)
  | lst (xs : List Dt)
  | tup (xs : List Dt)
  | obj (C : Addr) (fs : List (Str × Dt))
  | slt (C : Addr) (d : Dt)
  | exc (a : Addr) (dd : Option Addr) (C : Addr) (fs : List (Str × Dt))
  | dct (kvs : List (Key × Dt))
  | drw
abbrev Dt.int (i : Int) : Dt := .v (.int i)
abbrev Dt.bl (b : Bool) : Dt := .v (.bl b)
abbrev Dt.str (x : Str) : Dt := .v (.str x)
abbrev Dt.non : Dt := .v .non

mutual
/-- the value x denotes the data, by what stands still in F -/
inductive Den (K : PySem.W.Frag) (l0 : Addr) (F : Hp) : V → Dt → Prop
  | v (x : V) : Den K l0 F x (.v x)
  | lst {a : Addr} {xs : List V} {ds : List Dt} (h : SqL K F a xs) (r : Dens K l0 F xs ds) : Den K l0 F (.ref a) (.lst ds)
  | tup {a : Addr} {xs : List V} {ds : List Dt} (h : SqT K F a xs) (r : Dens K l0 F xs ds) : Den K l0 F (.ref a) (.tup ds)
  | obj {a C dx : Addr} {fs : List (Str × V)} {gs : List (Str × Dt)} (h : F a = some (.ins C dx fs)) (r : DenF K l0 F fs gs) : Den K l0 F (.ref a) (.obj C gs)
  | slt {a C dx : Addr} {x : V} {d : Dt} (h : F a = some (SlX.SlO a C dx [some x])) (h2 : F dx = some (.xd [])) (ne : dx ≠ a) (r : Den K l0 F x d) : Den K l0 F (.ref a) (.slt C d)
  | exc {a dd C : Addr} {fs : List (Str × V)} {gs : List (Str × Dt)} (h : F dd = some (.xd fs)) (r : DenF K l0 F fs gs) : Den K l0 F (.ref a) (.exc a (some dd) C gs)
  | exc0 {a C : Addr} : Den K l0 F (.ref a) (.exc a none C [])
  | dct {a : Addr} {xs : List (Key × V)} {kvs : List (Key × Dt)} (h : F a = some (.dK xs)) (r : DenK K l0 F xs kvs) : Den K l0 F (.ref a) (.dct kvs)
  | drw : Den K l0 F (.ref l0) .drw
inductive Dens (K : PySem.W.Frag) (l0 : Addr) (F : Hp) : List V → List Dt → Prop
  | nil : Dens K l0 F [] []
  | cons {x : V} {d : Dt} {xs : List V} {ds : List Dt} (h : Den K l0 F x d) (t : Dens K l0 F xs ds) : Dens K l0 F (x :: xs) (d :: ds)
inductive DenF (K : PySem.W.Frag) (l0 : Addr) (F : Hp) : List (Str × V) → List (Str × Dt) → Prop
  | nil : DenF K l0 F [] []
  | cons {f : Str} {x : V} {d : Dt} {xs : List (Str × V)} {ds : List (Str × Dt)} (h : Den K l0 F x d) (t : DenF K l0 F xs ds) : DenF K l0 F ((f, x) :: xs) ((f, d) :: ds)
inductive DenK (K : PySem.W.Frag) (l0 : Addr) (F : Hp) : List (Key × V) → List (Key × Dt) → Prop
  | nil : DenK K l0 F [] []
  | cons {f : Key} {x : V} {d : Dt} {xs : List (Key × V)} {ds : List (Key × Dt)} (h : Den K l0 F x d) (t : DenK K l0 F xs ds) : DenK K l0 F ((f, x) :: xs) ((f, d) :: ds)
end
theorem sameT {K : PySem.W.Frag} {H H' : Hp} {a : Addr} {xs : List V} (e : Same H H') (h : SqT K H a xs) : SqT K H' a xs := by
  rcases h with (h | ⟨o, h⟩) | h
  · exact .inl (.inl (e _ _ h))
  · exact .inl (.inr ⟨o, e _ _ h⟩)
  · exact .inr h
section
variable {K : PySem.W.Frag} {l0 : Addr} {F F' : Hp}
mutual
theorem Den.mono (e : Same F F') : ∀ {v : V} {d : Dt}, Den K l0 F v d → Den K l0 F' v d
  | _, _, .v x => .v x
  | _, _, .lst h r => .lst (e.seq h) (Dens.mono e r)
  | _, _, .tup h r => .tup (sameT e h) (Dens.mono e r)
  | _, _, .obj h r => .obj (e _ _ h) (DenF.mono e r)
  | _, _, .slt h h2 ne r => .slt (e _ _ h) (e _ _ h2) ne (Den.mono e r)
  | _, _, .exc h r => .exc (e _ _ h) (DenF.mono e r)
  | _, _, .exc0 => .exc0
  | _, _, .dct h r => .dct (e _ _ h) (DenK.mono e r)
  | _, _, .drw => .drw
theorem Dens.mono (e : Same F F') : ∀ {v : List V} {d : List Dt}, Dens K l0 F v d → Dens K l0 F' v d
  | _, _, .nil => .nil
  | _, _, .cons h t => .cons (Den.mono e h) (Dens.mono e t)
theorem DenF.mono (e : Same F F') : ∀ {v : List (Str × V)} {d : List (Str × Dt)}, DenF K l0 F v d → DenF K l0 F' v d
  | _, _, .nil => .nil
  | _, _, .cons h t => .cons (Den.mono e h) (DenF.mono e t)
theorem DenK.mono (e : Same F F') : ∀ {v : List (Key × V)} {d : List (Key × Dt)}, DenK K l0 F v d → DenK K l0 F' v d
  | _, _, .nil => .nil
  | _, _, .cons h t => .cons (Den.mono e h) (DenK.mono e t)
end
theorem Dens.length : ∀ {xs : List V} {ds : List Dt}, Dens K l0 F xs ds → xs.length = ds.length
  | _, _, .nil => rfl
  | _, _, .cons _ t => congrArg (· + 1) (Dens.length t)
theorem Dens.get : ∀ {xs : List V} {ds : List Dt} {i : Nat} {d : Dt}, Dens K l0 F xs ds → ds[i]? = some d → ∃ x, xs[i]? = some x ∧ Den K l0 F x d
  | _, _, _, _, .nil, e => by simp at e
  | _, _, 0, _, .cons h _, e => by simp at e; subst e; exact ⟨_, rfl, h⟩
  | _, _, i + 1, d, .cons _ t, e => by
    obtain ⟨x, h1, h2⟩ := Dens.get (i := i) (d := d) t (by simpa using e)
    exact ⟨x, by simpa using h1, h2⟩
theorem Dens.getx : ∀ {xs : List V} {ds : List Dt} {i : Nat} {x : V}, Dens K l0 F xs ds → xs[i]? = some x → ∃ d, ds[i]? = some d ∧ Den K l0 F x d
  | _, _, _, _, .nil, e => by simp at e
  | _, _, 0, _, .cons h _, e => by simp at e; subst e; exact ⟨_, rfl, h⟩
  | _, _, i + 1, d, .cons _ t, e => by
    obtain ⟨x, h1, h2⟩ := Dens.getx (i := i) (x := d) t (by simpa using e)
    exact ⟨x, by simpa using h1, h2⟩
theorem Dens.append : ∀ {xs ys : List V} {ds es : List Dt}, Dens K l0 F xs ds → Dens K l0 F ys es → Dens K l0 F (xs ++ ys) (ds ++ es)
  | _, _, _, _, .nil, s => s
  | _, _, _, _, .cons h t, s => .cons h (Dens.append t s)
theorem Dens.one {x : V} {d : Dt} (h : Den K l0 F x d) : Dens K l0 F [x] [d] := .cons h .nil
/-- a list of ints -/
theorem Dens.ints : ∀ {xs : List V} {ns : List Int}, Dens K l0 F xs (ns.map Dt.int) → xs = ns.map V.int
  | _, [], .nil => rfl
  | _, n :: ns, .cons (.v _) t => by rw [Dens.ints t]; rfl
theorem Dens.ofInts : ∀ ns : List Int, Dens K l0 F (ns.map V.int) (ns.map Dt.int)
  | [] => .nil
  | n :: ns => .cons (.v _) (Dens.ofInts ns)
theorem DenF.look : ∀ {xs : List (Str × V)} {ds : List (Str × Dt)} {f : Str} {d : Dt}, DenF K l0 F xs ds → ds.lookup f = some d → ∃ x, xs.lookup f = some x ∧ Den K l0 F x d
  | _, _, _, _, .nil, e => by simp at e
  | _, _, f, d, .cons (f := g) (x := y) (d := b) h t, e => by
    by_cases q : f = g
    · subst q
      simp at e
      subst e
      exact ⟨_, by simp, h⟩
    · have hb : (f == g) = false := beq_eq_false_iff_ne.mpr q
      rw [List.lookup_cons, hb] at e
      obtain ⟨x, h1, h2⟩ := DenF.look t e
      exact ⟨x, by rw [List.lookup_cons, hb]; exact h1, h2⟩
theorem DenF.none : ∀ {xs : List (Str × V)} {ds : List (Str × Dt)} {f : Str}, DenF K l0 F xs ds → ds.lookup f = Option.none → xs.lookup f = Option.none
  | _, _, _, .nil, _ => by simp
  | _, _, f, .cons (f := g) (x := y) (d := b) h t, e => by
    by_cases q : f = g
    · subst q
      simp at e
    · have hb : (f == g) = false := beq_eq_false_iff_ne.mpr q
      rw [List.lookup_cons, hb] at e ⊢
      exact DenF.none t e
end

/-- what holds of the frozen part F and the heap H: the list that is drawn from stands at l0 -/
structure Base (l0 : Addr) (F H : Hp) : Prop where
  sub : Same F H
  nf : F l0 = none
  dr : ∃ ns : List Int, H l0 = some (.lst (ns.map V.int)) ∧ (∀ n ∈ ns, 0 ≤ n) ∧ ns.length ≤ 100000
/-- a step of an expression, a call -/
structure Go (l0 : Addr) (F H F' H' : Hp) : Prop where
  bs : Base l0 F' H'
  ex : Same F F'
  new : ∀ a, F a = none → F' a ≠ none → H a = none
  keep : ∀ a o, a ≠ l0 → H a = some o → H' a = some o
theorem Base.live {l0 : Addr} {F H : Hp} (b : Base l0 F H) : H l0 ≠ none := by
  obtain ⟨ns, h, _⟩ := b.dr
  rw [h]
  exact fun e => nomatch e
theorem Go.refl {l0 : Addr} {F H : Hp} (b : Base l0 F H) : Go l0 F H F H := ⟨b, fun _ _ h => h, fun _ h1 h2 => absurd h1 h2, fun _ _ _ h => h⟩
theorem Go.trans {l0 : Addr} {F H F1 H1 F2 H2 : Hp} (g : Go l0 F H F1 H1) (k : Go l0 F1 H1 F2 H2) : Go l0 F H F2 H2 where
  bs := k.bs
  ex := fun a o h => k.ex a o (g.ex a o h)
  new := fun a h1 h2 => by
    by_cases q : F1 a = none
    · have z := k.new a q h2
      cases e : H a with
      | none => rfl
      | some o =>
        by_cases w : a = l0
        · subst w
          exact absurd z g.bs.live
        · rw [g.keep a o w e] at z
          cases z
    · exact g.new a h1 q
  keep := fun a o n h => k.keep a o n (g.keep a o n h)
/-- a new object, frozen -/
theorem Go.fresh {l0 : Addr} {F H : Hp} (b : Base l0 F H) {p : Addr} (o : HO) (h : H p = none) : Go l0 F H (upd F p o) (upd H p o) := by
  have n0 : p ≠ l0 := fun e => b.live (by rw [← e]; exact h)
  have nF : F p = none := by
    cases e : F p with
    | none => rfl
    | some u =>
      rw [b.sub p u e] at h
      cases h
  refine ⟨⟨fun a u e => ?_, by rw [upd_ne n0.symm]; exact b.nf, ?_⟩, fun a u e => ?_, fun a h1 h2 => ?_, fun a u _ e => ?_⟩
  · by_cases q : a = p
    · subst q
      rw [upd_same] at e ⊢
      exact e
    · rw [upd_ne q] at e ⊢
      exact b.sub a u e
  · obtain ⟨ns, h1, h2⟩ := b.dr
    exact ⟨ns, by rw [upd_ne n0.symm]; exact h1, h2⟩
  · rw [upd_ne (ne_of_none e nF)]
    exact e
  · by_cases q : a = p
    · subst q
      exact h
    · rw [upd_ne q] at h2
      exact absurd h1 h2
  · rw [upd_ne (ne_of_none e h)]
    exact e
/-- a new object that is not frozen (garbage, or to be changed) -/
theorem Go.loose {l0 : Addr} {F H : Hp} (b : Base l0 F H) {p : Addr} (o : HO) (h : H p = none) : Go l0 F H F (upd H p o) := by
  have n0 : p ≠ l0 := fun e => b.live (by rw [← e]; exact h)
  refine ⟨⟨fun a u e => ?_, b.nf, ?_⟩, fun a u e => e, fun a h1 h2 => absurd h1 h2, fun a u _ e => ?_⟩
  · rw [upd_ne (ne_of_none (b.sub a u e) h)]
    exact b.sub a u e
  · obtain ⟨ns, h1, h2⟩ := b.dr
    exact ⟨ns, by rw [upd_ne n0.symm]; exact h1, h2⟩
  · rw [upd_ne (ne_of_none e h)]
    exact e

/-- a slot: nothing known, data, an own list (not yet frozen), an own instance -/
inductive Sl where
  | emp
  | dat (d : Dt)
  | own (ds : List Dt)
  | oob (p : Addr × Addr) (C : Addr) (fs : List (Str × Dt))
  | odc (kvs : List (Key × Dt))
abbrev Sl.int (i : Int) : Sl := .dat (.v (.int i))
abbrev Sl.bl (b : Bool) : Sl := .dat (.v (.bl b))
abbrev Sl.str (x : Str) : Sl := .dat (.v (.str x))
abbrev Sl.non : Sl := .dat (.v .non)
def Sl.isOwn : Sl → Bool
  | .own _ => true
  | .oob _ _ _ => true
  | .odc _ => true
  | _ => false
def SlV (K : PySem.W.Frag) (l0 : Addr) (F H : Hp) (v : V) : Sl → Prop
  | .emp => False
  | .dat d => Den K l0 F v d
  | .own ds => ∃ l xs, v = .ref l ∧ F l = none ∧ l ≠ l0 ∧ H l = some (.lst xs) ∧ Dens K l0 F xs ds
  | .oob p0 C fs => ∃ a dx gs, v = .ref a ∧ F a = none ∧ a ≠ l0 ∧ H a = some (.ins C dx gs) ∧ DenF K l0 F gs fs ∧ a = p0.1 ∧ dx = p0.2 ∧ F dx = none ∧ dx ≠ l0 ∧ H dx = some (.own a)
  | .odc kvs => ∃ l xs, v = .ref l ∧ F l = none ∧ l ≠ l0 ∧ H l = some (.dK xs) ∧ DenK K l0 F xs kvs
theorem SlV.go {K : PySem.W.Frag} {l0 : Addr} {F H F' H' : Hp} {v : V} {s : Sl} (g : Go l0 F H F' H') (h : SlV K l0 F H v s) : SlV K l0 F' H' v s := by
  have stay : ∀ {l : Addr} {o : HO}, F l = none → H l = some o → F' l = none := fun {l o} h1 h2 => by
    cases e : F' l with
    | none => rfl
    | some u =>
      have z := g.new l h1 (by rw [e]; exact fun z => nomatch z)
      rw [h2] at z
      cases z
  cases s with
  | emp => exact h
  | dat d => exact Den.mono g.ex h
  | own ds =>
    obtain ⟨l, xs, e, h1, h2, h3, h4⟩ := h
    exact ⟨l, xs, e, stay h1 h3, h2, g.keep _ _ h2 h3, Dens.mono g.ex h4⟩
  | oob p0 C fs =>
    obtain ⟨a, dx, gs, e, h1, h2, h3, h4⟩ := h
    obtain ⟨h4, e1, e2, z1, z2, z3⟩ := h4
    exact ⟨a, dx, gs, e, stay h1 h3, h2, g.keep _ _ h2 h3, DenF.mono g.ex h4, e1, e2, stay z1 z3, z2, g.keep _ _ z2 z3⟩
  | odc kvs =>
    obtain ⟨l, xs, e, h1, h2, h3, h4⟩ := h
    exact ⟨l, xs, e, stay h1 h3, h2, g.keep _ _ h2 h3, DenK.mono g.ex h4⟩
abbrev En := List Sl
/-- a def's state: the slots σ over the heap H are the data ρ -/
structure Stt (K : PySem.W.Frag) (l0 : Addr) (F H : Hp) (σ : L2.St) (ρ : En) : Prop where
  bs : Base l0 F H
  len : ρ.length = σ.length
  sl : ∀ (i : Nat) (s : Sl), ρ[i]? = some s → s = .emp ∨ ∃ v, σ[i]? = some (some v) ∧ SlV K l0 F H v s
  ap : ∀ (i j : Nat) (s t : Sl) (a : Addr), ρ[i]? = some s → ρ[j]? = some t → s.isOwn = true → t.isOwn = true → σ[i]? = some (some (.ref a)) → σ[j]? = some (some (.ref a)) → i = j
theorem Stt.go {K : PySem.W.Frag} {l0 : Addr} {F H F' H' : Hp} {σ : L2.St} {ρ : En} (S : Stt K l0 F H σ ρ) (g : Go l0 F H F' H') : Stt K l0 F' H' σ ρ :=
  ⟨g.bs, S.len, fun i s h => (S.sl i s h).imp id fun ⟨v, h1, h2⟩ => ⟨v, h1, h2.go g⟩, S.ap⟩
/-- addresses that are owned -/
def Ow (σ : L2.St) (ρ : En) (a : Addr) : Prop := ∃ (i : Nat) (s : Sl), ρ[i]? = some s ∧ s.isOwn = true ∧ σ[i]? = some (some (.ref a))
/-- a step of a statement -/
structure GoS (l0 : Addr) (F H : Hp) (σ : L2.St) (ρ : En) (F' H' : Hp) : Prop where
  bs : Base l0 F' H'
  ex : Same F F'
  new : ∀ a, F a = none → F' a ≠ none → H a = none ∨ Ow σ ρ a
  keep : ∀ a o, a ≠ l0 → ¬ Ow σ ρ a → H a = some o → H' a = some o
def OwS (H : Hp) (σ : L2.St) (ρ : En) (σ' : L2.St) (ρ' : En) : Prop := ∀ a, Ow σ' ρ' a → Ow σ ρ a ∨ H a = none
theorem GoS.of {l0 : Addr} {F H F' H' : Hp} {σ : L2.St} {ρ : En} (g : Go l0 F H F' H') : GoS l0 F H σ ρ F' H' := ⟨g.bs, g.ex, fun a h1 h2 => .inl (g.new a h1 h2), fun a o h _ e => g.keep a o h e⟩
theorem OwS.refl {H : Hp} {σ : L2.St} {ρ : En} : OwS H σ ρ σ ρ := fun _ h => .inl h
theorem GoS.back {l0 : Addr} {F H F1 H1 : Hp} {σ : L2.St} {ρ : En} (g : GoS l0 F H σ ρ F1 H1) (b : Base l0 F H) {a : Addr} (h : H1 a = none) : H a = none ∨ Ow σ ρ a := by
  cases e : H a with
  | none => exact .inl rfl
  | some o =>
    by_cases w : a = l0
    · subst w
      exact absurd h g.bs.live
    · by_cases q : Ow σ ρ a
      · exact .inr q
      · rw [g.keep a o w q e] at h
        cases h
theorem GoS.trans {l0 : Addr} {F H F1 H1 F2 H2 : Hp} {σ σ1 : L2.St} {ρ ρ1 : En} (b : Base l0 F H) (g : GoS l0 F H σ ρ F1 H1) (w : OwS H σ ρ σ1 ρ1) (k : GoS l0 F1 H1 σ1 ρ1 F2 H2) : GoS l0 F H σ ρ F2 H2 where
  bs := k.bs
  ex := fun a o h => k.ex a o (g.ex a o h)
  new := fun a h1 h2 => by
    by_cases q : F1 a = none
    · rcases k.new a q h2 with z | z
      · exact g.back b z
      · exact (w a z).symm
    · exact g.new a h1 q
  keep := fun a o n h e => by
    refine k.keep a o n (fun z => ?_) (g.keep a o n h e)
    rcases w a z with z | z
    · exact h z
    · rw [e] at z
      cases z
theorem OwS.trans {l0 : Addr} {F H F1 H1 : Hp} {σ σ1 σ2 : L2.St} {ρ ρ1 ρ2 : En} (b : Base l0 F H) (g : GoS l0 F H σ ρ F1 H1) (w : OwS H σ ρ σ1 ρ1) (k : OwS H1 σ1 ρ1 σ2 ρ2) : OwS H σ ρ σ2 ρ2 := fun a h => by
  rcases k a h with z | z
  · exact w a z
  · exact (g.back b z).symm

/-- an exception in such data: its class, its fields -/
structure Xn where
  cls : Addr
  fs : List (Str × Dt)
def XDen (K : PySem.W.Frag) (l0 : Addr) (F H : Hp) (cls : Value) (d : Option Addr) (x : Xn) : Prop :=
  cls = .ref x.cls ∧ ((d = none ∧ x.fs = []) ∨ ∃ dd gs, d = some dd ∧ F dd = some (.xd gs) ∧ DenF K l0 F gs x.fs)

/-! ### readings over data -/
abbrev DE := En → (Sl → Prop) → (Xn → Prop) → Prop
abbrev DA := En → (List Sl → Prop) → (Xn → Prop) → Prop
abbrev DTt := En → (Bool → Prop) → (Xn → Prop) → Prop
structure DEnds where
  nx : En → Prop
  rt : Dt → Prop
  bk : En → Prop := fun _ => False
  ct : En → Prop := fun _ => False
  ex : Xn → En → Prop := fun _ _ => False
  rs : Dt → En → Prop := fun _ _ => False
abbrev DS := DEnds → En → Prop
abbrev DG := Sl → En → (En → Prop) → Prop
abbrev D2 := Sl → Sl → (Sl → Prop) → Prop
abbrev D1 := Sl → (Sl → Prop) → Prop
abbrev DCl := List Sl → (Sl → Prop) → Prop

/-- what a reading's continuation owes -/
def KV1 (K : PySem.W.Frag) (l0 : Addr) (F H : Hp) (Q : Sl → Prop) (Qc : VK) : Prop := ∀ v s F' H', Go l0 F H F' H' → SlV K l0 F' H' v s → Q s → Qc v H'
def KX (K : PySem.W.Frag) (W : WX) (l0 : Addr) (F H : Hp) (σ : L2.St) (E : Xn → Prop) : Prop := ∀ cls d x F' H', Go l0 F H F' H' → XDen K l0 F' H' cls d x → E x → W cls d σ H'
def SndE (K : PySem.W.Frag) (W : WX) (te : TE) (de : DE) : Prop := ∀ ρ Q E, de ρ Q E → ∀ l0 F H σ, Stt K l0 F H σ ρ → ∀ Qc : VK, KV1 K l0 F H Q Qc → KX K W l0 F H σ E → te σ H Qc
def SndT (K : PySem.W.Frag) (W : WX) (tt : TT) (dt : DTt) : Prop := ∀ ρ Q E, dt ρ Q E → ∀ l0 F H σ, Stt K l0 F H σ ρ → ∀ Qc : Bool → Hp → Prop, (∀ b F' H', Go l0 F H F' H' → Q b → Qc b H') → KX K W l0 F H σ E → tt σ H Qc
def SndA (K : PySem.W.Frag) (W : WX) (ta : TA) (da : DA) : Prop := ∀ ρ Q E, da ρ Q E → ∀ l0 F H σ, Stt K l0 F H σ ρ → ∀ Qc : List V → Hp → Prop,
  (∀ vs ss F' H', Go l0 F H F' H' → Paired (SlV K l0 F' H') vs ss → Q ss → Qc vs H') → KX K W l0 F H σ E → ta σ H Qc
structure Lnk (K : PySem.W.Frag) (W : WX) (l0 : Addr) (F H : Hp) (σ : L2.St) (ρ : En) (D : DEnds) (C : Ends) : Prop where
  nx : ∀ F' H' σ' ρ', GoS l0 F H σ ρ F' H' → OwS H σ ρ σ' ρ' → Stt K l0 F' H' σ' ρ' → D.nx ρ' → C.nx σ' H'
  rt : ∀ F' H' v d, GoS l0 F H σ ρ F' H' → Den K l0 F' v d → D.rt d → C.rt v H'
  bk : ∀ F' H' σ' ρ', GoS l0 F H σ ρ F' H' → OwS H σ ρ σ' ρ' → Stt K l0 F' H' σ' ρ' → D.bk ρ' → C.bk σ' H'
  ct : ∀ F' H' σ' ρ', GoS l0 F H σ ρ F' H' → OwS H σ ρ σ' ρ' → Stt K l0 F' H' σ' ρ' → D.ct ρ' → C.ct σ' H'
  ex : ∀ cls d x F' H' σ' ρ', GoS l0 F H σ ρ F' H' → OwS H σ ρ σ' ρ' → Stt K l0 F' H' σ' ρ' → XDen K l0 F' H' cls d x → D.ex x ρ' → W cls d σ' H'
  rs : ∀ F' H' σ' ρ' v d, GoS l0 F H σ ρ F' H' → OwS H σ ρ σ' ρ' → Stt K l0 F' H' σ' ρ' → Den K l0 F' v d → D.rs d ρ' → C.rt v H'
theorem Lnk.trans {K : PySem.W.Frag} {W : WX} {l0 : Addr} {F H F1 H1 : Hp} {σ σ1 : L2.St} {ρ ρ1 : En} {D : DEnds} {C : Ends} (L : Lnk K W l0 F H σ ρ D C) (b : Base l0 F H) (g : GoS l0 F H σ ρ F1 H1) (w : OwS H σ ρ σ1 ρ1) : Lnk K W l0 F1 H1 σ1 ρ1 D C where
  nx := fun F' H' σ' ρ' g' w' S q => L.nx F' H' σ' ρ' (g.trans b w g') (OwS.trans b g w w') S q
  rt := fun F' H' v d g' r q => L.rt F' H' v d (g.trans b w g') r q
  bk := fun F' H' σ' ρ' g' w' S q => L.bk F' H' σ' ρ' (g.trans b w g') (OwS.trans b g w w') S q
  ct := fun F' H' σ' ρ' g' w' S q => L.ct F' H' σ' ρ' (g.trans b w g') (OwS.trans b g w w') S q
  ex := fun cls d x F' H' σ' ρ' g' w' S r q => L.ex cls d x F' H' σ' ρ' (g.trans b w g') (OwS.trans b g w w') S r q
  rs := fun F' H' σ' ρ' v d g' w' S r q => L.rs F' H' σ' ρ' v d (g.trans b w g') (OwS.trans b g w w') S r q
theorem Lnk.kx {K : PySem.W.Frag} {W : WX} {l0 : Addr} {F H : Hp} {σ : L2.St} {ρ : En} {D : DEnds} {C : Ends} (L : Lnk K W l0 F H σ ρ D C) (S : Stt K l0 F H σ ρ) : KX K W l0 F H σ (fun x => D.ex x ρ) :=
  fun cls d x F' H' g r q => L.ex cls d x F' H' σ ρ (.of g) .refl (S.go g) r q
def SndS (K : PySem.W.Frag) (W : WX) (ts : TS) (ds : DS) : Prop := ∀ D ρ, ds D ρ → ∀ l0 F H σ, Stt K l0 F H σ ρ → ∀ C, Lnk K W l0 F H σ ρ D C → ts C σ H
def SndG (K : PySem.W.Frag) (ts : List Nat) (g : TG) (dg : DG) : Prop := ∀ s ρ R, dg s ρ R → ∀ l0 F H σ v, Stt K l0 F H σ ρ → SlV K l0 F H v s → ∀ Rc : L2.St → Hp → Prop,
  (∀ F' H' σ' ρ', Go l0 F H F' H' → OwS H σ ρ σ' ρ' → Stt K l0 F' H' σ' ρ' → (∀ vs : List Nat, (∀ j ∈ ts, j ∈ vs) → wipe σ' vs = wipe σ vs) → R ρ' → Rc σ' H') → g v σ H Rc
def SndR (K : PySem.W.Frag) (r : R2) (rd : D2) : Prop := ∀ x y s t Q, rd s t Q → ∀ l0 F H, Base l0 F H → SlV K l0 F H x s → SlV K l0 F H y t → ∀ Qc : VK, KV1 K l0 F H Q Qc → r x y H Qc
def SndU (K : PySem.W.Frag) (r : V → Hp → VK → Prop) (rd : D1) : Prop := ∀ x s Q, rd s Q → ∀ l0 F H, Base l0 F H → SlV K l0 F H x s → ∀ Qc : VK, KV1 K l0 F H Q Qc → r x H Qc
def SndC (K : PySem.W.Frag) (r : List V → Hp → VK → Prop) (rd : DCl) : Prop := ∀ vs ss Q, rd ss Q → ∀ l0 F H, Base l0 F H → Paired (SlV K l0 F H) vs ss → ∀ Qc : VK, KV1 K l0 F H Q Qc → r vs H Qc

/-! ### the judgements: a piece of syntax, its reading over data -/
def DEX (X : Cx) (W : WX) (e : Expr) (te : TE) (de : DE) : Prop := PE X e te ∧ SndE X.K W te de
def DTX (X : Cx) (W : WX) (e : Expr) (tt : TT) (dt : DTt) : Prop := PT X e tt ∧ SndT X.K W tt dt
def DWX (X : Cx) (W : WX) (e : Expr) (tt : TT) (dt : DTt) : Prop := PW X e tt ∧ SndT X.K W tt dt
def DAX (X : Cx) (W : WX) (es : List Expr) (ta : TA) (da : DA) : Prop := PA X es ta ∧ SndA X.K W ta da
def DSX (X : Cx) (W : WX) (st : Stmt) (ts : TS) (ds : DS) : Prop := PS X st ts ∧ SndS X.K W ts ds
def DSSX (X : Cx) (W : WX) (st : List Stmt) (ts : TS) (ds : DS) : Prop := PSs X st ts ∧ SndS X.K W ts ds
def DGX (X : Cx) (tg : Expr) (ts : List Nat) (g : TG) (dg : DG) : Prop := PG X tg g ∧ SndG X.K ts g dg
end DW

set_option Elab.async false
set_option linter.all false
set_option maxRecDepth 100000
/-! DW, part 2: expressions. -/
namespace DW
open PySem L2
/-! ### readings -/
def useS : Sl → (Sl → Prop) → Prop
  | .emp, _ => False
  | s, Q => Q s
def dVar (i : Nat) : DE := fun ρ Q _ => useS (ρ.getD i .emp) Q
def dC (x : V) : DE := fun _ Q _ => Q (.dat (.v x))
def dOp (rd : D2) (da db : DE) : DE := fun ρ Q E => da ρ (fun x => db ρ (fun y => rd x y Q) E) E
def dUn (rd : D1) (da : DE) : DE := fun ρ Q E => da ρ (fun x => rd x Q) E
def blS : Sl → (Bool → Prop) → Prop
  | .dat (.v (.bl b)), Q => Q b
  | _, _ => False
def dTest (de : DE) : DTt := fun ρ Q E => de ρ (fun s => blS s Q) E
def dChain (r r' : D2) (da db dc : DE) : DE := fun ρ Q E => da ρ (fun x => db ρ (fun y => r x y fun z => blS z fun b => if b = true then dc ρ (fun w => r' y w Q) E else Q (.dat (.v (.bl false)))) E) E
def dAnd (a b : DTt) : DTt := fun ρ Q E => a ρ (fun c => if c = true then b ρ Q E else Q false) E
def dOr (a b : DTt) : DTt := fun ρ Q E => a ρ (fun c => if c = true then Q true else b ρ Q E) E
def dNot (a : DTt) : DTt := fun ρ Q E => a ρ (fun c => Q (!c)) E
def dAndV (a b : DE) : DE := fun ρ Q E => a ρ (fun s => blS s fun c => if c = true then b ρ Q E else Q (.dat (.v (.bl false)))) E
def dOrV (a b : DE) : DE := fun ρ Q E => a ρ (fun s => blS s fun c => if c = true then Q (.dat (.v (.bl true))) else b ρ Q E) E
def dNotV (a : DE) : DE := fun ρ Q E => a ρ (fun s => blS s fun c => Q (.dat (.v (.bl (!c))))) E
def dIf (t : DTt) (a b : DE) : DE := fun ρ Q E => t ρ (fun c => if c = true then a ρ Q E else b ρ Q E) E
def dNil : DA := fun _ Q _ => Q []
def dCons (a : DE) (r : DA) : DA := fun ρ Q E => a ρ (fun x => r ρ (fun xs => Q (x :: xs)) E) E
/-- plain data in all places -/
def plain : List Sl → (List Dt → Prop) → Prop
  | [], Q => Q []
  | .dat d :: r, Q => plain r fun ds => Q (d :: ds)
  | _ :: _, _ => False
def dTup (a : DA) : DE := fun ρ Q E => a ρ (fun ss => ss.length ≤ 100000 ∧ plain ss fun ds => Q (.dat (.tup ds))) E
def dLst (a : DA) : DE := fun ρ Q E => a ρ (fun ss => ss.length ≤ 100000 ∧ plain ss fun ds => Q (.dat (.lst ds))) E
def dCB (r : DCl) (a : DA) : DE := fun ρ Q E => a ρ (fun ss => r ss Q) E
/-- truth -/
def truS : Sl → (Bool → Prop) → Prop
  | .dat (.v .non), Q => Q false
  | .dat (.v (.bl b)), Q => Q b
  | .dat (.v (.int i)), Q => Q (i != 0)
  | .dat (.v (.str x)), Q => x.length ≤ 100000 ∧ Q ((x.length : Int) != 0)
  | .dat (.lst ds), Q => Q (!ds.isEmpty)
  | .dat (.tup ds), Q => Q (!ds.isEmpty)
  | .own ds, Q => Q (!ds.isEmpty)
  | _, _ => False
def dTru (a : DE) : DTt := fun ρ Q E => a ρ (fun s => truS s Q) E
def dOrT (a b : DE) : DE := fun ρ Q E => a ρ (fun s => truS s fun c => if c = true then Q s else b ρ Q E) E
/-- ints in, under C, a value out -/
def d2I (C : Int → Int → Prop) (g : Int → Int → V) : D2
  | .dat (.v (.int i)), .dat (.v (.int j)), Q => C i j ∧ Q (.dat (.v (g i j)))
  | _, _, _ => False
def d2I0 (g : Int → Int → V) : D2
  | .dat (.v (.int i)), .dat (.v (.int j)), Q => Q (.dat (.v (g i j)))
  | _, _, _ => False
def d1I (g : Int → V) : D1
  | .dat (.v (.int i)), Q => Q (.dat (.v (g i)))
  | _, _ => False
def dSub : D2 := d2I0 fun i j => .int (i - j)
def dMul : D2 := d2I (fun i j => (-(2 ^ 64) < i ∧ i < 2 ^ 64) ∨ (-(2 ^ 64) < j ∧ j < 2 ^ 64) ∨ (i.natAbs < 2 ^ 250 ∧ j.natAbs < 2 ^ 250)) fun i j => .int (i * j)
def dFdiv : D2 := d2I (fun _ j => 0 < j ∧ j < 2 ^ 250) fun i j => .int (i / j)
def dMod : D2 := d2I (fun _ j => 0 < j) fun i j => .int (i % j)
def dPow : D2 := d2I CPow fun i j => .int (i ^ j.toNat)
def dLt : D2 := d2I0 fun i j => .bl (decide (i < j))
def dLe : D2 := d2I0 fun i j => .bl (decide (i ≤ j))
def dGt : D2 := d2I0 fun i j => .bl (decide (j < i))
def dGe : D2 := d2I0 fun i j => .bl (decide (j ≤ i))
def dNeg : D1 := d1I fun i => .int (-i)
/-- an item by its place -/
def dIx : D2
  | .dat (.lst ds), .dat (.v (.int i)), Q => ∃ d, atI ds i = some d ∧ Q (.dat d)
  | .dat (.tup ds), .dat (.v (.int i)), Q => ∃ d, atI ds i = some d ∧ Q (.dat d)
  | .own ds, .dat (.v (.int i)), Q => ∃ d, atI ds i = some d ∧ Q (.dat d)
  | _, _, _ => False
def dAbs : DCl
  | [.dat (.v (.int i))], Q => Q (.dat (.v (.int (if i < 0 then -i else i))))
  | _, _ => False
def dMax2 : DCl
  | [.dat (.v (.int i)), .dat (.v (.int j))], Q => Q (.dat (.v (.int (if j > i then j else i))))
  | _, _ => False
def dMin2 : DCl
  | [.dat (.v (.int i)), .dat (.v (.int j))], Q => Q (.dat (.v (.int (if j < i then j else i))))
  | _, _ => False
def dLen : DCl
  | [.dat (.lst ds)], Q => Q (.dat (.v (.int ds.length)))
  | [.dat (.tup ds)], Q => Q (.dat (.v (.int ds.length)))
  | [.own ds], Q => Q (.dat (.v (.int ds.length)))
  | [.dat (.v (.str x))], Q => x.length ≤ 100000 ∧ Q (.dat (.v (.int x.length)))
  | _, _ => False
def dInt1 : DCl
  | [.dat (.v (.int i))], Q => Q (.dat (.v (.int i)))
  | [.dat (.v (.bl b))], Q => Q (.dat (.v (.int (if b then 1 else 0))))
  | _, _ => False
def intsOf : List Dt → Option (List Int)
  | [] => some []
  | .v (.int i) :: r => (intsOf r).map (i :: ·)
  | _ :: _ => none
/-- the greatest, the least of a list of ints -/
def dMaxL : DCl
  | [.dat (.lst ds)], Q => ∃ ns : List Int, ds = ns.map Dt.int ∧ 0 < ns.length ∧ ∀ m, m ∈ ns → (∀ y, y ∈ ns → y ≤ m) → Q (.dat (.v (.int m)))
  | _, _ => False
def dMinL : DCl
  | [.dat (.lst ds)], Q => ∃ ns : List Int, ds = ns.map Dt.int ∧ 0 < ns.length ∧ ∀ m, m ∈ ns → (∀ y, y ∈ ns → m ≤ y) → Q (.dat (.v (.int m)))
  | _, _ => False
def dSum : DCl
  | [.dat (.lst ds)], Q => ∃ ns : List Int, ds = ns.map Dt.int ∧ Q (.dat (.v (.int ns.sum)))
  | _, _ => False

/-! ### what a value's data say -/
section
variable {K : PySem.W.Frag} {W : WX} {l0 : Addr} {F H F' H' : Hp} {σ : L2.St} {ρ : En} {v : V} {s : Sl}
theorem KX.go {E : Xn → Prop} (k : KX K W l0 F H σ E) (g : Go l0 F H F' H') : KX K W l0 F' H' σ E := fun cls d x F2 H2 g2 r q => k cls d x F2 H2 (g.trans g2) r q
theorem KV1.go {Q : Sl → Prop} {Qc : VK} (k : KV1 K l0 F H Q Qc) (g : Go l0 F H F' H') : KV1 K l0 F' H' Q Qc := fun v s F2 H2 g2 r q => k v s F2 H2 (g.trans g2) r q
theorem KV1.here {Q : Sl → Prop} {Qc : VK} (k : KV1 K l0 F H Q Qc) (b : Base l0 F H) {x : V} (q : Q (.dat (.v x))) : Qc x H := k x (.dat (.v x)) F H (.refl b) (.v x) q
theorem KV1.dat {Q : Sl → Prop} {Qc : VK} (k : KV1 K l0 F H Q Qc) (b : Base l0 F H) {x : V} {d : Dt} (r : Den K l0 F x d) (q : Q (.dat d)) : Qc x H := k x (.dat d) F H (.refl b) r q
theorem SlV.int {i : Int} (h : SlV K l0 F H v (.dat (.v (.int i)))) : v = .int i := by cases h; rfl
theorem SlV.val {x : V} (h : SlV K l0 F H v (.dat (.v x))) : v = x := by cases h; rfl
theorem SlV.lst {ds : List Dt} (h : SlV K l0 F H v (.dat (.lst ds))) : ∃ a xs, v = .ref a ∧ SqL K F a xs ∧ Dens K l0 F xs ds := by
  cases h with
  | lst h r => exact ⟨_, _, rfl, h, r⟩
theorem SlV.tup {ds : List Dt} (h : SlV K l0 F H v (.dat (.tup ds))) : ∃ a xs, v = .ref a ∧ SqT K F a xs ∧ Dens K l0 F xs ds := by
  cases h with
  | tup h r => exact ⟨_, _, rfl, h, r⟩
/-- a list to be read, frozen or own -/
def IsL (s : Sl) (ds : List Dt) : Prop := s = .dat (.lst ds) ∨ s = .own ds
theorem SlV.list {ds : List Dt} (b : Base l0 F H) (h : SlV K l0 F H v s) (e : IsL s ds) : ∃ a xs, v = .ref a ∧ SqL K H a xs ∧ Dens K l0 F xs ds := by
  rcases e with e | e
  · subst e
    obtain ⟨a, xs, e, h1, h2⟩ := h.lst
    exact ⟨a, xs, e, b.sub.seq h1, h2⟩
  · subst e
    obtain ⟨l, xs, e, _, _, h1, h2⟩ := h
    exact ⟨l, xs, e, SqL.of h1, h2⟩
theorem SlV.tuple {ds : List Dt} (b : Base l0 F H) (h : SlV K l0 F H v (.dat (.tup ds))) : ∃ a xs, v = .ref a ∧ SqT K H a xs ∧ Dens K l0 F xs ds := by
  obtain ⟨a, xs, e, h1, h2⟩ := h.tup
  exact ⟨a, xs, e, sameT b.sub h1, h2⟩
theorem Stt.use {i : Nat} {Q : Sl → Prop} (S : Stt K l0 F H σ ρ) (h : useS (ρ.getD i .emp) Q) : ∃ s v, ρ[i]? = some s ∧ σ[i]? = some (some v) ∧ SlV K l0 F H v s ∧ Q s := by
  cases e : ρ[i]? with
  | none =>
    rw [List.getD_eq_getElem?_getD, e] at h
    exact h.elim
  | some s =>
    rw [List.getD_eq_getElem?_getD, e] at h
    have h : useS s Q := h
    rcases S.sl i s e with q | ⟨v, h1, h2⟩
    · subst q
      exact h.elim
    · refine ⟨s, v, rfl, h1, h2, ?_⟩
      cases s with
      | emp => exact h.elim
      | _ => exact h
theorem blS_of {Q : Bool → Prop} (h : blS s Q) : ∃ b, s = .dat (.v (.bl b)) ∧ Q b := by
  unfold blS at h
  split at h
  · exact ⟨_, rfl, h⟩
  · exact h.elim
theorem d2I_of {C : Int → Int → Prop} {g : Int → Int → V} {x y : Sl} {Q : Sl → Prop} (h : d2I C g x y Q) : ∃ i j, x = .dat (.v (.int i)) ∧ y = .dat (.v (.int j)) ∧ C i j ∧ Q (.dat (.v (g i j))) := by
  unfold d2I at h
  split at h
  · exact ⟨_, _, rfl, rfl, h⟩
  · exact h.elim
theorem d2I0_of {g : Int → Int → V} {x y : Sl} {Q : Sl → Prop} (h : d2I0 g x y Q) : ∃ i j, x = .dat (.v (.int i)) ∧ y = .dat (.v (.int j)) ∧ Q (.dat (.v (g i j))) := by
  unfold d2I0 at h
  split at h
  · exact ⟨_, _, rfl, rfl, h⟩
  · exact h.elim
theorem d1I_of {g : Int → V} {x : Sl} {Q : Sl → Prop} (h : d1I g x Q) : ∃ i, x = .dat (.v (.int i)) ∧ Q (.dat (.v (g i))) := by
  unfold d1I at h
  split at h
  · exact ⟨_, rfl, h⟩
  · exact h.elim
theorem plain_of : ∀ {ss : List Sl} {Q : List Dt → Prop}, plain ss Q → ∃ ds, ss = ds.map Sl.dat ∧ Q ds
  | [], _, h => ⟨[], rfl, h⟩
  | .dat d :: r, _, h => by
    obtain ⟨ds, e, q⟩ := plain_of (ss := r) h
    exact ⟨d :: ds, by rw [e]; rfl, q⟩
  | .emp :: _, _, h => h.elim
  | .own _ :: _, _, h => h.elim
  | .oob _ _ _ :: _, _, h => h.elim
  | .odc _ :: _, _, h => h.elim
theorem dens_of : ∀ {vs : List V} {ds : List Dt}, Paired (SlV K l0 F H) vs (ds.map Sl.dat) → Dens K l0 F vs ds
  | [], [], .nil => .nil
  | _ :: _, _ :: _, .cons h t => .cons h (dens_of t)
theorem of_dens : ∀ {vs : List V} {ds : List Dt}, Dens K l0 F vs ds → Paired (SlV K l0 F H) vs (ds.map Sl.dat)
  | [], [], .nil => .nil
  | _ :: _, _ :: _, .cons h t => .cons h (of_dens t)
theorem pairs_go (g : Go l0 F H F' H') : ∀ {vs : List V} {ss : List Sl}, Paired (SlV K l0 F H) vs ss → Paired (SlV K l0 F' H') vs ss
  | [], [], .nil => .nil
  | _ :: _, _ :: _, .cons h t => .cons (h.go g) (pairs_go g t)
theorem pairs_len : ∀ {vs : List V} {ss : List Sl}, Paired (SlV K l0 F H) vs ss → vs.length = ss.length
  | [], [], .nil => rfl
  | _ :: _, _ :: _, .cons _ t => congrArg (· + 1) (pairs_len t)
theorem truS_of {Q : Bool → Prop} (b : Base l0 F H) (h : truS s Q) (r : SlV K l0 F H v s) : ∃ k, TruV K v H k ∧ Q k := by
  unfold truS at h
  split at h
  · cases r; exact ⟨_, rfl, h⟩
  · cases r; exact ⟨_, rfl, h⟩
  · cases r; exact ⟨_, rfl, h⟩
  · cases r; exact ⟨_, ⟨Evl.sz_of h.1, rfl⟩, h.2⟩
  · obtain ⟨a, xs, e, h1, h2⟩ := r.list b (.inl rfl)
    subst e
    refine ⟨_, .inl ⟨xs, h1, rfl⟩, ?_⟩
    cases h2 <;> exact h
  · obtain ⟨a, xs, e, h1, h2⟩ := r.tuple b
    subst e
    refine ⟨_, .inr (.inl ⟨xs, h1, rfl⟩), ?_⟩
    cases h2 <;> exact h
  · obtain ⟨a, xs, e, h1, h2⟩ := r.list b (.inr rfl)
    subst e
    refine ⟨_, .inl ⟨xs, h1, rfl⟩, ?_⟩
    cases h2 <;> exact h
  · exact h.elim
end

/-! ### rules -/
section
variable {X : Cx} {W : WX} {a b c e : Expr} {xa xb xc xe : TE} {ya yb : TT} {da db dc de : DE} {pos : Pos} {ta tb : DTt}
theorem de_var (i : Nat) {x : Str} {pos : Pos} (hN : X.N[i]? = some x := by rfl) (hv : Vis X.env.scope x := by first | exact Or.inl rfl | exact Or.inr (Or.inl rfl) | exact Or.inr (Or.inr rfl)) (hd : (x == ("__debug__" : Str)) = false := by decide)
    (hcd : (x == ("__classdict__" : Str)) = false := by decide) : DEX X W (.Name x pos) (tVar i) (dVar i) :=
  ⟨pe_var hN hv hd hcd, fun ρ Q E h l0 F H σ S Qc k _ => by
    obtain ⟨s, v, _, h1, h2, q⟩ := S.use h
    exact ⟨v, h1, k v s F H (.refl S.bs) h2 q⟩⟩
theorem de_pe {v : V} (h : PE X e (tC v)) : DEX X W e (tC v) (dC v) := ⟨h, fun ρ Q E h l0 F H σ S Qc k _ => k.here S.bs h⟩
theorem de_int {i j pos} : DEX X W (.Constant (.int i) j pos) (tC (.int i)) (dC (.int i)) := de_pe pe_int
theorem de_bl {b j pos} : DEX X W (.Constant (.bool b) j pos) (tC (.bl b)) (dC (.bl b)) := de_pe pe_bl
theorem de_non {j pos} : DEX X W (.Constant .none j pos) (tC .non) (dC .non) := de_pe pe_non
theorem de_str {x j pos} : DEX X W (.Constant (.str x) j pos) (tC (.str x)) (dC (.str x)) := de_pe pe_str
theorem de_glob {x : Str} {v : V} {u : Value} (hg : Gl X x) (hm : X.mg x = some u) (r : RelV v u) (hd : (x == ("__debug__" : Str)) = false := by decide) : DEX X W (.Name x pos) (tC v) (dC v) := de_pe (pe_glob hg hm r hd)
theorem de_op {op : Operator} {r : R2} {rd : D2} (ho : OpR X (binaryOp op) r) (hs : SndR X.K r rd) (ha : DEX X W a xa da) (hb : DEX X W b xb db) : DEX X W (.BinOp a op b pos) (tOp r xa xb) (dOp rd da db) := by
  obtain ⟨pa, sa⟩ := ha
  obtain ⟨pb, sb⟩ := hb
  refine ⟨pe_op ho pa pb, fun ρ Q E h l0 F H σ S Qc k kx => ?_⟩
  refine sa ρ _ E h l0 F H σ S _ (fun x s F1 H1 g1 r1 q1 => ?_) kx
  refine sb ρ _ E q1 l0 F1 H1 σ (S.go g1) _ (fun y t F2 H2 g2 r2 q2 => ?_) (kx.go g1)
  exact hs x y s t Q q2 l0 F2 H2 g2.bs (r1.go g2) r2 Qc (k.go (g1.trans g2))
theorem snd_op {r : R2} {rd : D2} {ta tb : TE} (hs : SndR X.K r rd) (sa : SndE X.K W ta da) (sb : SndE X.K W tb db) : SndE X.K W (tOp r ta tb) (dOp rd da db) := fun ρ Q E h l0 F H σ S Qc k kx => by
  refine sa ρ _ E h l0 F H σ S _ (fun x s F1 H1 g1 r1 q1 => ?_) kx
  refine sb ρ _ E q1 l0 F1 H1 σ (S.go g1) _ (fun y t F2 H2 g2 r2 q2 => ?_) (kx.go g1)
  exact hs x y s t Q q2 l0 F2 H2 g2.bs (r1.go g2) r2 Qc (k.go (g1.trans g2))
theorem de_cmp {op : CmpOp} {r : R2} {rd : D2} (ho : OpR X (compareOp op) r) (hs : SndR X.K r rd) (ha : DEX X W a xa da) (hb : DEX X W b xb db) (hm : behindInMarks op b = false) : DEX X W (.Compare a [op] [b] pos) (tOp r xa xb) (dOp rd da db) := by
  obtain ⟨pa, sa⟩ := ha
  obtain ⟨pb, sb⟩ := hb
  exact ⟨pe_cmpR ho pa pb hm, snd_op hs sa sb⟩
theorem de_ix {r : R2} {rd : D2} (ho : IxR X r) (hs : SndR X.K r rd) (ha : DEX X W a xa da) (hb : DEX X W b xb db) (hp : PlainIx b) : DEX X W (.Subscript a b pos) (tOp r xa xb) (dOp rd da db) := by
  obtain ⟨pa, sa⟩ := ha
  obtain ⟨pb, sb⟩ := hb
  exact ⟨pe_ix ho pa pb hp, snd_op hs sa sb⟩
theorem de_un {op : UnaryOp} {r : V → Hp → VK → Prop} {rd : D1} (ho : UnR X (unaryOp op) r) (hs : SndU X.K r rd) (ha : DEX X W a xa da) : DEX X W (.UnaryOp op a pos) (tUn r xa) (dUn rd da) := by
  obtain ⟨pa, sa⟩ := ha
  refine ⟨pe_un ho pa, fun ρ Q E h l0 F H σ S Qc k kx => ?_⟩
  refine sa ρ _ E h l0 F H σ S _ (fun x s F1 H1 g1 r1 q1 => ?_) kx
  exact hs x s Q q1 l0 F1 H1 g1.bs r1 Qc (k.go g1)
theorem snd_test {te : TE} (sa : SndE X.K W te de) : SndT X.K W (tTest te) (dTest de) := fun ρ Q E h l0 F H σ S Qc k kx => by
  refine sa ρ _ E h l0 F H σ S _ (fun x s F1 H1 g1 r1 q1 => ?_) kx
  obtain ⟨b, e, q⟩ := blS_of q1
  subst e
  cases r1
  exact ⟨b, rfl, k b F1 H1 g1 q⟩
theorem dt_cmp {op : CmpOp} {r : R2} {rd : D2} (ho : OpR X (compareOp op) r) (hs : SndR X.K r rd) (ha : DEX X W a xa da) (hb : DEX X W b xb db) (hm : behindInMarks op b = false) : DTX X W (.Compare a [op] [b] pos) (tTest (tOp r xa xb)) (dTest (dOp rd da db)) := by
  obtain ⟨pa, sa⟩ := ha
  obtain ⟨pb, sb⟩ := hb
  exact ⟨pt_cmpR ho pa pb hm, snd_test (snd_op hs sa sb)⟩
theorem snd_chain {r r' : R2} {rd rd' : D2} {ta tb tc : TE} (hs : SndR X.K r rd) (hs' : SndR X.K r' rd') (sa : SndE X.K W ta da) (sb : SndE X.K W tb db) (sc : SndE X.K W tc dc) : SndE X.K W (tChain r r' ta tb tc) (dChain rd rd' da db dc) := fun ρ Q E h l0 F H σ S Qc k kx => by
  refine sa ρ _ E h l0 F H σ S _ (fun x s F1 H1 g1 r1 q1 => ?_) kx
  refine sb ρ _ E q1 l0 F1 H1 σ (S.go g1) _ (fun y t F2 H2 g2 r2 q2 => ?_) (kx.go g1)
  refine hs x y s t _ q2 l0 F2 H2 g2.bs (r1.go g2) r2 _ fun z u F3 H3 g3 r3 q3 => ?_
  obtain ⟨b, e, q⟩ := blS_of q3
  subst e
  cases r3
  refine ⟨b, rfl, ?_⟩
  have g : Go l0 F H F3 H3 := (g1.trans g2).trans g3
  cases b with
  | true =>
    rw [if_pos rfl] at q ⊢
    refine sc ρ _ E q l0 F3 H3 σ (S.go g) _ (fun w' u F4 H4 g4 r4 q4 => ?_) (kx.go g)
    exact hs' y w' t u Q q4 l0 F4 H4 g4.bs ((r2.go g3).go g4) r4 Qc (k.go (g.trans g4))
  | false =>
    rw [if_neg Bool.false_ne_true] at q ⊢
    exact (k.go g).here g.bs q
theorem de_chain {op op' : CmpOp} {r r' : R2} {rd rd' : D2} (ho : OpR X (compareOp op) r) (ho' : OpR X (compareOp op') r') (hs : SndR X.K r rd) (hs' : SndR X.K r' rd') (ha : DEX X W a xa da) (hb : DEX X W b xb db) (hc : DEX X W c xc dc)
    (hm : lastMarks [op, op'] [b, c] = false := by with_unfolding_all rfl) : DEX X W (.Compare a [op, op'] [b, c] pos) (tChain r r' xa xb xc) (dChain rd rd' da db dc) := by
  obtain ⟨pa, sa⟩ := ha
  obtain ⟨pb, sb⟩ := hb
  obtain ⟨pc, sc⟩ := hc
  exact ⟨pe_chain ho ho' pa pb pc hm, snd_chain hs hs' sa sb sc⟩
theorem dt_chain {op op' : CmpOp} {r r' : R2} {rd rd' : D2} (ho : OpR X (compareOp op) r) (ho' : OpR X (compareOp op') r') (hs : SndR X.K r rd) (hs' : SndR X.K r' rd') (ha : DEX X W a xa da) (hb : DEX X W b xb db) (hc : DEX X W c xc dc)
    (hm : lastMarks [op, op'] [b, c] = false := by with_unfolding_all rfl) : DTX X W (.Compare a [op, op'] [b, c] pos) (tTest (tChain r r' xa xb xc)) (dTest (dChain rd rd' da db dc)) := by
  obtain ⟨pa, sa⟩ := ha
  obtain ⟨pb, sb⟩ := hb
  obtain ⟨pc, sc⟩ := hc
  exact ⟨pt_chain ho ho' pa pb pc hm, snd_test (snd_chain hs hs' sa sb sc)⟩
theorem dt_tru (ha : DEX X W a xa da) (he : ∀ whole, isTrue a X.env whole = (do let v ← whole; standAt a.pos; holding [v] (truthy v)) := by intro _; rfl) : DTX X W a (fun σ H Q => xa σ H fun x H' => ∃ k, TruV X.K x H' k ∧ Q k H') (dTru da) := by
  obtain ⟨pa, sa⟩ := ha
  refine ⟨pt_truth pa he, fun ρ Q E h l0 F H σ S Qc k kx => ?_⟩
  refine sa ρ _ E h l0 F H σ S _ (fun x s F1 H1 g1 r1 q1 => ?_) kx
  obtain ⟨b, t, q⟩ := truS_of g1.bs q1 r1
  exact ⟨b, t, k b F1 H1 g1 q⟩
theorem dt_w (h : DWX X W e ya ta) : DTX X W e ya ta := by
  obtain ⟨p, s⟩ := h
  exact ⟨p.pt, s⟩
theorem snd_and {t u : TT} (sa : SndT X.K W t ta) (sb : SndT X.K W u tb) : SndT X.K W (tAnd t u) (dAnd ta tb) := fun ρ Q E h l0 F H σ S Qc k kx => by
  refine sa ρ _ E h l0 F H σ S _ (fun c F1 H1 g1 q1 => ?_) kx
  cases c with
  | true =>
    rw [if_pos rfl] at q1 ⊢
    exact sb ρ Q E q1 l0 F1 H1 σ (S.go g1) Qc (fun b F2 H2 g2 q2 => k b F2 H2 (g1.trans g2) q2) (kx.go g1)
  | false =>
    rw [if_neg Bool.false_ne_true] at q1 ⊢
    exact k false F1 H1 g1 q1
theorem snd_or {t u : TT} (sa : SndT X.K W t ta) (sb : SndT X.K W u tb) : SndT X.K W (tOr t u) (dOr ta tb) := fun ρ Q E h l0 F H σ S Qc k kx => by
  refine sa ρ _ E h l0 F H σ S _ (fun c F1 H1 g1 q1 => ?_) kx
  cases c with
  | true =>
    rw [if_pos rfl] at q1 ⊢
    exact k true F1 H1 g1 q1
  | false =>
    rw [if_neg Bool.false_ne_true] at q1 ⊢
    exact sb ρ Q E q1 l0 F1 H1 σ (S.go g1) Qc (fun b F2 H2 g2 q2 => k b F2 H2 (g1.trans g2) q2) (kx.go g1)
theorem dt_not (h : DTX X W a ya ta) : DTX X W (.UnaryOp .Not a pos) (tNot ya) (dNot ta) := by
  obtain ⟨p, sa⟩ := h
  refine ⟨pt_not p, fun ρ Q E h l0 F H σ S Qc k kx => ?_⟩
  exact sa ρ _ E h l0 F H σ S _ (fun c F1 H1 g1 q1 => k (!c) F1 H1 g1 q1) kx
theorem de_if (hc : DTX X W c ya ta) (ha : DEX X W a xa da) (hb : DEX X W b xb db) : DEX X W (.IfExp c a b pos) (tIf ya xa xb) (dIf ta da db) := by
  obtain ⟨p, st⟩ := hc
  obtain ⟨pa, sa⟩ := ha
  obtain ⟨pb, sb⟩ := hb
  refine ⟨pe_ifExp p pa pb, fun ρ Q E h l0 F H σ S Qc k kx => ?_⟩
  refine st ρ _ E h l0 F H σ S _ (fun c F1 H1 g1 q1 => ?_) kx
  cases c with
  | true =>
    rw [if_pos rfl] at q1 ⊢
    exact sa ρ Q E q1 l0 F1 H1 σ (S.go g1) Qc (k.go g1) (kx.go g1)
  | false =>
    rw [if_neg Bool.false_ne_true] at q1 ⊢
    exact sb ρ Q E q1 l0 F1 H1 σ (S.go g1) Qc (k.go g1) (kx.go g1)
theorem da_nil : DAX X W [] tNil dNil := ⟨pa_nil, fun ρ Q E h l0 F H σ S Qc k _ => k [] [] F H (.refl S.bs) .nil h⟩
theorem da_cons {es : List Expr} {zr : TA} {dr : DA} (ha : DEX X W a xa da) (hr : DAX X W es zr dr) (hs : starEach (a :: es) X.env = (false, eval a X.env) :: starEach es X.env := by rfl) : DAX X W (a :: es) (tCons xa zr) (dCons da dr) := by
  obtain ⟨pa, sa⟩ := ha
  obtain ⟨pr, sr⟩ := hr
  refine ⟨pa_cons pa pr hs, fun ρ Q E h l0 F H σ S Qc k kx => ?_⟩
  refine sa ρ _ E h l0 F H σ S _ (fun x s F1 H1 g1 r1 q1 => ?_) kx
  refine sr ρ _ E q1 l0 F1 H1 σ (S.go g1) _ (fun xs ss F2 H2 g2 r2 q2 => ?_) (kx.go g1)
  exact k (x :: xs) (s :: ss) F2 H2 (g1.trans g2) (.cons (r1.go g2) r2) q2
theorem de_tup {es : List Expr} {zr : TA} {dr : DA} {x1} (h : DAX X W es zr dr) : DEX X W (.Tuple es x1 pos) (tTup zr) (dTup dr) := by
  obtain ⟨p, st⟩ := h
  refine ⟨pe_tup p, fun ρ Q E h l0 F H σ S Qc k kx => ?_⟩
  refine st ρ _ E h l0 F H σ S _ (fun xs ss F1 H1 g1 r1 q1 => ?_) kx
  obtain ⟨z, q1⟩ := q1
  obtain ⟨ds, e, q⟩ := plain_of q1
  subst e
  have r := dens_of r1
  refine ⟨by rw [pairs_len r1]; exact Evl.sz_of z, fun p hp => ?_⟩
  have g := Go.fresh (p := p) g1.bs (.tup xs) hp
  exact k (.ref p) (.dat (.tup ds)) _ _ (g1.trans g) (Den.tup (SqT.of upd_same) (Dens.mono g.ex r)) q
theorem de_lst {es : List Expr} {zr : TA} {dr : DA} (h : DAX X W es zr dr) : DEX X W (.List es pos) (tLst zr) (dLst dr) := by
  obtain ⟨p, st⟩ := h
  refine ⟨pe_lst p, fun ρ Q E h l0 F H σ S Qc k kx => ?_⟩
  refine st ρ _ E h l0 F H σ S _ (fun xs ss F1 H1 g1 r1 q1 => ?_) kx
  obtain ⟨z, q1⟩ := q1
  obtain ⟨ds, e, q⟩ := plain_of q1
  subst e
  have r := dens_of r1
  refine ⟨by rw [pairs_len r1]; exact Evl.sz_of z, fun p hp => ?_⟩
  have g := Go.fresh (p := p) g1.bs (.lst xs) hp
  exact k (.ref p) (.dat (.lst ds)) _ _ (g1.trans g) (Den.lst (SqL.of upd_same) (Dens.mono g.ex r)) q
theorem de_cb {id : String} {x : Str} {p : Pos} {es : List Expr} {zr : TA} {dr : DA} {r : List V → Hp → VK → Prop} {rd : DCl} (hc : CallR X (.builtin id) r) (hs : SndC X.K r rd) (hg : Gl X x) (hm : X.mg x = none) (hv : bootBuiltins x = some (.builtin id)) (ha : DAX X W (e :: es) zr dr) (hn : x ≠ "__name__" := by decide)
    (hdb : (x == ("__debug__" : Str)) = false := by decide) (he : starEach (e :: es) X.env = (false, eval e X.env) :: starEach es X.env := by rfl) (hpl : (backTo pos (starEach es X.env)).any (·.1) = false := by rfl) : DEX X W (.Call (.Name x p) (e :: es) [] pos) (tCB r zr) (dCB rd dr) := by
  obtain ⟨pa, st⟩ := ha
  refine ⟨pe_callB hc hg hm hv pa hn hdb he hpl, fun ρ Q E h l0 F H σ S Qc k kx => ?_⟩
  refine st ρ _ E h l0 F H σ S _ (fun xs ss F1 H1 g1 r1 q1 => ?_) kx
  exact hs xs ss Q q1 l0 F1 H1 g1.bs r1 Qc (k.go g1)
theorem de_ct {T : String} {x : Str} {p : Pos} {es : List Expr} {zr : TA} {dr : DA} {r : List V → Hp → VK → Prop} {rd : DCl} (hc : CallR X (.type T) r) (hs : SndC X.K r rd) (hg : Gl X x) (hm : X.mg x = none) (hv : bootBuiltins x = some (.type T)) (ha : DAX X W (e :: es) zr dr) (hn : x ≠ "__name__" := by decide)
    (hdb : (x == ("__debug__" : Str)) = false := by decide) (he : starEach (e :: es) X.env = (false, eval e X.env) :: starEach es X.env := by rfl) (hpl : (backTo pos (starEach es X.env)).any (·.1) = false := by rfl) : DEX X W (.Call (.Name x p) (e :: es) [] pos) (tCB r zr) (dCB rd dr) := by
  obtain ⟨pa, st⟩ := ha
  refine ⟨pe_callTy hc hg hm hv pa hn hdb he hpl, fun ρ Q E h l0 F H σ S Qc k kx => ?_⟩
  refine st ρ _ E h l0 F H σ S _ (fun xs ss F1 H1 g1 r1 q1 => ?_) kx
  exact hs xs ss Q q1 l0 F1 H1 g1.bs r1 Qc (k.go g1)
end

/-! ### operators -/
section
variable {K : PySem.W.Frag} {X : Cx}
theorem sr_I0 {g : Int → Int → V} : SndR K (rI0 g) (d2I0 g) := fun x y s t Q h l0 F H b r1 r2 Qc k => by
  obtain ⟨i, j, e1, e2, q⟩ := d2I0_of h
  subst e1 e2
  cases r1
  cases r2
  exact ⟨i, j, rfl, rfl, k.here b q⟩
theorem sr_I {C C' : Int → Int → Prop} {g : Int → Int → V} (hc : ∀ i j, C' i j → C i j) : SndR K (rI C g) (d2I C' g) := fun x y s t Q h l0 F H b r1 r2 Qc k => by
  obtain ⟨i, j, e1, e2, c, q⟩ := d2I_of h
  subst e1 e2
  cases r1
  cases r2
  exact ⟨i, j, rfl, rfl, hc i j c, k.here b q⟩
theorem su_I {g : Int → V} : SndU K (rU g) (d1I g) := fun x s Q h l0 F H b r1 Qc k => by
  obtain ⟨i, e1, q⟩ := d1I_of h
  subst e1
  cases r1
  exact ⟨i, rfl, k.here b q⟩
theorem OpR.or {f : Value → Value → Sem Value} {r r' : R2} (h : OpR X f r) (h' : OpR X f r') : OpR X f (fun x y H Q => r x y H Q ∨ r' x y H Q) := fun pins s σ H x y v u Q I rx ry q => by
  rcases q with q | q
  · exact h pins s σ H x y v u Q I rx ry q
  · exact h' pins s σ H x y v u Q I rx ry q
def CMulX (i j : Int) : Prop := CMul i j ∨ CMulW i j
theorem op_mulX : OpR X (binaryOp .Mult) (rI CMulX fun i j => .int (i * j)) := opI fun _ _ _ _ _ _ _ hc q => PyProof.Rows.mul_int q (hc.elim CMul.ok CMulW.ok)
theorem sr_mul : SndR K (rI CMulX fun i j => .int (i * j)) dMul := sr_I fun i j h => by
  rcases h with h | h | ⟨h1, h2⟩
  · exact .inl (.inl h)
  · exact .inl (.inr h)
  · exact .inr (wide_mul h1 h2 (by decide) (by decide) (by decide))
theorem sr_fdiv : SndR K (rI CDivW fun i j => .int (i / j)) dFdiv := sr_I fun i j h => wide_div (b := 250) h.1 (by
  obtain ⟨h1, h2⟩ := h
  have e : ((j.natAbs : Nat) : Int) < ((2 ^ 250 : Nat) : Int) := by
    rw [Int.natAbs_of_nonneg (Int.le_of_lt h1)]
    exact_mod_cast h2
  exact_mod_cast e) (by decide) (by decide)
theorem sr_mod : SndR K (rI (fun _ j => 0 < j) fun i j => .int (i % j)) dMod := sr_I fun _ _ h => h
theorem sr_pow : SndR K (rI CPow fun i j => .int (i ^ j.toNat)) dPow := sr_I fun _ _ h => h
theorem de_add0 {W : WX} {a b : Expr} {xa xb : TE} {da db : DE} {pos : Pos} (ha : DEX X W a xa da) (hb : DEX X W b xb db) : DEX X W (.BinOp a .Add b pos) (tOp (rI0 fun i j => .int (i + j)) xa xb) (dOp (d2I0 fun i j => .int (i + j)) da db) := de_op op_add sr_I0 ha hb
theorem de_sub {W : WX} {a b : Expr} {xa xb : TE} {da db : DE} {pos : Pos} (ha : DEX X W a xa da) (hb : DEX X W b xb db) : DEX X W (.BinOp a .Sub b pos) (tOp (rI0 fun i j => .int (i - j)) xa xb) (dOp dSub da db) := de_op op_sub sr_I0 ha hb
theorem de_mul {W : WX} {a b : Expr} {xa xb : TE} {da db : DE} {pos : Pos} (ha : DEX X W a xa da) (hb : DEX X W b xb db) : DEX X W (.BinOp a .Mult b pos) (tOp (rI CMulX fun i j => .int (i * j)) xa xb) (dOp dMul da db) := de_op op_mulX sr_mul ha hb
theorem de_fdiv {W : WX} {a b : Expr} {xa xb : TE} {da db : DE} {pos : Pos} (ha : DEX X W a xa da) (hb : DEX X W b xb db) : DEX X W (.BinOp a .FloorDiv b pos) (tOp (rI CDivW fun i j => .int (i / j)) xa xb) (dOp dFdiv da db) := de_op op_fdivW sr_fdiv ha hb
theorem de_mod {W : WX} {a b : Expr} {xa xb : TE} {da db : DE} {pos : Pos} (ha : DEX X W a xa da) (hb : DEX X W b xb db) : DEX X W (.BinOp a .Mod b pos) (tOp (rI (fun _ j => 0 < j) fun i j => .int (i % j)) xa xb) (dOp dMod da db) := de_op op_mod sr_mod ha hb
theorem de_pow {W : WX} {a b : Expr} {xa xb : TE} {da db : DE} {pos : Pos} (ha : DEX X W a xa da) (hb : DEX X W b xb db) : DEX X W (.BinOp a .Pow b pos) (tOp (rI CPow fun i j => .int (i ^ j.toNat)) xa xb) (dOp dPow da db) := de_op op_pow sr_pow ha hb
theorem de_neg {W : WX} {a : Expr} {xa : TE} {da : DE} {pos : Pos} (ha : DEX X W a xa da) : DEX X W (.UnaryOp .USub a pos) (tUn (rU fun i => .int (-i)) xa) (dUn dNeg da) := de_un un_neg su_I ha
/-- an item of a list or a tuple -/
def rIxS2 (K : PySem.W.Frag) : R2 := fun x y H Q => rIxL K x y H Q ∨ rIxT K x y H Q
theorem ix_S : IxR X (rIxS2 X.K) := ix_list.or ix_tup
theorem atI_len {α β : Type} {xs : List α} {ys : List β} {i : Int} {v : α} (e : xs.length = ys.length) (h : atI xs i = some v) : ∃ j : Nat, xs[j]? = some v ∧ ∀ w, ys[j]? = some w → atI ys i = some w := by
  unfold atI at h ⊢
  rw [e] at h
  cases q : ixN ys.length i with
  | none =>
    rw [q] at h
    cases h
  | some j =>
    rw [q] at h
    exact ⟨j, h, fun w hw => hw⟩
theorem Dens.atI {l0 : Addr} {F : Hp} {xs : List V} {ds : List Dt} {i : Int} {d : Dt} (r : Dens K l0 F xs ds) (h : L2.atI ds i = some d) : ∃ x, L2.atI xs i = some x ∧ Den K l0 F x d := by
  obtain ⟨j, h1, h2⟩ := atI_len r.length.symm h
  obtain ⟨x, h3, h4⟩ := r.get h1
  exact ⟨x, h2 x h3, h4⟩
theorem sr_ix : SndR K (rIxS2 K) dIx := fun x y s t Q h l0 F H b r1 r2 Qc k => by
  unfold dIx at h
  split at h
  · obtain ⟨d, h1, q⟩ := h
    obtain ⟨a, xs, e, z1, z2⟩ := r1.list b (.inl rfl)
    subst e
    cases r2
    obtain ⟨u, w1, w2⟩ := z2.atI h1
    exact .inl ⟨a, xs, _, u, rfl, rfl, z1, w1, k.dat b w2 q⟩
  · obtain ⟨d, h1, q⟩ := h
    obtain ⟨a, xs, e, z1, z2⟩ := r1.tuple b
    subst e
    cases r2
    obtain ⟨u, w1, w2⟩ := z2.atI h1
    exact .inr ⟨a, xs, _, u, rfl, rfl, z1, w1, k.dat b w2 q⟩
  · obtain ⟨d, h1, q⟩ := h
    obtain ⟨a, xs, e, z1, z2⟩ := r1.list b (.inr rfl)
    subst e
    cases r2
    obtain ⟨u, w1, w2⟩ := z2.atI h1
    exact .inl ⟨a, xs, _, u, rfl, rfl, z1, w1, k.dat b w2 q⟩
  · exact h.elim
theorem sc_abs : SndC K (fun xs H Q => ∃ i, xs = [.int i] ∧ Q (.int (if i < 0 then -i else i)) H) dAbs := fun vs ss Q h l0 F H b r Qc k => by
  unfold dAbs at h
  split at h
  · obtain ⟨⟩ | ⟨r1, ⟨⟩⟩ := r
    cases r1
    exact ⟨_, rfl, k.here b h⟩
  · exact h.elim
theorem sc_max2 : SndC K (fun xs H Q => ∃ i j, xs = [.int i, .int j] ∧ Q (.int (if j > i then j else i)) H) dMax2 := fun vs ss Q h l0 F H b r Qc k => by
  unfold dMax2 at h
  split at h
  · obtain ⟨⟩ | ⟨r1, ⟨⟩ | ⟨r2, ⟨⟩⟩⟩ := r
    cases r1
    cases r2
    exact ⟨_, _, rfl, k.here b h⟩
  · exact h.elim
theorem sc_min2 : SndC K (fun xs H Q => ∃ i j, xs = [.int i, .int j] ∧ Q (.int (if j < i then j else i)) H) dMin2 := fun vs ss Q h l0 F H b r Qc k => by
  unfold dMin2 at h
  split at h
  · obtain ⟨⟩ | ⟨r1, ⟨⟩ | ⟨r2, ⟨⟩⟩⟩ := r
    cases r1
    cases r2
    exact ⟨_, _, rfl, k.here b h⟩
  · exact h.elim
theorem sc_int1 : SndC K (fun xs H Q => (∃ i, xs = [.int i] ∧ Q (.int i) H) ∨ ∃ k, xs = [.bl k] ∧ Q (.int (if k then 1 else 0)) H) dInt1 := fun vs ss Q h l0 F H b r Qc k => by
  unfold dInt1 at h
  split at h
  · obtain ⟨⟩ | ⟨r1, ⟨⟩⟩ := r
    cases r1
    exact .inl ⟨_, rfl, k.here b h⟩
  · obtain ⟨⟩ | ⟨r1, ⟨⟩⟩ := r
    cases r1
    exact .inr ⟨_, rfl, k.here b h⟩
  · exact h.elim
/-- len of a list, a tuple, a text -/
def rLenA (K : PySem.W.Frag) : List V → Hp → VK → Prop := fun xs H Q => (∃ p ys, xs = [.ref p] ∧ (SqL K H p ys ∨ SqT K H p ys) ∧ Q (.int ys.length) H) ∨ ∃ z, xs = [.str z] ∧ z.length ≤ sizeLine ∧ Q (.int z.length) H
theorem call_lenA : CallR X (.builtin "len") (rLenA X.K) := call_len_seq.or call_len_str
theorem sc_len : SndC K (rLenA K) dLen := fun vs ss Q h l0 F H b r Qc k => by
  unfold dLen at h
  split at h
  · obtain ⟨⟩ | ⟨r1, ⟨⟩⟩ := r
    obtain ⟨a, xs, e, z1, z2⟩ := r1.list b (.inl rfl)
    subst e
    refine .inl ⟨a, xs, rfl, .inl z1, ?_⟩
    rw [z2.length]
    exact k.here b h
  · obtain ⟨⟩ | ⟨r1, ⟨⟩⟩ := r
    obtain ⟨a, xs, e, z1, z2⟩ := r1.tuple b
    subst e
    refine .inl ⟨a, xs, rfl, .inr z1, ?_⟩
    rw [z2.length]
    exact k.here b h
  · obtain ⟨⟩ | ⟨r1, ⟨⟩⟩ := r
    obtain ⟨a, xs, e, z1, z2⟩ := r1.list b (.inr rfl)
    subst e
    refine .inl ⟨a, xs, rfl, .inl z1, ?_⟩
    rw [z2.length]
    exact k.here b h
  · obtain ⟨⟩ | ⟨r1, ⟨⟩⟩ := r
    cases r1
    exact .inr ⟨_, rfl, Evl.sz_of h.1, k.here b h.2⟩
  · exact h.elim
theorem sc_maxL : SndC K (rMax K) dMaxL := fun vs ss Q h l0 F H b r Qc k => by
  unfold dMaxL at h
  split at h
  · obtain ⟨ns, e, h1, h2⟩ := h
    subst e
    obtain ⟨⟩ | ⟨r1, ⟨⟩⟩ := r
    obtain ⟨a, xs, e, z1, z2⟩ := r1.list b (.inl rfl)
    subst e
    rw [z2.ints] at z1
    exact ⟨a, ns, rfl, z1, h1, fun m hm hy => k.here b (h2 m hm hy)⟩
  · exact h.elim
theorem sc_minL : SndC K (rMin K) dMinL := fun vs ss Q h l0 F H b r Qc k => by
  unfold dMinL at h
  split at h
  · obtain ⟨ns, e, h1, h2⟩ := h
    subst e
    obtain ⟨⟩ | ⟨r1, ⟨⟩⟩ := r
    obtain ⟨a, xs, e, z1, z2⟩ := r1.list b (.inl rfl)
    subst e
    rw [z2.ints] at z1
    exact ⟨a, ns, rfl, z1, h1, fun m hm hy => k.here b (h2 m hm hy)⟩
  · exact h.elim
theorem sc_sum : SndC K (rSum K) dSum := fun vs ss Q h l0 F H b r Qc k => by
  unfold dSum at h
  split at h
  · obtain ⟨ns, e, h1⟩ := h
    subst e
    obtain ⟨⟩ | ⟨r1, ⟨⟩⟩ := r
    obtain ⟨a, xs, e, z1, z2⟩ := r1.list b (.inl rfl)
    subst e
    rw [z2.ints] at z1
    exact ⟨a, ns, rfl, z1, k.here b h1⟩
  · exact h.elim
end
end DW

set_option Elab.async false
set_option linter.all false
set_option maxRecDepth 100000
/-! DW, part 3: statements, loops, comprehensions, calls, defs. -/
namespace DW
open PySem L2
/-! ### slots that change -/
section
variable {K : PySem.W.Frag} {W : WX} {l0 : Addr} {F H F' H' : Hp} {σ : L2.St} {ρ : En} {v : V} {s : Sl} {i : Nat}
theorem wipe_at {i : Nat} : ∀ {vs : List Nat} {σ : L2.St}, i ∈ vs → (wipe σ vs)[i]? = if i < σ.length then some none else none
  | v :: vs, σ, h => by
    unfold wipe
    by_cases q : v = i
    · subst q
      by_cases z : v < σ.length
      · rw [List.getElem?_set_self (by rw [wipe_length]; exact z), if_pos z]
      · rw [List.getElem?_eq_none (by rw [List.length_set, wipe_length]; omega), if_neg z]
    · rw [List.getElem?_set_ne q]
      rcases List.mem_cons.mp h with e | h
      · exact absurd e.symm q
      · exact wipe_at h
theorem wipe_set {σ : L2.St} {i : Nat} {x : Option V} {vs : List Nat} (h : i ∈ vs) : wipe (σ.set i x) vs = wipe σ vs := by
  apply List.ext_getElem?
  intro j
  by_cases q : j ∈ vs
  · rw [wipe_at q, wipe_at q, List.length_set]
  · rw [wipe_out q, wipe_out q, List.getElem?_set_ne (fun e => q (by rw [← e]; exact h))]
theorem wipe_twice {σ : L2.St} {vs : List Nat} : wipe (wipe σ vs) vs = wipe σ vs := by
  apply List.ext_getElem?
  intro j
  by_cases q : j ∈ vs
  · rw [wipe_at q, wipe_at q, wipe_length]
  · rw [wipe_out q]
theorem lt_of_get {ρ : En} {i : Nat} {s : Sl} (h : ρ[i]? = some s) : i < ρ.length := (List.getElem?_eq_some_iff.mp h).1
/-- slot i gets a value that is data -/
theorem Stt.put {d : Dt} (S : Stt K l0 F H σ ρ) (i : Nat) (r : Den K l0 F v d) : Stt K l0 F H (σ.set i (some v)) (ρ.set i (.dat d)) := by
  refine ⟨S.bs, by rw [List.length_set, List.length_set]; exact S.len, fun j s h => ?_, fun j k s t a h1 h2 o1 o2 e1 e2 => ?_⟩
  · by_cases q : i = j
    · subst q
      have hl : i < ρ.length := by
        have := lt_of_get h
        rwa [List.length_set] at this
      rw [List.getElem?_set_self hl] at h
      cases h
      exact .inr ⟨v, by rw [List.getElem?_set_self (by rw [← S.len]; exact hl)], r⟩
    · rw [List.getElem?_set_ne q] at h
      rw [List.getElem?_set_ne q]
      exact S.sl j s h
  · have nj : i ≠ j := fun q => by
      subst q
      have hl : i < ρ.length := by
        have := lt_of_get h1
        rwa [List.length_set] at this
      rw [List.getElem?_set_self hl] at h1
      cases h1
      cases o1
    have nk : i ≠ k := fun q => by
      subst q
      have hl : i < ρ.length := by
        have := lt_of_get h2
        rwa [List.length_set] at this
      rw [List.getElem?_set_self hl] at h2
      cases h2
      cases o2
    rw [List.getElem?_set_ne nj] at h1 e1
    rw [List.getElem?_set_ne nk] at h2 e2
    exact S.ap j k s t a h1 h2 o1 o2 e1 e2
theorem OwS.put {d : Dt} {x : Option V} (i : Nat) : OwS H σ ρ (σ.set i x) (ρ.set i (.dat d)) := fun a ⟨j, s, h1, h2, h3⟩ => by
  by_cases q : i = j
  · subst q
    have hl : i < ρ.length := by
      have := lt_of_get h1
      rwa [List.length_set] at this
    rw [List.getElem?_set_self hl] at h1
    cases h1
    cases h2
  · rw [List.getElem?_set_ne q] at h1 h3
    exact .inl ⟨j, s, h1, h2, h3⟩
/-- slot i gets a new list of its own -/
theorem Stt.putOwn {l : Addr} {xs : List V} {ds : List Dt} (S : Stt K l0 F H σ ρ) (i : Nat) (hl : H l = none) (r : Dens K l0 F xs ds) : Stt K l0 F (upd H l (.lst xs)) (σ.set i (some (.ref l))) (ρ.set i (.own ds)) := by
  have g := Go.loose S.bs (.lst xs) hl
  have n0 : l ≠ l0 := fun e => S.bs.live (by rw [← e]; exact hl)
  have nF : F l = none := by
    cases e : F l with
    | none => rfl
    | some u =>
      rw [S.bs.sub l u e] at hl
      cases hl
  have S1 := S.go g
  -- no owned slot stands at l
  have far : ∀ (j : Nat) (s : Sl), ρ[j]? = some s → s.isOwn = true → σ[j]? ≠ some (some (.ref l)) := fun j s h o e => by
    rcases S.sl j s h with z | ⟨v, h1, h2⟩
    · subst z
      cases o
    · rw [e] at h1
      cases h1
      cases s with
      | own ds =>
        obtain ⟨l', xs', e', _, _, h3, _⟩ := h2
        cases e'
        rw [hl] at h3
        cases h3
      | oob p0 C fs =>
        obtain ⟨l', dx, gs, e', _, _, h3, _⟩ := h2
        cases e'
        rw [hl] at h3
        cases h3
      | odc kvs =>
        obtain ⟨l', xs', e', _, _, h3, _⟩ := h2
        cases e'
        rw [hl] at h3
        cases h3
      | emp => cases o
      | dat d => cases o
  refine ⟨g.bs, by rw [List.length_set, List.length_set]; exact S.len, fun j s h => ?_, fun j k s t a h1 h2 o1 o2 e1 e2 => ?_⟩
  · by_cases q : i = j
    · subst q
      have hl : i < ρ.length := by
        have := lt_of_get h
        rwa [List.length_set] at this
      rw [List.getElem?_set_self hl] at h
      cases h
      exact .inr ⟨.ref l, by rw [List.getElem?_set_self (by rw [← S.len]; exact hl)], l, xs, rfl, nF, n0, upd_same, r⟩
    · rw [List.getElem?_set_ne q] at h
      rw [List.getElem?_set_ne q]
      exact S1.sl j s h
  · by_cases qj : i = j
    · by_cases qk : i = k
      · exact qj.symm.trans qk
      · subst qj
        have hl : i < σ.length := by
          have := lt_of_get h1
          rw [List.length_set] at this
          rwa [← S.len]
        rw [List.getElem?_set_self hl] at e1
        cases e1
        rw [List.getElem?_set_ne qk] at h2 e2
        exact absurd e2 (far k t h2 o2)
    · by_cases qk : i = k
      · subst qk
        have hl : i < σ.length := by
          have := lt_of_get h2
          rw [List.length_set] at this
          rwa [← S.len]
        rw [List.getElem?_set_self hl] at e2
        cases e2
        rw [List.getElem?_set_ne qj] at h1 e1
        exact absurd e1 (far j s h1 o1)
      · rw [List.getElem?_set_ne qj] at h1 e1
        rw [List.getElem?_set_ne qk] at h2 e2
        exact S.ap j k s t a h1 h2 o1 o2 e1 e2
theorem OwS.putOwn {l : Addr} {ds : List Dt} (i : Nat) (hl : H l = none) : OwS H σ ρ (σ.set i (some (.ref l))) (ρ.set i (.own ds)) := fun a ⟨j, s, h1, h2, h3⟩ => by
  by_cases q : i = j
  · subst q
    by_cases hz : i < σ.length
    · rw [List.getElem?_set_self hz] at h3
      cases h3
      exact .inr hl
    · rw [List.getElem?_eq_none (by rw [List.length_set]; omega)] at h3
      cases h3
  · rw [List.getElem?_set_ne q] at h1 h3
    exact .inl ⟨j, s, h1, h2, h3⟩
theorem Stt.own {ds : List Dt} (S : Stt K l0 F H σ ρ) (h : ρ[i]? = some (.own ds)) : ∃ l xs, σ[i]? = some (some (.ref l)) ∧ F l = none ∧ l ≠ l0 ∧ H l = some (.lst xs) ∧ Dens K l0 F xs ds := by
  rcases S.sl i _ h with z | ⟨v, h1, l, xs, e, h2, h3, h4, h5⟩
  · cases z
  · subst e
    exact ⟨l, xs, h1, h2, h3, h4, h5⟩
/-- the own list of slot i is changed -/
theorem Stt.mut {l : Addr} {xs ys : List V} {ds es : List Dt} (S : Stt K l0 F H σ ρ) (hρ : ρ[i]? = some (.own ds)) (hσ : σ[i]? = some (some (.ref l))) (hF : F l = none) (n0 : l ≠ l0) (r : Dens K l0 F ys es) :
    Stt K l0 F (upd H l (.lst ys)) σ (ρ.set i (.own es)) ∧ GoS l0 F H σ ρ F (upd H l (.lst ys)) ∧ OwS H σ ρ σ (ρ.set i (.own es)) := by
  have ow : Ow σ ρ l := ⟨i, _, hρ, rfl, hσ⟩
  have nF : ∀ a o, F a = some o → a ≠ l := fun a o h e => by
    rw [e, hF] at h
    cases h
  have bs : Base l0 F (upd H l (.lst ys)) := by
    refine ⟨fun a o h => ?_, S.bs.nf, ?_⟩
    · rw [upd_ne (nF a o h)]
      exact S.bs.sub a o h
    · obtain ⟨ns, h1, h2⟩ := S.bs.dr
      exact ⟨ns, by rw [upd_ne n0.symm]; exact h1, h2⟩
  refine ⟨⟨bs, by rw [List.length_set]; exact S.len, fun j s h => ?_, fun j k s t a h1 h2 o1 o2 e1 e2 => ?_⟩, ⟨bs, fun _ _ h => h, fun a h1 h2 => absurd h1 h2, fun a o _ h e => ?_⟩, fun a ⟨j, s, h1, h2, h3⟩ => ?_⟩
  · by_cases q : i = j
    · subst q
      rw [List.getElem?_set_self (lt_of_get hρ)] at h
      cases h
      exact .inr ⟨.ref l, hσ, l, ys, rfl, hF, n0, upd_same, r⟩
    · rw [List.getElem?_set_ne q] at h
      rcases S.sl j s h with z | ⟨v, h1, h2⟩
      · exact .inl z
      · refine .inr ⟨v, h1, ?_⟩
        cases s with
        | emp => exact h2
        | dat d => exact h2
        | own ds' =>
          obtain ⟨l', xs', e', a1, a2, h3, a3⟩ := h2
          subst e'
          have ne : l' ≠ l := fun e => q (S.ap i j _ _ l hρ h rfl rfl hσ (by rw [h1, e]))
          exact ⟨l', xs', rfl, a1, a2, by rw [upd_ne ne]; exact h3, a3⟩
        | oob p0 C fs =>
          obtain ⟨l', dx, gs, e', a1, a2, h3, a3⟩ := h2
          subst e'
          have ne : l' ≠ l := fun e => q (S.ap i j _ _ l hρ h rfl rfl hσ (by rw [h1, e]))
          obtain ⟨l2, xs2, y1, _, _, y2, _⟩ := S.own hρ
          rw [hσ] at y1
          cases y1
          obtain ⟨a3, e1, e2, z1, z2, z3⟩ := a3
          have nd : dx ≠ l := fun z => by rw [z, y2] at z3; cases z3
          exact ⟨l', dx, gs, rfl, a1, a2, by rw [upd_ne ne]; exact h3, a3, e1, e2, z1, z2, by rw [upd_ne nd]; exact z3⟩
        | odc kvs =>
          obtain ⟨l', xs', e', a1, a2, h3, a3⟩ := h2
          subst e'
          have ne : l' ≠ l := fun e => q (S.ap i j _ _ l hρ h rfl rfl hσ (by rw [h1, e]))
          exact ⟨l', xs', rfl, a1, a2, by rw [upd_ne ne]; exact h3, a3⟩
  · have back : ∀ {j : Nat} {s : Sl}, (ρ.set i (.own es))[j]? = some s → s.isOwn = true → ∃ s', ρ[j]? = some s' ∧ s'.isOwn = true := fun {j s} h o => by
      by_cases q : i = j
      · subst q
        exact ⟨_, hρ, rfl⟩
      · rw [List.getElem?_set_ne q] at h
        exact ⟨s, h, o⟩
    obtain ⟨s', z1, z2⟩ := back h1 o1
    obtain ⟨t', z3, z4⟩ := back h2 o2
    exact S.ap j k s' t' a z1 z3 z2 z4 e1 e2
  · rw [upd_ne (fun z => h (by rw [z]; exact ow))]
    exact e
  · by_cases q : i = j
    · subst q
      exact .inl ⟨i, _, hρ, rfl, h3⟩
    · rw [List.getElem?_set_ne q] at h1
      exact .inl ⟨j, s, h1, h2, h3⟩
/-- the own list of slot i is frozen: from now on it is data -/
theorem Stt.freeze {ds : List Dt} (S : Stt K l0 F H σ ρ) (h : ρ[i]? = some (.own ds)) : ∃ F', Stt K l0 F' H σ (ρ.set i (.dat (.lst ds))) ∧ GoS l0 F H σ ρ F' H ∧ OwS H σ ρ σ (ρ.set i (.dat (.lst ds))) := by
  obtain ⟨l, xs, hσ, hF, n0, hl, r⟩ := S.own h
  have ow : Ow σ ρ l := ⟨i, _, h, rfl, hσ⟩
  have ex : Same F (upd F l (.lst xs)) := fun a o e => by
    rw [upd_ne (ne_of_none e hF)]
    exact e
  have bs : Base l0 (upd F l (.lst xs)) H := by
    refine ⟨fun a o e => ?_, by rw [upd_ne n0.symm]; exact S.bs.nf, S.bs.dr⟩
    by_cases q : a = l
    · subst q
      rw [upd_same] at e
      cases e
      exact hl
    · rw [upd_ne q] at e
      exact S.bs.sub a o e
  refine ⟨upd F l (.lst xs), ⟨bs, by rw [List.length_set]; exact S.len, fun j s e => ?_, fun j k s t a h1 h2 o1 o2 e1 e2 => ?_⟩, ⟨bs, ex, fun a h1 h2 => ?_, fun a o _ _ e => e⟩, fun a ⟨j, s, h1, h2, h3⟩ => ?_⟩
  · by_cases q : i = j
    · subst q
      rw [List.getElem?_set_self (lt_of_get h)] at e
      cases e
      exact .inr ⟨.ref l, hσ, Den.lst (SqL.of upd_same) (Dens.mono ex r)⟩
    · rw [List.getElem?_set_ne q] at e
      rcases S.sl j s e with z | ⟨v, h1, h2⟩
      · exact .inl z
      · refine .inr ⟨v, h1, ?_⟩
        cases s with
        | emp => exact h2
        | dat d => exact Den.mono ex h2
        | own ds' =>
          obtain ⟨l', xs', e', a1, a2, h3, a3⟩ := h2
          subst e'
          have ne : l' ≠ l := fun z => q (S.ap i j _ _ l h e rfl rfl hσ (by rw [h1, z]))
          exact ⟨l', xs', rfl, by rw [upd_ne ne]; exact a1, a2, h3, Dens.mono ex a3⟩
        | oob p0 C fs =>
          obtain ⟨l', dx, gs, e', a1, a2, h3, a3⟩ := h2
          subst e'
          have ne : l' ≠ l := fun z => q (S.ap i j _ _ l h e rfl rfl hσ (by rw [h1, z]))
          obtain ⟨a3, e1, e2, z1, z2, z3⟩ := a3
          have nd : dx ≠ l := fun z => by rw [z, hl] at z3; cases z3
          exact ⟨l', dx, gs, rfl, by rw [upd_ne ne]; exact a1, a2, h3, DenF.mono ex a3, e1, e2, by rw [upd_ne nd]; exact z1, z2, z3⟩
        | odc kvs =>
          obtain ⟨l', xs', e', a1, a2, h3, a3⟩ := h2
          subst e'
          have ne : l' ≠ l := fun z => q (S.ap i j _ _ l h e rfl rfl hσ (by rw [h1, z]))
          exact ⟨l', xs', rfl, by rw [upd_ne ne]; exact a1, a2, h3, DenK.mono ex a3⟩
  · have back : ∀ {j : Nat} {s : Sl}, (ρ.set i (.dat (.lst ds)))[j]? = some s → s.isOwn = true → ρ[j]? = some s := fun {j s} e o => by
      by_cases q : i = j
      · subst q
        rw [List.getElem?_set_self (lt_of_get h)] at e
        cases e
        cases o
      · rw [List.getElem?_set_ne q] at e
        exact e
    exact S.ap j k s t a (back h1 o1) (back h2 o2) o1 o2 e1 e2
  · by_cases q : a = l
    · subst q
      exact .inr ow
    · rw [upd_ne q] at h2
      exact absurd h1 h2
  · by_cases q : i = j
    · subst q
      rw [List.getElem?_set_self (lt_of_get h)] at h1
      cases h1
      cases h2
    · rw [List.getElem?_set_ne q] at h1
      exact .inl ⟨j, s, h1, h2, h3⟩
end

/-! ### readings of statements -/
def dNext : DS := fun D ρ => D.nx ρ
def dSeq (t u : DS) : DS := fun D ρ => t { D with nx := u D } ρ
def dBreak : DS := fun D ρ => D.bk ρ
def dCont : DS := fun D ρ => D.ct ρ
def retS (D : DEnds) : Sl → Prop
  | .dat d => D.rt d
  | .own ds => D.rt (.lst ds)
  | _ => False
def dRet (de : DE) : DS := fun D ρ => de ρ (retS D) fun x => D.ex x ρ
def dRetN : DS := fun D _ => D.rt .non
def dIfS (c : DTt) (t u : DS) : DS := fun D ρ => c ρ (fun b => if b = true then t D ρ else u D ρ) fun x => D.ex x ρ
def dNever : DS := fun _ _ => False
def dDrop (de : DE) : DS := fun D ρ => de ρ (fun _ => D.nx ρ) fun x => D.ex x ρ
/-- plain data -/
def datS (R : Dt → Prop) : Sl → Prop
  | .dat d => R d
  | _ => False
theorem datS_of {R : Dt → Prop} {s : Sl} (h : datS R s) : ∃ d, s = .dat d ∧ R d := by
  cases s with
  | dat d => exact ⟨d, rfl, h⟩
  | _ => exact h.elim
def dAsg (de : DE) (g : DG) : DS := fun D ρ => de ρ (fun s => g s ρ D.nx) fun x => D.ex x ρ
def gdName (i : Nat) : DG
  | .dat d, ρ, R => R (ρ.set i (.dat d))
  | _, _, _ => False
abbrev DGs := List Dt → En → (En → Prop) → Prop
def gdNil : DGs := fun ds ρ R => ds = [] ∧ R ρ
def gdCons (t : DG) (u : DGs) : DGs
  | d :: r, ρ, R => t (.dat d) ρ fun ρ' => u r ρ' R
  | [], _, _ => False
def gdTup (n : Nat) (t : DGs) : DG
  | .dat (.tup ds), ρ, R => ds.length = n ∧ t ds ρ R
  | _, _, _ => False
/-- name = [..], a list of its own -/
def dOwn (i : Nat) (a : DA) : DS := fun D ρ => a ρ (fun ss => ss.length ≤ 100000 ∧ plain ss fun ds => D.nx (ρ.set i (.own ds))) fun x => D.ex x ρ
/-- name.append(e) -/
def dApp (i : Nat) (de : DE) : DS := fun D ρ => match ρ.getD i .emp with
  | .own ds => de ρ (datS fun d => ds.length ≤ 100000 ∧ D.nx (ρ.set i (.own (ds ++ [d])))) fun x => D.ex x ρ
  | _ => False
/-- x = name.pop() -/
def dPop (i j : Nat) : DS := fun D ρ => match ρ.getD i .emp with
  | .own ds => ∃ es d, ds = es ++ [d] ∧ D.nx ((ρ.set i (.own es)).set j (.dat d))
  | _ => False
/-- the list in slot i is data from here on -/
def dFrz (i : Nat) (t : DS) : DS := fun D ρ => match ρ.getD i .emp with
  | .own ds => t D (ρ.set i (.dat (.lst ds)))
  | _ => False
def dAug (i : Nat) (de : DE) (r : D2) : DS := fun D ρ => useS (ρ.getD i .emp) fun x => de ρ (fun y => r x y (datS fun d => D.nx (ρ.set i (.dat d)))) fun x => D.ex x ρ
def dWhile (c : DTt) (b : DS) : DS := fun D ρ => ∃ (P : En → Prop) (μ : En → Nat), P ρ ∧ ∀ ρ', P ρ' → c ρ' (fun k => if k = true then b { D with nx := fun ρ2 => P ρ2 ∧ μ ρ2 < μ ρ', ct := fun ρ2 => P ρ2 ∧ μ ρ2 < μ ρ', bk := D.nx } ρ' else D.nx ρ') fun x => D.ex x ρ'
abbrev DI := En → (List Dt → Prop) → (Xn → Prop) → Prop
/-- a loop over ds: an invariant by the turn -/
def ForI (g : DG) (b : DS) (D : DEnds) (ds : List Dt) (ρ : En) : Prop := ∃ P : Nat → En → Prop, P 0 ρ ∧ (∀ (i : Nat) (x : Dt) (ρ' : En), ds[i]? = some x → P i ρ' → g (.dat x) ρ' fun ρ2 => b { D with nx := P (i + 1), ct := P (i + 1), bk := D.nx } ρ2) ∧ ∀ ρ', P ds.length ρ' → D.nx ρ'
def dFor (it : DI) (g : DG) (b : DS) : DS := fun D ρ => it ρ (fun ds => ForI g b D ds ρ) fun x => D.ex x ρ
def intsR (lo : Int) (n : Nat) : List Dt := (List.range n).map fun i => .v (.int (lo + (i : Nat)))
def iR1 (a : DA) : DI := fun ρ Q E => a ρ (fun ss => match ss with
  | [.dat (.v (.int j))] => -(2 ^ 62) ≤ j ∧ j < 2 ^ 62 ∧ Q (intsR 0 j.toNat)
  | _ => False) E
def iR2 (a : DA) : DI := fun ρ Q E => a ρ (fun ss => match ss with
  | [.dat (.v (.int i)), .dat (.v (.int j))] => -(2 ^ 62) ≤ i ∧ i < 2 ^ 62 ∧ -(2 ^ 62) ≤ j ∧ j < 2 ^ 62 ∧ Q (intsR i (j - i).toNat)
  | _ => False) E
def iSeq (a : DE) : DI := fun ρ Q E => a ρ (fun s => match s with
  | .dat (.lst ds) => Q ds
  | .dat (.tup ds) => Q ds
  | _ => False) E
def wipeD (ρ : En) : List Nat → En
  | [] => ρ
  | v :: vs => (wipeD ρ vs).set v .emp
/-- a comprehension over ds: an invariant by the turn, of the list so far -/
def LcI (g : DG) (t : DTt) (e : DE) (ρ : En) (ds : List Dt) (Q : List Dt → Prop) : Prop := ∃ P : Nat → List Dt → Prop, P 0 [] ∧ (∀ (i : Nat) (x : Dt) (acc : List Dt), ds[i]? = some x → P i acc → g (.dat x) ρ fun ρ2 => t ρ2 (fun b => if b = true then e ρ2 (datS fun d => acc.length ≤ 100000 ∧ P (i + 1) (acc ++ [d])) fun _ => False else P (i + 1) acc) fun _ => False) ∧ ∀ acc, P ds.length acc → Q acc
def dLc (it : DI) (g : DG) (t : DTt) (e : DE) (vs : List Nat) : DE := fun ρ Q E => it ρ (fun ds => LcI g t e (wipeD ρ vs) ds fun rs => Q (.dat (.lst rs))) E
def dYes : DTt := fun _ Q _ => Q true

/-! ### what a walked thing gives -/
structure Wlk (K : PySem.W.Frag) (l0 : Addr) (J : It) (F : Hp) (ds : List Dt) : Prop where
  go : ∀ i F' H', Same F F' → Base l0 F' H' → i < ds.length → J.go i H'
  yld : ∀ i F' H' x H2, Same F F' → Base l0 F' H' → i < ds.length → J.yld i H' x H2 → ∃ F2 d, Go l0 F' H' F2 H2 ∧ ds[i]? = some d ∧ Den K l0 F2 x d
  stop : ∀ F' H', Same F F' → Base l0 F' H' → J.stop ds.length H'
theorem Wlk.list {K : PySem.W.Frag} {l0 a : Addr} {F : Hp} {xs : List V} {ds : List Dt} (h : SqL K F a xs) (r : Dens K l0 F xs ds) : Wlk K l0 (Itl K a) F ds where
  go := fun i F' H' e b hi => by
    have hx : i < xs.length := by rw [r.length]; exact hi
    exact ⟨xs, xs[i], b.sub.seq (e.seq h), by simp [hx]⟩
  yld := fun i F' H' x H2 e b hi y => by
    obtain ⟨e2, y⟩ := y
    subst e2
    obtain ⟨d, h1, h2⟩ := r.getx (y xs (b.sub.seq (e.seq h)))
    exact ⟨F', d, .refl b, h1, Den.mono e h2⟩
  stop := fun F' H' e b => ⟨xs, b.sub.seq (e.seq h), by rw [r.length]; exact Nat.le_refl _⟩
theorem Wlk.tuple {K : PySem.W.Frag} {l0 a : Addr} {F : Hp} {xs : List V} {ds : List Dt} (h : SqT K F a xs) (r : Dens K l0 F xs ds) : Wlk K l0 (Itt K a) F ds where
  go := fun i F' H' e b hi => by
    have hx : i < xs.length := by rw [r.length]; exact hi
    exact ⟨xs, xs[i], sameT b.sub (sameT e h), by simp [hx]⟩
  yld := fun i F' H' x H2 e b hi y => by
    obtain ⟨e2, y⟩ := y
    subst e2
    obtain ⟨d, h1, h2⟩ := r.getx (y xs (sameT b.sub (sameT e h)))
    exact ⟨F', d, .refl b, h1, Den.mono e h2⟩
  stop := fun F' H' e b => ⟨xs, sameT b.sub (sameT e h), by rw [r.length]; exact Nat.le_refl _⟩
theorem intsR_len (lo : Int) (n : Nat) : (intsR lo n).length = n := by unfold intsR; rw [List.length_map, List.length_range]
theorem intsR_get {lo : Int} {n i : Nat} (h : i < n) : (intsR lo n)[i]? = some (.v (.int (lo + (i : Nat)))) := by
  unfold intsR
  rw [List.getElem?_map, List.getElem?_range h]
  rfl
theorem Wlk.range {K : PySem.W.Frag} {l0 : Addr} {F : Hp} {lo : Int} {n : Nat} : Wlk K l0 (Itr lo n) F (intsR lo n) where
  go := fun i F' H' e b hi => by
    rw [intsR_len] at hi
    exact hi
  yld := fun i F' H' x H2 e b hi y => by
    rw [intsR_len] at hi
    obtain ⟨e1, e2⟩ := y
    subst e1 e2
    exact ⟨F', _, .refl b, intsR_get hi, .v _⟩
  stop := fun F' H' e b => by
    show n ≤ (intsR lo n).length
    rw [intsR_len]
    exact Nat.le_refl _
def SndI (K : PySem.W.Frag) (W : WX) (wi : TI) (di : DI) : Prop := ∀ ρ Q E, di ρ Q E → ∀ l0 F H σ, Stt K l0 F H σ ρ → ∀ R : It → Hp → Prop, (∀ J ds F' H', Go l0 F H F' H' → Wlk K l0 J F' ds → Q ds → R J H') → KX K W l0 F H σ E → wi σ H R
def DIX (X : Cx) (W : WX) (tg it : Expr) (wi : TI) (di : DI) : Prop := PI X tg it wi ∧ SndI X.K W wi di

section
variable {X : Cx} {W : WX} {a b c e tg : Expr} {xa xb xc xe : TE} {ya yb : TT} {va vb : TS} {da db dc de : DE} {pos : Pos} {ta tb : DTt} {st : Stmt} {rest : List Stmt} {t u : DS}
theorem di_range1 {p : Pos} {zr : TA} {dr : DA} (hg : Gl X "range") (hm : X.mg "range" = none) (ha : DAX X W [a] zr dr) (hs : starEach [a] X.env = [(false, eval a X.env)] := by rfl) : DIX X W tg (.Call (.Name "range" p) [a] [] pos) (iRng1 zr) (iR1 dr) := by
  obtain ⟨pa, st⟩ := ha
  refine ⟨pi_range1 hg hm pa hs, fun ρ Q E h l0 F H σ S R k kx => ?_⟩
  have h : dr ρ _ E := h
  refine st ρ _ E h l0 F H σ S _ (fun xs ss F1 H1 g1 r1 q1 => ?_) kx
  split at q1
  · obtain ⟨h1, h2, q⟩ := q1
    obtain ⟨⟩ | ⟨r1, ⟨⟩⟩ := r1
    cases r1
    exact ⟨_, rfl, h1, h2, k _ _ F1 H1 g1 .range q⟩
  · exact q1.elim
theorem di_range2 {p : Pos} {zr : TA} {dr : DA} (hg : Gl X "range") (hm : X.mg "range" = none) (ha : DAX X W [a, b] zr dr) (hs : starEach [a, b] X.env = [(false, eval a X.env), (false, eval b X.env)] := by rfl) (hs2 : starEach [b] X.env = [(false, eval b X.env)] := by rfl) :
    DIX X W tg (.Call (.Name "range" p) [a, b] [] pos) (iRng2 zr) (iR2 dr) := by
  obtain ⟨pa, st⟩ := ha
  refine ⟨pi_range2 hg hm pa hs hs2, fun ρ Q E h l0 F H σ S R k kx => ?_⟩
  have h : dr ρ _ E := h
  refine st ρ _ E h l0 F H σ S _ (fun xs ss F1 H1 g1 r1 q1 => ?_) kx
  split at q1
  · obtain ⟨h1, h2, h3, h4, q⟩ := q1
    obtain ⟨⟩ | ⟨r1, ⟨⟩ | ⟨r2, ⟨⟩⟩⟩ := r1
    cases r1
    cases r2
    exact ⟨_, _, rfl, ⟨h1, h2, h3, h4⟩, k _ _ F1 H1 g1 .range q⟩
  · exact q1.elim
/-- a list or a tuple is walked -/
def iBoth (K : PySem.W.Frag) (tl : TE) : TI := fun σ H R => tl σ H fun x H1 => ∃ a, x = .ref a ∧ (((∃ xs, SqL K H1 a xs) ∧ R (Itl K a) H1) ∨ ((∃ xs, SqT K H1 a xs) ∧ R (Itt K a) H1))
theorem pi_both {l : Expr} {tl : TE} (hl : PE X l tl) : PI X tg l (iBoth X.K tl) := by
  refine ⟨fun pins s σ H R I h => ?_⟩
  refine thn (hl.run pins s σ H _ I h) fun v s1 ⟨x, H1, I1, r1, q1⟩ => ?_
  obtain ⟨a, e, q1⟩ := q1
  subst e
  cases r1
  rcases q1 with ⟨⟨xs, hq⟩, q⟩ | ⟨⟨xs, hq⟩, q⟩
  · obtain ⟨its, rv, p, hz⟩ := I1.list hq
    refine wpAny_pyIter_list p.isList ?_
    refine ⟨s1.heap.objs.size, [s1.heap.objs.size], _, _, H1, rfl, I1.kept (t' := s1.toks) fun b o e => Heap.get?_push_of_some _ e, turn_list a _, ⟨_, Heap.get?_push_size _ rfl, rfl, rfl⟩, fun b hb => ?_, q⟩
    have e : b = s1.heap.objs.size := by simpa using hb
    subst e
    exact I1.fpOk (Nat.le_refl _) (I1.hok.fresh (Nat.le_refl _))
  · obtain ⟨its, rv, p, hz⟩ := I1.tuple hq
    refine wpAny_pyIter_tuple (show s1.heap.IsTuple a its.toArray from p) ?_
    refine ⟨s1.heap.objs.size, [s1.heap.objs.size], _, _, H1, rfl, I1.kept (t' := s1.toks) fun b o e => Heap.get?_push_of_some _ e, turn_tuple a _, ⟨_, Heap.get?_push_size _ rfl, rfl, rfl⟩, fun b hb => ?_, q⟩
    have e : b = s1.heap.objs.size := by simpa using hb
    subst e
    exact I1.fpOk (Nat.le_refl _) (I1.hok.fresh (Nat.le_refl _))
theorem di_seq (ha : DEX X W a xa da) : DIX X W tg a (iBoth X.K xa) (iSeq da) := by
  obtain ⟨pa, st⟩ := ha
  refine ⟨pi_both pa, fun ρ Q E h l0 F H σ S R k kx => ?_⟩
  have h : da ρ _ E := h
  refine st ρ _ E h l0 F H σ S _ (fun x s F1 H1 g1 r1 q1 => ?_) kx
  dsimp only at q1
  split at q1
  · obtain ⟨a, xs, e, h1, h2⟩ := SlV.lst r1
    exact ⟨a, e, .inl ⟨⟨xs, g1.bs.sub.seq h1⟩, k _ _ F1 H1 g1 (.list h1 h2) q1⟩⟩
  · obtain ⟨a, xs, e, h1, h2⟩ := SlV.tup r1
    exact ⟨a, e, .inr ⟨⟨xs, sameT g1.bs.sub h1⟩, k _ _ F1 H1 g1 (.tuple h1 h2) q1⟩⟩
  · exact q1.elim

/-! ### targets -/
theorem dg_name (i : Nat) {x : Str} (hN : X.N.Nodup) (hi : X.N[i]? = some x := by rfl) (hx : Loc X.env.scope x := by first | exact .inl rfl | exact .inr rfl) (hf : X.fn x = true ∨ X.env.scope.names.lookup x = some .local := by first | exact .inl rfl | exact .inr rfl | assumption) :
    DGX X (.Name x pos) [i] (gName i) (gdName i) := by
  refine ⟨pg_name hN hi hx hf, fun s ρ R h l0 F H σ v S r Rc k => ?_⟩
  unfold gdName at h
  split at h
  · exact k F H _ _ (.refl S.bs) (.put i) (S.put i r) (fun vs hv => wipe_set (hv i (List.mem_singleton.mpr rfl))) h
  · exact h.elim
def SndGs (K : PySem.W.Frag) (ts : List Nat) (g : TGs) (dg : DGs) : Prop := ∀ ds ρ R, dg ds ρ R → ∀ l0 F H σ vs, Stt K l0 F H σ ρ → Dens K l0 F vs ds → ∀ Rc : L2.St → Hp → Prop,
  (∀ F' H' σ' ρ', Go l0 F H F' H' → OwS H σ ρ σ' ρ' → Stt K l0 F' H' σ' ρ' → (∀ vs : List Nat, (∀ j ∈ ts, j ∈ vs) → wipe σ' vs = wipe σ vs) → R ρ' → Rc σ' H') → g vs σ H Rc
def DGsX (X : Cx) (es : List Expr) (ts : List Nat) (g : TGs) (dg : DGs) : Prop := PGs X es g ∧ SndGs X.K ts g dg
theorem dgs_nil : DGsX X [] [] gNil gdNil := by
  refine ⟨pgs_nil, fun ds ρ R h l0 F H σ vs S r Rc k => ?_⟩
  obtain ⟨e, q⟩ := h
  subst e
  cases r
  exact ⟨rfl, k F H σ ρ (.refl S.bs) .refl S (fun _ _ => rfl) q⟩
theorem dgs_cons {es : List Expr} {g : TG} {gs : TGs} {t : DG} {u : DGs} {n1 n2 : List Nat} (h1 : DGX X e n1 g t) (h2 : DGsX X es n2 gs u) (hs : (assignEach (e :: es) X.env).map (·.2) = assign e X.env :: (assignEach es X.env).map (·.2) := by rfl) : DGsX X (e :: es) (n1 ++ n2) (gCons g gs) (gdCons t u) := by
  obtain ⟨p, sg⟩ := h1
  obtain ⟨ps, sgs⟩ := h2
  refine ⟨pgs_cons p ps hs, fun ds ρ R h l0 F H σ vs S r Rc k => ?_⟩
  cases ds with
  | nil => exact h.elim
  | cons d r' =>
    cases r with
    | cons r1 r2 =>
      refine ⟨_, _, rfl, sg _ ρ _ h l0 F H σ _ S r1 _ fun F1 H1 σ1 ρ1 g1 w1 S1 z1 q1 => ?_⟩
      exact sgs _ ρ1 R q1 l0 F1 H1 σ1 _ S1 (Dens.mono g1.ex r2) _ fun F2 H2 σ2 ρ2 g2 w2 S2 z2 q2 => k F2 H2 σ2 ρ2 (g1.trans g2) (OwS.trans S.bs (.of g1) w1 w2) S2 (fun vs hv => (z2 vs fun j hj => hv j (List.mem_append_right _ hj)).trans (z1 vs fun j hj => hv j (List.mem_append_left _ hj))) q2
theorem dg_tup {es : List Expr} {k : Nat} {g : TGs} {t : DGs} {n : Nat} {ns : List Nat} (hc : X.calm = true) (h : DGsX X es ns g t) (hn : (assignEach es X.env).length = n := by rfl) (hst : (assignEach es X.env).findIdx? (·.1) = none := by rfl) : DGX X (.Tuple es k pos) ns (gTup X.K n g) (gdTup n t) := by
  obtain ⟨p, sg⟩ := h
  refine ⟨pg_tup hc p hn hst, fun s ρ R h l0 F H σ v S r Rc k => ?_⟩
  unfold gdTup at h
  split at h
  · obtain ⟨a, xs, e, h1, h2⟩ := SlV.tup r
    exact ⟨a, xs, e, sameT S.bs.sub h1, by rw [h2.length]; exact h.1, sg _ ρ R h.2 l0 F H σ xs S h2 Rc k⟩
  · exact h.elim

/-! ### statements -/
theorem dss_nil : DSSX X W [] tNext dNext := ⟨pss_nil, fun D ρ h l0 F H σ S C L => L.nx F H σ ρ (.of (.refl S.bs)) .refl S h⟩
theorem dss_cons (h1 : DSX X W st va t) (h2 : DSSX X W rest vb u) : DSSX X W (st :: rest) (tSeq va vb) (dSeq t u) := by
  obtain ⟨p1, s1⟩ := h1
  obtain ⟨p2, s2⟩ := h2
  refine ⟨pss_cons p1 p2, fun D ρ h l0 F H σ S C L => ?_⟩
  refine s1 { D with nx := u D } ρ h l0 F H σ S { C with nx := vb C } ⟨fun F' H' σ' ρ' g w S' q => ?_, L.rt, L.bk, L.ct, L.ex, L.rs⟩
  exact s2 D ρ' q l0 F' H' σ' S' C (L.trans S.bs g w)
theorem dss_one (h1 : DSX X W st va t) : DSSX X W [st] va t := by
  obtain ⟨p1, s1⟩ := h1
  exact ⟨pss_one p1, s1⟩
theorem dss_frz (i : Nat) (h : DSSX X W rest va t) : DSSX X W rest va (dFrz i t) := by
  obtain ⟨p1, s1⟩ := h
  refine ⟨p1, fun D ρ h l0 F H σ S C L => ?_⟩
  unfold dFrz at h
  split at h
  · rename_i ds e
    have e2 : ρ[i]? = some (.own ds) := by
      rw [List.getD_eq_getElem?_getD] at e
      cases q : ρ[i]? with
      | none => rw [q] at e; cases e
      | some s => rw [q] at e; exact congrArg some e
    obtain ⟨F', S', g, w⟩ := S.freeze e2
    exact s1 D _ h l0 F' H σ S' C (L.trans S.bs g w)
  · exact h.elim
theorem getD_own {ρ : En} {i : Nat} {ds : List Dt} (e : ρ.getD i .emp = .own ds) : ρ[i]? = some (.own ds) := by
  rw [List.getD_eq_getElem?_getD] at e
  cases q : ρ[i]? with
  | none => rw [q] at e; cases e
  | some s => rw [q] at e; exact congrArg some e
theorem ds_pass : DSX X W (.Pass pos) tNext dNext := ⟨ps_pass, fun D ρ h l0 F H σ S C L => L.nx F H σ ρ (.of (.refl S.bs)) .refl S h⟩
theorem ds_doc {x j pos pos'} : DSX X W (.Expr (.Constant (.str x) j pos) pos') tNext dNext := ⟨ps_doc, fun D ρ h l0 F H σ S C L => L.nx F H σ ρ (.of (.refl S.bs)) .refl S h⟩
theorem ds_break : DSX X W (.Break pos) tBreak dBreak := ⟨ps_break, fun D ρ h l0 F H σ S C L => L.bk F H σ ρ (.of (.refl S.bs)) .refl S h⟩
theorem ds_continue : DSX X W (.Continue pos) tCont dCont := ⟨ps_continue, fun D ρ h l0 F H σ S C L => L.ct F H σ ρ (.of (.refl S.bs)) .refl S h⟩
theorem ds_never : DSX X W st tNever dNever := ⟨ps_never, fun D ρ h => h.elim⟩
theorem dss_never : DSSX X W rest tNever dNever := ⟨pss_never, fun D ρ h => h.elim⟩
/-- an own list of which nothing else is told may be handed out -/
theorem hand {K : PySem.W.Frag} {l0 : Addr} {F H F1 H1 : Hp} {σ : L2.St} {ρ : En} {D : DEnds} {C : Ends} {v : V} {s : Sl} (L : Lnk K W l0 F H σ ρ D C) (S : Stt K l0 F H σ ρ) (g : Go l0 F H F1 H1) (r : SlV K l0 F1 H1 v s) (ow : ∀ ds, s = .own ds → ∃ a : Addr, v = .ref a ∧ (Ow σ ρ a ∨ H a = none)) (q : retS D s) : C.rt v H1 := by
  unfold retS at q
  split at q
  · exact L.rt F1 H1 v _ (.of g) r q
  · rename_i ds
    obtain ⟨l, xs, e, hF, n0, hl, hd⟩ := r
    subst e
    obtain ⟨a, e, ha⟩ := ow ds rfl
    cases e
    have ex : Same F1 (upd F1 l (.lst xs)) := fun a o e => by
      rw [upd_ne (ne_of_none e hF)]
      exact e
    refine L.rt (upd F1 l (.lst xs)) H1 (.ref l) (.lst ds) ⟨⟨fun a o e => ?_, by rw [upd_ne n0.symm]; exact g.bs.nf, g.bs.dr⟩, fun a o e => ex a o (g.ex a o e), fun a h1 h2 => ?_, fun a o n _ e => g.keep a o n e⟩ (Den.lst (SqL.of upd_same) (Dens.mono ex hd)) q
    · by_cases z : a = l
      · subst z
        rw [upd_same] at e
        cases e
        exact hl
      · rw [upd_ne z] at e
        exact g.bs.sub a o e
    · by_cases z : a = l
      · subst z
        exact ha.symm
      · rw [upd_ne z] at h2
        exact .inl (g.new a h1 h2)
  · exact q.elim
/-- return of a name -/
theorem ds_retv (i : Nat) {x : Str} {p : Pos} (hN : X.N[i]? = some x := by rfl) (hv : Vis X.env.scope x := by first | exact Or.inl rfl | exact Or.inr (Or.inl rfl) | exact Or.inr (Or.inr rfl)) (hd : (x == ("__debug__" : Str)) = false := by decide)
    (hcd : (x == ("__classdict__" : Str)) = false := by decide) : DSX X W (.Return (some (.Name x p)) pos) (tRet (tVar i)) (dRet (dVar i)) := by
  refine ⟨ps_ret (pe_var hN hv hd hcd), fun D ρ h l0 F H σ S C L => ?_⟩
  obtain ⟨s, v, h0, h1, h2, q⟩ := S.use h
  refine ⟨v, h1, hand L S (.refl S.bs) h2 (fun ds e => ?_) q⟩
  subst e
  obtain ⟨l, xs, e, _⟩ := h2
  subst e
  exact ⟨l, rfl, .inl ⟨i, _, h0, rfl, h1⟩⟩
/-- return of an expression that is data -/
def dRetE (de : DE) : DS := fun D ρ => de ρ (datS D.rt) fun x => D.ex x ρ
theorem ds_ret (ha : DEX X W e xe de) : DSX X W (.Return (some e) pos) (tRet xe) (dRetE de) := by
  obtain ⟨p, se⟩ := ha
  refine ⟨ps_ret p, fun D ρ h l0 F H σ S C L => ?_⟩
  refine se ρ _ _ h l0 F H σ S _ (fun v s F1 H1 g1 r1 q1 => ?_) (L.kx S)
  obtain ⟨d, e, q1⟩ := datS_of q1
  subst e
  exact L.rt F1 H1 v _ (.of g1) r1 q1
theorem ds_retN : DSX X W (.Return none pos) tRetN dRetN := ⟨ps_retN, fun D ρ h l0 F H σ S C L => L.rt F H _ .non (.of (.refl S.bs)) (.v _) h⟩
theorem ds_if {p q : List Stmt} (hc : DTX X W c ya ta) (ha : DSSX X W p va t) (hb : DSSX X W q vb u) : DSX X W (.If c p q pos) (tIfS ya va vb) (dIfS ta t u) := by
  obtain ⟨pc, sc⟩ := hc
  obtain ⟨p1, s1⟩ := ha
  obtain ⟨p2, s2⟩ := hb
  refine ⟨ps_if pc p1 p2, fun D ρ h l0 F H σ S C L => ?_⟩
  refine sc ρ _ _ h l0 F H σ S _ (fun b F1 H1 g1 q1 => ?_) (L.kx S)
  have L1 := L.trans S.bs (.of g1) .refl
  cases b with
  | true =>
    rw [if_pos rfl] at q1 ⊢
    exact s1 D ρ q1 l0 F1 H1 σ (S.go g1) C L1
  | false =>
    rw [if_neg Bool.false_ne_true] at q1 ⊢
    exact s2 D ρ q1 l0 F1 H1 σ (S.go g1) C L1
theorem ds_expr (ha : DEX X W e xe de) (hs : swapsWith e none pos.line X.env = pure false := by rfl) : DSX X W (.Expr e pos) (tDrop xe) (dDrop de) := by
  obtain ⟨p, se⟩ := ha
  refine ⟨ps_expr p hs, fun D ρ h l0 F H σ S C L => ?_⟩
  exact se ρ _ _ h l0 F H σ S _ (fun v s F1 H1 g1 r1 q1 => L.nx F1 H1 σ ρ (.of g1) .refl (S.go g1) q1) (L.kx S)
theorem ds_asg {g' : TG} {g : DG} {ns : List Nat} (ha : DEX X W e xe de) (hg : DGX X tg ns g' g) (hs : swapsWithSole [tg] e pos.line X.env = pure false := by rfl) (hw : swappedStores [tg] e X.env = pure none := by rfl) (h1 : (assignEach [tg] X.env).map (·.2) = [assign tg X.env] := by rfl) : DSX X W (.Assign [tg] e pos) (tAsg xe g') (dAsg de g) := by
  obtain ⟨p, se⟩ := ha
  obtain ⟨pg, sg⟩ := hg
  refine ⟨ps_asg p pg hs hw h1, fun D ρ h l0 F H σ S C L => ?_⟩
  refine se ρ _ _ h l0 F H σ S _ (fun v s F1 H1 g1 r1 q1 => ?_) (L.kx S)
  exact sg s ρ _ q1 l0 F1 H1 σ v (S.go g1) r1 _ fun F2 H2 σ2 ρ2 g2 w2 S2 _ q2 => (L.trans S.bs (.of g1) .refl).nx F2 H2 σ2 ρ2 (.of g2) w2 S2 q2
theorem ds_own (i : Nat) {x : Str} {p : Pos} {es : List Expr} {pl : Pos} {zr : TA} {dr : DA} (hN : X.N.Nodup) (ha : DAX X W es zr dr) (hi : X.N[i]? = some x := by rfl) (hx : Loc X.env.scope x := by first | exact .inl rfl | exact .inr rfl)
    (hf : X.fn x = true ∨ X.env.scope.names.lookup x = some .local := by first | exact .inl rfl | exact .inr rfl | assumption) (hs : swapsWithSole [.Name x p] (.List es pl) pos.line X.env = pure false := by rfl) (hw : swappedStores [.Name x p] (.List es pl) X.env = pure none := by rfl) :
    DSX X W (.Assign [.Name x p] (.List es pl) pos) (tAsg (tLst zr) (gName i)) (dOwn i dr) := by
  obtain ⟨pa, sa⟩ := ha
  refine ⟨ps_asg (pe_lst pa) (pg_name hN hi hx hf) hs hw, fun D ρ h l0 F H σ S C L => ?_⟩
  refine sa ρ _ _ h l0 F H σ S _ (fun xs ss F1 H1 g1 r1 q1 => ?_) (L.kx S)
  obtain ⟨z, q1⟩ := q1
  obtain ⟨ds, e, q⟩ := plain_of q1
  subst e
  refine ⟨by rw [pairs_len r1]; exact Evl.sz_of z, fun l hl => ?_⟩
  have S1 := S.go g1
  exact (L.trans S.bs (.of g1) .refl).nx F1 _ _ _ (.of (Go.loose g1.bs (.lst xs) hl)) (.putOwn i hl) (S1.putOwn i hl (dens_of r1)) q
theorem ds_app (i : Nat) {x : Str} {p pa pc : Pos} (he : DEX X W e xe de) (hN : X.N[i]? = some x := by rfl) (hv : Vis X.env.scope x := by first | exact Or.inl rfl | exact Or.inr (Or.inl rfl) | exact Or.inr (Or.inr rfl)) (hd : (x == ("__debug__" : Str)) = false := by decide)
    (hcd : (x == ("__classdict__" : Str)) = false := by decide) (hst : starEach (e :: []) X.env = (false, eval e X.env) :: starEach [] X.env := by rfl) (hpl : (backTo pc (starEach [] X.env)).any (·.1) = false := by rfl)
    (hbase : attributeBase (.Name x p) "append" X.env (eval (.Name x p) X.env) = eval (.Name x p) X.env := by rfl)
    (hfew : ((backTo pc (starEach (e :: []) X.env)).all (fun x => !x.1) && (backToKw pc (keywordEach [] X.env)).all (fun x => x.1.isSome)
      && decide ((e :: []).length + ([] : List Keyword).length + (if ([] : List Keyword).isEmpty then 0 else 1) < 30)) = true := by rfl) (hline : (pa.endLine == pc.line) = true := by rfl)
    (hs : swapsWith (.Call (.Attribute (.Name x p) "append" pa) [e] [] pc) none pos.line X.env = pure false := by rfl) : DSX X W (.Expr (.Call (.Attribute (.Name x p) "append" pa) [e] [] pc) pos) (tDrop (tBM X.K "list" rAppend (tVar i) (tCons xe tNil))) (dApp i de) := by
  obtain ⟨pe, se⟩ := he
  refine ⟨ps_expr (pe_bm PySem.F.plainAttrs_list PySem.F.slot_list_append PySem.F.type_list_append mt_append (pe_var hN hv hd hcd) (pa_cons pe pa_nil hst) hbase hfew hline hst hpl) hs, fun D ρ h l0 F H σ S C L => ?_⟩
  unfold dApp at h
  split at h
  · rename_i ds e0
    have e1 := getD_own e0
    obtain ⟨l, xs, hσ, hF, n0, hl, r⟩ := S.own e1
    refine ⟨_, hσ, .inl ⟨rfl, xs, SqL.of hl⟩, ?_⟩
    refine se ρ _ _ h l0 F H σ S _ (fun v s F1 H1 g1 r1 q1 => ?_) (L.kx S)
    obtain ⟨d, e, z, q⟩ := datS_of q1
    subst e
    have S1 := S.go g1
    obtain ⟨l1, xs1, hσ1, hF1, n1, hl1, rr⟩ := S1.own e1
    rw [hσ] at hσ1
    cases hσ1
    obtain ⟨S2, g2, w2⟩ := S1.mut (xs := xs1) e1 hσ hF1 n1 (rr.append (Dens.one r1))
    exact ⟨l, xs1, v, rfl, rfl, hl1, by rw [rr.length]; exact Nat.lt_of_le_of_lt z (by decide), (L.trans S.bs (.of g1) .refl).nx F1 _ σ _ g2 w2 S2 q⟩
  · exact h.elim
theorem ds_aug (i : Nat) {x : Str} {p : Pos} {op : Operator} {r : TIp} {rd : D2} (hNd : X.N.Nodup) (ho : PIp X op r) (hs : SndR X.K r rd) (he : DEX X W e xe de) (hi : X.N[i]? = some x := by rfl) (hx : Loc X.env.scope x := by first | exact .inl rfl | exact .inr rfl)
    (hf : X.fn x = true ∨ X.env.scope.names.lookup x = some .local := by first | exact .inl rfl | exact .inr rfl | assumption) : DSX X W (.AugAssign (.Name x p) op e pos) (tAug i xe r) (dAug i de rd) := by
  obtain ⟨pe, se⟩ := he
  refine ⟨ps_aug hNd hi hx pe ho hf, fun D ρ h l0 F H σ S C L => ?_⟩
  obtain ⟨s, v, _, h1, h2, q⟩ := S.use h
  refine ⟨v, h1, ?_⟩
  refine se ρ _ _ q l0 F H σ S _ (fun u s2 F1 H1 g1 r1 q1 => ?_) (L.kx S)
  refine hs v u s s2 _ q1 l0 F1 H1 g1.bs (h2.go g1) r1 _ fun z s3 F2 H2 g2 r2 q2 => ?_
  obtain ⟨d, e, q2⟩ := datS_of q2
  subst e
  have g := g1.trans g2
  exact (L.trans S.bs (.of g) .refl).nx F2 H2 _ _ (.of (.refl g.bs)) (.put i) ((S.go g).put i r2) q2
theorem ds_while {body : List Stmt} (hp : PassesOwn (model X.prog X.w) X.A X.env X.xe) (hc : DTX X W c ya ta) (hb : DSSX X W body va t) : DSX X W (.While c body [] pos) (tWhile ya va) (dWhile ta t) := by
  obtain ⟨pc, sc⟩ := hc
  obtain ⟨p1, s1⟩ := hb
  refine ⟨ps_while hp pc p1, fun D ρ h l0 F H σ S C L => ?_⟩
  obtain ⟨P, μ, hP, hs⟩ := h
  refine ⟨fun m σ' H' => ∃ F' ρ', m = μ ρ' ∧ P ρ' ∧ Stt X.K l0 F' H' σ' ρ' ∧ GoS l0 F H σ ρ F' H' ∧ OwS H σ ρ σ' ρ', ⟨_, F, ρ, rfl, hP, S, .of (.refl S.bs), .refl⟩, ?_⟩
  rintro m σ1 H1 ⟨F1, ρ1, rfl, hP1, S1, g1, w1⟩
  have L1 := L.trans S.bs g1 w1
  refine sc ρ1 _ _ (hs ρ1 hP1) l0 F1 H1 σ1 S1 _ (fun b F2 H2 g2 q2 => ?_) (L1.kx S1)
  have L2 := L1.trans S1.bs (.of g2) .refl
  cases b with
  | true =>
    rw [if_pos rfl] at q2 ⊢
    have g12 := g1.trans S.bs w1 (.of g2)
    refine ⟨fun σ' H' => ∃ F' ρ', (P ρ' ∧ μ ρ' < μ ρ1) ∧ Stt X.K l0 F' H' σ' ρ' ∧ GoS l0 F H σ ρ F' H' ∧ OwS H σ ρ σ' ρ', fun σ' H' ⟨F', ρ', ⟨z1, z2⟩, S', g', w'⟩ => ⟨μ ρ', z2, F', ρ', rfl, z1, S', g', w'⟩, ?_⟩
    have S2 := S1.go g2
    have w12 : OwS H σ ρ σ1 ρ1 := w1
    have nx : ∀ F' H' σ' ρ', GoS l0 F2 H2 σ1 ρ1 F' H' → OwS H2 σ1 ρ1 σ' ρ' → Stt X.K l0 F' H' σ' ρ' → (P ρ' ∧ μ ρ' < μ ρ1) → ∃ F' ρ', (P ρ' ∧ μ ρ' < μ ρ1) ∧ Stt X.K l0 F' H' σ' ρ' ∧ GoS l0 F H σ ρ F' H' ∧ OwS H σ ρ σ' ρ' := fun F' H' σ' ρ' g' w' S' q' =>
      ⟨F', ρ', q', S', g12.trans S.bs w12 g', OwS.trans S.bs g12 w12 w'⟩
    exact s1 _ ρ1 q2 l0 F2 H2 σ1 S2 _ ⟨nx, L2.rt, L2.nx, nx, L2.ex, L2.rs⟩
  | false =>
    rw [if_neg Bool.false_ne_true] at q2 ⊢
    exact L2.nx F2 H2 σ1 ρ1 (.of (.refl g2.bs)) .refl (S1.go g2) q2
theorem ds_for {it : Expr} {body : List Stmt} {wi : TI} {g' : TG} {di : DI} {g : DG} {ns : List Nat} (hp : PassesOwn (model X.prog X.w) X.A X.env X.xe) (hc : X.calm = true) (hi : DIX X W tg it wi di) (hg : DGX X tg ns g' g) (hb : DSSX X W body va t) (hs : ∀ x, foldedSetIterable it X.env x = pure x := by intro _; rfl) :
    DSX X W (.For tg it body [] pos) (tFor wi g' va) (dFor di g t) := by
  obtain ⟨pi, si⟩ := hi
  obtain ⟨pg, sg⟩ := hg
  obtain ⟨p1, s1⟩ := hb
  refine ⟨ps_for hp hc pi pg p1 hs, fun D ρ h l0 F H σ S C L => ?_⟩
  refine si ρ _ _ h l0 F H σ S _ (fun J ds F1 H1 g1 wl q1 => ?_) (L.kx S)
  obtain ⟨P, q0, qt, qe⟩ := q1
  refine ⟨fun i m σ' H' => m = ds.length - i ∧ i ≤ ds.length ∧ ∃ F' ρ', Same F1 F' ∧ P i ρ' ∧ Stt X.K l0 F' H' σ' ρ' ∧ GoS l0 F H σ ρ F' H' ∧ OwS H σ ρ σ' ρ', ⟨ds.length, by simp, Nat.zero_le _, F1, ρ, fun _ _ h => h, q0, S.go g1, .of g1, .refl⟩, ?_⟩
  rintro i m σ2 H2 ⟨rfl, hi, F2, ρ2, ex2, q2, S2, g2, w2⟩
  by_cases hlt : i < ds.length
  · refine .inr ⟨wl.go i F2 H2 ex2 S2.bs hlt, fun σ' H' => ∃ F' ρ', Same F1 F' ∧ P (i + 1) ρ' ∧ Stt X.K l0 F' H' σ' ρ' ∧ GoS l0 F H σ ρ F' H' ∧ OwS H σ ρ σ' ρ', fun σ' H' z => ⟨ds.length - (i + 1), by omega, rfl, hlt, z⟩, fun x H3 y => ?_⟩
    obtain ⟨F3, d, g3, hd, r3⟩ := wl.yld i F2 H2 x H3 ex2 S2.bs hlt y
    have q2 := qt i d ρ2 hd q2
    have g23 := g2.trans S.bs w2 (.of g3)
    have L3 := L.trans S.bs g23 w2
    refine sg (.dat d) ρ2 _ q2 l0 F3 H3 σ2 x (S2.go g3) r3 _ fun F4 H4 σ4 ρ4 g4 w4 S4 _ q4 => ?_
    have g24 := g23.trans S.bs w2 (.of g4)
    have w24 := OwS.trans S.bs g23 w2 w4
    have L4 := L.trans S.bs g24 w24
    have nx : ∀ F' H' σ' ρ', GoS l0 F4 H4 σ4 ρ4 F' H' → OwS H4 σ4 ρ4 σ' ρ' → Stt X.K l0 F' H' σ' ρ' → P (i + 1) ρ' → ∃ F' ρ', Same F1 F' ∧ P (i + 1) ρ' ∧ Stt X.K l0 F' H' σ' ρ' ∧ GoS l0 F H σ ρ F' H' ∧ OwS H σ ρ σ' ρ' := fun F' H' σ' ρ' g' w' S' q' =>
      ⟨F', ρ', fun a o z => g'.ex a o (g4.ex a o (g3.ex a o (ex2 a o z))), q', S', g24.trans S.bs w24 g', OwS.trans S.bs g24 w24 w'⟩
    exact s1 _ ρ4 q4 l0 F4 H4 σ4 S4 _ ⟨nx, L4.rt, L4.nx, nx, L4.ex, L4.rs⟩
  · have e : i = ds.length := by omega
    subst e
    have q2 := qe ρ2 q2
    exact .inl ⟨wl.stop F2 H2 ex2 S2.bs, (L.trans S.bs g2 w2).nx F2 H2 σ2 ρ2 (.of (.refl S2.bs)) .refl S2 q2⟩
end
end DW

set_option Elab.async false
set_option linter.all false
set_option maxRecDepth 100000
/-! DW, part 4: comprehensions, calls, defs. -/
namespace DW
open PySem PySem.Spec PyProof.Rows L2
abbrev W0 : WX := fun _ _ _ _ => False
abbrev Sd := List Dt → (Dt → Prop) → (Xn → Prop) → Prop
/-- a promise over data as a promise over the heap -/
def spOf (K : PySem.W.Frag) (sd : Sd) : Sp := fun vs H Q E => ∃ l0 F ds Qd Ed, Base l0 F H ∧ Dens K l0 F vs ds ∧ sd ds Qd Ed ∧
  (∀ v d F' H', Go l0 F H F' H' → Den K l0 F' v d → Qd d → Q v H') ∧ (∀ cls dct x F' H', Go l0 F H F' H' → XDen K l0 F' H' cls dct x → Ed x → E cls dct H')
def viewS : List Sl → Option (List Dt)
  | [] => some []
  | .dat d :: r => (viewS r).map (d :: ·)
  | .own ds :: r => (viewS r).map (.lst ds :: ·)
  | _ :: _ => none
def anyOwn : List Sl → Bool
  | [] => false
  | .dat _ :: r => anyOwn r
  | _ :: _ => true
def callD (sd : Sd) (ss : List Sl) (Q : Sl → Prop) (E : Xn → Prop) : Prop := match viewS ss, anyOwn ss with
  | some ds, false => sd ds (fun d => Q (.dat d)) E
  | some ds, true => sd ds (fun d => ∃ x, d = .v x ∧ Q (.dat d)) (fun _ => False)
  | none, _ => False
def dCall (sd : Sd) (dd : List Dt) (da : DA) : DE := fun ρ Q E => da ρ (fun ss => callD sd (ss ++ dd.map Sl.dat) Q E) E
/-- own lists looked at as data; the result is a bare value -/
def viewEn (ρ : En) : En := ρ.map fun s => match s with
  | .own ds => .dat (.lst ds)
  | .oob p0 C fs => .emp
  | .odc kvs => .emp
  | s => s
def dView (de : DE) : DE := fun ρ Q _ => de (viewEn ρ) (fun s => ∃ x, s = .dat (.v x) ∧ Q s) fun _ => False
section
variable {K : PySem.W.Frag} {W : WX} {l0 : Addr} {F H F' H' : Hp} {σ : L2.St} {ρ : En}
theorem pairs_app {α β : Type} {R : α → β → Prop} : ∀ {xs ys : List α} {us ws : List β}, Paired R xs us → Paired R ys ws → Paired R (xs ++ ys) (us ++ ws)
  | [], _, [], _, .nil, s => s
  | _ :: _, _, _ :: _, _, .cons r t, s => .cons r (pairs_app t s)
/-- all but the list that is drawn from -/
def allOf (l0 : Addr) (H : Hp) : Hp := fun a => if a = l0 then none else H a
theorem allOf_same (b : Base l0 F H) : Same F (allOf l0 H) := fun a o e => by
  unfold allOf
  by_cases q : a = l0
  · subst q
    rw [b.nf] at e
    cases e
  · rw [if_neg q]
    exact b.sub a o e
theorem allOf_base (b : Base l0 F H) : Base l0 (allOf l0 H) H := by
  refine ⟨fun a o e => ?_, if_pos rfl, b.dr⟩
  unfold allOf at e
  by_cases q : a = l0
  · rw [if_pos q] at e
    cases e
  · rw [if_neg q] at e
    exact e
theorem Go.back (b : Base l0 F H) (g : Go l0 (allOf l0 H) H F' H') : Go l0 F H F H' := by
  refine ⟨⟨fun a o e => ?_, b.nf, g.bs.dr⟩, fun _ _ h => h, fun a h1 h2 => absurd h1 h2, g.keep⟩
  exact g.bs.sub a o (g.ex a o (allOf_same b a o e))
theorem view_dens (b : Base l0 F H) : ∀ {vs : List V} {ss : List Sl} {ds : List Dt}, Paired (SlV K l0 F H) vs ss → viewS ss = some ds → Dens K l0 (allOf l0 H) vs ds
  | [], [], _, .nil, e => by cases e; exact .nil
  | v :: vs, .dat d :: ss, ds, .cons r t, e => by
    have e : (viewS ss).map (d :: ·) = some ds := e
    cases q : viewS ss with
    | none => rw [q] at e; cases e
    | some es =>
      rw [q] at e
      cases e
      exact .cons (Den.mono (allOf_same b) r) (view_dens b t q)
  | v :: vs, .own xs :: ss, ds, .cons r t, e => by
    have e : (viewS ss).map (.lst xs :: ·) = some ds := e
    cases q : viewS ss with
    | none => rw [q] at e; cases e
    | some es =>
      rw [q] at e
      cases e
      obtain ⟨l, ys, e1, _, n0, hl, r2⟩ := r
      subst e1
      refine .cons (.lst (.inl (.inl ?_)) (Dens.mono (allOf_same b) r2)) (view_dens b t q)
      unfold allOf
      rw [if_neg n0]
      exact hl
  | v :: vs, .emp :: ss, ds, .cons r t, e => r.elim
  | v :: vs, .oob _ _ _ :: ss, ds, .cons r t, e => by cases e
  | v :: vs, .odc _ :: ss, ds, .cons r t, e => by cases e
theorem no_own : ∀ {vs : List V} {ss : List Sl} {ds : List Dt}, Paired (SlV K l0 F H) vs ss → anyOwn ss = false → viewS ss = some ds → Dens K l0 F vs ds
  | [], [], _, .nil, _, e => by cases e; exact .nil
  | v :: vs, .dat d :: ss, ds, .cons r t, n, e => by
    have e : (viewS ss).map (d :: ·) = some ds := e
    cases q : viewS ss with
    | none => rw [q] at e; cases e
    | some es =>
      rw [q] at e
      cases e
      exact .cons r (no_own t n q)
  | v :: vs, .own xs :: ss, ds, .cons r t, n, e => by cases n
  | v :: vs, .emp :: ss, ds, .cons r t, n, e => by cases n
  | v :: vs, .oob _ _ _ :: ss, ds, .cons r t, n, e => by cases n
  | v :: vs, .odc _ :: ss, ds, .cons r t, n, e => by cases n
theorem snd_call {sd : Sd} {dvs : List V} {dd : List Dt} {ta : TA} {da : DA} (hd : ∀ l0 F, Dens K l0 F dvs dd) (sa : SndA K W ta da) : SndE K W (tCallSD (spOf K sd) dvs (WE W) ta) (dCall sd dd da) := fun ρ Q E h l0 F H σ S Qc k kx => by
  refine sa ρ _ E h l0 F H σ S _ (fun vs ss F1 H1 g1 r1 q1 => ?_) kx
  have r2 : Paired (SlV K l0 F1 H1) (vs ++ dvs) (ss ++ dd.map Sl.dat) := pairs_app r1 (of_dens (hd l0 F1))
  unfold callD at q1
  split at q1
  · rename_i ds e1 e2
    refine ⟨l0, F1, ds, _, E, g1.bs, no_own r2 e2 e1, q1, fun v d F' H' g r q => ?_, fun cls dct x F' H' g r q => ?_⟩
    · exact k v (.dat d) F' H' (g1.trans g) r q
    · exact kx cls dct x F' H' (g1.trans g) r q
  · rename_i ds e1 e2
    refine ⟨l0, allOf l0 H1, ds, _, _, allOf_base g1.bs, view_dens g1.bs r2 e1, q1, fun v d F' H' g r q => ?_, fun cls dct x F' H' g r q => q.elim⟩
    obtain ⟨x, e, q⟩ := q
    subst e
    exact k v (.dat (.v x)) F1 H' (g1.trans (g.back g1.bs)) (by cases r; exact Den.v _) q
  · exact q1.elim
theorem Stt.view (S : Stt K l0 F H σ ρ) : Stt K l0 (allOf l0 H) H σ (viewEn ρ) := by
  refine ⟨allOf_base S.bs, by unfold viewEn; rw [List.length_map]; exact S.len, fun i s e => ?_, fun i j s t a h1 h2 o1 o2 e1 e2 => ?_⟩
  · unfold viewEn at e
    rw [List.getElem?_map] at e
    cases q : ρ[i]? with
    | none => rw [q] at e; cases e
    | some u =>
      rw [q] at e
      have e := Option.some.inj e
      rcases S.sl i u q with z | ⟨v, h1, h2⟩
      · subst z
        subst e
        exact .inl rfl
      · cases u with
        | emp => exact h2.elim
        | dat d =>
          subst e
          exact .inr ⟨v, h1, Den.mono (allOf_same S.bs) h2⟩
        | oob p0 C fs =>
          subst e
          exact .inl rfl
        | odc kvs =>
          subst e
          exact .inl rfl
        | own ds =>
          subst e
          obtain ⟨l, xs, e1, _, n0, hl, r⟩ := h2
          subst e1
          refine .inr ⟨.ref l, h1, Den.lst (.inl (.inl ?_)) (Dens.mono (allOf_same S.bs) r)⟩
          unfold allOf
          rw [if_neg n0]
          exact hl
  · unfold viewEn at h1
    rw [List.getElem?_map] at h1
    cases q : ρ[i]? with
    | none => rw [q] at h1; cases h1
    | some u =>
      rw [q] at h1
      have h1 := Option.some.inj h1
      cases u <;> subst h1 <;> cases o1
theorem snd_view {te : TE} {de : DE} (h : SndE K W0 te de) (hW : ∀ c d σ H, W0 c d σ H → W c d σ H) : SndE K W te (dView de) := fun ρ Q E q l0 F H σ S Qc k kx => by
  refine h (viewEn ρ) _ _ q l0 (allOf l0 H) H σ S.view Qc (fun v s F' H' g r q => ?_) fun _ _ _ _ _ _ _ z => z.elim
  obtain ⟨x, e, q⟩ := q
  subst e
  exact k v (.dat (.v x)) F H' (g.back S.bs) (by cases r; exact Den.v _) q
end

section
variable {X : Cx} {W : WX} {a b c e tg : Expr} {xa xb xc xe : TE} {ya yb : TT} {va vb : TS} {da db dc de : DE} {pos : Pos} {ta tb : DTt} {st : Stmt} {rest : List Stmt} {t u : DS}
/-! ### calls -/
theorem de_call {k : Nat} {f : Addr} {fd : FuncData} {ps : List Str} {sd : Sd} {dvs : List V} {ds : List Value} {dd : List Dt} {x : Str} {p : Pos} {es : List Expr} {zr : TA} {dr : DA} (F : FnOk X.prog X.w X.K X.mg X.base (L2.CX X.prog X.w) k f fd ps (spOf X.K sd)) (tk : Takes X W) (hr : Room k X.A) (hg : Gl X x) (hm : X.mg x = some (.ref f))
    (hk : PySem.W.keepIn X.K (.ref f) = true) (hb : Binds X.K fd ps ds) (hd : Vals dvs ds) (hdd : ∀ l0 F, Dens X.K l0 F dvs dd) (ha : DAX X W (e :: es) zr dr) (hdb : (x == ("__debug__" : Str)) = false := by decide)
    (he : starEach (e :: es) X.env = (false, eval e X.env) :: starEach es X.env := by rfl) (hpl : (backTo pos (starEach es X.env)).any (·.1) = false := by rfl) :
    DEX X W (.Call (.Name x p) (e :: es) [] pos) (tCallSD (spOf X.K sd) dvs (WE W) zr) (dCall sd dd dr) :=
  ⟨pe_callSD F hr hg hm hk hb hd (fun σ => passAt tk σ) ha.1 hdb he hpl, snd_call hdd ha.2⟩
theorem pe_callSD0 {CX : CXT} {k : Nat} {f : Addr} {fd : FuncData} {ps : List Str} {sp : Sp} {dvs : List V} {ds : List Value} {E : L2.St → XK} {x : Str} {p : Pos} (F : FnOk X.prog X.w X.K X.mg X.base CX k f fd ps sp) (hr : Room k X.A) (hg : Gl X x) (hm : X.mg x = some (.ref f)) (hk : PySem.W.keepIn X.K (.ref f) = true) (hb : Binds X.K fd ps ds) (hd : Vals dvs ds) (hx : ∀ σ, PassesAt CX X σ (E σ))
    (hdb : (x == ("__debug__" : Str)) = false := by decide) : PE X (.Call (.Name x p) [] [] pos) (tCallSD sp dvs E tNil) := by
  refine ⟨fun pins s σ H Q I h => ?_⟩
  refine wpAny_Call_Name_kw (ld_glob I hg hm ?_ hdb)
  exact PySem.W.callWith_K0 I.kIn hk (run_fnSD (us := []) F hr hb hd (hx σ) I .nil h)
theorem de_call0 {k : Nat} {f : Addr} {fd : FuncData} {ps : List Str} {sd : Sd} {dvs : List V} {ds : List Value} {dd : List Dt} {x : Str} {p : Pos} (F : FnOk X.prog X.w X.K X.mg X.base (L2.CX X.prog X.w) k f fd ps (spOf X.K sd)) (tk : Takes X W) (hr : Room k X.A) (hg : Gl X x) (hm : X.mg x = some (.ref f))
    (hk : PySem.W.keepIn X.K (.ref f) = true) (hb : Binds X.K fd ps ds) (hd : Vals dvs ds) (hdd : ∀ l0 F, Dens X.K l0 F dvs dd) (hdb : (x == ("__debug__" : Str)) = false := by decide) :
    DEX X W (.Call (.Name x p) [] [] pos) (tCallSD (spOf X.K sd) dvs (WE W) tNil) (dCall sd dd dNil) :=
  ⟨pe_callSD0 F hr hg hm hk hb hd (fun σ => passAt tk σ) hdb, snd_call hdd (fun ρ Q E h l0 F H σ S Qc k _ => k [] [] F H (.refl S.bs) .nil h)⟩
theorem dd_nil {K : PySem.W.Frag} : ∀ l0 F, Dens K l0 F [] [] := fun _ _ => .nil
/-- an expression over the own lists as they stand -/
theorem de_view (h : DEX X W0 e xe de) (hW : ∀ c d σ H, W0 c d σ H → W c d σ H := fun _ _ _ _ z => z.elim) : DEX X W e xe (dView de) := ⟨h.1, snd_view h.2 hW⟩
/-! ### comprehensions -/
def DTsX (X : Cx) (W : WX) (ifs : List Expr) (tt : TT) (dt : DTt) : Prop := PTs X ifs tt ∧ SndT X.K W tt dt
theorem dts_nil : DTsX X W [] tYes dYes := ⟨pts_nil, fun ρ Q E h l0 F H σ S Qc k _ => k true F H (.refl S.bs) h⟩
theorem dts_one (h : DTX X W c ya ta) : DTsX X W [c] ya ta := ⟨pts_one h.1, h.2⟩
theorem Stt.forget {K : PySem.W.Frag} {l0 : Addr} {F H : Hp} {σ : L2.St} {ρ : En} (S : Stt K l0 F H σ ρ) (i : Nat) : Stt K l0 F H (σ.set i none) (ρ.set i .emp) := by
  have back : ∀ {j : Nat} {s : Sl}, (ρ.set i .emp)[j]? = some s → s.isOwn = true → ρ[j]? = some s ∧ i ≠ j := fun {j s} h o => by
    by_cases q : i = j
    · subst q
      by_cases z : i < ρ.length
      · rw [List.getElem?_set_self z] at h
        cases h
        cases o
      · rw [List.getElem?_eq_none (by rw [List.length_set]; omega)] at h
        cases h
    · rw [List.getElem?_set_ne q] at h
      exact ⟨h, q⟩
  refine ⟨S.bs, by rw [List.length_set, List.length_set]; exact S.len, fun j s h => ?_, fun j k s t a h1 h2 o1 o2 e1 e2 => ?_⟩
  · by_cases q : i = j
    · subst q
      by_cases z : i < ρ.length
      · rw [List.getElem?_set_self z] at h
        cases h
        exact .inl rfl
      · rw [List.getElem?_eq_none (by rw [List.length_set]; omega)] at h
        cases h
    · rw [List.getElem?_set_ne q] at h
      rw [List.getElem?_set_ne q]
      exact S.sl j s h
  · obtain ⟨z1, n1⟩ := back h1 o1
    obtain ⟨z2, n2⟩ := back h2 o2
    rw [List.getElem?_set_ne n1] at e1
    rw [List.getElem?_set_ne n2] at e2
    exact S.ap j k s t a z1 z2 o1 o2 e1 e2
theorem Stt.wipe {K : PySem.W.Frag} {l0 : Addr} {F H : Hp} {σ : L2.St} {ρ : En} (S : Stt K l0 F H σ ρ) : ∀ vs : List Nat, Stt K l0 F H (L2.wipe σ vs) (wipeD ρ vs)
  | [] => S
  | v :: vs => (S.wipe vs).forget v
/-- a list that is new since H1 is changed -/
theorem Go.modNew {l0 D : Addr} {F1 H1 F H : Hp} {o : HO} (g : Go l0 F1 H1 F H) (hD : H1 D = none) (hF : F D = none) (n0 : D ≠ l0) : Go l0 F1 H1 F (upd H D o) := by
  refine ⟨⟨fun a u e => ?_, g.bs.nf, ?_⟩, g.ex, g.new, fun a u n e => ?_⟩
  · rw [upd_ne (ne_of_none e hF)]
    exact g.bs.sub a u e
  · obtain ⟨ns, h1, h2⟩ := g.bs.dr
    exact ⟨ns, by rw [upd_ne n0.symm]; exact h1, h2⟩
  · rw [upd_ne (ne_of_none e hD)]
    exact g.keep a u n e
theorem Go.frzNew {l0 D : Addr} {F1 H1 F H : Hp} {o : HO} (g : Go l0 F1 H1 F H) (hD : H1 D = none) (hF : F D = none) (n0 : D ≠ l0) (ho : H D = some o) : Go l0 F1 H1 (upd F D o) H := by
  refine ⟨⟨fun a u e => ?_, by rw [upd_ne n0.symm]; exact g.bs.nf, g.bs.dr⟩, fun a u e => ?_, fun a h1 h2 => ?_, g.keep⟩
  · by_cases q : a = D
    · subst q
      rw [upd_same] at e
      cases e
      exact ho
    · rw [upd_ne q] at e
      exact g.bs.sub a u e
  · rw [upd_ne (ne_of_none (g.ex a u e) hF)]
    exact g.ex a u e
  · by_cases q : a = D
    · subst q
      exact hD
    · rw [upd_ne q] at h2
      exact g.new a h1 h2
theorem Go.stays {l0 D : Addr} {F H F' H' : Hp} {o : HO} (g : Go l0 F H F' H') (hF : F D = none) (hH : H D = some o) : F' D = none := by
  cases e : F' D with
  | none => rfl
  | some u =>
    have z := g.new D hF (by rw [e]; exact fun z => nomatch z)
    rw [hH] at z
    cases z
theorem snd_lc {K : PySem.W.Frag} {wi : TI} {g : TG} {tt : TT} {te : TE} {di : DI} {dg : DG} {dt : DTt} {de : DE} {ts vs : List Nat} (hv : ∀ j ∈ ts, j ∈ vs) (si : SndI K W wi di) (sg : SndG K ts g dg) (st : SndT K W0 tt dt) (se : SndE K W0 te de) :
    SndE K W (tLc wi g tt te vs) (dLc di dg dt de vs) := fun ρ Q E h l0 F H σ S Qc k kx => by
  refine si ρ _ _ h l0 F H σ S _ (fun J ds F1 H1 g1 wl q1 => ?_) kx
  intro D hD
  have n0 : D ≠ l0 := fun e => g1.bs.live (by rw [← e]; exact hD)
  have FD : F1 D = none := by
    cases e : F1 D with
    | none => rfl
    | some u =>
      rw [g1.bs.sub D u e] at hD
      cases hD
  have S1 := S.go g1
  have noX : ∀ {F H σ}, KX K W0 l0 F H σ fun _ => False := fun _ _ _ _ _ _ _ z => z.elim
  obtain ⟨P, q0, qt, qe⟩ := q1
  refine ⟨fun i m H' => m = ds.length - i ∧ i ≤ ds.length ∧ ∃ F' acc xs, Go l0 F1 H1 F' H' ∧ F' D = none ∧ H' D = some (.lst xs) ∧ Dens K l0 F' xs acc ∧ P i acc, ⟨ds.length, by simp, Nat.zero_le _, F1, [], [], Go.loose g1.bs (.lst []) hD, FD, upd_same, .nil, q0⟩, ?_⟩
  rintro i m H2 ⟨rfl, hi, F2, acc, xs, g2, hF2, hD2, r2, q2⟩
  by_cases hlt : i < ds.length
  · refine .inr ⟨wl.go i F2 H2 g2.ex g2.bs hlt, fun H' => ∃ F' acc xs, Go l0 F1 H1 F' H' ∧ F' D = none ∧ H' D = some (.lst xs) ∧ Dens K l0 F' xs acc ∧ P (i + 1) acc, fun H' z => ⟨ds.length - (i + 1), by omega, rfl, hlt, z⟩, fun x H3 y => ?_⟩
    obtain ⟨F3, d, g3, hd, r3⟩ := wl.yld i F2 H2 x H3 g2.ex g2.bs hlt y
    have q2 := qt i d acc hd q2
    have g13 := g2.trans g3
    refine sg (.dat d) _ _ q2 l0 F3 H3 _ x ((S1.go g13).wipe vs) r3 _ fun F4 H4 σ4 ρ4 g4 w4 S4 z4 q4 => ?_
    refine ⟨(z4 vs hv).trans wipe_twice, ?_⟩
    refine st ρ4 _ _ q4 l0 F4 H4 σ4 S4 _ (fun b F5 H5 g5 q5 => ?_) noX
    have g25 := (g3.trans g4).trans g5
    have g15 := g2.trans g25
    have hF5 := g25.stays hF2 hD2
    have hD5 := g25.keep D _ n0 hD2
    have r5 := Dens.mono g25.ex r2
    cases b with
    | true =>
      rw [if_pos rfl] at q5 ⊢
      refine se ρ4 _ _ q5 l0 F5 H5 σ4 (S4.go g5) _ (fun v s F6 H6 g6 r6 q6 => ?_) noX
      obtain ⟨d6, e, z, q⟩ := datS_of q6
      subst e
      have hF6 := g6.stays hF5 hD5
      have hD6 := g6.keep D _ n0 hD5
      refine ⟨xs, hD6, by rw [r5.length]; exact Nat.lt_of_le_of_lt z (by decide), F6, _, _, (g15.trans g6).modNew hD hF6 n0, hF6, upd_same, (Dens.mono g6.ex r5).append (Dens.one r6), q⟩
    | false =>
      rw [if_neg Bool.false_ne_true] at q5 ⊢
      exact ⟨F5, acc, xs, g15, hF5, hD5, r5, q5⟩
  · have e : i = ds.length := by omega
    subst e
    have q2 := qe acc q2
    refine .inl ⟨wl.stop F2 H2 g2.ex g2.bs, ?_⟩
    have g := g2.frzNew hD hF2 n0 hD2
    exact k (.ref D) (.dat (.lst acc)) _ _ (g1.trans g) (Den.lst (SqL.of upd_same) (Dens.mono (fun a u e => by rw [upd_ne (ne_of_none e hF2)]; exact e) r2)) q2
theorem de_lc {elt iter : Expr} {ifs : List Expr} {scope : Scope} {own : List (Str × Nat)} {wi : TI} {g : TG} {tt : Shared → Hp → Addr → List (Str × Addr) → List Addr → TT} {te : Shared → Hp → Addr → List (Str × Addr) → List Addr → TE} {di : DI} {dg : DG} {dt : DTt} {ns : List Nat} (hc : X.calm = true) (hN : X.N.Nodup) (hi : DIX X W tg iter wi di) (ok : BlkOk X.N X.env.scope scope own)
    (hg : ∀ (s : Shared) (H : Hp) (C : Addr) (cl : List (Str × Addr)) (fp : List Addr), DGX (X.blk s H scope (compEnvC scope cl C X.env) fp) tg ns g dg) (ht : ∀ (s : Shared) (H : Hp) (C : Addr) (cl : List (Str × Addr)) (fp : List Addr), DTsX (X.blk s H scope (compEnvC scope cl C X.env) fp) W0 ifs (tt s H C cl fp) dt)
    (he : ∀ (s : Shared) (H : Hp) (C : Addr) (cl : List (Str × Addr)) (fp : List Addr), DEX (X.blk s H scope (compEnvC scope cl C X.env) fp) W0 elt (te s H C cl fp) de) (ett : ∀ (s : Shared) (H : Hp) (C : Addr) (cl : List (Str × Addr)) (fp : List Addr), tt s H C cl fp = tt X.s_0 X.H_0 0 [] [] := by intros; rfl) (ete : ∀ (s : Shared) (H : Hp) (C : Addr) (cl : List (Str × Addr)) (fp : List Addr), te s H C cl fp = te X.s_0 X.H_0 0 [] [] := by intros; rfl) (hv : ∀ j ∈ ns, j ∈ own.map (·.2) := by decide) (hs : ∀ x, foldedSetIterable iter X.env x = pure x := by intro _; rfl) :
    DEX X W (.ListComp elt [⟨tg, iter, ifs, 0⟩] scope pos) (tLc wi g (tt X.s_0 X.H_0 0 [] []) (te X.s_0 X.H_0 0 [] []) (own.map (·.2))) (dLc di dg dt de (own.map (·.2))) :=
  ⟨pe_lc hc hN hi.1 ok (fun s H C cl fp => (hg s H C cl fp).1) (fun s H C cl fp => ett s H C cl fp ▸ (ht s H C cl fp).1) (fun s H C cl fp => ete s H C cl fp ▸ (he s H C cl fp).1) hs,
    snd_lc hv hi.2 (hg X.s_0 X.H_0 0 [] []).2 (ht X.s_0 X.H_0 0 [] []).2 (he X.s_0 X.H_0 0 [] []).2⟩
/-- name = [..] on one line -/
theorem ds_setLc {i : Nat} {y : Str} {py spos : Pos} {elt iter : Expr} {ifs : List Expr} {scope : Scope} {own : List (Str × Nat)} {wi : TI} {g : TG} {tt : Shared → Hp → Addr → List (Str × Addr) → List Addr → TT} {te : Shared → Hp → Addr → List (Str × Addr) → List Addr → TE} {di : DI} {dg : DG} {dt : DTt} {ns : List Nat} (hc : X.calm = true) (hN : X.N.Nodup) (hy : X.N[i]? = some y) (hyl : X.env.scope.names.lookup y = some .local)
    (hsw : swapsWith (.ListComp elt [⟨tg, iter, ifs, 0⟩] scope pos) (some (.Name y py)) spos.line X.env = pure true) (hi : DIX X W tg iter wi di) (ok : BlkOk X.N X.env.scope scope own)
    (hg : ∀ (s : Shared) (H : Hp) (C : Addr) (cl : List (Str × Addr)) (fp : List Addr), DGX (X.blk s H scope (compEnvC scope cl C X.env) fp) tg ns g dg) (ht : ∀ (s : Shared) (H : Hp) (C : Addr) (cl : List (Str × Addr)) (fp : List Addr), DTsX (X.blk s H scope (compEnvC scope cl C X.env) fp) W0 ifs (tt s H C cl fp) dt)
    (he : ∀ (s : Shared) (H : Hp) (C : Addr) (cl : List (Str × Addr)) (fp : List Addr), DEX (X.blk s H scope (compEnvC scope cl C X.env) fp) W0 elt (te s H C cl fp) de) (ett : ∀ (s : Shared) (H : Hp) (C : Addr) (cl : List (Str × Addr)) (fp : List Addr), tt s H C cl fp = tt X.s_0 X.H_0 0 [] [] := by intros; rfl) (ete : ∀ (s : Shared) (H : Hp) (C : Addr) (cl : List (Str × Addr)) (fp : List Addr), te s H C cl fp = te X.s_0 X.H_0 0 [] [] := by intros; rfl) (hv : ∀ j ∈ ns, j ∈ own.map (·.2) := by decide) (hs : ∀ x, foldedSetIterable iter X.env x = pure x := by intro _; rfl) :
    DSX X W (.Assign [.Name y py] (.ListComp elt [⟨tg, iter, ifs, 0⟩] scope pos) spos) (tAsg (tLc wi g (tt X.s_0 X.H_0 0 [] []) (te X.s_0 X.H_0 0 [] []) (own.map (·.2))) (gName i)) (dAsg (dLc di dg dt de (own.map (·.2))) (gdName i)) := by
  refine ⟨ps_setLc hc hN hy hyl hsw hi.1 ok (fun s H C cl fp => (hg s H C cl fp).1) (fun s H C cl fp => ett s H C cl fp ▸ (ht s H C cl fp).1) (fun s H C cl fp => ete s H C cl fp ▸ (he s H C cl fp).1) hs, fun D ρ h l0 F H σ S C L => ?_⟩
  have se := snd_lc (W := W) hv hi.2 (hg X.s_0 X.H_0 0 [] []).2 (ht X.s_0 X.H_0 0 [] []).2 (he X.s_0 X.H_0 0 [] []).2
  refine se ρ _ _ h l0 F H σ S _ (fun v s F1 H1 g1 r1 q1 => ?_) (L.kx S)
  dsimp only at q1
  unfold gdName at q1
  split at q1
  · exact (L.trans S.bs (.of g1) .refl).nx F1 H1 _ _ (.of (.refl g1.bs)) (.put i) ((S.go g1).put i r1) q1
  · exact q1.elim
/-! ### pop -/
theorem ds_pop (i j : Nat) {x y : Str} {p p2 pa pc : Pos} (hNd : X.N.Nodup) (hN : X.N[i]? = some y := by rfl) (hv : Vis X.env.scope y := by first | exact Or.inl rfl | exact Or.inr (Or.inl rfl) | exact Or.inr (Or.inr rfl)) (hd : (y == ("__debug__" : Str)) = false := by decide)
    (hcd : (y == ("__classdict__" : Str)) = false := by decide) (hj : X.N[j]? = some x := by rfl) (hx : Loc X.env.scope x := by first | exact .inl rfl | exact .inr rfl) (hf : X.fn x = true ∨ X.env.scope.names.lookup x = some .local := by first | exact .inl rfl | exact .inr rfl | assumption)
    (hbase : attributeBase (.Name y p2) "pop" X.env (eval (.Name y p2) X.env) = eval (.Name y p2) X.env := by rfl) (hline : (pa.endLine == pc.line) = true := by rfl)
    (hs : swapsWithSole [.Name x p] (.Call (.Attribute (.Name y p2) "pop" pa) [] [] pc) pos.line X.env = pure false := by rfl) (hw : swappedStores [.Name x p] (.Call (.Attribute (.Name y p2) "pop" pa) [] [] pc) X.env = pure none := by rfl) :
    DSX X W (.Assign [.Name x p] (.Call (.Attribute (.Name y p2) "pop" pa) [] [] pc) pos) (tAsg (tBM0 X.K "list" rPop (tVar i)) (gName j)) (dPop i j) := by
  refine ⟨ps_asg (pe_bm0 PySem.F.plainAttrs_list PySem.F.slot_list_pop PySem.F.type_list_pop mt_pop (pe_var hN hv hd hcd) hbase hline) (pg_name hNd hj hx hf) hs hw, fun D ρ h l0 F H σ S C L => ?_⟩
  unfold dPop at h
  split at h
  · rename_i ds e0
    obtain ⟨es, d, e, q⟩ := h
    subst e
    have e1 := getD_own e0
    obtain ⟨l, xs, hσ, hF, n0, hl, r⟩ := S.own e1
    have last : ∃ ys y, xs = ys ++ [y] ∧ Dens X.K l0 F ys es ∧ Den X.K l0 F y d := by
      have hlen := r.length
      rw [List.length_append, List.length_singleton] at hlen
      obtain ⟨y, h1, h2⟩ := r.get (i := es.length) (d := d) (by simp)
      refine ⟨xs.take es.length, y, ?_, ?_, h2⟩
      · apply List.ext_getElem?
        intro k
        rcases Nat.lt_trichotomy k es.length with z | z | z
        · rw [List.getElem?_append_left (by rw [List.length_take]; omega), List.getElem?_take_of_lt z]
        · subst z
          rw [List.getElem?_append_right (by rw [List.length_take]; omega), List.length_take, Nat.min_eq_left (by omega), Nat.sub_self, h1]
          rfl
        · rw [List.getElem?_eq_none (by omega), List.getElem?_eq_none (by rw [List.length_append, List.length_take, List.length_singleton]; omega)]
      · clear h1 h2 hl hσ hlen L C q e0 e1 S
        induction es generalizing xs with
        | nil => exact .nil
        | cons a es ih =>
          cases r with
          | cons h t =>
            rw [List.length_cons, List.take_succ_cons]
            exact .cons h (ih _ t)
    obtain ⟨ys, y, e, ry, rd⟩ := last
    subst e
    obtain ⟨S2, g2, w2⟩ := S.mut (ys := ys) (xs := ys ++ [y]) e1 hσ hF n0 ry
    refine ⟨_, hσ, .inl ⟨rfl, _, SqL.of hl⟩, l, _, y, rfl, rfl, hl, by simp, ?_⟩
    rw [List.dropLast_concat]
    exact (L.trans S.bs g2 w2).nx F _ _ _ (.of (.refl S2.bs)) (.put j) (S2.put j rd) q
  · exact h.elim
end

/-! ### defs -/
def startD (n : Nat) (ds : List Dt) : En := ds.map Sl.dat ++ List.replicate (n - ds.length) .emp
theorem Stt.start {K : PySem.W.Frag} {l0 : Addr} {F H : Hp} {N : List Str} {vs : List V} {ds : List Dt} (b : Base l0 F H) (r : Dens K l0 F vs ds) : Stt K l0 F H (L2.start N vs) (startD N.length ds) := by
  have el := r.length
  have noOwn : ∀ {i : Nat} {s : Sl}, (startD N.length ds)[i]? = some s → s.isOwn = true → False := fun {i s} h o => by
    unfold startD at h
    by_cases z : i < ds.length
    · rw [List.getElem?_append_left (by rw [List.length_map]; exact z), List.getElem?_map] at h
      cases e : ds[i]? with
      | none => rw [e] at h; cases h
      | some d =>
        rw [e] at h
        cases h
        cases o
    · rw [List.getElem?_append_right (by rw [List.length_map]; omega)] at h
      have := List.mem_of_getElem? h
      rw [List.eq_of_mem_replicate this] at o
      cases o
  refine ⟨b, ?_, fun i s h => ?_, fun i j s t a h1 _ o1 _ _ _ => (noOwn h1 o1).elim⟩
  · unfold startD L2.start
    rw [List.length_append, List.length_append, List.length_map, List.length_map, List.length_replicate, List.length_replicate, el]
  · unfold startD at h
    by_cases z : i < ds.length
    · rw [List.getElem?_append_left (by rw [List.length_map]; exact z), List.getElem?_map] at h
      cases e : ds[i]? with
      | none => rw [e] at h; cases h
      | some d =>
        rw [e] at h
        cases h
        obtain ⟨x, h1, h2⟩ := r.get e
        refine .inr ⟨x, ?_, h2⟩
        unfold L2.start
        rw [List.getElem?_append_left (by rw [List.length_map, el]; exact z), List.getElem?_map, h1]
        rfl
    · rw [List.getElem?_append_right (by rw [List.length_map]; omega)] at h
      exact .inl (List.eq_of_mem_replicate (List.mem_of_getElem? h))
theorem GoS.go {l0 : Addr} {F H F' H' : Hp} {σ : L2.St} {ρ : En} (g : GoS l0 F H σ ρ F' H') (no : ∀ a, ¬ Ow σ ρ a) : Go l0 F H F' H' :=
  ⟨g.bs, g.ex, fun a h1 h2 => (g.new a h1 h2).elim id fun z => absurd z (no a), fun a o n e => g.keep a o n (no a) e⟩
theorem start_noOw {n : Nat} {ds : List Dt} {σ : L2.St} (a : Addr) : ¬ Ow σ (startD n ds) a := fun ⟨i, s, h, o, _⟩ => by
  unfold startD at h
  by_cases z : i < ds.length
  · rw [List.getElem?_append_left (by rw [List.length_map]; exact z), List.getElem?_map] at h
    cases e : ds[i]? with
    | none => rw [e] at h; cases h
    | some d =>
      rw [e] at h
      cases h
      cases o
  · rw [List.getElem?_append_right (by rw [List.length_map]; omega)] at h
    have := List.mem_of_getElem? h
    rw [List.eq_of_mem_replicate this] at o
    cases o
def dEnds (Q : Dt → Prop) (E : Xn → Prop) : DEnds := { nx := fun _ => Q .non, rt := Q, bk := fun _ => False, ct := fun _ => False, ex := fun x _ => E x }
/-- a def keeps its promise over data -/
theorem fn_d {P : Program} {w : World} {K : PySem.W.Frag} {mg : Str → Option Value} {base : Heap} {x qual : Str} {params : Arguments} {body : List Stmt} {scope : Scope} {dvs : List V} {kws : List (Str × V)} {f : Addr} {fd : FuncData} {N ps : List Str} {k : Nat} {sd : Sd} {ds : DS}
    (F : FunD K x qual params body scope dvs kws f fd) (S : FnScope N ps scope) (len : ∀ as Q E, sd as Q E → as.length = ps.length)
    (hb : ∀ (cdv : Value) (A : Around) (outer : List Env) (s : Shared) (H : Hp) (E : XK), Room k (A.deeper (envOfC qual scope s.heap.objs.size f cdv)) →
      ∃ ts, DSSX (cxOf (L2.CX P w) P w K mg base N qual scope f cdv A outer s H E) (fun cls d _ H => E cls d H) body ts ds)
    (hp : ∀ as Q E, sd as Q E → ds (dEnds Q E) (startD N.length as)) : FnOk P w K mg base (L2.CX P w) (k + 1) f fd ps (spOf K sd) := by
  refine F.ok S (fun vs H Q E h => ?_) fun cdv A outer s H vs Q E hr h => ?_
  · obtain ⟨l0, F, as, Qd, Ed, b, r, h, _, _⟩ := h
    rw [r.length]
    exact len as Qd Ed h
  · obtain ⟨l0, F, as, Qd, Ed, b, r, h, hq, he⟩ := h
    obtain ⟨ts, p, sd⟩ := hb cdv A outer s H E hr
    refine ⟨ts, p, sd _ _ (hp as Qd Ed h) l0 F H _ (Stt.start b r) _ ⟨fun F' H' σ' ρ' g w S' q => ?_, fun F' H' v d g r q => ?_, fun F' H' σ' ρ' g w S' q => q.elim, fun F' H' σ' ρ' g w S' q => q.elim, fun cls d x F' H' σ' ρ' g w S' r q => ?_, fun F' H' σ' ρ' v d g w S' r q => q.elim⟩⟩
    · exact hq .non .non F' H' (g.go start_noOw) (.v _) q
    · exact hq v d F' H' (g.go start_noOw) r q
    · exact he cls d x F' H' (g.go start_noOw) r q
end DW

set_option Elab.async false
set_option linter.all false
set_option maxRecDepth 100000
/-! DW, part 5: more operators; calls by bundles of facts. -/
namespace DW
open PySem PySem.Spec PyProof.Rows L2
/-! ### t + u of lists, of tuples, whatever holds them -/
def rCatL2 (K : PySem.W.Frag) : R2 := fun x y H Q => ∃ a b xs ys, x = .ref a ∧ y = .ref b ∧ SqL K H a xs ∧ SqL K H b ys ∧ xs.length + ys.length ≤ sizeLine ∧ ∀ p, H p = none → Q (.ref p) (upd H p (.lst (xs ++ ys)))
def rCatT2 (K : PySem.W.Frag) : R2 := fun x y H Q => ∃ a b xs ys, x = .ref a ∧ y = .ref b ∧ SqT K H a xs ∧ SqT K H b ys ∧ xs.length + ys.length ≤ sizeLine ∧
  (xs = [] → Q (.ref b) H) ∧ (xs ≠ [] → ys = [] → Q (.ref a) H) ∧ (xs ≠ [] → ys ≠ [] → ∀ p, H p = none → Q (.ref p) (upd H p (.tup (xs ++ ys))))
section
variable {X : Cx}
theorem op_catL2 : OpR X (binaryOp .Add) (rCatL2 X.K) := by
  intro pins s σ H x y v u Q I rx ry h
  obtain ⟨a, b, xs, ys, rfl, rfl, ha, hb, hz, q⟩ := h
  cases rx
  cases ry
  obtain ⟨its, r1, ⟨o1, n1, ho1, hc1, _, hd1⟩, z1⟩ := I.list ha
  obtain ⟨its2, r2, ⟨o2, n2, ho2, hc2, _, hd2⟩, z2⟩ := I.list hb
  obtain ⟨cls, dd, data, sl⟩ := o1
  obtain ⟨cls2, dd2, data2, sl2⟩ := o2
  simp only at hc1 hd1 hc2 hd2
  subst hc1 hd1 hc2 hd2
  have e : its.toArray ++ its2.toArray = (its ++ its2).toArray := by simp
  refine concat_meets ⟨_, ho1, rfl⟩ ⟨_, ho2, rfl⟩ noFill_list_add seq_list_add PySem.F.slot_list_add PySem.F.entry_list_add (PySem.F.args_list_add_2 _ _) (list_addW a b its.toArray its2.toArray n1 n2 dd dd2 sl sl2 (by rw [List.size_toArray, List.size_toArray, ← r1.length, ← r2.length]; exact hz)) ⟨ho1, ho2, ?_⟩
  rw [e]
  exact ⟨.ref _, _, I.lnew (t' := s.toks) (r1.append r2) (by rw [List.length_append]; exact hz), rfl, q _ I.fresh⟩
theorem op_catT2 : OpR X (binaryOp .Add) (rCatT2 X.K) := by
  intro pins s σ H x y v u Q I rx ry h
  obtain ⟨a, b, xs, ys, rfl, rfl, ha, hb, hz, q0, q1, q2⟩ := h
  cases rx
  cases ry
  by_cases hx : xs = []
  · obtain ⟨its, r1, ⟨o1, ho1, hc1, n1, hd1⟩, z1⟩ := I.tuple ha
    obtain ⟨its2, r2, ⟨o2, ho2, hc2, n2, hd2⟩, z2⟩ := I.tuple hb
    obtain ⟨cls, dd, data, sl⟩ := o1
    obtain ⟨cls2, dd2, data2, sl2⟩ := o2
    simp only at hc1 hd1 hc2 hd2
    subst hc1 hd1 hc2 hd2
    have e : its = [] := r1.nil_iff.mpr hx
    subst e
    exact concat_meets ⟨_, ho1, rfl⟩ ⟨_, ho2, rfl⟩ noFill_tuple_add seq_tuple_add PySem.F.slot_tuple_add PySem.F.entry_tuple_add (PySem.F.args_tuple_add_2 _ _)
      (tuple_addW0 a b #[] its2.toArray n1 n2 dd dd2 sl sl2 rfl) ⟨ho1, ho2, ⟨.ref b, H, I, rfl, q0 hx⟩⟩
  · exact op_catT pins s σ H (.ref a) (.ref b) (.ref a) (.ref b) Q I rfl rfl ⟨a, b, xs, ys, rfl, rfl, ha, hb, hx, hz, q1 hx, q2 hx⟩
end
/-! ### + -/
def rAddA (K : PySem.W.Frag) : R2 := fun x y H Q => rI0 (fun i j => .int (i + j)) x y H Q ∨ rCatL2 K x y H Q ∨ rCatT2 K x y H Q ∨ ∃ i j, x = .str i ∧ y = .str j ∧ i.length + j.length ≤ sizeLine ∧ Q (.str (i ++ j)) H
theorem op_addA {X : Cx} : OpR X (binaryOp .Add) (rAddA X.K) := OpR.or op_add (OpR.or op_catL2 (OpR.or op_catT2 op_add_str))
def dAdd : D2
  | .dat (.v (.int i)), .dat (.v (.int j)), Q => Q (.dat (.v (.int (i + j))))
  | .dat (.lst a), .dat (.lst b), Q => a.length + b.length ≤ 100000 ∧ Q (.dat (.lst (a ++ b)))
  | .dat (.tup a), .dat (.tup b), Q => a.length + b.length ≤ 100000 ∧ Q (.dat (.tup (a ++ b)))
  | .dat (.v (.str x)), .dat (.v (.str y)), Q => x.length + y.length ≤ 100000 ∧ Q (.dat (.v (.str (x ++ y))))
  | _, _, _ => False
theorem sr_add {K : PySem.W.Frag} : SndR K (rAddA K) dAdd := fun x y s t Q h l0 F H b r1 r2 Qc k => by
  unfold dAdd at h
  split at h
  · cases r1
    cases r2
    exact .inl ⟨_, _, rfl, rfl, k.here b h⟩
  · obtain ⟨z, q⟩ := h
    obtain ⟨a1, xs, e1, z1, z2⟩ := r1.list b (.inl rfl)
    obtain ⟨a2, ys, e2, w1, w2⟩ := r2.list b (.inl rfl)
    subst e1 e2
    refine .inr (.inl ⟨a1, a2, xs, ys, rfl, rfl, z1, w1, by rw [z2.length, w2.length]; exact Evl.sz_of z, fun p hp => ?_⟩)
    have g := Go.fresh (p := p) b (.lst (xs ++ ys)) hp
    exact k (.ref p) (.dat (.lst _)) _ _ g (Den.lst (SqL.of upd_same) (Dens.mono g.ex (z2.append w2))) q
  · obtain ⟨z, q⟩ := h
    obtain ⟨a1, xs, e1, z1, z2⟩ := r1.tuple b
    obtain ⟨a2, ys, e2, w1, w2⟩ := r2.tuple b
    subst e1 e2
    refine .inr (.inr (.inl ⟨a1, a2, xs, ys, rfl, rfl, z1, w1, by rw [z2.length, w2.length]; exact Evl.sz_of z, fun e => ?_, fun _ e => ?_, fun _ _ p hp => ?_⟩))
    · subst e
      cases z2
      exact k (.ref a2) (.dat (.tup _)) _ _ (.refl b) r2 q
    · subst e
      cases w2
      rw [List.append_nil] at q
      exact k (.ref a1) (.dat (.tup _)) _ _ (.refl b) r1 q
    · have g := Go.fresh (p := p) b (.tup (xs ++ ys)) hp
      exact k (.ref p) (.dat (.tup _)) _ _ g (Den.tup (SqT.of upd_same) (Dens.mono g.ex (z2.append w2))) q
  · cases r1
    cases r2
    exact .inr (.inr (.inr ⟨_, _, rfl, rfl, Evl.sz_of h.1, k.here b h.2⟩))
  · exact h.elim
/-! ### ==, != of data -/
mutual
def toPy : Dt → Option PyData
  | .v .non => some .none
  | .v (.bl b) => some (.bool b)
  | .v (.int i) => some (.int i)
  | .v (.str x) => some (.str x)
  | .lst ds => (toPys ds).map .list
  | .tup ds => (toPys ds).map .tuple
  | _ => none
def toPys : List Dt → Option (List PyData)
  | [] => some []
  | d :: ds => match toPy d, toPys ds with
    | some x, some xs => some (x :: xs)
    | _, _ => none
end
def pyS : Sl → Option PyData
  | .dat d => toPy d
  | .own ds => toPy (.lst ds)
  | _ => none
section
variable {K : PySem.W.Frag} {l0 : Addr} {F H : Hp}
mutual
theorem den_py (b : Same F H) : ∀ {v : V} {d : Dt} {e : PyData}, Den K l0 F v d → toPy d = some e → Dp K H v e
  | _, _, e, .v x, h => by
    cases x <;> simp only [toPy, Option.some.injEq, reduceCtorEq] at h
    all_goals (subst h; constructor)
  | _, _, e, .lst (ds := ds) s r, h => by
    simp only [toPy, Option.map_eq_some_iff] at h
    obtain ⟨es, h1, h2⟩ := h
    subst h2
    exact .lst (b.seq s) (dens_py b r h1)
  | _, _, e, .tup (ds := ds) s r, h => by
    simp only [toPy, Option.map_eq_some_iff] at h
    obtain ⟨es, h1, h2⟩ := h
    subst h2
    exact .tup (sameT b s) (dens_py b r h1)
  | _, _, e, .obj _ _, h => by simp only [toPy, reduceCtorEq] at h
  | _, _, e, .slt _ _ _ _, h => by simp only [toPy, reduceCtorEq] at h
  | _, _, e, .exc _ _, h => by simp only [toPy, reduceCtorEq] at h
  | _, _, e, .exc0, h => by simp only [toPy, reduceCtorEq] at h
  | _, _, e, .dct _ _, h => by simp only [toPy, reduceCtorEq] at h
  | _, _, e, .drw, h => by simp only [toPy, reduceCtorEq] at h
theorem dens_py (b : Same F H) : ∀ {v : List V} {d : List Dt} {e : List PyData}, Dens K l0 F v d → toPys d = some e → DpAll K H v e
  | _, _, e, .nil, h => by
    simp only [toPys, Option.some.injEq] at h
    subst h
    exact .nil
  | _, _, e, .cons (d := d) (ds := ds) r t, h => by
    simp only [toPys] at h
    cases e1 : toPy d with
    | none => rw [e1] at h; cases h
    | some x =>
      cases e2 : toPys ds with
      | none => rw [e1, e2] at h; cases h
      | some xs =>
        rw [e1, e2] at h
        cases h
        exact .cons (den_py b r e1) (dens_py b t e2)
end
theorem sl_py (b : Base l0 F H) {v : V} {s : Sl} {e : PyData} (r : SlV K l0 F H v s) (h : pyS s = some e) : Dp K H v e := by
  cases s with
  | emp => exact r.elim
  | dat d => exact den_py b.sub r h
  | own ds =>
    obtain ⟨l, xs, e1, _, _, hl, r2⟩ := r
    subst e1
    have h : toPy (.lst ds) = some e := h
    simp only [toPy, Option.map_eq_some_iff] at h
    obtain ⟨es, h1, h2⟩ := h
    subst h2
    exact .lst (SqL.of hl) (dens_py b.sub r2 h1)
  | oob p0 C fs => cases h
  | odc kvs => cases h
end
def dEq : D2 := fun x y Q => ∃ d e, pyS x = some d ∧ pyS y = some e ∧ SeqAt.shaped d = true ∧ SeqAt.shaped e = true ∧ Q (.dat (.v (.bl (PyData.eqv d e))))
def dNe : D2 := fun x y Q => ∃ d e, pyS x = some d ∧ pyS y = some e ∧ SeqAt.shaped d = true ∧ SeqAt.shaped e = true ∧ Q (.dat (.v (.bl (!PyData.eqv d e))))
theorem sr_eq {K : PySem.W.Frag} : SndR K (rEqD K) dEq := fun x y s t Q h l0 F H b r1 r2 Qc k => by
  obtain ⟨d, e, h1, h2, h3, h4, q⟩ := h
  exact ⟨d, e, sl_py b r1 h1, sl_py b r2 h2, h3, h4, k.here b q⟩
theorem sr_ne {K : PySem.W.Frag} : SndR K (rNeD K) dNe := fun x y s t Q h l0 F H b r1 r2 Qc k => by
  obtain ⟨d, e, h1, h2, h3, h4, q⟩ := h
  exact ⟨d, e, sl_py b r1 h1, sl_py b r2 h2, h3, h4, k.here b q⟩
/-! ### is None -/
def isNon : Sl → Option Bool
  | .dat (.v .non) => some true
  | .dat (.v _) => some false
  | .dat (.lst _) => some false
  | .dat (.tup _) => some false
  | .dat (.obj _ _) => some false
  | .dat (.slt _ _) => some false
  | .dat (.dct _) => some false
  | .own _ => some false
  | _ => none
def dIsN : D2 := fun x y Q => y = .dat (.v .non) ∧ ∃ b, isNon x = some b ∧ Q (.dat (.v (.bl b)))
def dNotN : D2 := fun x y Q => y = .dat (.v .non) ∧ ∃ b, isNon x = some b ∧ Q (.dat (.v (.bl (!b))))
theorem isNon_ok {K : PySem.W.Frag} {l0 : Addr} {F H : Hp} {x : V} {s : Sl} {b : Bool} (r : SlV K l0 F H x s) (h : isNon s = some b) : decide (x = .non) = b := by
  unfold isNon at h
  split at h
  · cases h; cases r; rfl
  · rename_i y ne
    cases h
    cases r
    exact decide_eq_false fun z => ne z
  · cases h; cases r; rfl
  · cases h; cases r; rfl
  · cases h; cases r; rfl
  · cases h; cases r; rfl
  · cases h; cases r; rfl
  · cases h
    obtain ⟨l, xs, e, _⟩ := r
    subst e
    rfl
  · cases h
theorem sr_isN {K : PySem.W.Frag} : SndR K (fun x y H Q => y = .non ∧ Q (.bl (decide (x = .non))) H) dIsN := fun x y s t Q h l0 F H b r1 r2 Qc k => by
  obtain ⟨e, c, h1, q⟩ := h
  subst e
  cases r2
  refine ⟨rfl, ?_⟩
  rw [isNon_ok r1 h1]
  exact k.here b q
theorem sr_notN {K : PySem.W.Frag} : SndR K (fun x y H Q => y = .non ∧ Q (.bl (!decide (x = .non))) H) dNotN := fun x y s t Q h l0 F H b r1 r2 Qc k => by
  obtain ⟨e, c, h1, q⟩ := h
  subst e
  cases r2
  refine ⟨rfl, ?_⟩
  rw [isNon_ok r1 h1]
  exact k.here b q
/-! ### in, not in -/
def vOf : List Dt → Option (List V)
  | [] => some []
  | .v x :: r => (vOf r).map (x :: ·)
  | _ :: _ => none
def seqOf : Sl → Option (List V)
  | .dat (.lst ds) => vOf ds
  | .dat (.tup ds) => vOf ds
  | .own ds => vOf ds
  | _ => none
theorem vOf_ok {K : PySem.W.Frag} {l0 : Addr} {F : Hp} : ∀ {xs : List V} {ds : List Dt} {ys : List V}, Dens K l0 F xs ds → vOf ds = some ys → xs = ys
  | [], [], _, .nil, h => by cases h; rfl
  | x :: xs, .v y :: ds, ys, .cons r t, h => by
    have h : (vOf ds).map (y :: ·) = some ys := h
    cases q : vOf ds with
    | none => rw [q] at h; cases h
    | some zs =>
      rw [q] at h
      cases h
      cases r
      rw [vOf_ok t q]
  | _ :: _, .lst _ :: _, _, .cons _ _, h => by cases h
  | _ :: _, .tup _ :: _, _, .cons _ _, h => by cases h
  | _ :: _, .obj _ _ :: _, _, .cons _ _, h => by cases h
  | _ :: _, .slt _ _ :: _, _, .cons _ _, h => by cases h
  | _ :: _, .exc _ _ _ _ :: _, _, .cons _ _, h => by cases h
  | _ :: _, .dct _ :: _, _, .cons _ _, h => by cases h
  | _ :: _, .drw :: _, _, .cons _ _, h => by cases h
theorem seqOf_ok {K : PySem.W.Frag} {l0 : Addr} {F H : Hp} {v : V} {s : Sl} {xs : List V} (b : Base l0 F H) (r : SlV K l0 F H v s) (h : seqOf s = some xs) : ∃ p, v = .ref p ∧ (SqL K H p xs ∨ SqT K H p xs) := by
  unfold seqOf at h
  split at h
  · obtain ⟨a, ys, e, h1, h2⟩ := r.list b (.inl rfl)
    rw [vOf_ok h2 h] at h1
    exact ⟨a, e, .inl h1⟩
  · obtain ⟨a, ys, e, h1, h2⟩ := r.tuple b
    rw [vOf_ok h2 h] at h1
    exact ⟨a, e, .inr h1⟩
  · obtain ⟨a, ys, e, h1, h2⟩ := r.list b (.inr rfl)
    rw [vOf_ok h2 h] at h1
    exact ⟨a, e, .inl h1⟩
  · cases h
def dInG (neg : Bool) : D2 := fun x y Q => ∃ z xs, x = .dat (.v z) ∧ seqOf y = some xs ∧ flatV z = true ∧ xs.all flatV = true ∧ Q (.dat (.v (.bl (if neg then !inV z xs else inV z xs))))
abbrev dIn : D2 := dInG false
abbrev dNotIn : D2 := dInG true
theorem sr_inG {K : PySem.W.Frag} {neg : Bool} : SndR K (rIn K neg) (dInG neg) := fun x y s t Q h l0 F H b r1 r2 Qc k => by
  obtain ⟨z, xs, e, h1, h2, h3, q⟩ := h
  subst e
  cases r1
  obtain ⟨p, e, h4⟩ := seqOf_ok b r2 h1
  exact ⟨p, xs, e, h4, h2, h3, k.here b q⟩
theorem sr_in {K : PySem.W.Frag} : SndR K (rIn K false) dIn := sr_inG
theorem sr_notIn {K : PySem.W.Frag} : SndR K (rIn K true) dNotIn := sr_inG
/-! ### list(..), tuple(..) -/
def dListOf : DCl
  | [.dat (.lst ds)], Q => Q (.dat (.lst ds))
  | [.dat (.tup ds)], Q => Q (.dat (.lst ds))
  | [.own ds], Q => Q (.dat (.lst ds))
  | _, _ => False
def dTupleOf : DCl
  | [.dat (.lst ds)], Q => Q (.dat (.tup ds))
  | [.dat (.tup ds)], Q => Q (.dat (.tup ds))
  | [.own ds], Q => Q (.dat (.tup ds))
  | _, _ => False
theorem sc_list {K : PySem.W.Frag} : SndC K (fun xs H Q => ∃ p ys, xs = [.ref p] ∧ (SqL K H p ys ∨ SqT K H p ys) ∧ ∀ l, H l = none → Q (.ref l) (upd H l (.lst ys))) dListOf := fun vs ss Q h l0 F H b r Qc k => by
  have fin : ∀ {ys : List V} {ds : List Dt}, Dens K l0 F ys ds → Q (.dat (.lst ds)) → ∀ l, H l = none → Qc (.ref l) (upd H l (.lst ys)) := fun {ys ds} r q l hl => by
    have g := Go.fresh (p := l) b (.lst ys) hl
    exact k (.ref l) (.dat (.lst ds)) _ _ g (Den.lst (SqL.of upd_same) (Dens.mono g.ex r)) q
  unfold dListOf at h
  split at h
  · obtain ⟨⟩ | ⟨r1, ⟨⟩⟩ := r
    obtain ⟨a, xs, e, z1, z2⟩ := r1.list b (.inl rfl)
    subst e
    exact ⟨a, xs, rfl, .inl z1, fin z2 h⟩
  · obtain ⟨⟩ | ⟨r1, ⟨⟩⟩ := r
    obtain ⟨a, xs, e, z1, z2⟩ := r1.tuple b
    subst e
    exact ⟨a, xs, rfl, .inr z1, fin z2 h⟩
  · obtain ⟨⟩ | ⟨r1, ⟨⟩⟩ := r
    obtain ⟨a, xs, e, z1, z2⟩ := r1.list b (.inr rfl)
    subst e
    exact ⟨a, xs, rfl, .inl z1, fin z2 h⟩
  · exact h.elim
theorem call_listS {X : Cx} : CallR X (.type "list") (fun xs H Q => ∃ p ys, xs = [.ref p] ∧ (SqL X.K H p ys ∨ SqT X.K H p ys) ∧ ∀ l, H l = none → Q (.ref l) (upd H l (.lst ys))) := call_list_of
theorem call_tupleS {X : Cx} : CallR X (.type "tuple") (fun xs H Q => ∃ p ys, xs = [.ref p] ∧ ((SqL X.K H p ys ∧ ∀ l, H l = none → Q (.ref l) (upd H l (.tup ys))) ∨ (SqT X.K H p ys ∧ Q (.ref p) H))) := call_tuple_of
theorem sc_tuple {K : PySem.W.Frag} : SndC K (fun xs H Q => ∃ p ys, xs = [.ref p] ∧ ((SqL K H p ys ∧ ∀ l, H l = none → Q (.ref l) (upd H l (.tup ys))) ∨ (SqT K H p ys ∧ Q (.ref p) H))) dTupleOf := fun vs ss Q h l0 F H b r Qc k => by
  have fin : ∀ {ys : List V} {ds : List Dt}, Dens K l0 F ys ds → Q (.dat (.tup ds)) → ∀ l, H l = none → Qc (.ref l) (upd H l (.tup ys)) := fun {ys ds} r q l hl => by
    have g := Go.fresh (p := l) b (.tup ys) hl
    exact k (.ref l) (.dat (.tup ds)) _ _ g (Den.tup (SqT.of upd_same) (Dens.mono g.ex r)) q
  unfold dTupleOf at h
  split at h
  · obtain ⟨⟩ | ⟨r1, ⟨⟩⟩ := r
    obtain ⟨a, xs, e, z1, z2⟩ := r1.list b (.inl rfl)
    subst e
    exact ⟨a, xs, rfl, .inl ⟨z1, fin z2 h⟩⟩
  · obtain ⟨⟩ | ⟨r1, ⟨⟩⟩ := r
    obtain ⟨a, xs, e, z1, z2⟩ := r1.tuple b
    subst e
    exact ⟨a, xs, rfl, .inr ⟨z1, k (.ref a) (.dat (.tup _)) _ _ (.refl b) r1 h⟩⟩
  · obtain ⟨⟩ | ⟨r1, ⟨⟩⟩ := r
    obtain ⟨a, xs, e, z1, z2⟩ := r1.list b (.inr rfl)
    subst e
    exact ⟨a, xs, rfl, .inl ⟨z1, fin z2 h⟩⟩
  · exact h.elim
/-! ### rules -/
section
variable {X : Cx} {W : WX} {a b c e tg : Expr} {xa xb xc xe : TE} {ya yb : TT} {va vb : TS} {da db dc de : DE} {pos : Pos} {ta tb : DTt} {st : Stmt} {rest : List Stmt} {t u : DS}
theorem de_add (ha : DEX X W a xa da) (hb : DEX X W b xb db) : DEX X W (.BinOp a .Add b pos) (tOp (rAddA X.K) xa xb) (dOp dAdd da db) := de_op op_addA sr_add ha hb
theorem op_eqA (hu : X.A.units + 64 < cLine) : OpR X (compareOp .Eq) (rEqD X.K) := op_eqD hu
theorem op_neA (hu : X.A.units + 64 < cLine) : OpR X (compareOp .NotEq) (rNeD X.K) := op_neD hu
theorem de_globI {x : Str} {i : Int} (hg : Gl X x) (hm : ∃ t, X.mg x = some (.int i t)) (hd : (x == ("__debug__" : Str)) = false := by decide) : DEX X W (.Name x pos) (tC (.int i)) (dC (.int i)) := by
  obtain ⟨t, hm⟩ := hm
  exact de_glob hg hm ⟨t, rfl⟩ hd
theorem de_globS {x : Str} {i : Str} (hg : Gl X x) (hm : ∃ t, X.mg x = some (.str i t)) (hd : (x == ("__debug__" : Str)) = false := by decide) : DEX X W (.Name x pos) (tC (.str i)) (dC (.str i)) := by
  obtain ⟨t, hm⟩ := hm
  exact de_glob hg hm ⟨t, rfl⟩ hd
theorem dw_and1 (h : DTX X W a ya ta) : DWX X W (.BoolOp .And [a] pos) ya ta := ⟨pw_and1 h.1, h.2⟩
theorem dw_or1 (h : DTX X W a ya ta) : DWX X W (.BoolOp .Or [a] pos) ya ta := ⟨pw_or1 h.1, h.2⟩
theorem dw_and {r : List Expr} (h : DTX X W a ya ta) (k : DWX X W (.BoolOp .And (b :: r) pos) yb tb) : DWX X W (.BoolOp .And (a :: b :: r) pos) (tAnd ya yb) (dAnd ta tb) := ⟨pw_and h.1 k.1, snd_and h.2 k.2⟩
theorem dw_or {r : List Expr} (h : DTX X W a ya ta) (k : DWX X W (.BoolOp .Or (b :: r) pos) yb tb) : DWX X W (.BoolOp .Or (a :: b :: r) pos) (tOr ya yb) (dOr ta tb) := ⟨pw_or h.1 k.1, snd_or h.2 k.2⟩
theorem de_oneA (h : DEX X W a xa da) : DEX X W (.BoolOp .And [a] pos) xa da := ⟨pe_one h.1, h.2⟩
theorem de_oneO (h : DEX X W a xa da) : DEX X W (.BoolOp .Or [a] pos) xa da := ⟨pe_one h.1, h.2⟩
theorem de_and {r : List Expr} (h : DEX X W a xa da) (k : DEX X W (.BoolOp .And (b :: r) pos) xb db) : DEX X W (.BoolOp .And (a :: b :: r) pos) (tAndV xa xb) (dAndV da db) := by
  refine ⟨pe_and h.1 k.1, fun ρ Q E q l0 F H σ S Qc kk kx => ?_⟩
  refine h.2 ρ _ E q l0 F H σ S _ (fun x s F1 H1 g1 r1 q1 => ?_) kx
  obtain ⟨c, e, q⟩ := blS_of q1
  subst e
  cases r1
  refine ⟨c, rfl, ?_⟩
  cases c with
  | true =>
    rw [if_pos rfl] at q ⊢
    exact k.2 ρ Q E q l0 F1 H1 σ (S.go g1) Qc (kk.go g1) (kx.go g1)
  | false =>
    rw [if_neg Bool.false_ne_true] at q ⊢
    exact (kk.go g1).here g1.bs q
theorem de_or {r : List Expr} (h : DEX X W a xa da) (k : DEX X W (.BoolOp .Or (b :: r) pos) xb db) : DEX X W (.BoolOp .Or (a :: b :: r) pos) (tOrV xa xb) (dOrV da db) := by
  refine ⟨pe_or h.1 k.1, fun ρ Q E q l0 F H σ S Qc kk kx => ?_⟩
  refine h.2 ρ _ E q l0 F H σ S _ (fun x s F1 H1 g1 r1 q1 => ?_) kx
  obtain ⟨c, e, q⟩ := blS_of q1
  subst e
  cases r1
  refine ⟨c, rfl, ?_⟩
  cases c with
  | true =>
    rw [if_pos rfl] at q ⊢
    exact (kk.go g1).here g1.bs q
  | false =>
    rw [if_neg Bool.false_ne_true] at q ⊢
    exact k.2 ρ Q E q l0 F1 H1 σ (S.go g1) Qc (kk.go g1) (kx.go g1)
theorem de_orT {r : List Expr} (h : DEX X W a xa da) (k : DEX X W (.BoolOp .Or (b :: r) pos) xb db) : DEX X W (.BoolOp .Or (a :: b :: r) pos) (tOrT X.K xa xb) (dOrT da db) := by
  refine ⟨pe_orT h.1 k.1, fun ρ Q E q l0 F H σ S Qc kk kx => ?_⟩
  refine h.2 ρ _ E q l0 F H σ S _ (fun x s F1 H1 g1 r1 q1 => ?_) kx
  obtain ⟨c, t, q⟩ := truS_of g1.bs q1 r1
  refine ⟨c, t, ?_⟩
  cases c with
  | true =>
    rw [if_pos rfl] at q ⊢
    exact kk x s F1 H1 g1 r1 q
  | false =>
    rw [if_neg Bool.false_ne_true] at q ⊢
    exact k.2 ρ Q E q l0 F1 H1 σ (S.go g1) Qc (kk.go g1) (kx.go g1)
/-- not x, as a value -/
def dNotT (a : DE) : DE := fun ρ Q E => a ρ (fun s => truS s fun c => Q (.dat (.v (.bl (!c))))) E
theorem de_notV (h : DEX X W a xa da) : DEX X W (.UnaryOp .Not a pos) (tNotT X.K xa) (dNotT da) := by
  refine ⟨pe_notT h.1, fun ρ Q E q l0 F H σ S Qc kk kx => ?_⟩
  refine h.2 ρ _ E q l0 F H σ S _ (fun x s F1 H1 g1 r1 q1 => ?_) kx
  obtain ⟨c, t, q⟩ := truS_of g1.bs q1 r1
  exact ⟨c, t, (kk.go g1).here g1.bs q⟩
/-! ### x op= e, ints -/
def dAddI : D2 := d2I0 fun i j => .int (i + j)
theorem sr_ipI {K : PySem.W.Frag} {f : Int → Int → Int} : SndR K (ipI f) (d2I0 fun i j => .int (f i j)) := fun x y s t Q h l0 F H b r1 r2 Qc k => by
  obtain ⟨i, j, e1, e2, q⟩ := d2I0_of h
  subst e1 e2
  cases r1
  cases r2
  exact ⟨i, j, rfl, rfl, k.here b q⟩
theorem ip_addI : PIp X .Add (ipI fun i j => i + j) := ip_add
theorem ip_subI : PIp X .Sub (ipI fun i j => i - j) := ip_sub
/-- x, y = e, f -/
def dPar (i j : Nat) (a : DA) : DS := fun D ρ => a ρ (fun ss => match ss with
  | [.dat d, .dat e] => D.nx ((ρ.set i (.dat d)).set j (.dat e))
  | _ => False) fun x => D.ex x ρ
/-! ### a def of the module, with all that a call asks -/
def Fnk (P : Program) (w : World) (K : PySem.W.Frag) (mg : Str → Option Value) (base : Heap) (x : Str) (k : Nat) (ps : List Str) (dvs : List V) (dd : List Dt) (sd : Sd) : Prop :=
  ∃ f fd ds, mg x = some (.ref f) ∧ PySem.W.keepIn K (.ref f) = true ∧ Binds K fd ps ds ∧ Vals dvs ds ∧ (∀ l0 F, Dens K l0 F dvs dd) ∧ FnOk P w K mg base (L2.CX P w) k f fd ps (spOf K sd)
theorem de_callF {k : Nat} {ps : List Str} {sd : Sd} {dvs : List V} {dd : List Dt} {x : Str} {p : Pos} {es : List Expr} {zr : TA} {dr : DA} (C : Fnk X.prog X.w X.K X.mg X.base x k ps dvs dd sd) (tk : Takes X W) (hr : Room k X.A) (hg : Gl X x)
    (ha : DAX X W (e :: es) zr dr) (hdb : (x == ("__debug__" : Str)) = false := by decide)
    (he : starEach (e :: es) X.env = (false, eval e X.env) :: starEach es X.env := by rfl) (hpl : (backTo pos (starEach es X.env)).any (·.1) = false := by rfl) :
    DEX X W (.Call (.Name x p) (e :: es) [] pos) (tCallSD (spOf X.K sd) dvs (WE W) zr) (dCall sd dd dr) := by
  obtain ⟨f, fd, ds, h1, h2, h3, h4, h5, F⟩ := C
  exact de_call F tk hr hg h1 h2 h3 h4 h5 ha hdb he hpl
theorem de_callF0 {k : Nat} {ps : List Str} {sd : Sd} {dvs : List V} {dd : List Dt} {x : Str} {p : Pos} (C : Fnk X.prog X.w X.K X.mg X.base x k ps dvs dd sd) (tk : Takes X W) (hr : Room k X.A) (hg : Gl X x) (hdb : (x == ("__debug__" : Str)) = false := by decide) :
    DEX X W (.Call (.Name x p) [] [] pos) (tCallSD (spOf X.K sd) dvs (WE W) tNil) (dCall sd dd dNil) := by
  obtain ⟨f, fd, ds, h1, h2, h3, h4, h5, F⟩ := C
  exact de_call0 F tk hr hg h1 h2 h3 h4 h5 hdb
end
/-- where a def of the module stands -/
def DefAt (K : PySem.W.Frag) (mg : Str → Option Value) (x : Str) (st : Stmt) : Prop := ∃ f fd, mg x = some (.ref f) ∧ FunD K x x (defArgs st) (defBody st) (defScope st) [] [] f fd
theorem fnk_of {P : Program} {w : World} {K : PySem.W.Frag} {mg : Str → Option Value} {base : Heap} {x : Str} {st : Stmt} {N ps : List Str} {k : Nat} {sd : Sd} {ds : DS} (D : DefAt K mg x st) (S : FnScope N ps (defScope st)) (len : ∀ as Q E, sd as Q E → as.length = ps.length)
    (hbd : ∀ (dV kV doc pm : Value) (an : Option Addr) (cdv ct : Value) (us : List Value), us.length = ps.length → bindArgs (PySem.W.fnOf x x (defArgs st) (defBody st) (defScope st) .none kV doc pm an cdv ct) ⟨us, []⟩ = pure (ps.zip us))
    (hb : ∀ (f : Addr) (cdv : Value) (A : Around) (outer : List Env) (s : Shared) (H : Hp) (E : XK), Room k (A.deeper (envOfC x (defScope st) s.heap.objs.size f cdv)) →
      ∃ ts, DSSX (cxOf (L2.CX P w) P w K mg base N x (defScope st) f cdv A outer s H E) (fun cls d _ H => E cls d H) (defBody st) ts ds)
    (hp : ∀ as Q E, sd as Q E → ds (dEnds Q E) (startD N.length as)) : Fnk P w K mg base x (k + 1) ps [] [] sd := by
  obtain ⟨f, fd, h1, F⟩ := D
  exact ⟨f, fd, [], h1, F.kp, FunD.bindsN F (fun kV doc pm an cdv ct us hl => hbd .none kV doc pm an cdv ct us hl), .nil, dd_nil, fn_d F S len (hb f) hp⟩
end DW

set_option Elab.async false
set_option linter.all false
set_option maxRecDepth 100000
/-! DW, part 6: the draws of a law, a law's end. -/
namespace DW
open PySem PySem.Spec PyProof.Rows L2
/-! ### a draw -/
/-- the next draw below many: any number of 0 .. many - 1 -/
def sd__law_next : Sd := fun as Q _ => ∃ many : Int, as = [.drw, .v (.int many)] ∧ 0 < many ∧ ∀ r : Int, 0 ≤ r → r < many → Q (.v (.int r))
/-- the draws: a new list of numbers that are not negative -/
def spDraws (K : PySem.W.Frag) : Sp := fun vs H Q _ => ∃ (a : Addr) (ns : List Int), vs = [.ref a] ∧ SqL K H a (ns.map V.int) ∧
  ∀ (l : Addr) (ms : List Int) (H' : Hp), H l = none → Same H H' → H' l = some (.lst (ms.map V.int)) → (∀ m ∈ ms, 0 ≤ m) → ms.length ≤ 100000 → Q (.ref l) H'
def t_next (K : PySem.W.Frag) : TS := tSeq (tIfS (tTest (tOp (rEqD K) (tVar 0) (tLst tNil))) (tRet (tC (.int 0))) tNext)
  (tRet (tOp (rI (fun _ j => 0 < j) fun i j => .int (i % j)) (tCB (fun xs H Q => (∃ i, xs = [.int i] ∧ Q (.int i) H) ∨ ∃ k, xs = [.bl k] ∧ Q (.int (if k then 1 else 0)) H) (tCons (tBM K "list" rPopAt (tVar 0) (tCons (tC (.int 0)) tNil)) tNil)) (tVar 1)))
theorem eqv_nil : ∀ ns : List Int, PyData.eqv (.list (ns.map PyData.int)) (.list []) = ns.isEmpty
  | [] => by simp [PyData.eqv, PyData.eqvAll]
  | n :: ns => by simp [PyData.eqv, PyData.eqvAll]
theorem dp_ints {K : PySem.W.Frag} {H : Hp} : ∀ ns : List Int, DpAll K H (ns.map V.int) (ns.map PyData.int)
  | [] => .nil
  | n :: ns => .cons (.int n) (dp_ints ns)
theorem lay_ints : ∀ ns : List Int, PyData.canLayAll0 (ns.map PyData.int) = true
  | [] => rfl
  | n :: ns => by
    have := lay_ints ns
    simp [PyData.canLayAll0, PyData.canLay0, this]
theorem depth_ints : ∀ ns : List Int, PyData.depthAll (ns.map PyData.int) = 0
  | [] => rfl
  | n :: ns => by
    have := depth_ints ns
    simp [PyData.depthAll, PyData.depth, this]
theorem shaped_ints (ns : List Int) : SeqAt.shaped (.list (ns.map PyData.int)) = true := by
  unfold SeqAt.shaped
  simp [PyData.canLay0, PyData.depth, lay_ints, depth_ints]
theorem pure_next {K : PySem.W.Frag} (vs : List V) (H : Hp) (Q : VK) (E : XK) (h : spOf K sd__law_next vs H Q E) : t_next K { nx := fun _ H' => Q .non H', rt := Q } (start ["_law_draws_here", "_law_many"] vs) H := by
  obtain ⟨l0, F, ds, Qd, Ed, b, r, ⟨many, rfl, hm, hq⟩, k, _⟩ := h
  obtain ⟨⟩ | ⟨r1, ⟨⟩ | ⟨r2, ⟨⟩⟩⟩ := r
  cases r1
  cases r2
  obtain ⟨ns, h1, h2, h3⟩ := b.dr
  refine ⟨_, rfl, Nat.zero_le _, fun p hp => ?_⟩
  have np : l0 ≠ p := ne_of_none h1 hp
  have g1 := Go.loose (p := p) b (.lst []) hp
  refine ⟨_, _, .lst (SqL.of (by rw [upd_ne np]; exact h1)) (dp_ints ns), .lst (SqL.of upd_same) .nil, shaped_ints ns, rfl, _, rfl, ?_⟩
  rw [eqv_nil]
  cases ns with
  | nil =>
    refine iteT ?_
    exact k (.int 0) (.v (.int 0)) F _ g1 (.v _) (hq 0 (Int.le_refl 0) hm)
  | cons n ms =>
    refine iteF ?_
    refine ⟨_, rfl, .inl ⟨rfl, _, SqL.of (by rw [upd_ne np]; exact h1)⟩, l0, _, 0, 0, .int n, rfl, rfl, by rw [upd_ne np]; exact h1, by decide, by decide, ?_, rfl, ?_⟩
    · unfold seqIndex?
      simp
    · refine .inl ⟨n, rfl, _, rfl, n, many, rfl, rfl, hm, ?_⟩
      refine k (.int (n % many)) (.v (.int (n % many))) F _ ⟨⟨fun a o e => ?_, b.nf, ms, upd_same, fun m hm => h2 m (List.mem_cons_of_mem _ hm), by rw [List.length_cons] at h3; omega⟩, fun _ _ e => e, fun a e1 e2 => absurd e1 e2, fun a o n0 e => ?_⟩ (.v _) (hq _ (Int.emod_nonneg _ (by omega)) (Int.emod_lt_of_pos _ hm))
      · have na : a ≠ l0 := fun e' => by
          rw [e', b.nf] at e
          cases e
        rw [upd_ne na]
        exact g1.bs.sub a o e
      · rw [upd_ne n0]
        exact g1.keep a o n0 e

/-! ### the draws -/
theorem take_more {α : Type} {l : List α} {i : Nat} {x : α} (h : l[i]? = some x) : l.take (i + 1) = l.take i ++ [x] := by
  rw [List.take_succ, h]
  rfl
/-- what holds of the draws' def between two statements: the slots, the list so far -/
structure Drs (H H' : Hp) (a l : Addr) (ns : List Int) (σ : L2.St) (m : Nat) : Prop where
  len : σ.length = 6
  s0 : σ[0]? = some (some (.ref a))
  s1 : σ[1]? = some (some (.ref l))
  new : H l = none
  same : Same H H'
  at_ : ∃ ms : List Int, H' l = some (.lst (ms.map V.int)) ∧ (∀ x ∈ ms, 0 ≤ x) ∧ ms.length ≤ m
theorem Drs.mono {H H' : Hp} {a l : Addr} {ns : List Int} {σ : L2.St} {m m' : Nat} (d : Drs H H' a l ns σ m) (h : m ≤ m') : Drs H H' a l ns σ m' := by
  obtain ⟨ms, h1, h2, h3⟩ := d.at_
  exact ⟨d.len, d.s0, d.s1, d.new, d.same, ms, h1, h2, Nat.le_trans h3 h⟩
theorem Drs.set {H H' : Hp} {a l : Addr} {ns : List Int} {σ : L2.St} {m : Nat} (d : Drs H H' a l ns σ m) (i : Nat) (x : Option V) (h0 : i ≠ 0 := by decide) (h1 : i ≠ 1 := by decide) : Drs H H' a l ns (σ.set i x) m :=
  ⟨by rw [List.length_set]; exact d.len, by rw [List.getElem?_set_ne h0]; exact d.s0, by rw [List.getElem?_set_ne h1]; exact d.s1, d.new, d.same, d.at_⟩
theorem Drs.get {H H' : Hp} {a l : Addr} {ns : List Int} {σ : L2.St} {m : Nat} (d : Drs H H' a l ns σ m) (i : Nat) {x : Option V} (h : i < 6 := by decide) : (σ.set i x)[i]? = some x := List.getElem?_set_self (by rw [d.len]; exact h)
theorem Drs.app {H H' : Hp} {a l : Addr} {ns : List Int} {σ : L2.St} {m : Nat} (d : Drs H H' a l ns σ m) {z : Int} (hz : 0 ≤ z) {ms : List Int} (h1 : H' l = some (.lst (ms.map V.int))) (h2 : ∀ x ∈ ms, 0 ≤ x) (h3 : ms.length ≤ m) :
    Drs H (upd H' l (.lst (ms.map V.int ++ [.int z]))) a l ns σ (m + 1) := by
  refine ⟨d.len, d.s0, d.s1, d.new, fun b o e => ?_, ms ++ [z], ?_, fun x hx => ?_, ?_⟩
  · rw [upd_ne (ne_of_none e d.new)]
    exact d.same b o e
  · rw [upd_same, List.map_append]
    rfl
  · rcases List.mem_append.mp hx with h | h
    · exact h2 x h
    · rw [List.mem_singleton.mp h]
      exact hz
  · rw [List.length_append, List.length_singleton]
    omega

/-! ### the end -/
def spLaw (K : PySem.W.Frag) : Sp := fun vs H Q _ => ∃ (a : Addr) (ns : List Int), vs = [.ref a] ∧ SqL K H a (ns.map V.int) ∧ ns.length ≤ 63 ∧ ∀ H', Q (.bl true) H'
def lawEn (n : Nat) (ns : List Int) : En := (startD n [.lst (ns.map Dt.int)]).set 1 (.dat .drw)
def isTrue : Dt → Prop := fun d => d = .v (.bl true)
theorem fn_law {P : Program} {w : World} {K : PySem.W.Frag} {mg : Str → Option Value} {base : Heap} {st : Stmt} {N : List Str} {k : Nat} {ds : DS} {f : Addr} {fd : FuncData}
    (F : FunD K "law" "law" (defArgs st) (defBody st) (defScope st) [] [] f fd) (S : FnScope N ["_law_script"] (defScope st)) (hN : 2 ≤ N.length)
    (hb : ∀ (cdv : Value) (A : Around) (outer : List Env) (s : Shared) (H : Hp) (E : XK), Room k (A.deeper (envOfC "law" (defScope st) s.heap.objs.size f cdv)) →
      ∃ ts, PSs (cxOf (L2.CX P w) P w K mg base N "law" (defScope st) f cdv A outer s H E) (defBody st) (tSeq (tAsg (tCallSD (spDraws K) [] (WE fun cls d _ H => E cls d H) (tCons (tVar 0) tNil)) (gName 1)) ts) ∧ SndS K (fun cls d _ H => E cls d H) ts ds)
    (hp : ∀ ns : List Int, ns.length ≤ 63 → ds (dEnds isTrue fun _ => False) (lawEn N.length ns)) : FnOk P w K mg base (L2.CX P w) (k + 1) f fd ["_law_script"] (spLaw K) := by
  refine F.ok S (fun vs H Q E h => ?_) fun cdv A outer s H vs Q E hr h => ?_
  · obtain ⟨a, ns, rfl, _⟩ := h
    rfl
  · obtain ⟨a, ns, rfl, hS, hl, hq⟩ := h
    obtain ⟨ts, p, sd⟩ := hb cdv A outer s H E hr
    refine ⟨_, p, ?_⟩
    have e0 : (start N [V.ref a])[0]? = some (some (.ref a)) := rfl
    refine ⟨.ref a, e0, a, ns, rfl, hS, fun l ms H' h1 h2 h3 h4 h5 => ?_⟩
    have bs : Base l H H' := ⟨h2, h1, ms, h3, h4, h5⟩
    have dn : Dens K l H [.ref a] [.lst (ns.map Dt.int)] := .cons (.lst hS (Dens.ofInts ns)) .nil
    have S0 := (Stt.start (N := N) bs dn).put (v := .ref l) 1 (d := .drw) .drw
    refine sd _ _ (hp ns hl) l H H' _ S0 _ ⟨fun F' H' σ' ρ' g w S' q => ?_, fun F' H' v d g r q => ?_, fun F' H' σ' ρ' g w S' q => q.elim, fun F' H' σ' ρ' g w S' q => q.elim, fun cls d x F' H' σ' ρ' g w S' r q => q.elim, fun F' H' σ' ρ' v d g w S' r q => q.elim⟩
    · cases q
    · have q : d = .v (.bl true) := q
      subst q
      cases r
      exact hq H'
theorem hook_ok {l : PySem.W.OpenLaw} {n k : Nat} {q : Program} {loose : List Str} {XP : (Str → Option Value) → Heap → Prop} {YP : World → Heap → Prop} {d : DefRec} {x : Str}
    (hn : l.most = some n) (hn2 : n ≤ sizeLine) (hdf : d.params.defaults = []) (hr : Room k callerA)
    (F : ∀ (w : World) (mg : Str → Option Value) (fa : Addr) (h : Heap), YP w h → h.Ns mainGlobals mg → mg d.name = some (.ref fa) →
      ∃ (K : PySem.W.Frag) (fd : FuncData) (sp : Sp), K.In h ∧ (∀ (s : Shared) (u : Value), BindsTo s fd ⟨[u], []⟩ [(x, u)]) ∧
        (∀ (H : Hp) (a : Addr) (ns : List Int), ns.length ≤ n → Only H → SqL K H a (ns.map V.int) → sp [.ref a] H (fun v _ => v = .bl true) fun _ _ _ => False) ∧
        ∀ base : Heap, K.In base → base.Ns mainGlobals mg → FnOk l.prog w K mg base (L2.CX l.prog w) k fa fd [x] sp) :
    PySem.W.WalkO q loose XP YP l.row.toRowW d [] (fun f vs => PySem.call f vs) := by
  refine Att.attach_call hn hdf fun w s₀ s₁ mg mb fa o pm cd doc a vs ns G Y ho hd hcd hmg hobj hints hlen hg => ?_
  obtain ⟨K, fd, sp, KX, hb, hsp, hF⟩ := F w mg fa _ Y G.T.g hmg
  exact law_call KX G.T.g G.T.b G.T.builtins G.T.nolimit hg hobj hints (Nat.le_trans hlen hn2) hr hF hb (fun H hO hS => hsp H a ns hlen hO hS) fun H e s' h => by
    obtain ⟨_, _, _, _, _, _, _, _, _, _, _, _, z⟩ := h
    exact z.elim
/-- a def, from the head's facts -/
theorem defAt_of {K : PySem.W.Frag} {h : Heap} {mg : Str → Option Value} {fa : List He.Fa} {fn : List He.DefD} {x : Str} {st : Stmt} (X : K.In h) (G : h.Ns mainGlobals mg) (c : He.SaysD fa fn K) (i j : Nat)
    (h1 : fn[i]? = some ⟨(x, none), x, x, defArgs st, defBody st, defScope st, [], []⟩) (h2 : fa[j]? = some (.glo x)) : DefAt K mg x st := by
  obtain ⟨fd, F⟩ := c.def_ i h1
  exact ⟨_, fd, He.glo_ok X G (c.fact j h2), F⟩
end DW

set_option Elab.async false
set_option linter.all false
set_option maxRecDepth 100000
/-! DW, part 7: the def that makes a law's draws. -/
namespace DW
open PySem PySem.Spec PyProof.Rows L2
abbrev rInt1 : List V → Hp → VK → Prop := fun xs H Q => (∃ i, xs = [.int i] ∧ Q (.int i) H) ∨ ∃ k, xs = [.bl k] ∧ Q (.int (if k then 1 else 0)) H
abbrev rPowI : R2 := rI CPow fun i j => .int (i ^ j.toNat)
abbrev rModI : R2 := rI (fun _ j => 0 < j) fun i j => .int (i % j)
abbrev rMulI : R2 := rI CMulX fun i j => .int (i * j)
abbrev rFdivI : R2 := rI CDivW fun i j => .int (i / j)
def t_big (K : PySem.W.Frag) : TS := tIfS (tTest (tOp (rI0 fun i j => .bl (decide (j < i))) (tVar 3) (tC (.int 0))))
  (tSeq (tDrop (tBM K "list" rAppend (tVar 1) (tCons (tOp rModI (tCB rInt1 (tCons (tVar 3) tNil)) (tOp rPowI (tC (.int 10)) (tC (.int 20)))) tNil)))
    (tAsg (tOp rFdivI (tVar 3) (tOp rPowI (tC (.int 10)) (tC (.int 20)))) (gName 3))) tNext
def t_mix (K : PySem.W.Frag) : TS :=
  tSeq (tAsg (tOp rModI (tCB rInt1 (tCons (tOp (rAddA K) (tOp rMulI (tVar 3) (tC (.int 918273645546372819))) (tOp rMulI (tOp (rAddA K) (tOp (rAddA K) (tOp rMulI (tC (.int 9)) (tVar 2)) (tVar 4)) (tC (.int 1))) (tC (.int 135792468864297531)))) tNil)) (tC (.int 2305843009213693951))) (gName 5))
  (tSeq (tAsg (tOp rModI (tCB rInt1 (tCons (tOp rMulI (tVar 5) (tVar 5)) tNil)) (tC (.int 1000000000000000003))) (gName 5))
  (tDrop (tBM K "list" rAppend (tVar 1) (tCons (tOp rModI (tCB rInt1 (tCons (tOp rMulI (tVar 5) (tVar 5)) tNil)) (tC (.int 2305843009213693951))) tNil))))
def t_turn (K : PySem.W.Frag) : TS :=
  tSeq (tAsg (tCB (fun xs H Q => ∃ i, xs = [.int i] ∧ Q (.int (if i < 0 then -i else i)) H) (tCons (tOp (rIxS2 K) (tVar 0) (tVar 2)) tNil)) (gName 3))
  (tIfS (tTest (tOp (rI0 fun i j => .bl (decide (j ≤ i))) (tVar 3) (tOp rPowI (tC (.int 10)) (tC (.int 18)))))
    (tFor (iRng1 (tCons (tC (.int 40)) tNil)) (gName 4) (t_big K))
    (tSeq (tAsg (tOp (rAddA K) (tOp rMulI (tC (.int 2)) (tVar 3)) (tCB rInt1 (tCons (tOp (rI0 fun i j => .bl (decide (i < j))) (tOp (rIxS2 K) (tVar 0) (tVar 2)) (tC (.int 0))) tNil))) (gName 3))
      (tFor (iRng1 (tCons (tC (.int 6)) tNil)) (gName 4) (t_mix K))))
def t_draws (K : PySem.W.Frag) : TS :=
  tSeq (tAsg (tLst tNil) (gName 1))
  (tSeq (tFor (iRng1 (tCons (tCB (fun xs H Q => ∃ i j, xs = [.int i, .int j] ∧ Q (.int (if j < i then j else i)) H) (tCons (tCB (rLenA K) (tCons (tVar 0) tNil)) (tCons (tC (.int 63)) tNil))) tNil)) (gName 2) (t_turn K))
  (tRet (tVar 1)))
theorem v_cb {te : TE} {σ : L2.St} {H : Hp} {x z : V} {r : List V → Hp → VK → Prop} (h : Val te σ H x) (hr : ∀ Q : VK, Q z H → r [x] H Q) : Val (tCB r (tCons te tNil)) σ H z := fun Q q => h _ (hr Q q)
theorem v_int {te : TE} {σ : L2.St} {H : Hp} {i : Int} (h : Val te σ H (.int i)) : Val (tCB rInt1 (tCons te tNil)) σ H (.int i) := v_cb h fun _ q => .inl ⟨i, rfl, q⟩
theorem v_pow {σ : L2.St} {H : Hp} (n : Nat) (hn : n ≤ 1000000 := by decide) : Val (tOp rPowI (tC (.int 10)) (tC (.int (n : Int)))) σ H (.int (10 ^ n)) := val_op val_c val_c fun Q q => ⟨10, n, rfl, rfl, ⟨by omega, by omega, by decide⟩, q⟩
section
variable {K : PySem.W.Frag} {ta tb : TE} {σ : L2.St} {H : Hp} {i j : Int}
theorem v_mod (ha : Val ta σ H (.int i)) (hb : Val tb σ H (.int j)) (h : 0 < j := by decide) : Val (tOp rModI ta tb) σ H (.int (i % j)) := val_op ha hb fun Q q => ⟨i, j, rfl, rfl, h, q⟩
theorem v_mulL (ha : Val ta σ H (.int i)) (hb : Val tb σ H (.int j)) (h : -(2 ^ 64) < i ∧ i < 2 ^ 64) : Val (tOp rMulI ta tb) σ H (.int (i * j)) := val_op ha hb fun Q q => ⟨i, j, rfl, rfl, .inl (.inl h), q⟩
theorem v_mulR (ha : Val ta σ H (.int i)) (hb : Val tb σ H (.int j)) (h : -(2 ^ 64) < j ∧ j < 2 ^ 64) : Val (tOp rMulI ta tb) σ H (.int (i * j)) := val_op ha hb fun Q q => ⟨i, j, rfl, rfl, .inl (.inr h), q⟩
theorem v_add (ha : Val ta σ H (.int i)) (hb : Val tb σ H (.int j)) : Val (tOp (rAddA K) ta tb) σ H (.int (i + j)) := val_op ha hb fun Q q => .inl ⟨i, j, rfl, rfl, q⟩
end
theorem app_at {K : PySem.W.Frag} {H H' : Hp} {a l : Addr} {ns : List Int} {σ : L2.St} {m : Nat} (d : Drs H H' a l ns σ m) (hm : m ≤ 100000) {te : TE} {D : Ends} {z : Int} (hz : 0 ≤ z) (hte : Val te σ H' (.int z))
    (k : ∀ H'', Drs H H'' a l ns σ (m + 1) → D.nx σ H'') : tDrop (tBM K "list" rAppend (tVar 1) (tCons te tNil)) D σ H' := by
  obtain ⟨ms, h1, h2, h3⟩ := d.at_
  refine ⟨_, d.s1, .inl ⟨rfl, _, SqL.of h1⟩, ?_⟩
  refine hte _ ?_
  exact ⟨l, _, .int z, rfl, rfl, h1, by rw [List.length_map]; exact Nat.lt_of_le_of_lt (Nat.le_trans h3 hm) (by decide), k _ (d.app hz h1 h2 h3)⟩
theorem big_ok {K : PySem.W.Frag} {H : Hp} {a l : Addr} {ns : List Int} {D : Ends} {m : Nat} {σ : L2.St} {H' : Hp} {z : Int} (d : Drs H H' a l ns σ m) (hm : m + 40 ≤ 100000) (e3 : σ[3]? = some (some (.int z)))
    (k : ∀ σ' H', Drs H H' a l ns σ' (m + 40) → D.nx σ' H') : tFor (iRng1 (tCons (tC (.int 40)) tNil)) (gName 4) (t_big K) D σ H' := by
  refine ⟨40, rfl, by decide, by decide, for_range (lo := 0) (n := 40) (fun i σ' H' => i ≤ 40 ∧ Drs H H' a l ns σ' (m + i) ∧ ∃ z : Int, σ'[3]? = some (some (.int z))) ⟨by decide, d, z, e3⟩ ?_ ?_⟩
  · rintro i σ1 H1 hi ⟨_, d1, z1, e1⟩
    have d2 := d1.set 4 (some (.int (0 + (i : Int))))
    have e2 : (σ1.set 4 (some (V.int (0 + (i : Int)))))[3]? = some (some (.int z1)) := by rw [List.getElem?_set_ne (by decide)]; exact e1
    refine ⟨_, e2, z1, 0, rfl, rfl, _, rfl, ?_⟩
    refine ite2 (fun hz => ?_) (fun _ => ?_)
    · refine st_seq (app_at d2 (by omega) (Int.emod_nonneg z1 (b := 10 ^ 20) (by decide)) (v_mod (v_int (val_var e2)) (v_pow 20)) fun H3 d3 => ?_)
      refine st_set (v := .int (z1 / 10 ^ 20)) (val_op (val_var e2) (v_pow 20) fun Q q => ⟨z1, _, rfl, rfl, wide_div (b := 100) (by decide) (by decide) (by decide) (by decide), q⟩) ?_
      exact ⟨hi, d3.set 3 _, _, d3.get 3⟩
    · exact ⟨hi, d2.mono (by omega), z1, e2⟩
  · rintro σ1 H1 ⟨_, d1, _⟩
    exact k σ1 H1 d1
theorem mix_ok {K : PySem.W.Frag} {H : Hp} {a l : Addr} {ns : List Int} {D : Ends} {m : Nat} {σ : L2.St} {H' : Hp} {z k0 : Int} (d : Drs H H' a l ns σ m) (hm : m + 40 ≤ 100000) (e2 : σ[2]? = some (some (.int k0))) (e3 : σ[3]? = some (some (.int z)))
    (k : ∀ σ' H', Drs H H' a l ns σ' (m + 40) → D.nx σ' H') : tFor (iRng1 (tCons (tC (.int 6)) tNil)) (gName 4) (t_mix K) D σ H' := by
  refine ⟨6, rfl, by decide, by decide, for_range (lo := 0) (n := 6) (fun i σ' H' => i ≤ 6 ∧ Drs H H' a l ns σ' (m + i) ∧ (σ'[2]? = some (some (.int k0)) ∧ σ'[3]? = some (some (.int z)))) ⟨by decide, d, e2, e3⟩ ?_ ?_⟩
  · rintro i σ1 H1 hi ⟨_, d1, f2, f3⟩
    have d2 := d1.set 4 (some (.int (0 + (i : Int))))
    have g2 : (σ1.set 4 (some (V.int (0 + (i : Int)))))[2]? = some (some (.int k0)) := by rw [List.getElem?_set_ne (by decide)]; exact f2
    have g3 : (σ1.set 4 (some (V.int (0 + (i : Int)))))[3]? = some (some (.int z)) := by rw [List.getElem?_set_ne (by decide)]; exact f3
    refine st_seq (st_set (v_mod (v_int (v_add (v_mulR (val_var g3) val_c (by decide)) (v_mulR (v_add (v_add (v_mulL val_c (val_var g2) (by decide)) (val_var (d1.get 4))) val_c) val_c (by decide)))) val_c) ?_)
    have b1 : ∀ x : Int, -(2 ^ 64) < x % 2305843009213693951 ∧ x % 2305843009213693951 < 2 ^ 64 := fun x => by
      have h1 := Int.emod_nonneg x (b := 2305843009213693951) (by decide)
      have h2 := Int.emod_lt_of_pos x (b := 2305843009213693951) (by decide)
      omega
    have b2 : ∀ x : Int, -(2 ^ 64) < x % 1000000000000000003 ∧ x % 1000000000000000003 < 2 ^ 64 := fun x => by
      have h1 := Int.emod_nonneg x (b := 1000000000000000003) (by decide)
      have h2 := Int.emod_lt_of_pos x (b := 1000000000000000003) (by decide)
      omega
    have d3 := fun x => d2.set 5 (some (.int x))
    refine st_seq (st_set (v_mod (v_int (v_mulL (val_var (d2.get 5)) (val_var (d2.get 5)) (b1 _))) val_c) ?_)
    refine app_at ((d3 _).set 5 _) (by omega) (Int.emod_nonneg _ (b := 2305843009213693951) (by decide)) (v_mod (v_int (v_mulL (val_var ((d3 _).get 5)) (val_var ((d3 _).get 5)) (b2 _))) val_c) fun H3 d4 => ?_
    refine ⟨hi, d4, ?_, ?_⟩
    · rw [List.getElem?_set_ne (by decide), List.getElem?_set_ne (by decide)]
      exact g2
    · rw [List.getElem?_set_ne (by decide), List.getElem?_set_ne (by decide)]
      exact g3
  · rintro σ1 H1 ⟨_, d1, _⟩
    exact k σ1 H1 (d1.mono (by omega))
theorem pure_draws {K : PySem.W.Frag} (vs : List V) (H : Hp) (Q : VK) (E : XK) (h : spDraws K vs H Q E) : t_draws K { nx := fun _ H' => Q .non H', rt := Q } (start ["_law_script", "_law_draws_here", "_law_k", "_law_size", "_law_turn", "_law_mixed"] vs) H := by
  obtain ⟨a, ns, rfl, hS, k⟩ := h
  refine ⟨Nat.zero_le _, fun l hl => ?_⟩
  have s1 : Same H (upd H l (.lst [])) := fun b o e => by
    rw [upd_ne (ne_of_none e hl)]
    exact e
  have d0 : Drs H (upd H l (.lst [])) a l ns ((start ["_law_script", "_law_draws_here", "_law_k", "_law_size", "_law_turn", "_law_mixed"] [V.ref a]).set 1 (some (.ref l))) 0 :=
    ⟨rfl, rfl, rfl, hl, s1, [], upd_same, fun x hx => (by cases hx), Nat.le_refl _⟩
  refine ⟨_, d0.s0, .inl ⟨a, _, rfl, .inl (s1.seq hS), ns.length, 63, by rw [List.length_map], ?_⟩⟩
  have hmin : (if (63 : Int) < (ns.length : Int) then (63 : Int) else (ns.length : Int)) = ((min ns.length 63 : Nat) : Int) := by
    split <;> omega
  rw [hmin]
  have hn : min ns.length 63 ≤ 63 := Nat.min_le_right _ _
  refine ⟨_, rfl, by omega, by omega, for_range (lo := 0) (n := ((min ns.length 63 : Nat) : Int).toNat) (fun i σ' H' => i ≤ 63 ∧ Drs H H' a l ns σ' (40 * i)) ⟨by decide, d0⟩ ?_ ?_⟩
  · rintro i σ1 H1 hi ⟨_, d1⟩
    rw [Int.toNat_natCast] at hi
    have d2 := d1.set 2 (some (.int (0 + (i : Int))))
    have hi2 : i < ns.length := by omega
    have hix : atI (ns.map V.int) (0 + (i : Int)) = some (.int ns[i]) := by
      rw [Int.zero_add]
      exact atI_nat (by rw [List.getElem?_map, List.getElem?_eq_getElem hi2]; rfl)
    have vix : ∀ {σ H'}, σ[0]? = some (some (.ref a)) → σ[2]? = some (some (.int (0 + (i : Int)))) → Same H H' → Val (tOp (rIxS2 K) (tVar 0) (tVar 2)) σ H' (.int ns[i]) := fun e0 e2 s => val_op (val_var e0) (val_var e2) fun Q q => .inl ⟨a, _, _, _, rfl, rfl, s.seq hS, hix, q⟩
    refine st_seq (st_set (v_cb (vix d2.s0 (d1.get 2) d2.same) fun Q q => ⟨_, rfl, q⟩) ?_)
    have d3 := d2.set 3 (some (.int (if ns[i] < 0 then -ns[i] else ns[i])))
    refine val_op (r := rI0 fun i j => .bl (decide (j ≤ i))) (val_var (d2.get 3)) (v_pow 18) (fun Q q => ⟨_, _, rfl, rfl, q⟩) _ ⟨_, rfl, ?_⟩
    refine ite2 (fun _ => ?_) (fun _ => ?_)
    · exact big_ok d3 (by omega) (d2.get 3) fun σ' H' d' => ⟨by omega, d'.mono (by omega)⟩
    · have e2 : ((σ1.set 2 (some (V.int (0 + (i : Int))))).set 3 (some (V.int (if ns[i] < 0 then -ns[i] else ns[i]))))[2]? = some (some (V.int (0 + (i : Int)))) := by
        rw [List.getElem?_set_ne (by decide)]
        exact d1.get 2
      refine st_seq (st_set (v_add (v_mulL val_c (val_var (d2.get 3)) (by decide)) (v_cb (val_op (r := rI0 fun i j => .bl (decide (i < j))) (vix d3.s0 e2 d3.same) val_c fun Q q => ⟨_, _, rfl, rfl, q⟩) fun Q q => .inr ⟨_, rfl, q⟩)) ?_)
      exact mix_ok (d3.set 3 _) (by omega) (by rw [List.getElem?_set_ne (by decide)]; exact e2) (d3.get 3) fun σ' H' d' => ⟨by omega, d'.mono (by omega)⟩
  · rintro σ1 H1 ⟨_, d1⟩
    obtain ⟨ms, h1, h2, h3⟩ := d1.at_
    exact ⟨_, d1.s1, k l ms H1 d1.new d1.same h1 h2 (by omega)⟩
end DW

set_option Elab.async false
set_option linter.all false
set_option maxRecDepth 100000
/-! DW, part 8: words for the readings' proofs; the frame of a def's theorem. -/
namespace DW
open PySem PySem.Spec PyProof.Rows L2
/-! ### tests -/
theorem iteD {p A B : Prop} [Decidable p] (h1 : p → A) (h2 : ¬ p → B) : if decide p = true then A else B := by
  by_cases h : p
  · rw [if_pos (decide_eq_true h)]
    exact h1 h
  · rw [if_neg (by rw [decide_eq_false h]; exact Bool.false_ne_true)]
    exact h2 h
theorem iteB {b : Bool} {A B : Prop} (h1 : b = true → A) (h2 : b = false → B) : if b = true then A else B := by
  cases b with
  | true => exact h1 rfl
  | false => exact h2 rfl
/-! ### loops -/
theorem for_inv {g : DG} {b : DS} {D : DEnds} {ds : List Dt} {ρ : En} (P : Nat → En → Prop) (h0 : P 0 ρ) (ht : ∀ (i : Nat) (x : Dt) (ρ' : En), ds[i]? = some x → P i ρ' → g (.dat x) ρ' fun ρ2 => b { D with nx := P (i + 1), ct := P (i + 1), bk := D.nx } ρ2)
    (he : ∀ ρ', P ds.length ρ' → D.nx ρ') : ForI g b D ds ρ := ⟨P, h0, ht, he⟩
/-- over lo, lo + 1, .. -/
theorem for_rng {g : DG} {b : DS} {D : DEnds} {lo : Int} {n : Nat} {ρ : En} (P : Nat → En → Prop) (h0 : P 0 ρ) (ht : ∀ (i : Nat) (ρ' : En), i < n → P i ρ' → g (.dat (.v (.int (lo + (i : Nat))))) ρ' fun ρ2 => b { D with nx := P (i + 1), ct := P (i + 1), bk := D.nx } ρ2)
    (he : ∀ ρ', P n ρ' → D.nx ρ') : ForI g b D (intsR lo n) ρ := by
  refine ⟨P, h0, fun i x ρ' hx p => ?_, fun ρ' p => he ρ' (by rw [intsR_len] at p; exact p)⟩
  have hi : i < n := by
    have := (List.getElem?_eq_some_iff.mp hx).1
    rwa [intsR_len] at this
  rw [intsR_get hi] at hx
  cases hx
  exact ht i ρ' hi p
/-- each turn gives an item -/
theorem lc_map {g : DG} {e : DE} {ds : List Dt} {ρ : En} {Q : List Dt → Prop} (f : Nat → Dt) (hl : ds.length ≤ 100000) (h : ∀ (i : Nat) (x : Dt), ds[i]? = some x → ∀ R : Dt → Prop, R (f i) → g (.dat x) ρ fun ρ2 => e ρ2 (datS R) fun _ => False) (q : Q ((List.range ds.length).map f)) : LcI g dYes e ρ ds Q := by
  refine ⟨fun i acc => acc = (List.range i).map f, rfl, fun i x acc hx p => ?_, fun acc p => ?_⟩
  · have hi := (List.getElem?_eq_some_iff.mp hx).1
    exact h i x hx _ ⟨by rw [p, List.length_map, List.length_range]; omega, by rw [p]; show List.map f (List.range i) ++ [f i] = List.map f (List.range (i + 1)); rw [List.range_succ, List.map_append]; rfl⟩
  · rw [p]
    exact q
theorem lc_rng {g : DG} {e : DE} {lo : Int} {n : Nat} {ρ : En} {Q : List Dt → Prop} (f : Nat → Dt) (hl : n ≤ 100000) (h : ∀ i : Nat, i < n → ∀ R : Dt → Prop, R (f i) → g (.dat (.v (.int (lo + (i : Nat))))) ρ fun ρ2 => e ρ2 (datS R) fun _ => False) (q : Q ((List.range n).map f)) : LcI g dYes e ρ (intsR lo n) Q := by
  refine lc_map f (by rw [intsR_len]; exact hl) (fun i x hx => ?_) (by rw [intsR_len]; exact q)
  have hi : i < n := by
    have := (List.getElem?_eq_some_iff.mp hx).1
    rwa [intsR_len] at this
  rw [intsR_get hi] at hx
  cases hx
  exact h i hi
/-! ### lists of ints, tables -/
theorem atI_of {α : Type} {xs : List α} {i : Int} {j : Nat} {v : α} (hi : i = (j : Int)) (h : xs[j]? = some v) : atI xs i = some v := by
  subst hi
  exact atI_nat h
/-- a number's greatest of a list -/
def maxL : List Int → Int
  | [] => 0
  | [x] => x
  | x :: y :: r => max x (maxL (y :: r))
def minL : List Int → Int
  | [] => 0
  | [x] => x
  | x :: y :: r => min x (minL (y :: r))
theorem maxL_mem : ∀ {ns : List Int}, 0 < ns.length → maxL ns ∈ ns
  | [x], _ => List.mem_singleton.mpr rfl
  | x :: y :: r, _ => by
    unfold maxL
    rcases Int.le_total x (maxL (y :: r)) with h | h
    · rw [Int.max_eq_right h]
      exact List.mem_cons_of_mem _ (maxL_mem (by simp))
    · rw [Int.max_eq_left h]
      exact List.mem_cons_self
theorem maxL_le : ∀ {ns : List Int} {z : Int}, z ∈ ns → z ≤ maxL ns
  | [x], z, h => by
    rw [List.mem_singleton.mp h]
    exact Int.le_refl _
  | x :: y :: r, z, h => by
    unfold maxL
    rcases List.mem_cons.mp h with e | h
    · rw [e]
      exact Int.le_max_left _ _
    · exact Int.le_trans (maxL_le h) (Int.le_max_right _ _)
theorem minL_mem : ∀ {ns : List Int}, 0 < ns.length → minL ns ∈ ns
  | [x], _ => List.mem_singleton.mpr rfl
  | x :: y :: r, _ => by
    unfold minL
    rcases Int.le_total x (minL (y :: r)) with h | h
    · rw [Int.min_eq_left h]
      exact List.mem_cons_self
    · rw [Int.min_eq_right h]
      exact List.mem_cons_of_mem _ (minL_mem (by simp))
theorem minL_le : ∀ {ns : List Int} {z : Int}, z ∈ ns → minL ns ≤ z
  | [x], z, h => by
    rw [List.mem_singleton.mp h]
    exact Int.le_refl _
  | x :: y :: r, z, h => by
    unfold minL
    rcases List.mem_cons.mp h with e | h
    · rw [e]
      exact Int.min_le_left _ _
    · exact Int.le_trans (Int.min_le_right _ _) (minL_le h)
theorem maxL_of {ns : List Int} {m : Int} (h : m ∈ ns) (k : ∀ y ∈ ns, y ≤ m) : m = maxL ns := Int.le_antisymm (maxL_le h) (k _ (maxL_mem (List.length_pos_of_mem h)))
theorem minL_of {ns : List Int} {m : Int} (h : m ∈ ns) (k : ∀ y ∈ ns, m ≤ y) : m = minL ns := Int.le_antisymm (k _ (minL_mem (List.length_pos_of_mem h))) (minL_le h)
theorem dMaxL_of {ns : List Int} {ds : List Dt} {Q : Sl → Prop} (e : ds = ns.map Dt.int) (h : 0 < ns.length) (q : Q (.dat (.v (.int (maxL ns))))) : dMaxL [.dat (.lst ds)] Q := ⟨ns, e, h, fun m h1 h2 => by rw [maxL_of h1 h2]; exact q⟩
theorem dMinL_of {ns : List Int} {ds : List Dt} {Q : Sl → Prop} (e : ds = ns.map Dt.int) (h : 0 < ns.length) (q : Q (.dat (.v (.int (minL ns))))) : dMinL [.dat (.lst ds)] Q := ⟨ns, e, h, fun m h1 h2 => by rw [minL_of h1 h2]; exact q⟩
/-! ### the frame of a def's theorem -/
section
variable {P : Program} {w : World} {K : PySem.W.Frag} {mg : Str → Option Value} {base : Heap} {N : List Str} {qual : Str} {scope : Scope} {f : Addr} {cdv : Value} {A : Around} {outer : List Env} {s : Shared} {H : Hp} {E : XK}
abbrev WX0 (E : XK) : WX := fun cls d _ H => E cls d H
theorem tk_cx : Takes (cxOf (L2.CX P w) P w K mg base N qual scope f cdv A outer s H E) (WX0 E) := takes_of rfl rfl rfl rfl
theorem po_cx : PassesOwn (model P w) (cxOf (L2.CX P w) P w K mg base N qual scope f cdv A outer s H E).A (cxOf (L2.CX P w) P w K mg base N qual scope f cdv A outer s H E).env (cxOf (L2.CX P w) P w K mg base N qual scope f cdv A outer s H E).xe := passes_of rfl
end
theorem fnk_by {P : Program} {w : World} {K : PySem.W.Frag} {mg : Str → Option Value} {base : Heap} {x : Str} {st : Stmt} {N ps : List Str} {k : Nat} {sd : Sd} {ds : DS} (D : DefAt K mg x st) (S : FnScope N ps (defScope st)) (len : ∀ as Q E, sd as Q E → as.length = ps.length)
    (hbd : ∀ (kV doc pm : Value) (an : Option Addr) (cdv ct : Value) (us : List Value), us.length = ps.length → bindArgs (PySem.W.fnOf x x (defArgs st) (defBody st) (defScope st) .none kV doc pm an cdv ct) ⟨us, []⟩ = pure (ps.zip us))
    (hb : ∀ (X : Cx) (W : WX) (f : Addr) (cdv : Value) (A : Around) (outer : List Env) (s : Shared) (H : Hp) (E : XK), X = cxOf (L2.CX P w) P w K mg base N x (defScope st) f cdv A outer s H E → W = WX0 E → Takes (cxOf (L2.CX P w) P w K mg base N x (defScope st) f cdv A outer s H E) (WX0 E) →
      PassesOwn (model P w) (cxOf (L2.CX P w) P w K mg base N x (defScope st) f cdv A outer s H E).A (cxOf (L2.CX P w) P w K mg base N x (defScope st) f cdv A outer s H E).env (cxOf (L2.CX P w) P w K mg base N x (defScope st) f cdv A outer s H E).xe →
      Room k (cxOf (L2.CX P w) P w K mg base N x (defScope st) f cdv A outer s H E).A → (cxOf (L2.CX P w) P w K mg base N x (defScope st) f cdv A outer s H E).A.units + 64 < cLine → N.Nodup →
      ∃ ts, DSSX (cxOf (L2.CX P w) P w K mg base N x (defScope st) f cdv A outer s H E) (WX0 E) (defBody st) ts ds)
    (hp : ∀ as Q E, sd as Q E → ds (dEnds Q E) (startD N.length as)) : Fnk P w K mg base x (k + 1) ps [] [] sd :=
  fnk_of D S len (fun _ kV doc pm an cdv ct us hl => hbd kV doc pm an cdv ct us hl) (fun f cdv A outer s H E hr => hb _ _ f cdv A outer s H E rfl rfl tk_cx po_cx hr hr.units S.nd) hp
/-- the draw -/
theorem fnk_next {P : Program} {w : World} {K : PySem.W.Frag} {mg : Str → Option Value} {base : Heap} {st : Stmt} (D : DefAt K mg "_law_next" st) (S : FnScope ["_law_draws_here", "_law_many"] ["_law_draws_here", "_law_many"] (defScope st))
    (hbd : ∀ (kV doc pm : Value) (an : Option Addr) (cdv ct : Value) (us : List Value), us.length = 2 → bindArgs (PySem.W.fnOf "_law_next" "_law_next" (defArgs st) (defBody st) (defScope st) .none kV doc pm an cdv ct) ⟨us, []⟩ = pure ((["_law_draws_here", "_law_many"] : List Str).zip us))
    (hb : ∀ (f : Addr) (cdv : Value) (A : Around) (outer : List Env) (s : Shared) (H : Hp) (E : XK), (A.deeper (envOfC "_law_next" (defScope st) s.heap.objs.size f cdv)).units + 64 < cLine →
      PSs (cxOf (L2.CX P w) P w K mg base ["_law_draws_here", "_law_many"] "_law_next" (defScope st) f cdv A outer s H E) (defBody st) (t_next K)) : Fnk P w K mg base "_law_next" 1 ["_law_draws_here", "_law_many"] [] [] sd__law_next := by
  obtain ⟨f, fd, h1, F⟩ := D
  refine ⟨f, fd, [], h1, F.kp, FunD.bindsN F (fun kV doc pm an cdv ct us hl => hbd kV doc pm an cdv ct us hl), .nil, dd_nil, F.ok (k := 0) S (fun vs H Q E h => ?_) fun cdv A outer s H vs Q E hr h => ⟨_, hb f cdv A outer s H E hr.units, pure_next vs H Q E h⟩⟩
  obtain ⟨l0, F, ds, Qd, Ed, b, r, ⟨many, rfl, _⟩, _⟩ := h
  exact r.length
/-- the draws -/
def Drk (P : Program) (w : World) (K : PySem.W.Frag) (mg : Str → Option Value) (base : Heap) : Prop := ∃ f fd, mg "_law_draws" = some (.ref f) ∧ PySem.W.keepIn K (.ref f) = true ∧ Binds K fd ["_law_script"] [] ∧ FnOk P w K mg base (L2.CX P w) 1 f fd ["_law_script"] (spDraws K)
theorem drk_of {P : Program} {w : World} {K : PySem.W.Frag} {mg : Str → Option Value} {base : Heap} {st : Stmt} (D : DefAt K mg "_law_draws" st) (S : FnScope ["_law_script", "_law_draws_here", "_law_k", "_law_size", "_law_turn", "_law_mixed"] ["_law_script"] (defScope st))
    (hbd : ∀ (kV doc pm : Value) (an : Option Addr) (cdv ct : Value) (us : List Value), us.length = 1 → bindArgs (PySem.W.fnOf "_law_draws" "_law_draws" (defArgs st) (defBody st) (defScope st) .none kV doc pm an cdv ct) ⟨us, []⟩ = pure ((["_law_script"] : List Str).zip us))
    (hb : ∀ (f : Addr) (cdv : Value) (A : Around) (outer : List Env) (s : Shared) (H : Hp) (E : XK),
      PassesOwn (model P w) (cxOf (L2.CX P w) P w K mg base ["_law_script", "_law_draws_here", "_law_k", "_law_size", "_law_turn", "_law_mixed"] "_law_draws" (defScope st) f cdv A outer s H E).A (cxOf (L2.CX P w) P w K mg base ["_law_script", "_law_draws_here", "_law_k", "_law_size", "_law_turn", "_law_mixed"] "_law_draws" (defScope st) f cdv A outer s H E).env (cxOf (L2.CX P w) P w K mg base ["_law_script", "_law_draws_here", "_law_k", "_law_size", "_law_turn", "_law_mixed"] "_law_draws" (defScope st) f cdv A outer s H E).xe →
      ∃ ds, DSSX (cxOf (L2.CX P w) P w K mg base ["_law_script", "_law_draws_here", "_law_k", "_law_size", "_law_turn", "_law_mixed"] "_law_draws" (defScope st) f cdv A outer s H E) (WX0 E) (defBody st) (t_draws K) ds) : Drk P w K mg base := by
  obtain ⟨f, fd, h1, F⟩ := D
  refine ⟨f, fd, h1, F.kp, FunD.bindsN F (fun kV doc pm an cdv ct us hl => hbd kV doc pm an cdv ct us hl), F.ok (k := 0) S (fun vs H Q E h => ?_) fun cdv A outer s H vs Q E hr h => ⟨_, (Exists.choose_spec (hb f cdv A outer s H E po_cx)).1, pure_draws vs H Q E h⟩⟩
  obtain ⟨a, ns, rfl, _⟩ := h
  rfl
/-- the first statement of a law -/
theorem ps_draws {X : Cx} {W : WX} {x y : Str} {p p2 p3 p4 p5 : Pos} (C : Drk X.prog X.w X.K X.mg X.base) (tk : Takes X W) (hr : Room 1 X.A) (nd : X.N.Nodup) (hg : Gl X "_law_draws" := by rfl) (h0 : X.N[0]? = some y := by rfl) (v0 : Vis X.env.scope y := by first | exact Or.inl rfl | exact Or.inr (Or.inl rfl))
    (hd : (y == ("__debug__" : Str)) = false := by decide) (hcd : (y == ("__classdict__" : Str)) = false := by decide) (h1 : X.N[1]? = some x := by rfl) (hx : Loc X.env.scope x := by first | exact .inl rfl | exact .inr rfl)
    (hf : X.fn x = true ∨ X.env.scope.names.lookup x = some .local := by first | exact .inl rfl | exact .inr rfl | assumption) (he : starEach (.Name y p3 :: []) X.env = (false, eval (.Name y p3) X.env) :: starEach [] X.env := by rfl) (hpl : (backTo p4 (starEach [] X.env)).any (·.1) = false := by rfl)
    (hs : swapsWith (.Call (.Name "_law_draws" p2) [.Name y p3] [] p4) (some (.Name x p)) p5.line X.env = pure false := by rfl) :
    PS X (.Assign [.Name x p] (.Call (.Name "_law_draws" p2) [.Name y p3] [] p4) p5) (tAsg (tCallSD (spDraws X.K) [] (WE W) (tCons (tVar 0) tNil)) (gName 1)) := by
  obtain ⟨f, fd, m, kp, b, F⟩ := C
  exact ps_set nd h1 hx (pe_callSD F hr hg m kp b .nil (fun σ => passAt tk σ) (pa_cons (pe_var h0 v0 hd hcd) pa_nil he) (by decide) he hpl) hs hf
end DW

set_option Elab.async false
set_option linter.all false
set_option maxRecDepth 100000
/-! DW, part 9: isinstance of plain data, list.index of ints, two names set at once. -/
namespace DW
open PySem PySem.Spec PyProof.Rows L2
/-- types of plain data -/
inductive Ty6 where
  | int | bool | str | none | list | tuple
def Ty6.nm : Ty6 → String
  | .int => "int" | .bool => "bool" | .str => "str" | .none => "NoneType" | .list => "list" | .tuple => "tuple"
/-- t is a T -/
def isB : Ty6 → Ty6 → Bool
  | .int, .int => true | .bool, .int => true | .bool, .bool => true | .str, .str => true | .none, .none => true | .list, .list => true | .tuple, .tuple => true
  | _, _ => false
theorem isB_ok (t T : Ty6) : kitB t.nm T.nm = some (isB t T) := by
  cases t <;> cases T <;> decide +kernel
def tyD : Sl → Option Ty6
  | .dat (.v (.int _)) => some .int
  | .dat (.v (.bl _)) => some .bool
  | .dat (.v (.str _)) => some .str
  | .dat (.v .non) => some .none
  | .dat (.lst _) => some .list
  | .dat (.tup _) => some .tuple
  | .own _ => some .list
  | _ => none
def dIsi (T : Ty6) : DCl
  | [s, .dat (.v (.ty n))], Q => n = T.nm ∧ ∃ t, tyD s = some t ∧ Q (.dat (.v (.bl (isB t T))))
  | _, _ => False
section
variable {K : PySem.W.Frag} {W : WX} {l0 : Addr} {F H F' H' : Hp} {v : V} {s : Sl} {X : Cx} {pos : Pos}
theorem tyX_seqL {a : Addr} {xs : List V} (h : SqL K H a xs) : TyX K H (.ref a) (.type "list") := by
  rcases h with (h | ⟨o, h⟩) | ⟨o, _, _, h, c, _⟩
  · exact .base (.lst h)
  · exact .base (.frz h)
  · exact .kList h c
theorem tyX_seqT {a : Addr} {xs : List V} (h : SqT K H a xs) : TyX K H (.ref a) (.type "tuple") := by
  rcases h with (h | ⟨o, h⟩) | ⟨o, _, _, h, c, _⟩
  · exact .base (.tup h)
  · exact .fTuple h
  · exact .kTuple h c
theorem tyX_of (b : Base l0 F H) (r : SlV K l0 F H v s) {t : Ty6} (h : tyD s = some t) : TyX K H v (.type t.nm) := by
  unfold tyD at h
  split at h
  · cases h; cases r; exact .base (.int _)
  · cases h; cases r; exact .base (.bl _)
  · cases h; cases r; exact .base (.str _)
  · cases h; cases r; exact .base .non
  · cases h
    obtain ⟨a, xs, e, z, _⟩ := r.list b (.inl rfl)
    subst e
    exact tyX_seqL z
  · cases h
    obtain ⟨a, xs, e, z, _⟩ := r.tuple b
    subst e
    exact tyX_seqT z
  · cases h
    obtain ⟨a, xs, e, z, _⟩ := r.list b (.inr rfl)
    subst e
    exact tyX_seqL z
  · cases h
theorem sc_isi (T : Ty6) : SndC K (rIsi K) (dIsi T) := fun vs ss Q h l0 F H b r Qc k => by
  unfold dIsi at h
  split at h
  · obtain ⟨en, t, ht, q⟩ := h
    subst en
    cases r with
    | cons r1 r =>
      cases r with
      | cons r2 r =>
        cases r
        obtain rfl := r2.val
        exact ⟨_, _, _, _, _, rfl, .ty _, tyX_of b r1 ht, kit_ty (isB_ok t T), k.here b q⟩
  · exact h.elim
/-- a built-in type by its name -/
theorem de_tyn {x : Str} {p : Pos} {n : String} (hg : Gl X x) (hm : X.mg x = none) (hv : bootBuiltins x = some (.type n)) (hn : x ≠ "__name__" := by decide) (hd : (x == ("__debug__" : Str)) = false := by decide) :
    DEX X W (.Name x p) (tC (.ty n)) (dC (.ty n)) := de_pe (pe_bltn hg hm hv rfl hn hd)
/-! ### list.index of ints -/
def dIdx : D2
  | .dat (.lst ds), .dat (.v (.int i)), Q => ∃ (ns : List Int) (j : Nat), ds = ns.map Dt.int ∧ ns[j]? = some i ∧ (∀ m, m < j → ns[m]? ≠ some i) ∧ Q (.dat (.v (.int (j : Int))))
  | _, _, _ => False
theorem dens_ints : ∀ {ns : List Int} {xs : List V}, Dens K l0 F xs (ns.map Dt.int) → xs = ns.map V.int
  | [], [], .nil => rfl
  | i :: ns, x :: xs, .cons h t => by
    cases h
    rw [dens_ints t]
    rfl
def dIdxM (a b : DE) : DE := fun ρ Q E => a ρ (fun s => ∃ ds, s = .dat (.lst ds) ∧ b ρ (fun t => dIdx s t Q) E) E
theorem de_index {o e : Expr} {ap : Pos} {xo xe : TE} {do_ de : DE} (ho : DEX X W o xo do_) (he : DEX X W e xe de)
    (hbase : attributeBase o "index" X.env (eval o X.env) = eval o X.env := by rfl)
    (hfew : ((backTo pos (starEach [e] X.env)).all (fun x => !x.1) && (backToKw pos (keywordEach [] X.env)).all (fun x => x.1.isSome)
      && decide ([e].length + ([] : List Keyword).length + (if ([] : List Keyword).isEmpty then 0 else 1) < 30)) = true := by rfl)
    (hline : (ap.endLine == pos.line) = true := by rfl) (hs : starEach [e] X.env = (false, eval e X.env) :: starEach [] X.env := by rfl) (hplain : (backTo pos (starEach [] X.env)).any (·.1) = false := by rfl) :
    DEX X W (.Call (.Attribute o "index" ap) [e] [] pos) (tBM X.K "list" (rIndex X.K) xo (tCons xe tNil)) (dIdxM do_ de) := by
  refine ⟨pe_bm PySem.F.plainAttrs_list PySem.F.slot_list_index PySem.F.type_list_index mt_index ho.1 (pa_cons he.1 pa_nil hs) hbase hfew hline hs hplain, fun ρ Q E h l0 F H σ S Qc k kx => ?_⟩
  refine ho.2 ρ _ E h l0 F H σ S _ (fun x s F1 H1 g1 r1 q1 => ?_) kx
  obtain ⟨ds, e1, q1⟩ := q1
  subst e1
  obtain ⟨a, xs, ea, z1, z2⟩ := r1.list g1.bs (.inl rfl)
  subst ea
  refine ⟨.inl ⟨rfl, xs, z1⟩, ?_⟩
  refine he.2 ρ _ E q1 l0 F1 H1 σ (S.go g1) _ (fun y t F2 H2 g2 r2 q2 => ?_) (kx.go g1)
  dsimp only at q2
  unfold dIdx at q2
  split at q2
  · rename_i ds i e3
    cases e3
    obtain ⟨ns, j, e4, h1, h2, q⟩ := q2
    subst e4
    cases r2
    obtain ⟨b, ys, eb, z3, z4⟩ := (r1.go g2).list g2.bs (.inl rfl)
    cases eb
    have ey := dens_ints z4
    subst ey
    refine ⟨a, _, _, j, .int i, rfl, rfl, z3, rfl, by simp [flatV], by rw [List.getElem?_map, h1]; rfl, by simp [eqV], fun m z hm hz => ?_, (k.go (g1.trans g2)).here g2.bs q⟩
    rw [List.getElem?_map] at hz
    cases e5 : ns[m]? with
    | none => rw [e5] at hz; cases hz
    | some c =>
      rw [e5] at hz
      cases hz
      have := h2 m hm
      rw [e5] at this
      show (c == i) = false
      exact beq_false_of_ne fun z => this (by rw [z])
  · exact q2.elim
/-! ### x, y = e, f -/
theorem ds_par (i j : Nat) {x y : Str} {a b : Expr} {ta : TA} {da : DA} {px py pt : Pos} {kt k2 pt2} (hNd : X.N.Nodup) (hc : X.calm = true) (ha : DAX X W [a, b] ta da) (hi : X.N[i]? = some x := by rfl) (hj : X.N[j]? = some y := by rfl) (hij : i ≠ j := by decide)
    (hx : X.env.scope.names.lookup x = some .local := by rfl) (hy : X.env.scope.names.lookup y = some .local := by rfl)
    (hw : swappedStores [.Tuple [.Name x px, .Name y py] kt pt] (.Tuple [a, b] k2 pt2) X.env = pure (some [x, y]) := by rfl)
    (hs : swapsWithSole [.Tuple [.Name x px, .Name y py] kt pt] (.Tuple [a, b] k2 pt2) pos.line X.env = pure false := by rfl) :
    DSX X W (.Assign [.Tuple [.Name x px, .Name y py] kt pt] (.Tuple [a, b] k2 pt2) pos) (tPar i j ta) (dPar i j da) := by
  refine ⟨ps_par hc hNd hi hj hij hx hy ha.1 hw hs, fun D ρ h l0 F H σ S C L => ?_⟩
  refine ha.2 ρ _ _ h l0 F H σ S _ (fun vs ss F1 H1 g1 r1 q1 => ?_) (L.kx S)
  split at q1
  · cases r1 with
    | cons ra r1 =>
      cases r1 with
      | cons rb r1 =>
        cases r1
        refine ⟨_, _, rfl, ?_⟩
        have S1 := (S.go g1).put i ra
        have S2 := S1.put j rb
        exact ((L.trans S.bs (.of g1) .refl).trans g1.bs (.of (.refl g1.bs)) (.put i)).nx F1 H1 _ _ (.of (.refl g1.bs)) (.put j) S2 q1
  · exact q1.elim
end
theorem dMinV {i : Nat} {ρ : En} {ns : List Int} {Q : Sl → Prop} {E : Xn → Prop} (h : ρ.getD i .emp = .dat (.lst (ns.map Dt.int))) (h0 : 0 < ns.length) (q : Q (.dat (.v (.int (minL ns))))) : dCB dMinL (dCons (dVar i) dNil) ρ Q E := by
  show useS (ρ.getD i .emp) _
  rw [h]
  exact dMinL_of rfl h0 q
theorem dMaxV {i : Nat} {ρ : En} {ns : List Int} {Q : Sl → Prop} {E : Xn → Prop} (h : ρ.getD i .emp = .dat (.lst (ns.map Dt.int))) (h0 : 0 < ns.length) (q : Q (.dat (.v (.int (maxL ns))))) : dCB dMaxL (dCons (dVar i) dNil) ρ Q E := by
  show useS (ρ.getD i .emp) _
  rw [h]
  exact dMaxL_of rfl h0 q
/-! ### a, b, .. = a tuple or a list -/
section
variable {X : Cx} {pos : Pos}
def gSq (K : PySem.W.Frag) (n : Nat) (t : TGs) : TG := fun v σ H Q => gTup K n t v σ H Q ∨ gUnl K n t v σ H Q
theorem pg_sq {es : List Expr} {k : Nat} {t : TGs} {n : Nat} (hc : X.calm = true) (h : PGs X es t) (hn : (assignEach es X.env).length = n := by rfl) (hst : (assignEach es X.env).findIdx? (·.1) = none := by rfl) : PG X (.Tuple es k pos) (gSq X.K n t) :=
  ⟨fun pins s σ H v u Q I r hw => hw.elim (fun w => (pg_tup hc h hn hst).run pins s σ H v u Q I r w) (fun w => (pg_unl hc h hn hst).run pins s σ H v u Q I r w)⟩
def gdSq (n : Nat) (t : DGs) : DG
  | .dat (.tup ds), ρ, R => ds.length = n ∧ t ds ρ R
  | .dat (.lst ds), ρ, R => ds.length = n ∧ t ds ρ R
  | _, _, _ => False
theorem dg_sq {es : List Expr} {k : Nat} {g : TGs} {t : DGs} {n : Nat} {ns : List Nat} (hc : X.calm = true) (h : DGsX X es ns g t) (hn : (assignEach es X.env).length = n := by rfl) (hst : (assignEach es X.env).findIdx? (·.1) = none := by rfl) : DGX X (.Tuple es k pos) ns (gSq X.K n g) (gdSq n t) := by
  obtain ⟨p, sg⟩ := h
  refine ⟨pg_sq hc p hn hst, fun s ρ R h l0 F H σ v S r Rc k => ?_⟩
  unfold gdSq at h
  split at h
  · obtain ⟨a, xs, e, h1, h2⟩ := SlV.tup r
    exact .inl ⟨a, xs, e, sameT S.bs.sub h1, by rw [h2.length]; exact h.1, sg _ ρ R h.2 l0 F H σ xs S h2 Rc k⟩
  · obtain ⟨a, xs, e, h1, h2⟩ := SlV.lst r
    exact .inr ⟨a, xs, e, S.bs.sub.seq h1, by rw [h2.length]; exact h.1, sg _ ρ R h.2 l0 F H σ xs S h2 Rc k⟩
  · exact h.elim
end
/-! ### == of ints in tests -/
theorem eqv_ii (a b : Int) : PyData.eqv (.int a) (.int b) = decide (a = b) := by
  rw [PyData.eqv]
  exact Bool.beq_eq_decide_eq a b
theorem iteE {a b : Int} {A B : Prop} (h1 : a = b → A) (h2 : a ≠ b → B) : if PyData.eqv (.int a) (.int b) = true then A else B := by
  rw [eqv_ii]
  exact iteD h1 h2
theorem iteN {a b : Int} {A B : Prop} (h1 : a ≠ b → A) (h2 : a = b → B) : if (!PyData.eqv (.int a) (.int b)) = true then A else B := by
  rw [eqv_ii]
  by_cases h : a = b
  · rw [if_neg (by simp [h])]
    exact h2 h
  · rw [if_pos (by simp [h])]
    exact h1 h
/-! ### data equal to themselves -/
def okD : Nat → Dt → Bool
  | _, .v (.int _) => true
  | _, .v (.bl _) => true
  | _, .v .non => true
  | _, .v (.str x) => (PyData.str x).canLay0
  | n + 1, .lst ds => ds.all (okD n)
  | n + 1, .tup ds => ds.all (okD n)
  | _, _ => false
theorem okD_pys {n : Nat} (ih : ∀ d, okD n d = true → ∃ e, toPy d = some e ∧ e.canLay0 = true ∧ e.depth ≤ n + 1) : ∀ ds : List Dt, ds.all (okD n) = true → ∃ es, toPys ds = some es ∧ PyData.canLayAll0 es = true ∧ PyData.depthAll es ≤ n + 1
  | [], _ => ⟨[], rfl, rfl, by simp [PyData.depthAll]⟩
  | d :: ds, h => by
    rw [List.all_cons, Bool.and_eq_true] at h
    obtain ⟨e, h1, h2, h3⟩ := ih d h.1
    obtain ⟨es, h4, h5, h6⟩ := okD_pys ih ds h.2
    refine ⟨e :: es, by simp only [toPys, h1, h4], by simp only [PyData.canLayAll0, h2, h5, Bool.and_self], ?_⟩
    simp only [PyData.depthAll]
    omega
theorem okD_py : ∀ (n : Nat) (d : Dt), okD n d = true → ∃ e, toPy d = some e ∧ e.canLay0 = true ∧ e.depth ≤ n + 1
  | n, .v x, h => by
    cases x with
    | int i => exact ⟨.int i, rfl, rfl, by simp [PyData.depth]⟩
    | bl b => exact ⟨.bool b, rfl, rfl, by simp [PyData.depth]⟩
    | non => exact ⟨.none, rfl, rfl, by simp [PyData.depth]⟩
    | str x => exact ⟨.str x, rfl, by cases n <;> exact h, by simp [PyData.depth]⟩
    | _ => cases n <;> cases h
  | 0, .lst ds, h => by cases h
  | 0, .tup ds, h => by cases h
  | n + 1, .lst ds, h => by
    obtain ⟨es, h1, h2, h3⟩ := okD_pys (okD_py n) ds h
    exact ⟨.list es, by simp only [toPy, h1, Option.map_some], by simpa only [PyData.canLay0] using h2, by simp only [PyData.depth]; omega⟩
  | n + 1, .tup ds, h => by
    obtain ⟨es, h1, h2, h3⟩ := okD_pys (okD_py n) ds h
    exact ⟨.tuple es, by simp only [toPy, h1, Option.map_some], by simpa only [PyData.canLay0] using h2, by simp only [PyData.depth]; omega⟩
  | n, .obj _ _, h => by cases n <;> cases h
  | n, .slt _ _, h => by cases n <;> cases h
  | n, .exc _ _ _ _, h => by cases n <;> cases h
  | n, .dct _, h => by cases n <;> cases h
  | n, .drw, h => by cases n <;> cases h
theorem dEq_self {d : Dt} {Q : Sl → Prop} (h : okD 60 d = true) (q : Q (.dat (.v (.bl true)))) : dEq (.dat d) (.dat d) Q := by
  obtain ⟨e, h1, h2, h3⟩ := okD_py 60 d h
  have h4 : SeqAt.shaped e = true := by
    unfold SeqAt.shaped
    rw [h2, decide_eq_true (by omega)]
    rfl
  refine ⟨e, e, h1, h1, h4, h4, ?_⟩
  rw [SeqAt.eqv_refl e h2]
  exact q
theorem dNe_self {d : Dt} {Q : Sl → Prop} (h : okD 60 d = true) (q : Q (.dat (.v (.bl false)))) : dNe (.dat d) (.dat d) Q := by
  obtain ⟨e, h1, h2, h3⟩ := okD_py 60 d h
  have h4 : SeqAt.shaped e = true := by
    unfold SeqAt.shaped
    rw [h2, decide_eq_true (by omega)]
    rfl
  refine ⟨e, e, h1, h1, h4, h4, ?_⟩
  rw [SeqAt.eqv_refl e h2]
  exact q
end DW

set_option Elab.async false
set_option linter.all false
set_option maxRecDepth 100000
/-! DW, part 10: instances of own classes (with a __dict__): attributes, methods by the class, an instance that is being made. -/
namespace DW
open PySem PySem.Spec PyProof.Rows L2
/-! ### e.f -/
def dAt (cs : List Addr) (f : Str) (da : DE) : DE := fun ρ Q E => da ρ (fun s => ∃ C gs d, s = .dat (.obj C gs) ∧ C ∈ cs ∧ gs.lookup f = some d ∧ Q (.dat d)) E
/-- the classes cs have no attribute f of their own -/
def AtOk (K : PySem.W.Frag) (cs : List Addr) (f : Str) : Prop := ∀ C ∈ cs, Cls K C ∧ NoAttr K C f
section
variable {X : Cx} {W : WX} {e o : Expr} {xe xo : TE} {de dob : DE} {pos apos : Pos} {f m : Str}
theorem de_at {cs : List Addr} (c : AtOk X.K cs f) (h : DEX X W e xe de) (hb : attributeBase e f X.env (eval e X.env) = eval e X.env := by rfl) : DEX X W (.Attribute e f pos) (tFld X.K xe f) (dAt cs f de) :=
  ⟨pe_fld h.1 hb, fun ρ Q E q l0 F H σ S Qc k kx => by
    refine h.2 ρ _ E q l0 F H σ S _ (fun x s F1 H1 g1 r1 q1 => ?_) kx
    obtain ⟨C, gs, d, e, hm, hl, q⟩ := q1
    subst e
    cases r1 with
    | obj h r =>
      obtain ⟨v, h2, h3⟩ := r.look hl
      exact ⟨_, C, _, _, v, rfl, g1.bs.sub _ _ h, (c C hm).1, (c C hm).2, h2, k v (.dat d) F1 H1 g1 h3 q⟩⟩
/-! ### o.m(..), by the class of o -/
/-- one row of the table: the class, what its method asks and gives -/
def MOk (P : Program) (w : World) (K : PySem.W.Frag) (mg : Str → Option Value) (base : Heap) (k : Nat) (m : Str) (C : Addr) (sd : Sd) : Prop := ∃ (g : Addr) (fd : FuncData) (ps : List Str), Cls K C ∧ Meth K C m g ∧ FnOk P w K mg base (L2.CX P w) k g fd ps (spOf K sd) ∧ Binds K fd ps []
def tMethD (X : Cx) (k : Nat) (m : Str) (E : L2.St → XK) (ta : TE) (t : TA) : TE := fun σ H Q => ta σ H fun x H1 => ∃ a C dx fs sd, x = .ref a ∧ H1 a = some (.ins C dx fs) ∧ fs.lookup m = none ∧ MOk X.prog X.w X.K X.mg X.base k m C sd ∧ t σ H1 fun vs H2 => spOf X.K sd (x :: vs) H2 Q (E σ)
theorem pe_methD {k : Nat} {es : List Expr} {ta : TE} {t : TA} {E : L2.St → XK} {pl : Sem Bool} (he : PE X o ta) (hr : Room k X.A) (hx : ∀ σ, PassesAt (L2.CX X.prog X.w) X σ (E σ)) (ha : PA X (e :: es) t)
    (hst : starEach (e :: es) X.env = (false, eval e X.env) :: starEach es X.env := by rfl) (hpl : (backTo pos (starEach es X.env)).any (·.1) = false := by rfl)
    (ht : eval (.Call (.Attribute o m apos) (e :: es) [] pos) X.env = (do
      let ov ← eval o X.env
      standAt apos.atName
      let (f, first) ← holding [ov] (getMethod ov m pl)
      callWith pos f first (backTo pos (starEach (e :: es) X.env)) (backToKw pos (keywordEach [] X.env))) := by rfl) :
    PE X (.Call (.Attribute o m apos) (e :: es) [] pos) (tMethD X k m E ta t) := by
  refine ⟨fun pins s σ H Q I h => ?_⟩
  refine PySem.W.methodCall_KW (pl := pl) (thn (he.run pins s σ H _ I h) fun u s1 ⟨x, H1, I1, rx, a, C, dx, fs, sd, ex, ea, l, ⟨g, fd, ps, c, hm, F, hb⟩, q⟩ => ?_) ht
  subst ex
  obtain rfl : u = Value.ref a := rx
  refine getmeth_ok I1 ea c hm l ?_
  refine PySem.W.callWith_K (first := [.ref a]) (h₀ := X.base) I.ok.mod.kin hm.kp (thn (ha.run pos pins s1 σ H1 _ I1 q) fun us s2 ⟨vs, H2, I2, r, q2⟩ => ⟨I2.kIn, ?_⟩) hst hpl
  exact run_fnS (us := .ref a :: us) (vs := .ref a :: vs) F hr hb (hx σ) I2 (.cons rfl r) q2
theorem pe_methD0 {k : Nat} {ta : TE} {E : L2.St → XK} {pl : Sem Bool} (he : PE X o ta) (hr : Room k X.A) (hx : ∀ σ, PassesAt (L2.CX X.prog X.w) X σ (E σ))
    (ht : eval (.Call (.Attribute o m apos) [] [] pos) X.env = (do
      let ov ← eval o X.env
      standAt apos.atName
      let (f, first) ← holding [ov] (getMethod ov m pl)
      callWith pos f first (backTo pos (starEach [] X.env)) (backToKw pos (keywordEach [] X.env))) := by rfl) :
    PE X (.Call (.Attribute o m apos) [] [] pos) (tMethD X k m E ta tNil) := by
  refine ⟨fun pins s σ H Q I h => ?_⟩
  refine PySem.W.methodCall_KW (pl := pl) (thn (he.run pins s σ H _ I h) fun u s1 ⟨x, H1, I1, rx, a, C, dx, fs, sd, ex, ea, l, ⟨g, fd, ps, c, hm, F, hb⟩, q⟩ => ?_) ht
  subst ex
  obtain rfl : u = Value.ref a := rx
  refine getmeth_ok I1 ea c hm l ?_
  exact PySem.W.callWith_K0 (first := [.ref a]) I1.kIn hm.kp (run_fnS (us := [.ref a]) (vs := [.ref a]) F hr hb (hx σ) I1 (.cons rfl .nil) q)
def dMeth (tbl : List (Addr × Sd)) (m : Str) (da : DE) (db : DA) : DE := fun ρ Q E => da ρ (fun s => ∃ C gs sd, s = .dat (.obj C gs) ∧ (C, sd) ∈ tbl ∧ gs.lookup m = none ∧ db ρ (fun ss => plain ss fun ds => sd (.obj C gs :: ds) (fun d => Q (.dat d)) E) E) E
def TblOk (P : Program) (w : World) (K : PySem.W.Frag) (mg : Str → Option Value) (base : Heap) (k : Nat) (m : Str) (tbl : List (Addr × Sd)) : Prop := ∀ r ∈ tbl, MOk P w K mg base k m r.1 r.2
theorem snd_meth {k : Nat} {tbl : List (Addr × Sd)} {ta : TE} {t : TA} {da : DE} {db : DA} (T : TblOk X.prog X.w X.K X.mg X.base k m tbl) (sa : SndE X.K W ta da) (sb : SndA X.K W t db) : SndE X.K W (tMethD X k m (WE W) ta t) (dMeth tbl m da db) := fun ρ Q E q l0 F H σ S Qc kk kx => by
  refine sa ρ _ E q l0 F H σ S _ (fun x s F1 H1 g1 r1 q1 => ?_) kx
  obtain ⟨C, gs, sd, e, hm, hl, q2⟩ := q1
  subst e
  have r1' := r1
  cases r1 with
  | @obj a _ dx fs _ h r =>
    refine ⟨a, C, dx, fs, sd, rfl, g1.bs.sub _ _ h, r.none hl, T _ hm, ?_⟩
    refine sb ρ _ E q2 l0 F1 H1 σ (S.go g1) _ (fun vs ss F2 H2 g2 r2 q3 => ?_) (kx.go g1)
    obtain ⟨ds, e2, q4⟩ := plain_of q3
    subst e2
    have g12 := g1.trans g2
    refine ⟨l0, F2, .obj C gs :: ds, _, E, g2.bs, .cons (Den.mono g2.ex (.obj h r)) (dens_of r2), q4, fun v d F' H' g r q => ?_, fun cls dct x F' H' g r q => ?_⟩
    · exact kk v (.dat d) F' H' (g12.trans g) r q
    · exact kx cls dct x F' H' (g12.trans g) r q
theorem de_meth {k : Nat} {es : List Expr} {tbl : List (Addr × Sd)} {t : TA} {db : DA} {pl : Sem Bool} (T : TblOk X.prog X.w X.K X.mg X.base k m tbl) (tk : Takes X W) (hr : Room k X.A) (ho : DEX X W o xo dob) (ha : DAX X W (e :: es) t db)
    (hst : starEach (e :: es) X.env = (false, eval e X.env) :: starEach es X.env := by rfl) (hpl : (backTo pos (starEach es X.env)).any (·.1) = false := by rfl)
    (ht : eval (.Call (.Attribute o m apos) (e :: es) [] pos) X.env = (do
      let ov ← eval o X.env
      standAt apos.atName
      let (f, first) ← holding [ov] (getMethod ov m pl)
      callWith pos f first (backTo pos (starEach (e :: es) X.env)) (backToKw pos (keywordEach [] X.env))) := by rfl) :
    DEX X W (.Call (.Attribute o m apos) (e :: es) [] pos) (tMethD X k m (WE W) xo t) (dMeth tbl m dob db) :=
  ⟨pe_methD (pl := pl) ho.1 hr (fun σ => passAt tk σ) ha.1 hst hpl ht, snd_meth T ho.2 ha.2⟩
theorem de_meth0 {k : Nat} {tbl : List (Addr × Sd)} {pl : Sem Bool} (T : TblOk X.prog X.w X.K X.mg X.base k m tbl) (tk : Takes X W) (hr : Room k X.A) (ho : DEX X W o xo dob)
    (ht : eval (.Call (.Attribute o m apos) [] [] pos) X.env = (do
      let ov ← eval o X.env
      standAt apos.atName
      let (f, first) ← holding [ov] (getMethod ov m pl)
      callWith pos f first (backTo pos (starEach [] X.env)) (backToKw pos (keywordEach [] X.env))) := by rfl) :
    DEX X W (.Call (.Attribute o m apos) [] [] pos) (tMethD X k m (WE W) xo tNil) (dMeth tbl m dob dNil) :=
  ⟨pe_methD0 (pl := pl) ho.1 hr (fun σ => passAt tk σ) ht, snd_meth T ho.2 (fun ρ Q E h l0 F H σ S Qc k _ => k [] [] F H (.refl S.bs) .nil h)⟩
end
end DW

set_option Elab.async false
set_option linter.all false
set_option maxRecDepth 100000
/-! DW, part 11: an instance in the making: __init__, C(..). -/
namespace DW
open PySem PySem.Spec PyProof.Rows L2
/-! ### self.f = e in __init__ -/
def putD (f : Str) (v : Dt) : List (Str × Dt) → List (Str × Dt)
  | [] => [(f, v)]
  | (g, x) :: r => if g = f then (g, v) :: r else (g, x) :: putD f v r
section
variable {K : PySem.W.Frag} {l0 : Addr} {F H : Hp} {σ : L2.St} {ρ : En}
theorem DenF.put {f : Str} {v : V} {d : Dt} (r : Den K l0 F v d) : ∀ {gs : List (Str × V)} {fs : List (Str × Dt)}, DenF K l0 F gs fs → DenF K l0 F (putF f v gs) (putD f d fs)
  | _, _, .nil => .cons r .nil
  | _, _, .cons (f := g) h t => by
    unfold putF putD
    by_cases q : g = f
    · rw [if_pos q, if_pos q]
      exact .cons r t
    · rw [if_neg q, if_neg q]
      exact .cons h (DenF.put r t)
theorem DenF.len : ∀ {gs : List (Str × V)} {fs : List (Str × Dt)}, DenF K l0 F gs fs → gs.length = fs.length
  | _, _, .nil => rfl
  | _, _, .cons _ t => congrArg (· + 1) (DenF.len t)
theorem Stt.oob {i : Nat} {p : Addr × Addr} {C : Addr} {fs : List (Str × Dt)} (S : Stt K l0 F H σ ρ) (h : ρ[i]? = some (.oob p C fs)) : ∃ gs, σ[i]? = some (some (.ref p.1)) ∧ F p.1 = none ∧ p.1 ≠ l0 ∧ H p.1 = some (.ins C p.2 gs) ∧ DenF K l0 F gs fs ∧ F p.2 = none ∧ p.2 ≠ l0 ∧ H p.2 = some (.own p.1) := by
  rcases S.sl i _ h with z | ⟨v, h1, a, dx, gs, e, h2, h3, h4, h5, h6, h7, h8, h9, h10⟩
  · cases z
  · subst e
    subst h6
    subst h7
    exact ⟨gs, h1, h2, h3, h4, h5, h8, h9, h10⟩
theorem Stt.mutI {i : Nat} {q : Addr × Addr} {C C' : Addr} {ys : List (Str × V)} {fs es : List (Str × Dt)} (S : Stt K l0 F H σ ρ) (hρ : ρ[i]? = some (.oob q C fs)) (r : DenF K l0 F ys es) :
    Stt K l0 F (upd H q.1 (.ins C' q.2 ys)) σ (ρ.set i (.oob q C' es)) ∧ GoS l0 F H σ ρ F (upd H q.1 (.ins C' q.2 ys)) ∧ OwS H σ ρ σ (ρ.set i (.oob q C' es)) := by
  obtain ⟨gs0, hσ, hF, n0, hH, _, w1, w2, w3⟩ := S.oob hρ
  obtain ⟨p, dx⟩ := q
  have ow : Ow σ ρ p := ⟨i, _, hρ, rfl, hσ⟩
  have nF : ∀ a o, F a = some o → a ≠ p := fun a o h e => by
    rw [e, hF] at h
    cases h
  have bs : Base l0 F (upd H p (.ins C' dx ys)) := by
    refine ⟨fun a o h => ?_, S.bs.nf, ?_⟩
    · rw [upd_ne (nF a o h)]
      exact S.bs.sub a o h
    · obtain ⟨ns, h1, h2⟩ := S.bs.dr
      exact ⟨ns, by rw [upd_ne n0.symm]; exact h1, h2⟩
  refine ⟨⟨bs, by rw [List.length_set]; exact S.len, fun j s h => ?_, fun j k s t a h1 h2 o1 o2 e1 e2 => ?_⟩, ⟨bs, fun _ _ h => h, fun a h1 h2 => absurd h1 h2, fun a o _ h e => ?_⟩, fun a ⟨j, s, h1, h2, h3⟩ => ?_⟩
  · by_cases q : i = j
    · subst q
      rw [List.getElem?_set_self (lt_of_get hρ)] at h
      cases h
      exact .inr ⟨.ref p, hσ, p, dx, ys, rfl, hF, n0, upd_same, r, rfl, rfl, w1, w2, by rw [upd_ne (fun z => by rw [show dx = p from z] at w3; rw [hH] at w3; cases w3)]; exact w3⟩
    · rw [List.getElem?_set_ne q] at h
      rcases S.sl j s h with z | ⟨v, h1, h2⟩
      · exact .inl z
      · refine .inr ⟨v, h1, ?_⟩
        cases s with
        | emp => exact h2
        | dat d => exact h2
        | own ds' =>
          obtain ⟨l', xs', e', a1, a2, h3, a3⟩ := h2
          subst e'
          have ne : l' ≠ p := fun e => q (S.ap i j _ _ p hρ h rfl rfl hσ (by rw [h1, e]))
          exact ⟨l', xs', rfl, a1, a2, by rw [upd_ne ne]; exact h3, a3⟩
        | oob p0 C0 fs0 =>
          obtain ⟨l', dx', gs, e', a1, a2, h3, a3⟩ := h2
          subst e'
          have ne : l' ≠ p := fun e => q (S.ap i j _ _ p hρ h rfl rfl hσ (by rw [h1, e]))
          obtain ⟨a3, e1, e2, z1, z2, z3⟩ := a3
          have nd : dx' ≠ p := fun z => by rw [z, hH] at z3; cases z3
          exact ⟨l', dx', gs, rfl, a1, a2, by rw [upd_ne ne]; exact h3, a3, e1, e2, z1, z2, by rw [upd_ne nd]; exact z3⟩
        | odc kvs =>
          obtain ⟨l', xs', e', a1, a2, h3, a3⟩ := h2
          subst e'
          have ne : l' ≠ p := fun e => q (S.ap i j _ _ p hρ h rfl rfl hσ (by rw [h1, e]))
          exact ⟨l', xs', rfl, a1, a2, by rw [upd_ne ne]; exact h3, a3⟩
  · have back : ∀ {j : Nat} {s : Sl}, (ρ.set i (.oob (p, dx) C' es))[j]? = some s → s.isOwn = true → ∃ s', ρ[j]? = some s' ∧ s'.isOwn = true := fun {j s} h o => by
      by_cases q : i = j
      · subst q
        exact ⟨_, hρ, rfl⟩
      · rw [List.getElem?_set_ne q] at h
        exact ⟨s, h, o⟩
    obtain ⟨s', z1, z2⟩ := back h1 o1
    obtain ⟨t', z3, z4⟩ := back h2 o2
    exact S.ap j k s' t' a z1 z3 z2 z4 e1 e2
  · rw [upd_ne (fun z => h (by rw [z]; exact ow))]
    exact e
  · by_cases q : i = j
    · subst q
      exact .inl ⟨i, _, hρ, rfl, h3⟩
    · rw [List.getElem?_set_ne q] at h1
      exact .inl ⟨j, s, h1, h2, h3⟩
end
/-- self.f = e, self the slot i -/
def dFld (cs : List Addr) (i : Nat) (f : Str) (de : DE) : DS := fun D ρ => de ρ (datS fun d => ∃ p C fs, ρ[i]? = some (.oob p C fs) ∧ C ∈ cs ∧ fs.length < 1000 ∧ D.nx (ρ.set i (.oob p C (putD f d fs)))) fun x => D.ex x ρ
theorem ds_fld {X : Cx} {W : WX} {value : Expr} {te : TE} {de : DE} {cs : List Addr} {f : Str} (c : AtOk X.K cs f) (i : Nat) {y : Str} {p1 p2 pos : Pos} (hv : DEX X W value te de) (hN : X.N[i]? = some y := by rfl) (hvis : Vis X.env.scope y := by first | exact Or.inl rfl | exact Or.inr (Or.inl rfl) | exact Or.inr (Or.inr rfl))
    (hd : (y == ("__debug__" : Str)) = false := by decide) (hcd : (y == ("__classdict__" : Str)) = false := by decide) (hs : swapsWith value (some (.Attribute (.Name y p1) f p2)) pos.line X.env = pure false := by rfl) :
    DSX X W (.Assign [.Attribute (.Name y p1) f p2] value pos) (sFld X.K (tVar i) te f) (dFld cs i f de) := by
  refine ⟨ps_fld (pe_var hN hvis hd hcd) hv.1 hs, fun D ρ h l0 F H σ S C L => ?_⟩
  refine hv.2 ρ _ _ h l0 F H σ S _ (fun v s F1 H1 g1 r1 q1 => ?_) (L.kx S)
  obtain ⟨d, e, q1⟩ := datS_of q1
  subst e
  obtain ⟨p, Cl, fs, hρ, hm, hl, q⟩ := q1
  have S1 := S.go g1
  obtain ⟨gs, hσ, hF, n0, hH, r, _⟩ := S1.oob hρ
  obtain ⟨S2, g2, w2⟩ := S1.mutI (C' := Cl) hρ (DenF.put (f := f) r1 r)
  refine ⟨.ref p.1, hσ, p.1, Cl, p.2, gs, rfl, hH, (c Cl hm).1, (c Cl hm).2, by rw [r.len]; exact hl, ?_⟩
  exact (L.trans S.bs (.of g1) .refl).nx F1 _ σ _ g2 w2 S2 q
/-! ### __init__ -/
/-- from the making on: only x, which is new, is not frozen -/
structure GoI (l0 x : Addr) (F H F' H' : Hp) : Prop where
  bs : Base l0 F' H'
  ex : Same F F'
  new : ∀ a, F a = none → F' a ≠ none → H a = none ∨ a = x
  keep : ∀ a o, a ≠ l0 → a ≠ x → H a = some o → H' a = some o
def spIn (K : PySem.W.Frag) (C : Addr) (sd : Sd) : Sp := fun vs H Q E => ∃ x us l0 F ds Qd Ed dx, vs = V.ref x :: us ∧ Base l0 F H ∧ F x = none ∧ x ≠ l0 ∧ H x = some (.ins C dx []) ∧ (F dx = none ∧ dx ≠ l0 ∧ H dx = some (.own x)) ∧ Dens K l0 F us ds ∧ sd ds Qd Ed ∧
  (∀ gs fs dx' F' H', GoI l0 x F H F' H' → F' x = none → H' x = some (.ins C dx' fs) → DenF K l0 F' fs gs → Qd (.obj C gs) → Q .non H') ∧ (∀ cls dct xn F' H', GoI l0 x F H F' H' → XDen K l0 F' H' cls dct xn → Ed xn → E cls dct H')
def startI (p : Addr × Addr) (C : Addr) (n : Nat) (ds : List Dt) : En := .oob p C [] :: startD (n - 1) ds
def dEndsI (p : Addr × Addr) (C : Addr) (Q : Dt → Prop) (E : Xn → Prop) : DEnds := { nx := fun ρ => ∃ gs, ρ[0]? = some (.oob p C gs) ∧ Q (.obj C gs), rt := fun _ => False, bk := fun _ => False, ct := fun _ => False, ex := fun x _ => E x }
theorem startD_plain {n : Nat} {ds : List Dt} {i : Nat} {s : Sl} (h : (startD n ds)[i]? = some s) (o : s.isOwn = true) : False := by
  unfold startD at h
  by_cases z : i < ds.length
  · rw [List.getElem?_append_left (by rw [List.length_map]; exact z), List.getElem?_map] at h
    cases e : ds[i]? with
    | none => rw [e] at h; cases h
    | some d =>
      rw [e] at h
      cases h
      cases o
  · rw [List.getElem?_append_right (by rw [List.length_map]; omega)] at h
    have := List.mem_of_getElem? h
    rw [List.eq_of_mem_replicate this] at o
    cases o
section
variable {K : PySem.W.Frag} {l0 : Addr} {F H : Hp}
theorem Stt.startI {N : List Str} {y : Str} {x C dx : Addr} {vs : List V} {ds : List Dt} (b : Base l0 F H) (hF : F x = none) (n0 : x ≠ l0) (hH : H x = some (.ins C dx [])) (hd : F dx = none ∧ dx ≠ l0 ∧ H dx = some (.own x)) (r : Dens K l0 F vs ds) : Stt K l0 F H (L2.start (y :: N) (.ref x :: vs)) (DW.startI (x, dx) C (y :: N).length ds) := by
  have S0 := Stt.start (N := N) b r
  have e1 : L2.start (y :: N) (.ref x :: vs) = some (.ref x) :: L2.start N vs := by
    unfold L2.start
    simp
  have e2 : DW.startI (x, dx) C (y :: N).length ds = .oob (x, dx) C [] :: startD N.length ds := rfl
  rw [e1, e2]
  refine ⟨b, by rw [List.length_cons, List.length_cons, S0.len], fun i s h => ?_, fun i j s t a h1 h2 o1 o2 z1 z2 => ?_⟩
  · cases i with
    | zero =>
      cases h
      exact .inr ⟨.ref x, rfl, x, dx, [], rfl, hF, n0, hH, .nil, rfl, rfl, hd⟩
    | succ i => exact S0.sl i s h
  · cases i with
    | zero =>
      cases j with
      | zero => rfl
      | succ j => exact (startD_plain h2 o2).elim
    | succ i => exact (startD_plain h1 o1).elim
theorem startI_ow {N : List Str} {y : Str} {x dx C : Addr} {vs : List V} {ds : List Dt} {a : Addr} (h : Ow (L2.start (y :: N) (.ref x :: vs)) (DW.startI (x, dx) C (y :: N).length ds) a) : a = x := by
  obtain ⟨i, s, h1, h2, h3⟩ := h
  cases i with
  | zero =>
    have e1 : L2.start (y :: N) (.ref x :: vs) = some (.ref x) :: L2.start N vs := by
      unfold L2.start
      simp
    rw [e1] at h3
    cases h3
    rfl
  | succ i => exact (startD_plain h1 h2).elim
end
/-- __init__ keeps its promise -/
theorem fn_dIn {P : Program} {w : World} {K : PySem.W.Frag} {mg : Str → Option Value} {base : Heap} {x y qual : Str} {params : Arguments} {body : List Stmt} {scope : Scope} {dvs : List V} {kws : List (Str × V)} {f C : Addr} {fd : FuncData} {N ps : List Str} {k : Nat} {sd : Sd} {ds : DS}
    (F : FunD K x qual params body scope dvs kws f fd) (S : FnScope (y :: N) ps scope) (len : ∀ as Q E, sd as Q E → as.length + 1 = ps.length)
    (hb : ∀ (cdv : Value) (A : Around) (outer : List Env) (s : Shared) (H : Hp) (E : XK), Room k (A.deeper (envOfC qual scope s.heap.objs.size f cdv)) →
      ∃ ts, DSSX (cxOf (L2.CX P w) P w K mg base (y :: N) qual scope f cdv A outer s H E) (fun cls d _ H => E cls d H) body ts ds)
    (hp : ∀ p as Q E, sd as Q E → ds (dEndsI p C Q E) (DW.startI p C (y :: N).length as)) : FnOk P w K mg base (L2.CX P w) (k + 1) f fd ps (spIn K C sd) := by
  refine F.ok S (fun vs H Q E h => ?_) fun cdv A outer s H vs Q E hr h => ?_
  · obtain ⟨x, us, l0, F, as, Qd, Ed, dx, e, b, hF, n0, hH, hd, r, h, _, _⟩ := h
    rw [e, List.length_cons, r.length]
    exact len as Qd Ed h
  · obtain ⟨x, us, l0, F, as, Qd, Ed, dx, e, b, hF, n0, hH, hd, r, h, hq, he⟩ := h
    subst e
    obtain ⟨ts, p, sd⟩ := hb cdv A outer s H E hr
    have toI : ∀ {F' H'}, GoS l0 F H (L2.start (y :: N) (.ref x :: us)) (DW.startI (x, dx) C (y :: N).length as) F' H' → GoI l0 x F H F' H' := fun g =>
      ⟨g.bs, g.ex, fun a h1 h2 => (g.new a h1 h2).imp id startI_ow, fun a o n1 n2 e => g.keep a o n1 (fun z => n2 (startI_ow z)) e⟩
    refine ⟨ts, p, sd _ _ (hp (x, dx) as Qd Ed h) l0 F H _ (Stt.startI b hF n0 hH hd r) _ ⟨fun F' H' σ' ρ' g w S' q => ?_, fun F' H' v d g r q => q.elim, fun F' H' σ' ρ' g w S' q => q.elim, fun F' H' σ' ρ' g w S' q => q.elim, fun cls d x F' H' σ' ρ' g w S' r q => ?_, fun F' H' σ' ρ' v d g w S' r q => q.elim⟩⟩
    · obtain ⟨gs, h0, q⟩ := q
      obtain ⟨fs, _, z1, _, z3, z4, _⟩ := S'.oob h0
      exact hq gs fs dx F' H' (toI g) z1 z3 z4 q
    · exact he cls d x F' H' (toI g) r q
/-! ### C(..) -/
section
variable {X : Cx} {W : WX} {e : Expr} {pos : Pos}
theorem run_makeS {CX : CXT} {k : Nat} {C f : Addr} {fd : FuncData} {ps : List Str} {sp : Sp} {E : L2.St → XK} {pins : List (Addr × Obj)} {σ : L2.St} {H : Hp} {s : Shared} {Q : VK} {us : List Value} {vs : List V} (M : Mk X.K C f) (F : FnOk X.prog X.w X.K X.mg X.base CX k f fd ps sp) (hr : Room (k + 1) X.A) (hb : Binds X.K fd ps [])
    (hx : PassesAt CX X σ (E σ)) (I : Inv X pins σ H s) (r : Vals vs us)
    (h : ∀ x dx, H x = none → H dx = none → dx ≠ x → sp (.ref x :: vs) (upd (upd H dx (.own x)) x (.ins C dx [])) (fun v H2 => v = .non ∧ Q (.ref x) H2) (E σ)) :
    wpAny (model X.prog X.w) X.A (call (.ref C) us) (EP X pins σ Q) X.xe s := by
  have hq := h (s.heap.objs.size + 1) s.heap.objs.size (I.hok.fresh (Nat.le_succ _)) (I.hok.fresh (Nat.le_refl _)) (Nat.ne_of_lt (Nat.lt_succ_self _))
  have I2 := Inv.made (C := C) I
  have r2 : Vals (V.ref (s.heap.objs.size + 1) :: vs) (Value.ref (s.heap.objs.size + 1) :: us) := .cons rfl r
  have hl : (Value.ref (s.heap.objs.size + 1) :: us).length = ps.length := by
    have e := r2.length
    rw [F.len _ _ _ _ hq] at e
    exact e.symm
  have b := hb _ (Value.ref (s.heap.objs.size + 1) :: us) I2.kIn (by rw [List.append_nil]; exact hl)
  rw [List.append_nil] at b
  refine wpAny_call (make_map (f := f) I.kIn M.makes M.init (beq_iff_eq.mp M.fn) (codeAny_mono (F.run _ X.stack _ _ ⟨Value.ref (s.heap.objs.size + 1) :: us, []⟩ (Value.ref (s.heap.objs.size + 1) :: us) _ _ (E σ) (hr.make C us [])
    (I2.env0.make C us []) b r2 hq) fun r s' hq' => ?_))
  cases r with
  | error e => exact hx pins _ _ e s' I2 hq'
  | ok fl =>
    cases fl with
    | ret u =>
      obtain ⟨v, H', I3, rv, ev, q3⟩ := I2.after hq'
      subst ev
      exact ⟨rv, ⟨V.ref (s.heap.objs.size + 1), H', I3, rfl, q3⟩⟩
    | next => exact False.elim hq'
    | brk => exact False.elim hq'
    | cont => exact False.elim hq'
def tMakeS (C : Addr) (sp : Sp) (E : L2.St → XK) (t : TA) : TE := fun σ H Q => t σ H fun vs H1 => ∀ x dx, H1 x = none → H1 dx = none → dx ≠ x → sp (.ref x :: vs) (upd (upd H1 dx (.own x)) x (.ins C dx [])) (fun v H2 => v = .non ∧ Q (.ref x) H2) (E σ)
theorem pe_makeS {CX : CXT} {k : Nat} {C f : Addr} {fd : FuncData} {ps : List Str} {sp : Sp} {E : L2.St → XK} {x : Str} {p : Pos} {es : List Expr} {t : TA} (M : Mk X.K C f) (F : FnOk X.prog X.w X.K X.mg X.base CX k f fd ps sp) (hr : Room (k + 1) X.A) (hg : Gl X x) (hm : X.mg x = some (.ref C)) (hb : Binds X.K fd ps []) (hx : ∀ σ, PassesAt CX X σ (E σ))
    (ha : PA X (e :: es) t) (hdb : (x == ("__debug__" : Str)) = false := by decide) (he : starEach (e :: es) X.env = (false, eval e X.env) :: starEach es X.env := by rfl) (hpl : (backTo pos (starEach es X.env)).any (·.1) = false := by rfl) :
    PE X (.Call (.Name x p) (e :: es) [] pos) (tMakeS C sp E t) := by
  refine ⟨fun pins s σ H Q I h => ?_⟩
  refine wpAny_Call_Name_kw (ld_glob I hg hm ?_ hdb)
  refine PySem.W.callWith_K (h₀ := X.base) I.ok.mod.kin M.kp (thn (ha.run pos pins s σ H _ I h) fun us s1 ⟨vs, H1, I1, r, q⟩ => ⟨I1.kIn, ?_⟩) he hpl
  exact run_makeS M F hr hb (hx σ) I1 r q
theorem pe_makeS0 {CX : CXT} {k : Nat} {C f : Addr} {fd : FuncData} {ps : List Str} {sp : Sp} {E : L2.St → XK} {x : Str} {p : Pos} (M : Mk X.K C f) (F : FnOk X.prog X.w X.K X.mg X.base CX k f fd ps sp) (hr : Room (k + 1) X.A) (hg : Gl X x) (hm : X.mg x = some (.ref C)) (hb : Binds X.K fd ps []) (hx : ∀ σ, PassesAt CX X σ (E σ))
    (hdb : (x == ("__debug__" : Str)) = false := by decide) : PE X (.Call (.Name x p) [] [] pos) (tMakeS C sp E tNil) := by
  refine ⟨fun pins s σ H Q I h => ?_⟩
  refine wpAny_Call_Name_kw (ld_glob I hg hm ?_ hdb)
  exact PySem.W.callWith_K0 I.kIn M.kp (run_makeS (us := []) M F hr hb (hx σ) I .nil h)
/-- sd: what the constructor asks and gives (an object of C) -/
def dMake (sd : Sd) (da : DA) : DE := fun ρ Q E => da ρ (fun ss => plain ss fun ds => sd ds (fun d => Q (.dat d)) E) E
theorem snd_make {C : Addr} {sd : Sd} {t : TA} {da : DA} (sa : SndA X.K W t da) : SndE X.K W (tMakeS C (spIn X.K C sd) (WE W) t) (dMake sd da) := fun ρ Q E q l0 F H σ S Qc kk kx => by
  refine sa ρ _ E q l0 F H σ S _ (fun vs ss F1 H1 g1 r1 q1 => ?_) kx
  obtain ⟨ds, e, q2⟩ := plain_of q1
  subst e
  intro x dx hx hdx hne
  have b := g1.bs
  have gl : Go l0 F1 H1 F1 (upd (upd H1 dx (.own x)) x (.ins C dx [])) := by
    have ga := Go.loose b (.own x) hdx
    exact ga.trans (Go.loose ga.bs (.ins C dx []) (by rw [upd_ne (Ne.symm hne)]; exact hx))
  have nF : F1 x = none := by
    cases e : F1 x with
    | none => rfl
    | some o => rw [b.sub x o e] at hx; cases hx
  have n0 : x ≠ l0 := fun e => b.live (by rw [← e]; exact hx)
  -- what stood before still stands
  have keepAll : ∀ {F' H'}, GoI l0 x F1 (upd (upd H1 dx (.own x)) x (.ins C dx [])) F' H' → ∀ a o, a ≠ l0 → H1 a = some o → H' a = some o := fun {F' H'} g a o na e => by
    have nx : a ≠ x := fun z => by rw [z, hx] at e; cases e
    exact g.keep a o na nx (gl.keep a o na e)
  have newAll : ∀ {F' H'}, GoI l0 x F1 (upd (upd H1 dx (.own x)) x (.ins C dx [])) F' H' → ∀ a, F1 a = none → F' a ≠ none → H1 a = none := fun {F' H'} g a h1 h2 => by
    rcases g.new a h1 h2 with z | z
    · cases e : H1 a with
      | none => rfl
      | some o =>
        by_cases n : a = l0
        · subst n
          exact absurd z gl.bs.live
        · rw [gl.keep a o n e] at z
          cases z
    · rw [z]
      exact hx
  have nFd : F1 dx = none := by
    cases e : F1 dx with
    | none => rfl
    | some o => rw [b.sub dx o e] at hdx; cases hdx
  have n0d : dx ≠ l0 := fun e => b.live (by rw [← e]; exact hdx)
  refine ⟨x, vs, l0, F1, ds, _, E, dx, rfl, gl.bs, nF, n0, upd_same, ⟨nFd, n0d, by rw [upd_ne hne, upd_same]⟩, dens_of r1, q2, fun gs fs dx' F' H' g z1 z3 z4 q => ⟨rfl, ?_⟩, fun cls dct xn F' H' g r q => ?_⟩
  · have ex : Same F' (upd F' x (.ins C dx' fs)) := fun a o e => by
      rw [upd_ne (ne_of_none e z1)]
      exact e
    have go : Go l0 F1 H1 (upd F' x (.ins C dx' fs)) H' := by
      refine ⟨⟨fun a o e => ?_, by rw [upd_ne n0.symm]; exact g.bs.nf, g.bs.dr⟩, fun a o e => ex a o (g.ex a o e), fun a h1 h2 => ?_, keepAll g⟩
      · by_cases w : a = x
        · subst w
          rw [upd_same] at e
          cases e
          exact z3
        · rw [upd_ne w] at e
          exact g.bs.sub a o e
      · by_cases w : a = x
        · rw [w]
          exact hx
        · rw [upd_ne w] at h2
          exact newAll g a h1 h2
    exact kk (.ref x) (.dat (.obj C gs)) _ H' (g1.trans go) (Den.obj upd_same (DenF.mono ex z4)) q
  · have go : Go l0 F1 H1 F' H' := ⟨g.bs, g.ex, newAll g, keepAll g⟩
    exact kx cls dct xn F' H' (g1.trans go) r q
/-- the constructor of the class C by its name -/
def MakeOk (P : Program) (w : World) (K : PySem.W.Frag) (mg : Str → Option Value) (base : Heap) (k : Nat) (x : Str) (C : Addr) (sd : Sd) : Prop := ∃ (f : Addr) (fd : FuncData) (ps : List Str), Mk K C f ∧ FnOk P w K mg base (L2.CX P w) k f fd ps (spIn K C sd) ∧ mg x = some (.ref C) ∧ Binds K fd ps []
theorem de_make {k : Nat} {C : Addr} {sd : Sd} {x : Str} {p : Pos} {es : List Expr} {t : TA} {da : DA} (M : MakeOk X.prog X.w X.K X.mg X.base k x C sd) (tk : Takes X W) (hr : Room (k + 1) X.A) (hg : Gl X x) (ha : DAX X W (e :: es) t da)
    (hdb : (x == ("__debug__" : Str)) = false := by decide) (he : starEach (e :: es) X.env = (false, eval e X.env) :: starEach es X.env := by rfl) (hpl : (backTo pos (starEach es X.env)).any (·.1) = false := by rfl) :
    DEX X W (.Call (.Name x p) (e :: es) [] pos) (tMakeS C (spIn X.K C sd) (WE W) t) (dMake sd da) := by
  obtain ⟨f, fd, ps, m, F, hm, hb⟩ := M
  exact ⟨pe_makeS m F hr hg hm hb (fun σ => passAt tk σ) ha.1 hdb he hpl, snd_make ha.2⟩
theorem de_make0 {k : Nat} {C : Addr} {sd : Sd} {x : Str} {p : Pos} (M : MakeOk X.prog X.w X.K X.mg X.base k x C sd) (tk : Takes X W) (hr : Room (k + 1) X.A) (hg : Gl X x) (hdb : (x == ("__debug__" : Str)) = false := by decide) :
    DEX X W (.Call (.Name x p) [] [] pos) (tMakeS C (spIn X.K C sd) (WE W) tNil) (dMake sd dNil) := by
  obtain ⟨f, fd, ps, m, F, hm, hb⟩ := M
  exact ⟨pe_makeS0 m F hr hg hm hb (fun σ => passAt tk σ) hdb, snd_make (fun ρ Q E h l0 F H σ S Qc k _ => k [] [] F H (.refl S.bs) .nil h)⟩
end
end DW

set_option Elab.async false
set_option linter.all false
set_option maxRecDepth 100000
/-! DW, part 12: isinstance with an own class; a class of the module as a value. -/
namespace DW
open PySem PySem.Spec PyProof.Rows L2
/-- what isinstance asks of the class C of an instance -/
structure IsC (K : PySem.W.Frag) (C : Addr) : Prop where
  cl : Cls K C
  ha : PySem.W.findIn K (.ref C) "__class__" = some (some (.builtin "object.__class__"))
  hn : PySem.W.specialIn K (.builtin "object.__class__") "__get__" = some (some (.builtin "getset_descriptor.__get__"))
  tk : PySem.W.takesIn K (.builtin "object.__class__") = some true
  hm : PySem.W.mroIn K C (.type "object") = some true
/-- the answers of isinstance(.., D): by the classes of the table; plain data are no D -/
structure IsTbl (K : PySem.W.Frag) (D : Addr) (tbl : List (Addr × Bool)) : Prop where
  own : ∀ r ∈ tbl, IsC K r.1 ∧ PySem.W.kitOne K (.ref r.1) (.ref D) = some r.2
  pl : ∀ t : Ty6, PySem.W.kitOne K (.type t.nm) (.ref D) = some false
def dIsO (D : Addr) (tbl : List (Addr × Bool)) : DCl := fun ss Q => ∃ s, ss = [s, .dat (.v (.ref D))] ∧ ((∃ C gs b, s = .dat (.obj C gs) ∧ (C, b) ∈ tbl ∧ Q (.dat (.v (.bl b)))) ∨ ∃ t, tyD s = some t ∧ Q (.dat (.v (.bl false))))
section
variable {K : PySem.W.Frag} {W : WX} {X : Cx}
theorem sc_isO {D : Addr} {tbl : List (Addr × Bool)} (T : IsTbl K D tbl) : SndC K (rIsi K) (dIsO D tbl) := fun vs ss Q h l0 F H b r Qc k => by
  obtain ⟨s, e, h⟩ := h
  subst e
  cases r with
  | cons r1 r =>
    cases r with
    | cons r2 r =>
      cases r
      obtain rfl := r2.val
      rcases h with ⟨C, gs, v, e, hm, q⟩ | ⟨t, ht, q⟩
      · subst e
        cases r1 with
        | obj h1 h2 =>
          obtain ⟨c, hk⟩ := T.own _ hm
          exact ⟨_, _, _, _, v, rfl, .own D, .base (.ins (b.sub _ _ h1) c.cl c.ha c.hn c.tk c.hm), hk, k.here b q⟩
      · exact ⟨_, _, _, _, false, rfl, .own D, tyX_of b r1 ht, T.pl t, k.here b q⟩
/-- a class of the module by its name -/
theorem de_clsn {x : Str} {p : Pos} {D : Addr} (hg : Gl X x) (hm : X.mg x = some (.ref D)) (hd : (x == ("__debug__" : Str)) = false := by decide) : DEX X W (.Name x p) (tC (.ref D)) (dC (.ref D)) := de_pe (pe_glob hg hm rfl hd)
end
/-! ### the head with checks of one's own -/
def hookX (n : Nat) (fa : List He.Fa) (fn : List He.DefD) (ex : PySem.W.Frag → Bool) : PySem.W.Hook where
  α := He.AlD × Bool
  obs := fun s => (He.obsDG n fa fn s.heap.get?, ex (He.frG s.heap.get? (He.asD s.heap.get? n)))
  val := fun _ => (He.valD fn, true)
  says := fun _ h => ∃ K : PySem.W.Frag, K.In h ∧ He.SaysD fa fn K ∧ ex K = true
  of := fun _ _ e => ⟨_, He.frG_in, congrArg Prod.fst e, congrArg Prod.snd e⟩
  keeps := fun _ _ _ ⟨K, hK, c⟩ k => ⟨K, PySem.W.Frag.In.keeps hK k, c⟩
def obsX (n : Nat) (fa : List He.Fa) (fn : List He.DefD) (ex : PySem.W.Frag → Bool) (g : Addr → Option Obj) : He.AlD × Bool := (He.obsDG n fa fn g, ex (He.frG g (He.asD g n)))
theorem obsX_eq {n : Nat} {fa : List He.Fa} {fn : List He.DefD} {ex : PySem.W.Frag → Bool} {g : Addr → Option Obj} {s : Shared} (h : ∀ a, g a = s.heap.get? a) : obsX n fa fn ex g = (hookX n fa fn ex).obs s := by
  have e : g = s.heap.get? := funext h
  rw [e] <;> rfl
/-- as a check: isinstance asks of the class C .. -/
def isCb (K : PySem.W.Frag) (C : Addr) : Bool := He.eqO (PySem.W.findIn K (.ref C) "__class__") (some (some (.builtin "object.__class__"))) && (He.eqO (PySem.W.specialIn K (.builtin "object.__class__") "__get__") (some (some (.builtin "getset_descriptor.__get__"))) && (decide (PySem.W.takesIn K (.builtin "object.__class__") = some true) && decide (PySem.W.mroIn K C (.type "object") = some true)))
theorem isCb_ok {K : PySem.W.Frag} {C : Addr} (cl : Cls K C) (h : isCb K C = true) : IsC K C := by
  unfold isCb at h
  obtain ⟨h1, h2⟩ := He.ba h
  obtain ⟨h2, h3⟩ := He.ba h2
  obtain ⟨h3, h4⟩ := He.ba h3
  exact ⟨cl, He.eqO_ok h1, He.eqO_ok h2, of_decide_eq_true h3, of_decide_eq_true h4⟩
/-- isinstance(an instance of the class named x, the class named y) is b -/
def kitb (K : PySem.W.Frag) (x y : Str) (b : Bool) : Bool := decide (PySem.W.kitOne K (.ref (He.ga K x)) (.ref (He.ga K y)) = some b)
def plb (K : PySem.W.Frag) (y : Str) : Bool := [Ty6.int, .bool, .str, .none, .list, .tuple].all fun t => decide (PySem.W.kitOne K (.type t.nm) (.ref (He.ga K y)) = some false)
theorem plb_ok {K : PySem.W.Frag} {y : Str} (h : plb K y = true) (t : Ty6) : PySem.W.kitOne K (.type t.nm) (.ref (He.ga K y)) = some false := by
  have q := List.all_eq_true.mp h t (by cases t <;> simp)
  exact of_decide_eq_true q
end DW

set_option Elab.async false
set_option linter.all false
set_option maxRecDepth 100000
/-! DW, part 13: x = x + [..] of a list of its own. -/
namespace DW
open PySem PySem.Spec PyProof.Rows L2
/-- x = x + [..], x an own list before and behind -/
def dCat (i : Nat) (a : DA) : DS := fun D ρ => match ρ.getD i .emp with
  | .own ds => a ρ (fun ss => ss.length ≤ 100000 ∧ plain ss fun es => ds.length + es.length ≤ 100000 ∧ D.nx (ρ.set i (.own (ds ++ es)))) fun x => D.ex x ρ
  | _ => False
section
variable {X : Cx} {W : WX} {pos : Pos}
theorem ds_cat (i : Nat) {x : Str} {p p2 pb : Pos} {es : List Expr} {pl : Pos} {zr : TA} {dr : DA} (hN : X.N.Nodup) (ha : DAX X W es zr dr) (hi : X.N[i]? = some x := by rfl) (hv : Vis X.env.scope x := by first | exact Or.inl rfl | exact Or.inr (Or.inl rfl) | exact Or.inr (Or.inr rfl)) (hd : (x == ("__debug__" : Str)) = false := by decide)
    (hcd : (x == ("__classdict__" : Str)) = false := by decide) (hx : Loc X.env.scope x := by first | exact .inl rfl | exact .inr rfl)
    (hf : X.fn x = true ∨ X.env.scope.names.lookup x = some .local := by first | exact .inl rfl | exact .inr rfl | assumption) (hs : swapsWithSole [.Name x p] (.BinOp (.Name x p2) .Add (.List es pl) pb) pos.line X.env = pure false := by rfl) (hw : swappedStores [.Name x p] (.BinOp (.Name x p2) .Add (.List es pl) pb) X.env = pure none := by rfl) :
    DSX X W (.Assign [.Name x p] (.BinOp (.Name x p2) .Add (.List es pl) pb) pos) (tAsg (tOp (rAddA X.K) (tVar i) (tLst zr)) (gName i)) (dCat i dr) := by
  obtain ⟨pa, sa⟩ := ha
  refine ⟨ps_asg (pe_op op_addA (pe_var hi hv hd hcd) (pe_lst pa)) (pg_name hN hi hx hf) hs hw, fun D ρ h l0 F H σ S C L => ?_⟩
  unfold dCat at h
  split at h
  · rename_i ds e0
    have e1 := getD_own e0
    obtain ⟨l, xs, hσ, hF, n0, hl, r⟩ := S.own e1
    refine ⟨.ref l, hσ, ?_⟩
    refine sa ρ _ _ h l0 F H σ S _ (fun ys ss F1 H1 g1 r1 q1 => ?_) (L.kx S)
    obtain ⟨z, q1⟩ := q1
    obtain ⟨es', e, z2, q⟩ := plain_of q1
    subst e
    refine ⟨by rw [pairs_len r1]; exact Evl.sz_of z, fun l2 hl2 => ?_⟩
    have S1 := S.go g1
    obtain ⟨l', xs', hσ', hF1, n1, hl1, rr1⟩ := S1.own e1
    have el : l' = l := by
      rw [hσ] at hσ'
      cases hσ'
      rfl
    subst el
    have g2 := Go.loose g1.bs (.lst ys) hl2
    have ne : l' ≠ l2 := fun e => by
      rw [e, hl2] at hl1
      cases hl1
    have r2 := dens_of r1
    refine .inr (.inl ⟨l', l2, xs', ys, rfl, rfl, SqL.of (by rw [upd_ne ne]; exact hl1), SqL.of upd_same, ?_, fun l3 hl3 => ?_⟩)
    · rw [rr1.length, r2.length]
      exact Evl.sz_of z2
    · have S2 := S1.go g2
      exact (L.trans S.bs (.of (g1.trans g2)) .refl).nx F1 _ _ _ (.of (Go.loose g2.bs (.lst (xs' ++ ys)) hl3)) (.putOwn i hl3) (S2.putOwn i hl3 (Dens.append rr1 r2)) q
  · exact h.elim
end
end DW

set_option Elab.async false
set_option linter.all false
set_option maxRecDepth 100000
/-! DW, part 14: C() of a class without an __init__. -/
namespace DW
open PySem PySem.Spec PyProof.Rows L2
structure Mk0 (K : PySem.W.Frag) (C : Addr) : Prop where
  makes : PySem.W.makesIn K C = true
  init : PySem.W.findIn K (.ref C) "__init__" = some (some (.builtin "object.__init__"))
  top : PySem.W.mroIn K C (.type "object") = some true
  kp : PySem.W.keepIn K (.ref C) = true
section
variable {X : Cx} {W : WX} {pos : Pos}
theorem run_bare {C : Addr} {pins : List (Addr × Obj)} {σ : L2.St} {H : Hp} {s : Shared} {Q : VK} (M : Mk0 X.K C) (I : Inv X pins σ H s)
    (h : ∀ x dx, H x = none → H dx = none → dx ≠ x → Q (.ref x) (upd (upd H dx (.own x)) x (.ins C dx []))) : wpAny (model X.prog X.w) X.A (call (.ref C) []) (EP X pins σ Q) X.xe s := by
  have hq := h (s.heap.objs.size + 1) s.heap.objs.size (I.hok.fresh (Nat.le_succ _)) (I.hok.fresh (Nat.le_refl _)) (Nat.ne_of_lt (Nat.lt_succ_self _))
  have I2 := Inv.made (C := C) I
  have e2 : ((s.heap.push PySem.W.emptyDict).push (PySem.W.instObj C s.heap.objs.size)).get? (s.heap.objs.size + 1) = some (PySem.W.instObj C s.heap.objs.size) := by
    have := Heap.get?_push_size (s.heap.push PySem.W.emptyDict) (o := PySem.W.instObj C s.heap.objs.size) rfl
    rwa [Heap.size_push] at this
  refine wpAny_call (make_map0 I.kIn M.makes M.init (fun self => PySem.W.Looks.of_pure (PySem.W.oi_bind _)) ?_)
  have t1 : PySem.W.Looks (model X.prog X.w) ((s.heap.push PySem.W.emptyDict).push (PySem.W.instObj C s.heap.objs.size)) (typeOf (.ref (s.heap.objs.size + 1))) (.ref C) := NwA.type_at e2 rfl
  have t2 : PySem.W.Looks (model X.prog X.w) ((s.heap.push PySem.W.emptyDict).push (PySem.W.instObj C s.heap.objs.size)) (isInstance (.ref (s.heap.objs.size + 1)) (.type "object")) true := t1.andThen (PySem.W.looks_mroIn I2.kIn M.top)
  refine codeAny_call_builtin PySem.W.oi_plain PySem.W.entry_oi (@PySem.W.check_slot (model X.prog X.w) _ _ _ "object.__init__" "object" "__init__" (.ref (s.heap.objs.size + 1)) [] [] _ PySem.W.oi_kind PySem.W.oi_split t2 (PySem.W.oi_args _) ?_)
  rw [PySem.W.oi_run]
  exact wpAny_pure ⟨rfl, ⟨V.ref (s.heap.objs.size + 1), _, I2, rfl, hq⟩⟩
def tBare (C : Addr) : TE := fun _ H Q => ∀ x dx, H x = none → H dx = none → dx ≠ x → Q (.ref x) (upd (upd H dx (.own x)) x (.ins C dx []))
theorem pe_bare {C : Addr} {x : Str} {p : Pos} (M : Mk0 X.K C) (hg : Gl X x) (hm : X.mg x = some (.ref C)) (hdb : (x == ("__debug__" : Str)) = false := by decide) : PE X (.Call (.Name x p) [] [] pos) (tBare C) := by
  refine ⟨fun pins s σ H Q I h => ?_⟩
  refine wpAny_Call_Name_kw (ld_glob I hg hm ?_ hdb)
  exact PySem.W.callWith_K0 I.kIn M.kp (run_bare M I h)
def dBare (C : Addr) : DE := fun _ Q _ => Q (.dat (.obj C []))
theorem de_bare {C : Addr} {x : Str} {p : Pos} (M : Mk0 X.K C) (hg : Gl X x) (hm : X.mg x = some (.ref C)) (hdb : (x == ("__debug__" : Str)) = false := by decide) : DEX X W (.Call (.Name x p) [] [] pos) (tBare C) (dBare C) :=
  ⟨pe_bare M hg hm hdb, fun ρ Q E q l0 F H σ S Qc k kx => by
    intro x dx hx hdx hne
    have b := S.bs
    have ga := Go.loose b (.own x) hdx
    have gb := Go.fresh (p := x) ga.bs (.ins C dx []) (by rw [upd_ne (Ne.symm hne)]; exact hx)
    exact k (.ref x) (.dat (.obj C [])) _ _ (ga.trans gb) (Den.obj upd_same .nil) q⟩
end
end DW

set_option Elab.async false
set_option linter.all false
set_option maxRecDepth 100000
/-! DW, part 15: the frames of methods and of __init__. -/
namespace DW
open PySem PySem.Spec PyProof.Rows L2
theorem mok_by {P : Program} {w : World} {K : PySem.W.Frag} {mg : Str → Option Value} {base : Heap} {x qual m : Str} {st : Stmt} {N ps : List Str} {k : Nat} {sd : Sd} {ds : DS} {C f : Addr} {fd : FuncData} (F : FunD K x qual (defArgs st) (defBody st) (defScope st) [] [] f fd) (cl : Cls K C) (hm : Meth K C m f) (S : FnScope N ps (defScope st)) (len : ∀ as Q E, sd as Q E → as.length = ps.length)
    (hbd : ∀ (kV doc pm : Value) (an : Option Addr) (cdv ct : Value) (us : List Value), us.length = ps.length → bindArgs (PySem.W.fnOf x qual (defArgs st) (defBody st) (defScope st) .none kV doc pm an cdv ct) ⟨us, []⟩ = pure (ps.zip us))
    (hb : ∀ (X : Cx) (W : WX) (f : Addr) (cdv : Value) (A : Around) (outer : List Env) (s : Shared) (H : Hp) (E : XK), X = cxOf (L2.CX P w) P w K mg base N qual (defScope st) f cdv A outer s H E → W = WX0 E → Takes (cxOf (L2.CX P w) P w K mg base N qual (defScope st) f cdv A outer s H E) (WX0 E) → PassesOwn (model P w) (cxOf (L2.CX P w) P w K mg base N qual (defScope st) f cdv A outer s H E).A (cxOf (L2.CX P w) P w K mg base N qual (defScope st) f cdv A outer s H E).env (cxOf (L2.CX P w) P w K mg base N qual (defScope st) f cdv A outer s H E).xe →
      Room k (cxOf (L2.CX P w) P w K mg base N qual (defScope st) f cdv A outer s H E).A → (cxOf (L2.CX P w) P w K mg base N qual (defScope st) f cdv A outer s H E).A.units + 64 < cLine → N.Nodup →
      ∃ ts, DSSX (cxOf (L2.CX P w) P w K mg base N qual (defScope st) f cdv A outer s H E) (WX0 E) (defBody st) ts ds)
    (hp : ∀ as Q E, sd as Q E → ds (dEnds Q E) (startD N.length as)) : MOk P w K mg base (k + 1) m C sd :=
  ⟨f, fd, ps, cl, hm, fn_d F S len (fun cdv A outer s H E hr => hb _ _ f cdv A outer s H E rfl rfl tk_cx po_cx hr hr.units S.nd) hp, FunD.bindsN F (fun kV doc pm an cdv ct us hl => hbd kV doc pm an cdv ct us hl)⟩
theorem makeok_by {P : Program} {w : World} {K : PySem.W.Frag} {mg : Str → Option Value} {base : Heap} {x y qual c : Str} {st : Stmt} {N ps : List Str} {k : Nat} {sd : Sd} {ds : DS} {C f : Addr} {fd : FuncData} (F : FunD K x qual (defArgs st) (defBody st) (defScope st) [] [] f fd) (M : Mk K C f) (hm : mg c = some (.ref C)) (S : FnScope (y :: N) ps (defScope st)) (len : ∀ as Q E, sd as Q E → as.length + 1 = ps.length)
    (hbd : ∀ (kV doc pm : Value) (an : Option Addr) (cdv ct : Value) (us : List Value), us.length = ps.length → bindArgs (PySem.W.fnOf x qual (defArgs st) (defBody st) (defScope st) .none kV doc pm an cdv ct) ⟨us, []⟩ = pure (ps.zip us))
    (hb : ∀ (X : Cx) (W : WX) (f : Addr) (cdv : Value) (A : Around) (outer : List Env) (s : Shared) (H : Hp) (E : XK), X = cxOf (L2.CX P w) P w K mg base (y :: N) qual (defScope st) f cdv A outer s H E → W = WX0 E → Takes (cxOf (L2.CX P w) P w K mg base (y :: N) qual (defScope st) f cdv A outer s H E) (WX0 E) → PassesOwn (model P w) (cxOf (L2.CX P w) P w K mg base (y :: N) qual (defScope st) f cdv A outer s H E).A (cxOf (L2.CX P w) P w K mg base (y :: N) qual (defScope st) f cdv A outer s H E).env (cxOf (L2.CX P w) P w K mg base (y :: N) qual (defScope st) f cdv A outer s H E).xe →
      Room k (cxOf (L2.CX P w) P w K mg base (y :: N) qual (defScope st) f cdv A outer s H E).A → (cxOf (L2.CX P w) P w K mg base (y :: N) qual (defScope st) f cdv A outer s H E).A.units + 64 < cLine → (y :: N).Nodup →
      ∃ ts, DSSX (cxOf (L2.CX P w) P w K mg base (y :: N) qual (defScope st) f cdv A outer s H E) (WX0 E) (defBody st) ts ds)
    (hp : ∀ p as Q E, sd as Q E → ds (dEndsI p C Q E) (startI p C (y :: N).length as)) : MakeOk P w K mg base (k + 1) c C sd :=
  ⟨f, fd, ps, M, fn_dIn F S len (fun cdv A outer s H E hr => hb _ _ f cdv A outer s H E rfl rfl tk_cx po_cx hr hr.units S.nd) hp, hm, FunD.bindsN F (fun kV doc pm an cdv ct us hl => hbd kV doc pm an cdv ct us hl)⟩
/-- a method, an __init__ (of an instance of the class C) as such -/
theorem mfn_by {P : Program} {w : World} {K : PySem.W.Frag} {mg : Str → Option Value} {base : Heap} {x qual : Str} {st : Stmt} {N ps : List Str} {k : Nat} {sd : Sd} {ds : DS} {f : Addr} {fd : FuncData} (F : FunD K x qual (defArgs st) (defBody st) (defScope st) [] [] f fd) (S : FnScope N ps (defScope st)) (len : ∀ as Q E, sd as Q E → as.length = ps.length)
    (hbd : ∀ (kV doc pm : Value) (an : Option Addr) (cdv ct : Value) (us : List Value), us.length = ps.length → bindArgs (PySem.W.fnOf x qual (defArgs st) (defBody st) (defScope st) .none kV doc pm an cdv ct) ⟨us, []⟩ = pure (ps.zip us))
    (hb : ∀ (X : Cx) (W : WX) (f : Addr) (cdv : Value) (A : Around) (outer : List Env) (s : Shared) (H : Hp) (E : XK), X = cxOf (L2.CX P w) P w K mg base N qual (defScope st) f cdv A outer s H E → W = WX0 E → Takes (cxOf (L2.CX P w) P w K mg base N qual (defScope st) f cdv A outer s H E) (WX0 E) → PassesOwn (model P w) (cxOf (L2.CX P w) P w K mg base N qual (defScope st) f cdv A outer s H E).A (cxOf (L2.CX P w) P w K mg base N qual (defScope st) f cdv A outer s H E).env (cxOf (L2.CX P w) P w K mg base N qual (defScope st) f cdv A outer s H E).xe →
      Room k (cxOf (L2.CX P w) P w K mg base N qual (defScope st) f cdv A outer s H E).A → (cxOf (L2.CX P w) P w K mg base N qual (defScope st) f cdv A outer s H E).A.units + 64 < cLine → N.Nodup →
      ∃ ts, DSSX (cxOf (L2.CX P w) P w K mg base N qual (defScope st) f cdv A outer s H E) (WX0 E) (defBody st) ts ds)
    (hp : ∀ as Q E, sd as Q E → ds (dEnds Q E) (startD N.length as)) : FnOk P w K mg base (L2.CX P w) (k + 1) f fd ps (spOf K sd) ∧ Binds K fd ps [] :=
  ⟨fn_d F S len (fun cdv A outer s H E hr => hb _ _ f cdv A outer s H E rfl rfl tk_cx po_cx hr hr.units S.nd) hp, FunD.bindsN F (fun kV doc pm an cdv ct us hl => hbd kV doc pm an cdv ct us hl)⟩
theorem inok_by {P : Program} {w : World} {K : PySem.W.Frag} {mg : Str → Option Value} {base : Heap} {x y qual : Str} {st : Stmt} {N ps : List Str} {k : Nat} {sd : Sd} {ds : DS} {C f : Addr} {fd : FuncData} (F : FunD K x qual (defArgs st) (defBody st) (defScope st) [] [] f fd) (S : FnScope (y :: N) ps (defScope st)) (len : ∀ as Q E, sd as Q E → as.length + 1 = ps.length)
    (hbd : ∀ (kV doc pm : Value) (an : Option Addr) (cdv ct : Value) (us : List Value), us.length = ps.length → bindArgs (PySem.W.fnOf x qual (defArgs st) (defBody st) (defScope st) .none kV doc pm an cdv ct) ⟨us, []⟩ = pure (ps.zip us))
    (hb : ∀ (X : Cx) (W : WX) (f : Addr) (cdv : Value) (A : Around) (outer : List Env) (s : Shared) (H : Hp) (E : XK), X = cxOf (L2.CX P w) P w K mg base (y :: N) qual (defScope st) f cdv A outer s H E → W = WX0 E → Takes (cxOf (L2.CX P w) P w K mg base (y :: N) qual (defScope st) f cdv A outer s H E) (WX0 E) → PassesOwn (model P w) (cxOf (L2.CX P w) P w K mg base (y :: N) qual (defScope st) f cdv A outer s H E).A (cxOf (L2.CX P w) P w K mg base (y :: N) qual (defScope st) f cdv A outer s H E).env (cxOf (L2.CX P w) P w K mg base (y :: N) qual (defScope st) f cdv A outer s H E).xe →
      Room k (cxOf (L2.CX P w) P w K mg base (y :: N) qual (defScope st) f cdv A outer s H E).A → (cxOf (L2.CX P w) P w K mg base (y :: N) qual (defScope st) f cdv A outer s H E).A.units + 64 < cLine → (y :: N).Nodup →
      ∃ ts, DSSX (cxOf (L2.CX P w) P w K mg base (y :: N) qual (defScope st) f cdv A outer s H E) (WX0 E) (defBody st) ts ds)
    (hp : ∀ p as Q E, sd as Q E → ds (dEndsI p C Q E) (startI p C (y :: N).length as)) : FnOk P w K mg base (L2.CX P w) (k + 1) f fd ps (spIn K C sd) ∧ Binds K fd ps [] :=
  ⟨fn_dIn F S len (fun cdv A outer s H E hr => hb _ _ f cdv A outer s H E rfl rfl tk_cx po_cx hr hr.units S.nd) hp, FunD.bindsN F (fun kV doc pm an cdv ct us hl => hbd kV doc pm an cdv ct us hl)⟩
end DW

set_option Elab.async false
set_option linter.all false
set_option maxRecDepth 100000
/-! DW, part 16: defs that say super(): their frames, super().m(..). -/
namespace DW
open PySem PySem.Spec PyProof.Rows L2 NdefX ClX
/-- a def with the free name __class__, as it stands behind the top; its cell holds the class at D -/
structure FunX (P : Program) (K : PySem.W.Frag) (F : NF) (D f : Addr) (fd : FuncData) : Prop where
  ex : ∃ (oc : Value) (od : Option Addr) (kV doc pm : Value) (an : Option Addr) (ct : Value) (osl : Array (Option Value)), fd = PySem.W.fnX F.name F.qual F.params F.body F.scope F.cl .none kV doc pm an (.ref F.c) ct ∧ K.lookup f = some ⟨oc, od, .func fd, osl⟩
  code : PySem.W.codeIn K (.ref F.c) F.qual = true
  file : ∃ (cc : Value) (cd : Option Addr) (vs : Array Value) (sl : Array (Option Value)) (fl : Str) (tf : Tok), K.lookup F.c = some ⟨cc, cd, .fields vs, sl⟩ ∧ vs[2]? = some (.str fl tf) ∧ ((P.main.file : Str) == fl) = true
  cell : ∃ c : Addr, F.cl = [(("__class__" : Str), c)] ∧ ∃ (cv : Value) (cd : Option Addr) (sl : Array (Option Value)), K.lookup c = some ⟨cv, cd, .cell (some (.ref D)), sl⟩
  cls : ∃ cd, PySem.W.clsIn K D = some cd
  sup : PySem.W.nsIn K mainGlobals "super" = some none
  kp : PySem.W.keepIn K (.ref f) = true
  top : (P.main.scope.names.lookup ("super" : Str)).isSome = false
/-! ### bodies whose activation is known -/
def PSsA (X : Cx) (b : List Stmt) (l : List Stmt) (t : TS) : Prop := ∀ (pins : List (Addr × Obj)) (s : Shared) (σ : L2.St) (H : Hp) (D : Ends), Inv X pins σ H s → t D σ H → PySem.wpAt (model X.prog X.w) X.A (.func b X.env) (execs l X.env) (SP X pins D) X.xe s
def PSA (X : Cx) (b : List Stmt) (st : Stmt) (t : TS) : Prop := ∀ (pins : List (Addr × Obj)) (s : Shared) (σ : L2.St) (H : Hp) (D : Ends), Inv X pins σ H s → t D σ H → PySem.wpAt (model X.prog X.w) X.A (.func b X.env) (exec st X.env) (SP X pins D) X.xe s
def PEA (X : Cx) (b : List Stmt) (e : Expr) (t : TE) : Prop := ∀ (pins : List (Addr × Obj)) (s : Shared) (σ : L2.St) (H : Hp) (Q : VK), Inv X pins σ H s → t σ H Q → PySem.wpAt (model X.prog X.w) X.A (.func b X.env) (eval e X.env) (EP X pins σ Q) X.xe s
section
variable {X : Cx} {b l : List Stmt} {st : Stmt} {e : Expr} {t u : TS} {te : TE} {pos : Pos}
theorem pssa_of (h : PSs X l t) : PSsA X b l t := fun pins s σ H D I q => wpAt_of_wpAny (h.run pins s σ H D I q)
theorem psa_of (h : PS X st t) : PSA X b st t := fun pins s σ H D I q => wpAt_of_wpAny (h.run pins s σ H D I q)
theorem pea_of (h : PE X e te) : PEA X b e te := fun pins s σ H D I q => wpAt_of_wpAny (h.run pins s σ H D I q)
theorem pssa_cons (h : PSA X b st t) (k : PSsA X b l u) : PSsA X b (st :: l) (tSeq t u) := fun pins s σ H D I q => by
  refine ks_wpAt_execs_cons (ks_wpAt_mono (h pins s σ H { D with nx := u D } I q) (fun fl s' hs => ?_) fun _ _ z => z)
  cases fl with
  | next =>
    obtain ⟨σ', H', J, q'⟩ := hs
    exact k pins s' σ' H' D J q'
  | brk => exact hs
  | cont => exact hs
  | ret v => exact hs
theorem psa_expr (h : PEA X b e te) (hi : interactive X.env = false := by rfl) (hs : swapsWith e none pos.line X.env = pure false := by rfl) : PSA X b (.Expr e pos) (tDrop te) := fun pins s σ H D I q => by
  refine ks_wpAt_Expr_any (ks_wpAt_mono (h pins s σ H _ I q) (fun v s' hv => ?_) fun _ _ z => z) hi hs
  obtain ⟨x, H', J, _, q'⟩ := hv
  exact ⟨σ, H', J, q'⟩
theorem psa_ret (h : PEA X b e te) : PSA X b (.Return (some e) pos) (tRet te) := fun pins s σ H D I q => by
  refine ks_wpAt_Return_some (ks_wpAt_mono (h pins s σ H _ I q) (fun v s' hv => ?_) fun _ _ z => z)
  obtain ⟨x, H', J, r, q'⟩ := hv
  exact ⟨x, σ, H', J, r, q'⟩
theorem psa_set {i : Nat} {x : Str} {p : Pos} (hN : X.N.Nodup) (hi : X.N[i]? = some x) (hx : Loc X.env.scope x) (h : PEA X b e te) (hs : swapsWith e (some (.Name x p)) pos.line X.env = pure false := by rfl) (hf : X.fn x = true ∨ X.env.scope.names.lookup x = some .local := by first | exact .inl rfl | exact .inr rfl) :
    PSA X b (.Assign [.Name x p] e pos) (tAsg te (gName i)) := fun pins s σ H D I q => by
  refine ks_wpAt_Assign_Name (ks_wpAt_mono (h pins s σ H _ I q) (fun v s' hv => ?_) fun _ _ z => z) hs
  obtain ⟨y, H', J, r, q'⟩ := hv
  exact store_ok J hN hi hx r (fun s'' J' => ⟨_, H', J', q'⟩) hf
end
/-! ### the def keeps its promise -/
theorem FunX.ok {CX : CXT} {P : Program} {w : World} {K : PySem.W.Frag} {mg : Str → Option Value} {base : Heap} {N ps : List Str} {F : NF} {D f : Addr} {fd : FuncData} {k : Nat} {sp : Sp} (Z : FunX P K F D f fd) (S : NScope N ps ["__class__"] F.scope) (len : ∀ vs H Q E, sp vs H Q E → vs.length = ps.length)
    (hbody : ∀ (A : Around) (outer : List Env) (s : Shared) (H : Hp) (vs : List V) (Q : VK) (E : XK), Room k (A.deeper (envF F f s.heap.objs.size)) → sp vs H Q E →
      ∃ t, PSsA (ncx CX P w K mg base N F f A outer s H E) F.body F.body t ∧ t { nx := fun _ H' => Q .non H', rt := Q } (startF N vs [none]) H) : FnOk P w K mg base CX (k + 1) f fd ps sp := by
  refine ⟨len, fun A outer s H args us vs Q E hr e0 hb r hsp => ?_⟩
  have hl := len _ _ _ _ hsp
  have KX : K.In s.heap := e0.mod.kin.keeps fun b o e => (e0.bs b o e).1
  have lim : s.heap.NoLimit := e0.mod.nolimit.keeps fun b o e => (e0.bs b o e).1
  obtain ⟨oc, od, kV, doc, pm, an, ct, osl, efd, lk⟩ := Z.ex
  obtain ⟨c, ecl, cv, cd, sl, hc⟩ := Z.cell
  subst efd
  have C : CellsAt F.cl ["__class__"] [none] s.heap H := by
    rw [ecl]
    have hcs := e0.bs _ _ (e0.mod.kin _ _ hc)
    have one : ∀ y c', ([("__class__", c)] : List (Str × Addr)).lookup y = some c' → y = "__class__" ∧ c' = c := fun y c' e => by
      have m := PySem.mem_of_lookup e
      simp only [List.mem_singleton, Prod.mk.injEq] at m
      exact m
    refine ⟨rfl, fun y c' e => ?_, fun x y c' e1 e2 => (one _ _ e1).1.trans (one _ _ e2).1.symm, fun i y hi => ?_⟩
    · obtain ⟨_, rfl⟩ := one _ _ e
      exact ⟨hcs.2, _, _, hcs.1, rfl⟩
    · cases i with
      | zero =>
        cases hi
        exact ⟨c, rfl, fun v hv => by cases hv⟩
      | succ i => cases hi
  refine codeAny_call_function hr.depth (KX _ _ lk) rfl S.co S.gen rfl (PySem.W.codeRec_of KX Z.code) (hb _ _ _ _ ?_)
  refine wpAny_newFunctionEnv S.nocell (fun ⟨n, _⟩ hy => S.par n (List.of_mem_zip hy).1) (fun h₁ hns hsb => ⟨lim.fresh _ hsb, ?_⟩) S.kind
  show codeAny _ _ (.func F.body (envF F f s.heap.objs.size)) _ _
  refine ks_codeAny_funcAt ?_
  have kp : ∀ b o, s.heap.get? b = some o → h₁.get? b = some o := fun b o e => hsb.extBut b o (Nat.ne_of_lt (Heap.lt_size e)) (Heap.get?_push_of_some _ e)
  obtain ⟨t, ht, hq⟩ := hbody A outer s H vs Q E (hr.deeper _) hsp
  have I : Inv (ncx CX P w K mg base N F f A outer s H E) [] (startF N vs [none]) H { s with heap := h₁, toks := s.toks + (ps.zip us).length } := inv_startN S hr.hd e0 hl r C hns kp
  refine ks_wpAt_mono (ht [] _ _ _ _ I hq) (fun fl s' hs => ?_) fun e s' hs => hs
  have fin : ∀ {σ' : L2.St} {H' : Hp} {v : V} {u : Value}, Inv (ncx CX P w K mg base N F f A outer s H E) [] σ' H' s' → L2.RelV v u → Q v H' → CE outer P w H s Q u s' := fun {σ' H' v u} J rv q => ⟨v, H', J.os, J.bare, J.base, J.hok, rv, q⟩
  cases fl with
  | ret u =>
    obtain ⟨v, σ', H', J, rv, q⟩ := hs
    exact fin J rv q
  | next =>
    obtain ⟨σ', H', J, q⟩ := hs
    exact fin (v := V.non) (u := Value.none) J rfl q
  | brk =>
    obtain ⟨_, _, _, q⟩ := hs
    exact q.elim
  | cont =>
    obtain ⟨_, _, _, q⟩ := hs
    exact q.elim
/-! ### super() -/
/-- the running def is the one at f, with the words F -/
structure AtX (X : Cx) (F : NF) (D f : Addr) : Prop where
  env : ∃ L, X.env = envF F f L
  fx : ∃ fd, FunX X.prog X.K F D f fd
  sup : F.scope.names.lookup ("super" : Str) = some .globalImplicit
  cl : F.scope.names.lookup ("__class__" : Str) = some .free
  par : ∃ ar : Arg, (F.params.posonlyargs ++ F.params.args).head? = some ar ∧ X.N[0]? = some ar.arg ∧ F.scope.names.lookup ar.arg = some .local
  kind : F.scope.kind = .function
section
variable {X : Cx} {F : NF} {D f x C : Addr} {pins : List (Addr × Obj)} {σ : L2.St} {H : Hp} {s : Shared} {p0 p1 : Pos} {m : Str} {whole : Sem Value} {ox : Obj} {Q : Value → Shared → Prop} {b : List Stmt}
theorem super_at (Z : AtX X F D f) (I : Inv X pins σ H s) (h0 : σ[0]? = some (some (.ref x))) (hx : s.heap.get? x = some ox) (hc : ox.cls = .ref C) (hn : ∀ c, ox.data ≠ .cls c) (hsub : PySem.W.mroIn X.K C (.ref D) = some true) (hat : (m == ("__class__" : Str)) = false)
    (h : ∀ so h', (∀ y o, s.heap.get? y = some o → h'.get? y = some o) → s.heap.objs.size ≤ so → h'.get? so = some (PySem.W.ks_superObj D x C) → Q (.ref so) { s with heap := h' }) :
    PySem.wpAt (model X.prog X.w) X.A (.func b X.env) (attributeBase (.Call (.Name "super" p0) [] [] p1) m X.env whole) Q X.xe s := by
  obtain ⟨L, eL⟩ := Z.env
  obtain ⟨fd, Y⟩ := Z.fx
  obtain ⟨oc, od, kV, doc, pm, an, ct, osl, efd, lk⟩ := Y.ex
  obtain ⟨c, ecl, cv, cd, sl, hcell⟩ := Y.cell
  obtain ⟨cc, cdd, vs, csl, fl, tf, hcode, hvs, hfile⟩ := Y.file
  obtain ⟨cdD, hD⟩ := Y.cls
  obtain ⟨ar, hp, hN, hka⟩ := Z.par
  have KX := I.kIn
  subst efd
  obtain ⟨mL, hns, hlk⟩ := id I.loc
  have hvis : Vis X.env.scope ar.arg := by rw [eL]; exact .inl hka
  obtain ⟨u, ru, hlook⟩ := hlk 0 ar.arg (.ref x) hN h0 hvis
  obtain rfl : u = Value.ref x := ru
  have hm : mL ar.arg = some (.ref x) := by
    rcases hlook with ⟨_, z⟩ | ⟨z, _⟩
    · exact z
    · rw [eL] at z
      have z : F.scope.names.lookup ar.arg = some .cell ∨ F.scope.names.lookup ar.arg = some .free := z
      rw [hka] at z
      rcases z with z | z <;> cases z
  obtain ⟨oD, hD1, hD2⟩ : ∃ oD, s.heap.get? D = some oD ∧ oD.data = .cls cdD := by
    unfold PySem.W.clsIn at hD
    split at hD
    · rename_i c' d' cd' sl' ho
      cases hD
      exact ⟨_, KX _ _ ho, rfl⟩
    · cases hD
  have hmg : X.mg "super" = none := PySem.W.mg_none_of I.mod.kin I.mod.glob Y.sup
  obtain ⟨mb, hb1, hb2⟩ := I.mod.blt
  have eL2 : X.env.locals = L := by rw [eL]
  rw [eL2] at hns
  rw [eL]
  refine ks_wpAt_super_base (env := envF F f L) Z.sup Z.cl hat rfl (KX _ _ lk) rfl hp rfl (KX _ _ hcode) rfl hvs hfile Y.top ?_
  refine PySem.W.ks_loadName_global Z.kind Z.sup (PySem.Calls.loadGlobal_builtin (env := envF F f L) (I.mod.glob.keeps I.bk) hmg (hb1.keeps I.bk) ((hb2 _ (by decide)).trans (show bootBuiltins "super" = some (.type "super") by decide +kernel)) ⟨rfl, ?_⟩)
  refine wpAny_loadName_free Z.kind Z.cl (show (envF F f L).cells.lookup ("__class__" : Str) = some c by show F.cl.lookup ("__class__" : Str) = some c; rw [ecl]; rfl) ⟨_, KX _ _ hcell, rfl⟩ ?_
  refine wpAny_loadName_local Z.kind hka hns hm ?_
  refine ks_wpAny_isType_cls hD1 hD2 ⟨rfl, ?_⟩
  obtain ⟨hh, g, d, t, os⟩ := s
  refine ks_wpAny_call_super hD1 hD2 hx hc hn (PySem.W.looks_mroIn KX hsub) (fun h' e k => ?_)
  exact h _ _ k (Nat.le_refl _) e
end
/-! ### super().m(..), m a def of a class above -/
structure SupM (K : PySem.W.Frag) (C D : Addr) (m : Str) (g : Addr) : Prop where
  sub : PySem.W.mroIn K C (.ref D) = some true
  at_ : PySem.W.ks_superIn K C D m = some (some (.ref g))
  ty : PySem.W.typeIn K (.ref g) = some (.type "function")
  fi : PySem.W.fnIn K g = true
  op : PySem.W.nsIn K PySem.cStatics "thirdparty.any" = some none
def tSup (C : Addr) (sp : Sp) (E : L2.St → XK) (t : TA) : TE := fun σ H Q => ∃ x dx fs, σ[0]? = some (some (.ref x)) ∧ H x = some (.ins C dx fs) ∧ t σ H fun vs H1 => sp (.ref x :: vs) H1 Q (E σ)
section
variable {X : Cx} {F : NF} {D f C g : Addr} {b : List Stmt} {m : Str} {p0 p1 p2 p3 : Pos} {e : Expr} {es : List Expr} {t : TA} {sp : Sp} {E : L2.St → XK} {k : Nat} {fd : FuncData} {ps : List Str}
theorem pea_sup {pl : Sem Bool} (Z : AtX X F D f) (S : SupM X.K C D m g) (G : FnOk X.prog X.w X.K X.mg X.base (L2.CX X.prog X.w) k g fd ps sp) (hr : Room k X.A) (hb : Binds X.K fd ps []) (hx : ∀ σ, PassesAt (L2.CX X.prog X.w) X σ (E σ)) (ha : PA X (e :: es) t)
    (hn : (m == ("__class__" : Str)) = false := by decide) (he : starEach (e :: es) X.env = (false, eval e X.env) :: starEach es X.env := by rfl) (hpl : (backTo p3 (starEach es X.env)).any (·.1) = false := by rfl)
    (ht : eval (.Call (.Attribute (.Call (.Name "super" p0) [] [] p1) m p2) (e :: es) [] p3) X.env = (do
      let ov ← attributeBase (.Call (.Name "super" p0) [] [] p1) m X.env (eval (.Call (.Name "super" p0) [] [] p1) X.env)
      standAt p2.atName
      let (f, first) ← holding [ov] (getMethod ov m pl)
      callWith p3 f first (backTo p3 (starEach (e :: es) X.env)) []) := by rfl) :
    PEA X b (.Call (.Attribute (.Call (.Name "super" p0) [] [] p1) m p2) (e :: es) [] p3) (tSup C sp E t) := by
  intro pins s σ H Q I h
  obtain ⟨x, dx, fs, h0, hH, q⟩ := h
  obtain ⟨mA, O, _, _, _, _⟩ := ins_get I.hok hH
  refine ks_wpAt_MethodCall (pl := pl) (super_at Z I h0 O.obj rfl (fun c z => nomatch z) S.sub hn fun so h' kp hge hso => ?_) ht
  have I1 : Inv X pins σ H { s with heap := h' } := I.kept (t' := s.toks) kp
  have KX := I1.kIn
  cases hc : PySem.W.clsIn X.K C with
  | none =>
    have z := S.at_
    unfold PySem.W.ks_superIn at z
    rw [hc] at z
    cases z
  | some cd =>
    have z := S.at_
    unfold PySem.W.ks_superIn at z
    rw [hc] at z
    obtain ⟨og, hog, hogc⟩ : ∃ og, h'.get? g = some og ∧ og.cls = .type "function" := by
      have y : (X.K.lookup g).map (·.cls) = some (.type "function") := S.ty
      cases w : X.K.lookup g with
      | none => rw [w] at y; cases y
      | some og => rw [w] at y; exact ⟨og, KX _ _ w, Option.some.inj y⟩
    have hxC : x ≠ C := by
      obtain ⟨_, O1, _⟩ := ins_get I1.hok hH
      obtain ⟨od, J, _⟩ := O1.look
      exact PySem.W.ks_ne KX J hc
    obtain ⟨hh, gg, d, tk, os⟩ := s
    refine ks_wpAny_getMethod_super hso (PySem.W.looks_opaque KX S.op) (l₀ := cd.mro) (fun A Q E s k q => wpAny_bind ((PySem.W.looks_clsIn KX hc) A _ E s k (wpAny_pure q))) rfl KX z hog hogc hxC hn ?_
    have I2 : Inv X ((h'.objs.size, PySem.W.methodObj (.ref g) (.ref x)) :: pins) σ H ⟨h'.push (PySem.W.methodObj (.ref g) (.ref x)), gg, d, tk + 1, os⟩ := met_new I1
    refine callwith_cm I2 (base_none I1 (Nat.le_refl _)) S.fi (thn (ha.run p3 _ _ σ H _ I2 q) fun us s3 ⟨vs, H1, I3, r, q3⟩ => ⟨⟨pin_at I3, I3.kIn⟩, ?_⟩) he hpl
    have hl : (Value.ref x :: us).length = ps.length := by
      have e1 : (V.ref x :: vs).length = ps.length := G.len _ _ _ _ q3
      rw [← e1, List.length_cons, List.length_cons, r.length]
    have bb := hb s3 (.ref x :: us) I3.kIn (by rw [List.append_nil]; exact hl)
    rw [List.append_nil] at bb
    have w : wpAny (model X.prog X.w) X.A (call (.ref h'.objs.size) us) (EP X ((h'.objs.size, PySem.W.methodObj (.ref g) (.ref x)) :: pins) σ Q) X.xe s3 := by
      refine wpAny_call (PySem.W.method_call (pin_at I3) (codeAny_mono (G.run X.A X.stack s3 H1 ⟨.ref x :: us, []⟩ (.ref x :: us) (.ref x :: vs) Q (E σ) hr I3.env0 bb (.cons rfl r) q3) fun r s' hq => ?_))
      cases r with
      | error e => exact hx σ _ H1 s3 e s' I3 hq
      | ok fl =>
        cases fl with
        | ret u => exact I3.after hq
        | next => exact hq.elim
        | brk => exact hq.elim
        | cont => exact hq.elim
    exact thn w fun _ _ y => unpinE y
end
end DW

set_option Elab.async false
set_option linter.all false
set_option maxRecDepth 100000
/-! DW, part 17: super().m(..) over data; an __init__ that only says super().__init__(..). -/
namespace DW
open PySem PySem.Spec PyProof.Rows L2 NdefX
theorem FunX.binds {P : Program} {K : PySem.W.Frag} {F : NF} {D f : Addr} {fd : FuncData} {ps : List Str} (Z : FunX P K F D f fd) (h : ∀ (kV doc pm : Value) (an : Option Addr) (ct : Value) (us : List Value), us.length = ps.length → bindArgs (PySem.W.fnX F.name F.qual F.params F.body F.scope F.cl .none kV doc pm an (.ref F.c) ct) ⟨us, []⟩ = pure (ps.zip us)) : Binds K fd ps [] := by
  obtain ⟨oc, od, kV, doc, pm, an, ct, osl, rfl, lk⟩ := Z.ex
  exact .all (h kV doc pm an ct)
def DSSA (X : Cx) (W : WX) (b l : List Stmt) (ts : TS) (ds : DS) : Prop := PSsA X b l ts ∧ SndS X.K W ts ds
def DSA (X : Cx) (W : WX) (b : List Stmt) (st : Stmt) (ts : TS) (ds : DS) : Prop := PSA X b st ts ∧ SndS X.K W ts ds
def DEA (X : Cx) (W : WX) (b : List Stmt) (e : Expr) (te : TE) (de : DE) : Prop := PEA X b e te ∧ SndE X.K W te de
theorem startF_eq {N : List Str} {vs : List V} (h : vs.length < N.length) : startF N vs [none] = L2.start N vs := by
  unfold startF L2.start
  have e : List.replicate (N.length - vs.length) (none : Option V) = none :: List.replicate (N.length - vs.length - 1) none := by
    rw [← List.replicate_succ]
    congr 1
    omega
  rw [e]
  rfl
theorem tk_ncx {P : Program} {w : World} {K : PySem.W.Frag} {mg : Str → Option Value} {base : Heap} {N : List Str} {F : NF} {f : Addr} {A : Around} {outer : List Env} {s : Shared} {H : Hp} {E : XK} : Takes (ncx (L2.CX P w) P w K mg base N F f A outer s H E) (WX0 E) := takes_of rfl rfl rfl rfl
/-- a def with super() keeps its promise over data -/
theorem fn_dX {P : Program} {w : World} {K : PySem.W.Frag} {mg : Str → Option Value} {base : Heap} {N ps : List Str} {F : NF} {D f : Addr} {fd : FuncData} {k : Nat} {sd : Sd} {ds : DS} (Z : FunX P K F D f fd) (S : NScope N ps ["__class__"] F.scope) (len : ∀ as Q E, sd as Q E → as.length = ps.length)
    (hb : ∀ (A : Around) (outer : List Env) (s : Shared) (H : Hp) (E : XK), Room k (A.deeper (envF F f s.heap.objs.size)) → ∃ ts, DSSA (ncx (L2.CX P w) P w K mg base N F f A outer s H E) (WX0 E) F.body F.body ts ds)
    (hp : ∀ as Q E, sd as Q E → ds (dEnds Q E) (startD N.length as)) : FnOk P w K mg base (L2.CX P w) (k + 1) f fd ps (spOf K sd) := by
  have hpl : ps.length < N.length := by
    have q := congrArg List.length S.pre
    rw [List.length_take, List.length_append] at q
    have : (["__class__"] : List Str).length = 1 := rfl
    omega
  refine Z.ok S (fun vs H Q E h => ?_) fun A outer s H vs Q E hr h => ?_
  · obtain ⟨l0, F, as, Qd, Ed, b, r, h, _, _⟩ := h
    rw [r.length]
    exact len as Qd Ed h
  · obtain ⟨l0, F0, as, Qd, Ed, b, r, h, hq, he⟩ := h
    obtain ⟨ts, p, sd⟩ := hb A outer s H E hr
    refine ⟨ts, p, ?_⟩
    rw [startF_eq (by rw [r.length, len as Qd Ed h]; exact hpl)]
    refine sd _ _ (hp as Qd Ed h) l0 F0 H _ (Stt.start b r) _ ⟨fun F' H' σ' ρ' g w S' q => ?_, fun F' H' v d g r q => ?_, fun F' H' σ' ρ' g w S' q => q.elim, fun F' H' σ' ρ' g w S' q => q.elim, fun cls d x F' H' σ' ρ' g w S' r q => ?_, fun F' H' σ' ρ' v d g w S' r q => q.elim⟩
    · exact hq .non .non F' H' (g.go start_noOw) (.v _) q
    · exact hq v d F' H' (g.go start_noOw) r q
    · exact he cls d x F' H' (g.go start_noOw) r q
def dSup (C : Addr) (sd : Sd) (da : DA) : DE := fun ρ Q E => ∃ gs, ρ[0]? = some (.dat (.obj C gs)) ∧ da ρ (fun ss => plain ss fun ds => sd (.obj C gs :: ds) (fun d => Q (.dat d)) E) E
section
variable {X : Cx} {W : WX} {F : NF} {D f C g : Addr} {b l : List Stmt} {st : Stmt} {m : Str} {pos p0 p1 p2 p3 : Pos} {e : Expr} {es : List Expr} {ta : TA} {da : DA} {sd : Sd} {k : Nat} {fd : FuncData} {ps : List Str} {va vb : TS} {t u : DS} {te : TE} {de : DE}
theorem dssa_of (h : DSSX X W l va t) : DSSA X W b l va t := ⟨pssa_of h.1, h.2⟩
theorem dsa_of (h : DSX X W st va t) : DSA X W b st va t := ⟨psa_of h.1, h.2⟩
theorem dea_of (h : DEX X W e te de) : DEA X W b e te de := ⟨pea_of h.1, h.2⟩
theorem dssa_cons (h : DSA X W b st va t) (k : DSSA X W b l vb u) : DSSA X W b (st :: l) (tSeq va vb) (dSeq t u) := by
  obtain ⟨p1, s1⟩ := h
  obtain ⟨p2, s2⟩ := k
  refine ⟨pssa_cons p1 p2, fun D ρ h l0 F H σ S C L => ?_⟩
  refine s1 { D with nx := u D } ρ h l0 F H σ S { C with nx := vb C } ⟨fun F' H' σ' ρ' g w S' q => ?_, L.rt, L.bk, L.ct, L.ex, L.rs⟩
  exact s2 D ρ' q l0 F' H' σ' S' C (L.trans S.bs g w)
theorem dsa_ret (h : DEA X W b e te de) : DSA X W b (.Return (some e) pos) (tRet te) (dRetE de) := by
  obtain ⟨p, se⟩ := h
  refine ⟨psa_ret p, fun D ρ h l0 F H σ S C L => ?_⟩
  refine se ρ _ _ h l0 F H σ S _ (fun v s F1 H1 g1 r1 q1 => ?_) (L.kx S)
  obtain ⟨d, e, q1⟩ := datS_of q1
  subst e
  exact L.rt F1 H1 v _ (.of g1) r1 q1
theorem dsa_set {i : Nat} {x : Str} {p : Pos} (hN : X.N.Nodup) (h : DEA X W b e te de) (hi : X.N[i]? = some x := by rfl) (hx : Loc X.env.scope x := by first | exact .inl rfl | exact .inr rfl) (hs : swapsWith e (some (.Name x p)) pos.line X.env = pure false := by rfl) (hf : X.fn x = true ∨ X.env.scope.names.lookup x = some .local := by first | exact .inl rfl | exact .inr rfl) :
    DSA X W b (.Assign [.Name x p] e pos) (tAsg te (gName i)) (dAsg de (gdName i)) := by
  obtain ⟨p, se⟩ := h
  refine ⟨psa_set hN hi hx p hs hf, fun D ρ h l0 F H σ S C L => ?_⟩
  refine se ρ _ _ h l0 F H σ S _ (fun v s F1 H1 g1 r1 q1 => ?_) (L.kx S)
  dsimp only at q1
  unfold gdName at q1
  split at q1
  · exact (L.trans S.bs (.of g1) .refl).nx F1 H1 _ _ (.of (.refl g1.bs)) (.put i) ((S.go g1).put i r1) q1
  · exact q1.elim
theorem dea_sup {pl : Sem Bool} (Z : AtX X F D f) (S : SupM X.K C D m g) (G : FnOk X.prog X.w X.K X.mg X.base (L2.CX X.prog X.w) k g fd ps (spOf X.K sd)) (hb : Binds X.K fd ps []) (tk : Takes X W) (hr : Room k X.A) (ha : DAX X W (e :: es) ta da)
    (hn : (m == ("__class__" : Str)) = false := by decide) (he : starEach (e :: es) X.env = (false, eval e X.env) :: starEach es X.env := by rfl) (hpl : (backTo p3 (starEach es X.env)).any (·.1) = false := by rfl)
    (ht : eval (.Call (.Attribute (.Call (.Name "super" p0) [] [] p1) m p2) (e :: es) [] p3) X.env = (do
      let ov ← attributeBase (.Call (.Name "super" p0) [] [] p1) m X.env (eval (.Call (.Name "super" p0) [] [] p1) X.env)
      standAt p2.atName
      let (f, first) ← holding [ov] (getMethod ov m pl)
      callWith p3 f first (backTo p3 (starEach (e :: es) X.env)) []) := by rfl) :
    DEA X W b (.Call (.Attribute (.Call (.Name "super" p0) [] [] p1) m p2) (e :: es) [] p3) (tSup C (spOf X.K sd) (WE W) ta) (dSup C sd da) := by
  refine ⟨pea_sup (pl := pl) Z S G hr hb (fun σ => passAt tk σ) ha.1 hn he hpl ht, fun ρ Q E q l0 F H σ St Qc kk kx => ?_⟩
  obtain ⟨gs, h0, q⟩ := q
  rcases St.sl 0 _ h0 with z | ⟨v, h1, r⟩
  · cases z
  · have r : Den X.K l0 F v (.obj C gs) := r
    cases r with
    | @obj a _ dx fs _ h r =>
      refine ⟨a, dx, fs, h1, St.bs.sub _ _ h, ?_⟩
      refine ha.2 ρ _ E q l0 F H σ St _ (fun vs ss F2 H2 g2 r2 q3 => ?_) kx
      obtain ⟨ds, e2, q4⟩ := plain_of q3
      subst e2
      refine ⟨l0, F2, .obj C gs :: ds, _, E, g2.bs, .cons (Den.mono g2.ex (.obj h r)) (dens_of r2), q4, fun v d F' H' g r q => ?_, fun cls dct x F' H' g r q => ?_⟩
      · exact kk v (.dat d) F' H' (g2.trans g) r q
      · exact kx cls dct x F' H' (g2.trans g) r q
end
/-- def __init__(self, ..): super().__init__(..), and nothing else -/
theorem fn_supI {P : Program} {w : World} {K : PySem.W.Frag} {mg : Str → Option Value} {base : Heap} {N ps : List Str} {y : Str} {F : NF} {D f C g : Addr} {fd fdg : FuncData} {psg : List Str} {k : Nat} {sd sdg : Sd} {da : DA} {p0 p1 p2 p3 p4 : Pos} {e : Expr} {es : List Expr} {pl : Sem Bool} (Z : FunX P K F D f fd)
    (S : NScope (y :: N) (y :: ps) ["__class__"] F.scope) (hbody : F.body = [.Expr (.Call (.Attribute (.Call (.Name "super" p0) [] [] p1) "__init__" p2) (e :: es) [] p3) p4]) (len : ∀ as Q E, sd as Q E → as.length = ps.length)
    (Sm : SupM K C D "__init__" g) (G : FnOk P w K mg base (L2.CX P w) k g fdg psg (spIn K C sdg)) (hbi : Binds K fdg psg [])
    (hx : ∀ (A : Around) (outer : List Env) (s : Shared) (H : Hp) (E : XK), AtX (ncx (L2.CX P w) P w K mg base (y :: N) F f A outer s H E) F D f ∧ (∃ ta, DAX (ncx (L2.CX P w) P w K mg base (y :: N) F f A outer s H E) (WX0 E) (e :: es) ta da) ∧
      starEach (e :: es) (ncx (L2.CX P w) P w K mg base (y :: N) F f A outer s H E).env = (false, eval e (ncx (L2.CX P w) P w K mg base (y :: N) F f A outer s H E).env) :: starEach es (ncx (L2.CX P w) P w K mg base (y :: N) F f A outer s H E).env ∧ (backTo p3 (starEach es (ncx (L2.CX P w) P w K mg base (y :: N) F f A outer s H E).env)).any (·.1) = false ∧
      (eval (.Call (.Attribute (.Call (.Name "super" p0) [] [] p1) "__init__" p2) (e :: es) [] p3) (ncx (L2.CX P w) P w K mg base (y :: N) F f A outer s H E).env = (do
        let ov ← attributeBase (.Call (.Name "super" p0) [] [] p1) "__init__" (ncx (L2.CX P w) P w K mg base (y :: N) F f A outer s H E).env (eval (.Call (.Name "super" p0) [] [] p1) (ncx (L2.CX P w) P w K mg base (y :: N) F f A outer s H E).env)
        standAt p2.atName
        let (fz, first) ← holding [ov] (getMethod ov "__init__" pl)
        callWith p3 fz first (backTo p3 (starEach (e :: es) (ncx (L2.CX P w) P w K mg base (y :: N) F f A outer s H E).env)) [])) ∧
      interactive (ncx (L2.CX P w) P w K mg base (y :: N) F f A outer s H E).env = false ∧ swapsWith (.Call (.Attribute (.Call (.Name "super" p0) [] [] p1) "__init__" p2) (e :: es) [] p3) none p4.line (ncx (L2.CX P w) P w K mg base (y :: N) F f A outer s H E).env = pure false)
    (hp : ∀ p as Q E, sd as Q E → da (startI p C (y :: N).length as) (fun ss => plain ss fun ds => sdg ds Q E) E) : FnOk P w K mg base (L2.CX P w) (k + 1) f fd (y :: ps) (spIn K C sd) := by
  have hpl : ps.length + 1 < N.length + 1 := by
    have q := congrArg List.length S.pre
    rw [List.length_take, List.length_append] at q
    have : (["__class__"] : List Str).length = 1 := rfl
    have e1 : (y :: ps).length = ps.length + 1 := rfl
    have e2 : (y :: N).length = N.length + 1 := rfl
    omega
  refine Z.ok S (fun vs H Q E h => ?_) fun A outer s H vs Q E hr h => ?_
  · obtain ⟨x, us, l0, F, as, Qd, Ed, dx, e, b, hF, n0, hH, hd, r, h, _, _⟩ := h
    rw [e, List.length_cons, r.length, len as Qd Ed h]
    rfl
  · obtain ⟨x, us, l0, F0, as, Qd, Ed, dx, ev, b, hF, n0, hH, hd, r, h, hq, he⟩ := h
    subst ev
    obtain ⟨z1, ⟨ta, pa, sa⟩, z3, z4, z5, z6, z7⟩ := hx A outer s H E
    rw [hbody]
    refine ⟨_, pssa_cons (psa_expr (pea_sup (pl := pl) z1 Sm G hr hbi (fun σ => passAt tk_ncx σ) pa (by decide) z3 z4 z5) z6 z7) (pssa_of pss_nil), ?_⟩
    rw [startF_eq (by rw [List.length_cons, r.length, len as Qd Ed h]; exact hpl)]
    have St := Stt.startI (N := N) (y := y) b hF n0 hH hd r
    have S0 : (L2.start (y :: N) (V.ref x :: us))[0]? = some (some (.ref x)) := rfl
    refine ⟨x, dx, [], S0, hH, ?_⟩
    refine sa _ _ Ed (hp (x, dx) as Qd Ed h) l0 F0 H _ St _ (fun vs ss F1 H1 g1 r1 q1 => ?_) fun cls d xn F' H' g r q => ?_
    · obtain ⟨ds, e2, q2⟩ := plain_of q1
      subst e2
      have keep := g1.keep x _ n0 hH
      have hF1 := g1.stays hF hH
      have toI : ∀ {F' H'}, GoI l0 x F1 H1 F' H' → GoI l0 x F0 H F' H' := fun {F' H'} g => by
        refine ⟨g.bs, fun a o e => g.ex a o (g1.ex a o e), fun a h1 h2 => ?_, fun a o n1 n2 e => g.keep a o n1 n2 (g1.keep a o n1 e)⟩
        by_cases z : F1 a = none
        · rcases g.new a z h2 with w | w
          · cases eH : H a with
            | none => exact .inl rfl
            | some o =>
              by_cases w2 : a = l0
              · subst w2
                exact absurd w g1.bs.live
              · rw [g1.keep a o w2 eH] at w
                cases w
          · exact .inr w
        · exact .inl (g1.new a h1 z)
      exact ⟨x, vs, l0, F1, ds, _, Ed, dx, rfl, g1.bs, hF1, n0, keep, ⟨g1.stays hd.1 hd.2.2, hd.2.1, g1.keep dx _ hd.2.1 hd.2.2⟩, dens_of r1, q2, fun gs fs dx' F' H' g a1 a2 a3 a4 => hq gs fs dx' F' H' (toI g) a1 a2 a3 a4, fun cls dct xn F' H' g r q => he cls dct xn F' H' (toI g) r q⟩
    · have toI : GoI l0 x F0 H F' H' := ⟨g.bs, g.ex, fun a h1 h2 => .inl (g.new a h1 h2), fun a o n1 n2 e => g.keep a o n1 e⟩
      exact he cls d xn F' H' toI r q
end DW

set_option Elab.async false
set_option linter.all false
set_option maxRecDepth 100000
/-! DW, part 18: own exceptions whose __init__ says super().__init__(text): made, raised. -/
namespace DW
open PySem PySem.Spec PyProof.Rows L2 NdefX ClX
structure SupE (K : PySem.W.Frag) (C D : Addr) : Prop where
  sub : PySem.W.mroIn K C (.ref D) = some true
  at_ : PySem.W.ks_superIn K C D "__init__" = some (some (.builtin "ValueError.__init__"))
  ve : PySem.W.subIn K (.ref C) (.type "ValueError") = some true
  op : PySem.W.nsIn K PySem.cStatics "thirdparty.any" = some none
section
variable {X : Cx} {pins : List (Addr × Obj)} {σ : L2.St} {H : Hp} {s : Shared} {a C u : Addr}
/-- the bound ValueError.__init__ called: nothing of it is told -/
theorem mw_call {us : List Value} {Q : Value → Shared → Prop} {E : Value → Shared → Prop} (T : OexC X.K C) (I : Inv X ((u, PySem.W.kxs_mw "ValueError.__init__" a) :: pins) σ H s) (e : H a = some (exo a C none)) (hl : us.length ≤ sizeLine) (h : ∀ s', Inv X pins σ H s' → Q .none s') :
    wpAny (model X.prog X.w) X.A (call (.ref u) us) Q E s := by
  obtain ⟨nm, q, N, bs, bm, sn, sub, ab, col, dd, k0, k1, k2, k3, k5, hC, hbm⟩ := T.cls
  obtain ⟨t1, ho⟩ := exo_at I.hok e
  have hu := pin_at I
  have I0 := unpin I
  have fin : ∀ h' t2, (∀ b o, b ≠ a → s.heap.get? b = some o → h'.get? b = some o) → h'.get? a = some (PySem.HandSPX.excO C t2) → Q .none { s with heap := h' } := fun h' t2 k hx => by
    have J := I0.write (t' := s.toks) (x := a) (e := a) (o := exo a C none) (by rw [e]; exact True.intro) (.inl rfl) k ⟨_, hx⟩ (exo_ok hx)
    have eu : upd H a (exo a C none) = H := by
      funext b
      by_cases hb : b = a
      · rw [hb, upd_same, e]
      · rw [upd_ne hb]
    rw [eu] at J
    exact h _ J
  have hCs := I.kIn _ _ hC
  obtain ⟨hp, g, d, t, os⟩ := s
  refine wpAny_call (codeAny_of_tree ?_)
  show wpAny _ X.A.in1 (callAny (.ref u) ⟨us, []⟩) _ _ _
  simp only [callAny]
  refine wpAny_bind (wpAny_load hu ?_)
  simp only [show (Value.type "method-wrapper" == Value.type "method" || Value.type "method-wrapper" == Value.type "builtin_function_or_method" || Value.type "method-wrapper" == Value.type "method-wrapper") = true by decide, if_true]
  refine PySem.W.KFB.if_so (by decide) ?_
  refine wpAny_bind (PySem.W.check_bound_init PySem.F.excBase_ValueError.toExcCallFacts hCs ho rfl ?_)
  refine wpAny_bind (wpAny_pure (wpAny_pure ?_))
  refine ⟨plainId_quiet PySem.F.excBase_ValueError.init.plain _, codeAny_builtin PySem.F.excBase_ValueError.initEntry ?_⟩
  rw [Around.under_plainId PySem.F.excBase_ValueError.init.plain _]
  wp_walk
  refine fin _ hp.objs.size (fun b o hb ho2 => ?_) ?_
  · rw [Heap.get?_update_other _ _ (Ne.symm hb)]
    exact Heap.get?_push_of_some _ ho2
  · rw [Heap.get?_update_self _ (Heap.get?_push_of_some _ ho) rfl]
    rfl
end
/-- super().__init__(..), self an exception in the making -/
def tSvE (K : PySem.W.Frag) (D : Addr) (t : TA) : TE := fun σ H Q => ∃ a C, σ[0]? = some (some (.ref a)) ∧ OexC K C ∧ SupE K C D ∧ H a = some (exo a C none) ∧ t σ H fun vs H1 => vs.length ≤ 1000 ∧ H1 a = some (exo a C none) ∧ Q .non H1
section
variable {X : Cx} {F : NF} {D f : Addr} {b : List Stmt} {p0 p1 p2 p3 : Pos} {e : Expr} {es : List Expr} {t : TA}
theorem pea_svE {pl : Sem Bool} (Z : AtX X F D f) (ha : PA X (e :: es) t) (he : starEach (e :: es) X.env = (false, eval e X.env) :: starEach es X.env := by rfl) (hpl : (backTo p3 (starEach es X.env)).any (·.1) = false := by rfl)
    (ht : eval (.Call (.Attribute (.Call (.Name "super" p0) [] [] p1) "__init__" p2) (e :: es) [] p3) X.env = (do
      let ov ← attributeBase (.Call (.Name "super" p0) [] [] p1) "__init__" X.env (eval (.Call (.Name "super" p0) [] [] p1) X.env)
      standAt p2.atName
      let (fz, first) ← holding [ov] (getMethod ov "__init__" pl)
      callWith p3 fz first (backTo p3 (starEach (e :: es) X.env)) []) := by rfl) :
    PEA X b (.Call (.Attribute (.Call (.Name "super" p0) [] [] p1) "__init__" p2) (e :: es) [] p3) (tSvE X.K D t) := by
  intro pins s σ H Q I h
  obtain ⟨a, C, h0, T, S, hH, q⟩ := h
  obtain ⟨t1, ho⟩ := exo_at I.hok hH
  refine ks_wpAt_MethodCall (pl := pl) (super_at Z I h0 ho rfl (fun c z => nomatch z) S.sub (by decide) fun so h' kp hge hso => ?_) ht
  have I1 : Inv X pins σ H { s with heap := h' } := I.kept (t' := s.toks) kp
  have KX := I1.kIn
  obtain ⟨cd, hc⟩ : ∃ cd, PySem.W.clsIn X.K C = some cd := by
    cases w : PySem.W.clsIn X.K C with
    | some cd => exact ⟨cd, rfl⟩
    | none =>
      have z := S.at_
      unfold PySem.W.ks_superIn at z
      rw [w] at z
      cases z
  have z := S.at_
  unfold PySem.W.ks_superIn at z
  rw [hc] at z
  have J : PySem.W.InstAt h' a (PySem.HandSPX.excO C t1) C none := ⟨kp _ _ ho, rfl, rfl, trivial⟩
  have hxC : a ≠ C := PySem.W.ks_ne KX J hc
  have hI : PySem.W.Looks (model X.prog X.w) h' (isInstance (.ref a) (.type "ValueError")) true := J.type.andThen (PySem.W.looks_subIn KX S.ve)
  obtain ⟨hh, gg, d, tk, os⟩ := s
  refine PySem.W.kxs_getMethod PySem.W.kxs_ValueError hso (PySem.W.looks_opaque KX S.op) (l₀ := cd.mro) (fun A Q E s k q => wpAny_bind ((PySem.W.looks_clsIn KX hc) A _ E s k (wpAny_pure q))) rfl KX z hI hxC (by decide) ?_
  have I2 : Inv X ((h'.objs.size, PySem.W.kxs_mw "ValueError.__init__" a) :: pins) σ H ⟨h'.push (PySem.W.kxs_mw "ValueError.__init__" a), gg, d, tk + 1, os⟩ :=
    pin_new I1 (fun _ _ z => Heap.get?_push_of_some _ z) (Nat.le_refl _) (Heap.get?_push_size h' rfl) (fun v z => nomatch z)
  have hap : (backTo p3 (starEach (e :: es) X.env)).any (·.1) = false := by
    rw [he]
    show (false || (backTo p3 (starEach es X.env)).any (·.1)) = false
    rw [hpl]
    rfl
  refine PySem.W.kxs_callWith (i := "ValueError.__init__") (x := a) hap ?_
  have ra := fun s1 I2 q => ha.run p3 ((h'.objs.size, PySem.W.kxs_mw "ValueError.__init__" a) :: pins) s1 σ H (fun vs H1 => vs.length ≤ 1000 ∧ H1 a = some (exo a C none) ∧ Q .non H1) I2 q
  rw [he] at ra ⊢
  refine PySem.Calls.evalArgs_plain (thn (ra _ I2 q) fun us s3 ⟨vs, H1, I3, r, hz, e1, q3⟩ => ⟨pin_at I3, ?_⟩)
  have hl : us.length ≤ sizeLine := by
    rw [← r.length, sizeLine_eq]
    omega
  exact mw_call T I3 e1 hl fun s' I4 => ⟨.non, H1, I4, rfl, q3⟩
end
end DW

set_option Elab.async false
set_option linter.all false
set_option maxRecDepth 100000
/-! DW, part 19: raise C(..) of an own exception class. -/
namespace DW
open PySem PySem.Spec PyProof.Rows L2 NdefX ClX
/-- an exception of C at a with the fields gs in its dict at dx -/
def excH (H : Hp) (a C dx : Addr) (gs : List (Str × V)) : Hp := fun b => if b = a then some (exo a C (some dx)) else if b = dx then some (exd dx gs) else H b
def spExcI (C : Addr) (fs : List Str) : Sp := fun vs H Q _ => ∃ a ys, vs = V.ref a :: ys ∧ ys.length = fs.length ∧ H a = some (exo a C none) ∧ ∀ dx, H dx = none → dx ≠ a → Q .non (excH H a C dx (fs.zip ys).reverse)
theorem excH_one {H : Hp} {a C dx : Addr} {gs : List (Str × V)} : upd (upd H dx (exd dx gs)) a (exo a C (some dx)) = excH H a C dx gs := by
  funext b
  unfold excH upd
  by_cases h1 : b = a
  · simp only [if_pos h1]
  · simp only [if_neg h1]
theorem excH_more {H : Hp} {a C dx : Addr} {gs es : List (Str × V)} (n : dx ≠ a) : upd (excH H a C dx gs) dx (exd dx es) = excH H a C dx es := by
  funext b
  unfold excH upd
  by_cases h1 : b = dx
  · subst h1
    simp only [if_neg n, if_true]
  · simp only [if_neg h1]
theorem excH_a {H : Hp} {a C dx : Addr} {gs : List (Str × V)} : excH H a C dx gs a = some (exo a C (some dx)) := by unfold excH; rw [if_pos rfl]
theorem excH_d {H : Hp} {a C dx : Addr} {gs : List (Str × V)} (n : dx ≠ a) : excH H a C dx gs dx = some (exd dx gs) := by unfold excH; rw [if_neg n, if_pos rfl]
section
variable {K : PySem.W.Frag} {D C a : Addr} {N : List Str} {m f1 f2 : Str} {y1 y2 : V} {H : Hp} {R : VK} {E : Xn → Prop}
theorem exc_eval1 (T : OexC K C) (S : SupE K C D) (n1 : PySem.W.findIn K (.ref C) f1 = some none) (hH : H a = some (exo a C none)) (q : ∀ dx, H dx = none → dx ≠ a → R .non (excH H a C dx [(f1, y1)])) (hN : 3 ≤ N.length) :
    tSeq (tDrop (tSvE K D (tCons (tC (.str m)) tNil))) (tOst K f1 (tVar 0) (tVar 1)) { nx := fun _ H' => R .non H', rt := R } (startF N [.ref a, y1] [none]) H := by
  refine ⟨a, C, rfl, T, S, hH, by simp, hH, ?_⟩
  refine ⟨y1, rfl, .ref a, rfl, a, C, rfl, T, n1, .inl ⟨hH, fun dx h1 h2 => ?_⟩⟩
  show R .non _
  rw [excH_one]
  exact q dx h1 h2
theorem exc_eval2 (T : OexC K C) (S : SupE K C D) (n1 : PySem.W.findIn K (.ref C) f1 = some none) (n2 : PySem.W.findIn K (.ref C) f2 = some none) (hH : H a = some (exo a C none)) (q : ∀ dx, H dx = none → dx ≠ a → R .non (excH H a C dx [(f2, y2), (f1, y1)])) (hN : 4 ≤ N.length) :
    tSeq (tDrop (tSvE K D (tCons (tC (.str m)) tNil))) (tSeq (tOst K f1 (tVar 0) (tVar 1)) (tOst K f2 (tVar 0) (tVar 2))) { nx := fun _ H' => R .non H', rt := R } (startF N [.ref a, y1, y2] [none]) H := by
  refine ⟨a, C, rfl, T, S, hH, by simp, hH, ?_⟩
  refine ⟨y1, rfl, .ref a, rfl, a, C, rfl, T, n1, .inl ⟨hH, fun dx h1 h2 => ?_⟩⟩
  refine ⟨y2, rfl, .ref a, rfl, a, C, rfl, T, n2, .inr ⟨dx, _, upd_same, by rw [upd_ne h2, upd_same], by simp, ?_⟩⟩
  show R .non _
  rw [excH_one, excH_more h2]
  exact q dx h1 h2
end
/-- the constructor of an own exception class whose __init__ keeps its arguments in the fields fs -/
structure ExcMk (P : Program) (w : World) (K : PySem.W.Frag) (mg : Str → Option Value) (base : Heap) (k : Nat) (x : Str) (C : Addr) (fs : List Str) : Prop where
  oc : OexC K C
  mk_ : ∃ (fI : Addr) (fd : FuncData) (ps : List Str), PySem.W.findIn K (.ref C) "__init__" = some (some (.ref fI)) ∧ PySem.W.typeIn K (.ref fI) = some (.type "function") ∧ FnOk P w K mg base (L2.CX P w) k fI fd ps (spExcI C fs) ∧ Binds K fd ps []
  mg_ : mg x = some (.ref C)
def dRaise (C : Addr) (fs : List Str) (da : DA) : DS := fun D ρ => da ρ (fun ss => plain ss fun ds => ds.length = fs.length ∧ D.ex ⟨C, (fs.zip ds).reverse⟩ ρ) fun x => D.ex x ρ
section
variable {K : PySem.W.Frag} {l0 : Addr} {F : Hp}
theorem DenF.zip : ∀ {fs : List Str} {vs : List V} {ds : List Dt}, Dens K l0 F vs ds → DenF K l0 F (fs.zip vs) (fs.zip ds)
  | [], _, _, _ => .nil
  | _ :: _, _, _, .nil => .nil
  | _ :: _, _, _, .cons h t => .cons h (DenF.zip t)
theorem DenF.app : ∀ {xs ys : List (Str × V)} {ds es : List (Str × Dt)}, DenF K l0 F xs ds → DenF K l0 F ys es → DenF K l0 F (xs ++ ys) (ds ++ es)
  | _, _, _, _, .nil, s => s
  | _, _, _, _, .cons h t, s => .cons h (DenF.app t s)
theorem DenF.rev : ∀ {xs : List (Str × V)} {ds : List (Str × Dt)}, DenF K l0 F xs ds → DenF K l0 F xs.reverse ds.reverse
  | _, _, .nil => .nil
  | _, _, .cons h t => by
    rw [List.reverse_cons, List.reverse_cons]
    exact DenF.app (DenF.rev t) (.cons h .nil)
end
section
variable {X : Cx} {W : WX} {e : Expr} {pos : Pos}
theorem no_pass : Passes (L2.CX X.prog X.w) X (fun _ _ _ => False) := fun _ _ _ _ _ _ _ ⟨_, _, _, _, _, _, _, _, _, _, _, _, z⟩ => z.elim
theorem ds_raise {k : Nat} {C : Addr} {fs : List Str} {x : Str} {p pos' : Pos} {es : List Expr} {t : TA} {da : DA} (M : ExcMk X.prog X.w X.K X.mg X.base k x C fs) (hc : X.calm = true) (tk : Takes X W) (hr : Room (k + 1) X.A) (hg : Gl X x) (ha : DAX X W (e :: es) t da)
    (hdb : (x == ("__debug__" : Str)) = false := by decide) (he : starEach (e :: es) X.env = (false, eval e X.env) :: starEach es X.env := by rfl) (hpl : (backTo pos (starEach es X.env)).any (·.1) = false := by rfl) (hfs : fs.length ≤ 1000 := by decide) :
    DSX X W (.Raise (some (.Call (.Name x p) (e :: es) [] pos)) none pos') (fun _ σ H => tMkO C (spExcI C fs) [] t σ H fun cls d H' => W cls d σ H') (dRaise C fs da) := by
  obtain ⟨oc, ⟨fI, fd, ps, h1, h2, G, hb⟩, hm⟩ := M
  refine ⟨ps_raise hc tk (pmk_oex oc h1 h2 G hr hb .nil no_pass hg hm ha.1 hdb he hpl), fun D ρ h l0 F H σ S Cn L => ?_⟩
  refine ha.2 ρ _ _ h l0 F H σ S _ (fun vs ss F1 H1 g1 r1 q1 => ?_) (L.kx S)
  obtain ⟨ds, e1, hl, q2⟩ := plain_of q1
  subst e1
  have r := dens_of r1
  refine ⟨by rw [r.length, hl]; exact hfs, fun a na => ?_⟩
  rw [List.append_nil]
  refine ⟨a, vs, rfl, by rw [r.length, hl], upd_same, fun dx n1 n2 => ⟨rfl, dx, (fs.zip vs).reverse, excH_a, excH_d n2, by rw [upd_ne n2] at n1; exact n1, ?_⟩⟩
  have n3 : H1 dx = none := by rw [upd_ne n2] at n1; exact n1
  have eH : upd (del (excH (upd H1 a (exo a C none)) a C dx (fs.zip vs).reverse) a) dx (.xd (fs.zip vs).reverse) = upd H1 dx (.xd (fs.zip vs).reverse) := by
    funext b
    unfold del excH upd
    by_cases z1 : b = dx
    · simp only [if_pos z1]
    · simp only [if_neg z1]
      by_cases z2 : b = a
      · rw [z2, na]
        simp only [if_true]
      · simp only [if_neg z2]
  rw [eH]
  have g2 := Go.fresh (p := dx) g1.bs (.xd (fs.zip vs).reverse) n3
  have g := g1.trans g2
  exact L.ex (.ref C) (some dx) ⟨C, (fs.zip ds).reverse⟩ _ _ σ ρ (.of g) .refl (S.go g) ⟨rfl, .inr ⟨dx, _, rfl, upd_same, (DenF.mono g2.ex (DenF.zip r).rev)⟩⟩ q2
end
/-- an __init__ of one field, of two fields -/
theorem excMk1 {P : Program} {w : World} {K : PySem.W.Frag} {mg : Str → Option Value} {base : Heap} {N : List Str} {F : NF} {D f C : Addr} {fd : FuncData} {x s1 p1 f1 m : Str} (Z : FunX P K F D f fd) (S : NScope N [s1, p1] ["__class__"] F.scope) (hN : 3 ≤ N.length) (T : OexC K C) (hi : PySem.W.findIn K (.ref C) "__init__" = some (some (.ref f))) (ht : PySem.W.typeIn K (.ref f) = some (.type "function")) (hm : mg x = some (.ref C))
    (Sv : SupE K C D) (n1 : PySem.W.findIn K (.ref C) f1 = some none) (hbd : ∀ (kV doc pm : Value) (an : Option Addr) (ct : Value) (us : List Value), us.length = 2 → bindArgs (PySem.W.fnX F.name F.qual F.params F.body F.scope F.cl .none kV doc pm an (.ref F.c) ct) ⟨us, []⟩ = pure (([s1, p1] : List Str).zip us))
    (hb : ∀ (A : Around) (outer : List Env) (s : Shared) (H : Hp) (E : XK), PSsA (ncx (L2.CX P w) P w K mg base N F f A outer s H E) F.body F.body (tSeq (tDrop (tSvE K D (tCons (tC (.str m)) tNil))) (tOst K f1 (tVar 0) (tVar 1)))) : ExcMk P w K mg base 1 x C [f1] := by
  refine ⟨T, ⟨f, fd, [s1, p1], hi, ht, Z.ok (k := 0) S (fun vs H Q E h => ?_) fun A outer s H vs Q E hr h => ⟨_, hb A outer s H E, ?_⟩, Z.binds hbd⟩, hm⟩
  · obtain ⟨a, ys, rfl, hl, _⟩ := h
    simpa using hl
  · obtain ⟨a, ys, rfl, hl, hH, q⟩ := h
    match ys, hl with
    | [y1], _ => exact exc_eval1 T Sv n1 hH q hN
theorem excMk2 {P : Program} {w : World} {K : PySem.W.Frag} {mg : Str → Option Value} {base : Heap} {N : List Str} {F : NF} {D f C : Addr} {fd : FuncData} {x s1 p1 p2 f1 f2 m : Str} (Z : FunX P K F D f fd) (S : NScope N [s1, p1, p2] ["__class__"] F.scope) (hN : 4 ≤ N.length) (T : OexC K C) (hi : PySem.W.findIn K (.ref C) "__init__" = some (some (.ref f))) (ht : PySem.W.typeIn K (.ref f) = some (.type "function")) (hm : mg x = some (.ref C))
    (Sv : SupE K C D) (n1 : PySem.W.findIn K (.ref C) f1 = some none) (n2 : PySem.W.findIn K (.ref C) f2 = some none) (hbd : ∀ (kV doc pm : Value) (an : Option Addr) (ct : Value) (us : List Value), us.length = 3 → bindArgs (PySem.W.fnX F.name F.qual F.params F.body F.scope F.cl .none kV doc pm an (.ref F.c) ct) ⟨us, []⟩ = pure (([s1, p1, p2] : List Str).zip us))
    (hb : ∀ (A : Around) (outer : List Env) (s : Shared) (H : Hp) (E : XK), PSsA (ncx (L2.CX P w) P w K mg base N F f A outer s H E) F.body F.body (tSeq (tDrop (tSvE K D (tCons (tC (.str m)) tNil))) (tSeq (tOst K f1 (tVar 0) (tVar 1)) (tOst K f2 (tVar 0) (tVar 2))))) : ExcMk P w K mg base 1 x C [f1, f2] := by
  refine ⟨T, ⟨f, fd, [s1, p1, p2], hi, ht, Z.ok (k := 0) S (fun vs H Q E h => ?_) fun A outer s H vs Q E hr h => ⟨_, hb A outer s H E, ?_⟩, Z.binds hbd⟩, hm⟩
  · obtain ⟨a, ys, rfl, hl, _⟩ := h
    simpa using hl
  · obtain ⟨a, ys, rfl, hl, hH, q⟩ := h
    match ys, hl with
    | [y1, y2], _ => exact exc_eval2 T Sv n1 n2 hH q hN
end DW

set_option Elab.async false
set_option linter.all false
set_option maxRecDepth 100000
/-! DW, part 20: try: body, except clauses with and without a name. -/
namespace DW
open PySem PySem.Spec PyProof.Rows L2
abbrev Sui := Addr → Value → Option Addr → TS
/-- a clause: its class, the slot of its name, its suite -/
abbrev Clz := Value × Option Nat × Sui
/-- behind a suite the name's slot is empty -/
def shut : Option Nat → Ends → Ends
  | none, D => D
  | some i, D => { nx := fun z H => D.nx (z.set i none) H, rt := D.rt, bk := fun z H => D.bk (z.set i none) H, ct := fun z H => D.ct (z.set i none) H }
def put : Option Nat → L2.St → Addr → L2.St
  | none, z, _ => z
  | some i, z, a => z.set i (some (.ref a))
/-- the first clause whose class fits -/
def wClz (K : PySem.W.Frag) (Wo : WX) (D : Ends) : List Clz → WX
  | [] => Wo
  | (c, oi, ts) :: r => fun cls d z H => ∃ b, PySem.W.exmOne K cls c = some b ∧ (b = true → ∀ a, H a = none → ts a cls d (shut oi D) (put oi z a) H) ∧ (b = false → wClz K Wo D r cls d z H)
inductive ClzOk (X : Cx) : List ExceptHandler → List Clz → Prop
  | nil : ClzOk X [] []
  | bare {x : Str} {c : Value} {ts : Sui} {st : Stmt} {su : List Stmt} {p q : Pos} {hs : List ExceptHandler} {l : List Clz} (nm : Names X x c)
      (k : ∀ (a : Addr) (oe : Obj) (cls : Value) (d : Option Addr) (pn : List (Addr × Obj)), Zc cls d oe → (∃ vs, oe.data = .fields vs) → PSs (X.suite a ((a, oe) :: pn)) (st :: su) (ts a cls d)) (r : ClzOk X hs l) :
      ClzOk X (.ExceptHandler (some (.Name x p)) none (st :: su) q :: hs) ((c, none, ts) :: l)
  | named {x n : Str} {i : Nat} {c : Value} {ts : Sui} {st : Stmt} {su : List Stmt} {p q : Pos} {hs : List ExceptHandler} {l : List Clz} (nm : Names X x c) (hi : X.N[i]? = some n) (hn : X.env.kindOf n = some .local)
      (k : ∀ (a : Addr) (oe : Obj) (cls : Value) (d : Option Addr) (pn : List (Addr × Obj)), Zc cls d oe → (∃ vs, oe.data = .fields vs) → PSs (X.suite a ((a, oe) :: pn)) (st :: su) (ts a cls d)) (r : ClzOk X hs l) :
      ClzOk X (.ExceptHandler (some (.Name x p)) (some n) (st :: su) q :: hs) ((c, some i, ts) :: l)
section
variable {X : Cx} {body : List Stmt} {h0 : ExceptHandler} {hs : List ExceptHandler} {l : List Clz} {pos : Pos} {tb : WX → TS} {Wo : WX} {pins : List (Addr × Obj)} {z : L2.St} {H : Hp} {D : Ends}
/-- what a suite ends with, as the whole's -/
theorem suite_end {a : Addr} {q : Addr × Obj} {f : Flow} {s : Shared} (ok : X.Ok) (y : SP (X.suite a (q :: (X.pn ++ pins))) [] D f s) : SP X pins D f s := by
  cases f with
  | ret u =>
    obtain ⟨v, z1, H1, J, r, w⟩ := y
    exact ⟨v, z1, H1, J.unsuite ok, r, w⟩
  | next => exact let ⟨z1, H1, J, w⟩ := y; ⟨z1, H1, J.unsuite ok, w⟩
  | brk => exact let ⟨z1, H1, J, w⟩ := y; ⟨z1, H1, J.unsuite ok, w⟩
  | cont => exact let ⟨z1, H1, J, w⟩ := y; ⟨z1, H1, J.unsuite ok, w⟩
theorem suite_endN {a : Addr} {q : Addr × Obj} {f : Flow} {s : Shared} {n : Str} {i : Nat} {p : Pos} (ok : X.Ok) (nd : X.N.Nodup) (hi : X.N[i]? = some n) (hn : X.env.kindOf n = some .local) (y : SP (X.suite a (q :: (X.pn ++ pins))) [] (shut (some i) D) f s) :
    wpAny (model X.prog X.w) X.A (do bindName X.env n .none; unbindBehindTheSuite X.env n p) (fun _ s7 => SP X pins D f s7) X.xe s := by
  cases f with
  | ret u =>
    obtain ⟨v, z1, H1, J, r, w⟩ := y
    exact gone_ok (J.unsuite ok) nd hi hn fun s7 J7 => ⟨v, _, H1, J7, r, w⟩
  | next =>
    obtain ⟨z1, H1, J, w⟩ := y
    exact gone_ok (J.unsuite ok) nd hi hn fun s7 J7 => ⟨_, H1, J7, w⟩
  | brk =>
    obtain ⟨z1, H1, J, w⟩ := y
    exact gone_ok (J.unsuite ok) nd hi hn fun s7 J7 => ⟨_, H1, J7, w⟩
  | cont =>
    obtain ⟨z1, H1, J, w⟩ := y
    exact gone_ok (J.unsuite ok) nd hi hn fun s7 J7 => ⟨_, H1, J7, w⟩
/-- the clauses, the exception landed -/
theorem clauses {a : Addr} {B : Heap} {sI s1 : Shared} {h3 : Heap} {cls : Value} {d : Option Addr} (ok : X.Ok) (nd : X.N.Nodup) (est : X.stack = X.env :: X.outer) (efr : X.env.frame = some X.env.locals) (tk : Takes X Wo) (J : Inv X pins z H sI) (nb : ∀ b o, sI.heap.get? b = some o → b ∉ frs X.stack → B.get? b = some o)
    (up : sI.heap.UpToSlots h3) (fl : HandSPX.FlyingZ B (X.env :: X.outer) a (Zc cls d) h3) (na : H a = none) (eos : s1.os = sI.os) (ag : AllBare s1.gens) (nL : a ≠ X.env.locals) (nF : a ∉ X.fs) :
    ∀ {hs : List ExceptHandler} {l : List Clz}, ClzOk X hs l → wClz X.K Wo D l cls d z H → wpAny (model X.prog X.w) X.A (handleBy (.ref a) X.env hs) (SP X pins D) X.xe { s1 with heap := h3 } := by
  have at_ : ∀ {h : Heap}, sI.heap.UpToSlots h → HandSPX.FlyingZ B (X.env :: X.outer) a (Zc cls d) h → Inv X pins z H { s1 with heap := h } := fun {h} u f => J.landed nb f.1 u eos ag
  have su : ∀ {h : Heap}, sI.heap.UpToSlots h → HandSPX.FlyingZ B (X.env :: X.outer) a (Zc cls d) h → ∃ (oe : Obj) (vs : Array Value), Zc cls d oe ∧ oe.data = .fields vs ∧ h.get? a = some oe ∧ Inv (X.suite a ((a, oe) :: (X.pn ++ pins))) [] z H { s1 with heap := h } := fun {h} u f => by
    obtain ⟨oe, vs, e1, e2, e3⟩ := f.there
    exact ⟨oe, vs, e2, e3, e1, (at_ u f).suite e1 e3 na nL nF⟩
  obtain ⟨oe, vs, ez, ed, eg, S3⟩ := su up fl
  have LT : PySem.W.Looks (model X.prog X.w) h3 (typeOf (.ref a)) cls := fun A Q E s k q => wpAny_typeOf_ref (k _ _ eg) (by rw [ez.1]; exact q)
  have ask : ∀ {x : Str} {c : Value} {p : Pos} {Q E : Value → Shared → Prop}, Names X x c → Q c { s1 with heap := h3 } → wpAny (model X.prog X.w) (X.A.mark (some (.ref a))) (eval (.Name x p) X.env) Q E { s1 with heap := h3 } := fun {x c p Q E} nm q => by
    obtain ⟨g1, g2, g3 | ⟨g3, g4, g5⟩⟩ := nm
    · exact ld_glob (X := X.suite a ((a, oe) :: (X.pn ++ pins))) S3 g1 g3 q g2
    · exact ld_blt (X := X.suite a ((a, oe) :: (X.pn ++ pins))) S3 g1 g3 g4 q g5 g2
  intro hs l ck
  induction ck with
  | nil =>
    intro w
    refine wpAny_handleBy_nil ?_
    obtain ⟨_, _, _, o2, vs2, T, _, _, g1, _, g2, g3, _⟩ := id fl
    unfold PySem.passOn
    refine wpAny_bind (wpAny_field g1 g2 g3 ?_)
    rw [if_neg (by simp : ¬ ((Value.ref T == Value.none) = true))]
    have go : wpAny (model X.prog X.w) X.A (setFlight (.ref a) X.env.frame) (fun _ s4 => wpAny (model X.prog X.w) X.A (throw (.ref a) : Sem Flow) (SP X pins D) X.xe s4) X.xe { s1 with heap := h3 } := by
      rw [efr]
      refine HandSPX.setFlight_upZ fl fun h4 held up4 => wpAny_throw (tk _ _ ⟨a, B, sI, pins, z, H, cls, d, rfl, J, nb, up.trans up4, .inr (.inr ?_), na, eos, ag, w⟩)
      rw [est]
      exact held
    first
      | exact wpAny_bind (wpAny_pure (wpAny_bind go))
      | exact wpAny_bind go
  | @bare x c ts st su' p q hs2 l2 nm k r ih =>
    intro w
    obtain ⟨b, e1, yes, no⟩ := w
    refine wpAny_handleBy_cons (codeAny_handlers_test ?_) (fun q => nomatch q)
    refine ask nm ((PySem.W.exm_one (M := model X.prog X.w) (at_ up fl).kIn LT e1).here ?_)
    cases b with
    | false =>
      show wpAny _ X.A (handleBy (.ref a) X.env hs2) _ _ _
      exact ih (no rfl)
    | true =>
      refine codeAny_handlers_suite (HandSPX.lands_againZ fl fun h4 fl4 up4 => ?_)
      obtain ⟨oe4, vs4, f1, f2, _, S4⟩ := su (up.trans up4) fl4
      exact wpAny_mono ((k a oe4 cls d (X.pn ++ pins) f1 ⟨_, f2⟩).run [] _ _ H _ S4 (yes rfl a na)) (fun f s6 y => suite_end ok y) fun _ _ y => False.elim y
  | @named x n i c ts st su' p q hs2 l2 nm hi hn k r ih =>
    intro w
    obtain ⟨b, e1, yes, no⟩ := w
    refine wpAny_handleBy_cons (codeAny_handlers_test ?_) (fun q => nomatch q)
    refine ask nm ((PySem.W.exm_one (M := model X.prog X.w) (at_ up fl).kIn LT e1).here ?_)
    cases b with
    | false =>
      show wpAny _ X.A (handleBy (.ref a) X.env hs2) _ _ _
      exact ih (no rfl)
    | true =>
      refine codeAny_handlers_suite_as (HandSPX.lands_againZ fl fun h4 fl4 up4 => ?_)
      obtain ⟨oe4, vs4, f1, f2, _, S4⟩ := su (up.trans up4) fl4
      refine store_ok (X := X.suite a ((a, oe4) :: (X.pn ++ pins))) (v := .ref a) S4 nd hi (.inl hn) rfl (fun s5 S5 => ?_) (.inr hn)
      exact wpAny_mono ((k a oe4 cls d (X.pn ++ pins) f1 ⟨_, f2⟩).run [] s5 _ H _ S5 (yes rfl a na)) (fun f s6 y => suite_endN ok nd hi hn y) fun _ _ y => False.elim y
/-- THE RULE -/
theorem run_tryG {s : Shared} (est : X.stack = X.env :: X.outer) (efr : X.env.frame = some X.env.locals) (nd : X.N.Nodup) (tk : Takes X Wo) (ck : ClzOk X (h0 :: hs) l) (I : Inv X pins z H s)
    (hb : ∀ xe : Value → Shared → Prop, Takes (X.tr (X.pn ++ pins) xe) (wClz X.K Wo D l) → PassesOwn (model X.prog X.w) X.A X.env xe → wpAny (model X.prog X.w) X.A (execs body X.env) (SP (X.tr (X.pn ++ pins) xe) [] D) xe s) :
    wpAny (model X.prog X.w) X.A (exec (.Try body (h0 :: hs) [] [] pos) X.env) (SP X pins D) X.xe s := by
  have ok := I.ok
  have fr : X.A.frames = some (X.env :: X.outer) := ok.frames.trans (congrArg some est)
  refine wpAny_Try_except ?_
  refine wpAny_mono (hb (fun e s₁ => wpAny (model X.prog X.w) X.A (noteFrame e X.env) (fun _ s₂ => wpAny (model X.prog X.w) X.A (setFlight e none) (fun _ s₃ => wpAny (model X.prog X.w) X.A (handleBy e X.env (h0 :: hs)) (SP X pins D) X.xe s₃) X.xe s₂) X.xe s₁) (fun u s1 y => ?_) PassesOwn.looking) (fun f s1 y => ?_) fun _ _ y => y
  · obtain ⟨a, B, sI, pins2, z2, H2, cls, d, rfl, J', nb, up, sky, na, eos, ag, w⟩ := y
    have J : Inv X pins z2 H2 sI := J'.ofTry ok
    have sky2 : Sky B (X.env :: X.outer) a (Zc cls d) X.env.locals s1.heap := est ▸ sky
    show wpAny (model X.prog X.w) X.A (noteFrame (.ref a) X.env) _ _ _
    refine Sky.land Zc.steady fr efr sky2 fun h3 fl up3 => ?_
    obtain ⟨oe, vs, e1, _, e3⟩ := fl.there
    have nfr : a ∉ frs (X.env :: X.outer) := fun hm => by
      obtain ⟨_, o2, e4, e5⟩ := fl.2.2.1.mem hm
      rw [e1] at e4
      cases e4
      exact e5 _ e3
    refine clauses ok nd est efr tk J nb (up.trans up3) fl na eos ag (fun y => nfr ?_) (fun hm => nfr ?_) ck w
    · exact List.mem_filterMap.mpr ⟨X.env, List.mem_cons_self, by rw [efr, y]⟩
    · obtain ⟨e, m1, m2⟩ := List.mem_filterMap.mp hm
      exact List.mem_filterMap.mpr ⟨e, List.mem_cons_of_mem _ m1, m2⟩
  · cases f with
    | next => exact let ⟨z1, H1, J, w⟩ := y; wpAny_execs_nil ⟨z1, H1, J.ofTry ok, w⟩
    | brk => exact let ⟨z1, H1, J, w⟩ := y; ⟨z1, H1, J.ofTry ok, w⟩
    | cont => exact let ⟨z1, H1, J, w⟩ := y; ⟨z1, H1, J.ofTry ok, w⟩
    | ret u => exact let ⟨v, z1, H1, J, r, w⟩ := y; ⟨v, z1, H1, J.ofTry ok, r, w⟩
end
end DW

set_option Elab.async false
set_option linter.all false
set_option maxRecDepth 100000
/-! DW, part 21: try over data; e.f, isinstance(e, ..) of a caught exception. -/
namespace DW
open PySem PySem.Spec PyProof.Rows L2
abbrev DSui := Addr → Value → Option Addr → DS
abbrev DClz := List (Addr × Bool) × Option Nat × DSui
def shutD : Option Nat → DEnds → DEnds
  | none, D => { D with ex := fun _ _ => False }
  | some i, D => { nx := fun ρ => D.nx (ρ.set i .emp), rt := D.rt, bk := fun ρ => D.bk (ρ.set i .emp), ct := fun ρ => D.ct (ρ.set i .emp), ex := fun _ _ => False, rs := fun d ρ => D.rs d (ρ.set i .emp) }
def putX : Option Nat → En → Addr → Option Addr → Xn → En
  | none, ρ, _, _, _ => ρ
  | some i, ρ, a, dd, x => ρ.set i (.dat (.exc a dd x.cls x.fs))
def dClz : List DClz → DEnds → Xn → En → Prop
  | [], D, x, ρ => D.ex x ρ
  | (tb, oi, t) :: r, D, x, ρ => ∃ b, (x.cls, b) ∈ tb ∧ (b = true → ∀ a dd, t a (.ref x.cls) dd (shutD oi D) (putX oi ρ a dd x)) ∧ (b = false → dClz r D x ρ)
def dTry (body : DS) (cl : List DClz) : DS := fun D ρ => body { D with ex := fun x ρ' => dClz cl D x ρ' } ρ
inductive DCs (K : PySem.W.Frag) : List Clz → List DClz → Prop
  | nil : DCs K [] []
  | cons {c : Value} {oi : Option Nat} {ts : Sui} {tb : List (Addr × Bool)} {t : DSui} {l : List Clz} {dl : List DClz} (T : ∀ r ∈ tb, PySem.W.exmOne K (.ref r.1) c = some r.2) (k : ∀ a cls d, SndS K W0 (ts a cls d) (t a cls d)) (r : DCs K l dl) : DCs K ((c, oi, ts) :: l) ((tb, oi, t) :: dl)
theorem XDen.den {K : PySem.W.Frag} {l0 : Addr} {F H : Hp} {cls : Value} {d : Option Addr} {x : Xn} {a : Addr} (r : XDen K l0 F H cls d x) : Den K l0 F (.ref a) (.exc a d x.cls x.fs) := by
  obtain ⟨_, ⟨rfl, e⟩ | ⟨dd, gs, rfl, h1, h2⟩⟩ := r
  · rw [e]
    exact .exc0
  · exact .exc h1 h2
theorem OwS.forget {H : Hp} {σ : L2.St} {ρ : En} (i : Nat) : OwS H σ ρ (σ.set i none) (ρ.set i .emp) := fun a ⟨j, s, h1, h2, h3⟩ => by
  by_cases q : i = j
  · subst q
    have hl : i < ρ.length := by
      have := lt_of_get h1
      rwa [List.length_set] at this
    rw [List.getElem?_set_self hl] at h1
    cases h1
    cases h2
  · rw [List.getElem?_set_ne q] at h1 h3
    exact .inl ⟨j, s, h1, h2, h3⟩
section
variable {K : PySem.W.Frag} {W Wo : WX} {l0 : Addr} {F H : Hp} {σ : L2.St} {ρ : En} {D : DEnds} {C : Ends}
/-- the links of a suite -/
theorem lnk_shut (L : Lnk K Wo l0 F H σ ρ D C) (b : Base l0 F H) {oi : Option Nat} {a : Addr} {dd : Option Addr} {x : Xn} (r : Den K l0 F (.ref a) (.exc a dd x.cls x.fs)) (S : Stt K l0 F H σ ρ) : Stt K l0 F H (put oi σ a) (putX oi ρ a dd x) ∧ Lnk K W0 l0 F H (put oi σ a) (putX oi ρ a dd x) (shutD oi D) (shut oi C) := by
  cases oi with
  | none => exact ⟨S, L.nx, L.rt, L.bk, L.ct, fun _ _ _ _ _ _ _ _ _ _ _ q => q.elim, L.rs⟩
  | some i =>
    have w0 : OwS H σ ρ (put (some i) σ a) (putX (some i) ρ a dd x) := .put i
    have L1 := L.trans b (.of (.refl b)) w0
    refine ⟨S.put i r, fun F' H' σ' ρ' g w S' q => ?_, fun F' H' v d g r q => L1.rt F' H' v d g r q, fun F' H' σ' ρ' g w S' q => ?_, fun F' H' σ' ρ' g w S' q => ?_, fun _ _ _ _ _ _ _ _ _ _ _ q => q.elim, fun F' H' σ' ρ' v d g w S' r q => (L1.trans b g w).rs F' H' _ _ v d (.of (.refl g.bs)) (.forget i) (S'.forget i) r q⟩
    · exact (L1.trans b g w).nx F' H' _ _ (.of (.refl g.bs)) (.forget i) (S'.forget i) q
    · exact (L1.trans b g w).bk F' H' _ _ (.of (.refl g.bs)) (.forget i) (S'.forget i) q
    · exact (L1.trans b g w).ct F' H' _ _ (.of (.refl g.bs)) (.forget i) (S'.forget i) q
theorem snd_clz {l : List Clz} {dl : List DClz} (k : DCs K l dl) : ∀ {cls : Value} {d : Option Addr} {x : Xn} {F H : Hp} {σ : L2.St} {ρ : En}, Lnk K Wo l0 F H σ ρ D C → Stt K l0 F H σ ρ → XDen K l0 F H cls d x → dClz dl D x ρ → wClz K Wo C l cls d σ H := by
  induction k with
  | nil =>
    intro cls d x F H σ ρ L S r q
    exact L.ex cls d x F H σ ρ (.of (.refl S.bs)) .refl S r q
  | @cons c oi ts tb t l dl T k _ ih =>
    intro cls d x F H σ ρ L S r q
    obtain ⟨b, m, yes, no⟩ := q
    have e := r.1
    refine ⟨b, by rw [e]; exact T _ m, fun hb a na => ?_, fun hb => ih L S r (no hb)⟩
    obtain ⟨S1, L1⟩ := lnk_shut (oi := oi) (a := a) L S.bs r.den S
    rw [e]
    exact k a _ d _ _ (yes hb a d) l0 F H _ S1 _ L1
end
/-! ### the judgement -/
def DCk (X : Cx) (hs : List ExceptHandler) (l : List Clz) (dl : List DClz) : Prop := ClzOk X hs l ∧ DCs X.K l dl
abbrev obj0 : Obj := { cls := .none, data := .fields #[] }
section
variable {X : Cx} {W : WX} {body su : List Stmt} {st : Stmt} {hs : List ExceptHandler} {h0 : ExceptHandler} {l : List Clz} {dl : List DClz} {pos p q : Pos} {x n : Str} {C : Addr} {tb : List (Addr × Bool)} {t : DSui}
theorem dck_nil : DCk X [] [] [] := ⟨.nil, .nil⟩
/-- a reading that just says what is wanted over data -/
def semS (K : PySem.W.Frag) (W : WX) (ds : DS) : TS := fun C σ H => ∃ D ρ l0 F, ds D ρ ∧ Stt K l0 F H σ ρ ∧ Lnk K W l0 F H σ ρ D C
theorem snd_sem {K : PySem.W.Frag} {ds : DS} : SndS K W (semS K W ds) ds := fun D ρ h l0 F H σ S C L => ⟨D, ρ, l0, F, h, S, L⟩
theorem pss_sem {ts : TS} {ds : DS} (h : DSSX X W su ts ds) : PSs X su (semS X.K W ds) := ⟨fun pins s σ H C I ⟨D, ρ, l0, F, q, S, L⟩ => h.1.run pins s σ H C I (h.2 D ρ q l0 F H σ S C L)⟩
theorem dck_bare {ts : Addr → Obj → Value → Option Addr → List (Addr × Obj) → TS} (T : ∀ r ∈ tb, PySem.W.exmOne X.K (.ref r.1) (.ref C) = some r.2) (hg : Gl X x) (hm : X.mg x = some (.ref C))
    (k : ∀ (a : Addr) (oe : Obj) (cls : Value) (d : Option Addr) (pn : List (Addr × Obj)), Zc cls d oe → (∃ vs, oe.data = .fields vs) → DSSX (X.suite a ((a, oe) :: pn)) W0 (st :: su) (ts a oe cls d pn) (t a cls d)) (r : DCk X hs l dl) (hd : (x == ("__debug__" : Str)) = false := by decide) :
    DCk X (.ExceptHandler (some (.Name x p)) none (st :: su) q :: hs) ((.ref C, none, fun a cls d => semS X.K W0 (t a cls d)) :: l) ((tb, none, t) :: dl) :=
  ⟨.bare ⟨hg, hd, .inl hm⟩ (fun a oe cls d pn hz hf => pss_sem (k a oe cls d pn hz hf)) r.1, .cons T (fun a cls d => snd_sem) r.2⟩
theorem dck_named {i : Nat} {ts : Addr → Obj → Value → Option Addr → List (Addr × Obj) → TS} (T : ∀ r ∈ tb, PySem.W.exmOne X.K (.ref r.1) (.ref C) = some r.2) (hg : Gl X x) (hm : X.mg x = some (.ref C))
    (k : ∀ (a : Addr) (oe : Obj) (cls : Value) (d : Option Addr) (pn : List (Addr × Obj)), Zc cls d oe → (∃ vs, oe.data = .fields vs) → DSSX (X.suite a ((a, oe) :: pn)) W0 (st :: su) (ts a oe cls d pn) (t a cls d)) (r : DCk X hs l dl) (hi : X.N[i]? = some n := by rfl) (hn : X.env.kindOf n = some .local := by rfl) (hd : (x == ("__debug__" : Str)) = false := by decide) :
    DCk X (.ExceptHandler (some (.Name x p)) (some n) (st :: su) q :: hs) ((.ref C, some i, fun a cls d => semS X.K W0 (t a cls d)) :: l) ((tb, some i, t) :: dl) :=
  ⟨.named ⟨hg, hd, .inl hm⟩ hi hn (fun a oe cls d pn hz hf => pss_sem (k a oe cls d pn hz hf)) r.1, .cons T (fun a cls d => snd_sem) r.2⟩
theorem ds_try {tb : WX → List (Addr × Obj) → (Value → Shared → Prop) → TS} {db : DS} (nd : X.N.Nodup) (tk : Takes X W)
    (hb : ∀ (W' : WX) (pn : List (Addr × Obj)) (xe : Value → Shared → Prop), Takes (X.tr pn xe) W' → PassesOwn (model X.prog X.w) X.A X.env xe → DSSX (X.tr pn xe) W' body (tb W' pn xe) db) (k : DCk X (h0 :: hs) l dl)
    (est : X.stack = X.env :: X.outer := by rfl) (efr : X.env.frame = some X.env.locals := by rfl) : DSX X W (.Try body (h0 :: hs) [] [] pos) (semS X.K W (dTry db dl)) (dTry db dl) := by
  refine ⟨⟨fun pins s σ H C I ⟨D, ρ, l0, F, q, S, L⟩ => ?_⟩, snd_sem⟩
  refine run_tryG est efr nd tk k.1 I fun xe t po => ?_
  obtain ⟨h1, h2⟩ := hb (wClz X.K W C l) (X.pn ++ pins) xe t po
  refine h1.run [] s σ H C (I.toTry xe) (h2 _ ρ q l0 F H σ S C ⟨L.nx, L.rt, L.bk, L.ct, fun cls d x F' H' σ' ρ' g w S' r q => snd_clz k.2 (L.trans S.bs g w) S' r q, L.rs⟩)
end
/-! ### e.f, isinstance(e, ..) -/
def dXf (a : Addr) (cls : Value) (d : Option Addr) (C : Addr) (f : Str) (de : DE) : DE := fun ρ Q E => de ρ (fun s => ∃ gs dt, cls = .ref C ∧ s = .dat (.exc a d C gs) ∧ gs.lookup f = some dt ∧ Q (.dat dt)) E
/-- the answers of isinstance(e, D), by the class of e -/
def dIsX (a : Addr) (cls : Value) (d : Option Addr) (D : V) (tbl : List (Addr × Bool)) : DCl := fun ss Q => ∃ C gs b, ss = [.dat (.exc a d C gs), .dat (.v D)] ∧ cls = .ref C ∧ (C, b) ∈ tbl ∧ Q (.dat (.v (.bl b)))
structure IsTblX (K : PySem.W.Frag) (D : V) (tbl : List (Addr × Bool)) : Prop where
  own : ∀ r ∈ tbl, ExcC K r.1 ∧ (PySem.W.clsIn K r.1).isSome = true
  at_ : ∃ cv : Value, (∀ u, RelV D u → u = cv) ∧ ∀ r ∈ tbl, PySem.W.kitOne K (.ref r.1) cv = some r.2
section
variable {X : Cx} {a C : Addr} {oe : Obj} {cls : Value} {d : Option Addr} {pn : List (Addr × Obj)} {e : Expr} {te : TE} {de : DE} {pos : Pos} {n : Str}
theorem de_xf (T : XfC X.K C) (hno : PySem.W.findIn X.K (.ref C) n = some none) (hz : Zc cls d oe) (hf : ∃ vs, oe.data = .fields vs) (he : DEX (X.suite a ((a, oe) :: pn)) W0 e te de) (hb : attributeBase e n X.env (eval e X.env) = eval e X.env := by rfl) :
    DEX (X.suite a ((a, oe) :: pn)) W0 (.Attribute e n pos) (tXf a cls d C n te) (dXf a cls d C n de) := by
  refine ⟨pe_xf T hno hz hf he.1 hb, fun ρ Q E q l0 F H σ S Qc k kx => ?_⟩
  refine he.2 ρ _ E q l0 F H σ S _ (fun x s F1 H1 g1 r1 q1 => ?_) kx
  obtain ⟨gs, dt, e1, e2, e3, q2⟩ := q1
  subst e2
  cases r1 with
  | @exc _ dd _ fs _ h r =>
    obtain ⟨v, h2, h3⟩ := r.look e3
    exact ⟨rfl, e1, dd, fs, v, rfl, g1.bs.sub _ _ h, h2, k v (.dat dt) F1 H1 g1 h3 q2⟩
  | exc0 => cases e3
def rIsX (K : PySem.W.Frag) (a : Addr) (cls : Value) (d : Option Addr) : List V → Hp → VK → Prop := fun xs H Q => ∃ (C : Addr) (c : V) (cv : Value) (b : Bool), cls = .ref C ∧ ExcC K C ∧ (PySem.W.clsIn K C).isSome = true ∧ (d = none ∨ ∃ dd fs, d = some dd ∧ H dd = some (.xd fs)) ∧ xs = [.ref a, c] ∧ (∀ u, RelV c u → u = cv) ∧ PySem.W.kitOne K (.ref C) cv = some b ∧ Q (.bl b) H
theorem call_isX (hz : Zc cls d oe) (hf : ∃ vs, oe.data = .fields vs) : CallR (X.suite a ((a, oe) :: pn)) (.builtin "isinstance") (rIsX X.K a cls d) := by
  intro pins s σ H xs us Q I r h
  obtain ⟨C, c, cv, b, rfl, T, hcl, hd, rfl, hcv, hk, q⟩ := h
  cases r with
  | cons rx rr =>
    cases rr with
    | cons rt rr =>
      cases rr
      cases rx
      obtain rfl := hcv _ rt
      obtain ⟨hget, _⟩ := I.pin (a, oe) (List.mem_append.mpr (.inl List.mem_cons_self))
      obtain ⟨vs, hv⟩ := hf
      have J : ∃ od, PySem.W.InstAt s.heap a oe C od := by
        rcases hd with rfl | ⟨dd, fs, rfl, hdd⟩
        · exact ⟨none, hget, hz.1, by unfold PySem.W.notCls; rw [hv] <;> rfl, by rw [hz.2]; trivial⟩
        · have hx : ObjOk X.prog X.w H s.heap dd (.xd fs) := I.hok dd _ hdd
          obtain ⟨mA, hns, hr⟩ := hx
          obtain ⟨od, ho, hl⟩ := lookIn_ns hns
          exact ⟨some od, hget, hz.1, by unfold PySem.W.notCls; rw [hv] <;> rfl, by rw [hz.2]; exact ho⟩
      obtain ⟨od, J⟩ := J
      exact PySem.W.kia_one (PySem.W.kitx_exc hcl T.hg T.hk T.hs T.ha T.hn T.ht T.hm) I.kIn J hk (fun z => nomatch z) fun tk => ⟨.bl b, H, I.kept (t' := tk) fun _ _ z => z, rfl, q⟩
theorem sc_isX {K : PySem.W.Frag} {D : V} {tbl : List (Addr × Bool)} (T : IsTblX K D tbl) : SndC K (rIsX K a cls d) (dIsX a cls d D tbl) := fun vs ss Q h l0 F H b r Qc k => by
  obtain ⟨C, gs, v, e, hc, hm, q⟩ := h
  subst e
  obtain ⟨cv, h1, h2⟩ := T.at_
  obtain ⟨h3, h4⟩ := T.own _ hm
  cases r with
  | cons r1 r =>
    cases r with
    | cons r2 r =>
      cases r
      obtain rfl := r2.val
      have e1 : (d = none ∨ ∃ dd fs, d = some dd ∧ H dd = some (.xd fs)) := by
        cases r1 with
        | exc h _ => exact .inr ⟨_, _, rfl, b.sub _ _ h⟩
        | exc0 => exact .inl rfl
      cases r1 with
      | exc h _ => exact ⟨C, _, cv, v, hc, h3, h4, e1, rfl, h1, h2 _ hm, k.here b q⟩
      | exc0 => exact ⟨C, _, cv, v, hc, h3, h4, e1, rfl, h1, h2 _ hm, k.here b q⟩
end
end DW

set_option Elab.async false
set_option linter.all false
set_option maxRecDepth 100000
/-! DW, part 22: the facts of a law's top, as checks. -/
namespace DW
open PySem PySem.Spec PyProof.Rows L2 NdefX
/-! ### defs with __class__ -/
abbrev FnWX : Type := Option (Str × Str × Arguments × FuncBody × Scope × Addr × List Str × Addr)
def fnWX (K : PySem.W.Frag) (p : Str × Option Str) : FnWX := match K.lookup (He.fAd K p) with
  | some ⟨_, _, .func fd, _⟩ => some (fd.name, fd.qualname, fd.params, fd.body, fd.scope, fd.globals, fd.closure.map (·.1), fd.builtins)
  | _ => none
structure DefX where
  at_ : Str × Option Str
  name : Str
  qual : Str
  params : Arguments
  body : List Stmt
  scope : Scope
  own : Str
def DefX.val (d : DefX) : FnWX := some (d.name, d.qual, d.params, .stmts d.body, d.scope, mainGlobals, ["__class__"], builtinsNs)
def codeB (file : Str) (o : Option Obj) : Bool := match o with
  | some ⟨_, _, .fields vs, _⟩ => (match (vs[2]? : Option Value) with
    | some (Value.str fl _) => (file == fl)
    | _ => false)
  | _ => false
def cellB (D : Addr) (o : Option Obj) : Bool := match o with
  | some ⟨_, _, .cell (some (.ref E)), _⟩ => decide (E = D)
  | _ => false
def codeOf (K : PySem.W.Frag) (p : Str × Option Str) : Addr := match K.lookup (He.fAd K p) with
  | some ⟨_, _, .func fd, _⟩ => (match fd.code with
    | .ref c => c
    | _ => 0)
  | _ => 0
def cellOf (K : PySem.W.Frag) (p : Str × Option Str) : Addr := match K.lookup (He.fAd K p) with
  | some ⟨_, _, .func fd, _⟩ => (match fd.closure with
    | (_, c) :: _ => c
    | _ => 0)
  | _ => 0
def dfNone : Value → Bool
  | .none => true
  | _ => false
theorem dfNone_ok {v : Value} (h : dfNone v = true) : v = .none := by cases v <;> first | rfl | cases h
def codRef (c : Addr) : Value → Bool
  | .ref d => decide (d = c)
  | _ => false
theorem codRef_ok {c : Addr} {v : Value} (h : codRef c v = true) : v = .ref c := by
  cases v with
  | ref d => exact congrArg Value.ref (of_decide_eq_true h)
  | _ => cases h
def DefX.ok (P : Program) (K : PySem.W.Frag) (d : DefX) : Bool := PySem.W.keepIn K (.ref (He.fAd K d.at_)) && ((match K.lookup (He.fAd K d.at_) with
  | some ⟨_, _, .func fd, _⟩ => PySem.W.codeIn K fd.code d.qual && (dfNone fd.defaults && (codRef (codeOf K d.at_) fd.code && decide (fd.closure.map (·.2) = [cellOf K d.at_])))
  | _ => false) && (codeB P.main.file (K.lookup (codeOf K d.at_)) && (cellB (He.ga K d.own) (K.lookup (cellOf K d.at_)) && ((PySem.W.clsIn K (He.ga K d.own)).isSome && (He.eqO (PySem.W.nsIn K mainGlobals "super") (some none) && !(P.main.scope.names.lookup ("super" : Str)).isSome)))))
theorem zip_one {l : List (Str × Addr)} {x : Str} {c : Addr} (h1 : l.map (·.1) = [x]) (h2 : l.map (·.2) = [c]) : l = [(x, c)] := by
  match l, h1, h2 with
  | [(a, b)], h1, h2 =>
    simp only [List.map_cons, List.map_nil, List.cons.injEq, and_true] at h1 h2
    rw [h1, h2]
theorem DefX.funX {P : Program} {K : PySem.W.Frag} {d : DefX} (e : fnWX K d.at_ = d.val) (c : d.ok P K = true) : ∃ fd, FunX P K ⟨d.name, d.qual, d.params, d.body, d.scope, [("__class__", cellOf K d.at_)], codeOf K d.at_⟩ (He.ga K d.own) (He.fAd K d.at_) fd := by
  obtain ⟨kp, c⟩ := He.ba c
  obtain ⟨c2, c⟩ := He.ba c
  obtain ⟨c3, c⟩ := He.ba c
  obtain ⟨c4, c⟩ := He.ba c
  obtain ⟨c5, c⟩ := He.ba c
  obtain ⟨c6, c7⟩ := He.ba c
  unfold fnWX at e
  cases q : K.lookup (He.fAd K d.at_) with
  | none =>
    rw [q] at c2
    cases c2
  | some o =>
    obtain ⟨oc, od, dt, osl⟩ := o
    rw [q] at c2 e
    cases dt with
    | func fd =>
      obtain ⟨n1, n2, n3, n4, n5, n6, n7, n8, n9, n10, n11, n12, n13, n14, n15⟩ := fd
      have e2 : (some (n1, n2, n3, n4, n5, n6, n7.map (·.1), n15) : FnWX) = (some (d.name, d.qual, d.params, FuncBody.stmts d.body, d.scope, mainGlobals, ["__class__"], builtinsNs) : FnWX) := e
      simp only [Option.some.injEq, Prod.mk.injEq] at e2
      obtain ⟨h1, h2, h3, h4, h5, h6, h7, h8⟩ := e2
      have c3' : (PySem.W.codeIn K n13 d.qual && (dfNone n8 && (codRef (codeOf K d.at_) n13 && decide (n7.map (·.2) = [cellOf K d.at_])))) = true := c2
      obtain ⟨k1, k⟩ := He.ba c3'
      obtain ⟨k2, k⟩ := He.ba k
      obtain ⟨k3, k4⟩ := He.ba k
      have k2 := dfNone_ok k2
      have k3 := codRef_ok k3
      have k4 := zip_one h7 (of_decide_eq_true k4)
      subst k2 k3 k4 h1 h2 h3 h4 h5 h6 h8
      refine ⟨_, ⟨⟨oc, od, n9, n10, n11, n12, n14, osl, rfl, q⟩, k1, ?_, ⟨_, rfl, ?_⟩, ?_, He.eqO_ok c6, kp, ?_⟩⟩
      · unfold codeB at c3
        split at c3
        · rename_i cc cd vs sl ho
          split at c3
          · rename_i fl tf hv
            exact ⟨cc, cd, vs, sl, fl, tf, ho, hv, c3⟩
          · cases c3
        · cases c3
      · unfold cellB at c4
        split at c4
        · rename_i cv cd E sl ho
          have := of_decide_eq_true c4
          subst this
          exact ⟨cv, cd, sl, ho⟩
        · cases c4
      · cases z : PySem.W.clsIn K (He.ga K d.own) with
        | some cd => exact ⟨cd, rfl⟩
        | none => rw [z] at c5; cases c5
      · simpa using c7
    | _ => cases c2
/-! ### a def that stands at an address told by a function (a property's getter, a static method) -/
structure DefP where
  ad : PySem.W.Frag → Addr
  name : Str
  qual : Str
  params : Arguments
  body : List Stmt
  scope : Scope
  dfl : List He.Dv := []
def fnWP (K : PySem.W.Frag) (a : Addr) : He.FnW := match K.lookup a with
  | some ⟨_, _, .func fd, _⟩ => some (fd.name, fd.qualname, fd.params, fd.body, fd.scope, fd.globals, fd.closure, fd.builtins)
  | _ => none
def DefP.val (d : DefP) : He.FnW := some (d.name, d.qual, d.params, .stmts d.body, d.scope, mainGlobals, [], builtinsNs)
def DefP.dvs (K : PySem.W.Frag) (d : DefP) : List V := d.dfl.map (He.Dv.v K)
def DefP.ok (K : PySem.W.Frag) (d : DefP) : Bool := PySem.W.keepIn K (.ref (d.ad K)) && (match K.lookup (d.ad K) with
  | some ⟨_, _, .func fd, _⟩ => PySem.W.codeIn K fd.code d.qual && He.dflB K fd.defaults (d.dvs K)
  | _ => false)
theorem DefP.funD {K : PySem.W.Frag} {d : DefP} (e : fnWP K (d.ad K) = d.val) (c : d.ok K = true) : ∃ fd, FunD K d.name d.qual d.params d.body d.scope (d.dvs K) [] (d.ad K) fd := by
  obtain ⟨kp, c2⟩ := He.ba c
  unfold fnWP at e
  cases q : K.lookup (d.ad K) with
  | none =>
    rw [q] at c2
    cases c2
  | some o =>
    obtain ⟨oc, od, dt, osl⟩ := o
    rw [q] at c2 e
    cases dt with
    | func fd =>
      obtain ⟨n1, n2, n3, n4, n5, n6, n7, n8, n9, n10, n11, n12, n13, n14, n15⟩ := fd
      have e2 : (some (n1, n2, n3, n4, n5, n6, n7, n15) : He.FnW) = some (d.name, d.qual, d.params, .stmts d.body, d.scope, mainGlobals, [], builtinsNs) := e
      simp only [Option.some.injEq, Prod.mk.injEq] at e2
      obtain ⟨h1, h2, h3, h4, h5, h6, h7, h8⟩ := e2
      subst h1 h2 h3 h4 h5 h6 h7 h8
      have c3 : (PySem.W.codeIn K n13 d.qual && He.dflB K n8 (d.dvs K)) = true := c2
      obtain ⟨k1, k3⟩ := He.ba c3
      exact ⟨_, ⟨oc, od, n8, n9, n10, n11, n12, n13, n14, osl, rfl, q, k1, He.dflB_ok k3, .inl rfl⟩, kp⟩
    | _ => cases c2
/-! ### the hook -/
def asX (g : Addr → Option Obj) (n : Nat) : List Addr := He.asD g n ++ [PySem.cStatics]
abbrev AlX : Type := He.AlD × (List Bool × List FnWX) × List Bool × List Bool × List He.FnW
structure Top where
  fa : List He.Fa
  fn : List He.DefD
  fx : List DefX
  ex : List (PySem.W.Frag → Bool)
  fp : List DefP
def Top.obs (P : Program) (t : Top) (K : PySem.W.Frag) : AlX := (He.obsD t.fa t.fn K, (t.fx.map fun d => d.ok P K, t.fx.map fun d => fnWX K d.at_), t.ex.map fun e => e K, t.fp.map fun d => d.ok K, t.fp.map fun d => fnWP K (d.ad K))
def Top.val (t : Top) : AlX := (He.valD t.fn, (t.fx.map fun _ => true, t.fx.map DefX.val), t.ex.map fun _ => true, t.fp.map fun _ => true, t.fp.map DefP.val)
def obsT (P : Program) (n : Nat) (t : Top) (g : Addr → Option Obj) : AlX := t.obs P (He.frG g (asX g n))
def hookT (P : Program) (n : Nat) (t : Top) : PySem.W.Hook where
  α := AlX
  obs := fun s => obsT P n t s.heap.get?
  val := fun _ => t.val
  says := fun _ h => ∃ K : PySem.W.Frag, K.In h ∧ t.obs P K = t.val
  of := fun _ _ e => ⟨_, He.frG_in, e⟩
  keeps := fun _ _ _ ⟨K, hK, c⟩ k => ⟨K, PySem.W.Frag.In.keeps hK k, c⟩
theorem obsT_eq {P : Program} {n : Nat} {t : Top} {g : Addr → Option Obj} {s : Shared} (h : ∀ a, g a = s.heap.get? a) : obsT P n t g = (hookT P n t).obs s := by
  have e : g = s.heap.get? := funext h
  rw [e] <;> rfl
section
variable {P : Program} {K : PySem.W.Frag} {t : Top}
theorem Top.sd (c : t.obs P K = t.val) : He.SaysD t.fa t.fn K := congrArg (fun z : AlX => z.1) c
theorem all_true {α : Type} {l : List α} {f : α → Bool} (h : l.map f = l.map fun _ => true) {i : Nat} {x : α} (e : l[i]? = some x) : f x = true := by
  have h2 : (l.map f)[i]? = (l.map fun _ => true)[i]? := by rw [h]
  rw [List.getElem?_map, List.getElem?_map, e] at h2
  exact Option.some.inj h2
theorem Top.e (c : t.obs P K = t.val) (i : Nat) {f : PySem.W.Frag → Bool} (e : t.ex[i]? = some f := by rfl) : f K = true :=
  all_true (f := fun f : PySem.W.Frag → Bool => f K) (congrArg (fun z : AlX => z.2.2.1) c) e
theorem Top.x (c : t.obs P K = t.val) (i : Nat) {d : DefX} (e : t.fx[i]? = some d := by rfl) : ∃ fd, FunX P K ⟨d.name, d.qual, d.params, d.body, d.scope, [("__class__", cellOf K d.at_)], codeOf K d.at_⟩ (He.ga K d.own) (He.fAd K d.at_) fd := by
  have h1 : t.fx.map (fun d => d.ok P K) = t.fx.map fun _ => true := congrArg (fun z : AlX => z.2.1.1) c
  have h2 : t.fx.map (fun d => fnWX K d.at_) = t.fx.map DefX.val := congrArg (fun z : AlX => z.2.1.2) c
  have h3 : (t.fx.map (fun d => fnWX K d.at_))[i]? = (t.fx.map DefX.val)[i]? := by rw [h2]
  rw [List.getElem?_map, List.getElem?_map, e] at h3
  exact DefX.funX (Option.some.inj h3) (all_true h1 e)
theorem Top.p (c : t.obs P K = t.val) (i : Nat) {d : DefP} (e : t.fp[i]? = some d := by rfl) : ∃ fd, FunD K d.name d.qual d.params d.body d.scope (d.dvs K) [] (d.ad K) fd := by
  have h1 : t.fp.map (fun d => d.ok K) = t.fp.map fun _ => true := congrArg (fun z : AlX => z.2.2.2.1) c
  have h2 : t.fp.map (fun d => fnWP K (d.ad K)) = t.fp.map DefP.val := congrArg (fun z : AlX => z.2.2.2.2) c
  have h3 : (t.fp.map (fun d => fnWP K (d.ad K)))[i]? = (t.fp.map DefP.val)[i]? := by rw [h2]
  rw [List.getElem?_map, List.getElem?_map, e] at h3
  exact DefP.funD (Option.some.inj h3) (all_true h1 e)
end
/-! ### checks -/
section
variable {K : PySem.W.Frag} {C D g : Addr} {m f : Str}
theorem atOk_nil : AtOk K [] f := fun C h => nomatch h
theorem atOk_cons {cs : List Addr} (h1 : Cls K C) (h2 : NoAttr K C f) (r : AtOk K cs f) : AtOk K (C :: cs) f := fun E h => by
  rcases List.mem_cons.mp h with e | h
  · rw [e]
    exact ⟨h1, h2⟩
  · exact r E h
theorem all_nil {α : Type} {p : α → Prop} : ∀ r ∈ ([] : List α), p r := fun r h => nomatch h
theorem all_cons {α : Type} {p : α → Prop} {a : α} {l : List α} (h : p a) (t : ∀ r ∈ l, p r) : ∀ r ∈ a :: l, p r := fun r m => by
  rcases List.mem_cons.mp m with e | m
  · rw [e]
    exact h
  · exact t r m
def mk0B (K : PySem.W.Frag) (C : Addr) : Bool := PySem.W.makesIn K C && (He.eqO (PySem.W.findIn K (.ref C) "__init__") (some (some (.builtin "object.__init__"))) && (decide (PySem.W.mroIn K C (.type "object") = some true) && PySem.W.keepIn K (.ref C)))
theorem mk0B_ok (h : mk0B K C = true) : Mk0 K C := by
  obtain ⟨h1, h⟩ := He.ba h
  obtain ⟨h2, h⟩ := He.ba h
  obtain ⟨h3, h4⟩ := He.ba h
  exact ⟨h1, He.eqO_ok h2, of_decide_eq_true h3, h4⟩
def supMB (K : PySem.W.Frag) (C D : Addr) (m : Str) (g : Addr) : Bool := decide (PySem.W.mroIn K C (.ref D) = some true) && (decide (PySem.W.ks_superIn K C D m = some (some (.ref g))) && (decide (PySem.W.typeIn K (.ref g) = some (.type "function")) && (PySem.W.fnIn K g && He.eqO (PySem.W.nsIn K PySem.cStatics "thirdparty.any") (some none))))
theorem supMB_ok (h : supMB K C D m g = true) : SupM K C D m g := by
  obtain ⟨h1, h⟩ := He.ba h
  obtain ⟨h2, h⟩ := He.ba h
  obtain ⟨h3, h⟩ := He.ba h
  obtain ⟨h4, h5⟩ := He.ba h
  exact ⟨of_decide_eq_true h1, of_decide_eq_true h2, of_decide_eq_true h3, h4, He.eqO_ok h5⟩
def supEB (K : PySem.W.Frag) (C D : Addr) : Bool := decide (PySem.W.mroIn K C (.ref D) = some true) && (decide (PySem.W.ks_superIn K C D "__init__" = some (some (.builtin "ValueError.__init__"))) && (decide (PySem.W.subIn K (.ref C) (.type "ValueError") = some true) && He.eqO (PySem.W.nsIn K PySem.cStatics "thirdparty.any") (some none)))
theorem supEB_ok (h : supEB K C D = true) : SupE K C D := by
  obtain ⟨h1, h⟩ := He.ba h
  obtain ⟨h2, h⟩ := He.ba h
  obtain ⟨h3, h4⟩ := He.ba h
  exact ⟨of_decide_eq_true h1, of_decide_eq_true h2, of_decide_eq_true h3, He.eqO_ok h4⟩
/-- an own exception class over ValueError with an __init__ of its own -/
def oexB (K : PySem.W.Frag) (C : Addr) : Bool := (match K.lookup C with
  | some ⟨.type "type", _, .cls cd, sl⟩ => (match cd.mro, sl.toList with
    | .ref E :: bm, [_, _, _, _, some (.builtin n), _] => decide (E = C) && (decide (n = "ValueError.__new__") && (!cd.hasDel && (cd.hasDict && PySem.HandSPX.refsVE bm)))
    | _, _ => false)
  | _ => false) && (He.eqO (PySem.W.findIn K (.ref C) "__setattr__") (some (some (.builtin "object.__setattr__"))) && (decide (PySem.W.subIn K (.ref C) (.type "BaseException") = some true) && (decide (PySem.W.typeIn K (.ref C) = some (.type "type")) && PySem.W.keepIn K (.ref C))))
theorem oexB_ok (h : oexB K C = true) : OexC K C := by
  obtain ⟨h1, h⟩ := He.ba h
  obtain ⟨h2, h⟩ := He.ba h
  obtain ⟨h3, h⟩ := He.ba h
  obtain ⟨h4, h5⟩ := He.ba h
  refine ⟨?_, He.eqO_ok h2, of_decide_eq_true h3, of_decide_eq_true h4, h5⟩
  split at h1
  · rename_i dd cd sl ho
    split at h1
    · rename_i E bm k0 k1 k2 k3 n k5 hm hs
      obtain ⟨c1, c⟩ := He.ba h1
      obtain ⟨c2, c⟩ := He.ba c
      obtain ⟨c3, c⟩ := He.ba c
      obtain ⟨c4, c5⟩ := He.ba c
      have c1 := of_decide_eq_true c1
      have c2 := of_decide_eq_true c2
      have w3 : cd.hasDel = false := by simpa using c3
      subst c1 c2
      obtain ⟨nm, bs, mro, ns, qn, hd, sn, sub, ab, col, del⟩ := cd
      dsimp only at hm w3 c4
      subst hm w3 c4
      have hsl : sl = #[k0, k1, k2, k3, some (.builtin "ValueError.__new__"), k5] := by
        obtain ⟨l⟩ := sl
        simp only at hs
        rw [hs]
      subst hsl
      exact ⟨nm, qn, ns, bs, bm, sn, sub, ab, col, dd, k0, k1, k2, k3, k5, ho, c5⟩
    · cases h1
  · cases h1
def initB (K : PySem.W.Frag) (C f : Addr) : Bool := He.eqO (PySem.W.findIn K (.ref C) "__init__") (some (some (.ref f))) && decide (PySem.W.typeIn K (.ref f) = some (.type "function"))
theorem initB_ok (h : initB K C g = true) : PySem.W.findIn K (.ref C) "__init__" = some (some (.ref g)) ∧ PySem.W.typeIn K (.ref g) = some (.type "function") := by
  obtain ⟨h1, h2⟩ := He.ba h
  exact ⟨He.eqO_ok h1, of_decide_eq_true h2⟩
def noatB (K : PySem.W.Frag) (C : Addr) (f : Str) : Bool := He.eqO (PySem.W.findIn K (.ref C) f) (some none)
theorem noatB_ok (h : noatB K C f = true) : PySem.W.findIn K (.ref C) f = some none := He.eqO_ok h
def excB (K : PySem.W.Frag) (C : Addr) : Bool := He.eqO (PySem.W.findIn K (.ref C) "__getattribute__") (some (some (.builtin "BaseException.__getattribute__"))) && (He.eqO (PySem.W.findIn K (.ref C) "__getattr__") (some none) && (decide (PySem.W.subIn K (.ref C) (.type "BaseException") = some true) && (PySem.W.hasDictIn K C && (He.eqO (PySem.W.findIn K (.ref C) "__class__") (some (some (.builtin "object.__class__"))) &&
  (He.eqO (PySem.W.specialIn K (.builtin "object.__class__") "__get__") (some (some (.builtin "getset_descriptor.__get__"))) && (decide (PySem.W.takesIn K (.builtin "object.__class__") = some true) && (decide (PySem.W.mroIn K C (.type "object") = some true) && (PySem.W.clsIn K C).isSome)))))))
theorem excB_ok (h : excB K C = true) : ExcC K C ∧ (PySem.W.clsIn K C).isSome = true := by
  obtain ⟨h1, h⟩ := He.ba h
  obtain ⟨h2, h⟩ := He.ba h
  obtain ⟨h3, h⟩ := He.ba h
  obtain ⟨h4, h⟩ := He.ba h
  obtain ⟨h5, h⟩ := He.ba h
  obtain ⟨h6, h⟩ := He.ba h
  obtain ⟨h7, h⟩ := He.ba h
  obtain ⟨h8, h9⟩ := He.ba h
  exact ⟨⟨He.eqO_ok h1, He.eqO_ok h2, of_decide_eq_true h3, h4, He.eqO_ok h5, He.eqO_ok h6, of_decide_eq_true h7, of_decide_eq_true h8⟩, h9⟩
theorem excB_xf (h : excB K C = true) : XfC K C := by
  obtain ⟨⟨h1, h2, h3, h4, _, _, _, _⟩, _⟩ := excB_ok h
  exact ⟨h1, h2, h3, h4⟩
def exmB (K : PySem.W.Frag) (C D : Addr) (b : Bool) : Bool := decide (PySem.W.exmOne K (.ref C) (.ref D) = some b)
theorem exmB_ok {b : Bool} (h : exmB K C D b = true) : PySem.W.exmOne K (.ref C) (.ref D) = some b := of_decide_eq_true h
def kitB (K : PySem.W.Frag) (C : Addr) (v : Value) (b : Bool) : Bool := decide (PySem.W.kitOne K (.ref C) v = some b)
theorem kitB_ok {v : Value} {b : Bool} (h : kitB K C v b = true) : PySem.W.kitOne K (.ref C) v = some b := of_decide_eq_true h
def plB (K : PySem.W.Frag) (D : Addr) : Bool := [Ty6.int, .bool, .str, .none, .list, .tuple].all fun t => decide (PySem.W.kitOne K (.type t.nm) (.ref D) = some false)
theorem plB_ok (h : plB K D = true) (t : Ty6) : PySem.W.kitOne K (.type t.nm) (.ref D) = some false := by
  have q := List.all_eq_true.mp h t (by cases t <;> simp)
  exact of_decide_eq_true q
def samB (a b : Addr) : Bool := decide (a = b)
theorem samB_ok {a b : Addr} (h : samB a b = true) : a = b := of_decide_eq_true h
theorem relRef {u : Value} : RelV (.ref D) u → u = .ref D := fun h => h
theorem relTy {n : String} {u : Value} : RelV (.ty n) u → u = .type n := fun h => h
end
theorem MOk.mono {P : Program} {w : World} {K : PySem.W.Frag} {mg : Str → Option Value} {base : Heap} {j k : Nat} {m : Str} {C : Addr} {sd : Sd} (h : MOk P w K mg base j m C sd) (l : j ≤ k) : MOk P w K mg base k m C sd := by
  obtain ⟨g, fd, ps, h1, h2, h3, h4⟩ := h
  exact ⟨g, fd, ps, h1, h2, h3.mono l, h4⟩
theorem MakeOk.mono {P : Program} {w : World} {K : PySem.W.Frag} {mg : Str → Option Value} {base : Heap} {j k : Nat} {x : Str} {C : Addr} {sd : Sd} (h : MakeOk P w K mg base j x C sd) (l : j ≤ k) : MakeOk P w K mg base k x C sd := by
  obtain ⟨f, fd, ps, h1, h2, h3, h4⟩ := h
  exact ⟨f, fd, ps, h1, h2.mono l, h3, h4⟩
theorem okS {d : Dt} {e : PyData} (h : okD 60 d = true) (t : toPy d = some e) : SeqAt.shaped e = true := by
  obtain ⟨e', h1, h2, h3⟩ := okD_py 60 d h
  rw [h1] at t
  cases t
  unfold SeqAt.shaped
  rw [h2, decide_eq_true (by omega)]
  rfl
theorem okL {d : Dt} {e : PyData} (h : okD 60 d = true) (t : toPy d = some e) : e.canLay0 = true := by
  obtain ⟨e', h1, h2, h3⟩ := okD_py 60 d h
  rw [h1] at t
  cases t
  exact h2
theorem iteNs {d : PyData} {A B : Prop} (h : d.canLay0 = true) (q : B) : if (!PyData.eqv d d) = true then A else B := by
  rw [SeqAt.eqv_refl d h]
  exact q
theorem iteEs {d : PyData} {A B : Prop} (h : d.canLay0 = true) (q : A) : if PyData.eqv d d = true then A else B := by
  rw [SeqAt.eqv_refl d h]
  exact q
end DW

set_option Elab.async false
set_option linter.all false
set_option maxRecDepth 100000
/-! DW, part 23: instances with one slot: __init__ whose last statement stores it, C(..), e.f; sorted of pairs. -/
namespace DW
open PySem PySem.Spec PyProof.Rows L2 SlX
/-! ### __init__ of such a class: the store comes last -/
def dSeqB (a b : DS) : DS := fun D ρ => a { nx := b D, rt := fun _ => False, bk := fun _ => False, ct := fun _ => False, ex := D.ex } ρ
structure LnkB (K : PySem.W.Frag) (W : WX) (l0 : Addr) (F H : Hp) (σ : L2.St) (ρ : En) (D : DEnds) (C : Ends) : Prop where
  fin : ∀ F' H' σ' ρ' p Cl y d, GoS l0 F H σ ρ F' H' → Stt K l0 F' H' σ' ρ' → ρ'[0]? = some (.oob p Cl []) → Den K l0 F' y d → D.nx (.dat d :: ρ') → ∀ σ'', C.nx σ'' (slH H' p.1 Cl p.2 [some y])
  ex : ∀ cls d x F' H' σ' ρ', GoS l0 F H σ ρ F' H' → OwS H σ ρ σ' ρ' → Stt K l0 F' H' σ' ρ' → XDen K l0 F' H' cls d x → D.ex x ρ' → W cls d σ' H'
theorem LnkB.trans {K : PySem.W.Frag} {W : WX} {l0 : Addr} {F H F1 H1 : Hp} {σ σ1 : L2.St} {ρ ρ1 : En} {D : DEnds} {C : Ends} (L : LnkB K W l0 F H σ ρ D C) (b : Base l0 F H) (g : GoS l0 F H σ ρ F1 H1) (w : OwS H σ ρ σ1 ρ1) : LnkB K W l0 F1 H1 σ1 ρ1 D C where
  fin := fun F' H' σ' ρ' p Cl y d g' S h0 r q => L.fin F' H' σ' ρ' p Cl y d (g.trans b w g') S h0 r q
  ex := fun cls d x F' H' σ' ρ' g' w' S r q => L.ex cls d x F' H' σ' ρ' (g.trans b w g') (OwS.trans b g w w') S r q
def SndB (K : PySem.W.Frag) (W : WX) (ts : TS) (ds : DS) : Prop := ∀ D ρ, ds D ρ → ∀ l0 F H σ, Stt K l0 F H σ ρ → ∀ C : Ends, LnkB K W l0 F H σ ρ D C → ts C σ H
def DSSB (X : Cx) (W : WX) (l : List Stmt) (ts : TS) (ds : DS) : Prop := PSs X l ts ∧ SndB X.K W ts ds
/-- the last statement: self.f = e -/
def dSlF (cs : List Addr) (de : DE) : DS := fun D ρ => de ρ (datS fun d => ∃ p Cl, ρ[0]? = some (.oob p Cl []) ∧ Cl ∈ cs ∧ D.nx (.dat d :: ρ)) fun x => D.ex x ρ
def SlOk (K : PySem.W.Frag) (cs : List Addr) (f : Str) : Prop := ∀ C ∈ cs, SCls K C ∧ ∃ p, Slot1 K C f p 0
section
variable {X : Cx} {W : WX} {st : Stmt} {rest : List Stmt} {va vb : TS} {t u : DS}
theorem dssb_cons (h1 : DSX X W st va t) (h2 : DSSB X W rest vb u) : DSSB X W (st :: rest) (tSeq va vb) (dSeqB t u) := by
  obtain ⟨p1, s1⟩ := h1
  obtain ⟨p2, s2⟩ := h2
  refine ⟨pss_cons p1 p2, fun D ρ h l0 F H σ S C L => ?_⟩
  refine s1 _ ρ h l0 F H σ S { C with nx := vb C } ⟨fun F' H' σ' ρ' g w S' q => ?_, fun _ _ _ _ _ _ q => q.elim, fun _ _ _ _ _ _ _ q => q.elim, fun _ _ _ _ _ _ _ q => q.elim, L.ex, fun _ _ _ _ _ _ _ _ _ _ q => q.elim⟩
  exact s2 D ρ' q l0 F' H' σ' S' C (L.trans S.bs g w)
theorem dssb_frz (i : Nat) (h : DSSB X W rest va t) : DSSB X W rest va (dFrz i t) := by
  obtain ⟨p1, s1⟩ := h
  refine ⟨p1, fun D ρ h l0 F H σ S C L => ?_⟩
  unfold dFrz at h
  split at h
  · rename_i ds e
    obtain ⟨F', S', g, w⟩ := S.freeze (getD_own e)
    exact s1 D _ h l0 F' H σ S' C (L.trans S.bs g w)
  · exact h.elim
theorem dssb_slf {value : Expr} {te : TE} {de : DE} {cs : List Addr} {f : Str} (c : SlOk X.K cs f) {y : Str} {p1 p2 pos : Pos} (hv : DEX X W value te de) (hN : X.N[0]? = some y := by rfl) (hvis : Vis X.env.scope y := by first | exact Or.inl rfl | exact Or.inr (Or.inl rfl) | exact Or.inr (Or.inr rfl))
    (hd : (y == ("__debug__" : Str)) = false := by decide) (hcd : (y == ("__classdict__" : Str)) = false := by decide) (hs : swapsWith value (some (.Attribute (.Name y p1) f p2)) pos.line X.env = pure false := by rfl) :
    DSSB X W [.Assign [.Attribute (.Name y p1) f p2] value pos] (sSl X.K (tVar 0) te f) (dSlF cs de) := by
  refine ⟨pss_one (ps_sl (pe_var hN hvis hd hcd) hv.1 hs), fun D ρ h l0 F H σ S C L => ?_⟩
  refine hv.2 ρ _ _ h l0 F H σ S _ (fun v s F1 H1 g1 r1 q1 => ?_) (fun cls d x F' H' g r q => L.ex cls d x F' H' σ ρ (.of g) .refl (S.go g) r q)
  obtain ⟨d, e, q1⟩ := datS_of q1
  subst e
  obtain ⟨p, Cl, hρ, hm, q⟩ := q1
  have S1 := S.go g1
  obtain ⟨gs, hσ, hF, n0, hH, r, _⟩ := S1.oob hρ
  cases r
  obtain ⟨c1, dp, c2⟩ := c Cl hm
  exact ⟨.ref p.1, hσ, p.1, Cl, p.2, dp, [], 0, rfl, .inl ⟨hH, rfl⟩, c1, c2, L.fin F1 H1 σ ρ p Cl v d (.of g1) S1 hρ r1 q σ⟩
end
def spInS (K : PySem.W.Frag) (C : Addr) (sd : Sd) : Sp := fun vs H Q E => ∃ x us l0 F ds Qd Ed dx, vs = V.ref x :: us ∧ Base l0 F H ∧ F x = none ∧ x ≠ l0 ∧ H x = some (.ins C dx []) ∧ (F dx = none ∧ dx ≠ l0 ∧ H dx = some (.own x)) ∧ Dens K l0 F us ds ∧ sd ds Qd Ed ∧
  (∀ y d F' H', GoI l0 x F H F' H' → F' x = none → H' x = some (.ins C dx []) → F' dx = none → H' dx = some (.own x) → Den K l0 F' y d → Qd (.slt C d) → Q .non (slH H' x C dx [some y])) ∧ (∀ cls dct xn F' H', GoI l0 x F H F' H' → XDen K l0 F' H' cls dct xn → Ed xn → E cls dct H')
def dEndsS (p : Addr × Addr) (C : Addr) (Q : Dt → Prop) (E : Xn → Prop) : DEnds := { nx := fun ρ => ∃ d r, ρ = .dat d :: r ∧ r[0]? = some (.oob p C []) ∧ Q (.slt C d), rt := fun _ => False, bk := fun _ => False, ct := fun _ => False, ex := fun x _ => E x }
theorem fn_dSl {P : Program} {w : World} {K : PySem.W.Frag} {mg : Str → Option Value} {base : Heap} {x y qual : Str} {params : Arguments} {body : List Stmt} {scope : Scope} {dvs : List V} {kws : List (Str × V)} {f C : Addr} {fd : FuncData} {N ps : List Str} {k : Nat} {sd : Sd} {ds : DS}
    (F : FunD K x qual params body scope dvs kws f fd) (S : FnScope (y :: N) ps scope) (len : ∀ as Q E, sd as Q E → as.length + 1 = ps.length)
    (hb : ∀ (cdv : Value) (A : Around) (outer : List Env) (s : Shared) (H : Hp) (E : XK), Room k (A.deeper (envOfC qual scope s.heap.objs.size f cdv)) →
      ∃ ts, DSSB (cxOf (L2.CX P w) P w K mg base (y :: N) qual scope f cdv A outer s H E) (fun cls d _ H => E cls d H) body ts ds)
    (hp : ∀ p as Q E, sd as Q E → ds (dEndsS p C Q E) (DW.startI p C (y :: N).length as)) : FnOk P w K mg base (L2.CX P w) (k + 1) f fd ps (spInS K C sd) := by
  refine F.ok S (fun vs H Q E h => ?_) fun cdv A outer s H vs Q E hr h => ?_
  · obtain ⟨x, us, l0, F, as, Qd, Ed, dx, e, b, hF, n0, hH, hd, r, h, _, _⟩ := h
    rw [e, List.length_cons, r.length]
    exact len as Qd Ed h
  · obtain ⟨x, us, l0, F, as, Qd, Ed, dx, e, b, hF, n0, hH, hd, r, h, hq, he⟩ := h
    subst e
    obtain ⟨ts, p, sd⟩ := hb cdv A outer s H E hr
    have toI : ∀ {F' H'}, GoS l0 F H (L2.start (y :: N) (.ref x :: us)) (DW.startI (x, dx) C (y :: N).length as) F' H' → GoI l0 x F H F' H' := fun g =>
      ⟨g.bs, g.ex, fun a h1 h2 => (g.new a h1 h2).imp id startI_ow, fun a o n1 n2 e => g.keep a o n1 (fun z => n2 (startI_ow z)) e⟩
    refine ⟨ts, p, sd _ _ (hp (x, dx) as Qd Ed h) l0 F H _ (Stt.startI b hF n0 hH hd r) _ ⟨fun F' H' σ' ρ' p' Cl v d g S' h0 r q σ'' => ?_, fun cls d x F' H' σ' ρ' g w S' r q => ?_⟩⟩
    · obtain ⟨d', r', e1, e2, q⟩ := q
      cases e1
      rw [h0] at e2
      cases e2
      obtain ⟨gs, _, z1, _, z3, z4, z5, _, z6⟩ := S'.oob h0
      cases z4
      exact hq v d F' H' (toI g) z1 z3 z5 z6 r q
    · exact he cls d x F' H' (toI g) r q
theorem snd_makeSl {K : PySem.W.Frag} {W : WX} {C : Addr} {sd : Sd} {t : TA} {da : DA} (sa : SndA K W t da) : SndE K W (tMakeS C (spInS K C sd) (WE W) t) (dMake sd da) := fun ρ Q E q l0 F H σ S Qc kk kx => by
  refine sa ρ _ E q l0 F H σ S _ (fun vs ss F1 H1 g1 r1 q1 => ?_) kx
  obtain ⟨ds, e, q2⟩ := plain_of q1
  subst e
  intro x dx hx hdx hne
  have b := g1.bs
  have gl : Go l0 F1 H1 F1 (upd (upd H1 dx (.own x)) x (.ins C dx [])) := by
    have ga := Go.loose b (.own x) hdx
    exact ga.trans (Go.loose ga.bs (.ins C dx []) (by rw [upd_ne (Ne.symm hne)]; exact hx))
  have nN : ∀ {a : Addr}, H1 a = none → F1 a = none ∧ a ≠ l0 := fun {a} h => by
    refine ⟨?_, fun e => b.live (by rw [← e]; exact h)⟩
    cases e : F1 a with
    | none => rfl
    | some o => rw [b.sub a o e] at h; cases h
  -- what stood before still stands
  have keepAll : ∀ {F' H'}, GoI l0 x F1 (upd (upd H1 dx (.own x)) x (.ins C dx [])) F' H' → ∀ a o, a ≠ l0 → H1 a = some o → H' a = some o := fun {F' H'} g a o na e => by
    have nx : a ≠ x := fun z => by rw [z, hx] at e; cases e
    exact g.keep a o na nx (gl.keep a o na e)
  have newAll : ∀ {F' H'}, GoI l0 x F1 (upd (upd H1 dx (.own x)) x (.ins C dx [])) F' H' → ∀ a, F1 a = none → F' a ≠ none → H1 a = none := fun {F' H'} g a h1 h2 => by
    rcases g.new a h1 h2 with z | z
    · cases e : H1 a with
      | none => rfl
      | some o =>
        by_cases n : a = l0
        · subst n
          exact absurd z gl.bs.live
        · rw [gl.keep a o n e] at z
          cases z
    · rw [z]
      exact hx
  refine ⟨x, vs, l0, F1, ds, _, E, dx, rfl, gl.bs, (nN hx).1, (nN hx).2, upd_same, ⟨(nN hdx).1, (nN hdx).2, by rw [upd_ne hne, upd_same]⟩, dens_of r1, q2, fun y d F' H' g z1 z3 z4 z5 r q => ⟨rfl, ?_⟩, fun cls dct xn F' H' g r q => ?_⟩
  · have ex : Same F' (upd (upd F' dx (.xd [])) x (SlO x C dx [some y])) := fun a o e => by
      rw [upd_ne (ne_of_none e z1), upd_ne (ne_of_none e z4)]
      exact e
    have hd2 : slH H' x C dx [some y] dx = some (.xd []) := by
      unfold slH
      rw [upd_ne hne, upd_same]
    have hx2 : slH H' x C dx [some y] x = some (SlO x C dx [some y]) := upd_same
    have hne2 : ∀ a, a ≠ x → a ≠ dx → slH H' x C dx [some y] a = H' a := fun a h1 h2 => slH_ne h1 h2
    have go : Go l0 F1 H1 (upd (upd F' dx (.xd [])) x (SlO x C dx [some y])) (slH H' x C dx [some y]) := by
      refine ⟨⟨fun a o e => ?_, by rw [upd_ne (nN hx).2.symm, upd_ne (nN hdx).2.symm]; exact g.bs.nf, ?_⟩, fun a o e => ex a o (g.ex a o e), fun a h1 h2 => ?_, fun a o n e => ?_⟩
      · by_cases w : a = x
        · subst w
          rw [upd_same] at e
          cases e
          exact hx2
        · rw [upd_ne w] at e
          by_cases w2 : a = dx
          · subst w2
            rw [upd_same] at e
            cases e
            exact hd2
          · rw [upd_ne w2] at e
            rw [hne2 a w w2]
            exact g.bs.sub a o e
      · obtain ⟨ns, h1, h2⟩ := g.bs.dr
        exact ⟨ns, by rw [hne2 l0 (nN hx).2.symm (nN hdx).2.symm]; exact h1, h2⟩
      · by_cases w : a = x
        · rw [w]
          exact hx
        · rw [upd_ne w] at h2
          by_cases w2 : a = dx
          · rw [w2]
            exact hdx
          · rw [upd_ne w2] at h2
            exact newAll g a h1 h2
      · have w : a ≠ x := fun z => by rw [z, hx] at e; cases e
        have w2 : a ≠ dx := fun z => by rw [z, hdx] at e; cases e
        rw [hne2 a w w2]
        exact keepAll g a o n e
    refine kk (.ref x) (.dat (.slt C d)) _ _ (g1.trans go) (Den.slt (dx := dx) upd_same ?_ hne (Den.mono ex r)) q
    rw [upd_ne hne, upd_same]
  · have go : Go l0 F1 H1 F' H' := ⟨g.bs, g.ex, newAll g, keepAll g⟩
    exact kx cls dct xn F' H' (g1.trans go) r q
/-- the constructor of such a class by its name -/
def MakeSl (P : Program) (w : World) (K : PySem.W.Frag) (mg : Str → Option Value) (base : Heap) (k : Nat) (x : Str) (C : Addr) (sd : Sd) : Prop := ∃ (f : Addr) (fd : FuncData) (ps : List Str), Mk K C f ∧ FnOk P w K mg base (L2.CX P w) k f fd ps (spInS K C sd) ∧ mg x = some (.ref C) ∧ Binds K fd ps []
section
variable {X : Cx} {W : WX} {e : Expr} {pos : Pos}
theorem de_makeSl {k : Nat} {C : Addr} {sd : Sd} {x : Str} {p : Pos} {es : List Expr} {t : TA} {da : DA} (M : MakeSl X.prog X.w X.K X.mg X.base k x C sd) (tk : Takes X W) (hr : Room (k + 1) X.A) (hg : Gl X x) (ha : DAX X W (e :: es) t da)
    (hdb : (x == ("__debug__" : Str)) = false := by decide) (he : starEach (e :: es) X.env = (false, eval e X.env) :: starEach es X.env := by rfl) (hpl : (backTo pos (starEach es X.env)).any (·.1) = false := by rfl) :
    DEX X W (.Call (.Name x p) (e :: es) [] pos) (tMakeS C (spInS X.K C sd) (WE W) t) (dMake sd da) := by
  obtain ⟨f, fd, ps, m, F, hm, hb⟩ := M
  exact ⟨pe_makeS m F hr hg hm hb (fun σ => passAt tk σ) ha.1 hdb he hpl, snd_makeSl ha.2⟩
/-! ### e.f -/
def dSlA (cs : List Addr) (de : DE) : DE := fun ρ Q E => de ρ (fun s => ∃ C d, s = .dat (.slt C d) ∧ C ∈ cs ∧ Q (.dat d)) E
theorem Den.slt_of {K : PySem.W.Frag} {l0 : Addr} {F : Hp} {v : V} {C : Addr} {d : Dt} (r : Den K l0 F v (.slt C d)) : ∃ a dx x, v = .ref a ∧ F a = some (SlO a C dx [some x]) ∧ F dx = some (.xd []) ∧ dx ≠ a ∧ Den K l0 F x d := by
  cases r with
  | slt h h2 ne r => exact ⟨_, _, _, rfl, h, h2, ne, r⟩
theorem de_slA {te : TE} {de : DE} {cs : List Addr} {f : Str} (c : SlOk X.K cs f) (he : DEX X W e te de) (hb : attributeBase e f X.env (eval e X.env) = eval e X.env := by rfl) : DEX X W (.Attribute e f pos) (tSl X.K te f) (dSlA cs de) := by
  refine ⟨pe_sl he.1 hb, fun ρ Q E q l0 F H σ S Qc k kx => ?_⟩
  refine he.2 ρ _ E q l0 F H σ S _ (fun v s F1 H1 g1 r1 q1 => ?_) kx
  obtain ⟨C, d, e1, hm, q2⟩ := q1
  subst e1
  have r1 : Den X.K l0 F1 v (.slt C d) := r1
  obtain ⟨a, dx, x, ev, h, h2, ne, r⟩ := r1.slt_of
  subst ev
  obtain ⟨c1, dp, c2⟩ := c C hm
  exact ⟨a, C, dx, dp, [some x], 0, x, rfl, .inr ⟨g1.bs.sub _ _ h, g1.bs.sub _ _ h2⟩, c1, c2, rfl, k x (.dat d) F1 H1 g1 r q2⟩
end
/-! ### sorted of pairs of ints -/
abbrev prD (p : Int × Int) : Dt := .tup [.v (.int p.1), .v (.int p.2)]
def PrV (K : PySem.W.Frag) (H : Hp) (x : V) (p : Int × Int) : Prop := ∃ t, x = V.ref t ∧ SqT K H t [.int p.1, .int p.2]
def rSortT (K : PySem.W.Frag) : List V → Hp → VK → Prop := fun vs H Q => ∃ (a : Addr) (xs : List V) (ps : List (Int × Int)) (P : V → Int × Int → Prop), vs = [V.ref a] ∧ SqL K H a xs ∧ (∀ x p, P x p → PrV K H x p) ∧ Paired P xs ps ∧
  ∀ ys qs l, SrtO.Srtd SrtO.lexB qs → qs.Perm ps → Paired P ys qs → H l = none → Q (.ref l) (upd H l (.lst ys))
theorem isPair_one {h : Heap} {v : Value} {p q : Int × Int} (a : Srt.IsPair h v p.1 p.2) (b : Srt.IsPair h v q.1 q.2) : p = q := by
  obtain ⟨a1, o1, t1, u1, n1, e1, h1, _, d1⟩ := a
  obtain ⟨a2, o2, t2, u2, n2, e2, h2, _, d2⟩ := b
  rw [e1] at e2
  cases e2
  rw [h1] at h2
  cases h2
  rw [d1] at d2
  injection d2 with d3
  have d4 := congrArg Array.toList d3
  simp at d4
  exact Prod.ext d4.1.1 d4.2.1
theorem Paired.mapBoth {α β γ : Type} {R : β → γ → Prop} {f : α → β} {g : α → γ} : ∀ {l : List α}, (∀ x ∈ l, R (f x) (g x)) → Paired R (l.map f) (l.map g)
  | [], _ => .nil
  | x :: l, h => .cons (h x (by simp)) (Paired.mapBoth fun y hy => h y (by simp [hy]))
theorem paired_map {α β : Type} {R : α → β → Prop} {k : α → β} : ∀ {l : List α} {m : List β}, Paired R l m → (∀ x y, R x y → k x = y) → l.map k = m
  | _, _, .nil, _ => rfl
  | _, _, .cons h t, q => by rw [List.map_cons, q _ _ h, paired_map t q]
theorem paired_mem {α β : Type} {R : α → β → Prop} : ∀ {l : List α} {m : List β} {x : α}, Paired R l m → x ∈ l → ∃ y, R x y
  | _, _, _, .nil, h => by cases h
  | _, _, x, .cons h t, m => by
    rcases List.mem_cons.mp m with e | m
    · subst e
      exact ⟨_, h⟩
    · exact paired_mem t m
theorem pairs_vals {P : V → Int × Int → Prop} {R : Value → Int × Int → Prop} : ∀ {xs : List V} {its : List Value} {ps : List (Int × Int)}, Vals xs its → Paired P xs ps → (∀ x u p, RelV x u → P x p → R u p) → Paired R its ps
  | _, _, _, .nil, .nil, _ => .nil
  | _, _, _, .cons a b, .cons c d, h => .cons (h _ _ _ a c) (pairs_vals b d h)
theorem cr_sortT {X : Cx} : CallR X (.builtin "sorted") (rSortT X.K) := by
  intro pins s σ H vs us Q I r h
  obtain ⟨a, xs, ps, P, rfl, hs, hP, hp, q⟩ := h
  obtain ⟨its, rv, hl, hz⟩ := I.list hs
  obtain ⟨u, rfl, ru⟩ := vals1 r
  obtain rfl : u = Value.ref a := ru
  have one : ∀ (x : V) (u : Value) (p : Int × Int), RelV x u → P x p → Srt.IsPair s.heap u p.1 p.2 ∧ P (backV u) p := fun x u p ru hx => by
    obtain ⟨t, rfl, ht⟩ := hP x p hx
    cases (show u = Value.ref t from ru)
    obtain ⟨its2, r2, ⟨o, ho, hc, n, hd⟩, _⟩ := I.tuple ht
    obtain ⟨u1, u2, rfl, ri, rj⟩ := vals2 r2
    obtain ⟨t1, rfl⟩ := ri
    obtain ⟨t2, rfl⟩ := rj
    exact ⟨⟨t, o, t1, t2, n, rfl, ho, hc, hd⟩, hx⟩
  let k : Value → Int × Int := fun u => Classical.epsilon fun p : Int × Int => Srt.IsPair s.heap u p.1 p.2
  have hk : ∀ (u : Value) (p : Int × Int), Srt.IsPair s.heap u p.1 p.2 → k u = p := fun u p hu => isPair_one (Classical.epsilon_spec (p := fun p : Int × Int => Srt.IsPair s.heap u p.1 p.2) ⟨p, hu⟩) hu
  have pr := pairs_vals rv hp fun x u p r h => one x u p r h
  have ek : its.map k = ps := paired_map pr fun u p h => hk u p h.1
  refine SrtO.sorted_pairsO (k := k) hl.isList (by rw [← rv.length]; exact hz) (fun v hv => ?_) fun h' d out h1 h2 kp hd hn => ?_
  · obtain ⟨p, h, _⟩ := paired_mem pr hv
    rw [hk v p h]
    exact h
  · have mm : ∀ v ∈ out, ∃ p, Srt.IsPair s.heap v p.1 p.2 ∧ P (backV v) p := fun v hv => paired_mem pr (h2.perm.mem_iff.mp hv)
    have h3 : ∀ u ∈ out, ∃ a, u = Value.ref a := fun u hu => by
      obtain ⟨p, ⟨a, _, _, _, _, e, _⟩, _⟩ := mm u hu
      exact ⟨a, e⟩
    obtain ⟨n, hn⟩ := hn
    have hq : (out.map k).Perm ps := by
      rw [← ek]
      exact h2.perm.map k
    refine ⟨.ref d, upd H d (.lst (out.map backV)), I.laid (t' := s.toks) kp hd ⟨?_, out, n, vals_back h3, hn⟩, rfl, q _ _ d (SrtO.srtd_map h1) hq (Paired.mapBoth fun v hv => ?_) (I.hok.fresh hd)⟩
    · rw [List.length_map, h2.len, ← rv.length]
      exact hz
    · obtain ⟨p, h4, h5⟩ := mm v hv
      rw [hk v p h4]
      exact h5
/-- over data: pairs in order, in any such order -/
def dSortP : DCl
  | [.dat (.lst ds)], Q => ∃ ps : List (Int × Int), ds = ps.map prD ∧ ∀ qs, SrtO.Srtd SrtO.lexB qs → qs.Perm ps → Q (.dat (.lst (qs.map prD)))
  | [.own ds], Q => ∃ ps : List (Int × Int), ds = ps.map prD ∧ ∀ qs, SrtO.Srtd SrtO.lexB qs → qs.Perm ps → Q (.dat (.lst (qs.map prD)))
  | _, _ => False
theorem den_pr {K : PySem.W.Frag} {l0 : Addr} {F H : Hp} (b : Same F H) {x : V} {p : Int × Int} (h : Den K l0 F x (prD p)) : PrV K H x p := by
  cases h with
  | tup h r =>
    cases r with
    | cons h1 t =>
      cases t with
      | cons h2 t2 =>
        cases t2
        cases h1
        cases h2
        exact ⟨_, rfl, sameT b h⟩
theorem dens_pr {K : PySem.W.Frag} {l0 : Addr} {F : Hp} : ∀ {xs : List V} {ps : List (Int × Int)}, Dens K l0 F xs (ps.map prD) → Paired (fun x p => Den K l0 F x (prD p)) xs ps
  | _, [], .nil => .nil
  | _, p :: ps, .cons h t => .cons h (dens_pr t)
theorem pr_dens {K : PySem.W.Frag} {l0 : Addr} {F : Hp} : ∀ {xs : List V} {ps : List (Int × Int)}, Paired (fun x p => Den K l0 F x (prD p)) xs ps → Dens K l0 F xs (ps.map prD)
  | _, [], .nil => .nil
  | _, p :: ps, .cons h t => .cons h (pr_dens t)
theorem sc_sortP {K : PySem.W.Frag} : SndC K (rSortT K) dSortP := fun vs ss Q h l0 F H b r Qc k => by
  have fin : ∀ {a : Addr} {xs : List V} {ds : List Dt}, SqL K H a xs → Dens K l0 F xs ds → (∃ ps : List (Int × Int), ds = ps.map prD ∧ ∀ qs, SrtO.Srtd SrtO.lexB qs → qs.Perm ps → Q (.dat (.lst (qs.map prD)))) → rSortT K [V.ref a] H Qc := fun {a xs ds} hs r q => by
    obtain ⟨ps, e, q⟩ := q
    subst e
    refine ⟨a, xs, ps, fun x p => Den K l0 F x (prD p), rfl, hs, fun x p h => den_pr b.sub h, dens_pr r, fun ys qs l h1 h2 h3 hl => ?_⟩
    have g := Go.fresh (p := l) b (.lst ys) hl
    exact k (.ref l) (.dat (.lst (qs.map prD))) _ _ g (Den.lst (SqL.of upd_same) (Dens.mono g.ex (pr_dens h3))) (q qs h1 h2)
  unfold dSortP at h
  split at h
  · obtain ⟨⟩ | ⟨r1, ⟨⟩⟩ := r
    obtain ⟨a, xs, e, z1, z2⟩ := r1.list b (.inl rfl)
    subst e
    exact fin z1 z2 h
  · obtain ⟨⟩ | ⟨r1, ⟨⟩⟩ := r
    obtain ⟨a, xs, e, z1, z2⟩ := r1.list b (.inr rfl)
    subst e
    exact fin z1 z2 h
  · exact h.elim
end DW

set_option Elab.async false
set_option linter.all false
set_option maxRecDepth 100000
/-! DW, part 24: own operators, isinstance, the constructor with its default, for instances with one slot. -/
namespace DW
open PySem PySem.Spec PyProof.Rows L2 SlX
/-- the method m of the class C, whose instances have one slot -/
def MSl (P : Program) (w : World) (K : PySem.W.Frag) (mg : Str → Option Value) (base : Heap) (k : Nat) (m : Str) (C : Addr) (sd : Sd) : Prop := ∃ (g : Addr) (fd : FuncData) (ps : List Str), SCls K C ∧ PySem.W.selfFirst K C = true ∧ Meth K C m g ∧ FnOk P w K mg base (L2.CX P w) k g fd ps (spOf K sd) ∧ Binds K fd ps []
theorem noX {X : Cx} {σ : L2.St} : PassesAt (L2.CX X.prog X.w) X σ (fun _ _ _ => False) := fun pins H s e s' I c => by
  obtain ⟨_, _, _, _, _, _, _, _, _, _, _, _, h⟩ := c
  exact h.elim
def IsSl (H : Hp) (C : Addr) (v : V) : Prop := ∃ a dx vs, v = V.ref a ∧ Slt H a C dx vs
theorem isSl_of {K : PySem.W.Frag} {l0 : Addr} {F H : Hp} {v : V} {C : Addr} {d : Dt} (b : Same F H) (r : Den K l0 F v (.slt C d)) : IsSl H C v := by
  obtain ⟨a, dx, x, e, h1, h2, _, _⟩ := r.slt_of
  exact ⟨a, dx, _, e, .inr ⟨b _ _ h1, b _ _ h2⟩⟩
/-- what a call that raises nothing gives, over data -/
theorem spOf_of {K : PySem.W.Frag} {l0 : Addr} {F H : Hp} {vs : List V} {ds : List Dt} {sd : Sd} {Q : Sl → Prop} {Qc : VK} (b : Base l0 F H) (r : Dens K l0 F vs ds) (h : sd ds (fun z => Q (.dat z)) (fun _ => False)) (k : KV1 K l0 F H Q Qc) : spOf K sd vs H Qc (fun _ _ _ => False) :=
  ⟨l0, F, ds, _, _, b, r, h, fun v d F' H' g r q => k v (.dat d) F' H' g r q, fun _ _ _ _ _ _ _ q => q.elim⟩
section
variable {X : Cx} {k : Nat} {C : Addr} {sd : Sd} {m : Str}
/-! ### x op y -/
def rSltOp (K : PySem.W.Frag) (C : Addr) (sd : Sd) : R2 := fun x y H Q => (IsSl H C x ∧ IsSl H C y) ∧ spOf K sd [x, y] H Q (fun _ _ _ => False)
theorem op_slt {op : Operator} (M : MSl X.prog X.w X.K X.mg X.base k m C sd) (hr : Room k X.A) (hm : PySem.dunder op.info.2 = m := by decide +kernel) : OpR X (binaryOp op) (rSltOp X.K C sd) := by
  intro pins s σ H x y v u Q I rx ry h
  obtain ⟨⟨⟨a, dx, vs, rfl, ha⟩, ⟨b, dy, ws, rfl, hb⟩⟩, q⟩ := h
  obtain ⟨g, fd, ps, sc, sf, me, F, bd⟩ := M
  subst hm
  cases (show v = Value.ref a from rx)
  cases (show u = Value.ref b from ry)
  obtain ⟨sl, od, _, J, _⟩ := slt_inst I ha
  obtain ⟨sl', od', _, J', _⟩ := slt_inst I hb
  obtain ⟨m, hF⟩ := I.fr
  refine PySem.W.binop_K hF I.ok.mod.kin J J'.type sf me.at_ me.fn ?_
  refine wpAny_mono (run_fnS (us := [.ref a, .ref b]) (vs := [.ref a, .ref b]) (E := fun _ _ _ _ => False) F hr bd noX I (.cons rfl (.cons rfl .nil)) q) (fun w s' z => ?_) fun _ _ x => x
  obtain ⟨z', H', I', rz, qz⟩ := z
  exact cmpback rz ⟨z', H', I', rz, qz⟩
def rNo : R2 := fun _ _ _ _ => False
def dNoOp : D2 := fun _ _ _ => False
theorem op_no {f : Value → Value → Sem Value} : OpR X f rNo := fun _ _ _ _ _ _ _ _ _ _ _ _ h => h.elim
theorem sr_no {K : PySem.W.Frag} : SndR K rNo dNoOp := fun _ _ _ _ _ h => h.elim
def d2Sl (C : Addr) (sd : Sd) (r : D2) : D2 := fun x y Q => match x with
  | .dat (.slt C' d) => C' = C ∧ ∃ e, y = .dat (.slt C e) ∧ sd [.slt C d, .slt C e] (fun z => Q (.dat z)) (fun _ => False)
  | _ => r x y Q
theorem sr_slt {K : PySem.W.Frag} {r : R2} {rd : D2} (h : SndR K r rd) : SndR K (fun x y H Q => rSltOp K C sd x y H Q ∨ r x y H Q) (d2Sl C sd rd) := fun x y s t Q q l0 F H b r1 r2 Qc k => by
  unfold d2Sl at q
  split at q
  · obtain ⟨e1, e, e2, q⟩ := q
    subst e1 e2
    exact .inl ⟨⟨isSl_of b.sub r1, isSl_of b.sub r2⟩, spOf_of b (.cons r1 (.cons r2 .nil)) q k⟩
  · exact .inr (h x y s t Q q l0 F H b r1 r2 Qc k)
/-! ### ~x -/
def rSltUn (K : PySem.W.Frag) (C : Addr) (sd : Sd) : V → Hp → VK → Prop := fun x H Q => IsSl H C x ∧ spOf K sd [x] H Q (fun _ _ _ => False)
theorem un_slt (M : MSl X.prog X.w X.K X.mg X.base k "__invert__" C sd) (hr : Room k X.A) : UnR X (unaryOp .Invert) (rSltUn X.K C sd) := by
  intro pins s σ H x v Q I rx h
  obtain ⟨⟨a, dx, vs, rfl, ha⟩, q⟩ := h
  obtain ⟨g, fd, ps, sc, sf, me, F, bd⟩ := M
  cases (show v = Value.ref a from rx)
  obtain ⟨sl, od, _, J, _⟩ := slt_inst I ha
  obtain ⟨m, hF⟩ := I.fr
  exact PySem.W.ksp_inv hF I.ok.mod.kin J me.at_ me.fn (run_fnS (us := [.ref a]) (vs := [.ref a]) (E := fun _ _ _ _ => False) F hr bd noX I (.cons rfl .nil) q)
def d1Sl (C : Addr) (sd : Sd) : D1 := fun x Q => ∃ d, x = .dat (.slt C d) ∧ sd [.slt C d] (fun z => Q (.dat z)) (fun _ => False)
theorem su_slt {K : PySem.W.Frag} : SndU K (rSltUn K C sd) (d1Sl C sd) := fun x s Q q l0 F H b r1 Qc k => by
  obtain ⟨d, e, q⟩ := q
  subst e
  exact ⟨isSl_of b.sub r1, spOf_of b (.cons r1 .nil) q k⟩
/-! ### isinstance(x, D) -/
structure IsTblS (K : PySem.W.Frag) (D : Addr) (ts : List (Addr × Bool)) : Prop where
  own : ∀ r ∈ ts, (SCls K r.1 ∧ SIsi K r.1) ∧ PySem.W.kitOne K (.ref r.1) (.ref D) = some r.2
def dIsS (D : Addr) (ts tbl : List (Addr × Bool)) : DCl := fun ss Q => match ss with
  | [.dat (.slt C d), c] => c = .dat (.v (.ref D)) ∧ ∃ b, (C, b) ∈ ts ∧ Q (.dat (.v (.bl b)))
  | _ => dIsO D tbl ss Q
theorem call_isS {D : Addr} : CallR X (.builtin "isinstance") (fun xs H Q => rIsiSl X.K (.ref D) xs H Q ∨ rIsi X.K xs H Q) := CallR.or (call_isiSl (.ref D)) call_isi
theorem sc_isS {K : PySem.W.Frag} {D : Addr} {ts tbl : List (Addr × Bool)} (T : IsTblS K D ts) (T2 : IsTbl K D tbl) : SndC K (fun xs H Q => rIsiSl K (.ref D) xs H Q ∨ rIsi K xs H Q) (dIsS D ts tbl) := fun vs ss Q h l0 F H b r Qc k => by
  unfold dIsS at h
  split at h
  · obtain ⟨e, v, hm, q⟩ := h
    subst e
    cases r with
    | cons r1 r =>
      cases r with
      | cons r2 r =>
        cases r
        obtain rfl := r2.val
        obtain ⟨a, dx, x, e, h1, h2, _, _⟩ := Den.slt_of r1
        subst e
        obtain ⟨⟨c1, c2⟩, c3⟩ := T.own _ hm
        exact .inl ⟨a, _, dx, _, .ref D, v, rfl, rfl, fun w h => h, .inr ⟨b.sub _ _ h1, b.sub _ _ h2⟩, c1, c2, c3, k.here b q⟩
  · exact .inr (sc_isO T2 vs ss Q h l0 F H b r Qc k)
end
/-! ### the constructor with a default -/
section
variable {X : Cx} {W : WX} {pos : Pos}
theorem run_makeD {CX : CXT} {k : Nat} {C f : Addr} {fd : FuncData} {ps : List Str} {sp : Sp} {E : L2.St → XK} {pins : List (Addr × Obj)} {σ : L2.St} {H : Hp} {s : Shared} {Q : VK} {us ds : List Value} {vs dvs : List V} (M : Mk X.K C f) (F : FnOk X.prog X.w X.K X.mg X.base CX k f fd ps sp) (hr : Room (k + 1) X.A) (hb : Binds X.K fd ps ds) (hd : Vals dvs ds)
    (hx : PassesAt CX X σ (E σ)) (I : Inv X pins σ H s) (r : Vals vs us)
    (h : ∀ x dx, H x = none → H dx = none → dx ≠ x → sp (.ref x :: (vs ++ dvs)) (upd (upd H dx (.own x)) x (.ins C dx [])) (fun v H2 => v = .non ∧ Q (.ref x) H2) (E σ)) :
    wpAny (model X.prog X.w) X.A (call (.ref C) us) (EP X pins σ Q) X.xe s := by
  have hq := h (s.heap.objs.size + 1) s.heap.objs.size (I.hok.fresh (Nat.le_succ _)) (I.hok.fresh (Nat.le_refl _)) (Nat.ne_of_lt (Nat.lt_succ_self _))
  have I2 := Inv.made (C := C) I
  have r2 : Vals (V.ref (s.heap.objs.size + 1) :: (vs ++ dvs)) ((Value.ref (s.heap.objs.size + 1) :: us) ++ ds) := .cons rfl (r.append hd)
  have hl : ((Value.ref (s.heap.objs.size + 1) :: us) ++ ds).length = ps.length := by
    have e := r2.length
    rw [F.len _ _ _ _ hq] at e
    exact e.symm
  have b := hb _ (Value.ref (s.heap.objs.size + 1) :: us) I2.kIn hl
  refine wpAny_call (make_map (f := f) I.kIn M.makes M.init (beq_iff_eq.mp M.fn) (codeAny_mono (F.run _ X.stack _ _ ⟨Value.ref (s.heap.objs.size + 1) :: us, []⟩ ((Value.ref (s.heap.objs.size + 1) :: us) ++ ds) _ _ (E σ) (hr.make C us [])
    (I2.env0.make C us []) b r2 hq) fun r s' hq' => ?_))
  cases r with
  | error e => exact hx pins _ _ e s' I2 hq'
  | ok fl =>
    cases fl with
    | ret u =>
      obtain ⟨v, H', I3, rv, ev, q3⟩ := I2.after hq'
      subst ev
      exact ⟨rv, ⟨V.ref (s.heap.objs.size + 1), H', I3, rfl, q3⟩⟩
    | next => exact False.elim hq'
    | brk => exact False.elim hq'
    | cont => exact False.elim hq'
def tMakeD (C : Addr) (sp : Sp) (dvs : List V) (E : L2.St → XK) : TE := fun σ H Q => ∀ x dx, H x = none → H dx = none → dx ≠ x → sp (.ref x :: dvs) (upd (upd H dx (.own x)) x (.ins C dx [])) (fun v H2 => v = .non ∧ Q (.ref x) H2) (E σ)
theorem pe_makeD {CX : CXT} {k : Nat} {C f : Addr} {fd : FuncData} {ps : List Str} {sp : Sp} {E : L2.St → XK} {x : Str} {p : Pos} {dvs : List V} {ds : List Value} (M : Mk X.K C f) (F : FnOk X.prog X.w X.K X.mg X.base CX k f fd ps sp) (hr : Room (k + 1) X.A) (hg : Gl X x) (hm : X.mg x = some (.ref C)) (hb : Binds X.K fd ps ds) (hd : Vals dvs ds) (hx : ∀ σ, PassesAt CX X σ (E σ))
    (hdb : (x == ("__debug__" : Str)) = false := by decide) : PE X (.Call (.Name x p) [] [] pos) (tMakeD C sp dvs E) := by
  refine ⟨fun pins s σ H Q I h => ?_⟩
  refine wpAny_Call_Name_kw (ld_glob I hg hm ?_ hdb)
  exact PySem.W.callWith_K0 I.kIn M.kp (run_makeD (us := []) (vs := []) M F hr hb hd (hx σ) I .nil h)
/-- C() of a class with one slot: dd the defaults -/
def MakeSl0 (P : Program) (w : World) (K : PySem.W.Frag) (mg : Str → Option Value) (base : Heap) (k : Nat) (x : Str) (C : Addr) (sd : Sd) (dvs : List V) (dd : List Dt) : Prop := ∃ (f : Addr) (fd : FuncData) (ps : List Str) (ds : List Value), Mk K C f ∧ FnOk P w K mg base (L2.CX P w) k f fd ps (spInS K C sd) ∧ mg x = some (.ref C) ∧ Binds K fd ps ds ∧ Vals dvs ds ∧ ∀ l0 F, Dens K l0 F dvs dd
def dMake0 (sd : Sd) (dd : List Dt) : DE := fun ρ Q E => sd dd (fun d => Q (.dat d)) E
theorem plain_map {Q : List Dt → Prop} : ∀ {ds : List Dt}, Q ds → plain (ds.map Sl.dat) Q
  | [], q => q
  | _ :: ds, q => plain_map (ds := ds) q
theorem de_makeSl0 {k : Nat} {C : Addr} {sd : Sd} {x : Str} {p : Pos} {dvs : List V} {dd : List Dt} (M : MakeSl0 X.prog X.w X.K X.mg X.base k x C sd dvs dd) (tk : Takes X W) (hr : Room (k + 1) X.A) (hg : Gl X x) (hdb : (x == ("__debug__" : Str)) = false := by decide) :
    DEX X W (.Call (.Name x p) [] [] pos) (tMakeS C (spInS X.K C sd) (WE W) (fun σ H R => R dvs H)) (dMake0 sd dd) := by
  obtain ⟨f, fd, ps, ds, m, F, hm, hb, hd, hz⟩ := M
  refine ⟨⟨fun pins s σ H Q I h => (pe_makeD m F hr hg hm hb hd (fun σ => passAt tk σ) hdb).run pins s σ H Q I h⟩, ?_⟩
  intro ρ Q E q l0 F H σ S Qc kk kx
  exact snd_makeSl (da := fun ρ Q E => Q (dd.map Sl.dat)) (fun ρ Q E q l0 F H σ S Qc k _ => k dvs _ F H (.refl S.bs) (of_dens (hz l0 F)) q) ρ Q E (plain_map (ds := dd) q) l0 F H σ S Qc kk kx
end
end DW

set_option Elab.async false
set_option linter.all false
set_option maxRecDepth 100000
/-! DW, part 25: what the head must show of a class with one slot; its methods and constructor from their defs. -/
namespace DW
open PySem PySem.Spec PyProof.Rows L2 SlX
section
variable {K : PySem.W.Frag} {C D : Addr} {f : Str}
def slcB (K : PySem.W.Frag) (C : Addr) : Bool := He.eqO (PySem.W.findIn K (.ref C) "__getattribute__") (some (some (.builtin "object.__getattribute__"))) && (He.eqO (PySem.W.findIn K (.ref C) "__getattr__") (some none) && (PySem.W.isClsIn K C && (PySem.W.plainOver K C && (He.eqO (PySem.W.findIn K (.ref C) "__setattr__") (some (some (.builtin "object.__setattr__"))) && PySem.W.selfFirst K C))))
theorem slcB_ok (h : slcB K C = true) : SCls K C ∧ PySem.W.selfFirst K C = true := by
  obtain ⟨h1, h⟩ := He.ba h
  obtain ⟨h2, h⟩ := He.ba h
  obtain ⟨h3, h⟩ := He.ba h
  obtain ⟨h4, h⟩ := He.ba h
  obtain ⟨h5, h6⟩ := He.ba h
  refine ⟨⟨?_, h3, h4, He.eqO_ok h5⟩, h6⟩
  unfold PySem.W.plainGet
  rw [He.eqO_ok h1, He.eqO_ok h2]
  rfl
/-- where the descriptor of the slot f stands -/
def slAt (K : PySem.W.Frag) (C : Addr) (f : Str) : Addr := match PySem.W.findIn K (.ref C) f with
  | some (some (.ref p)) => p
  | _ => 0
def sl1B (K : PySem.W.Frag) (C : Addr) (f : Str) : Bool := He.eqO (PySem.W.findIn K (.ref C) f) (some (some (.ref (slAt K C f)))) && (He.eqO (PySem.W.specialIn K (.ref (slAt K C f)) "__get__") (some (some (.builtin "member_descriptor.__get__"))) && (decide (PySem.W.takesIn K (.ref (slAt K C f)) = some true) && (decide (PySem.W.typeIn K (.ref (slAt K C f)) = some (.type "member_descriptor")) && decide (PySem.W.slotIn K (slAt K C f) C = some 0))))
theorem sl1B_ok (h : sl1B K C f = true) : ∃ p, Slot1 K C f p 0 := by
  obtain ⟨h1, h⟩ := He.ba h
  obtain ⟨h2, h⟩ := He.ba h
  obtain ⟨h3, h⟩ := He.ba h
  obtain ⟨h4, h5⟩ := He.ba h
  exact ⟨slAt K C f, He.eqO_ok h1, He.eqO_ok h2, of_decide_eq_true h3, of_decide_eq_true h4, of_decide_eq_true h5, by decide⟩
theorem slOk_one (h1 : slcB K C = true) (h2 : sl1B K C f = true) : SlOk K [C] f := fun D m => by
  have e : D = C := by simpa using m
  subst e
  exact ⟨(slcB_ok h1).1, sl1B_ok h2⟩
def siB (K : PySem.W.Frag) (C : Addr) : Bool := He.eqO (PySem.W.findIn K (.ref C) "__class__") (some (some (.builtin "object.__class__"))) && (He.eqO (PySem.W.specialIn K (.builtin "object.__class__") "__get__") (some (some (.builtin "getset_descriptor.__get__"))) && (decide (PySem.W.takesIn K (.builtin "object.__class__") = some true) && decide (PySem.W.mroIn K C (.type "object") = some true)))
theorem siB_ok (h : siB K C = true) : SIsi K C := by
  obtain ⟨h1, h⟩ := He.ba h
  obtain ⟨h2, h⟩ := He.ba h
  obtain ⟨h3, h4⟩ := He.ba h
  exact ⟨He.eqO_ok h1, He.eqO_ok h2, of_decide_eq_true h3, of_decide_eq_true h4⟩
theorem isTblS_one {b : Bool} (h1 : slcB K C = true) (h2 : siB K C = true) (h3 : kitB K C (.ref D) b = true) : IsTblS K D [(C, b)] := ⟨fun r m => by
  have e : r = (C, b) := by simpa using m
  subst e
  exact ⟨⟨(slcB_ok h1).1, siB_ok h2⟩, kitB_ok h3⟩⟩
/-- an empty tuple stands at a -/
def tup0B (K : PySem.W.Frag) (a : Addr) : Bool := match K.lookup a with
  | some ⟨.type c, _, .seq its _, _⟩ => decide (c = "tuple") && decide (its.size = 0)
  | _ => false
theorem tup0B_ok {a : Addr} (h : tup0B K a = true) (l0 : Addr) (F : Hp) : Den K l0 F (.ref a) (.tup []) := by
  unfold tup0B at h
  split at h
  · rename_i c od its n osl q
    obtain ⟨h1, h2⟩ := He.ba h
    have e := of_decide_eq_true h2
    have e2 : its.toList = [] := by
      have := Array.size_eq_zero_iff.mp e
      rw [this]
    refine Den.tup (.inr ⟨_, its, n, q, congrArg Value.type (of_decide_eq_true h1), rfl, by rw [e]; exact Nat.zero_le _, by rw [e2]; exact .nil⟩) .nil
  · cases h
end
theorem MSl.mono {P : Program} {w : World} {K : PySem.W.Frag} {mg : Str → Option Value} {base : Heap} {j k : Nat} {m : Str} {C : Addr} {sd : Sd} (h : MSl P w K mg base j m C sd) (l : j ≤ k) : MSl P w K mg base k m C sd := by
  obtain ⟨g, fd, ps, a, b, c, F, d⟩ := h
  exact ⟨g, fd, ps, a, b, c, F.mono l, d⟩
theorem MakeSl.mono {P : Program} {w : World} {K : PySem.W.Frag} {mg : Str → Option Value} {base : Heap} {j k : Nat} {x : Str} {C : Addr} {sd : Sd} (h : MakeSl P w K mg base j x C sd) (l : j ≤ k) : MakeSl P w K mg base k x C sd := by
  obtain ⟨f, fd, ps, a, F, b, c⟩ := h
  exact ⟨f, fd, ps, a, F.mono l, b, c⟩
theorem MakeSl0.mono {P : Program} {w : World} {K : PySem.W.Frag} {mg : Str → Option Value} {base : Heap} {j k : Nat} {x : Str} {C : Addr} {sd : Sd} {dvs : List V} {dd : List Dt} (h : MakeSl0 P w K mg base j x C sd dvs dd) (l : j ≤ k) : MakeSl0 P w K mg base k x C sd dvs dd := by
  obtain ⟨f, fd, ps, ds, a, F, b, c⟩ := h
  exact ⟨f, fd, ps, ds, a, F.mono l, b, c⟩
theorem slnok_by {P : Program} {w : World} {K : PySem.W.Frag} {mg : Str → Option Value} {base : Heap} {x y qual : Str} {st : Stmt} {N ps : List Str} {k : Nat} {sd : Sd} {ds : DS} {dvs : List V} {C f : Addr} {fd : FuncData} (F : FunD K x qual (defArgs st) (defBody st) (defScope st) dvs [] f fd) (S : FnScope (y :: N) ps (defScope st)) (len : ∀ as Q E, sd as Q E → as.length + 1 = ps.length)
    (hb : ∀ (X : Cx) (W : WX) (f : Addr) (cdv : Value) (A : Around) (outer : List Env) (s : Shared) (H : Hp) (E : XK), X = cxOf (L2.CX P w) P w K mg base (y :: N) qual (defScope st) f cdv A outer s H E → W = WX0 E → Takes (cxOf (L2.CX P w) P w K mg base (y :: N) qual (defScope st) f cdv A outer s H E) (WX0 E) → PassesOwn (model P w) (cxOf (L2.CX P w) P w K mg base (y :: N) qual (defScope st) f cdv A outer s H E).A (cxOf (L2.CX P w) P w K mg base (y :: N) qual (defScope st) f cdv A outer s H E).env (cxOf (L2.CX P w) P w K mg base (y :: N) qual (defScope st) f cdv A outer s H E).xe →
      Room k (cxOf (L2.CX P w) P w K mg base (y :: N) qual (defScope st) f cdv A outer s H E).A → (cxOf (L2.CX P w) P w K mg base (y :: N) qual (defScope st) f cdv A outer s H E).A.units + 64 < cLine → (y :: N).Nodup →
      ∃ ts, DSSB (cxOf (L2.CX P w) P w K mg base (y :: N) qual (defScope st) f cdv A outer s H E) (WX0 E) (defBody st) ts ds)
    (hp : ∀ p as Q E, sd as Q E → ds (dEndsS p C Q E) (startI p C (y :: N).length as)) : FnOk P w K mg base (L2.CX P w) (k + 1) f fd ps (spInS K C sd) :=
  fn_dSl F S len (fun cdv A outer s H E hr => hb _ _ f cdv A outer s H E rfl rfl tk_cx po_cx hr hr.units S.nd) hp
theorem binds_of0 {K : PySem.W.Frag} {fd : FuncData} {ps : List Str} (h : ∃ ds : List Value, Vals [] ds ∧ Binds K fd ps ds) : Binds K fd ps [] := by
  obtain ⟨ds, r, b⟩ := h
  cases r
  exact b
end DW

set_option Elab.async false
set_option linter.all false
set_option maxRecDepth 100000
/-! DW, part 26: methods and properties of instances with one slot; len, in, == of them; sorted of ints. -/
namespace DW
open PySem PySem.Spec PyProof.Rows L2 SlX
section
variable {X : Cx} {W : WX} {k : Nat} {C : Addr} {sd : Sd} {m : Str} {o e : Expr} {pos apos : Pos} {xo : TE} {dob : DE}
/-! ### o.m(e, ..) -/
def tMethS (X : Cx) (C : Addr) (sd : Sd) (E : L2.St → XK) (ta : TE) (t : TA) : TE := fun σ H Q => ta σ H fun x H1 => IsSl H1 C x ∧ t σ H1 fun vs H2 => spOf X.K sd (x :: vs) H2 Q (E σ)
theorem pe_methS {es : List Expr} {ta : TE} {t : TA} {E : L2.St → XK} {pl : Sem Bool} (M : MSl X.prog X.w X.K X.mg X.base k m C sd) (he : PE X o ta) (hr : Room k X.A) (hx : ∀ σ, PassesAt (L2.CX X.prog X.w) X σ (E σ)) (ha : PA X (e :: es) t)
    (hst : starEach (e :: es) X.env = (false, eval e X.env) :: starEach es X.env := by rfl) (hpl : (backTo pos (starEach es X.env)).any (·.1) = false := by rfl)
    (ht : eval (.Call (.Attribute o m apos) (e :: es) [] pos) X.env = (do
      let ov ← eval o X.env
      standAt apos.atName
      let (f, first) ← holding [ov] (getMethod ov m pl)
      callWith pos f first (backTo pos (starEach (e :: es) X.env)) (backToKw pos (keywordEach [] X.env))) := by rfl) :
    PE X (.Call (.Attribute o m apos) (e :: es) [] pos) (tMethS X C sd E ta t) := by
  obtain ⟨g, fd, ps, sc, sf, me, F, bd⟩ := M
  refine ⟨fun pins s σ H Q I h => ?_⟩
  refine PySem.W.methodCall_KW (pl := pl) (thn (he.run pins s σ H _ I h) fun u s1 ⟨x, H1, I1, rx, ⟨a, dx, vs, ex, hsl⟩, q⟩ => ?_) ht
  subst ex
  obtain rfl : u = Value.ref a := rx
  refine getmethsl_ok I1 hsl sc me ?_
  refine PySem.W.callWith_K (first := [.ref a]) (h₀ := X.base) I.ok.mod.kin me.kp (thn (ha.run pos pins s1 σ H1 _ I1 q) fun us s2 ⟨vs, H2, I2, r, q2⟩ => ⟨I2.kIn, ?_⟩) hst hpl
  exact run_fnS (us := .ref a :: us) (vs := .ref a :: vs) F hr bd (hx σ) I2 (.cons rfl r) q2
theorem pe_methS0 {ta : TE} {E : L2.St → XK} {pl : Sem Bool} (M : MSl X.prog X.w X.K X.mg X.base k m C sd) (he : PE X o ta) (hr : Room k X.A) (hx : ∀ σ, PassesAt (L2.CX X.prog X.w) X σ (E σ))
    (ht : eval (.Call (.Attribute o m apos) [] [] pos) X.env = (do
      let ov ← eval o X.env
      standAt apos.atName
      let (f, first) ← holding [ov] (getMethod ov m pl)
      callWith pos f first (backTo pos (starEach [] X.env)) (backToKw pos (keywordEach [] X.env))) := by rfl) :
    PE X (.Call (.Attribute o m apos) [] [] pos) (tMethS X C sd E ta tNil) := by
  obtain ⟨g, fd, ps, sc, sf, me, F, bd⟩ := M
  refine ⟨fun pins s σ H Q I h => ?_⟩
  refine PySem.W.methodCall_KW (pl := pl) (thn (he.run pins s σ H _ I h) fun u s1 ⟨x, H1, I1, rx, ⟨a, dx, vs, ex, hsl⟩, q⟩ => ?_) ht
  subst ex
  obtain rfl : u = Value.ref a := rx
  refine getmethsl_ok I1 hsl sc me ?_
  exact PySem.W.callWith_K0 (first := [.ref a]) I1.kIn me.kp (run_fnS (us := [.ref a]) (vs := [.ref a]) F hr bd (hx σ) I1 (.cons rfl .nil) q)
def dMeS (C : Addr) (sd : Sd) (da : DE) (db : DA) : DE := fun ρ Q E => da ρ (fun s => ∃ d, s = .dat (.slt C d) ∧ db ρ (fun ss => plain ss fun ds => sd (.slt C d :: ds) (fun z => Q (.dat z)) E) E) E
theorem snd_meS {ta : TE} {t : TA} {da : DE} {db : DA} (sa : SndE X.K W ta da) (sb : SndA X.K W t db) : SndE X.K W (tMethS X C sd (WE W) ta t) (dMeS C sd da db) := fun ρ Q E q l0 F H σ S Qc kk kx => by
  refine sa ρ _ E q l0 F H σ S _ (fun x s F1 H1 g1 r1 q1 => ?_) kx
  obtain ⟨d, e, q2⟩ := q1
  subst e
  refine ⟨isSl_of g1.bs.sub r1, ?_⟩
  refine sb ρ _ E q2 l0 F1 H1 σ (S.go g1) _ (fun vs ss F2 H2 g2 r2 q3 => ?_) (kx.go g1)
  obtain ⟨ds, e2, q4⟩ := plain_of q3
  subst e2
  have g12 := g1.trans g2
  refine ⟨l0, F2, .slt C d :: ds, _, E, g2.bs, .cons (Den.mono g2.ex r1) (dens_of r2), q4, fun v d F' H' g r q => ?_, fun cls dct x F' H' g r q => ?_⟩
  · exact kk v (.dat d) F' H' (g12.trans g) r q
  · exact kx cls dct x F' H' (g12.trans g) r q
theorem de_meS {es : List Expr} {t : TA} {db : DA} {pl : Sem Bool} (M : MSl X.prog X.w X.K X.mg X.base k m C sd) (tk : Takes X W) (hr : Room k X.A) (ho : DEX X W o xo dob) (ha : DAX X W (e :: es) t db)
    (hst : starEach (e :: es) X.env = (false, eval e X.env) :: starEach es X.env := by rfl) (hpl : (backTo pos (starEach es X.env)).any (·.1) = false := by rfl)
    (ht : eval (.Call (.Attribute o m apos) (e :: es) [] pos) X.env = (do
      let ov ← eval o X.env
      standAt apos.atName
      let (f, first) ← holding [ov] (getMethod ov m pl)
      callWith pos f first (backTo pos (starEach (e :: es) X.env)) (backToKw pos (keywordEach [] X.env))) := by rfl) :
    DEX X W (.Call (.Attribute o m apos) (e :: es) [] pos) (tMethS X C sd (WE W) xo t) (dMeS C sd dob db) :=
  ⟨pe_methS (pl := pl) M ho.1 hr (fun σ => passAt tk σ) ha.1 hst hpl ht, snd_meS ho.2 ha.2⟩
theorem de_meS0 {pl : Sem Bool} (M : MSl X.prog X.w X.K X.mg X.base k m C sd) (tk : Takes X W) (hr : Room k X.A) (ho : DEX X W o xo dob)
    (ht : eval (.Call (.Attribute o m apos) [] [] pos) X.env = (do
      let ov ← eval o X.env
      standAt apos.atName
      let (f, first) ← holding [ov] (getMethod ov m pl)
      callWith pos f first (backTo pos (starEach [] X.env)) (backToKw pos (keywordEach [] X.env))) := by rfl) :
    DEX X W (.Call (.Attribute o m apos) [] [] pos) (tMethS X C sd (WE W) xo tNil) (dMeS C sd dob dNil) :=
  ⟨pe_methS0 (pl := pl) M ho.1 hr (fun σ => passAt tk σ) ht, snd_meS ho.2 (fun ρ Q E h l0 F H σ S Qc k _ => k [] [] F H (.refl S.bs) .nil h)⟩
/-! ### o.f, a property -/
def PrSl (P : Program) (w : World) (K : PySem.W.Frag) (mg : Str → Option Value) (base : Heap) (k : Nat) (f : Str) (C : Addr) (sd : Sd) : Prop := ∃ (p g : Addr) (fd : FuncData) (ps : List Str), SCls K C ∧ PySem.W.findIn K (.ref C) f = some (some (.ref p)) ∧ PySem.W.specialIn K (.ref p) "__get__" = some (some (.builtin "property.__get__")) ∧ PySem.W.takesIn K (.ref p) = some true ∧ (∃ rest, PySem.W.recIn K p "property" = some (.ref g :: rest)) ∧ FnOk P w K mg base (L2.CX P w) k g fd ps (spOf K sd) ∧ Binds K fd ps []
theorem raw0 {P : Program} {w : World} {K : PySem.W.Frag} {mg : Str → Option Value} {base : Heap} {CX : CXT} {k : Nat} {g : Addr} {fd : FuncData} {ps : List Str} {sp : Sp} (F : FnOk P w K mg base CX k g fd ps sp) (b : Binds K fd ps []) : FnR P w K mg base CX k g sp := (F.raw b .nil).imp fun vs H Q E h => by rw [List.append_nil]; exact h
theorem noCX {P : Program} {w : World} {out : List Env} (H : Hp) (s : Shared) (e : Value) (s' : Shared) (c : L2.CX P w out H s (fun _ _ _ => False) e s') : False := by
  obtain ⟨_, _, _, _, _, _, _, _, _, _, _, _, h⟩ := c
  exact h
def dPrS (C : Addr) (sd : Sd) (de : DE) : DE := fun ρ Q E => de ρ (fun s => ∃ d, s = .dat (.slt C d) ∧ sd [.slt C d] (fun z => Q (.dat z)) (fun _ => False)) E
theorem de_prS {f : Str} {te : TE} {de : DE} (M : PrSl X.prog X.w X.K X.mg X.base k f C sd) (hr : Room (k + 1) X.A) (he : DEX X W e te de) (hb : attributeBase e f X.env (eval e X.env) = eval e X.env := by rfl) : DEX X W (.Attribute e f pos) (tPropSl C (spOf X.K sd) (fun _ _ _ => False) te) (dPrS C sd de) := by
  obtain ⟨p, g, fd, ps, c, h1, h2, h3, h4, F, b⟩ := M
  refine ⟨pe_propSl he.1 c h1 h2 h3 h4 (raw0 F b) hr (fun H s e s' c => noCX H s e s' c) hb, fun ρ Q E q l0 F H σ S Qc kk kx => ?_⟩
  refine he.2 ρ _ E q l0 F H σ S _ (fun x s F1 H1 g1 r1 q1 => ?_) kx
  obtain ⟨d, e, q2⟩ := q1
  subst e
  have r1 : Den X.K l0 F1 x (.slt C d) := r1
  obtain ⟨a, dx, y, ev, h, h2, ne, r⟩ := r1.slt_of
  subst ev
  refine ⟨a, dx, _, rfl, .inr ⟨g1.bs.sub _ _ h, g1.bs.sub _ _ h2⟩, ?_⟩
  exact spOf_of g1.bs (.cons r1 .nil) q2 (fun v s F' H' g r q => kk v s F' H' (g1.trans g) r q)
/-! ### len(o) -/
def rLenS (K : PySem.W.Frag) (C : Addr) (sd : Sd) : List V → Hp → VK → Prop := fun xs H Q => ∃ x, xs = [x] ∧ IsSl H C x ∧ spOf K sd [x] H (fun v H' => ∃ n : Int, v = .int n ∧ 0 ≤ n ∧ n < 2 ^ 63 ∧ Q v H') (fun _ _ _ => False)
theorem call_lenSl (M : MSl X.prog X.w X.K X.mg X.base k "__len__" C sd) (hr : Room (k + 1) X.A) : CallR X (.builtin "len") (rLenS X.K C sd) := by
  intro pins s σ H xs us Q I r h
  obtain ⟨x, rfl, ⟨a, dx, vs, rfl, ha⟩, q⟩ := h
  obtain ⟨u, rfl, ru⟩ := r.one
  cases (show u = Value.ref a from ru)
  obtain ⟨g, fd, ps, sc, sf, me, F, bd⟩ := M
  obtain ⟨sl, od, _, J, _⟩ := slt_inst I ha
  obtain ⟨m, hF⟩ := I.fr
  refine PySem.W.len_K hF I.ok.mod.kin J me.at_ me.fn ?_
  refine wpAny_mono (wpAny_call (run_at (us := [.ref a]) (ws := [.ref a]) (raw0 F bd) hr.in1 I.env0.in1 (fun pins σ H s e s' I c => (noCX H s e s' c).elim) I (.cons rfl .nil) q)) (fun v s' z => ?_) fun _ _ x => x
  obtain ⟨z', H', I', rz, n, ez, h0, h1, qz⟩ := z
  subst ez
  obtain ⟨t, e⟩ := (show ∃ t, v = Value.int n t from rz)
  cases e
  exact ⟨⟨h0, h1⟩, .int n, H', I'.tok _, ⟨_, rfl⟩, qz⟩
def dLenS (C : Addr) (sd : Sd) : DCl := fun ss Q => match ss with
  | [.dat (.slt C' d)] => C' = C ∧ sd [.slt C d] (fun z => ∃ n : Int, z = .v (.int n) ∧ 0 ≤ n ∧ n < 2 ^ 63 ∧ Q (.dat z)) (fun _ => False)
  | _ => dLen ss Q
theorem sc_lenSl {K : PySem.W.Frag} {r : List V → Hp → VK → Prop} (h : SndC K r dLen) : SndC K (fun xs H Q => rLenS K C sd xs H Q ∨ r xs H Q) (dLenS C sd) := fun vs ss Q q l0 F H b rr Qc kk => by
  unfold dLenS at q
  split at q
  · obtain ⟨e1, q⟩ := q
    subst e1
    cases rr with
    | cons r1 rr =>
      cases rr
      refine .inl ⟨_, rfl, isSl_of b.sub r1, l0, F, _, _, _, b, .cons r1 .nil, q, fun v d F' H' g r q => ?_, fun _ _ _ _ _ _ _ q => q.elim⟩
      obtain ⟨n, e, h0, h1, q⟩ := q
      subst e
      have rv : v = .int n := by cases r; rfl
      exact ⟨n, rv, h0, h1, kk v (.dat (.v (.int n))) F' H' g r q⟩
  · exact .inr (h vs ss Q q l0 F H b rr Qc kk)
/-! ### x in o -/
def rInS (K : PySem.W.Frag) (C : Addr) (sd : Sd) : R2 := fun x y H Q => IsSl H C y ∧ spOf K sd [y, x] H (fun v H' => ∃ b : Bool, v = .bl b ∧ Q (.bl b) H') (fun _ _ _ => False)
theorem op_inS (M : MSl X.prog X.w X.K X.mg X.base k "__contains__" C sd) (hr : Room k X.A) : OpR X (compareOp .In) (rInS X.K C sd) := by
  intro pins s σ H x y v u Q I rx ry h
  obtain ⟨⟨b, dy, ws, rfl, hb⟩, q⟩ := h
  obtain ⟨g, fd, ps, sc, sf, me, F, bd⟩ := M
  cases (show u = Value.ref b from ry)
  obtain ⟨sl, od, _, J, _⟩ := slt_inst I hb
  obtain ⟨m, hF⟩ := I.fr
  refine PySem.W.in_K hF I.ok.mod.kin J me.at_ me.fn ?_
  refine wpAny_mono (run_fnS (us := [.ref b, v]) (vs := [.ref b, x]) (E := fun _ _ _ _ => False) F hr bd noX I (.cons rfl (.cons rx .nil)) q) (fun w s' z => ?_) fun _ _ x => x
  obtain ⟨z', H', I', rz, b', e, qz⟩ := z
  subst e
  cases (show w = Value.bool b' from rz)
  exact wpAny_of_eq (by rfl) ⟨.bl b', H', I', rfl, qz⟩
def dInS (C : Addr) (sd : Sd) (rd : D2) : D2 := fun x y Q => match y with
  | .dat (.slt C' d) => C' = C ∧ ∃ e, x = .dat e ∧ sd [.slt C d, e] (fun z => ∃ b : Bool, z = .v (.bl b) ∧ Q (.dat z)) (fun _ => False)
  | _ => rd x y Q
theorem sr_inS {K : PySem.W.Frag} {r : R2} {rd : D2} (h : SndR K r rd) : SndR K (fun x y H Q => rInS K C sd x y H Q ∨ r x y H Q) (dInS C sd rd) := fun x y s t Q q l0 F H b r1 r2 Qc kk => by
  unfold dInS at q
  split at q
  · obtain ⟨e1, e, e2, q⟩ := q
    subst e1 e2
    refine .inl ⟨isSl_of b.sub r2, l0, F, _, _, _, b, .cons r2 (.cons r1 .nil), q, fun v d F' H' g r q => ?_, fun _ _ _ _ _ _ _ q => q.elim⟩
    obtain ⟨b', e, q⟩ := q
    subst e
    have rv : v = .bl b' := by cases r; rfl
    subst rv
    exact ⟨b', rfl, kk _ (.dat (.v (.bl b'))) F' H' g r q⟩
  · exact .inr (h x y s t Q q l0 F H b r1 r2 Qc kk)
/-! ### sorted of ints -/
def dSortI : DCl
  | [.dat (.lst ds)], Q => ∃ ns : List Int, ds = ns.map Dt.int ∧ ns.length < 64 ∧ ∀ ms : List Int, ms.Perm ns → ms.Pairwise (· ≤ ·) → Q (.dat (.lst (ms.map Dt.int)))
  | _, _ => False
theorem sc_sortI {K : PySem.W.Frag} : SndC K (rSorted K) dSortI := fun vs ss Q h l0 F H b r Qc kk => by
  unfold dSortI at h
  split at h
  · obtain ⟨⟩ | ⟨r1, ⟨⟩⟩ := r
    obtain ⟨a, xs, e, z1, z2⟩ := r1.list b (.inl rfl)
    subst e
    obtain ⟨ns, e, hl, q⟩ := h
    subst e
    have e2 := z2.ints
    subst e2
    refine ⟨a, ns, rfl, z1, hl, fun ms p h1 h2 hp => ?_⟩
    have g := Go.fresh (p := p) b (.lst (ms.map V.int)) hp
    exact kk (.ref p) (.dat (.lst (ms.map Dt.int))) _ _ g (Den.lst (SqL.of upd_same) (Dens.ofInts ms)) (q ms h1 h2)
  · exact h.elim
end
/-- a, b in a comprehension -/
theorem dg_sqB {X : Cx} {s : Shared} {H : Hp} {scope : Scope} {env : Env} {fp : List Addr} {pos : Pos} {es : List Expr} {k : Nat} {g : TGs} {t : DGs} {n : Nat} {ns : List Nat} (hc : (X.blk s H scope env fp).calm = true) (h : DGsX (X.blk s H scope env fp) es ns g t) (hn : (assignEach es (X.blk s H scope env fp).env).length = n := by rfl) (hst : (assignEach es (X.blk s H scope env fp).env).findIdx? (·.1) = none := by rfl) :
    DGX (X.blk s H scope env fp) (.Tuple es k pos) ns (gSq X.K n g) (gdSq n t) := dg_sq hc h hn hst
/-- as a check: f is a property of the class C; where its getter stands -/
def prAt (K : PySem.W.Frag) (C : Addr) (f : Str) : Addr := match PySem.W.findIn K (.ref C) f with
  | some (some (.ref p)) => p
  | _ => 0
def prFn (K : PySem.W.Frag) (C : Addr) (f : Str) : Addr := match PySem.W.recIn K (prAt K C f) "property" with
  | some (.ref g :: _) => g
  | _ => 0
def prB (K : PySem.W.Frag) (C : Addr) (f : Str) : Bool := He.eqO (PySem.W.findIn K (.ref C) f) (some (some (.ref (prAt K C f)))) && (He.eqO (PySem.W.specialIn K (.ref (prAt K C f)) "__get__") (some (some (.builtin "property.__get__"))) && (decide (PySem.W.takesIn K (.ref (prAt K C f)) = some true) && (match PySem.W.recIn K (prAt K C f) "property" with
  | some (.ref _ :: _) => true
  | _ => false)))
theorem prB_ok {K : PySem.W.Frag} {C : Addr} {f : Str} (h : prB K C f = true) : ∃ p, PySem.W.findIn K (.ref C) f = some (some (.ref p)) ∧ PySem.W.specialIn K (.ref p) "__get__" = some (some (.builtin "property.__get__")) ∧ PySem.W.takesIn K (.ref p) = some true ∧ ∃ rest, PySem.W.recIn K p "property" = some (.ref (prFn K C f) :: rest) := by
  obtain ⟨h1, h⟩ := He.ba h
  obtain ⟨h2, h⟩ := He.ba h
  obtain ⟨h3, h4⟩ := He.ba h
  refine ⟨prAt K C f, He.eqO_ok h1, He.eqO_ok h2, of_decide_eq_true h3, ?_⟩
  unfold prFn
  split at h4
  · rename_i g' rest q
    rw [q]
    exact ⟨rest, rfl⟩
  · cases h4
end DW

set_option Elab.async false
set_option linter.all false
set_option maxRecDepth 100000
/-! DW, part 27: own == of instances with one slot. -/
namespace DW
open PySem PySem.Spec PyProof.Rows L2 SlX
section
variable {X : Cx} {k : Nat} {C : Addr} {sd : Sd}
theorem op_eqS (M : MSl X.prog X.w X.K X.mg X.base k "__eq__" C sd) (hr : Room k X.A) : OpR X (compareOp .Eq) (rSltOp X.K C sd) := by
  intro pins s σ H x y v u Q I rx ry h
  obtain ⟨⟨⟨a, dx, vs, rfl, ha⟩, ⟨b, dy, ws, rfl, hb⟩⟩, q⟩ := h
  obtain ⟨g, fd, ps, sc, sf, me, F, bd⟩ := M
  exact op_own (op := .Eq) (fun a b => rfl) me.at_ me.fn (raw0 F bd) hr (fun pins σ H s e s' I c => (noCX H s e s' c).elim) pins s σ H _ _ v u Q I rx ry
    ⟨a, dx, vs, b, C, dy, ws, rfl, rfl, ha, hb, by simp [PySem.W.notFirst], q⟩
end
end DW

set_option Elab.async false
set_option linter.all false
set_option maxRecDepth 100000
/-! DW, part 28: slices, fresh lists kept as own, x[i] = e, reverse, insert, texts: str, f-strings, join; own == with plain data. -/
namespace DW
open PySem PySem.Spec PyProof.Rows L2 SlX
def lstOf : Sl → Option (List Dt)
  | .dat (.lst a) => some a
  | .own a => some a
  | _ => none
theorem lstOf_is {s : Sl} {ds : List Dt} (h : lstOf s = some ds) : IsL s ds := by
  unfold lstOf at h
  split at h
  · cases h; exact .inl rfl
  · cases h; exact .inr rfl
  · cases h
/-! ### fresh lists -/
abbrev DF := En → (List Dt → Prop) → (Xn → Prop) → Prop
def SndF (K : PySem.W.Frag) (W : WX) (te : TE) (df : DF) : Prop := ∀ ρ Q E, df ρ Q E → ∀ l0 F H σ, Stt K l0 F H σ ρ → ∀ Qc : VK,
  (∀ xs ds F1 H1 p, Go l0 F H F1 H1 → Dens K l0 F1 xs ds → Q ds → H1 p = none → Qc (.ref p) (upd H1 p (.lst xs))) → KX K W l0 F H σ E → te σ H Qc
def DFX (X : Cx) (W : WX) (e : Expr) (te : TE) (df : DF) : Prop := PE X e te ∧ SndF X.K W te df
def fLst (a : DA) : DF := fun ρ Q E => a ρ (fun ss => ss.length ≤ 100000 ∧ plain ss Q) E
def fCat (a b : DE) : DF := fun ρ Q E => a ρ (fun s => b ρ (fun t => ∃ x y, lstOf s = some x ∧ lstOf t = some y ∧ x.length + y.length ≤ 100000 ∧ Q (x ++ y)) E) E
def seqDt : Sl → Option (List Dt)
  | .dat (.lst a) => some a
  | .dat (.tup a) => some a
  | .own a => some a
  | _ => none
def fList (a : DE) : DF := fun ρ Q E => a ρ (fun s => ∃ x, seqDt s = some x ∧ Q x) E
def dAddO : D2 := fun s t Q => match lstOf s, lstOf t with
  | some a, some b => a.length + b.length ≤ 100000 ∧ Q (.dat (.lst (a ++ b)))
  | _, _ => dAdd s t Q
/-! ### slices -/
abbrev DOp := En → (Option Int → Prop) → (Xn → Prop) → Prop
def oNone : DOp := fun _ Q _ => Q none
def oSome (d : DE) : DOp := fun ρ Q E => d ρ (fun s => ∃ i, s = .dat (.v (.int i)) ∧ Q (some i)) E
def cutD {α : Type} (xs : List α) (lo hi : Option Int) : List α := (xs.drop (HT.sIx xs.length 0 lo)).take (HT.sIx xs.length xs.length hi - HT.sIx xs.length 0 lo)
def SndO (K : PySem.W.Frag) (W : WX) (t : TO) (d : DOp) : Prop := ∀ ρ Q E, d ρ Q E → ∀ l0 F H σ, Stt K l0 F H σ ρ → ∀ Qc : Option Int → Hp → Prop, (∀ o F' H', Go l0 F H F' H' → Q o → Qc o H') → KX K W l0 F H σ E → t σ H Qc
def DOX (X : Cx) (W : WX) (e : Option Expr) (t : TO) (d : DOp) : Prop := PO X e t ∧ SndO X.K W t d
def cutSl (s : Sl) (lo hi : Option Int) (Q : Sl → Prop) : Prop := match lstOf s with
  | some ds => Q (.dat (.lst (cutD ds lo hi)))
  | none => ∃ z, s = .dat (.v (.str z)) ∧ z.length ≤ 100000 ∧ Q (.dat (.v (.str (cutS z lo hi))))
def dSlc (da : DE) (lo hi : DOp) : DE := fun ρ Q E => da ρ (fun s => lo ρ (fun l => hi ρ (fun u => cutSl s l u Q) E) E) E
def fSlc (da : DE) (lo hi : DOp) : DF := fun ρ Q E => da ρ (fun s => lo ρ (fun l => hi ρ (fun u => ∃ ds, lstOf s = some ds ∧ Q (cutD ds l u)) E) E) E
def rSlc (K : PySem.W.Frag) : V → Option Int → Option Int → Hp → VK → Prop := fun x lo hi H Q => rSlL K x lo hi H Q ∨ ∃ z, x = .str z ∧ z.length ≤ sizeLine ∧ Q (.str (cutS z lo hi)) H
theorem Dens.cut {K : PySem.W.Frag} {l0 : Addr} {F : Hp} : ∀ (n : Nat) {xs : List V} {ds : List Dt}, Dens K l0 F xs ds → Dens K l0 F (xs.drop n) (ds.drop n)
  | 0, _, _, r => r
  | n + 1, _, _, .nil => .nil
  | n + 1, _, _, .cons _ t => Dens.cut n t
theorem Dens.tak {K : PySem.W.Frag} {l0 : Addr} {F : Hp} : ∀ (n : Nat) {xs : List V} {ds : List Dt}, Dens K l0 F xs ds → Dens K l0 F (xs.take n) (ds.take n)
  | 0, _, _, r => .nil
  | n + 1, _, _, .nil => .nil
  | n + 1, _, _, .cons h t => .cons h (Dens.tak n t)
theorem Dens.slc {K : PySem.W.Frag} {l0 : Addr} {F : Hp} {xs : List V} {ds : List Dt} (r : Dens K l0 F xs ds) (lo hi : Option Int) : Dens K l0 F (cutV xs lo hi) (cutD ds lo hi) := by
  unfold cutV cutD
  rw [r.length]
  exact (r.cut _).tak _
section
variable {X : Cx} {W : WX} {a b e : Expr} {xa xb xe : TE} {da db de : DE} {pos p2 : Pos} {lo hi : Option Expr} {tl th : TO} {dl dh : DOp}
theorem do_none : DOX X W none tNoPart oNone := ⟨po_none, fun ρ Q E h l0 F H σ S Qc k _ => k none F H (.refl S.bs) h⟩
theorem do_some (ha : DEX X W a xa da) : DOX X W (some a) (tPart xa) (oSome da) := by
  refine ⟨po_some ha.1, fun ρ Q E h l0 F H σ S Qc k kx => ?_⟩
  refine ha.2 ρ _ E h l0 F H σ S _ (fun v s F1 H1 g1 r1 q1 => ?_) kx
  obtain ⟨i, e, q⟩ := q1
  subst e
  cases r1
  exact ⟨i, rfl, k _ F1 H1 g1 q⟩
theorem sl_both : SlR X (rSlc X.K) := SlR.or sl_list sl_str
theorem de_slc (ha : DEX X W a xa da) (hl : DOX X W lo tl dl) (hh : DOX X W hi th dh) : DEX X W (.Subscript a (.Slice lo hi none p2) pos) (tSl (rSlc X.K) xa tl th) (dSlc da dl dh) := by
  refine ⟨pe_slice sl_both ha.1 hl.1 hh.1, fun ρ Q E h l0 F H σ S Qc k kx => ?_⟩
  refine ha.2 ρ _ E h l0 F H σ S _ (fun x s F1 H1 g1 r1 q1 => ?_) kx
  refine hl.2 ρ _ E q1 l0 F1 H1 σ (S.go g1) _ (fun l F2 H2 g2 q2 => ?_) (kx.go g1)
  refine hh.2 ρ _ E q2 l0 F2 H2 σ (S.go (g1.trans g2)) _ (fun u F3 H3 g3 q3 => ?_) (kx.go (g1.trans g2))
  have r3 := (r1.go g2).go g3
  have g13 := (g1.trans g2).trans g3
  unfold cutSl at q3
  split at q3
  · rename_i ds e
    obtain ⟨p, xs, e1, z1, z2⟩ := r3.list g3.bs (lstOf_is e)
    subst e1
    refine .inl ⟨p, xs, rfl, z1, fun q hq => ?_⟩
    have g := Go.fresh (p := q) g3.bs (.lst (cutV xs l u)) hq
    exact k (.ref q) (.dat (.lst _)) _ _ (g13.trans g) (Den.lst (SqL.of upd_same) (Dens.mono g.ex (z2.slc l u))) q3
  · obtain ⟨z, e, hz, q⟩ := q3
    subst e
    obtain rfl := r3.val
    exact .inr ⟨z, rfl, Evl.sz_of hz, k _ (.dat (.v _)) F3 H3 g13 (.v _) q⟩
theorem fe_slc (ha : DEX X W a xa da) (hl : DOX X W lo tl dl) (hh : DOX X W hi th dh) : DFX X W (.Subscript a (.Slice lo hi none p2) pos) (tSl (rSlc X.K) xa tl th) (fSlc da dl dh) := by
  refine ⟨pe_slice sl_both ha.1 hl.1 hh.1, fun ρ Q E h l0 F H σ S Qc k kx => ?_⟩
  refine ha.2 ρ _ E h l0 F H σ S _ (fun x s F1 H1 g1 r1 q1 => ?_) kx
  refine hl.2 ρ _ E q1 l0 F1 H1 σ (S.go g1) _ (fun l F2 H2 g2 q2 => ?_) (kx.go g1)
  refine hh.2 ρ _ E q2 l0 F2 H2 σ (S.go (g1.trans g2)) _ (fun u F3 H3 g3 q3 => ?_) (kx.go (g1.trans g2))
  have r3 := (r1.go g2).go g3
  have g13 := (g1.trans g2).trans g3
  obtain ⟨ds, e, q⟩ := q3
  obtain ⟨p, xs, e1, z1, z2⟩ := r3.list g3.bs (lstOf_is e)
  subst e1
  exact .inl ⟨p, xs, rfl, z1, fun q' hq => k _ _ F3 H3 q' g13 (z2.slc l u) q hq⟩
theorem fe_lst {es : List Expr} {zr : TA} {dr : DA} (h : DAX X W es zr dr) : DFX X W (.List es pos) (tLst zr) (fLst dr) := by
  refine ⟨pe_lst h.1, fun ρ Q E q l0 F H σ S Qc k kx => ?_⟩
  refine h.2 ρ _ E q l0 F H σ S _ (fun xs ss F1 H1 g1 r1 q1 => ?_) kx
  obtain ⟨z, q1⟩ := q1
  obtain ⟨ds, e, q⟩ := plain_of q1
  subst e
  exact ⟨by rw [pairs_len r1]; exact Evl.sz_of z, fun l hl => k xs ds F1 H1 l g1 (dens_of r1) q hl⟩
theorem fe_cat (ha : DEX X W a xa da) (hb : DEX X W b xb db) : DFX X W (.BinOp a .Add b pos) (tOp (rAddA X.K) xa xb) (fCat da db) := by
  refine ⟨pe_op op_addA ha.1 hb.1, fun ρ Q E h l0 F H σ S Qc k kx => ?_⟩
  refine ha.2 ρ _ E h l0 F H σ S _ (fun x s F1 H1 g1 r1 q1 => ?_) kx
  refine hb.2 ρ _ E q1 l0 F1 H1 σ (S.go g1) _ (fun y t F2 H2 g2 r2 q2 => ?_) (kx.go g1)
  obtain ⟨ds, es, e1, e2, hz, q⟩ := q2
  obtain ⟨p, xs, e3, z1, z2⟩ := (r1.go g2).list g2.bs (lstOf_is e1)
  obtain ⟨p', ys, e4, z3, z4⟩ := r2.list g2.bs (lstOf_is e2)
  subst e3 e4
  exact .inr (.inl ⟨p, p', xs, ys, rfl, rfl, z1, z3, by rw [z2.length, z4.length]; exact Evl.sz_of hz, fun l hl => k _ _ F2 H2 l (g1.trans g2) (z2.append z4) q hl⟩)
theorem fe_list {p : Pos} (hg : Gl X "list") (hm : X.mg "list" = none) (ha : DEX X W a xa da) (he : starEach [a] X.env = [(false, eval a X.env)] := by rfl) :
    DFX X W (.Call (.Name "list" p) [a] [] pos) (tCB (fun xs H Q => ∃ p ys, xs = [.ref p] ∧ (SqL X.K H p ys ∨ SqT X.K H p ys) ∧ ∀ l, H l = none → Q (.ref l) (upd H l (.lst ys))) (tCons xa tNil)) (fList da) := by
  refine ⟨pe_callTy (x := "list") call_listS hg hm (by decide +kernel) (pa_cons ha.1 pa_nil he) (by decide) (by decide) he (by rfl), fun ρ Q E h l0 F H σ S Qc k kx => ?_⟩
  refine ha.2 ρ _ E h l0 F H σ S _ (fun x s F1 H1 g1 r1 q1 => ?_) kx
  obtain ⟨ds, e, q⟩ := q1
  unfold seqDt at e
  split at e
  · cases e
    obtain ⟨p, xs, e3, z1, z2⟩ := r1.list g1.bs (.inl rfl)
    subst e3
    exact ⟨p, xs, rfl, .inl z1, fun l hl => k _ _ F1 H1 l g1 z2 q hl⟩
  · cases e
    obtain ⟨p, xs, e3, z1, z2⟩ := r1.tuple g1.bs
    subst e3
    exact ⟨p, xs, rfl, .inr z1, fun l hl => k _ _ F1 H1 l g1 z2 q hl⟩
  · cases e
    obtain ⟨p, xs, e3, z1, z2⟩ := r1.list g1.bs (.inr rfl)
    subst e3
    exact ⟨p, xs, rfl, .inl z1, fun l hl => k _ _ F1 H1 l g1 z2 q hl⟩
  · cases e
theorem sr_addO {K : PySem.W.Frag} : SndR K (rAddA K) dAddO := fun x y s t Q h l0 F H b r1 r2 Qc k => by
  unfold dAddO at h
  split at h
  · rename_i ds es e1 e2
    obtain ⟨hz, q⟩ := h
    obtain ⟨p, xs, e3, z1, z2⟩ := r1.list b (lstOf_is e1)
    obtain ⟨p', ys, e4, z3, z4⟩ := r2.list b (lstOf_is e2)
    subst e3 e4
    refine .inr (.inl ⟨p, p', xs, ys, rfl, rfl, z1, z3, by rw [z2.length, z4.length]; exact Evl.sz_of hz, fun l hl => ?_⟩)
    have g := Go.fresh (p := l) b (.lst (xs ++ ys)) hl
    exact k (.ref l) (.dat (.lst _)) _ _ g (Den.lst (SqL.of upd_same) (Dens.mono g.ex (z2.append z4))) q
  · exact sr_add x y s t Q h l0 F H b r1 r2 Qc k
/-- x = a fresh list, kept as own -/
def dSetF (i : Nat) (f : DF) : DS := fun D ρ => f ρ (fun ds => D.nx (ρ.set i (.own ds))) fun x => D.ex x ρ
theorem ds_setF (i : Nat) {x : Str} {p : Pos} {df : DF} (hN : X.N.Nodup) (ha : DFX X W e xe df) (hi : X.N[i]? = some x := by rfl) (hx : Loc X.env.scope x := by first | exact .inl rfl | exact .inr rfl)
    (hf : X.fn x = true ∨ X.env.scope.names.lookup x = some .local := by first | exact .inl rfl | exact .inr rfl | assumption) (hs : swapsWithSole [.Name x p] e pos.line X.env = pure false := by rfl) (hw : swappedStores [.Name x p] e X.env = pure none := by rfl) :
    DSX X W (.Assign [.Name x p] e pos) (tAsg xe (gName i)) (dSetF i df) := by
  refine ⟨ps_asg ha.1 (pg_name hN hi hx hf) hs hw, fun D ρ h l0 F H σ S C L => ?_⟩
  refine ha.2 ρ _ _ h l0 F H σ S _ (fun xs ds F1 H1 l g1 r1 q1 hl => ?_) (L.kx S)
  exact (L.trans S.bs (.of g1) .refl).nx F1 _ _ _ (.of (Go.loose g1.bs (.lst xs) hl)) (.putOwn i hl) ((S.go g1).putOwn i hl r1) q1
/-! ### x[i] = e, x an own list -/
def dSetI (i : Nat) (de di : DE) : DS := fun D ρ => de ρ (fun s => ∃ d, s = .dat d ∧ match ρ.getD i .emp with
  | .own ds => di ρ (fun t => ∃ k j, t = .dat (.v (.int k)) ∧ ixN ds.length k = some j ∧ D.nx (ρ.set i (.own (ds.set j d)))) fun x => D.ex x ρ
  | _ => False) fun x => D.ex x ρ
theorem Dens.set {K : PySem.W.Frag} {l0 : Addr} {F : Hp} {x : V} {d : Dt} (h : Den K l0 F x d) : ∀ {xs : List V} {ds : List Dt} (j : Nat), Dens K l0 F xs ds → Dens K l0 F (xs.set j x) (ds.set j d)
  | _, _, _, .nil => .nil
  | _, _, 0, .cons _ t => .cons h t
  | _, _, j + 1, .cons g t => .cons g (Dens.set h j t)
theorem ds_setI (i : Nat) {x : Str} {p tp : Pos} {ie : Expr} {xi : TE} {di : DE} (he : DEX X W e xe de) (hx : DEX X W ie xi di) (hN : X.N[i]? = some x := by rfl) (hv : Vis X.env.scope x := by first | exact Or.inl rfl | exact Or.inr (Or.inl rfl) | exact Or.inr (Or.inr rfl)) (hd : (x == ("__debug__" : Str)) = false := by decide)
    (hcd : (x == ("__classdict__" : Str)) = false := by decide)
    (has : ∀ v, assign (.Subscript (.Name x p) ie tp) X.env v = (do
      let ov ← holding [v] (eval (.Name x p) X.env)
      let iv ← holding [v, ov] (eval ie X.env)
      standAt tp
      holding [v, ov, iv] (setItem ov iv v)
      release [v, ov, iv] []) := by intro _; rfl)
    (hs : swapsWithSole [.Subscript (.Name x p) ie tp] e pos.line X.env = pure false := by rfl) (hw : swappedStores [.Subscript (.Name x p) ie tp] e X.env = pure none := by rfl)
    (h1 : (assignEach [.Subscript (.Name x p) ie tp] X.env).map (·.2) = [assign (.Subscript (.Name x p) ie tp) X.env] := by rfl) :
    DSX X W (.Assign [.Subscript (.Name x p) ie tp] e pos) (tAsg xe (gSub (tVar i) xi rSetL)) (dSetI i de di) := by
  refine ⟨ps_asg he.1 (pg_sub (pe_var hN hv hd hcd) hx.1 set_list has) hs hw h1, fun D ρ h l0 F H σ S C L => ?_⟩
  refine he.2 ρ _ _ h l0 F H σ S _ (fun v s F1 H1 g1 r1 q1 => ?_) (L.kx S)
  obtain ⟨d, e1, q2⟩ := q1
  subst e1
  split at q2
  · rename_i ds e0
    have e1 := getD_own e0
    have S1 := S.go g1
    obtain ⟨l, xs, hσ, hF, n0, hl, r⟩ := S1.own e1
    refine ⟨.ref l, hσ, ?_⟩
    refine hx.2 ρ _ _ q2 l0 F1 H1 σ S1 _ (fun w t F2 H2 g2 r2 q3 => ?_) ((L.kx S).go g1)
    obtain ⟨k, j, e2, hj, q⟩ := q3
    subst e2
    obtain rfl := r2.val
    have S2 := S1.go g2
    obtain ⟨l', xs', hσ', hF', n0', hl', r'⟩ := S2.own e1
    have el : l' = l := by
      rw [hσ] at hσ'
      cases hσ'
      rfl
    subst el
    obtain ⟨S3, g3, w3⟩ := S2.mut (ys := xs'.set j v) (xs := xs') e1 hσ hF' n0' (Dens.set (Den.mono g2.ex r1) j r')
    refine ⟨l', xs', k, j, rfl, rfl, hl', by rw [r'.length]; exact hj, ?_⟩
    exact (L.trans S.bs (.of (g1.trans g2)) .refl).nx F2 _ σ _ g3 w3 S3 q
  · exact q2.elim
/-! ### x.reverse(), x.insert(k, e), x an own list -/
def dRev (i : Nat) : DS := fun D ρ => match ρ.getD i .emp with
  | .own ds => D.nx (ρ.set i (.own ds.reverse))
  | _ => False
theorem Dens.rev {K : PySem.W.Frag} {l0 : Addr} {F : Hp} : ∀ {xs : List V} {ds : List Dt}, Dens K l0 F xs ds → Dens K l0 F xs.reverse ds.reverse
  | _, _, .nil => .nil
  | _, _, .cons h t => by
    rw [List.reverse_cons, List.reverse_cons]
    exact (Dens.rev t).append (Dens.one h)
theorem ds_rev (i : Nat) {x : Str} {p pa pc : Pos} (hN : X.N[i]? = some x := by rfl) (hv : Vis X.env.scope x := by first | exact Or.inl rfl | exact Or.inr (Or.inl rfl) | exact Or.inr (Or.inr rfl)) (hd : (x == ("__debug__" : Str)) = false := by decide)
    (hcd : (x == ("__classdict__" : Str)) = false := by decide)
    (hbase : attributeBase (.Name x p) "reverse" X.env (eval (.Name x p) X.env) = eval (.Name x p) X.env := by rfl) (hline : (pa.endLine == pc.line) = true := by rfl)
    (hs : swapsWith (.Call (.Attribute (.Name x p) "reverse" pa) [] [] pc) none pos.line X.env = pure false := by rfl) :
    DSX X W (.Expr (.Call (.Attribute (.Name x p) "reverse" pa) [] [] pc) pos) (tDrop (tBM0 X.K "list" rReverse (tVar i))) (dRev i) := by
  refine ⟨ps_expr (pe_bm0 PySem.F.plainAttrs_list PySem.F.slot_list_reverse PySem.F.type_list_reverse mt_reverse (pe_var hN hv hd hcd) hbase hline) hs, fun D ρ h l0 F H σ S C L => ?_⟩
  unfold dRev at h
  split at h
  · rename_i ds e0
    have e1 := getD_own e0
    obtain ⟨l, xs, hσ, hF, n0, hl, r⟩ := S.own e1
    obtain ⟨S2, g2, w2⟩ := S.mut (ys := xs.reverse) (xs := xs) e1 hσ hF n0 r.rev
    exact ⟨_, hσ, .inl ⟨rfl, xs, SqL.of hl⟩, l, xs, rfl, rfl, hl, L.nx F _ σ _ g2 w2 S2 h⟩
  · exact h.elim
def dIns (i : Nat) (dk de : DE) : DS := fun D ρ => match ρ.getD i .emp with
  | .own ds => dk ρ (fun s => de ρ (fun t => ∃ k d, s = .dat (.v (.int k)) ∧ t = .dat d ∧ 0 ≤ k ∧ k ≤ 100000 ∧ ds.length ≤ 90000 ∧ D.nx (ρ.set i (.own (ds.take k.toNat ++ [d] ++ ds.drop k.toNat)))) fun x => D.ex x ρ) fun x => D.ex x ρ
  | _ => False
theorem ds_ins (i : Nat) {x : Str} {p pa pc : Pos} {ke : Expr} {xk : TE} {dk : DE} (hk : DEX X W ke xk dk) (he : DEX X W e xe de) (hN : X.N[i]? = some x := by rfl) (hv : Vis X.env.scope x := by first | exact Or.inl rfl | exact Or.inr (Or.inl rfl) | exact Or.inr (Or.inr rfl)) (hd : (x == ("__debug__" : Str)) = false := by decide)
    (hcd : (x == ("__classdict__" : Str)) = false := by decide) (hst2 : starEach (e :: []) X.env = (false, eval e X.env) :: starEach [] X.env := by rfl) (hst : starEach (ke :: [e]) X.env = (false, eval ke X.env) :: starEach [e] X.env := by rfl) (hpl : (backTo pc (starEach [e] X.env)).any (·.1) = false := by rfl)
    (hbase : attributeBase (.Name x p) "insert" X.env (eval (.Name x p) X.env) = eval (.Name x p) X.env := by rfl)
    (hfew : ((backTo pc (starEach (ke :: [e]) X.env)).all (fun x => !x.1) && (backToKw pc (keywordEach [] X.env)).all (fun x => x.1.isSome)
      && decide ((ke :: [e]).length + ([] : List Keyword).length + (if ([] : List Keyword).isEmpty then 0 else 1) < 30)) = true := by rfl) (hline : (pa.endLine == pc.line) = true := by rfl)
    (hs : swapsWith (.Call (.Attribute (.Name x p) "insert" pa) [ke, e] [] pc) none pos.line X.env = pure false := by rfl) :
    DSX X W (.Expr (.Call (.Attribute (.Name x p) "insert" pa) [ke, e] [] pc) pos) (tDrop (tBM X.K "list" (fun x vs H Q => ∃ (l : Addr) (xs : List V) (i : Int) (y : V), x = .ref l ∧ vs = [.int i, y] ∧ H l = some (.lst xs) ∧ xs.length < sizeLine ∧ 0 ≤ i ∧ i < 2 ^ 63 ∧
    Q .non (upd H l (.lst (xs.take i.toNat ++ [y] ++ xs.drop i.toNat)))) (tVar i) (tCons xk (tCons xe tNil)))) (dIns i dk de) := by
  refine ⟨ps_expr (pe_bm PySem.F.plainAttrs_list PySem.F.slot_list_insert PySem.F.type_list_insert mt_insert (pe_var hN hv hd hcd) (pa_cons hk.1 (pa_cons he.1 pa_nil hst2) hst) hbase hfew hline hst hpl) hs, fun D ρ h l0 F H σ S C L => ?_⟩
  unfold dIns at h
  split at h
  · rename_i ds e0
    have e1 := getD_own e0
    obtain ⟨l, xs, hσ, hF, n0, hl, r⟩ := S.own e1
    refine ⟨_, hσ, .inl ⟨rfl, xs, SqL.of hl⟩, ?_⟩
    refine hk.2 ρ _ _ h l0 F H σ S _ (fun v s F1 H1 g1 r1 q1 => ?_) (L.kx S)
    have S1 := S.go g1
    refine he.2 ρ _ _ q1 l0 F1 H1 σ S1 _ (fun w t F2 H2 g2 r2 q2 => ?_) ((L.kx S).go g1)
    obtain ⟨k, d, e2, e3, h0, h1, hz, q⟩ := q2
    subst e2 e3
    obtain rfl := r1.val
    have S2 := S1.go g2
    obtain ⟨l', xs', hσ', hF', n0', hl', r'⟩ := S2.own e1
    have el : l' = l := by
      rw [hσ] at hσ'
      cases hσ'
      rfl
    subst el
    obtain ⟨S3, g3, w3⟩ := S2.mut (ys := xs'.take k.toNat ++ [w] ++ xs'.drop k.toNat) (xs := xs') e1 hσ hF' n0' (((r'.tak _).append (Dens.one r2)).append (r'.cut _))
    refine ⟨l', xs', k, w, rfl, rfl, hl', by rw [r'.length]; exact Nat.lt_of_le_of_lt hz (by decide), h0, Int.lt_of_le_of_lt h1 (by decide), ?_⟩
    exact (L.trans S.bs (.of (g1.trans g2)) .refl).nx F2 _ σ _ g3 w3 S3 q
  · exact h.elim
/-! ### texts -/
def fmtS (s : Sl) (Q : Sl → Prop) : Prop := match s with
  | .dat (.v (.str y)) => y.length ≤ 100000 ∧ Q (.dat (.v (.str y)))
  | .dat (.v (.int i)) => i.natAbs.log2 < 1920 ∧ Q (.dat (.v (.str (toString i))))
  | _ => False
def dFmt (d : DE) : DE := fun ρ Q E => d ρ (fun s => fmtS s Q) E
theorem de_fmt (ha : DEX X W a xa da) : DEX X W (.FormattedValue a (-1) none pos) (tFmt xa) (dFmt da) := by
  refine ⟨pe_fmt ha.1, fun ρ Q E h l0 F H σ S Qc k kx => ?_⟩
  refine ha.2 ρ _ E h l0 F H σ S _ (fun v s F1 H1 g1 r1 q1 => ?_) kx
  dsimp only at q1
  unfold fmtS at q1
  split at q1
  · obtain rfl := r1.val
    exact .inl ⟨_, rfl, Evl.sz_of q1.1, k _ (.dat (.v _)) F1 H1 g1 (.v _) q1.2⟩
  · obtain rfl := r1.val
    exact .inr ⟨_, rfl, q1.1, k _ (.dat (.v _)) F1 H1 g1 (.v _) q1.2⟩
  · exact q1.elim
inductive DPJ (X : Cx) (W : WX) : List Expr → List TE → List DE → Prop where
  | nil : DPJ X W [] [] []
  | cons {e : Expr} {t : TE} {d : DE} {es : List Expr} {ts : List TE} {ds : List DE} (h : DEX X W e t d) (r : DPJ X W es ts ds) : DPJ X W (e :: es) (t :: ts) (d :: ds)
theorem DPJ.pj : ∀ {es : List Expr} {ts : List TE} {ds : List DE}, DPJ X W es ts ds → PJ X es ts
  | _, _, _, .nil => .nil
  | _, _, _, .cons h r => .cons h.1 r.pj
def dJs : List DE → Str → En → (Str → Prop) → (Xn → Prop) → Prop
  | [], acc, _, Q, _ => Q acc
  | d :: ds, acc, ρ, Q, E => d ρ (fun s => ∃ y, s = .dat (.v (.str y)) ∧ (acc ++ y).length ≤ 100000 ∧ dJs ds (acc ++ y) ρ Q E) E
theorem snd_js : ∀ {es : List Expr} {ts : List TE} {ds : List DE}, DPJ X W es ts ds → ∀ acc ρ Q E, dJs ds acc ρ Q E → ∀ l0 F H σ, Stt X.K l0 F H σ ρ → ∀ Qc : Str → Hp → Prop, (∀ y F' H', Go l0 F H F' H' → Q y → Qc y H') → KX X.K W l0 F H σ E → tJs ts acc σ H Qc
  | _, _, _, .nil, acc, ρ, Q, E, h, l0, F, H, σ, S, Qc, k, kx => k acc F H (.refl S.bs) h
  | _, _, _, .cons hd r, acc, ρ, Q, E, h, l0, F, H, σ, S, Qc, k, kx => by
    refine hd.2 ρ _ E h l0 F H σ S _ (fun v s F1 H1 g1 r1 q1 => ?_) kx
    obtain ⟨y, e, hz, q⟩ := q1
    subst e
    obtain rfl := r1.val
    exact ⟨y, rfl, Evl.sz_of hz, snd_js r _ ρ Q E q l0 F1 H1 σ (S.go g1) Qc (fun y F' H' g q => k y F' H' (g1.trans g) q) (kx.go g1)⟩
def dFs (ds : List DE) : DE := fun ρ Q E => dJs ds Str.empty ρ (fun y => Q (.dat (.v (.str y)))) E
theorem de_fs {v1 v2 : Expr} {rest : List Expr} {ts : List TE} {ds : List DE} (h : DPJ X W (v1 :: v2 :: rest) ts ds) : DEX X W (.JoinedStr (v1 :: v2 :: rest) pos) (fun σ H Q => tJs ts Str.empty σ H fun out H1 => Q (.str out) H1) (dFs ds) := by
  refine ⟨pe_joined h.pj, fun ρ Q E q l0 F H σ S Qc k kx => ?_⟩
  exact snd_js h _ ρ _ E q l0 F H σ S _ (fun y F' H' g q => k _ (.dat (.v _)) F' H' g (.v _) q) kx
def dJoin (do_ de : DE) : DE := fun ρ Q E => do_ ρ (fun s => ∃ a, s = .dat (.v (.str a)) ∧ de ρ (fun t => ∃ ys : List Str, lstOf t = some (ys.map Dt.str) ∧ (ys.map (·.length)).sum + ys.length * a.length ≤ 100000 ∧ Q (.dat (.v (.str (Txt.join a ys))))) E) E
theorem dens_strs {K : PySem.W.Frag} {l0 : Addr} {F : Hp} : ∀ {xs : List V} {ys : List Str}, Dens K l0 F xs (ys.map Dt.str) → xs = ys.map V.str
  | _, [], .nil => rfl
  | _, y :: ys, .cons (.v _) t => by rw [dens_strs t]; rfl
theorem de_join {apos : Pos} (ha : DEX X W a xa da) (hb : DEX X W b xb db) (hs : starEach [b] X.env = [(false, eval b X.env)] := by rfl) (hbase : attributeBase a "join" X.env (eval a X.env) = eval a X.env := by rfl) (hline : (apos.endLine == pos.line) = true := by rfl) :
    DEX X W (.Call (.Attribute a "join" apos) [b] [] pos) (tM1 (fun x xs H Q => ∃ a p, ∃ ys : List Str, x = .str a ∧ xs = [.ref p] ∧ (SqL X.K H p (ys.map V.str) ∨ SqT X.K H p (ys.map V.str)) ∧ (ys.map (·.length)).sum + ys.length * a.length ≤ 16777216 ∧ Q (.str (Txt.join a ys)) H) xa xb) (dJoin da db) := by
  refine ⟨pe_join ha.1 hb.1 hs hbase hline, fun ρ Q E h l0 F H σ S Qc k kx => ?_⟩
  refine ha.2 ρ _ E h l0 F H σ S _ (fun x s F1 H1 g1 r1 q1 => ?_) kx
  obtain ⟨z, e, q1⟩ := q1
  subst e
  obtain rfl := r1.val
  refine ⟨⟨z, rfl⟩, ?_⟩
  refine hb.2 ρ _ E q1 l0 F1 H1 σ (S.go g1) _ (fun y t F2 H2 g2 r2 q2 => ?_) (kx.go g1)
  obtain ⟨ys, e, hz, q⟩ := q2
  obtain ⟨p, xs, e3, z1, z2⟩ := r2.list g2.bs (lstOf_is e)
  subst e3
  rw [dens_strs z2] at z1
  exact ⟨z, p, ys, rfl, rfl, .inl z1, Nat.le_trans hz (by decide), k _ (.dat (.v _)) F2 H2 (g1.trans g2) (.v _) q⟩
/-! ### str(n), str(o) -/
def dStr : DCl
  | [.dat (.v (.int i))], Q => i.natAbs.log2 < 1920 ∧ Q (.dat (.v (.str (toString i))))
  | _, _ => False
def rStrI : List V → Hp → VK → Prop := fun xs H Q => ∃ i, xs = [.int i] ∧ i.natAbs.log2 < 1920 ∧ Q (.str (toString i)) H
theorem call_strI : CallR X (.type "str") rStrI := call_str_int
theorem sc_str {K : PySem.W.Frag} : SndC K rStrI dStr := fun vs ss Q h l0 F H b r Qc k => by
  unfold dStr at h
  split at h
  · obtain ⟨⟩ | ⟨r1, ⟨⟩⟩ := r
    cases r1
    exact ⟨_, rfl, h.1, k.here b h.2⟩
  · exact h.elim
variable {k : Nat} {C : Addr} {sd : Sd}
def rStrS (K : PySem.W.Frag) (C : Addr) (sd : Sd) : List V → Hp → VK → Prop := fun xs H Q => ∃ x, xs = [x] ∧ IsSl H C x ∧ spOf K sd [x] H (fun v H' => ∃ y, v = .str y ∧ Q v H') (fun _ _ _ => False)
theorem call_strSl (M : MSl X.prog X.w X.K X.mg X.base k "__str__" C sd) (hr : Room (k + 2) X.A) : CallR X (.type "str") (rStrS X.K C sd) := by
  intro pins s σ H xs us Q I r h
  obtain ⟨x, rfl, ⟨a, dx, vs, rfl, ha⟩, q⟩ := h
  obtain ⟨u, rfl, ru⟩ := r.one
  cases (show u = Value.ref a from ru)
  obtain ⟨g, fd, ps, sc, sf, me, F, bd⟩ := M
  obtain ⟨sl, od, _, J, _⟩ := slt_inst I ha
  have hr2 : Room k X.A.in1.in1 := (show Room (k + 1) X.A.in1 from Room.in1 hr).in1
  refine PySem.W.kso_call hr2.units0 I.kIn J me.at_ me.fn ?_
  refine wpAny_mono (wpAny_call (run_at (us := [.ref a]) (ws := [.ref a]) (raw0 F bd) hr2 I.env0.in1.in1 (fun pins σ H s e s' I c => (noCX H s e s' c).elim) I (.cons rfl .nil) q)) (fun w s' z => ?_) fun _ _ x => x
  obtain ⟨z', H', I', rz, y, ez, qz⟩ := z
  subst ez
  obtain ⟨t, e⟩ := (show ∃ t, w = Value.str y t from rz)
  cases e
  exact ⟨.str y, H', I', ⟨t, rfl⟩, qz⟩
def dStrS (C : Addr) (sd : Sd) : DCl := fun ss Q => match ss with
  | [.dat (.slt C' d)] => C' = C ∧ sd [.slt C d] (fun z => ∃ y : Str, z = .v (.str y) ∧ Q (.dat z)) (fun _ => False)
  | _ => dStr ss Q
theorem sc_strSl {K : PySem.W.Frag} {r : List V → Hp → VK → Prop} (h : SndC K r dStr) : SndC K (fun xs H Q => rStrS K C sd xs H Q ∨ r xs H Q) (dStrS C sd) := fun vs ss Q q l0 F H b rr Qc kk => by
  unfold dStrS at q
  split at q
  · obtain ⟨e1, q⟩ := q
    subst e1
    cases rr with
    | cons r1 rr =>
      cases rr
      refine .inl ⟨_, rfl, isSl_of b.sub r1, l0, F, _, _, _, b, .cons r1 .nil, q, fun v d F' H' g r q => ?_, fun _ _ _ _ _ _ _ q => q.elim⟩
      obtain ⟨n, e, q⟩ := q
      subst e
      have rv : v = .str n := by cases r; rfl
      exact ⟨n, rv, kk v (.dat (.v (.str n))) F' H' g r q⟩
  · exact .inr (h vs ss Q q l0 F H b rr Qc kk)
/-! ### own == with plain data -/
def rSltEqP (K : PySem.W.Frag) (C : Addr) (sd : Sd) : R2 := fun x y H Q => IsSl H C x ∧ (∃ t : Ty6, TyX K H y (.type t.nm)) ∧ spOf K sd [x, y] H Q (fun _ _ _ => False)
theorem notFirst_ty {K : PySem.W.Frag} {C : Addr} (t : Ty6) : PySem.W.notFirst K C (.type t.nm) = true := by
  unfold PySem.W.notFirst PySem.W.subIn
  cases t <;> rfl
theorem op_eqP (M : MSl X.prog X.w X.K X.mg X.base k "__eq__" C sd) (hr : Room k X.A) : OpR X (compareOp .Eq) (rSltEqP X.K C sd) := by
  intro pins s σ H x y v u Q I rx ry h
  obtain ⟨⟨a, dx, vs, rfl, ha⟩, ⟨t, ty⟩, q⟩ := h
  obtain ⟨g, fd, ps, sc, sf, me, F, bd⟩ := M
  cases (show v = Value.ref a from rx)
  obtain ⟨sl, od, _, J, _⟩ := slt_inst I ha
  obtain ⟨m, hF⟩ := I.fr
  obtain ⟨P, Z, p, _⟩ := kit_of I ry ty
  show wpAny _ _ (richCompare .Eq (.ref a) u) _ _ _
  refine PySem.W.cmp_K (op := .Eq) (tb := .type t.nm) hr.units0 hF I.ok.mod.kin J (Z.ty _ _ I.kIn p) (notFirst_ty t) me.at_ me.fn ?_
  refine wpAny_mono (run_fnS (us := [.ref a, u]) (vs := [.ref a, y]) (E := fun _ _ _ _ => False) F hr bd noX I (.cons rfl (.cons ry .nil)) q) (fun w s' z => ?_) fun _ _ x => x
  obtain ⟨z', H', I', rz, qz⟩ := z
  exact cmpback rz ⟨z', H', I', rz, qz⟩
def d2Eq (C : Addr) (sd : Sd) (r : D2) : D2 := fun x y Q => match x with
  | .dat (.slt C' d) => C' = C ∧ ∃ e, y = .dat e ∧ ((∃ e', e = .slt C e') ∨ (tyD (.dat e)).isSome = true) ∧ sd [.slt C d, e] (fun z => Q (.dat z)) (fun _ => False)
  | _ => r x y Q
theorem sr_sltE {K : PySem.W.Frag} {r : R2} {rd : D2} (h : SndR K r rd) : SndR K (fun x y H Q => rSltOp K C sd x y H Q ∨ rSltEqP K C sd x y H Q ∨ r x y H Q) (d2Eq C sd rd) := fun x y s t Q q l0 F H b r1 r2 Qc k => by
  unfold d2Eq at q
  split at q
  · obtain ⟨e1, e, e2, c, q⟩ := q
    subst e1 e2
    rcases c with ⟨e', e3⟩ | c
    · subst e3
      exact .inl ⟨⟨isSl_of b.sub r1, isSl_of b.sub r2⟩, spOf_of b (.cons r1 (.cons r2 .nil)) q k⟩
    · obtain ⟨t, ht⟩ := Option.isSome_iff_exists.mp c
      exact .inr (.inl ⟨isSl_of b.sub r1, ⟨t, tyX_of b r2 ht⟩, spOf_of b (.cons r1 (.cons r2 .nil)) q k⟩)
  · exact .inr (.inr (h x y s t Q q l0 F H b r1 r2 Qc k))
end
end DW

set_option Elab.async false
set_option linter.all false
set_option maxRecDepth 100000
/-! DW, part 29: defs with a star parameter, static methods, constants of a class. -/
namespace DW
open PySem PySem.Spec PyProof.Rows L2 ClX StX
/-! ### def f(*v) -/
def FnkR (P : Program) (w : World) (K : PySem.W.Frag) (mg : Str → Option Value) (base : Heap) (x : Str) (k : Nat) (sd : Sd) : Prop :=
  ∃ f, mg x = some (.ref f) ∧ PySem.W.keepIn K (.ref f) = true ∧ FnR P w K mg base (L2.CX P w) k f (spOf K sd)
/-- what such a def asks, by the one tuple that its body sees -/
def sdStar (n : Nat) (sd : Sd) : Sd := fun as Q E => ∃ ws rs, as = ws ++ rs ∧ ws.length = n ∧ rs.length ≤ 100000 ∧ sd (ws ++ [.tup rs]) Q E
theorem Dens.split {K : PySem.W.Frag} {l0 : Addr} {F : Hp} : ∀ {ws rs : List Dt} {vs : List V}, Dens K l0 F vs (ws ++ rs) → ∃ us ts, vs = us ++ ts ∧ Dens K l0 F us ws ∧ Dens K l0 F ts rs
  | [], rs, vs, r => ⟨[], vs, rfl, .nil, r⟩
  | w :: ws, rs, _, .cons h t => by
    obtain ⟨us, ts, e, r1, r2⟩ := Dens.split t
    exact ⟨_ :: us, ts, by rw [e]; rfl, .cons h r1, r2⟩
theorem sp_star {K : PySem.W.Frag} {n : Nat} {sd : Sd} {vs : List V} {H : Hp} {Q : VK} {E : XK} (h : spOf K (sdStar n sd) vs H Q E) :
    ∃ ws rest, vs = ws ++ rest ∧ ws.length = n ∧ rest.length ≤ sizeLine ∧ ∀ p, H p = Option.none → spOf K sd (ws ++ [V.ref p]) (upd H p (.tup rest)) Q E := by
  obtain ⟨l0, F, ds, Qd, Ed, b, r, ⟨ws, rs, e, hl, hz, q⟩, hq, he⟩ := h
  subst e
  obtain ⟨us, ts, e, r1, r2⟩ := r.split
  subst e
  refine ⟨us, ts, rfl, by rw [r1.length]; exact hl, by rw [r2.length]; exact Evl.sz_of hz, fun p hp => ?_⟩
  have g := Go.fresh (p := p) b (.tup ts) hp
  refine ⟨l0, _, _, Qd, Ed, g.bs, (Dens.mono g.ex r1).append (Dens.one (Den.tup (SqT.of upd_same) (Dens.mono g.ex r2))), q, fun v d F' H' g2 rd q => hq v d F' H' (g.trans g2) rd q, fun cls dct x F' H' g2 rd q => he cls dct x F' H' (g.trans g2) rd q⟩
theorem fnr_star {P : Program} {w : World} {K : PySem.W.Frag} {mg : Str → Option Value} {base : Heap} {x qual : Str} {params : Arguments} {body : List Stmt} {scope : Scope} {f : Addr} {fd : FuncData} {N ps : List Str} {pv : Str} {k : Nat} {sd : Sd} {ds : DS}
    (F : FunD K x qual params body scope [] [] f fd) (S : FnScope N (ps ++ [pv]) scope)
    (hbd : ∀ (kV doc pm : Value) (an : Option Addr) (cdv ct : Value) (us rest : List Value), us.length = ps.length → bindArgs (PySem.W.fnOf x qual params body scope .none kV doc pm an cdv ct) ⟨us ++ rest, []⟩ = (newTuple rest >>= fun t => pure (ps.zip us ++ [(pv, t)])))
    (hb : ∀ (X : Cx) (W : WX) (f : Addr) (cdv : Value) (A : Around) (outer : List Env) (s : Shared) (H : Hp) (E : XK), X = cxOf (L2.CX P w) P w K mg base N qual scope f cdv A outer s H E → W = WX0 E → Takes (cxOf (L2.CX P w) P w K mg base N qual scope f cdv A outer s H E) (WX0 E) →
      PassesOwn (model P w) (cxOf (L2.CX P w) P w K mg base N qual scope f cdv A outer s H E).A (cxOf (L2.CX P w) P w K mg base N qual scope f cdv A outer s H E).env (cxOf (L2.CX P w) P w K mg base N qual scope f cdv A outer s H E).xe →
      Room k (cxOf (L2.CX P w) P w K mg base N qual scope f cdv A outer s H E).A → (cxOf (L2.CX P w) P w K mg base N qual scope f cdv A outer s H E).A.units + 64 < cLine → N.Nodup →
      ∃ ts, DSSX (cxOf (L2.CX P w) P w K mg base N qual scope f cdv A outer s H E) (WX0 E) body ts ds)
    (hp : ∀ as Q E, sd as Q E → ds (dEnds Q E) (startD N.length as)) : FnR P w K mg base (L2.CX P w) (k + 1) f (spOf K (sdStar ps.length sd)) := by
  obtain ⟨oc, od, dV, kV, doc, pm, an, cdv, ct, osl, rfl, lk, hcd, hD, _⟩ := F.ex
  obtain rfl : dV = .none := by
    rcases hD with ⟨_, e⟩ | ⟨e, _⟩
    · exact e
    · exact absurd rfl e
  refine FnR.imp (fn_star (sp := spOf K sd) lk hcd S cxUp (fun us rest hl => hbd kV doc pm an cdv ct us rest hl) (fun A outer s H vs Q E hr h => ?_)) fun vs H Q E h => sp_star h
  obtain ⟨l0, F, as, Qd, Ed, b, r, h, hq, he⟩ := h
  obtain ⟨ts, p, sd⟩ := hb _ _ f cdv A outer s H E rfl rfl tk_cx po_cx hr hr.units S.nd
  refine ⟨ts, p, sd _ _ (hp as Qd Ed h) l0 F H _ (Stt.start b r) _ ⟨fun F' H' σ' ρ' g w S' q => ?_, fun F' H' v d g r q => ?_, fun F' H' σ' ρ' g w S' q => q.elim, fun F' H' σ' ρ' g w S' q => q.elim, fun cls d x F' H' σ' ρ' g w S' r q => ?_, fun F' H' σ' ρ' v d g w S' r q => q.elim⟩⟩
  · exact hq .non .non F' H' (g.go start_noOw) (.v _) q
  · exact hq v d F' H' (g.go start_noOw) r q
  · exact he cls d x F' H' (g.go start_noOw) r q
theorem fnkr_by {P : Program} {w : World} {K : PySem.W.Frag} {mg : Str → Option Value} {base : Heap} {x : Str} {st : Stmt} {N ps : List Str} {pv : Str} {k : Nat} {sd : Sd} {ds : DS}
    (D : DefAt K mg x st) (S : FnScope N (ps ++ [pv]) (defScope st))
    (hbd : ∀ (kV doc pm : Value) (an : Option Addr) (cdv ct : Value) (us rest : List Value), us.length = ps.length → bindArgs (PySem.W.fnOf x x (defArgs st) (defBody st) (defScope st) .none kV doc pm an cdv ct) ⟨us ++ rest, []⟩ = (newTuple rest >>= fun t => pure (ps.zip us ++ [(pv, t)])))
    (hb : ∀ (X : Cx) (W : WX) (f : Addr) (cdv : Value) (A : Around) (outer : List Env) (s : Shared) (H : Hp) (E : XK), X = cxOf (L2.CX P w) P w K mg base N x (defScope st) f cdv A outer s H E → W = WX0 E → Takes (cxOf (L2.CX P w) P w K mg base N x (defScope st) f cdv A outer s H E) (WX0 E) →
      PassesOwn (model P w) (cxOf (L2.CX P w) P w K mg base N x (defScope st) f cdv A outer s H E).A (cxOf (L2.CX P w) P w K mg base N x (defScope st) f cdv A outer s H E).env (cxOf (L2.CX P w) P w K mg base N x (defScope st) f cdv A outer s H E).xe →
      Room k (cxOf (L2.CX P w) P w K mg base N x (defScope st) f cdv A outer s H E).A → (cxOf (L2.CX P w) P w K mg base N x (defScope st) f cdv A outer s H E).A.units + 64 < cLine → N.Nodup →
      ∃ ts, DSSX (cxOf (L2.CX P w) P w K mg base N x (defScope st) f cdv A outer s H E) (WX0 E) (defBody st) ts ds)
    (hp : ∀ as Q E, sd as Q E → ds (dEnds Q E) (startD N.length as)) : FnkR P w K mg base x (k + 1) (sdStar ps.length sd) := by
  obtain ⟨f, fd, h1, F⟩ := D
  exact ⟨f, h1, F.kp, fnr_star F S hbd hb hp⟩
section
variable {X : Cx} {W : WX} {k : Nat} {sd : Sd} {x : Str} {p pos apos : Pos} {e : Expr} {es : List Expr} {zr : TA} {dr : DA} {f : Addr} {sp : Sp} {σ : L2.St} {H : Hp} {s : Shared} {Q : VK} {E : XK}
theorem run_fnRS {pins : List (Addr × Obj)} {us : List Value} {vs : List V} (F : FnR X.prog X.w X.K X.mg X.base (L2.CX X.prog X.w) k f sp) (hr : Room k X.A) (hx : PassesAt (L2.CX X.prog X.w) X σ E) (I : Inv X pins σ H s) (r : Vals vs us) (h : sp vs H Q E) :
    wpAny (model X.prog X.w) X.A (call (.ref f) us) (EP X pins σ Q) X.xe s := by
  refine wpAny_call (codeAny_mono (F X.A X.stack s H us vs Q E hr I.env0 r h) fun r s' hq => ?_)
  cases r with
  | error e => exact hx pins H s e s' I hq
  | ok fl =>
    cases fl with
    | ret u => exact I.after hq
    | next => exact False.elim hq
    | brk => exact False.elim hq
    | cont => exact False.elim hq
theorem de_callR (C : FnkR X.prog X.w X.K X.mg X.base x k sd) (tk : Takes X W) (hr : Room k X.A) (hg : Gl X x) (ha : DAX X W (e :: es) zr dr) (hdb : (x == ("__debug__" : Str)) = false := by decide)
    (he : starEach (e :: es) X.env = (false, eval e X.env) :: starEach es X.env := by rfl) (hpl : (backTo pos (starEach es X.env)).any (·.1) = false := by rfl) :
    DEX X W (.Call (.Name x p) (e :: es) [] pos) (tCallSD (spOf X.K sd) [] (WE W) zr) (dCall sd [] dr) := by
  obtain ⟨f, hm, hk, F⟩ := C
  refine ⟨⟨fun pins s σ H Q I h => ?_⟩, snd_call dd_nil ha.2⟩
  refine wpAny_Call_Name_kw (ld_glob I hg hm ?_ hdb)
  refine PySem.W.callWith_K (h₀ := X.base) I.ok.mod.kin hk (thn (ha.1.run pos pins s σ H _ I h) fun us s1 ⟨vs, H1, I1, r, q⟩ => ⟨I1.kIn, ?_⟩) he hpl
  exact run_fnRS F hr (passAt tk σ) I1 r (by rw [← List.append_nil vs]; exact q)
theorem de_callR0 (C : FnkR X.prog X.w X.K X.mg X.base x k sd) (tk : Takes X W) (hr : Room k X.A) (hg : Gl X x) (hdb : (x == ("__debug__" : Str)) = false := by decide) :
    DEX X W (.Call (.Name x p) [] [] pos) (tCallSD (spOf X.K sd) [] (WE W) tNil) (dCall sd [] dNil) := by
  obtain ⟨f, hm, hk, F⟩ := C
  refine ⟨⟨fun pins s σ H Q I h => ?_⟩, snd_call dd_nil (fun ρ Q E h l0 F H σ S Qc k _ => k [] [] F H (.refl S.bs) .nil h)⟩
  refine wpAny_Call_Name_kw (ld_glob I hg hm ?_ hdb)
  exact PySem.W.callWith_K0 I.kIn hk (run_fnRS (us := []) F hr (passAt tk σ) I .nil h)
end
/-! ### C.m(..), m a static method -/
def smAt (K : PySem.W.Frag) (C : Addr) (m : Str) : Addr := match PySem.W.findIn K (.ref C) m with
  | some (some (.ref p)) => p
  | _ => 0
def smFn (K : PySem.W.Frag) (C : Addr) (m : Str) : Addr := match PySem.W.recIn K (smAt K C m) "staticmethod" with
  | some (.ref g :: _) => g
  | _ => 0
def isGet (p C : Addr) : Option PySem.W.CFound → Bool
  | some (.get (.builtin b) (.ref q) .none (.ref D)) => decide (b = "staticmethod.__get__") && (decide (q = p) && decide (D = C))
  | _ => false
theorem isGet_ok {p C : Addr} {o : Option PySem.W.CFound} (h : isGet p C o = true) : o = some (.get (.builtin "staticmethod.__get__") (.ref p) .none (.ref C)) := by
  unfold isGet at h
  split at h
  · obtain ⟨h1, h⟩ := He.ba h
    obtain ⟨h2, h3⟩ := He.ba h
    have h1 := of_decide_eq_true h1
    have h2 := of_decide_eq_true h2
    have h3 := of_decide_eq_true h3
    subst h1 h2 h3
    rfl
  · cases h
def crdB (K : PySem.W.Frag) (C : Addr) : Bool := PySem.W.readsIn K C (.type "type") && He.eqO (PySem.W.specialIn K (.ref C) "__getattribute__") (some (some (.builtin "type.__getattribute__")))
theorem crdB_ok {K : PySem.W.Frag} {C : Addr} (h : crdB K C = true) : CRead K C (.type "type") := by
  obtain ⟨h1, h2⟩ := He.ba h
  exact ⟨h1, He.eqO_ok h2⟩
def smB (K : PySem.W.Frag) (C : Addr) (m : Str) : Bool := crdB K C && (isGet (smAt K C m) C (PySem.W.findCls K (.ref C) (.type "type") m) && (match PySem.W.recIn K (smAt K C m) "staticmethod" with
  | some (.ref _ :: _) => true
  | _ => false))
def Stat (P : Program) (w : World) (K : PySem.W.Frag) (mg : Str → Option Value) (base : Heap) (k : Nat) (m : Str) (C : Addr) (sd : Sd) (dvs : List V) (dd : List Dt) : Prop := ∃ (p g : Addr) (fd : FuncData) (ps : List Str) (ds : List Value), CRead K C (.type "type") ∧
  PySem.W.findCls K (.ref C) (.type "type") m = some (.get (.builtin "staticmethod.__get__") (.ref p) .none (.ref C)) ∧ (∃ rest, PySem.W.recIn K p "staticmethod" = some (.ref g :: rest)) ∧ PySem.W.keepIn K (.ref g) = true ∧
  FnOk P w K mg base (L2.CX P w) k g fd ps (spOf K sd) ∧ Binds K fd ps ds ∧ Vals dvs ds ∧ ∀ l0 F, Dens K l0 F dvs dd
theorem smB_ok {K : PySem.W.Frag} {C : Addr} {m : Str} (h : smB K C m = true) : CRead K C (.type "type") ∧ PySem.W.findCls K (.ref C) (.type "type") m = some (.get (.builtin "staticmethod.__get__") (.ref (smAt K C m)) .none (.ref C)) ∧ ∃ rest, PySem.W.recIn K (smAt K C m) "staticmethod" = some (.ref (smFn K C m) :: rest) := by
  obtain ⟨h1, h⟩ := He.ba h
  obtain ⟨h2, h3⟩ := He.ba h
  refine ⟨crdB_ok h1, isGet_ok h2, ?_⟩
  unfold smFn
  split at h3
  · rename_i g' rest q
    rw [q]
    exact ⟨rest, rfl⟩
  · cases h3
section
variable {X : Cx} {W : WX} {k : Nat} {sd : Sd} {x m : Str} {p pos apos : Pos} {e : Expr} {es : List Expr} {zr : TA} {dr : DA} {C : Addr} {dvs : List V} {dd : List Dt}
theorem getmethsm_ok {pins : List (Addr × Obj)} {σ : L2.St} {H : Hp} {s : Shared} {p g : Addr} {A : Around} {E : Value → Shared → Prop} {pl : Sem Bool} {Q : Value × List Value → Shared → Prop} (I : Inv X pins σ H s) (r : CRead X.K C (.type "type"))
    (hat : PySem.W.findCls X.K (.ref C) (.type "type") m = some (.get (.builtin "staticmethod.__get__") (.ref p) .none (.ref C))) (rc : ∃ rest, PySem.W.recIn X.K p "staticmethod" = some (.ref g :: rest))
    (h : ∀ s', Inv X pins σ H s' → Q (.ref g, []) s') : wpAny (model X.prog X.w) A (getMethod (.ref C) m pl) Q E s := by
  obtain ⟨rest, hp⟩ := rc
  refine PySem.W.method_cls I.kIn r.ga (PySem.W.cls_bind I.kIn r.rd hat ?_)
  exact wpAny_call (PySem.W.sm_get (s := { s with toks := s.toks + 1 }) I.kIn hp (PySem.W.handed_on rfl (h _ (I.tok _))))
theorem de_stat {pl : Sem Bool} (M : Stat X.prog X.w X.K X.mg X.base k m C sd dvs dd) (tk : Takes X W) (hr : Room k X.A) (hg : Gl X x) (hm : X.mg x = some (.ref C)) (ha : DAX X W (e :: es) zr dr) (hdb : (x == ("__debug__" : Str)) = false := by decide)
    (hst : starEach (e :: es) X.env = (false, eval e X.env) :: starEach es X.env := by rfl) (hpl : (backTo pos (starEach es X.env)).any (·.1) = false := by rfl)
    (ht : eval (.Call (.Attribute (.Name x p) m apos) (e :: es) [] pos) X.env = (do
      let ov ← eval (.Name x p) X.env
      standAt apos.atName
      let (f, first) ← holding [ov] (getMethod ov m pl)
      callWith pos f first (backTo pos (starEach (e :: es) X.env)) (backToKw pos (keywordEach [] X.env))) := by rfl) :
    DEX X W (.Call (.Attribute (.Name x p) m apos) (e :: es) [] pos) (tCallSD (spOf X.K sd) dvs (WE W) zr) (dCall sd dd dr) := by
  obtain ⟨q, g, fd, ps, ds, r, hat, rc, hk, F, bd, hd, hdd⟩ := M
  refine ⟨⟨fun pins s σ H Q I h => ?_⟩, snd_call hdd ha.2⟩
  have he : PE X (.Name x p) (tC (.ref C)) := pe_glob hg hm rfl hdb
  refine PySem.W.methodCall_KW (pl := pl) (thn (he.run pins s σ H (fun v H1 => v = .ref C ∧ H1 = H) I ⟨rfl, rfl⟩) fun u s1 ⟨y, H1, I1, rx, ey, eH⟩ => ?_) ht
  subst ey eH
  obtain rfl : u = Value.ref C := rx
  refine getmethsm_ok I1 r hat rc fun s2 I2 => ?_
  refine PySem.W.callWith_K (first := []) (h₀ := X.base) I.ok.mod.kin hk (thn (ha.1.run pos pins s2 σ H1 _ I2 h) fun us s3 ⟨vs, H3, I3, r3, q3⟩ => ⟨I3.kIn, ?_⟩) hst hpl
  exact run_fnSD F hr bd hd (passAt tk σ) I3 r3 q3
theorem de_stat0 {pl : Sem Bool} (M : Stat X.prog X.w X.K X.mg X.base k m C sd dvs dd) (tk : Takes X W) (hr : Room k X.A) (hg : Gl X x) (hm : X.mg x = some (.ref C)) (hdb : (x == ("__debug__" : Str)) = false := by decide)
    (ht : eval (.Call (.Attribute (.Name x p) m apos) [] [] pos) X.env = (do
      let ov ← eval (.Name x p) X.env
      standAt apos.atName
      let (f, first) ← holding [ov] (getMethod ov m pl)
      callWith pos f first (backTo pos (starEach [] X.env)) (backToKw pos (keywordEach [] X.env))) := by rfl) :
    DEX X W (.Call (.Attribute (.Name x p) m apos) [] [] pos) (tCallSD (spOf X.K sd) dvs (WE W) tNil) (dCall sd dd dNil) := by
  obtain ⟨q, g, fd, ps, ds, r, hat, rc, hk, F, bd, hd, hdd⟩ := M
  refine ⟨⟨fun pins s σ H Q I h => ?_⟩, snd_call hdd (fun ρ Q E h l0 F H σ S Qc k _ => k [] [] F H (.refl S.bs) .nil h)⟩
  have he : PE X (.Name x p) (tC (.ref C)) := pe_glob hg hm rfl hdb
  refine PySem.W.methodCall_KW (pl := pl) (thn (he.run pins s σ H (fun v H1 => v = .ref C ∧ H1 = H) I ⟨rfl, rfl⟩) fun u s1 ⟨y, H1, I1, rx, ey, eH⟩ => ?_) ht
  subst ey eH
  obtain rfl : u = Value.ref C := rx
  refine getmethsm_ok I1 r hat rc fun s2 I2 => ?_
  exact PySem.W.callWith_K0 (first := []) I2.kIn hk (run_fnSD (us := []) (vs := []) F hr bd hd (passAt tk σ) I2 .nil h)
end
/-! ### C.f, a constant of the class -/
def cvlB (K : PySem.W.Frag) (C : Addr) (f : Str) (i : Int) : Bool := crdB K C && (match PySem.W.findCls K (.ref C) (.type "type") f with
  | some (.val (.int j _)) => decide (j = i)
  | _ => false)
def CvI (K : PySem.W.Frag) (C : Addr) (f : Str) (i : Int) : Prop := CRead K C (.type "type") ∧ ∃ t, PySem.W.findCls K (.ref C) (.type "type") f = some (.val (.int i t))
theorem cvlB_ok {K : PySem.W.Frag} {C : Addr} {f : Str} {i : Int} (h : cvlB K C f i = true) : CvI K C f i := by
  obtain ⟨h1, h2⟩ := He.ba h
  refine ⟨crdB_ok h1, ?_⟩
  split at h2
  · rename_i j t q
    have := of_decide_eq_true h2
    subst this
    exact ⟨t, q⟩
  · cases h2
theorem de_cval {X : Cx} {W : WX} {x f : Str} {C : Addr} {i : Int} {p pos : Pos} (k : CvI X.K C f i) (hg : Gl X x) (hm : X.mg x = some (.ref C)) (hdb : (x == ("__debug__" : Str)) = false := by decide)
    (hb : attributeBase (.Name x p) f X.env (eval (.Name x p) X.env) = eval (.Name x p) X.env := by rfl) : DEX X W (.Attribute (.Name x p) f pos) (tCVal X.K (tC (.ref C)) f) (dC (.int i)) := by
  obtain ⟨r, t, h⟩ := k
  refine ⟨pe_cval (pe_glob hg hm rfl hdb) hb, fun ρ Q E q l0 F H σ S Qc kk kx => ?_⟩
  exact ⟨C, .type "type", .int i, _, rfl, r, ⟨h, ⟨t, rfl⟩⟩, kk.here S.bs q⟩
end DW

set_option Elab.async false
set_option linter.all false
set_option maxRecDepth 100000
set_option maxHeartbeats 2000000
/-! DW, part 30: iter(t) of a tuple, own __iter__ that gives it; list(o), bool(o). -/
namespace DW
open PySem PySem.Spec PyProof.Rows L2 SlX
/-! ### a tuple's iterator as a tracked thing -/
def TItO (t it : Addr) (i : Nat) : HO := .ext fun h => h.IsTupleIter it t i
def TEnd (it : Addr) : HO := .ext fun h => ∃ o, h.get? it = some o
section
variable {prog : Program} {w : World} {A : Around} {E : Value → Shared → Prop} {s : Shared}
/-- the last step: the iterator's object still stands -/
theorem tup_stop {it t : Addr} {i : Nat} {its : Array Value} {Q : Option Value → Shared → Prop} (hh : A.handled = none) (hit : s.heap.IsTupleIter it t i) (ht : s.heap.IsTuple t its) (hx : its[i]? = none)
    (hQ : ∀ h', (∃ o, h'.get? it = some o) → Heap.ExtBut it s.heap h' → Q none { s with heap := h' }) : wpAny (model prog w) A (pyNext (.ref it)) Q E s := by
  obtain ⟨ob, hob, hcb, hdb⟩ := id hit
  obtain ⟨oT, hoT, _, nT, hdT⟩ := ht
  have hset := Heap.get?_update_self (Obj.mapFields (·.setIfInBounds 0 Value.none)) hob (Obj.isFreed_of_fields (Obj.data_mapFields hdb _))
  unfold pyNext
  apply wpAny_bind
  apply wpAny_attempt
  apply wpAny_callSpecial?_slot (name := Str.ofString "__next__") hit.typeIs F.slot_tuple_iterator_next
  refine wpAny_call_entry F.slot_tuple_iterator_next hit.typeIs F.entry_tuple_iterator_next ?_ (F.args_tuple_iterator_next_1 _)
  show wpAny (model prog w) _ (field (.ref it) 0 >>= _) _ _ _
  apply wpAny_bind
  apply wpAny_field hob hdb (x := .ref t) rfl
  show wpAny (model prog w) _ (ite ((Value.ref t == Value.none) = true) _ _) _ _ _
  have hne : ¬ ((Value.ref t == Value.none) = true) := Bool.false_ne_true
  rw [if_neg hne]
  show wpAny (model prog w) _ (field (.ref it) 1 >>= _) _ _ _
  apply wpAny_bind
  apply wpAny_field hob hdb (x := .int i 0) rfl
  show wpAny (model prog w) _ (seqItems? (.ref t) >>= _) _ _ _
  apply wpAny_bind
  apply wpAny_seqItems hoT hdT
  simp only [hx, Int.toNat_natCast]
  apply wpAny_bind
  apply wpAny_rule
  apply wpAny_bind
  refine wpAny_setField hob hdb (by simp) ?_
  show wpAny (model prog w) _ (newExc (.type "StopIteration") [] >>= _) _ _ _
  apply wpAny_bind
  unfold newExc newTuple
  apply wpAny_bind
  refine wpAny_newObj_type ?_ (hd := by size_fits)
  refine wpAny_bind (m := firstArgMember _ _) (wpAny_of_eq (a := Value.none) (by first | rfl | simp only [firstArgMember]; rfl) ?_)
  refine wpAny_newObj_type ?_ (hd := by size_fits)
  unfold raiseNew
  apply wpAny_bind
  apply wpAny_handled
  have h0 : A.in1.handled = none := hh
  rw [h0]
  refine wpAny_bind (wpAny_pure (wpAny_throw (wpAny_bind ?_)))
  refine wpAny_isInstance (b := true) (T := "StopIteration") ⟨_, Heap.get?_push_size _ rfl, rfl⟩ isSubtype_stop (wpAny_pure (hQ _ ⟨_, Heap.get?_push_of_some _ (Heap.get?_push_of_some _ hset)⟩ ?_))
  exact ((Heap.SameBut.update ..).extBut.push _).push _
end
section
variable {X : Cx} {pins : List (Addr × Obj)} {σ : L2.St} {H : Hp} {s : Shared} {t it q a : Addr} {ys : List V}
theorem tit_ok {P : Program} {w : World} {H : Hp} {h : Heap} {i : Nat} (e : h.IsTupleIter it t i) : ObjOk P w H h it (TItO t it i) := ⟨e, let ⟨o, ho, _⟩ := e; ⟨o, ho⟩, fun _ _ ⟨o, ho, r⟩ k => ⟨o, k _ ho, r⟩⟩
theorem tend_ok {P : Program} {w : World} {H : Hp} {h : Heap} (e : ∃ o, h.get? it = some o) : ObjOk P w H h it (TEnd it) := ⟨e, e, fun _ _ ⟨o, ho⟩ k => ⟨o, k _ ho⟩⟩
theorem tit_get {i : Nat} (I : Inv X pins σ H s) (e : H it = some (TItO t it i)) : s.heap.IsTupleIter it t i := (I.hok it _ e).1
theorem sqT_at {K : PySem.W.Frag} {o : HO} (h : SqT K H t ys) (h1 : ∀ xs, H a ≠ some (.tup xs)) (h2 : ∀ ob xs, H a ≠ some (.frz ob (.tup xs))) : SqT K (upd H a o) t ys := by
  rcases h with (h | ⟨ob, h⟩) | h
  · exact .inl (.inl (by rw [upd_ne (fun e => h1 _ (e ▸ h))]; exact h))
  · exact .inl (.inr ⟨ob, by rw [upd_ne (fun e => h2 _ _ (e ▸ h))]; exact h⟩)
  · exact .inr h
theorem take_snoc {α : Type} {xs : List α} {i : Nat} {p : α} (h : xs[i]? = some p) : xs.take (i + 1) = xs.take i ++ [p] := by
  rw [List.take_add_one, h]
  rfl
/-- the list at q is filled from the iterator -/
theorem tup_drain {Rs : Result → Shared → Prop} {A1 : Around} (hh : A1.in1.handled = none) : ∀ (n i : Nat) (H : Hp) (s : Shared), Inv X pins σ H s → H q = some (.lst (ys.take i)) → H it = some (TItO t it i) → SqT X.K H t ys → i + n = ys.length →
    (∀ s', Inv X pins σ (upd (upd H q (.lst ys)) it (TEnd it)) s' → Rs (.ok (.ret .none)) s') → codeAny (model X.prog X.w) A1 (.builtin "list.extend.loop" ⟨[.ref q, .ref it, .none], []⟩) Rs s
  | 0, i, H, s, I, hq, hi, ht, hn, hd => by
    obtain ⟨its, rv, p, hz⟩ := I.tuple ht
    have hl := rv.length
    have mu : Mut (H it) := by rw [hi]; exact True.intro
    refine codeAny_builtin PySem.F.entry_extend_loop ?_
    rw [PySem.F.plain_extend_loop |> fun e => Around.under_plainId e _]
    show wpAny (model X.prog X.w) A1.in1 (pyNext (.ref it) >>= _) _ _ s
    refine wpAny_bind (tup_stop hh (tit_get I hi) (show s.heap.IsTuple t its.toArray from p) (by simp; omega) fun h' ex ext => ?_)
    have I2 := I.write (x := it) (e := it) (t' := s.toks) mu (.inl rfl) (fun b o nb z => ext b o nb z) ex (tend_ok ex)
    have e : upd H q (.lst ys) = H := by
      funext b
      by_cases hb : b = q
      · rw [hb, upd_same, hq, List.take_of_length_le (by omega)]
      · rw [upd_ne hb]
    rw [e] at hd
    exact wpAny_pure (hd _ I2)
  | n + 1, i, H, s, I, hq, hi, ht, hn, hd => by
    obtain ⟨its, rv, p, hz⟩ := I.tuple ht
    have hl := rv.length
    have mu : Mut (H it) := by rw [hi]; exact True.intro
    have nqi : q ≠ it := fun e => by rw [e, hi] at hq; cases hq
    have hx : ys[i]? = some (ys[i]'(by omega)) := List.getElem?_eq_getElem _
    generalize ys[i]'(by omega) = v at hx
    obtain ⟨u, hu, ru⟩ := rv.get hx
    refine codeAny_builtin PySem.F.entry_extend_loop ?_
    rw [PySem.F.plain_extend_loop |> fun e => Around.under_plainId e _]
    show wpAny (model X.prog X.w) A1.in1 (pyNext (.ref it) >>= _) _ _ s
    refine wpAny_bind (wpAny_pyNext_tuple_item (tit_get I hi) p (x := u) (by simpa using hu) fun h' st' sb => ?_)
    have I1 := I.write (x := it) (e := it) (t' := s.toks) (o := TItO t it (i + 1)) mu (.inl rfl) (fun b o nb z => (sb.2 b nb).trans z) (let ⟨o, ho, _⟩ := st'; ⟨o, ho⟩) (tit_ok st')
    have hq1 : upd H it (TItO t it (i + 1)) q = some (.lst (ys.take i)) := by rw [upd_ne nqi]; exact hq
    obtain ⟨z, js, k, r2, hl2, e⟩ := I1.lstM hq1
    have z1 : js.length < sizeLine := by
      rw [← hl2, List.length_take]
      omega
    show wpAny (model X.prog X.w) A1.in1 (updateSeq q (·.push u) >>= _) _ _ _
    refine wpAny_bind (wpAny_updateSeq e rfl (wpAny_pure ⟨plainId_quiet PySem.F.plain_extend_loop _, ?_⟩) (by rw [List.size_toArray]; exact Nat.le_of_lt z1) (by show (js.toArray.push u).size ≤ _; rw [Array.size_push, List.size_toArray]; omega))
    have I2 := I1.lset (f := (·.push u)) (its' := js ++ [u]) (ys := ys.take i ++ [v]) (t' := s.toks) hq1 e (by simp) (r2.append (.cons ru .nil)) (by rw [List.length_append, hl2, List.length_singleton]; omega)
    have ht1 : SqT X.K (upd H it (TItO t it (i + 1))) t ys := sqT_at ht (fun xs e => by rw [hi] at e; cases e) (fun ob xs e => by rw [hi] at e; cases e)
    have ht2 : SqT X.K (upd (upd H it (TItO t it (i + 1))) q (.lst (ys.take i ++ [v]))) t ys := sqT_at ht1 (fun xs e => by rw [hq1] at e; cases e) (fun ob xs e => by rw [hq1] at e; cases e)
    refine tup_drain hh n (i + 1) _ _ I2 (by rw [upd_same, take_snoc hx]) (by rw [upd_ne nqi.symm, upd_same]) ht2 (by omega) fun s' I' => hd s' ?_
    have e2 : upd (upd (upd (upd H it (TItO t it (i + 1))) q (.lst (ys.take i ++ [v]))) q (.lst ys)) it (TEnd it) = upd (upd H q (.lst ys)) it (TEnd it) := by
      funext b
      by_cases hb : b = it
      · rw [hb, upd_same, upd_same]
      · by_cases hc : b = q
        · rw [upd_ne hb, upd_ne hb, hc, upd_same, upd_same]
        · rw [upd_ne hb, upd_ne hb, upd_ne hc, upd_ne hc, upd_ne hc, upd_ne hb]
    rw [e2] at I'
    exact I'
/-! ### iter(t) -/
def rIterT (K : PySem.W.Frag) : List V → Hp → VK → Prop := fun xs H Q => ∃ (t : Addr) (ys : List V), xs = [.ref t] ∧ SqT K H t ys ∧ ∀ it, H it = none → Q (.ref it) (upd H it (TItO t it 0))
theorem call_iterT : CallR X (.builtin "iter") (rIterT X.K) := by
  intro pins s σ H xs us Q I r h
  obtain ⟨t, ys, rfl, hq, k⟩ := h
  obtain rfl := Vals.ref1 r
  obtain ⟨its, rv, p, hz⟩ := I.tuple hq
  refine Calls.call_function_entry (by decide +kernel) (by decide +kernel) PySem.W.kdk_entry_iter (PySem.W.kdk_args_iter _) ?_
  unfold Builtin.«iter»
  refine wpAny_bind (m := someArgs "iter" 1 2 _) (wpAny_of_eq (a := [Value.ref t]) (by first | kernel_rfl! | rfl) ?_)
  show wpAny (model X.prog X.w) _ (pyIter (.ref t) >>= _) _ _ _
  refine wpAny_bind (wpAny_pyIter_tuple (show s.heap.IsTuple t its.toArray from p) (wpAny_pure ⟨_, rfl, .ref s.heap.objs.size, _, ?_, rfl, k _ (I.hok.fresh (Nat.le_refl _))⟩))
  exact I.laid (t' := s.toks) (fun b u e => Heap.get?_push_of_some _ e) (Nat.le_refl _) (tit_ok ⟨_, Heap.get?_push_size _ rfl, rfl, rfl⟩)
/-- what an own __iter__ promises that says iter(self.f) -/
def spIt (K : PySem.W.Frag) (f : Str) : Sp := fun vs H Q _ => ∃ (a C dx t p : Addr) (ys : List V), vs = [V.ref a] ∧ Slt H a C dx [some (.ref t)] ∧ SCls K C ∧ Slot1 K C f p 0 ∧ SqT K H t ys ∧ ∀ it, H it = none → Q (.ref it) (upd H it (TItO t it 0))
def MIt (P : Program) (w : World) (K : PySem.W.Frag) (mg : Str → Option Value) (base : Heap) (k : Nat) (f : Str) (C : Addr) : Prop := ∃ (g : Addr) (fd : FuncData) (ps : List Str) (p : Addr), SCls K C ∧ Slot1 K C f p 0 ∧ Meth K C "__iter__" g ∧ FnOk P w K mg base (L2.CX P w) k g fd ps (spIt K f) ∧ Binds K fd ps []
end
end DW

set_option Elab.async false
set_option linter.all false
set_option maxRecDepth 100000
set_option maxHeartbeats 2000000
/-! DW, part 31: list(o), bool(o), tests of o, loops over o, o an instance with one slot that iterates over a tuple. -/
namespace DW
open PySem PySem.Spec PyProof.Rows L2 SlX
section
variable {X : Cx} {pins : List (Addr × Obj)} {σ : L2.St} {H : Hp} {s : Shared} {a C dx g : Addr} {k : Nat} {sd : Sd} {f : Str}
/-- a method that raises nothing, wherever it is called from -/
theorem run_no {A : Around} {E' : Value → Shared → Prop} {Q : VK} {us : List Value} {ws : List V} {fd : FuncData} {ps : List Str} {sp : Sp} (F : FnOk X.prog X.w X.K X.mg X.base (L2.CX X.prog X.w) k g fd ps sp) (bd : Binds X.K fd ps []) (hr : Room k A)
    (e0 : Env0 X.prog X.w X.K X.mg X.base A X.stack s H) (I : Inv X pins σ H s) (r : Vals ws us) (h : sp ws H Q (fun _ _ _ => False)) : wpAny (model X.prog X.w) A (call (.ref g) us) (EP X pins σ Q) E' s := by
  refine wpAny_call (codeAny_mono ((raw0 F bd) A X.stack s H us ws Q _ hr e0 r h) fun r s' hq => ?_)
  cases r with
  | error e => exact (noCX H s e s' hq).elim
  | ok fl =>
    cases fl with
    | ret u => exact I.after hq
    | next => exact False.elim hq
    | brk => exact False.elim hq
    | cont => exact False.elim hq
theorem MIt.mono {P : Program} {w : World} {K : PySem.W.Frag} {mg : Str → Option Value} {base : Heap} {j k : Nat} (M : MIt P w K mg base j f C) (h : j ≤ k) : MIt P w K mg base k f C := by
  obtain ⟨g, fd, ps, p, h1, h2, h3, F, b⟩ := M
  exact ⟨g, fd, ps, p, h1, h2, h3, F.mono h, b⟩
/-- what is asked of __len__ -/
def LenQ (K : PySem.W.Frag) (sd : Sd) (a : Addr) (H : Hp) (Q : Int → Hp → Prop) : Prop := spOf K sd [.ref a] H (fun v H' => ∃ n : Int, v = .int n ∧ 0 ≤ n ∧ n ≤ 100000 ∧ Q n H') (fun _ _ _ => False)
theorem own_len {A : Around} {E' : Value → Shared → Prop} {Q : Int → Hp → Prop} (M : MSl X.prog X.w X.K X.mg X.base k "__len__" C sd) (hr : Room (k + 1) A) (e0 : Env0 X.prog X.w X.K X.mg X.base A X.stack s H) (I : Inv X pins σ H s) {vs : List (Option V)} (ha : Slt H a C dx vs) (q : LenQ X.K sd a H Q) :
    wpAny (model X.prog X.w) A (call (.builtin "len") [.ref a]) (fun v s' => ∃ (n : Int) (t : Tok) (H' : Hp), v = .int n t ∧ 0 ≤ n ∧ n ≤ 100000 ∧ Inv X pins σ H' s' ∧ Q n H') E' s := by
  obtain ⟨g, fd, ps, sc, sf, me, F, bd⟩ := M
  obtain ⟨sl, od, _, J, _⟩ := slt_inst I ha
  obtain ⟨m, hF⟩ := I.fr
  refine PySem.W.len_K hF I.ok.mod.kin J me.at_ me.fn ?_
  refine wpAny_mono (run_no (us := [.ref a]) (ws := [.ref a]) F bd hr.in1 e0.in1 I (.cons rfl .nil) q) (fun v s' z => ?_) fun _ _ x => x
  obtain ⟨z', H', I', rz, n, ez, h0, h1, qz⟩ := z
  subst ez
  obtain ⟨t, e⟩ := (show ∃ t, v = Value.int n t from rz)
  cases e
  exact ⟨⟨h0, by omega⟩, n, _, H', rfl, h0, h1, I'.tok _, qz⟩
/-- what list(o) asks of the length ahead -/
theorem own_hintS {A : Around} {E' : Value → Shared → Prop} {Q : Hp → Prop} (M : MSl X.prog X.w X.K X.mg X.base k "__len__" C sd) (hr : Room (k + 1) A) (e0 : Env0 X.prog X.w X.K X.mg X.base A X.stack s H) (I : Inv X pins σ H s) {vs : List (Option V)} (ha : Slt H a C dx vs) (q : LenQ X.K sd a H fun _ H' => Q H') :
    wpAny (model X.prog X.w) A (Builtin.List.listLengthHint (.ref a)) (fun _ s' => ∃ H', Inv X pins σ H' s' ∧ Q H') E' s := by
  have M' := M
  obtain ⟨g, fd, ps, sc, sf, me, F, bd⟩ := M
  obtain ⟨sl, od, _, J, _⟩ := slt_inst I ha
  unfold Builtin.List.listLengthHint
  refine wpAny_bind (wpAny_bind (J.type.here ((PySem.W.looks_findIn I.kIn me.at_).here ?_)))
  refine PySem.W.KFB.if_not rfl ?_
  refine PySem.W.KFB.if_so rfl ?_
  refine wpAny_bind (wpAny_rule (wpAny_bind (wpAny_attempt ?_)))
  refine wpAny_mono (own_len M' hr e0 I ha q) (fun v s' z => ?_) fun e s' z => z
  obtain ⟨n, t, H', ev, h0, h1, I', qz⟩ := z
  subst ev
  refine wpAny_bind (wpAny_pure ?_)
  refine PySem.W.KFB.if_not ?_ (wpAny_pure ⟨H', I', qz⟩)
  show decide (n.toNat > sizeLine) = false
  rw [sizeLine_eq]
  exact decide_eq_false (by omega)
/-! ### list(o) -/
def rListS (K : PySem.W.Frag) (C : Addr) (sd : Sd) : List V → Hp → VK → Prop := fun xs H Q => ∃ (a dx t : Addr) (ys : List V), xs = [V.ref a] ∧ Slt H a C dx [some (.ref t)] ∧ SqT K H t ys ∧
  ∀ q it, H q = none → H it = none → q ≠ it → Slt (upd (upd H q (.lst [])) it (TItO t it 0)) a C dx [some (.ref t)] ∧
    LenQ K sd a (upd (upd H q (.lst [])) it (TItO t it 0)) fun _ H2 => H2 q = some (.lst []) ∧ H2 it = some (TItO t it 0) ∧ SqT K H2 t ys ∧ Q (.ref q) (upd (upd H2 q (.lst ys)) it (TEnd it))
theorem upd_slt {o : HO} {b : Addr} {vs : List (Option V)} (h : Slt H a C dx vs) (hb : H b = none) : Slt (upd H b o) a C dx vs := by
  rcases h with ⟨h, e⟩ | ⟨h1, h2⟩
  · exact .inl ⟨by rw [upd_ne (ne_of_none h hb)]; exact h, e⟩
  · exact .inr ⟨by rw [upd_ne (ne_of_none h1 hb)]; exact h1, by rw [upd_ne (ne_of_none h2 hb)]; exact h2⟩
theorem call_listSl (Mi : MIt X.prog X.w X.K X.mg X.base k f C) (Ml : MSl X.prog X.w X.K X.mg X.base k "__len__" C sd) (hr : Room (k + 3) X.A) : CallR X (.type "list") (rListS X.K C sd) := by
  intro pins s σ H xs us Q I rv h
  obtain ⟨a, dx, t, ys, rfl, ha, ht, hq⟩ := h
  obtain ⟨u, rfl, ru⟩ := rv.one
  cases (show u = Value.ref a from ru)
  obtain ⟨g, fd, ps, p, sc, s1, me, F, bd⟩ := Mi
  have hr1 : Room (k + 1) X.A.in1.in1 := (show Room (k + 2) X.A.in1 from Room.in1 hr).in1
  refine callType_codes (Q₁ := fun obj s₁ => obj = .ref s.heap.objs.size ∧ s₁ = { s with heap := s.heap.push { cls := .type "list", data := .seq #[] } }) PySem.F.called_list (PySem.F.typeCall_list_1 _) PySem.F.entry_list_init (code_list_new _ ⟨rfl, rfl⟩) fun obj s₁ h₁ => ?_
  obtain ⟨rfl, rfl⟩ := h₁
  have hS := Heap.get?_push_size (h := s.heap) (o := ({ cls := .type "list", data := .seq #[] } : Obj)) rfl
  refine ⟨⟨_, hS, rfl⟩, PySem.F.args_list_init_2 _ _, ?_⟩
  have fr : H s.heap.objs.size = none := I.hok.fresh (Nat.le_refl _)
  have I1 : Inv X pins σ (upd H s.heap.objs.size (.lst [])) { s with heap := s.heap.push { cls := .type "list", data := .seq #[] } } := I.lnew (its := []) (t' := s.toks) .nil (Nat.zero_le _)
  generalize s.heap.objs.size = q at *
  show wpAny (model X.prog X.w) X.A.in1.in1 (Builtin.List.listItems (.ref q) >>= _) _ _ _
  unfold Builtin.List.listItems
  refine wpAny_bind (wpAny_bind (wpAny_seqItems hS rfl (wpAny_pure ?_)))
  show wpAny (model X.prog X.w) X.A.in1.in1 (updateSeq q (fun _ => #[]) >>= _) _ _ _
  refine wpAny_bind (wpAny_updateSeq hS rfl ?_)
  have I2 := I1.lset (f := fun _ => #[]) (its := []) (its' := []) (ys := []) (t' := s.toks) upd_same hS rfl .nil (Nat.zero_le _)
  rw [upd_upd] at I2
  refine wpAny_bind (wpAny_letGo ?_)
  have ha2 : Slt (upd H q (.lst [])) a C dx [some (.ref t)] := upd_slt ha fr
  have ht2 : SqT X.K (upd H q (.lst [])) t ys := sqT_at ht (fun xs e => by rw [fr] at e; cases e) (fun ob xs e => by rw [fr] at e; cases e)
  obtain ⟨sl, od, _, J, _⟩ := slt_inst I2 ha2
  obtain ⟨m, hF⟩ := I2.fr
  have nqa : q ≠ a := fun e => by
    subst e
    rcases ha with ⟨h, e⟩ | ⟨h1, h2⟩
    · rw [fr] at h; cases h
    · rw [fr] at h1; cases h1
  unfold Builtin.List.listExtendWith
  refine wpAny_bind (J.type.here ?_)
  have h1 : Builtin.List.listSameRef (.ref q) (.ref a) = false := by simp [nqa, Builtin.List.listSameRef]
  have h2 : (Value.ref C == Value.type "tuple") = false := rfl
  have h3 : (Value.ref C == Value.type "list") = false := rfl
  simp only [h1, h2, h3, Bool.false_eq_true, Bool.or_false, if_false]
  refine wpAny_bind (PySem.W.owit_iter hF I2.ok.mod.kin J me.at_ me.fn ?_)
  refine wpAny_mono (run_no (us := [.ref a]) (ws := [.ref a]) (Q := fun v H' => ∃ it, v = .ref it ∧ upd H q (.lst []) it = none ∧ H' = upd (upd H q (.lst [])) it (TItO t it 0)) F bd (hr1.mono (by omega)) I2.env0.in1.in1 I2 (.cons rfl .nil) ⟨a, C, dx, t, p, ys, rfl, ha2, sc, s1, ht2, fun it hit => ⟨it, rfl, hit, rfl⟩⟩) (fun u s3 z => ?_) fun _ _ x => x
  obtain ⟨v, H3, I3, rv3, it, ev, hit, eH⟩ := z
  subst ev eH
  cases (show u = Value.ref it from rv3)
  have nqi : q ≠ it := fun e => by rw [← e, upd_same] at hit; cases hit
  have hit0 : H it = none := by rw [upd_ne nqi.symm] at hit; exact hit
  obtain ⟨ha3, hlen⟩ := hq q it fr hit0 nqi
  unfold PySem.W.OwitIt
  refine wpAny_specialOf (tit_get I3 upd_same).typeIs PySem.F.slot_tuple_iterator_next.lookup ?_
  refine wpAny_bind (wpAny_holding ?_)
  refine wpAny_mono (own_hintS Ml hr1 I3.env0.in1.in1 I3 ha3 hlen) (fun b s4 z => ?_) fun _ _ x => x
  obtain ⟨H4, I4, hq4, hi4, ht4, qz⟩ := z
  have fin : ∀ s5, Inv X pins σ H4 s5 → codeAny (model X.prog X.w) X.A.in1 (.builtin "list.extend.loop" ⟨[.ref q, .ref it, .none], []⟩) (wants (fun r s₂ => r = .none ∧ EP X pins σ Q (.ref q) s₂) X.xe) s5 := fun s5 I5 =>
    tup_drain hr1.hd ys.length 0 H4 s5 I5 hq4 hi4 ht4 (by omega) fun s6 I6 => ⟨rfl, .ref q, _, I6, rfl, qz⟩
  obtain ⟨z, its, n, r3, hl3, e3⟩ := I4.lstM hq4
  cases r3
  refine wpAny_ite_split (fun _ => ?_) (fun _ => wpAny_pure ⟨plainId_quiet PySem.F.plain_extend_loop _, fin s4 I4⟩)
  refine wpAny_bind (wpAny_rule (wpAny_bind ?_))
  show wpAny (model X.prog X.w) _ (updateSeq q (·.push .none) >>= _) _ _ _
  refine wpAny_bind (wpAny_updateSeq e3 rfl ?_)
  have I5 := I4.lset (f := (·.push Value.none)) (its' := [Value.none]) (ys := [.non]) (t' := s4.toks) hq4 e3 (by simp) (.cons rfl .nil) (by rw [sizeLine_eq, List.length_singleton]; decide)
  obtain ⟨z6, js, n6, r6, hl6, e6⟩ := I5.lstM upd_same
  obtain ⟨u6, rfl, ru6⟩ := r6.one
  refine wpAny_updateSeq e6 rfl ?_ (by show 1 ≤ _; rw [sizeLine_eq]; decide) (Nat.zero_le _)
  refine wpAny_pure ⟨plainId_quiet PySem.F.plain_extend_loop _, fin _ ?_⟩
  have I7 := I5.lset (f := (·.pop)) (its := [u6]) (its' := []) (ys := []) (t' := s4.toks) upd_same e6 (by rfl) .nil (Nat.zero_le _)
  rw [upd_upd] at I7
  have e8 : upd H4 q (.lst []) = H4 := by
    funext b
    by_cases hb : b = q
    · rw [hb, upd_same, hq4]
    · rw [upd_ne hb]
  rw [e8] at I7
  exact I7
end
end DW

set_option Elab.async false
set_option linter.all false
set_option maxRecDepth 100000
set_option maxHeartbeats 2000000
/-! DW, part 32: the truth of o by its __len__, bool(o); list(o) over data. -/
namespace DW
open PySem PySem.Spec PyProof.Rows L2 SlX
section
variable {X : Cx} {pins : List (Addr × Obj)} {σ : L2.St} {H : Hp} {s : Shared} {a C dx g : Addr} {k : Nat} {sd : Sd} {f : Str}
theorem own_truth {A : Around} {E' : Value → Shared → Prop} {Q : Bool → Hp → Prop} (M : MSl X.prog X.w X.K X.mg X.base k "__len__" C sd) (hb : PySem.W.findIn X.K (.ref C) "__bool__" = some none) (hr : Room (k + 1) A)
    (e0 : Env0 X.prog X.w X.K X.mg X.base A X.stack s H) (I : Inv X pins σ H s) {vs : List (Option V)} (ha : Slt H a C dx vs) (q : LenQ X.K sd a H fun n H' => Q (n != 0) H') :
    wpAny (model X.prog X.w) A (truthy (.ref a)) (fun b s' => ∃ H', Inv X pins σ H' s' ∧ Q b H') E' s := by
  obtain ⟨g, fd, ps, sc, sf, me, F, bd⟩ := M
  obtain ⟨sl, od, _, J, _⟩ := slt_inst I ha
  have body : wpAny (model X.prog X.w) A (runValue (.builtin "len" ⟨[.ref a], []⟩)) (fun r s' => ∃ (n : Int) (t : Tok) (H' : Hp), r = .int n t ∧ Inv X pins σ H' s' ∧ Q (n != 0) H') E' s := by
    refine wpAny_runValue (codeAny_builtin entry_len ?_)
    rw [plain_len |> fun e => Around.under_plainId e _]
    show wpAny (model X.prog X.w) A.in1 (oneArg "len" ⟨[.ref a], []⟩ >>= _) _ _ _
    refine wpAny_bind (wpAny_pure (wpAny_bind (m := callSpecial? (.ref a) "__len__" []) ?_))
    refine PySem.W.special_fn I.kIn J me.at_ (beq_iff_eq.mp me.fn) (wpAny_mono (run_no (us := [.ref a]) (ws := [.ref a]) F bd hr.in1 e0.in1 I (.cons rfl .nil) q) (fun v s' z => ?_) fun _ _ x => x)
    obtain ⟨z', H', I', rz, n, ez, h0, h1, qz⟩ := z
    subst ez
    obtain ⟨t, e⟩ := (show ∃ t, v = Value.int n t from rz)
    cases e
    refine wpAny_bind (wpAny_holding (wpAny_pure (wpAny_bind (wpAny_letGo ?_))))
    show wpAny (model X.prog X.w) _ (if n < 0 then _ else _) _ _ _
    rw [if_neg (Int.not_lt.mpr h0)]
    show wpAny (model X.prog X.w) _ (if n ≥ 2 ^ 63 then _ else _) _ _ _
    rw [if_neg (show ¬ n ≥ 2 ^ 63 by omega)]
    exact wpAny_bind (wpAny_mkInt (wpAny_pure ⟨n, _, H', rfl, I'.tok _, qz⟩))
  unfold truthy
  refine wpAny_bind (DSub.special_no (name := Str.ofString "__bool__") I.kIn J hb ?_)
  refine wpAny_bind (m := specialOf (.ref a) "__len__") (wpAny_bind (J.type.here ((PySem.W.looks_findIn I.kIn me.at_).here ?_)))
  refine wpAny_bind (wpAny_mono body (fun r s' z => ?_) fun _ _ x => x)
  obtain ⟨n, t, H', er, I', qz⟩ := z
  subst er
  exact wpAny_pure ⟨H', I', qz⟩
/-! ### bool(o) -/
def rBoolS (K : PySem.W.Frag) (C : Addr) (sd : Sd) : List V → Hp → VK → Prop := fun xs H Q => ∃ (a dx : Addr) (vs : List (Option V)), xs = [V.ref a] ∧ Slt H a C dx vs ∧ LenQ K sd a H fun n H' => Q (.bl (n != 0)) H'
theorem call_boolSl (M : MSl X.prog X.w X.K X.mg X.base k "__len__" C sd) (hb : PySem.W.findIn X.K (.ref C) "__bool__" = some none) (hr : Room (k + 4) X.A) : CallR X (.type "bool") (rBoolS X.K C sd) := by
  intro pins s σ H xs us Q I rv h
  obtain ⟨a, dx, vs, rfl, ha, hq⟩ := h
  obtain ⟨u, rfl, ru⟩ := rv.one
  cases (show u = Value.ref a from ru)
  have hr1 : Room (k + 2) X.A.in1.in1 := (show Room (k + 3) X.A.in1 from Room.in1 hr).in1
  refine callType_newIn F.called_bool F.newNe_bool (F.typeCall_bool_1 _) (F.newCall_bool_1 _) (fun obj => F.args_object_init_2 obj _) F.entry_bool_new
    (S := fun A R s => wpAny (model X.prog X.w) A.in1 (truthy (.ref a)) (fun b s' => R (.ok (.ret (.bool b))) s') (fun e s' => R (.error e) s') s) (.of_wp fun A R s h => ?_) ?_
  · have f1 := F.conv_sub_bool
    show wpAny (model X.prog X.w) A.in1 (isType (.type "bool") >>= _) _ _ _
    refine wpAny_bind (wpAny_of_eq (a := true) (by rfl) ?_)
    refine wpAny_bind (wpAny_of_eq (a := true) f1 ?_)
    refine wpAny_bind (m := someArgs "bool" 0 1 _) (wpAny_of_eq (a := [Value.ref a]) (by first | rfl | kernel_rfl!) ?_)
    refine wpAny_bind (wpAny_mono h (fun b s' z => wpAny_pure ⟨_, rfl, z⟩) fun _ _ z => z)
  · refine wpAny_mono (own_truth (Q := fun b H' => Q (.bl b) H') M hb (hr1.mono (by omega)) I.env0.in1.in1 I ha hq) (fun b s' z => ?_) fun _ _ z => z
    obtain ⟨H', I', qz⟩ := z
    exact ⟨PySem.typeIs_bool _ _, .bl b, H', I', rfl, qz⟩
end
/-! ### over data -/
section
variable {K : PySem.W.Frag} {C : Addr} {sd : Sd}
theorem lenQ_of {l0 : Addr} {F H : Hp} {a : Addr} {d : Dt} {Q : Int → Prop} {Qc : Int → Hp → Prop} (b : Base l0 F H) (r : Den K l0 F (.ref a) (.slt C d)) (q : sd [.slt C d] (fun z => ∃ n : Int, z = .v (.int n) ∧ 0 ≤ n ∧ n ≤ 100000 ∧ Q n) fun _ => False)
    (k : ∀ n F' H', Go l0 F H F' H' → Q n → Qc n H') : LenQ K sd a H Qc := by
  refine ⟨l0, F, [.slt C d], _, _, b, .cons r .nil, q, fun v dd F' H' g rv qd => ?_, fun _ _ _ _ _ _ _ z => z.elim⟩
  obtain ⟨n, e, h0, h1, q⟩ := qd
  subst e
  have ev : v = .int n := by cases rv; rfl
  exact ⟨n, ev, h0, h1, k n F' H' g q⟩
def dBoolS (C : Addr) (sd : Sd) : DCl := fun ss Q => ∃ d, ss = [.dat (.slt C d)] ∧ sd [.slt C d] (fun z => ∃ n : Int, z = .v (.int n) ∧ 0 ≤ n ∧ n ≤ 100000 ∧ Q (.dat (.v (.bl (n != 0))))) (fun _ => False)
theorem sc_boolSl : SndC K (rBoolS K C sd) (dBoolS C sd) := fun vs ss Q q l0 F H b rr Qc kk => by
  obtain ⟨d, e, q⟩ := q
  subst e
  cases rr with
  | cons r1 rr =>
    cases rr
    have r1 : Den K l0 F _ (.slt C d) := r1
    obtain ⟨a, dx, x, e, h1, h2, _, _⟩ := r1.slt_of
    subst e
    exact ⟨a, dx, _, rfl, .inr ⟨b.sub _ _ h1, b.sub _ _ h2⟩, lenQ_of b r1 q fun n F' H' g z => kk _ (.dat (.v _)) F' H' g (.v _) z⟩
def dListS (C : Addr) (sd : Sd) : DCl := fun ss Q => match ss with
  | [.dat (.slt C' (.tup ds))] => C' = C ∧ sd [.slt C (.tup ds)] (fun z => ∃ n : Int, z = .v (.int n) ∧ 0 ≤ n ∧ n ≤ 100000 ∧ True) (fun _ => False) ∧ Q (.dat (.lst ds))
  | _ => dListOf ss Q
theorem sc_listSl {r : List V → Hp → VK → Prop} (h : SndC K r dListOf) : SndC K (fun xs H Q => rListS K C sd xs H Q ∨ r xs H Q) (dListS C sd) := fun vs ss Q q l0 F H b rr Qc kk => by
  unfold dListS at q
  split at q
  · rename_i C' ds
    obtain ⟨e1, ql, q⟩ := q
    subst e1
    cases rr with
    | cons r1 rr =>
      cases rr
      have r1 : Den K l0 F _ (.slt C' (.tup ds)) := r1
      obtain ⟨a, dx, x, e, h1, h2, _, rx⟩ := r1.slt_of
      subst e
      obtain ⟨t, ys, e, ht, hd⟩ := (show SlV K l0 F H x (.dat (.tup ds)) from rx).tup
      subst e
      have hS : Slt H a C' dx [some (.ref t)] := .inr ⟨b.sub _ _ h1, b.sub _ _ h2⟩
      refine .inl ⟨a, dx, t, ys, rfl, hS, sameT b.sub ht, fun p it hp hi ne => ?_⟩
      have g1 := Go.loose b (.lst []) hp
      have hi1 : upd H p (.lst []) it = none := by rw [upd_ne ne.symm]; exact hi
      have g2 := g1.trans (Go.loose g1.bs (TItO t it 0) hi1)
      refine ⟨upd_slt (upd_slt hS hp) hi1, lenQ_of g2.bs r1 ql fun n F' H' g _ => ?_⟩
      have gt := g2.trans g
      have np : p ≠ l0 := fun e => b.live (by rw [← e]; exact hp)
      have ni : it ≠ l0 := fun e => b.live (by rw [← e]; exact hi)
      have fr : ∀ {c : Addr}, H c = none → F c = none := fun {c} hc => by
        cases e : F c with
        | none => rfl
        | some u =>
          rw [b.sub c u e] at hc
          cases hc
      have hp2 : upd (upd H p (.lst [])) it (TItO t it 0) p = some (.lst []) := by rw [upd_ne ne, upd_same]
      have fp := g.stays (fr hp) hp2
      have fi := g.stays (fr hi) (upd_same (H := upd H p (.lst [])) (a := it) (o := TItO t it 0))
      refine ⟨g.keep _ _ np hp2, g.keep _ _ ni upd_same, sameT g.bs.sub (sameT gt.ex ht), ?_⟩
      have g3 := (gt.modNew (o := .lst ys) hp fp np).modNew (o := TEnd it) hi fi ni
      have g4 := g3.frzNew (o := .lst ys) hp fp np (by rw [upd_ne ne, upd_same])
      exact kk (.ref p) (.dat (.lst ds)) _ _ g4 (Den.lst (SqL.of upd_same) (Dens.mono g4.ex hd)) q
  · exact .inr (h vs ss Q q l0 F H b rr Qc kk)
end
end DW

set_option Elab.async false
set_option linter.all false
set_option maxRecDepth 100000
/-! DW, part 33: C(..) of a plain class with defaults left out, C(k = v, ..), C.m(k = v, ..) of a static method. -/
namespace DW
open PySem PySem.Spec PyProof.Rows L2 ClX
def tApp (t : TA) (dvs : List V) : TA := fun σ H Q => t σ H fun vs H1 => Q (vs ++ dvs) H1
def dAppD (da : DA) (dd : List Dt) : DA := fun ρ Q E => da ρ (fun ss => Q (ss ++ dd.map Sl.dat)) E
def tKw (t : TA) (m : Nat) (f : List V → List V) : TA := fun σ H Q => t σ H fun zs H1 => zs.length = m ∧ Q (f zs) H1
def dKw (da : DA) (m : Nat) (f : List Sl → List Sl) : DA := fun ρ Q E => da ρ (fun ss => ss.length = m ∧ Q (f ss)) E
def dNoE (de : DE) : DE := fun ρ Q _ => de ρ Q fun _ => False
theorem pairs_cut {α β : Type} {R : α → β → Prop} : ∀ (n : Nat) {xs : List α} {ys : List β}, Paired R xs ys → Paired R ((xs.drop n).take 1) ((ys.drop n).take 1)
  | _, [], [], .nil => by simpa using Paired.nil
  | 0, _ :: _, _ :: _, .cons h _ => .cons h .nil
  | n + 1, _ :: _, _ :: _, .cons _ t => pairs_cut n t
section
variable {K : PySem.W.Frag} {W : WX}
theorem snd_app {t : TA} {da : DA} {dvs : List V} {dd : List Dt} (h : SndA K W t da) (hd : ∀ l0 F, Dens K l0 F dvs dd) : SndA K W (tApp t dvs) (dAppD da dd) := fun ρ Q E q l0 F H σ S Qc k kx =>
  h ρ _ E q l0 F H σ S _ (fun vs ss F1 H1 g r q => k _ _ F1 H1 g (pairs_app r (of_dens (hd l0 F1))) q) kx
theorem snd_kw {t : TA} {da : DA} {m : Nat} {f : List V → List V} {g : List Sl → List Sl} (h : SndA K W t da) (hf : ∀ {l0 F H vs ss}, Paired (SlV K l0 F H) vs ss → Paired (SlV K l0 F H) (f vs) (g ss)) : SndA K W (tKw t m f) (dKw da m g) := fun ρ Q E q l0 F H σ S Qc k kx =>
  h ρ _ E q l0 F H σ S _ (fun vs ss F1 H1 g1 r q => ⟨by rw [pairs_len r]; exact q.1, k _ _ F1 H1 g1 (hf r) q.2⟩) kx
theorem snd_noE {te : TE} {de : DE} (h : SndE K W0 te de) : SndE K W te (dNoE de) := fun ρ Q E q l0 F H σ S Qc k kx => h ρ Q _ q l0 F H σ S Qc k fun _ _ _ _ _ _ _ z => z.elim
end
theorem PE.imp {X : Cx} {e : Expr} {t t' : TE} (h : PE X e t) (k : ∀ σ H Q, t' σ H Q → t σ H Q) : PE X e t' := ⟨fun pins s σ H Q I q => h.run pins s σ H Q I (k σ H Q q)⟩
def DKX (X : Cx) (W : WX) (kws : List Keyword) (ta : TA) (da : DA) : Prop := PK X kws ta ∧ SndA X.K W ta da
section
variable {X : Cx} {W : WX} {k : Nat} {C : Addr} {sd : Sd} {x : Str} {p pos kpos : Pos} {e : Expr} {es : List Expr} {t : TA} {da : DA} {dvs : List V} {dd : List Dt} {kws : List Keyword} {tk : TA} {dk : DA} {nm : Option Str} {te : TE} {de : DE}
theorem dk_nil : DKX X W [] tNil dNil := ⟨pk_nil, da_nil.2⟩
theorem dk_cons (ha : DEX X W e te de) (hr : DKX X W kws t da) : DKX X W (⟨nm, e, kpos⟩ :: kws) (tCons te t) (dCons de da) := by
  obtain ⟨pa, sa⟩ := ha
  obtain ⟨pr, sr⟩ := hr
  refine ⟨pk_cons pa pr, fun ρ Q E h l0 F H σ S Qc k kx => ?_⟩
  refine sa ρ _ E h l0 F H σ S _ (fun x s F1 H1 g1 r1 q1 => ?_) kx
  refine sr ρ _ E q1 l0 F1 H1 σ (S.go g1) _ (fun xs ss F2 H2 g2 r2 q2 => ?_) (kx.go g1)
  exact k (x :: xs) (s :: ss) F2 H2 (g1.trans g2) (.cons (r1.go g2) r2) q2
/-! ### C(..), the last parameters left out -/
def MakeOkD (P : Program) (w : World) (K : PySem.W.Frag) (mg : Str → Option Value) (base : Heap) (k : Nat) (x : Str) (C : Addr) (sd : Sd) (dvs : List V) (dd : List Dt) : Prop := ∃ (f : Addr) (fd : FuncData) (ps : List Str) (ds : List Value), Mk K C f ∧ FnOk P w K mg base (L2.CX P w) k f fd ps (spIn K C sd) ∧
  mg x = some (.ref C) ∧ Binds K fd ps ds ∧ Vals dvs ds ∧ ∀ l0 F, Dens K l0 F dvs dd
theorem de_makeD (M : MakeOkD X.prog X.w X.K X.mg X.base k x C sd dvs dd) (tk : Takes X W) (hr : Room (k + 1) X.A) (hg : Gl X x) (ha : DAX X W (e :: es) t da)
    (hdb : (x == ("__debug__" : Str)) = false := by decide) (he : starEach (e :: es) X.env = (false, eval e X.env) :: starEach es X.env := by rfl) (hpl : (backTo pos (starEach es X.env)).any (·.1) = false := by rfl) :
    DEX X W (.Call (.Name x p) (e :: es) [] pos) (tMakeS C (spIn X.K C sd) (WE W) (tApp t dvs)) (dMake sd (dAppD da dd)) := by
  obtain ⟨f, fd, ps, ds, m, F, hm, hb, hd, hz⟩ := M
  refine ⟨⟨fun pins s σ H Q I h => ?_⟩, snd_make (snd_app ha.2 hz)⟩
  refine wpAny_Call_Name_kw (ld_glob I hg hm ?_ hdb)
  refine PySem.W.callWith_K (h₀ := X.base) I.ok.mod.kin m.kp (thn (ha.1.run pos pins s σ H _ I h) fun us s1 ⟨vs, H1, I1, r, q⟩ => ⟨I1.kIn, ?_⟩) he hpl
  exact run_makeD m F hr hb hd (passAt tk σ) I1 r q
theorem de_makeD0 (M : MakeOkD X.prog X.w X.K X.mg X.base k x C sd dvs dd) (tk : Takes X W) (hr : Room (k + 1) X.A) (hg : Gl X x) (hdb : (x == ("__debug__" : Str)) = false := by decide) :
    DEX X W (.Call (.Name x p) [] [] pos) (tMakeS C (spIn X.K C sd) (WE W) (tApp tNil dvs)) (dMake sd (dAppD dNil dd)) := by
  obtain ⟨f, fd, ps, ds, m, F, hm, hb, hd, hz⟩ := M
  refine ⟨PE.imp (pe_makeD m F hr hg hm hb hd (fun σ => passAt tk σ) hdb) fun σ H Q q => q, snd_make (snd_app (fun ρ Q E h l0 F H σ S Qc k _ => k [] [] F H (.refl S.bs) .nil h) hz)⟩
/-! ### C(k = v, ..) -/
def MakeOkK (P : Program) (w : World) (K : PySem.W.Frag) (mg : Str → Option Value) (base : Heap) (k : Nat) (x : Str) (C : Addr) (sd : Sd) (ks : List Str) (f : List V → List V) : Prop := ∃ (g : Addr) (fd : FuncData) (ps : List Str) (u : List Value → List Value → List Value) (gV : List V → List V → List V),
  Mk K C g ∧ FnOk P w K mg base (L2.CX P w) k g fd ps (spIn K C sd) ∧ mg x = some (.ref C) ∧ KBn K fd ps 1 ks u gV ∧ ∀ y zs, zs.length = ks.length → gV [y] zs = y :: f zs
theorem noPass : Passes (L2.CX X.prog X.w) X (fun _ _ _ => False) := fun pins σ H s e s' I c => (noCX H s e s' c).elim
theorem de_makeK {ks : List Str} {f : List V → List V} {fd : List Sl → List Sl} (M : MakeOkK X.prog X.w X.K X.mg X.base k x C sd ks f) (hr : Room (k + 1) X.A) (hg : Gl X x) (ha : DKX X W0 kws tk dk)
    (hf : ∀ {l0 F H vs ss}, Paired (SlV X.K l0 F H) vs ss → Paired (SlV X.K l0 F H) (f vs) (fd ss))
    (hall : (backToKw pos (keywordEach kws X.env)).all (·.1.isSome) = true := by rfl) (hks : (backToKw pos (keywordEach kws X.env)).filterMap (·.1) = ks := by rfl) (hdb : (x == ("__debug__" : Str)) = false := by decide)
    (hpl : ((backTo pos (starEach [] X.env)).any (·.1) || (backToKw pos (keywordEach kws X.env)).any (·.1.isNone)) = false := by rfl) :
    DEX X W (.Call (.Name x p) [] kws pos) (tMakeS C (spIn X.K C sd) (WE W0) (tKw tk ks.length f)) (dNoE (dMake sd (dKw dk ks.length fd))) := by
  obtain ⟨g, fd', ps, u, gV, m, F, hm, hb, hv⟩ := M
  refine ⟨⟨fun pins s σ H Q I h => ?_⟩, snd_noE (snd_make (snd_kw ha.2 hf))⟩
  refine wpAny_Call_Name_kw (ld_glob I hg hm ?_ hdb)
  refine PySem.W.callWith_KW0 (h₀ := X.base) I.ok.mod.kin m.kp hall ?_ hpl
  refine thn (ha.1.run pos pins s σ H _ I h) fun ws s2 ⟨zs, H2, I2, rz, l2, q2⟩ => ⟨I2.kIn, ?_⟩
  rw [hks]
  exact run_makeK (us := []) (vs := []) m F hr hb noPass I2 .nil rz rfl l2 fun y dx a b c => by
    rw [hv _ _ l2]
    exact q2 y dx a b c
/-! ### C.m(k = v, ..), m a static method -/
def StatK (P : Program) (w : World) (K : PySem.W.Frag) (mg : Str → Option Value) (base : Heap) (k : Nat) (m : Str) (C : Addr) (sd : Sd) (ks : List Str) (f : List V → List V) : Prop := ∃ (p g : Addr) (fd : FuncData) (ps : List Str) (u : List Value → List Value → List Value) (gV : List V → List V → List V), CRead K C (.type "type") ∧
  PySem.W.findCls K (.ref C) (.type "type") m = some (.get (.builtin "staticmethod.__get__") (.ref p) .none (.ref C)) ∧ (∃ rest, PySem.W.recIn K p "staticmethod" = some (.ref g :: rest)) ∧ PySem.W.keepIn K (.ref g) = true ∧
  FnOk P w K mg base (L2.CX P w) k g fd ps (spOf K sd) ∧ KBn K fd ps 0 ks u gV ∧ ∀ zs, zs.length = ks.length → gV [] zs = f zs
theorem de_statK {m : Str} {apos : Pos} {ks : List Str} {f : List V → List V} {fs : List Sl → List Sl} {pl : Sem Bool} (M : StatK X.prog X.w X.K X.mg X.base k m C sd ks f) (hr : Room k X.A) (hg : Gl X x) (hm : X.mg x = some (.ref C)) (ha : DKX X W0 kws tk dk)
    (hf : ∀ {l0 F H vs ss}, Paired (SlV X.K l0 F H) vs ss → Paired (SlV X.K l0 F H) (f vs) (fs ss))
    (hall : (backToKw pos (keywordEach kws X.env)).all (·.1.isSome) = true := by rfl) (hks : (backToKw pos (keywordEach kws X.env)).filterMap (·.1) = ks := by rfl) (hdb : (x == ("__debug__" : Str)) = false := by decide)
    (hpl : ((backTo pos (starEach [] X.env)).any (·.1) || (backToKw pos (keywordEach kws X.env)).any (·.1.isNone)) = false := by rfl)
    (ht : eval (.Call (.Attribute (.Name x p) m apos) [] kws pos) X.env = (do
      let ov ← eval (.Name x p) X.env
      standAt apos.atName
      let (f, first) ← holding [ov] (getMethod ov m pl)
      callWith pos f first (backTo pos (starEach [] X.env)) (backToKw pos (keywordEach kws X.env))) := by rfl) :
    DEX X W (.Call (.Attribute (.Name x p) m apos) [] kws pos) (tCallSD (spOf X.K sd) [] (WE W0) (tKw tk ks.length f)) (dNoE (dCall sd [] (dKw dk ks.length fs))) := by
  obtain ⟨q, g, fd, ps, u, gV, r, hat, rc, hk, F, hb, hv⟩ := M
  refine ⟨⟨fun pins s σ H Q I h => ?_⟩, snd_noE (snd_call dd_nil (snd_kw ha.2 hf))⟩
  have he : PE X (.Name x p) (tC (.ref C)) := pe_glob hg hm rfl hdb
  refine PySem.W.methodCall_KW (pl := pl) (thn (he.run pins s σ H (fun v H1 => v = .ref C ∧ H1 = H) I ⟨rfl, rfl⟩) fun uu s1 ⟨y, H1, I1, rx, ey, eH⟩ => ?_) ht
  subst ey eH
  obtain rfl : uu = Value.ref C := rx
  refine getmethsm_ok I1 r hat rc fun s2 I2 => ?_
  refine PySem.W.callWith_KW0 (first := []) (h₀ := X.base) I.ok.mod.kin hk hall ?_ hpl
  refine thn (ha.1.run pos pins s2 σ H1 _ I2 h) fun ws s3 ⟨zs, H3, I3, rz, l3, q3⟩ => ⟨I3.kIn, ?_⟩
  rw [hks]
  refine run_fnN (us := []) (vs := []) F hr hb noPass I3 .nil rz rfl l3 ?_
  rw [hv _ l3]
  exact (List.append_nil (f zs)) ▸ q3
end
/-! ### defs with defaults -/
theorem mfnD_by {P : Program} {w : World} {K : PySem.W.Frag} {mg : Str → Option Value} {base : Heap} {x qual : Str} {st : Stmt} {N ps : List Str} {k : Nat} {sd : Sd} {ds : DS} {f : Addr} {fd : FuncData} {dvs : List V} (F : FunD K x qual (defArgs st) (defBody st) (defScope st) dvs [] f fd) (S : FnScope N ps (defScope st)) (len : ∀ as Q E, sd as Q E → as.length = ps.length)
    (hb : ∀ (X : Cx) (W : WX) (f : Addr) (cdv : Value) (A : Around) (outer : List Env) (s : Shared) (H : Hp) (E : XK), X = cxOf (L2.CX P w) P w K mg base N qual (defScope st) f cdv A outer s H E → W = WX0 E → Takes (cxOf (L2.CX P w) P w K mg base N qual (defScope st) f cdv A outer s H E) (WX0 E) → PassesOwn (model P w) (cxOf (L2.CX P w) P w K mg base N qual (defScope st) f cdv A outer s H E).A (cxOf (L2.CX P w) P w K mg base N qual (defScope st) f cdv A outer s H E).env (cxOf (L2.CX P w) P w K mg base N qual (defScope st) f cdv A outer s H E).xe →
      Room k (cxOf (L2.CX P w) P w K mg base N qual (defScope st) f cdv A outer s H E).A → (cxOf (L2.CX P w) P w K mg base N qual (defScope st) f cdv A outer s H E).A.units + 64 < cLine → N.Nodup →
      ∃ ts, DSSX (cxOf (L2.CX P w) P w K mg base N qual (defScope st) f cdv A outer s H E) (WX0 E) (defBody st) ts ds)
    (hp : ∀ as Q E, sd as Q E → ds (dEnds Q E) (startD N.length as)) : FnOk P w K mg base (L2.CX P w) (k + 1) f fd ps (spOf K sd) :=
  fn_d F S len (fun cdv A outer s H E hr => hb _ _ f cdv A outer s H E rfl rfl tk_cx po_cx hr hr.units S.nd) hp
theorem inokD_by {P : Program} {w : World} {K : PySem.W.Frag} {mg : Str → Option Value} {base : Heap} {x y qual : Str} {st : Stmt} {N ps : List Str} {k : Nat} {sd : Sd} {ds : DS} {C f : Addr} {fd : FuncData} {dvs : List V} (F : FunD K x qual (defArgs st) (defBody st) (defScope st) dvs [] f fd) (S : FnScope (y :: N) ps (defScope st)) (len : ∀ as Q E, sd as Q E → as.length + 1 = ps.length)
    (hb : ∀ (X : Cx) (W : WX) (f : Addr) (cdv : Value) (A : Around) (outer : List Env) (s : Shared) (H : Hp) (E : XK), X = cxOf (L2.CX P w) P w K mg base (y :: N) qual (defScope st) f cdv A outer s H E → W = WX0 E → Takes (cxOf (L2.CX P w) P w K mg base (y :: N) qual (defScope st) f cdv A outer s H E) (WX0 E) → PassesOwn (model P w) (cxOf (L2.CX P w) P w K mg base (y :: N) qual (defScope st) f cdv A outer s H E).A (cxOf (L2.CX P w) P w K mg base (y :: N) qual (defScope st) f cdv A outer s H E).env (cxOf (L2.CX P w) P w K mg base (y :: N) qual (defScope st) f cdv A outer s H E).xe →
      Room k (cxOf (L2.CX P w) P w K mg base (y :: N) qual (defScope st) f cdv A outer s H E).A → (cxOf (L2.CX P w) P w K mg base (y :: N) qual (defScope st) f cdv A outer s H E).A.units + 64 < cLine → (y :: N).Nodup →
      ∃ ts, DSSX (cxOf (L2.CX P w) P w K mg base (y :: N) qual (defScope st) f cdv A outer s H E) (WX0 E) (defBody st) ts ds)
    (hp : ∀ p as Q E, sd as Q E → ds (dEndsI p C Q E) (startI p C (y :: N).length as)) : FnOk P w K mg base (L2.CX P w) (k + 1) f fd ps (spIn K C sd) :=
  fn_dIn F S len (fun cdv A outer s H E hr => hb _ _ f cdv A outer s H E rfl rfl tk_cx po_cx hr hr.units S.nd) hp
theorem vals_cut : ∀ (n : Nat) {vs : List V} {us : List Value}, Vals vs us → Vals ((vs.drop n).take 1) ((us.drop n).take 1)
  | _, [], [], .nil => by simpa using Paired.nil
  | 0, _ :: _, _ :: _, .cons h _ => .cons h .nil
  | n + 1, _ :: _, _ :: _, .cons _ t => vals_cut n t
theorem MakeOkD.mono {P : Program} {w : World} {K : PySem.W.Frag} {mg : Str → Option Value} {base : Heap} {j k : Nat} {x : Str} {C : Addr} {sd : Sd} {dvs : List V} {dd : List Dt} (M : MakeOkD P w K mg base j x C sd dvs dd) (h : j ≤ k) : MakeOkD P w K mg base k x C sd dvs dd := by
  obtain ⟨f, fd, ps, ds, h1, F, h2⟩ := M
  exact ⟨f, fd, ps, ds, h1, F.mono h, h2⟩
theorem MakeOkK.mono {P : Program} {w : World} {K : PySem.W.Frag} {mg : Str → Option Value} {base : Heap} {j k : Nat} {x : Str} {C : Addr} {sd : Sd} {ks : List Str} {f : List V → List V} (M : MakeOkK P w K mg base j x C sd ks f) (h : j ≤ k) : MakeOkK P w K mg base k x C sd ks f := by
  obtain ⟨g, fd, ps, u, gV, h1, F, h2⟩ := M
  exact ⟨g, fd, ps, u, gV, h1, F.mono h, h2⟩
end DW

set_option Elab.async false
set_option linter.all false
set_option maxRecDepth 100000
/-! DW, part 34: an __init__ with a star parameter, C(*a, *b), an instance called, an own operator of plain instances that may raise. -/
namespace DW
open PySem PySem.Spec PyProof.Rows L2 StX SlX
/-! ### __init__(self, *v) -/
theorem sp_starI {K : PySem.W.Frag} {C : Addr} {n : Nat} {sd : Sd} {vs : List V} {H : Hp} {Q : VK} {E : XK} (h : spIn K C (sdStar n sd) vs H Q E) :
    ∃ ws rest, vs = ws ++ rest ∧ ws.length = n + 1 ∧ rest.length ≤ sizeLine ∧ ∀ p, H p = Option.none → spIn K C sd (ws ++ [V.ref p]) (upd H p (.tup rest)) Q E := by
  obtain ⟨x, us, l0, F, ds, Qd, Ed, dx, rfl, b, hF, n0, hH, hd, r, ⟨ws, rs, e, hl, hz, q⟩, hq, he⟩ := h
  subst e
  obtain ⟨u1, t1, e, r1, r2⟩ := r.split
  subst e
  refine ⟨.ref x :: u1, t1, rfl, by rw [List.length_cons, r1.length, hl], by rw [r2.length]; exact Evl.sz_of hz, fun p hp => ?_⟩
  have g := Go.fresh (p := p) b (.tup t1) hp
  have xp : x ≠ p := fun e => by rw [e, hp] at hH; cases hH
  have dp : dx ≠ p := fun e => by
    have := hd.2.2
    rw [e, hp] at this
    cases this
  have toI : ∀ {F' H'}, GoI l0 x (upd F p (.tup t1)) (upd H p (.tup t1)) F' H' → GoI l0 x F H F' H' := fun {F' H'} gi => by
    refine ⟨gi.bs, fun a o h => gi.ex a o (g.ex a o h), fun a h1 h2 => ?_, fun a o h1 h2 h3 => gi.keep a o h1 h2 (by rw [upd_ne (ne_of_none h3 hp)]; exact h3)⟩
    by_cases ap : a = p
    · exact .inl (by rw [ap]; exact hp)
    · exact (gi.new a (by rw [upd_ne ap]; exact h1) h2).imp (fun z => by rw [upd_ne ap] at z; exact z) id
  exact ⟨x, u1 ++ [.ref p], l0, _, ws ++ [.tup rs], Qd, Ed, dx, rfl, g.bs, by rw [upd_ne xp]; exact hF, n0, by rw [upd_ne xp]; exact hH, ⟨by rw [upd_ne dp]; exact hd.1, hd.2.1, by rw [upd_ne dp]; exact hd.2.2⟩,
    (Dens.mono g.ex r1).append (Dens.one (Den.tup (SqT.of upd_same) (Dens.mono g.ex r2))), q, fun gs fs dx' F' H' gi z1 z2 z3 z4 => hq gs fs dx' F' H' (toI gi) z1 z2 z3 z4, fun cls dct xn F' H' gi rx ex => he cls dct xn F' H' (toI gi) rx ex⟩
theorem fnr_starI {P : Program} {w : World} {K : PySem.W.Frag} {mg : Str → Option Value} {base : Heap} {x y qual : Str} {st : Stmt} {f C : Addr} {fd : FuncData} {N ps : List Str} {pv : Str} {k : Nat} {sd : Sd} {ds : DS}
    (F : FunD K x qual (defArgs st) (defBody st) (defScope st) [] [] f fd) (S : FnScope (y :: N) ((y :: ps) ++ [pv]) (defScope st))
    (hbd : ∀ (kV doc pm : Value) (an : Option Addr) (cdv ct : Value) (us rest : List Value), us.length = (y :: ps).length → bindArgs (PySem.W.fnOf x qual (defArgs st) (defBody st) (defScope st) .none kV doc pm an cdv ct) ⟨us ++ rest, []⟩ = (newTuple rest >>= fun t => pure ((y :: ps).zip us ++ [(pv, t)])))
    (hb : ∀ (X : Cx) (W : WX) (f : Addr) (cdv : Value) (A : Around) (outer : List Env) (s : Shared) (H : Hp) (E : XK), X = cxOf (L2.CX P w) P w K mg base (y :: N) qual (defScope st) f cdv A outer s H E → W = WX0 E → Takes (cxOf (L2.CX P w) P w K mg base (y :: N) qual (defScope st) f cdv A outer s H E) (WX0 E) → PassesOwn (model P w) (cxOf (L2.CX P w) P w K mg base (y :: N) qual (defScope st) f cdv A outer s H E).A (cxOf (L2.CX P w) P w K mg base (y :: N) qual (defScope st) f cdv A outer s H E).env (cxOf (L2.CX P w) P w K mg base (y :: N) qual (defScope st) f cdv A outer s H E).xe →
      Room k (cxOf (L2.CX P w) P w K mg base (y :: N) qual (defScope st) f cdv A outer s H E).A → (cxOf (L2.CX P w) P w K mg base (y :: N) qual (defScope st) f cdv A outer s H E).A.units + 64 < cLine → (y :: N).Nodup →
      ∃ ts, DSSX (cxOf (L2.CX P w) P w K mg base (y :: N) qual (defScope st) f cdv A outer s H E) (WX0 E) (defBody st) ts ds)
    (hp : ∀ p as Q E, sd as Q E → ds (dEndsI p C Q E) (DW.startI p C (y :: N).length as)) : FnR P w K mg base (L2.CX P w) (k + 1) f (spIn K C (sdStar ps.length sd)) := by
  obtain ⟨oc, od, dV, kV, doc, pm, an, cdv, ct, osl, rfl, lk, hcd, hD, _⟩ := F.ex
  obtain rfl : dV = .none := by
    rcases hD with ⟨_, e⟩ | ⟨e, _⟩
    · exact e
    · exact absurd rfl e
  refine FnR.imp (fn_star (sp := spIn K C sd) lk hcd S cxUp (fun us rest hl => hbd kV doc pm an cdv ct us rest hl) (fun A outer s H vs Q E hr h => ?_)) fun vs H Q E h => sp_starI h
  obtain ⟨x, us, l0, F, as, Qd, Ed, dx, e, b, hF, n0, hH, hd, r, h, hq, he⟩ := h
  subst e
  obtain ⟨ts, p, sd⟩ := hb _ _ f cdv A outer s H E rfl rfl tk_cx po_cx hr hr.units S.nd
  have toI : ∀ {F' H'}, GoS l0 F H (L2.start (y :: N) (.ref x :: us)) (DW.startI (x, dx) C (y :: N).length as) F' H' → GoI l0 x F H F' H' := fun g =>
    ⟨g.bs, g.ex, fun a h1 h2 => (g.new a h1 h2).imp id startI_ow, fun a o n1 n2 e => g.keep a o n1 (fun z => n2 (startI_ow z)) e⟩
  refine ⟨ts, p, sd _ _ (hp (x, dx) as Qd Ed h) l0 F H _ (Stt.startI b hF n0 hH hd r) _ ⟨fun F' H' σ' ρ' g w S' q => ?_, fun F' H' v d g r q => q.elim, fun F' H' σ' ρ' g w S' q => q.elim, fun F' H' σ' ρ' g w S' q => q.elim, fun cls d x F' H' σ' ρ' g w S' r q => ?_, fun F' H' σ' ρ' v d g w S' r q => q.elim⟩⟩
  · obtain ⟨gs, h0, q⟩ := q
    obtain ⟨fs, _, z1, _, z3, z4, _⟩ := S'.oob h0
    exact hq gs fs dx F' H' (toI g) z1 z3 z4 q
  · exact he cls d x F' H' (toI g) r q
def MakeOkR (P : Program) (w : World) (K : PySem.W.Frag) (mg : Str → Option Value) (base : Heap) (k : Nat) (x : Str) (C : Addr) (sd : Sd) : Prop := ∃ f, Mk K C f ∧ FnR P w K mg base (L2.CX P w) k f (spIn K C sd) ∧ mg x = some (.ref C)
theorem MakeOkR.mono {P : Program} {w : World} {K : PySem.W.Frag} {mg : Str → Option Value} {base : Heap} {j k : Nat} {x : Str} {C : Addr} {sd : Sd} (M : MakeOkR P w K mg base j x C sd) (h : j ≤ k) : MakeOkR P w K mg base k x C sd := by
  obtain ⟨f, h1, F, h2⟩ := M
  exact ⟨f, h1, F.mono h, h2⟩
section
variable {X : Cx} {W : WX} {k : Nat} {C : Addr} {sd : Sd} {x : Str} {p pos p1 p2 : Pos} {e e1 e2 : Expr} {es : List Expr} {t : TA} {da : DA}
theorem run_makeRS {pins : List (Addr × Obj)} {σ : L2.St} {H : Hp} {s : Shared} {Q : VK} {us : List Value} {vs : List V} {f : Addr} {sp : Sp} {E : XK} (M : Mk X.K C f) (F : FnR X.prog X.w X.K X.mg X.base (L2.CX X.prog X.w) k f sp) (hr : Room (k + 1) X.A)
    (hx : PassesAt (L2.CX X.prog X.w) X σ E) (I : Inv X pins σ H s) (r : Vals vs us)
    (h : ∀ x dx, H x = none → H dx = none → dx ≠ x → sp (.ref x :: vs) (upd (upd H dx (.own x)) x (.ins C dx [])) (fun v H2 => v = .non ∧ Q (.ref x) H2) E) :
    wpAny (model X.prog X.w) X.A (call (.ref C) us) (EP X pins σ Q) X.xe s := by
  have hq := h (s.heap.objs.size + 1) s.heap.objs.size (I.hok.fresh (Nat.le_succ _)) (I.hok.fresh (Nat.le_refl _)) (Nat.ne_of_lt (Nat.lt_succ_self _))
  have I2 := Inv.made (C := C) I
  have r2 : Vals (V.ref (s.heap.objs.size + 1) :: vs) (Value.ref (s.heap.objs.size + 1) :: us) := .cons rfl r
  refine wpAny_call (make_map (f := f) I.kIn M.makes M.init (beq_iff_eq.mp M.fn) (codeAny_mono (F _ X.stack _ _ (Value.ref (s.heap.objs.size + 1) :: us) _ _ E (hr.make C us []) (I2.env0.make C us []) r2 hq) fun r s' hq' => ?_))
  cases r with
  | error e => exact hx pins _ _ e s' I2 hq'
  | ok fl =>
    cases fl with
    | ret u =>
      obtain ⟨v, H', I3, rv, ev, q3⟩ := I2.after hq'
      subst ev
      exact ⟨rv, ⟨V.ref (s.heap.objs.size + 1), H', I3, rfl, q3⟩⟩
    | next => exact False.elim hq'
    | brk => exact False.elim hq'
    | cont => exact False.elim hq'
theorem de_makeR (M : MakeOkR X.prog X.w X.K X.mg X.base k x C sd) (tk : Takes X W) (hr : Room (k + 1) X.A) (hg : Gl X x) (ha : DAX X W (e :: es) t da)
    (hdb : (x == ("__debug__" : Str)) = false := by decide) (he : starEach (e :: es) X.env = (false, eval e X.env) :: starEach es X.env := by rfl) (hpl : (backTo pos (starEach es X.env)).any (·.1) = false := by rfl) :
    DEX X W (.Call (.Name x p) (e :: es) [] pos) (tMakeS C (spIn X.K C sd) (WE W) t) (dMake sd da) := by
  obtain ⟨f, m, F, hm⟩ := M
  refine ⟨⟨fun pins s σ H Q I h => ?_⟩, snd_make ha.2⟩
  refine wpAny_Call_Name_kw (ld_glob I hg hm ?_ hdb)
  refine PySem.W.callWith_K (h₀ := X.base) I.ok.mod.kin m.kp (thn (ha.1.run pos pins s σ H _ I h) fun us s1 ⟨vs, H1, I1, r, q⟩ => ⟨I1.kIn, ?_⟩) he hpl
  exact run_makeRS m F hr (passAt tk σ) I1 r q
theorem de_makeR0 (M : MakeOkR X.prog X.w X.K X.mg X.base k x C sd) (tk : Takes X W) (hr : Room (k + 1) X.A) (hg : Gl X x) (hdb : (x == ("__debug__" : Str)) = false := by decide) :
    DEX X W (.Call (.Name x p) [] [] pos) (tMakeS C (spIn X.K C sd) (WE W) tNil) (dMake sd dNil) := by
  obtain ⟨f, m, F, hm⟩ := M
  refine ⟨⟨fun pins s σ H Q I h => ?_⟩, snd_make (fun ρ Q E h l0 F H σ S Qc k _ => k [] [] F H (.refl S.bs) .nil h)⟩
  refine wpAny_Call_Name_kw (ld_glob I hg hm ?_ hdb)
  exact PySem.W.callWith_K0 I.kIn m.kp (run_makeRS (us := []) (vs := []) m F hr (passAt tk σ) I .nil h)
/-! ### C(*a, *b) -/
def dStar (de : DE) (da : DA) : DA := fun ρ Q E => de ρ (fun s => ∃ ds, seqDt s = some ds ∧ (∃ d, s = .dat d) ∧ da ρ (fun ss => Q (ds.map Sl.dat ++ ss)) E) E
theorem dax_star {te : TE} {de : DE} (he : DEX X W e te de) (hr : DAX X W es t da) (hs : starEach (.Starred e p :: es) X.env = (true, eval e X.env) :: starEach es X.env := by rfl) : DAX X W (.Starred e p :: es) (tStar X.K te t) (dStar de da) := by
  refine ⟨pa_star he.1 hr.1 hs, fun ρ Q E q l0 F H σ S Qc k kx => ?_⟩
  refine he.2 ρ _ E q l0 F H σ S _ (fun v s F1 H1 g1 r1 q1 => ?_) kx
  obtain ⟨ds, e1, ⟨d, e2⟩, q2⟩ := q1
  have fin : ∀ {a : Addr} {xs : List V}, v = .ref a → (SqT X.K H1 a xs ∨ SqL X.K H1 a xs) → Dens X.K l0 F1 xs ds → ∃ p xs, v = V.ref p ∧ (SqT X.K H1 p xs ∨ SqL X.K H1 p xs) ∧ t σ H1 fun ys H2 => Qc (xs ++ ys) H2 := fun {a xs} ev hs hd => by
    refine ⟨a, xs, ev, hs, hr.2 ρ _ E q2 l0 F1 H1 σ (S.go g1) _ (fun ys ss F2 H2 g2 r2 q3 => ?_) (kx.go g1)⟩
    exact k _ _ F2 H2 (g1.trans g2) (pairs_app (of_dens (Dens.mono g2.ex hd)) r2) q3
  unfold seqDt at e1
  split at e1
  · cases e1
    obtain ⟨a, xs, ev, z1, z2⟩ := r1.list g1.bs (.inl rfl)
    exact fin ev (.inr z1) z2
  · cases e1
    obtain ⟨a, xs, ev, z1, z2⟩ := r1.tuple g1.bs
    exact fin ev (.inl z1) z2
  · cases e2
  · cases e1
theorem ev_two {M : Model} {A : Around} {E : Value → Shared → Prop} {s : Shared} {f : Value} {y : Sem Value} {z : Bool × Sem Value} {rest : List (Bool × Sem Value)} {Q : Args → Shared → Prop}
    (h : wpAny M A (spliced ((true, y) :: z :: rest)) (fun vs s' => Q ⟨vs, []⟩ s') E s) : wpAny M A (evalArgs f true ((true, y) :: z :: rest) []) Q E s := by
  unfold evalArgs
  show wpAny M A (spliced ((true, y) :: z :: rest) >>= _) Q E s
  exact wpAny_bind (wpAny_mono h (fun vs s' h' => wpAny_holding (wpAny_bind (wpAny_pure (wpAny_bind (wpAny_pure (wpAny_pure h')))))) fun _ _ x => x)
theorem de_makeSS (M : MakeOkR X.prog X.w X.K X.mg X.base k x C sd) (tk : Takes X W) (hr : Room (k + 1) X.A) (hg : Gl X x) (ha : DAX X W [.Starred e1 p1, .Starred e2 p2] t da)
    (hdb : (x == ("__debug__" : Str)) = false := by decide) (he : backTo pos (starEach [.Starred e1 p1, .Starred e2 p2] X.env) = [(true, (do let v ← eval e1 X.env; standAt pos; pure v)), (true, (do let v ← eval e2 X.env; standAt pos; pure v))] := by rfl) :
    DEX X W (.Call (.Name x p) [.Starred e1 p1, .Starred e2 p2] [] pos) (tMakeS C (spIn X.K C sd) (WE W) t) (dMake sd da) := by
  obtain ⟨f, m, F, hm⟩ := M
  refine ⟨⟨fun pins s σ H Q I h => ?_⟩, snd_make ha.2⟩
  refine wpAny_Call_Name_kw (ld_glob I hg hm ?_ hdb)
  have z := ha.1.run pos pins s σ H _ I h
  rw [he] at z ⊢
  refine PySem.W.ks_call (P := fun h => X.K.In h) rfl (PySem.W.keeps_K m.kp) (ev_two (thn z fun us s1 ⟨vs, H1, I1, r, q⟩ => ⟨I1.kIn, ?_⟩))
  exact run_makeRS m F hr (passAt tk σ) I1 r q
/-! ### o(..), o a plain instance whose class has __call__ -/
def CallM (P : Program) (w : World) (K : PySem.W.Frag) (mg : Str → Option Value) (base : Heap) (k : Nat) (C : Addr) (sd : Sd) : Prop := ∃ (g : Addr) (fd : FuncData) (ps : List Str), CallO K C g ∧ FnOk P w K mg base (L2.CX P w) k g fd ps (spOf K sd) ∧ Binds K fd ps []
def dCallO (C : Addr) (sd : Sd) (df : DE) (da : DA) : DE := fun ρ Q E => df ρ (fun s => ∃ gs, s = .dat (.obj C gs) ∧ da ρ (fun ss => plain ss fun ds => sd (.obj C gs :: ds) (fun d => Q (.dat d)) fun _ => False) E) E
theorem de_callO {fe : Expr} {tf : TE} {df : DE} (M : CallM X.prog X.w X.K X.mg X.base k C sd) (hr : Room k X.A) (hf : DEX X W fe tf df) (ha : DAX X W (e :: es) t da)
    (ht : eval (.Call fe (e :: es) [] pos) X.env = (do callWith pos (← eval fe X.env) [] (backTo pos (starEach (e :: es) X.env)) (backToKw pos (keywordEach [] X.env))) := by rfl)
    (he : starEach (e :: es) X.env = (false, eval e X.env) :: starEach es X.env := by rfl) (hpl : (backTo pos (starEach es X.env)).any (·.1) = false := by rfl) :
    DEX X W (.Call fe (e :: es) [] pos) (tCallO X C (spOf X.K sd) (fun _ _ _ => False) tf t) (dCallO C sd df da) := by
  obtain ⟨g, fd, ps, c, F, b⟩ := M
  refine ⟨pe_callO hf.1 c (raw0 F b) hr noPass ha.1 ht he hpl, fun ρ Q E q l0 F H σ S Qc kk kx => ?_⟩
  refine hf.2 ρ _ E q l0 F H σ S _ (fun y s F1 H1 g1 r1 q1 => ?_) kx
  obtain ⟨gs, e1, q2⟩ := q1
  subst e1
  have r1 : Den X.K l0 F1 y (.obj C gs) := r1
  obtain ⟨a, ey⟩ : ∃ a, y = V.ref a := by cases r1; exact ⟨_, rfl⟩
  subst ey
  refine ⟨a, rfl, ha.2 ρ _ E q2 l0 F1 H1 σ (S.go g1) _ (fun vs ss F2 H2 g2 r2 q3 => ?_) (kx.go g1)⟩
  obtain ⟨ds, e3, q4⟩ := plain_of q3
  subst e3
  have ro := Den.mono g2.ex r1
  refine ⟨?_, ?_⟩
  · cases ro with
    | obj h _ => exact .inr ⟨_, _, g2.bs.sub _ _ h⟩
  · exact ⟨l0, F2, _, _, _, g2.bs, .cons ro (dens_of r2), q4, fun v d F' H' g r q => kk v (.dat d) F' H' ((g1.trans g2).trans g) r q, fun _ _ _ _ _ _ _ z => z.elim⟩
/-! ### a op b of plain instances -/
def OpM (P : Program) (w : World) (K : PySem.W.Frag) (mg : Str → Option Value) (base : Heap) (k : Nat) (m : Str) (C : Addr) (sd : Sd) : Prop := PySem.W.selfFirst K C = true ∧ MOk P w K mg base k m C sd
def IsObj (H : Hp) (C : Addr) (v : V) : Prop := ∃ a dx fs, v = V.ref a ∧ H a = some (.ins C dx fs)
theorem isObj_of {K : PySem.W.Frag} {l0 : Addr} {F H : Hp} {v : V} {C : Addr} {gs : List (Str × Dt)} (b : Same F H) (r : Den K l0 F v (.obj C gs)) : IsObj H C v := by
  cases r with
  | obj h _ => exact ⟨_, _, _, rfl, b _ _ h⟩
def tOpM (X : Cx) (C : Addr) (sd : Sd) (E : L2.St → XK) (ta tb : TE) : TE := fun σ H Q => ta σ H fun x H1 => tb σ H1 fun y H2 => (IsObj H2 C x ∧ IsObj H2 C y) ∧ spOf X.K sd [x, y] H2 Q (E σ)
def dOpM (C : Addr) (sd : Sd) (da db : DE) : DE := fun ρ Q E => da ρ (fun s => ∃ gs, s = .dat (.obj C gs) ∧ db ρ (fun t => ∃ hs, t = .dat (.obj C hs) ∧ sd [.obj C gs, .obj C hs] (fun d => Q (.dat d)) E) E) E
theorem de_opM {op : Operator} {m : Str} {ta tb : TE} {da db : DE} (M : OpM X.prog X.w X.K X.mg X.base k m C sd) (tk : Takes X W) (hr : Room k X.A) (ha : DEX X W e1 ta da) (hb : DEX X W e2 tb db) (hm : PySem.dunder op.info.2 = m := by decide +kernel) :
    DEX X W (.BinOp e1 op e2 pos) (tOpM X C sd (WE W) ta tb) (dOpM C sd da db) := by
  obtain ⟨sf, g, fd, ps, cl, me, F, bd⟩ := M
  subst hm
  refine ⟨⟨fun pins s σ H Q I h => ?_⟩, fun ρ Q E q l0 F H σ S Qc kk kx => ?_⟩
  · refine wpAny_BinOp (binT ha.1 hb.1 I h fun v u s2 x y H2 I2 rx ry q => ?_)
    obtain ⟨⟨⟨a, dx, fs, rfl, ha⟩, ⟨b, dy, gs, rfl, hb⟩⟩, q⟩ := q
    cases (show v = Value.ref a from rx)
    cases (show u = Value.ref b from ry)
    obtain ⟨mA, O, _⟩ := ins_get I2.hok ha
    obtain ⟨od, J, _⟩ := O.look
    obtain ⟨mB, O', _⟩ := ins_get I2.hok hb
    obtain ⟨od', J', _⟩ := O'.look
    obtain ⟨m, hF⟩ := I2.fr
    refine PySem.W.binop_K hF I2.ok.mod.kin J J'.type sf me.at_ me.fn ?_
    refine wpAny_mono (run_fnRS (us := [.ref a, .ref b]) (vs := [.ref a, .ref b]) (raw0 F bd) hr (passAt tk σ) I2 (.cons rfl (.cons rfl .nil)) q) (fun w s' z => ?_) fun _ _ x => x
    obtain ⟨z', H', I', rz, qz⟩ := z
    exact cmpback rz ⟨z', H', I', rz, qz⟩
  · refine ha.2 ρ _ E q l0 F H σ S _ (fun x s F1 H1 g1 r1 q1 => ?_) kx
    obtain ⟨gs, e1, q2⟩ := q1
    subst e1
    refine hb.2 ρ _ E q2 l0 F1 H1 σ (S.go g1) _ (fun y t F2 H2 g2 r2 q3 => ?_) (kx.go g1)
    obtain ⟨hs, e2, q4⟩ := q3
    subst e2
    have ra : Den X.K l0 F2 x (.obj C gs) := Den.mono g2.ex r1
    have rb : Den X.K l0 F2 y (.obj C hs) := r2
    refine ⟨⟨isObj_of g2.bs.sub ra, isObj_of g2.bs.sub rb⟩, l0, F2, _, _, E, g2.bs, .cons ra (.cons rb .nil), q4, fun v d F' H' g r q => kk v (.dat d) F' H' ((g1.trans g2).trans g) r q, fun cls dct x F' H' g r q => kx cls dct x F' H' ((g1.trans g2).trans g) r q⟩
end
end DW

set_option Elab.async false
set_option linter.all false
set_option maxRecDepth 100000
/-! DW, part 35: checks for instances that are called and for operators that may raise. -/
namespace DW
open PySem PySem.Spec PyProof.Rows L2 StX SlX
def calB (K : PySem.W.Frag) (C g : Addr) : Bool := He.eqO (PySem.W.findIn K (.ref C) "__call__") (some (some (.ref g))) && (PySem.W.isFn K (.ref g) && PySem.W.fnIn K g)
theorem calB_ok {K : PySem.W.Frag} {C g : Addr} (h : calB K C g = true) : CallO K C g := by
  obtain ⟨h1, h⟩ := He.ba h
  obtain ⟨h2, h3⟩ := He.ba h
  exact ⟨He.eqO_ok h1, h2, h3⟩
theorem CallM.mono {P : Program} {w : World} {K : PySem.W.Frag} {mg : Str → Option Value} {base : Heap} {j k : Nat} {C : Addr} {sd : Sd} (M : CallM P w K mg base j C sd) (h : j ≤ k) : CallM P w K mg base k C sd := by
  obtain ⟨g, fd, ps, c, F, b⟩ := M
  exact ⟨g, fd, ps, c, F.mono h, b⟩
theorem OpM.mono {P : Program} {w : World} {K : PySem.W.Frag} {mg : Str → Option Value} {base : Heap} {j k : Nat} {m : Str} {C : Addr} {sd : Sd} (M : OpM P w K mg base j m C sd) (h : j ≤ k) : OpM P w K mg base k m C sd := ⟨M.1, M.2.mono h⟩
/-! ### xs != [], xs == [], whatever xs holds -/
def rNeL (K : PySem.W.Frag) : R2 := fun x y H Q => ∃ a b xs, x = V.ref a ∧ y = V.ref b ∧ SqL K H a xs ∧ SqL K H b [] ∧ Q (.bl (!xs.isEmpty)) H
def rEqL (K : PySem.W.Frag) : R2 := fun x y H Q => ∃ a b xs, x = V.ref a ∧ y = V.ref b ∧ SqL K H a xs ∧ SqL K H b [] ∧ Q (.bl xs.isEmpty) H
theorem szs {xs : List V} {its : List Value} (r : Vals xs its) : its.toArray.size = xs.length := by
  rw [r.length, List.size_toArray]
theorem op_neL {X : Cx} (hu : X.A.units + 64 < cLine) : L2.OpR X (compareOp .NotEq) (rNeL X.K) := by
  intro pins s σ H x y v u Q I rx ry h
  obtain ⟨a, b, xs, rfl, rfl, h1, h2, q⟩ := h
  cases (show v = Value.ref a from rx)
  cases (show u = Value.ref b from ry)
  obtain ⟨i1, r1, ⟨o1, n1, ho1, hc1, _, hd1⟩, _⟩ := I.list h1
  have l1 : s.heap.IsList a i1.toArray := ⟨o1, ho1, hc1, n1, hd1⟩
  obtain ⟨i2, r2, ⟨o2, n2, ho2, hc2, _, hd2⟩, _⟩ := I.list h2
  have l2 : s.heap.IsList b i2.toArray := ⟨o2, ho2, hc2, n2, hd2⟩
  have z2 : i2.toArray.size = 0 := szs r2
  cases xs with
  | nil =>
    have z1 : i1.toArray.size = 0 := szs r1
    have k := PySem.SeqAt.RcNeAt.lists (A := X.A) (e := fun _ => true) l1 l2 (by rw [z1, z2]) (by omega) (fun j h1 _ => absurd h1 (by omega))
    refine k _ _ _ _ ⟨.bl _, H, I, ?_, q⟩
    rw [z1]
    rfl
  | cons w ws =>
    have z1 : i1.toArray.size = ws.length + 1 := szs r1
    have k := PySem.SeqAt.RcNeAt.lists_lengths (A := X.A) l1 l2 (by rw [z1, z2]; simp) (by omega)
    exact k _ _ _ _ ⟨.bl _, H, I, rfl, q⟩
theorem op_eqL {X : Cx} (hu : X.A.units + 64 < cLine) : L2.OpR X (compareOp .Eq) (rEqL X.K) := by
  intro pins s σ H x y v u Q I rx ry h
  obtain ⟨a, b, xs, rfl, rfl, h1, h2, q⟩ := h
  cases (show v = Value.ref a from rx)
  cases (show u = Value.ref b from ry)
  obtain ⟨i1, r1, ⟨o1, n1, ho1, hc1, _, hd1⟩, _⟩ := I.list h1
  have l1 : s.heap.IsList a i1.toArray := ⟨o1, ho1, hc1, n1, hd1⟩
  obtain ⟨i2, r2, ⟨o2, n2, ho2, hc2, _, hd2⟩, _⟩ := I.list h2
  have l2 : s.heap.IsList b i2.toArray := ⟨o2, ho2, hc2, n2, hd2⟩
  have z2 : i2.toArray.size = 0 := szs r2
  cases xs with
  | nil =>
    have z1 : i1.toArray.size = 0 := szs r1
    have k := PySem.SeqAt.RcAt.lists (A := X.A) (e := fun _ => true) l1 l2 (by rw [z1, z2]) (by omega) (fun j h1 _ => absurd h1 (by omega))
    refine k _ _ _ _ ⟨.bl _, H, I, ?_, q⟩
    rw [z1]
    rfl
  | cons w ws =>
    have z1 : i1.toArray.size = ws.length + 1 := szs r1
    have k := PySem.SeqAt.RcAt.lists_lengths (A := X.A) l1 l2 (by rw [z1, z2]; simp) (by omega)
    exact k _ _ _ _ ⟨.bl _, H, I, rfl, q⟩
def dNeL : D2 := fun x y Q => ∃ ds, lstOf x = some ds ∧ y = .dat (.lst []) ∧ Q (.dat (.v (.bl (!ds.isEmpty))))
def dEqL : D2 := fun x y Q => ∃ ds, lstOf x = some ds ∧ y = .dat (.lst []) ∧ Q (.dat (.v (.bl ds.isEmpty)))
theorem dens_emp {K : PySem.W.Frag} {l0 : Addr} {F : Hp} {xs : List V} {ds : List Dt} (r : Dens K l0 F xs ds) : xs.isEmpty = ds.isEmpty := by cases r <;> rfl
theorem sr_neL {K : PySem.W.Frag} : SndR K (rNeL K) dNeL := fun x y s t Q h l0 F H b r1 r2 Qc k => by
  obtain ⟨ds, e1, e2, q⟩ := h
  subst e2
  obtain ⟨p, xs, e3, z1, z2⟩ := r1.list b (lstOf_is e1)
  obtain ⟨p', ys, e4, z3, z4⟩ := r2.list b (.inl rfl)
  cases z4
  exact ⟨p, p', xs, e3, e4, z1, z3, by rw [dens_emp z2]; exact k.here b q⟩
theorem sr_eqL {K : PySem.W.Frag} : SndR K (rEqL K) dEqL := fun x y s t Q h l0 F H b r1 r2 Qc k => by
  obtain ⟨ds, e1, e2, q⟩ := h
  subst e2
  obtain ⟨p, xs, e3, z1, z2⟩ := r1.list b (lstOf_is e1)
  obtain ⟨p', ys, e4, z3, z4⟩ := r2.list b (.inl rfl)
  cases z4
  exact ⟨p, p', xs, e3, e4, z1, z3, by rw [dens_emp z2]; exact k.here b q⟩
end DW

set_option Elab.async false
set_option linter.all false
set_option maxRecDepth 100000
/-! DW, part 36: for i in reversed(range(n)); a // b, b below zero. -/
namespace DW
open PySem PySem.Spec PyProof.Rows L2 StX SlX
/-- n - 1, .., 0 -/
def downs (n : Nat) : List Dt := (List.range n).map fun i => .v (.int ((n : Int) - 1 - (i : Nat)))
theorem downs_len (n : Nat) : (downs n).length = n := by unfold downs; rw [List.length_map, List.length_range]
theorem downs_get {n i : Nat} (h : i < n) : (downs n)[i]? = some (.v (.int ((n : Int) - 1 - (i : Nat)))) := by
  unfold downs
  rw [List.getElem?_map, List.getElem?_range h]
  rfl
theorem Wlk.downs {K : PySem.W.Frag} {l0 : Addr} {F : Hp} {n : Nat} {lo : Int} (e : lo = (n : Int) - 1) : Wlk K l0 (Itc lo (-1) n) F (DW.downs n) where
  go := fun i F' H' _ b hi => by
    rw [downs_len] at hi
    exact hi
  yld := fun i F' H' x H2 _ b hi y => by
    rw [downs_len] at hi
    obtain ⟨e1, e2⟩ := y
    subst e1 e2
    refine ⟨F', _, .refl b, downs_get hi, ?_⟩
    rw [show lo + (i : Nat) * -1 = (n : Int) - 1 - (i : Nat) by omega]
    exact .v _
  stop := fun F' H' _ b => by
    show n ≤ (DW.downs n).length
    rw [downs_len]
    exact Nat.le_refl _
def iRv1 (a : DE) : DI := fun ρ Q E => a ρ (fun s => ∃ n : Nat, s = .dat (.v (.int n)) ∧ n < 2 ^ 62 ∧ Q (downs n)) E
theorem di_revR {X : Cx} {W : WX} {a tg : Expr} {p p2 pos pos2 : Pos} {xa : TE} {da : DE} (hg : Gl X "reversed") (hm : X.mg "reversed" = none) (hg2 : Gl X "range") (hm2 : X.mg "range" = none) (ha : DEX X W a xa da)
    (hs : starEach [a] X.env = (false, eval a X.env) :: starEach [] X.env := by rfl) : DIX X W tg (.Call (.Name "reversed" p) [.Call (.Name "range" p2) [a] [] pos2] [] pos) (iRevR (tRg1 xa)) (iRv1 da) := by
  obtain ⟨pa, st⟩ := ha
  refine ⟨pi_revR hg hm (prg_1 hg2 hm2 pa hs), fun ρ Q E h l0 F H σ S R k kx => ?_⟩
  refine st ρ _ E h l0 F H σ S _ (fun x s F1 H1 g1 r1 q1 => ?_) kx
  obtain ⟨n, e, hn, q⟩ := q1
  subst e
  cases r1
  refine ⟨n, rfl, by decide, by decide, by omega, by omega, ?_⟩
  have e1 : ((n : Int) - 0).toNat = n := by omega
  rw [e1]
  exact k _ _ F1 H1 g1 (.downs (by omega)) q
theorem for_downs {g : DG} {b : DS} {D : DEnds} {n : Nat} {ρ : En} (P : Nat → En → Prop) (h0 : P n ρ) (ht : ∀ (i : Nat) (ρ' : En), i < n → P (i + 1) ρ' → g (.dat (.v (.int (i : Nat)))) ρ' fun ρ2 => b { D with nx := P i, ct := P i, bk := D.nx } ρ2)
    (he : ∀ ρ', P 0 ρ' → D.nx ρ') : ForI g b D (downs n) ρ := by
  refine ⟨fun j => P (n - j), h0, fun j x ρ' hx p => ?_, fun ρ' p => he ρ' (by rw [downs_len, Nat.sub_self] at p; exact p)⟩
  have hj : j < n := by
    have := (List.getElem?_eq_some_iff.mp hx).1
    rwa [downs_len] at this
  rw [downs_get hj] at hx
  cases hx
  have e1 : (n : Int) - 1 - (j : Nat) = ((n - (j + 1) : Nat) : Int) := by omega
  have e2 : n - j = n - (j + 1) + 1 := by omega
  rw [e1]
  rw [e2] at p
  exact ht (n - (j + 1)) ρ' (by omega) p
/-! ### a // b, b small, not zero -/
def dFdivN : D2 := d2I (fun _ j => j ≠ 0 ∧ j.natAbs < 1073741824) fun i j => .int (i.fdiv j)
theorem de_fdivN {X : Cx} {W : WX} {a b : Expr} {xa xb : TE} {da db : DE} {pos : Pos} (ha : DEX X W a xa da) (hb : DEX X W b xb db) : DEX X W (.BinOp a .FloorDiv b pos) (tOp (rI CDivN fun i j => .int (i.fdiv j)) xa xb) (dOp dFdivN da db) := de_op op_fdivN (sr_I fun _ _ h => h) ha hb
end DW

set_option Elab.async false
set_option linter.all false
set_option maxRecDepth 100000
/-! DW, part 37: what a def owns is lent to an expression whose answer does not hold it; fields of an own instance; methods that change their own instance. -/
namespace DW
open PySem PySem.Spec PyProof.Rows L2 StX SlX
/-! ### what is owned -/
def OwnA (σ : L2.St) (ρ : En) (a : Addr) : Prop := Ow σ ρ a ∨ ∃ (i : Nat) (p : Addr × Addr) (C : Addr) (fs : List (Str × Dt)), ρ[i]? = some (.oob p C fs) ∧ a = p.2
/-- an own object: a list, an instance, an instance's dict -/
def OwnK : HO → Prop
  | .lst _ => True
  | .ins _ _ _ => True
  | .own _ => True
  | .dK _ => True
  | _ => False
theorem nk_tup {xs : List V} : ¬ OwnK (.tup xs) := fun z => z
theorem nk_frz {o : Obj} {u : HO} : ¬ OwnK (.frz o u) := fun z => z
theorem nk_xd {fs : List (Str × V)} : ¬ OwnK (.xd fs) := fun z => z
theorem nk_slo {a C dx : Addr} {vs : List (Option V)} : ¬ OwnK (SlO a C dx vs) := fun z => z
section
variable {K : PySem.W.Frag} {l0 : Addr} {F H F' H' : Hp} {σ : L2.St} {ρ : En}
theorem Stt.ownA (S : Stt K l0 F H σ ρ) {a : Addr} (h : OwnA σ ρ a) : F a = none ∧ a ≠ l0 ∧ ∃ o, H a = some o ∧ OwnK o := by
  rcases h with ⟨i, s, h1, h2, h3⟩ | ⟨i, p, C, fs, h1, e⟩
  · rcases S.sl i s h1 with z | ⟨v, k1, k2⟩
    · subst z
      cases h2
    · rw [h3] at k1
      cases k1
      cases s with
      | emp => cases h2
      | dat d => cases h2
      | own ds =>
        obtain ⟨l, xs, e, a1, a2, a3, _⟩ := k2
        cases e
        exact ⟨a1, a2, _, a3, trivial⟩
      | oob p C fs =>
        obtain ⟨l, dx, gs, e, a1, a2, a3, _⟩ := k2
        cases e
        exact ⟨a1, a2, _, a3, trivial⟩
      | odc kvs =>
        obtain ⟨l, xs, e, a1, a2, a3, _⟩ := k2
        cases e
        exact ⟨a1, a2, _, a3, trivial⟩
  · subst e
    obtain ⟨gs, _, _, _, _, _, w1, w2, w3⟩ := S.oob h1
    exact ⟨w1, w2, _, w3, trivial⟩
open Classical in
/-- what is frozen, and what is owned as it stands -/
noncomputable def lendF (F H : Hp) (σ : L2.St) (ρ : En) : Hp := fun a => if OwnA σ ρ a then H a else F a
open Classical in
/-- back: without what is owned -/
noncomputable def lendB (F' : Hp) (σ : L2.St) (ρ : En) : Hp := fun a => if OwnA σ ρ a then none else F' a
theorem lend_own {a : Addr} (h : OwnA σ ρ a) : lendF F H σ ρ a = H a := by
  unfold lendF
  rw [if_pos h]
theorem lend_not {a : Addr} (h : ¬ OwnA σ ρ a) : lendF F H σ ρ a = F a := by
  unfold lendF
  rw [if_neg h]
theorem lendB_not {a : Addr} (h : ¬ OwnA σ ρ a) : lendB F' σ ρ a = F' a := by
  unfold lendB
  rw [if_neg h]
theorem lendB_own {a : Addr} (h : OwnA σ ρ a) : lendB F' σ ρ a = none := by
  unfold lendB
  rw [if_pos h]
theorem Stt.lend_same (S : Stt K l0 F H σ ρ) : Same F (lendF F H σ ρ) := fun a o e => by
  by_cases q : OwnA σ ρ a
  · rw [(S.ownA q).1] at e
    cases e
  · rw [lend_not q]
    exact e
theorem Stt.lend_base (S : Stt K l0 F H σ ρ) : Base l0 (lendF F H σ ρ) H := by
  refine ⟨fun a o e => ?_, ?_, S.bs.dr⟩
  · by_cases q : OwnA σ ρ a
    · rw [lend_own q] at e
      exact e
    · rw [lend_not q] at e
      exact S.bs.sub a o e
  · rw [lend_not fun q => (S.ownA q).2.1 rfl]
    exact S.bs.nf
def lendEn (ρ : En) : En := ρ.map fun s => match s with
  | .own ds => .dat (.lst ds)
  | .oob _ C fs => .dat (.obj C fs)
  | .odc kvs => .dat (.dct kvs)
  | s => s
theorem Stt.lend (S : Stt K l0 F H σ ρ) : Stt K l0 (lendF F H σ ρ) H σ (lendEn ρ) := by
  refine ⟨S.lend_base, by unfold lendEn; rw [List.length_map]; exact S.len, fun i s e => ?_, fun i j s t a h1 h2 o1 o2 e1 e2 => ?_⟩
  · unfold lendEn at e
    rw [List.getElem?_map] at e
    cases q : ρ[i]? with
    | none => rw [q] at e; cases e
    | some u =>
      rw [q] at e
      have e := Option.some.inj e
      rcases S.sl i u q with z | ⟨v, h1, h2⟩
      · subst z
        subst e
        exact .inl rfl
      · cases u with
        | emp => exact h2.elim
        | dat d =>
          subst e
          exact .inr ⟨v, h1, Den.mono S.lend_same h2⟩
        | oob p0 C fs =>
          subst e
          obtain ⟨l, dx, gs, e1, a1, a2, a3, r, _⟩ := h2
          subst e1
          refine .inr ⟨.ref l, h1, Den.obj (dx := dx) ?_ (DenF.mono S.lend_same r)⟩
          rw [lend_own (.inl ⟨i, _, q, rfl, h1⟩)]
          exact a3
        | own ds =>
          subst e
          obtain ⟨l, xs, e1, _, n0, hl, r⟩ := h2
          subst e1
          refine .inr ⟨.ref l, h1, Den.lst (.inl (.inl ?_)) (Dens.mono S.lend_same r)⟩
          rw [lend_own (.inl ⟨i, _, q, rfl, h1⟩)]
          exact hl
        | odc kvs =>
          subst e
          obtain ⟨l, xs, e1, _, n0, hl, r⟩ := h2
          subst e1
          refine .inr ⟨.ref l, h1, Den.dct ?_ (DenK.mono S.lend_same r)⟩
          rw [lend_own (.inl ⟨i, _, q, rfl, h1⟩)]
          exact hl
  · unfold lendEn at h1
    rw [List.getElem?_map] at h1
    cases q : ρ[i]? with
    | none => rw [q] at h1; cases h1
    | some u =>
      rw [q] at h1
      have h1 := Option.some.inj h1
      cases u <;> subst h1 <;> cases o1
theorem Stt.lend_go (S : Stt K l0 F H σ ρ) (g : Go l0 (lendF F H σ ρ) H F' H') : Go l0 F H (lendB F' σ ρ) H' := by
  refine ⟨⟨fun a o e => ?_, ?_, g.bs.dr⟩, fun a o e => ?_, fun a h1 h2 => ?_, g.keep⟩
  · by_cases q : OwnA σ ρ a
    · rw [lendB_own q] at e
      cases e
    · rw [lendB_not q] at e
      exact g.bs.sub a o e
  · by_cases q : OwnA σ ρ l0
    · exact lendB_own q
    · rw [lendB_not q]
      exact g.bs.nf
  · have q : ¬ OwnA σ ρ a := fun q => by
      rw [(S.ownA q).1] at e
      cases e
    rw [lendB_not q]
    exact g.ex a o (by rw [lend_not q]; exact e)
  · have q : ¬ OwnA σ ρ a := fun q => h2 (lendB_own q)
    rw [lendB_not q] at h2
    exact g.new a (by rw [lend_not q]; exact h1) h2
/-! ### answers that hold nothing that may be owned -/
inductive Clean : Dt → Prop
  | v (x : V) : Clean (.v x)
  | tup {ds : List Dt} (h : ∀ d ∈ ds, Clean d) : Clean (.tup ds)
  | slt {C : Addr} {d : Dt} (h : Clean d) : Clean (.slt C d)
theorem Stt.lend_at (S : Stt K l0 F H σ ρ) (g : Go l0 (lendF F H σ ρ) H F' H') {a : Addr} {o : HO} (h : F' a = some o) (n : ¬ OwnK o) : lendB F' σ ρ a = some o := by
  have q : ¬ OwnA σ ρ a := fun q => by
    obtain ⟨_, _, u, hu, ku⟩ := S.ownA q
    have := g.ex a u (by rw [lend_own q]; exact hu)
    rw [h] at this
    cases this
    exact n ku
  rw [lendB_not q]
  exact h
mutual
theorem Stt.lend_den (S : Stt K l0 F H σ ρ) (g : Go l0 (lendF F H σ ρ) H F' H') : ∀ {v : V} {d : Dt}, Den K l0 F' v d → Clean d → Den K l0 (lendB F' σ ρ) v d
  | _, _, .v x, _ => .v x
  | _, _, .tup h r, c => by
    refine .tup ?_ (Stt.lend_dens S g r (by cases c with | tup h => exact h))
    rcases h with (h | ⟨o, h⟩) | h
    · exact .inl (.inl (S.lend_at g h nk_tup))
    · exact .inl (.inr ⟨o, S.lend_at g h nk_frz⟩)
    · exact .inr h
  | _, _, .slt h h2 ne r, c => .slt (S.lend_at g h nk_slo) (S.lend_at g h2 nk_xd) ne (Stt.lend_den S g r (by cases c with | slt h => exact h))
  | _, _, .lst h r, c => nomatch c
  | _, _, .obj h r, c => nomatch c
  | _, _, .exc h r, c => nomatch c
  | _, _, .exc0, c => nomatch c
  | _, _, .dct h r, c => nomatch c
  | _, _, .drw, c => nomatch c
theorem Stt.lend_dens (S : Stt K l0 F H σ ρ) (g : Go l0 (lendF F H σ ρ) H F' H') : ∀ {vs : List V} {ds : List Dt}, Dens K l0 F' vs ds → (∀ d ∈ ds, Clean d) → Dens K l0 (lendB F' σ ρ) vs ds
  | _, _, .nil, _ => .nil
  | _, _, .cons h t, c => .cons (Stt.lend_den S g h (c _ List.mem_cons_self)) (Stt.lend_dens S g t fun d m => c d (List.mem_cons_of_mem _ m))
end
def CleanX (x : Xn) : Prop := ∀ f ∈ x.fs, Clean f.2
theorem Stt.lend_denF (S : Stt K l0 F H σ ρ) (g : Go l0 (lendF F H σ ρ) H F' H') : ∀ {gs : List (Str × V)} {fs : List (Str × Dt)}, DenF K l0 F' gs fs → (∀ f ∈ fs, Clean f.2) → DenF K l0 (lendB F' σ ρ) gs fs
  | _, _, .nil, _ => .nil
  | _, _, .cons h t, c => .cons (S.lend_den g h (c _ List.mem_cons_self)) (Stt.lend_denF S g t fun f m => c f (List.mem_cons_of_mem _ m))
theorem Stt.lend_x (S : Stt K l0 F H σ ρ) (g : Go l0 (lendF F H σ ρ) H F' H') {cls : Value} {d : Option Addr} {x : Xn} (h : XDen K l0 F' H' cls d x) (c : CleanX x) : XDen K l0 (lendB F' σ ρ) H' cls d x := by
  obtain ⟨e, h | ⟨dd, gs, e2, h2, r⟩⟩ := h
  · exact ⟨e, .inl h⟩
  · exact ⟨e, .inr ⟨dd, gs, e2, S.lend_at g h2 nk_xd, S.lend_denF g r c⟩⟩
end
/-! ### the rules -/
def dLend (de : DE) : DE := fun ρ Q E => de (lendEn ρ) (fun s => ∃ d, s = .dat d ∧ Clean d ∧ Q s) fun x => CleanX x ∧ E x
def dLendT (dt : DTt) : DTt := fun ρ Q E => dt (lendEn ρ) Q fun x => CleanX x ∧ E x
section
variable {X : Cx} {W : WX} {e : Expr} {xe : TE} {de : DE} {yt : TT} {dt : DTt}
theorem de_lend (h : DEX X W e xe de) : DEX X W e xe (dLend de) := ⟨h.1, fun ρ Q E q l0 F H σ S Qc k kx => by
  refine h.2 (lendEn ρ) _ _ q l0 (lendF F H σ ρ) H σ S.lend Qc (fun v s F' H' g r q => ?_) (fun cls d x F' H' g r q => kx cls d x _ H' (S.lend_go g) (S.lend_x g r q.1) q.2)
  obtain ⟨d, e, c, q⟩ := q
  subst e
  exact k v (.dat d) _ H' (S.lend_go g) (S.lend_den g r c) q⟩
theorem dt_lend (h : DTX X W e yt dt) : DTX X W e yt (dLendT dt) := ⟨h.1, fun ρ Q E q l0 F H σ S Qc k kx =>
  h.2 (lendEn ρ) _ _ q l0 (lendF F H σ ρ) H σ S.lend Qc (fun b F' H' g q => k b _ H' (S.lend_go g) q) (fun cls d x F' H' g r q => kx cls d x _ H' (S.lend_go g) (S.lend_x g r q.1) q.2)⟩
/-! ### a field of an own instance -/
def dAtO (cs : List Addr) (i : Nat) (f : Str) : DE := fun ρ Q _ => ∃ p C fs d, ρ[i]? = some (.oob p C fs) ∧ C ∈ cs ∧ fs.lookup f = some d ∧ Q (.dat d)
theorem de_atO {cs : List Addr} {f y : Str} {p1 pos : Pos} (c : AtOk X.K cs f) (i : Nat) (hN : X.N[i]? = some y := by rfl) (hvis : Vis X.env.scope y := by first | exact Or.inl rfl | exact Or.inr (Or.inl rfl) | exact Or.inr (Or.inr rfl))
    (hd : (y == ("__debug__" : Str)) = false := by decide) (hcd : (y == ("__classdict__" : Str)) = false := by decide) (hb : attributeBase (.Name y p1) f X.env (eval (.Name y p1) X.env) = eval (.Name y p1) X.env := by rfl) :
    DEX X W (.Attribute (.Name y p1) f pos) (tFld X.K (tVar i) f) (dAtO cs i f) :=
  ⟨pe_fld (pe_var hN hvis hd hcd) hb, fun ρ Q E q l0 F H σ S Qc k kx => by
    obtain ⟨p, C, fs, d, h, hm, hl, q⟩ := q
    obtain ⟨gs, hσ, hF, n0, hH, r, _⟩ := S.oob h
    obtain ⟨v, h2, h3⟩ := r.look hl
    exact ⟨.ref p.1, hσ, p.1, C, p.2, gs, v, rfl, hH, (c C hm).1, (c C hm).2, h2, k v (.dat d) F H (.refl S.bs) h3 q⟩⟩
end
/-! ### methods that change their own instance -/
abbrev SdM := List (Str × Dt) → List Dt → (List (Str × Dt) → Prop) → (Xn → Prop) → Prop
def spMu (K : PySem.W.Frag) (C : Addr) (sd : SdM) : Sp := fun vs H Q E => ∃ x us l0 F fs gs ds Qd Ed dx, vs = V.ref x :: us ∧ Base l0 F H ∧ F x = none ∧ x ≠ l0 ∧ H x = some (.ins C dx gs) ∧ DenF K l0 F gs fs ∧ (F dx = none ∧ dx ≠ l0 ∧ H dx = some (.own x)) ∧ Dens K l0 F us ds ∧ sd fs ds Qd Ed ∧
  (∀ gs' fs' F' H', GoI l0 x F H F' H' → F' x = none → H' x = some (.ins C dx gs') → DenF K l0 F' gs' fs' → Qd fs' → Q .non H') ∧ (∀ cls dct xn F' H', GoI l0 x F H F' H' → XDen K l0 F' H' cls dct xn → Ed xn → E cls dct H')
def startM (p : Addr × Addr) (C : Addr) (fs : List (Str × Dt)) (n : Nat) (ds : List Dt) : En := .oob p C fs :: startD (n - 1) ds
def dEndsM (p : Addr × Addr) (C : Addr) (Q : List (Str × Dt) → Prop) (E : Xn → Prop) : DEnds := { nx := fun ρ => ∃ gs, ρ[0]? = some (.oob p C gs) ∧ Q gs, rt := fun _ => False, bk := fun _ => False, ct := fun _ => False, ex := fun x _ => E x }
section
variable {K : PySem.W.Frag} {l0 : Addr} {F H : Hp}
theorem Stt.startM {N : List Str} {y : Str} {x C dx : Addr} {vs : List V} {ds : List Dt} {fs : List (Str × Dt)} {gs : List (Str × V)} (b : Base l0 F H) (hF : F x = none) (n0 : x ≠ l0) (hH : H x = some (.ins C dx gs)) (rf : DenF K l0 F gs fs) (hd : F dx = none ∧ dx ≠ l0 ∧ H dx = some (.own x)) (r : Dens K l0 F vs ds) : Stt K l0 F H (L2.start (y :: N) (.ref x :: vs)) (DW.startM (x, dx) C fs (y :: N).length ds) := by
  have S0 := Stt.start (N := N) b r
  have e1 : L2.start (y :: N) (.ref x :: vs) = some (.ref x) :: L2.start N vs := by
    unfold L2.start
    simp
  have e2 : DW.startM (x, dx) C fs (y :: N).length ds = .oob (x, dx) C fs :: startD N.length ds := rfl
  rw [e1, e2]
  refine ⟨b, by rw [List.length_cons, List.length_cons, S0.len], fun i s h => ?_, fun i j s t a h1 h2 o1 o2 z1 z2 => ?_⟩
  · cases i with
    | zero =>
      cases h
      exact .inr ⟨.ref x, rfl, x, dx, gs, rfl, hF, n0, hH, rf, rfl, rfl, hd⟩
    | succ i => exact S0.sl i s h
  · cases i with
    | zero =>
      cases j with
      | zero => rfl
      | succ j => exact (startD_plain h2 o2).elim
    | succ i => exact (startD_plain h1 o1).elim
theorem startM_ow {N : List Str} {y : Str} {x dx C : Addr} {vs : List V} {ds : List Dt} {fs : List (Str × Dt)} {a : Addr} (h : Ow (L2.start (y :: N) (.ref x :: vs)) (DW.startM (x, dx) C fs (y :: N).length ds) a) : a = x := by
  obtain ⟨i, s, h1, h2, h3⟩ := h
  cases i with
  | zero =>
    have e1 : L2.start (y :: N) (.ref x :: vs) = some (.ref x) :: L2.start N vs := by
      unfold L2.start
      simp
    rw [e1] at h3
    cases h3
    rfl
  | succ i => exact (startD_plain h1 h2).elim
end
theorem fn_dMu {P : Program} {w : World} {K : PySem.W.Frag} {mg : Str → Option Value} {base : Heap} {x y qual : Str} {params : Arguments} {body : List Stmt} {scope : Scope} {dvs : List V} {kws : List (Str × V)} {f C : Addr} {fd : FuncData} {N ps : List Str} {k : Nat} {sd : SdM} {ds : DS}
    (F : FunD K x qual params body scope dvs kws f fd) (S : FnScope (y :: N) ps scope) (len : ∀ fs as Q E, sd fs as Q E → as.length + 1 = ps.length)
    (hb : ∀ (cdv : Value) (A : Around) (outer : List Env) (s : Shared) (H : Hp) (E : XK), Room k (A.deeper (envOfC qual scope s.heap.objs.size f cdv)) →
      ∃ ts, DSSX (cxOf (L2.CX P w) P w K mg base (y :: N) qual scope f cdv A outer s H E) (fun cls d _ H => E cls d H) body ts ds)
    (hp : ∀ p fs as Q E, sd fs as Q E → ds (dEndsM p C Q E) (DW.startM p C fs (y :: N).length as)) : FnOk P w K mg base (L2.CX P w) (k + 1) f fd ps (spMu K C sd) := by
  refine F.ok S (fun vs H Q E h => ?_) fun cdv A outer s H vs Q E hr h => ?_
  · obtain ⟨x, us, l0, F, fs, gs, as, Qd, Ed, dx, e, b, hF, n0, hH, rf, hd, r, h, _, _⟩ := h
    rw [e, List.length_cons, r.length]
    exact len fs as Qd Ed h
  · obtain ⟨x, us, l0, F, fs, gs, as, Qd, Ed, dx, e, b, hF, n0, hH, rf, hd, r, h, hq, he⟩ := h
    subst e
    obtain ⟨ts, p, sd⟩ := hb cdv A outer s H E hr
    have toI : ∀ {F' H'}, GoS l0 F H (L2.start (y :: N) (.ref x :: us)) (DW.startM (x, dx) C fs (y :: N).length as) F' H' → GoI l0 x F H F' H' := fun g =>
      ⟨g.bs, g.ex, fun a h1 h2 => (g.new a h1 h2).imp id startM_ow, fun a o n1 n2 e => g.keep a o n1 (fun z => n2 (startM_ow z)) e⟩
    refine ⟨ts, p, sd _ _ (hp (x, dx) fs as Qd Ed h) l0 F H _ (Stt.startM b hF n0 hH rf hd r) _ ⟨fun F' H' σ' ρ' g w S' q => ?_, fun F' H' v d g r q => q.elim, fun F' H' σ' ρ' g w S' q => q.elim, fun F' H' σ' ρ' g w S' q => q.elim, fun cls d x F' H' σ' ρ' g w S' r q => ?_, fun F' H' σ' ρ' v d g w S' r q => q.elim⟩⟩
    · obtain ⟨gs', h0, q⟩ := q
      obtain ⟨fs', _, z1, _, z3, z4, _⟩ := S'.oob h0
      exact hq fs' gs' F' H' (toI g) z1 z3 z4 q
    · exact he cls d x F' H' (toI g) r q
end DW

set_option Elab.async false
set_option linter.all false
set_option maxRecDepth 100000
/-! DW, part 38: o.m(..) that changes the own instance o, as a statement; C(e, .., k = v, ..). -/
namespace DW
open PySem PySem.Spec PyProof.Rows L2 StX SlX ClX
section
variable {K : PySem.W.Frag} {l0 : Addr} {F H F' H' : Hp} {σ : L2.St} {ρ : En}
/-- behind a call that may change the instance of the slot i -/
theorem Stt.afterI {i : Nat} {p : Addr × Addr} {C : Addr} {fs : List (Str × Dt)} (S : Stt K l0 F H σ ρ) (hρ : ρ[i]? = some (.oob p C fs)) (gi : GoI l0 p.1 F H F' H') {s' : Sl} (hs : s' = .emp ∨ ((∃ fs', s' = .oob p C fs') ∧ SlV K l0 F' H' (.ref p.1) s')) :
    Stt K l0 F' H' σ (ρ.set i s') ∧ GoS l0 F H σ ρ F' H' ∧ OwS H σ ρ σ (ρ.set i s') := by
  obtain ⟨gs0, hσ, hF, n0, hH, _, w1, w2, w3⟩ := S.oob hρ
  have ow : Ow σ ρ p.1 := ⟨i, _, hρ, rfl, hσ⟩
  have stay : ∀ {a : Addr} {o : HO}, a ≠ p.1 → F a = none → H a = some o → F' a = none := fun {a o} ne h1 h2 => by
    cases e : F' a with
    | none => rfl
    | some u =>
      rcases gi.new a h1 (by rw [e]; exact fun z => nomatch z) with z | z
      · rw [h2] at z
        cases z
      · exact absurd z ne
  have other : ∀ {j : Nat} {s : Sl} {v : V}, i ≠ j → ρ[j]? = some s → σ[j]? = some (some v) → SlV K l0 F H v s → SlV K l0 F' H' v s := fun {j s v} q h h1 h2 => by
    cases s with
    | emp => exact h2
    | dat d => exact Den.mono gi.ex h2
    | own ds' =>
      obtain ⟨l', xs', e', a1, a2, h3, a3⟩ := h2
      subst e'
      have ne : l' ≠ p.1 := fun e => q (S.ap i j _ _ p.1 hρ h rfl rfl hσ (by rw [h1, e]))
      exact ⟨l', xs', rfl, stay ne a1 h3, a2, gi.keep _ _ a2 ne h3, Dens.mono gi.ex a3⟩
    | oob p0 C0 fs0 =>
      obtain ⟨l', dx', gs, e', a1, a2, h3, a3, e1, e2, z1, z2, z3⟩ := h2
      subst e'
      have ne : l' ≠ p.1 := fun e => q (S.ap i j _ _ p.1 hρ h rfl rfl hσ (by rw [h1, e]))
      have nd : dx' ≠ p.1 := fun z => by rw [z, hH] at z3; cases z3
      exact ⟨l', dx', gs, rfl, stay ne a1 h3, a2, gi.keep _ _ a2 ne h3, DenF.mono gi.ex a3, e1, e2, stay nd z1 z3, z2, gi.keep _ _ z2 nd z3⟩
    | odc kvs =>
      obtain ⟨l', xs', e', a1, a2, h3, a3⟩ := h2
      subst e'
      have ne : l' ≠ p.1 := fun e => q (S.ap i j _ _ p.1 hρ h rfl rfl hσ (by rw [h1, e]))
      exact ⟨l', xs', rfl, stay ne a1 h3, a2, gi.keep _ _ a2 ne h3, DenK.mono gi.ex a3⟩
  have back : ∀ {j : Nat} {s : Sl}, (ρ.set i s')[j]? = some s → s.isOwn = true → ∃ u, ρ[j]? = some u ∧ u.isOwn = true := fun {j s} h o => by
    by_cases q : i = j
    · subst q
      exact ⟨_, hρ, rfl⟩
    · rw [List.getElem?_set_ne q] at h
      exact ⟨s, h, o⟩
  refine ⟨⟨gi.bs, by rw [List.length_set]; exact S.len, fun j s h => ?_, fun j k s t a h1 h2 o1 o2 e1 e2 => ?_⟩, ⟨gi.bs, gi.ex, fun a h1 h2 => (gi.new a h1 h2).imp id fun e => by rw [e]; exact ow, fun a o n h e => gi.keep a o n (fun z => h (by rw [z]; exact ow)) e⟩, fun a ⟨j, s, h1, h2, h3⟩ => ?_⟩
  · by_cases q : i = j
    · subst q
      rw [List.getElem?_set_self (lt_of_get hρ)] at h
      cases h
      rcases hs with e | ⟨_, e⟩
      · exact .inl e
      · exact .inr ⟨.ref p.1, hσ, e⟩
    · rw [List.getElem?_set_ne q] at h
      rcases S.sl j s h with z | ⟨v, h1, h2⟩
      · exact .inl z
      · exact .inr ⟨v, h1, other q h h1 h2⟩
  · obtain ⟨u, z1, z2⟩ := back h1 o1
    obtain ⟨w, z3, z4⟩ := back h2 o2
    exact S.ap j k u w a z1 z3 z2 z4 e1 e2
  · obtain ⟨u, z1, z2⟩ := back h1 h2
    exact .inl ⟨j, u, z1, z2, h3⟩
end
def MuM (P : Program) (w : World) (K : PySem.W.Frag) (mg : Str → Option Value) (base : Heap) (k : Nat) (m : Str) (C : Addr) (sd : SdM) : Prop := ∃ (g : Addr) (fd : FuncData) (ps : List Str), Cls K C ∧ Meth K C m g ∧ FnOk P w K mg base (L2.CX P w) k g fd ps (spMu K C sd) ∧ Binds K fd ps []
theorem MuM.mono {P : Program} {w : World} {K : PySem.W.Frag} {mg : Str → Option Value} {base : Heap} {j k : Nat} {m : Str} {C : Addr} {sd : SdM} (M : MuM P w K mg base j m C sd) (h : j ≤ k) : MuM P w K mg base k m C sd := by
  obtain ⟨g, fd, ps, c, me, F, b⟩ := M
  exact ⟨g, fd, ps, c, me, F.mono h, b⟩
def tMut (X : Cx) (m : Str) (C : Addr) (sp : Sp) (E : L2.St → XK) (ta : TE) (t : TA) : TE := fun σ H Q => ta σ H fun x H1 => ∃ a dx fs, x = .ref a ∧ H1 a = some (.ins C dx fs) ∧ fs.lookup m = none ∧ t σ H1 fun vs H2 => sp (x :: vs) H2 Q (E σ)
def dMut (i : Nat) (m : Str) (C : Addr) (sd : SdM) (da : DA) : DS := fun D ρ => ∃ p fs, ρ[i]? = some (.oob p C fs) ∧ fs.lookup m = none ∧ da ρ (fun ss => plain ss fun ds => sd fs ds (fun fs' => D.nx (ρ.set i (.oob p C fs'))) fun x => D.ex x (ρ.set i .emp)) fun x => D.ex x ρ
section
variable {X : Cx} {W : WX} {k : Nat} {C : Addr} {m x y : Str} {p1 p pos apos epos : Pos} {e : Expr} {es : List Expr} {kws : List Keyword} {t : TA} {da : DA} {tk : TA} {dk : DA}
theorem ds_mut {sd : SdM} {pl : Sem Bool} (M : MuM X.prog X.w X.K X.mg X.base k m C sd) (tk : Takes X W) (hr : Room k X.A) (i : Nat) (ha : DAX X W (e :: es) t da) (hN : X.N[i]? = some y := by rfl) (hvis : Vis X.env.scope y := by first | exact Or.inl rfl | exact Or.inr (Or.inl rfl) | exact Or.inr (Or.inr rfl))
    (hd : (y == ("__debug__" : Str)) = false := by decide) (hcd : (y == ("__classdict__" : Str)) = false := by decide) (hst : starEach (e :: es) X.env = (false, eval e X.env) :: starEach es X.env := by rfl) (hpl : (backTo pos (starEach es X.env)).any (·.1) = false := by rfl)
    (ht : eval (.Call (.Attribute (.Name y p1) m apos) (e :: es) [] pos) X.env = (do
      let ov ← eval (.Name y p1) X.env
      standAt apos.atName
      let (f, first) ← holding [ov] (getMethod ov m pl)
      callWith pos f first (backTo pos (starEach (e :: es) X.env)) (backToKw pos (keywordEach [] X.env))) := by rfl)
    (hs : swapsWith (.Call (.Attribute (.Name y p1) m apos) (e :: es) [] pos) none epos.line X.env = pure false := by rfl) :
    DSX X W (.Expr (.Call (.Attribute (.Name y p1) m apos) (e :: es) [] pos) epos) (tDrop (tMut X m C (spMu X.K C sd) (WE W) (tVar i) t)) (dMut i m C sd da) := by
  obtain ⟨g, fd, ps, c, hm, F, hb⟩ := M
  refine ⟨ps_expr ⟨fun pins s σ H Q I h => ?_⟩ hs, fun D ρ h l0 F H σ S Cc L => ?_⟩
  · have he : PE X (.Name y p1) (tVar i) := pe_var hN hvis hd hcd
    refine PySem.W.methodCall_KW (pl := pl) (thn (he.run pins s σ H _ I h) fun u s1 ⟨x, H1, I1, rx, a, dx, fs, ex, ea, l, q⟩ => ?_) ht
    subst ex
    obtain rfl : u = Value.ref a := rx
    refine getmeth_ok I1 ea c hm l ?_
    refine PySem.W.callWith_K (first := [.ref a]) (h₀ := X.base) I.ok.mod.kin hm.kp (thn (ha.1.run pos pins s1 σ H1 _ I1 q) fun us s2 ⟨vs, H2, I2, r, q2⟩ => ⟨I2.kIn, ?_⟩) hst hpl
    exact run_fnS (us := .ref a :: us) (vs := .ref a :: vs) F hr hb (passAt tk σ) I2 (.cons rfl r) q2
  · obtain ⟨p, fs, hρ, hl, q⟩ := h
    obtain ⟨gs, hσ, hF, n0, hH, r, w1, w2, w3⟩ := S.oob hρ
    refine ⟨.ref p.1, hσ, p.1, p.2, gs, rfl, hH, r.none hl, ?_⟩
    refine ha.2 ρ _ _ q l0 F H σ S _ (fun vs ss F1 H1 g1 r1 q1 => ?_) (L.kx S)
    obtain ⟨ds, e, q2⟩ := plain_of q1
    subst e
    have S1 := S.go g1
    have L1 := L.trans S.bs (.of g1) .refl
    obtain ⟨gs1, hσ1, hF1, n01, hH1, r2, z1, z2, z3⟩ := S1.oob hρ
    refine ⟨p.1, vs, l0, F1, fs, gs1, ds, _, _, p.2, rfl, S1.bs, hF1, n01, hH1, r2, ⟨z1, z2, z3⟩, dens_of r1, q2, fun gs' fs' F' H' gi k1 k2 k3 qd => ?_, fun cls dct xn F' H' gi rx ex => ?_⟩
    · have nd : p.2 ≠ p.1 := fun z => by rw [z, hH1] at z3; cases z3
      have fd' : F' p.2 = none := by
        cases e : F' p.2 with
        | none => rfl
        | some u =>
          rcases gi.new p.2 z1 (by rw [e]; exact fun z => nomatch z) with z | z
          · rw [z3] at z
            cases z
          · exact absurd z nd
      obtain ⟨S2, g2, w2⟩ := S1.afterI hρ gi (s' := .oob p C fs') (.inr ⟨⟨_, rfl⟩, p.1, p.2, gs', rfl, k1, n01, k2, k3, rfl, rfl, fd', z2, gi.keep _ _ z2 nd z3⟩)
      exact L1.nx F' H' σ _ g2 w2 S2 qd
    · obtain ⟨S2, g2, w2⟩ := S1.afterI hρ gi (s' := .emp) (.inl rfl)
      exact L1.ex cls dct xn F' H' σ _ g2 w2 S2 rx ex
/-! ### C(e, .., k = v, ..) -/
def MakeOkN (P : Program) (w : World) (K : PySem.W.Frag) (mg : Str → Option Value) (base : Heap) (k : Nat) (x : Str) (C : Addr) (sd : Sd) (n : Nat) (ks : List Str) (f : List V → List V → List V) : Prop := ∃ (g : Addr) (fd : FuncData) (ps : List Str) (u : List Value → List Value → List Value) (gV : List V → List V → List V),
  Mk K C g ∧ FnOk P w K mg base (L2.CX P w) k g fd ps (spIn K C sd) ∧ mg x = some (.ref C) ∧ KBn K fd ps (n + 1) ks u gV ∧ ∀ y vs zs, vs.length = n → zs.length = ks.length → gV (y :: vs) zs = y :: f vs zs
def tKwN (t tk : TA) (n m : Nat) (f : List V → List V → List V) : TA := fun σ H Q => t σ H fun vs H1 => tk σ H1 fun zs H2 => (vs.length = n ∧ zs.length = m) ∧ Q (f vs zs) H2
def dKwN (da dk : DA) (n m : Nat) (f : List Sl → List Sl → List Sl) : DA := fun ρ Q E => da ρ (fun ss => dk ρ (fun ts => (ss.length = n ∧ ts.length = m) ∧ Q (f ss ts)) E) E
theorem snd_kwN {K : PySem.W.Frag} {n m : Nat} {f : List V → List V → List V} {g : List Sl → List Sl → List Sl} (h1 : SndA K W t da) (h2 : SndA K W tk dk) (hf : ∀ {l0 F H vs ss zs ts}, Paired (SlV K l0 F H) vs ss → Paired (SlV K l0 F H) zs ts → Paired (SlV K l0 F H) (f vs zs) (g ss ts)) : SndA K W (tKwN t tk n m f) (dKwN da dk n m g) := fun ρ Q E q l0 F H σ S Qc k kx => by
  refine h1 ρ _ E q l0 F H σ S _ (fun vs ss F1 H1 g1 r1 q1 => ?_) kx
  refine h2 ρ _ E q1 l0 F1 H1 σ (S.go g1) _ (fun zs ts F2 H2 g2 r2 q2 => ?_) (kx.go g1)
  have r1' : Paired (SlV K l0 F2 H2) vs ss := by
    clear q1 q2 q
    induction r1 with
    | nil => exact .nil
    | cons h _ ih => exact .cons (h.go g2) ih
  exact ⟨⟨by rw [pairs_len r1]; exact q2.1.1, by rw [pairs_len r2]; exact q2.1.2⟩, k _ _ F2 H2 (g1.trans g2) (hf r1' r2) q2.2⟩
theorem run_makeKA {n : Nat} {f : Addr} {fd : FuncData} {ps ks : List Str} {sp : Sp} {E : L2.St → XK} {g : List Value → List Value → List Value} {gV : List V → List V → List V} {pins : List (Addr × Obj)} {σ : L2.St} {H : Hp} {s : Shared} {Q : VK} {us ws : List Value} {vs zs : List V} (M : Mk X.K C f) (F : FnOk X.prog X.w X.K X.mg X.base (L2.CX X.prog X.w) k f fd ps sp) (hr : Room (k + 1) X.A) (hb : KBn X.K fd ps (n + 1) ks g gV) (hx : PassesAt (L2.CX X.prog X.w) X σ (E σ))
    (I : Inv X pins σ H s) (r : Vals vs us) (rz : Vals zs ws) (lv : vs.length = n) (lz : zs.length = ks.length)
    (h : ∀ y dx, H y = none → H dx = none → dx ≠ y → sp (gV (V.ref y :: vs) zs) (upd (upd H dx (.own y)) y (.ins C dx [])) (fun v H2 => v = .non ∧ Q (.ref y) H2) (E σ)) :
    wpAny (model X.prog X.w) X.A (call (.ref C) us (ks.zip ws)) (EP X pins σ Q) X.xe s := by
  have q0 := h (s.heap.objs.size + 1) s.heap.objs.size (I.hok.fresh (Nat.le_succ _)) (I.hok.fresh (Nat.le_refl _)) (Nat.ne_of_lt (Nat.lt_succ_self _))
  have J := Inv.made (C := C) I
  have ru : Vals (V.ref (s.heap.objs.size + 1) :: vs) (Value.ref (s.heap.objs.size + 1) :: us) := .cons rfl r
  have lu : (Value.ref (s.heap.objs.size + 1) :: us).length = n + 1 := by rw [← ru.length, List.length_cons, lv]
  have body := F.run _ X.stack _ _ ⟨Value.ref (s.heap.objs.size + 1) :: us, ks.zip ws⟩ (g (Value.ref (s.heap.objs.size + 1) :: us) ws) _ _ (E σ) (hr.make C us (ks.zip ws)) (J.env0.make C us (ks.zip ws)) (hb.to _ _ ws J.kIn lu (by rw [← rz.length]; exact lz)) (hb.rel ru rz) q0
  refine wpAny_call (make_map (f := f) I.kIn M.makes M.init (beq_iff_eq.mp M.fn) (codeAny_mono body fun r s' z => ?_))
  cases r with
  | error e => exact hx pins _ _ e s' J z
  | ok fl =>
    cases fl with
    | ret u =>
      obtain ⟨v, H', J', rv, ev, q3⟩ := J.after z
      subst ev
      exact ⟨rv, ⟨V.ref (s.heap.objs.size + 1), H', J', rfl, q3⟩⟩
    | next => exact z.elim
    | brk => exact z.elim
    | cont => exact z.elim
theorem de_makeN {sd : Sd} {n : Nat} {ks : List Str} {f : List V → List V → List V} {fd : List Sl → List Sl → List Sl} (M : MakeOkN X.prog X.w X.K X.mg X.base k x C sd n ks f) (tak : Takes X W) (hr : Room (k + 1) X.A) (hg : Gl X x) (ha : DAX X W (e :: es) t da) (hk : DKX X W kws tk dk)
    (hf : ∀ {l0 F H vs ss zs ts}, Paired (SlV X.K l0 F H) vs ss → Paired (SlV X.K l0 F H) zs ts → Paired (SlV X.K l0 F H) (f vs zs) (fd ss ts))
    (hall : (backToKw pos (keywordEach kws X.env)).all (·.1.isSome) = true := by rfl) (hks : (backToKw pos (keywordEach kws X.env)).filterMap (·.1) = ks := by rfl) (hdb : (x == ("__debug__" : Str)) = false := by decide)
    (he : starEach (e :: es) X.env = (false, eval e X.env) :: starEach es X.env := by rfl) (hpl : ((backTo pos (starEach (e :: es) X.env)).any (·.1) || (backToKw pos (keywordEach kws X.env)).any (·.1.isNone)) = false := by rfl) :
    DEX X W (.Call (.Name x p) (e :: es) kws pos) (tMakeS C (spIn X.K C sd) (WE W) (tKwN t tk n ks.length f)) (dMake sd (dKwN da dk n ks.length fd)) := by
  obtain ⟨g, fd', ps, u, gV, m, F, hm, hb, hv⟩ := M
  refine ⟨⟨fun pins s σ H Q I h => ?_⟩, snd_make (snd_kwN ha.2 hk.2 hf)⟩
  refine wpAny_Call_Name_kw (ld_glob I hg hm ?_ hdb)
  refine PySem.W.callWith_KW (h₀ := X.base) I.ok.mod.kin m.kp hall (thn (ha.1.run pos pins s σ H _ I h) fun us s1 ⟨vs, H1, I1, r, q⟩ => ?_) hpl he
  refine thn (hk.1.run pos pins s1 σ H1 _ I1 q) fun ws s2 ⟨zs, H2, I2, rz, ⟨l1, l2⟩, q2⟩ => ⟨I2.kIn, ?_⟩
  rw [hks]
  exact run_makeKA m F hr hb (passAt tak σ) I2 r rz l1 l2 fun y dx a b c => by
    rw [hv _ _ _ l1 l2]
    exact q2 y dx a b c
end
end DW

set_option Elab.async false
set_option linter.all false
set_option maxRecDepth 100000
/-! DW, part 39: properties of plain instances, keyword-only defaults that are objects, the frames of methods that change their own instance. -/
namespace DW
open PySem PySem.Spec PyProof.Rows L2 StX SlX ClX
/-- the keyword-only default x of the def at f, if it is an object -/
def kwdAt (f : Str × Option Str) (x : Str) (K : PySem.W.Frag) : Addr := match K.lookup (He.fAd K f) with
  | some ⟨_, _, .func fd, _⟩ => (match fd.kwdefaults with
    | .ref D => (match PySem.W.nsIn K D x with
      | some (some (.ref a)) => a
      | _ => 0)
    | _ => 0)
  | _ => 0
/-! ### o.f, a property of a plain instance -/
def PrOb (P : Program) (w : World) (K : PySem.W.Frag) (mg : Str → Option Value) (base : Heap) (k : Nat) (f : Str) (C : Addr) (sd : Sd) : Prop := ∃ (p g : Addr) (fd : FuncData) (ps : List Str), Cls K C ∧ PropOf K C f p g ∧ FnOk P w K mg base (L2.CX P w) k g fd ps (spOf K sd) ∧ Binds K fd ps []
theorem PrOb.mono {P : Program} {w : World} {K : PySem.W.Frag} {mg : Str → Option Value} {base : Heap} {j k : Nat} {f : Str} {C : Addr} {sd : Sd} (M : PrOb P w K mg base j f C sd) (h : j ≤ k) : PrOb P w K mg base k f C sd := by
  obtain ⟨p, g, fd, ps, c, o, F, b⟩ := M
  exact ⟨p, g, fd, ps, c, o, F.mono h, b⟩
def dPrO (C : Addr) (sd : Sd) (de : DE) : DE := fun ρ Q E => de ρ (fun s => ∃ gs, s = .dat (.obj C gs) ∧ sd [.obj C gs] (fun z => Q (.dat z)) (fun _ => False)) E
section
variable {X : Cx} {W : WX} {k : Nat} {C : Addr} {sd : Sd} {e : Expr} {te : TE} {de : DE} {pos : Pos}
theorem de_prO {f : Str} (M : PrOb X.prog X.w X.K X.mg X.base k f C sd) (hr : Room (k + 1) X.A) (he : DEX X W e te de) (hb : attributeBase e f X.env (eval e X.env) = eval e X.env := by rfl) : DEX X W (.Attribute e f pos) (tProp C (spOf X.K sd) [] (fun _ _ _ => False) te) (dPrO C sd de) := by
  obtain ⟨p, g, fd, ps, c, o, F, b⟩ := M
  refine ⟨pe_prop he.1 c o F hr b .nil (fun pins σ H s e s' I c => (noCX H s e s' c).elim) hb, fun ρ Q E q l0 F H σ S Qc kk kx => ?_⟩
  refine he.2 ρ _ E q l0 F H σ S _ (fun x s F1 H1 g1 r1 q1 => ?_) kx
  obtain ⟨gs, ev, q2⟩ := q1
  subst ev
  have r1 : Den X.K l0 F1 x (.obj C gs) := r1
  have r2 := r1
  cases r1 with
  | obj h r => exact ⟨_, _, _, rfl, g1.bs.sub _ _ h, spOf_of g1.bs (.cons r2 .nil) q2 (fun v s F' H' g r q => kk v s F' H' (g1.trans g) r q)⟩
end
/-! ### frames -/
theorem mumok_by {P : Program} {w : World} {K : PySem.W.Frag} {mg : Str → Option Value} {base : Heap} {x y qual m : Str} {st : Stmt} {N ps : List Str} {k : Nat} {sd : SdM} {ds : DS} {C f : Addr} {fd : FuncData} (F : FunD K x qual (defArgs st) (defBody st) (defScope st) [] [] f fd) (cl : Cls K C) (hm : Meth K C m f) (S : FnScope (y :: N) ps (defScope st)) (len : ∀ fs as Q E, sd fs as Q E → as.length + 1 = ps.length)
    (hbd : ∀ (kV doc pm : Value) (an : Option Addr) (cdv ct : Value) (us : List Value), us.length = ps.length → bindArgs (PySem.W.fnOf x qual (defArgs st) (defBody st) (defScope st) .none kV doc pm an cdv ct) ⟨us, []⟩ = pure (ps.zip us))
    (hb : ∀ (X : Cx) (W : WX) (f : Addr) (cdv : Value) (A : Around) (outer : List Env) (s : Shared) (H : Hp) (E : XK), X = cxOf (L2.CX P w) P w K mg base (y :: N) qual (defScope st) f cdv A outer s H E → W = WX0 E → Takes (cxOf (L2.CX P w) P w K mg base (y :: N) qual (defScope st) f cdv A outer s H E) (WX0 E) → PassesOwn (model P w) (cxOf (L2.CX P w) P w K mg base (y :: N) qual (defScope st) f cdv A outer s H E).A (cxOf (L2.CX P w) P w K mg base (y :: N) qual (defScope st) f cdv A outer s H E).env (cxOf (L2.CX P w) P w K mg base (y :: N) qual (defScope st) f cdv A outer s H E).xe →
      Room k (cxOf (L2.CX P w) P w K mg base (y :: N) qual (defScope st) f cdv A outer s H E).A → (cxOf (L2.CX P w) P w K mg base (y :: N) qual (defScope st) f cdv A outer s H E).A.units + 64 < cLine → (y :: N).Nodup →
      ∃ ts, DSSX (cxOf (L2.CX P w) P w K mg base (y :: N) qual (defScope st) f cdv A outer s H E) (WX0 E) (defBody st) ts ds)
    (hp : ∀ p fs as Q E, sd fs as Q E → ds (dEndsM p C Q E) (DW.startM p C fs (y :: N).length as)) : MuM P w K mg base (k + 1) m C sd :=
  ⟨f, fd, ps, cl, hm, fn_dMu F S len (fun cdv A outer s H E hr => hb _ _ f cdv A outer s H E rfl rfl tk_cx po_cx hr hr.units S.nd) hp, FunD.bindsN F (fun kV doc pm an cdv ct us hl => hbd kV doc pm an cdv ct us hl)⟩
theorem inokW_by {P : Program} {w : World} {K : PySem.W.Frag} {mg : Str → Option Value} {base : Heap} {x y qual : Str} {st : Stmt} {N ps : List Str} {k : Nat} {sd : Sd} {ds : DS} {C f : Addr} {fd : FuncData} {dvs : List V} {kws : List (Str × V)} (F : FunD K x qual (defArgs st) (defBody st) (defScope st) dvs kws f fd) (S : FnScope (y :: N) ps (defScope st)) (len : ∀ as Q E, sd as Q E → as.length + 1 = ps.length)
    (hb : ∀ (X : Cx) (W : WX) (f : Addr) (cdv : Value) (A : Around) (outer : List Env) (s : Shared) (H : Hp) (E : XK), X = cxOf (L2.CX P w) P w K mg base (y :: N) qual (defScope st) f cdv A outer s H E → W = WX0 E → Takes (cxOf (L2.CX P w) P w K mg base (y :: N) qual (defScope st) f cdv A outer s H E) (WX0 E) → PassesOwn (model P w) (cxOf (L2.CX P w) P w K mg base (y :: N) qual (defScope st) f cdv A outer s H E).A (cxOf (L2.CX P w) P w K mg base (y :: N) qual (defScope st) f cdv A outer s H E).env (cxOf (L2.CX P w) P w K mg base (y :: N) qual (defScope st) f cdv A outer s H E).xe →
      Room k (cxOf (L2.CX P w) P w K mg base (y :: N) qual (defScope st) f cdv A outer s H E).A → (cxOf (L2.CX P w) P w K mg base (y :: N) qual (defScope st) f cdv A outer s H E).A.units + 64 < cLine → (y :: N).Nodup →
      ∃ ts, DSSX (cxOf (L2.CX P w) P w K mg base (y :: N) qual (defScope st) f cdv A outer s H E) (WX0 E) (defBody st) ts ds)
    (hp : ∀ p as Q E, sd as Q E → ds (dEndsI p C Q E) (startI p C (y :: N).length as)) : FnOk P w K mg base (L2.CX P w) (k + 1) f fd ps (spIn K C sd) :=
  fn_dIn F S len (fun cdv A outer s H E hr => hb _ _ f cdv A outer s H E rfl rfl tk_cx po_cx hr hr.units S.nd) hp
theorem MakeOkN.mono {P : Program} {w : World} {K : PySem.W.Frag} {mg : Str → Option Value} {base : Heap} {j k : Nat} {x : Str} {C : Addr} {sd : Sd} {n : Nat} {ks : List Str} {f : List V → List V → List V} (M : MakeOkN P w K mg base j x C sd n ks f) (h : j ≤ k) : MakeOkN P w K mg base k x C sd n ks f := by
  obtain ⟨g, fd, ps, u, gV, h1, F, h2⟩ := M
  exact ⟨g, fd, ps, u, gV, h1, F.mono h, h2⟩
end DW

set_option Elab.async false
set_option linter.all false
set_option maxRecDepth 100000
/-! DW, part 40: x not in o. -/
namespace DW
open PySem PySem.Spec PyProof.Rows L2 StX SlX ClX
section
variable {X : Cx} {k : Nat} {C : Addr} {sd : Sd}
def rNiS (K : PySem.W.Frag) (C : Addr) (sd : Sd) : R2 := fun x y H Q => IsSl H C y ∧ spOf K sd [y, x] H (fun v H' => ∃ b : Bool, v = .bl b ∧ Q (.bl (!b)) H') (fun _ _ _ => False)
theorem op_niS (M : MSl X.prog X.w X.K X.mg X.base k "__contains__" C sd) (hr : Room k X.A) : L2.OpR X (compareOp .NotIn) (rNiS X.K C sd) := by
  intro pins s σ H x y v u Q I rx ry h
  obtain ⟨⟨b, dy, ws, rfl, hb⟩, q⟩ := h
  obtain ⟨g, fd, ps, sc, sf, me, F, bd⟩ := M
  cases (show u = Value.ref b from ry)
  obtain ⟨_, _, _, J, _⟩ := slt_inst I hb
  obtain ⟨_, hF⟩ := I.fr
  refine PySem.W.notIn_K hF I.ok.mod.kin J me.at_ me.fn (wpAny_mono (run_fnS (us := [.ref b, v]) (vs := [.ref b, x]) (E := fun _ _ _ _ => False) F hr bd noX I (.cons rfl (.cons rx .nil)) q) (fun w s' z => ?_) fun _ _ x => x)
  obtain ⟨_, H', I', rz, c, e, qz⟩ := z
  subst e
  cases (show w = Value.bool c from rz)
  exact wpAny_of_eq (by rfl) ⟨.bl (!c), H', I', rfl, qz⟩
def dNiS (C : Addr) (sd : Sd) (rd : D2) : D2 := fun x y Q => match y with
  | .dat (.slt C' d) => C' = C ∧ ∃ e, x = .dat e ∧ sd [.slt C d, e] (fun z => ∃ b : Bool, z = .v (.bl b) ∧ Q (.dat (.v (.bl (!b))))) (fun _ => False)
  | _ => rd x y Q
theorem sr_niS {K : PySem.W.Frag} {r : R2} {rd : D2} (h : SndR K r rd) : SndR K (fun x y H Q => rNiS K C sd x y H Q ∨ r x y H Q) (dNiS C sd rd) := fun x y s t Q q l0 F H b r1 r2 Qc kk => by
  unfold dNiS at q
  split at q
  · obtain ⟨e1, e, e2, q⟩ := q
    subst e1 e2
    refine .inl ⟨isSl_of b.sub r2, l0, F, _, _, _, b, .cons r2 (.cons r1 .nil), q, fun v d F' H' g r q => ?_, fun _ _ _ _ _ _ _ q => q.elim⟩
    obtain ⟨c, e, q⟩ := q
    subst e
    have rv : v = .bl c := by cases r; rfl
    subst rv
    exact ⟨c, rfl, kk (.bl (!c)) (.dat (.v (.bl (!c)))) F' H' g (Den.v _) q⟩
  · exact .inr (h x y s t Q q l0 F H b r1 r2 Qc kk)
end
end DW

set_option Elab.async false
set_option linter.all false
set_option maxRecDepth 100000
/-! DW, part 41: dicts with text keys that never change: displays, d["k"]. -/
namespace DW
open PySem PySem.Spec PyProof.Rows L2 StX SlX ClX
/-- what a display with the keys ks holds -/
def dctOf : List Str → List Dt → List (Key × Dt)
  | k :: ks, d :: ds => (.inr k, d) :: dctOf ks ds
  | _, _ => []
def vtOf : List Str → List V → List (Key × V)
  | k :: ks, d :: ds => (.inr k, d) :: vtOf ks ds
  | _, _ => []
def dDisp (ks : List Str) (dr : DA) : DE := fun ρ Q E => dr ρ (fun ss => plain ss fun ds => Q (.dat (.dct (dctOf ks ds)))) E
/-- what a dict says of a text key -/
def atS : List (Key × Dt) → Str → Option Dt
  | (.inr x, d) :: r, k => if x = k then some d else atS r k
  | _ :: r, k => atS r k
  | [], _ => none
def keyS (k : Str) : Sl → (Sl → Prop) → Prop
  | .dat (.dct kvs), Q => ∃ d, atS kvs k = some d ∧ Q (.dat d)
  | _, _ => False
def dKey (k : Str) (da : DE) : DE := fun ρ Q E => da ρ (fun s => keyS k s Q) E
/-- a statement, then the rest: what holds between -/
theorem seq_cut {t u : DS} {D : DEnds} {ρ : En} (P : En → Prop) (h2 : ∀ ρ', P ρ' → u D ρ') (h1 : ∀ K : En → Prop, (∀ ρ', P ρ' → K ρ') → t { D with nx := K } ρ) : dSeq t u D ρ := h1 _ h2
theorem dVar_ap {i : Nat} {ρ : En} {d : Dt} {Q : Sl → Prop} {E : Xn → Prop} (h : ρ.getD i .emp = .dat d) (q : Q (.dat d)) : dVar i ρ Q E := by
  unfold dVar
  rw [h]
  exact q
section
variable {X : Cx} {W : WX} {K : PySem.W.Frag} {l0 : Addr} {F H : Hp} {pos : Pos}
theorem DenK.at : ∀ {xs : List (Key × V)} {ds : List (Key × Dt)} {k : Str} {d : Dt}, DenK K l0 F xs ds → atS ds k = some d → ∃ v, valV xs (.inr k : Key) = some v ∧ Den K l0 F v d
  | _, _, _, _, .nil, e => by simp [atS] at e
  | _, _, k, d, .cons (f := .inl i) (x := y) (d := b) h t, e => by
    have e : atS _ k = some d := e
    obtain ⟨v, h1, h2⟩ := DenK.at t e
    exact ⟨v, by rw [valV_neg (by simp)]; exact h1, h2⟩
  | _, _, k, d, .cons (f := .inr g) (x := y) (d := b) h t, e => by
    by_cases q : g = k
    · subst q
      simp only [atS, if_true] at e
      cases e
      exact ⟨y, by unfold valV; simp, h⟩
    · simp only [atS, if_neg q] at e
      obtain ⟨v, h1, h2⟩ := DenK.at t e
      exact ⟨v, by rw [valV_neg (by simpa using q)]; exact h1, h2⟩
theorem DenK.of : ∀ {ks : List Str} {vs : List V} {ds : List Dt}, Dens K l0 F vs ds → DenK K l0 F (vtOf ks vs) (dctOf ks ds)
  | [], _, _, .nil => .nil
  | [], _, _, .cons _ _ => .nil
  | _ :: _, _, _, .nil => .nil
  | _ :: ks, _, _, .cons h t => .cons h (DenK.of t)
theorem vt_none {k : Str} : ∀ {ks : List Str} {vs : List V}, k ∉ ks → valV (vtOf ks vs) (.inr k : Key) = none
  | [], _, _ => rfl
  | _ :: _, [], _ => rfl
  | a :: ks, v :: vs, h => by
    show valV ((.inr a, v) :: vtOf ks vs) _ = none
    rw [valV_neg (by intro e; cases e; exact h (List.mem_cons_self ..))]
    exact vt_none fun m => h (List.mem_cons_of_mem _ m)
theorem valV_app {kvs more : List (Key × V)} {k : Key} (h : valV kvs k = none) (h2 : valV more k = none) : valV (kvs ++ more) k = none := by
  unfold valV at *
  rw [List.find?_append]
  cases e : kvs.find? (fun kv => decide (kv.1 = k)) with
  | none => simpa using h2
  | some p => rw [e] at h; cases h
theorem merge_vt : ∀ {ks : List Str} {vs : List V} {acc : List (Key × V)}, ks.Nodup → (∀ k ∈ ks, valV acc (.inr k : Key) = none) → mergeK acc (vtOf ks vs) = acc ++ vtOf ks vs
  | [], vs, acc, _, _ => by show acc = acc ++ []; rw [List.append_nil]
  | _ :: _, [], acc, _, _ => by show acc = acc ++ []; rw [List.append_nil]
  | k :: ks, v :: vs, acc, nd, h => by
    show mergeK (putK acc (.inr k) v) (vtOf ks vs) = acc ++ ((.inr k, v) :: vtOf ks vs)
    rw [putK_new v (h k (List.mem_cons_self ..)), merge_vt (List.nodup_cons.mp nd).2 (fun j m => valV_app (h j (List.mem_cons_of_mem _ m)) (by
      rw [valV_neg (by intro e; cases e; exact (List.nodup_cons.mp nd).1 m)]
      rfl)), List.append_assoc]
    rfl
theorem vt_len : ∀ {ks : List Str} {vs : List V}, (vtOf ks vs).length ≤ ks.length
  | [], _ => Nat.le_refl _
  | _ :: _, [] => Nat.zero_le _
  | _ :: ks, _ :: vs => Nat.succ_le_succ (vt_len (ks := ks) (vs := vs))
/-- the pairs of a display -/
structure DPX (X : Cx) (W : WX) (pos : Pos) (keys : List (Option Expr)) (values : List Expr) (ks : List Str) (trs : List (TE × TE)) (da : DA) : Prop where
  pp : PPs X pos keys values trs
  sd : ∀ ρ Q E, da ρ Q E → ∀ l0 F H σ, Stt X.K l0 F H σ ρ → ∀ Qc : List (V × V) → Hp → Prop,
    (∀ vs ss F' H', Go l0 F H F' H' → Paired (SlV X.K l0 F' H') vs ss → Q ss → Qc ((vtOf ks vs).map fun p => (kV p.1, p.2)) H') → KX X.K W l0 F H σ E → tPairs trs σ H Qc
theorem dp_nil : DPX X W pos [] [] [] [] dNil := ⟨pps_nil, fun ρ Q E h l0 F H σ S Qc k _ => k [] [] F H (.refl S.bs) .nil h⟩
theorem dp_cons {x : Str} {j p} {v : Expr} {keys : List (Option Expr)} {values : List Expr} {ks : List Str} {trs : List (TE × TE)} {tv : TE} {dv : DE} {dr : DA} (hv : DEX X W v tv dv) (hr : DPX X W pos keys values ks trs dr) :
    DPX X W pos (some (.Constant (.str x) j p) :: keys) (v :: values) (x :: ks) ((tC (.str x), tv) :: trs) (dCons dv dr) :=
  ⟨pps_cons pe_str hv.1 hr.1, fun ρ Q E h l0 F H σ S Qc k kx => by
    refine hv.2 ρ _ E h l0 F H σ S _ (fun y s F1 H1 g1 r1 q1 => ?_) kx
    refine hr.2 ρ _ E q1 l0 F1 H1 σ (S.go g1) _ (fun vs ss F2 H2 g2 r2 q2 => ?_) (kx.go g1)
    exact k (y :: vs) (s :: ss) F2 H2 (g1.trans g2) (.cons (r1.go g2) r2) q2⟩
theorem de_disp {keys : List (Option Expr)} {values : List Expr} {ks : List Str} {trs : List (TE × TE)} {dr : DA} (h : DPX X W pos keys values ks trs dr) (nd : ks.Nodup := by decide) (hall : keys.all (·.isSome) = true := by rfl) (hl : keys.length = values.length := by rfl)
    (h0 : keys ≠ [] := by simp) (h15 : keys.length ≤ 15 := by decide) (hk : ks.length ≤ 15 := by decide) : DEX X W (.Dict keys values pos) (tDisp trs) (dDisp ks dr) := by
  refine ⟨pe_disp h.1 hall hl h0 h15, fun ρ Q E q l0 F H σ S Qc k kx p hp => ?_⟩
  have g0 := Go.loose (p := p) S.bs (.dK []) hp
  have n0 : p ≠ l0 := fun e => S.bs.live (by rw [← e]; exact hp)
  have nF : F p = none := by
    cases e : F p with
    | none => rfl
    | some u =>
      have := S.bs.sub p u e
      rw [hp] at this
      cases this
  refine h.2 ρ _ E q l0 _ _ σ (S.go g0) _ (fun vs ss F2 H2 g2 r2 q2 => ?_) (kx.go g0)
  obtain ⟨ds, e, q3⟩ := plain_of q2
  subst e
  clear q2
  have h2 : H2 p = some (.dK []) := g2.keep _ _ n0 upd_same
  have f2 : F2 p = none := g2.stays nF upd_same
  refine ⟨h2, vtOf ks vs, rfl, Nat.le_trans vt_len hk, ?_⟩
  have e : mergeK [] (vtOf ks vs) = vtOf ks vs := by rw [merge_vt nd (fun _ _ => rfl)]; rfl
  rw [e]
  have g3 := ((g0.trans g2).modNew (o := .dK (vtOf ks vs)) hp f2 n0).frzNew (D := p) (o := .dK (vtOf ks vs)) hp f2 n0 upd_same
  refine k (.ref p) (.dat (.dct (dctOf ks ds))) _ _ g3 ?_ q3
  refine Den.dct upd_same (DenK.mono (F := F2) (fun a o h => ?_) (DenK.of (dens_of r2)))
  rw [upd_ne (ne_of_none h f2)]
  exact h
theorem keyS_of {k : Str} {s : Sl} {Q : Sl → Prop} (h : keyS k s Q) : ∃ kvs d, s = .dat (.dct kvs) ∧ atS kvs k = some d ∧ Q (.dat d) := by
  unfold keyS at h
  split at h
  · obtain ⟨d, e1, q⟩ := h
    exact ⟨_, d, rfl, e1, q⟩
  · exact h.elim
theorem de_key {e : Expr} {k : Str} {te : TE} {de : DE} {j p} (hu : X.A.units + 64 < cLine) (he : DEX X W e te de) : DEX X W (.Subscript e (.Constant (.str k) j p) pos) (tDGet te (tC (.str k))) (dKey k de) := by
  refine ⟨pe_dget (by omega) he.1 pe_str (fun _ _ => rfl), fun ρ Q E q l0 F H σ S Qc kk kx => ?_⟩
  refine he.2 ρ _ E q l0 F H σ S _ (fun x s F1 H1 g1 r1 q1 => ?_) kx
  have q1 : keyS k s Q := q1
  obtain ⟨kvs, d, e0, e1, q5⟩ := keyS_of q1
  subst e0
  cases r1 with
  | dct h r =>
    obtain ⟨v, e2, r2⟩ := r.at e1
    exact ⟨_, v, rfl, by rw [← e2]; exact DGet.k (k := .inr k) (g1.bs.sub _ _ h), kk v (.dat d) _ _ g1 r2 q5⟩
end
end DW

set_option Elab.async false
set_option linter.all false
set_option maxRecDepth 100000
/-! DW, part 42: super().m(..) within a larger expression. -/
namespace DW
open PySem PySem.Spec PyProof.Rows L2 NdefX ClX
section
variable {X : Cx} {W : WX} {b l : List Stmt} {st : Stmt} {e e2 : Expr} {pos : Pos} {xa xb : TE} {da db : DE} {t : TS} {u : DS}
theorem pea_op {op : Operator} {r : R2} (ho : L2.OpR X (binaryOp op) r) (ha : PEA X b e xa) (hb : PE X e2 xb) : PEA X b (.BinOp e op e2 pos) (tOp r xa xb) := fun pins s σ H Q I h => by
  refine ks_wpAt_BinOp (ks_wpAt_mono (ha pins s σ H _ I h) (fun u s1 hs => ?_) fun _ _ z => z)
  obtain ⟨x, H1, I1, rx, q1⟩ := hs
  exact thn (hb.run pins s1 σ H1 _ I1 q1) fun w s2 ⟨y, H2, I2, ry, q2⟩ => ho pins s2 σ H2 x y u w Q I2 rx ry q2
theorem dea_op {op : Operator} {r : R2} {rd : D2} (ho : L2.OpR X (binaryOp op) r) (hs : SndR X.K r rd) (ha : DEA X W b e xa da) (hb : DEX X W e2 xb db) : DEA X W b (.BinOp e op e2 pos) (tOp r xa xb) (dOp rd da db) :=
  ⟨pea_op ho ha.1 hb.1, snd_op hs ha.2 hb.2⟩
theorem dssa_one (h : DSA X W b st t u) : DSSA X W b [st] (tSeq t tNext) (dSeq u dNext) := dssa_cons h (dssa_of dss_nil)
end
end DW

set_option Elab.async false
set_option linter.all false
set_option maxRecDepth 100000
/-! DW, part 43: the head's hook with fewer addresses (the globals, the classes' namespaces, the methods, their code and defaults). -/
namespace DW
open PySem PySem.Spec PyProof.Rows L2
def refsZ (o : Obj) : List Addr := match o.data with
  | .seq its _ => its.toList.flatMap He.refV
  | .dict es _ => es.toList.flatMap fun e => He.refV e.val
  | .func fd => He.refV fd.code ++ He.refV fd.defaults ++ He.refV fd.kwdefaults ++ fd.closure.map (·.2)
  | .cls cd => [cd.ns]
  | .fields vs => vs.toList.flatMap He.refV
  | _ => []
def nxZ (g : Addr → Option Obj) (as : List Addr) : List Addr := as.flatMap fun a => match g a with
  | some o => refsZ o
  | none => []
def goZ (g : Addr → Option Obj) : Nat → List Addr → List Addr
  | 0, as => as
  | n + 1, as => as ++ goZ g n (nxZ g as)
def asZ (g : Addr → Option Obj) (n : Nat) : List Addr := goZ g n [mainGlobals] ++ [PySem.cStatics]
def obsZ (P : Program) (n : Nat) (t : Top) (g : Addr → Option Obj) : AlX := t.obs P (He.frG g (asZ g n))
def hookZ (P : Program) (n : Nat) (t : Top) : PySem.W.Hook where
  α := AlX
  obs := fun s => obsZ P n t s.heap.get?
  val := fun _ => t.val
  says := fun _ h => ∃ K : PySem.W.Frag, K.In h ∧ t.obs P K = t.val
  of := fun _ _ e => ⟨_, He.frG_in, e⟩
  keeps := fun _ _ _ ⟨K, hK, c⟩ k => ⟨K, PySem.W.Frag.In.keeps hK k, c⟩
theorem obsZ_eq {P : Program} {n : Nat} {t : Top} {g : Addr → Option Obj} {s : Shared} (h : ∀ a, g a = s.heap.get? a) : obsZ P n t g = (hookZ P n t).obs s := by
  have e : g = s.heap.get? := funext h
  rw [e] <;> rfl
end DW

set_option Elab.async false
set_option linter.all false
set_option maxRecDepth 100000
/-! DW, part 44: a comprehension that sees own lists (its items must be clean data). -/
namespace DW
open PySem L2
section
variable {X : Cx} {W : WX} {tg : Expr} {pos : Pos}
theorem snd_lcF {K : PySem.W.Frag} {wi : TI} {g : TG} {tt : TT} {te : TE} {di : DI} {dg : DG} {dt : DTt} {de : DE} {ts vs : List Nat} (hv : ∀ j ∈ ts, j ∈ vs) (si : SndI K W wi di) (sg : SndG K ts g dg) (st : SndT K W0 tt dt) (se : SndE K W0 te de) :
    ∀ ρ Q E, dLc di dg dt de vs ρ Q E → ∀ l0 F H σ, Stt K l0 F H σ ρ → ∀ Qc : VK, (∀ D acc xs F' H', H D = none → Go l0 F H F' H' → F' D = some (.lst xs) → Dens K l0 F' xs acc → Q (.dat (.lst acc)) → Qc (.ref D) H') → KX K W l0 F H σ E → tLc wi g tt te vs σ H Qc := fun ρ Q E h l0 F H σ S Qc k kx => by
  refine si ρ _ _ h l0 F H σ S _ (fun J ds F1 H1 g1 wl q1 => ?_) kx
  intro D hD
  have n0 : D ≠ l0 := fun e => g1.bs.live (by rw [← e]; exact hD)
  have FD : F1 D = none := by
    cases e : F1 D with
    | none => rfl
    | some u =>
      rw [g1.bs.sub D u e] at hD
      cases hD
  have S1 := S.go g1
  have noX : ∀ {F H σ}, KX K W0 l0 F H σ fun _ => False := fun _ _ _ _ _ _ _ z => z.elim
  obtain ⟨P, q0, qt, qe⟩ := q1
  refine ⟨fun i m H' => m = ds.length - i ∧ i ≤ ds.length ∧ ∃ F' acc xs, Go l0 F1 H1 F' H' ∧ F' D = none ∧ H' D = some (.lst xs) ∧ Dens K l0 F' xs acc ∧ P i acc, ⟨ds.length, by simp, Nat.zero_le _, F1, [], [], Go.loose g1.bs (.lst []) hD, FD, upd_same, .nil, q0⟩, ?_⟩
  rintro i m H2 ⟨rfl, hi, F2, acc, xs, g2, hF2, hD2, r2, q2⟩
  by_cases hlt : i < ds.length
  · refine .inr ⟨wl.go i F2 H2 g2.ex g2.bs hlt, fun H' => ∃ F' acc xs, Go l0 F1 H1 F' H' ∧ F' D = none ∧ H' D = some (.lst xs) ∧ Dens K l0 F' xs acc ∧ P (i + 1) acc, fun H' z => ⟨ds.length - (i + 1), by omega, rfl, hlt, z⟩, fun x H3 y => ?_⟩
    obtain ⟨F3, d, g3, hd, r3⟩ := wl.yld i F2 H2 x H3 g2.ex g2.bs hlt y
    have q2 := qt i d acc hd q2
    have g13 := g2.trans g3
    refine sg (.dat d) _ _ q2 l0 F3 H3 _ x ((S1.go g13).wipe vs) r3 _ fun F4 H4 σ4 ρ4 g4 w4 S4 z4 q4 => ?_
    refine ⟨(z4 vs hv).trans wipe_twice, ?_⟩
    refine st ρ4 _ _ q4 l0 F4 H4 σ4 S4 _ (fun b F5 H5 g5 q5 => ?_) noX
    have g25 := (g3.trans g4).trans g5
    have g15 := g2.trans g25
    have hF5 := g25.stays hF2 hD2
    have hD5 := g25.keep D _ n0 hD2
    have r5 := Dens.mono g25.ex r2
    cases b with
    | true =>
      rw [if_pos rfl] at q5 ⊢
      refine se ρ4 _ _ q5 l0 F5 H5 σ4 (S4.go g5) _ (fun v s F6 H6 g6 r6 q6 => ?_) noX
      obtain ⟨d6, e, z, q⟩ := datS_of q6
      subst e
      have hF6 := g6.stays hF5 hD5
      have hD6 := g6.keep D _ n0 hD5
      refine ⟨xs, hD6, by rw [r5.length]; exact Nat.lt_of_le_of_lt z (by decide), F6, _, _, (g15.trans g6).modNew hD hF6 n0, hF6, upd_same, (Dens.mono g6.ex r5).append (Dens.one r6), q⟩
    | false =>
      rw [if_neg Bool.false_ne_true] at q5 ⊢
      exact ⟨F5, acc, xs, g15, hF5, hD5, r5, q5⟩
  · have e : i = ds.length := by omega
    subst e
    have q2 := qe acc q2
    refine .inl ⟨wl.stop F2 H2 g2.ex g2.bs, ?_⟩
    have g := g2.frzNew hD hF2 n0 hD2
    have hD0 : H D = none := by
      cases e : H D with
      | none => rfl
      | some o =>
        rw [g1.keep D o n0 e] at hD
        cases hD
    exact k D acc xs _ _ hD0 (g1.trans g) upd_same (Dens.mono (fun a u e => by rw [upd_ne (ne_of_none e hF2)]; exact e) r2) q2
def dLendLc (di : DI) (dg : DG) (dt : DTt) (de : DE) (vs : List Nat) : DE := fun ρ Q E => dLc di dg dt de vs (lendEn ρ) (fun s => ∃ ds, s = .dat (.lst ds) ∧ (∀ d ∈ ds, Clean d) ∧ Q s) fun x => CleanX x ∧ E x
theorem snd_lcO {K : PySem.W.Frag} {wi : TI} {g : TG} {tt : TT} {te : TE} {di : DI} {dg : DG} {dt : DTt} {de : DE} {ts vs : List Nat} (hv : ∀ j ∈ ts, j ∈ vs) (si : SndI K W wi di) (sg : SndG K ts g dg) (st : SndT K W0 tt dt) (se : SndE K W0 te de) :
    SndE K W (tLc wi g tt te vs) (dLendLc di dg dt de vs) := fun ρ Q E q l0 F H σ S Qc k kx => by
  refine snd_lcF hv si sg st se (lendEn ρ) _ _ q l0 (lendF F H σ ρ) H σ S.lend Qc (fun D acc xs F' H' hD g hF r q => ?_) (fun cls d x F' H' g r q => kx cls d x _ H' (S.lend_go g) (S.lend_x g r q.1) q.2)
  obtain ⟨ds, e, c, q⟩ := q
  cases e
  refine k (.ref D) (.dat (.lst acc)) _ H' (S.lend_go g) (Den.lst (SqL.of ?_) (S.lend_dens g r c)) q
  rw [lendB_not (fun z => ?_)]
  · exact hF
  · obtain ⟨_, _, u, hu, _⟩ := S.ownA z
    rw [hD] at hu
    cases hu
theorem de_lcO {elt iter : Expr} {ifs : List Expr} {scope : Scope} {own : List (Str × Nat)} {wi : TI} {g : TG} {tt : Shared → Hp → Addr → List (Str × Addr) → List Addr → TT} {te : Shared → Hp → Addr → List (Str × Addr) → List Addr → TE} {di : DI} {dg : DG} {dt : DTt} {ns : List Nat} (hc : X.calm = true) (hN : X.N.Nodup) (hi : DIX X W tg iter wi di) (ok : BlkOk X.N X.env.scope scope own)
    (hg : ∀ (s : Shared) (H : Hp) (C : Addr) (cl : List (Str × Addr)) (fp : List Addr), DGX (X.blk s H scope (compEnvC scope cl C X.env) fp) tg ns g dg) (ht : ∀ (s : Shared) (H : Hp) (C : Addr) (cl : List (Str × Addr)) (fp : List Addr), DTsX (X.blk s H scope (compEnvC scope cl C X.env) fp) W0 ifs (tt s H C cl fp) dt)
    (he : ∀ (s : Shared) (H : Hp) (C : Addr) (cl : List (Str × Addr)) (fp : List Addr), DEX (X.blk s H scope (compEnvC scope cl C X.env) fp) W0 elt (te s H C cl fp) de) (ett : ∀ (s : Shared) (H : Hp) (C : Addr) (cl : List (Str × Addr)) (fp : List Addr), tt s H C cl fp = tt X.s_0 X.H_0 0 [] [] := by intros; rfl) (ete : ∀ (s : Shared) (H : Hp) (C : Addr) (cl : List (Str × Addr)) (fp : List Addr), te s H C cl fp = te X.s_0 X.H_0 0 [] [] := by intros; rfl) (hv : ∀ j ∈ ns, j ∈ own.map (·.2) := by decide) (hs : ∀ x, foldedSetIterable iter X.env x = pure x := by intro _; rfl) :
    DEX X W (.ListComp elt [⟨tg, iter, ifs, 0⟩] scope pos) (tLc wi g (tt X.s_0 X.H_0 0 [] []) (te X.s_0 X.H_0 0 [] []) (own.map (·.2))) (dLendLc di dg dt de (own.map (·.2))) :=
  ⟨pe_lc hc hN hi.1 ok (fun s H C cl fp => (hg s H C cl fp).1) (fun s H C cl fp => ett s H C cl fp ▸ (ht s H C cl fp).1) (fun s H C cl fp => ete s H C cl fp ▸ (he s H C cl fp).1) hs,
    snd_lcO hv hi.2 (hg X.s_0 X.H_0 0 [] []).2 (ht X.s_0 X.H_0 0 [] []).2 (he X.s_0 X.H_0 0 [] []).2⟩
theorem ds_setLcO {i : Nat} {y : Str} {py spos : Pos} {elt iter : Expr} {ifs : List Expr} {scope : Scope} {own : List (Str × Nat)} {wi : TI} {g : TG} {tt : Shared → Hp → Addr → List (Str × Addr) → List Addr → TT} {te : Shared → Hp → Addr → List (Str × Addr) → List Addr → TE} {di : DI} {dg : DG} {dt : DTt} {ns : List Nat} (hc : X.calm = true) (hN : X.N.Nodup) (hy : X.N[i]? = some y) (hyl : X.env.scope.names.lookup y = some .local)
    (hsw : swapsWith (.ListComp elt [⟨tg, iter, ifs, 0⟩] scope pos) (some (.Name y py)) spos.line X.env = pure true) (hi : DIX X W tg iter wi di) (ok : BlkOk X.N X.env.scope scope own)
    (hg : ∀ (s : Shared) (H : Hp) (C : Addr) (cl : List (Str × Addr)) (fp : List Addr), DGX (X.blk s H scope (compEnvC scope cl C X.env) fp) tg ns g dg) (ht : ∀ (s : Shared) (H : Hp) (C : Addr) (cl : List (Str × Addr)) (fp : List Addr), DTsX (X.blk s H scope (compEnvC scope cl C X.env) fp) W0 ifs (tt s H C cl fp) dt)
    (he : ∀ (s : Shared) (H : Hp) (C : Addr) (cl : List (Str × Addr)) (fp : List Addr), DEX (X.blk s H scope (compEnvC scope cl C X.env) fp) W0 elt (te s H C cl fp) de) (ett : ∀ (s : Shared) (H : Hp) (C : Addr) (cl : List (Str × Addr)) (fp : List Addr), tt s H C cl fp = tt X.s_0 X.H_0 0 [] [] := by intros; rfl) (ete : ∀ (s : Shared) (H : Hp) (C : Addr) (cl : List (Str × Addr)) (fp : List Addr), te s H C cl fp = te X.s_0 X.H_0 0 [] [] := by intros; rfl) (hv : ∀ j ∈ ns, j ∈ own.map (·.2) := by decide) (hs : ∀ x, foldedSetIterable iter X.env x = pure x := by intro _; rfl) :
    DSX X W (.Assign [.Name y py] (.ListComp elt [⟨tg, iter, ifs, 0⟩] scope pos) spos) (tAsg (tLc wi g (tt X.s_0 X.H_0 0 [] []) (te X.s_0 X.H_0 0 [] []) (own.map (·.2))) (gName i)) (dAsg (dLendLc di dg dt de (own.map (·.2))) (gdName i)) := by
  refine ⟨ps_setLc hc hN hy hyl hsw hi.1 ok (fun s H C cl fp => (hg s H C cl fp).1) (fun s H C cl fp => ett s H C cl fp ▸ (ht s H C cl fp).1) (fun s H C cl fp => ete s H C cl fp ▸ (he s H C cl fp).1) hs, fun D ρ h l0 F H σ S C L => ?_⟩
  have se := snd_lcO (W := W) hv hi.2 (hg X.s_0 X.H_0 0 [] []).2 (ht X.s_0 X.H_0 0 [] []).2 (he X.s_0 X.H_0 0 [] []).2
  refine se ρ _ _ h l0 F H σ S _ (fun v s F1 H1 g1 r1 q1 => ?_) (L.kx S)
  dsimp only at q1
  unfold gdName at q1
  split at q1
  · exact (L.trans S.bs (.of g1) .refl).nx F1 H1 _ _ (.of (.refl g1.bs)) (.put i) ((S.go g1).put i r1) q1
  · exact q1.elim
end
end DW

set_option Elab.async false
set_option linter.all false
set_option maxRecDepth 100000
/-! DW, part 45: x in l of any data; // by a number below 2^250 in size that is not zero. -/
namespace DW
open PySem PySem.Spec PyProof.Rows L2
/-- what is asked of x in l, whatever data they are -/
def rInDw (K : PySem.W.Frag) : R2 := fun x y H Q => ∃ d ds, Dp K H x d ∧ Dp K H y (.list ds) ∧ SeqAt.shaped d = true ∧ SeqAt.shaped (.list ds) = true ∧ Q (.bl (ds.any fun z => PyData.eqv z d)) H
def rNotInDw (K : PySem.W.Frag) : R2 := fun x y H Q => ∃ d ds, Dp K H x d ∧ Dp K H y (.list ds) ∧ SeqAt.shaped d = true ∧ SeqAt.shaped (.list ds) = true ∧ Q (.bl (!ds.any fun z => PyData.eqv z d)) H
theorem op_inDw {X : Cx} (hu : X.A.units + 100 < cLine) : L2.OpR X (compareOp .In) (rInDw X.K) := fun pins s σ H x y v u Q I rx ry h => by
  obtain ⟨d, ds, hd, he, sd, se, q⟩ := h
  obtain ⟨_, r1⟩ := Dp.reads I d x v hd rx
  obtain ⟨_, r2⟩ := Dp.reads I (.list ds) y u he ry
  exact SeqAt.in_list_reads r2 r1 (SeqAt.canLay_of_shaped se) (SeqAt.canLay_of_shaped sd) (room_in_shaped sd (by omega)) ⟨.bl _, H, I, rfl, q⟩
theorem op_notInDw {X : Cx} (hu : X.A.units + 100 < cLine) : L2.OpR X (compareOp .NotIn) (rNotInDw X.K) := fun pins s σ H x y v u Q I rx ry h => by
  obtain ⟨d, ds, hd, he, sd, se, q⟩ := h
  obtain ⟨_, r1⟩ := Dp.reads I d x v hd rx
  obtain ⟨_, r2⟩ := Dp.reads I (.list ds) y u he ry
  exact SeqAt.notIn_list_reads r2 r1 (SeqAt.canLay_of_shaped se) (SeqAt.canLay_of_shaped sd) (room_in_shaped sd (by omega)) ⟨.bl _, H, I, rfl, q⟩
def dInD : D2 := fun x y Q => ∃ d ds, pyS x = some d ∧ pyS y = some (.list ds) ∧ SeqAt.shaped d = true ∧ SeqAt.shaped (.list ds) = true ∧ Q (.dat (.v (.bl (ds.any fun z => PyData.eqv z d))))
def dNotInD : D2 := fun x y Q => ∃ d ds, pyS x = some d ∧ pyS y = some (.list ds) ∧ SeqAt.shaped d = true ∧ SeqAt.shaped (.list ds) = true ∧ Q (.dat (.v (.bl (!ds.any fun z => PyData.eqv z d))))
theorem sr_inD {K : PySem.W.Frag} : SndR K (rInDw K) dInD := fun x y s t Q h l0 F H b r1 r2 Qc k => by
  obtain ⟨d, ds, h1, h2, h3, h4, q⟩ := h
  exact ⟨d, ds, sl_py b r1 h1, sl_py b r2 h2, h3, h4, k.here b q⟩
theorem sr_notInD {K : PySem.W.Frag} : SndR K (rNotInDw K) dNotInD := fun x y s t Q h l0 F H b r1 r2 Qc k => by
  obtain ⟨d, ds, h1, h2, h3, h4, q⟩ := h
  exact ⟨d, ds, sl_py b r1 h1, sl_py b r2 h2, h3, h4, k.here b q⟩
def CDivM (_ j : Int) : Prop := j ≠ 0 ∧ j.natAbs < 2 ^ 250
theorem op_fdivM {X : Cx} : L2.OpR X (binaryOp .FloorDiv) (rI CDivM fun i j => .int (i.fdiv j)) := opI fun i j _ _ _ _ _ hc q => floordiv_int hc.1 q (.inl (PyProof.noPylong_of_log2 (Nat.lt_trans (PySem.Flt.log2_lt_of (by decide) hc.2) (by decide))))
def dFdivM : D2 := d2I (fun _ j => j ≠ 0 ∧ j.natAbs < 2 ^ 250) fun i j => .int (i.fdiv j)
theorem de_fdivM {X : Cx} {W : WX} {a b : Expr} {xa xb : TE} {da db : DE} {pos : Pos} (ha : DEX X W a xa da) (hb : DEX X W b xb db) : DEX X W (.BinOp a .FloorDiv b pos) (tOp (rI CDivM fun i j => .int (i.fdiv j)) xa xb) (dOp dFdivM da db) := de_op op_fdivM (sr_I fun _ _ h => h) ha hb
end DW

set_option Elab.async false
set_option linter.all false
set_option maxRecDepth 100000
/-! DW, part 46: comprehensions as fresh lists; x += a list. -/
namespace DW
open PySem PySem.Spec PyProof.Rows L2
section
variable {X : Cx} {W : WX} {tg : Expr} {pos : Pos}
theorem snd_lcN {K : PySem.W.Frag} {wi : TI} {g : TG} {tt : TT} {te : TE} {di : DI} {dg : DG} {dt : DTt} {de : DE} {ts vs : List Nat} (hv : ∀ j ∈ ts, j ∈ vs) (si : SndI K W wi di) (sg : SndG K ts g dg) (st : SndT K W0 tt dt) (se : SndE K W0 te de) :
    ∀ ρ Q E, dLc di dg dt de vs ρ Q E → ∀ l0 F H σ, Stt K l0 F H σ ρ → ∀ Qc : VK, (∀ D acc xs F' H', H D = none → Go l0 F H F' H' → D ≠ l0 → F' D = none → H' D = some (.lst xs) → Dens K l0 F' xs acc → Q (.dat (.lst acc)) → Qc (.ref D) H') → KX K W l0 F H σ E → tLc wi g tt te vs σ H Qc := fun ρ Q E h l0 F H σ S Qc k kx => by
  refine si ρ _ _ h l0 F H σ S _ (fun J ds F1 H1 g1 wl q1 => ?_) kx
  intro D hD
  have n0 : D ≠ l0 := fun e => g1.bs.live (by rw [← e]; exact hD)
  have FD : F1 D = none := by
    cases e : F1 D with
    | none => rfl
    | some u =>
      rw [g1.bs.sub D u e] at hD
      cases hD
  have S1 := S.go g1
  have noX : ∀ {F H σ}, KX K W0 l0 F H σ fun _ => False := fun _ _ _ _ _ _ _ z => z.elim
  obtain ⟨P, q0, qt, qe⟩ := q1
  refine ⟨fun i m H' => m = ds.length - i ∧ i ≤ ds.length ∧ ∃ F' acc xs, Go l0 F1 H1 F' H' ∧ F' D = none ∧ H' D = some (.lst xs) ∧ Dens K l0 F' xs acc ∧ P i acc, ⟨ds.length, by simp, Nat.zero_le _, F1, [], [], Go.loose g1.bs (.lst []) hD, FD, upd_same, .nil, q0⟩, ?_⟩
  rintro i m H2 ⟨rfl, hi, F2, acc, xs, g2, hF2, hD2, r2, q2⟩
  by_cases hlt : i < ds.length
  · refine .inr ⟨wl.go i F2 H2 g2.ex g2.bs hlt, fun H' => ∃ F' acc xs, Go l0 F1 H1 F' H' ∧ F' D = none ∧ H' D = some (.lst xs) ∧ Dens K l0 F' xs acc ∧ P (i + 1) acc, fun H' z => ⟨ds.length - (i + 1), by omega, rfl, hlt, z⟩, fun x H3 y => ?_⟩
    obtain ⟨F3, d, g3, hd, r3⟩ := wl.yld i F2 H2 x H3 g2.ex g2.bs hlt y
    have q2 := qt i d acc hd q2
    have g13 := g2.trans g3
    refine sg (.dat d) _ _ q2 l0 F3 H3 _ x ((S1.go g13).wipe vs) r3 _ fun F4 H4 σ4 ρ4 g4 w4 S4 z4 q4 => ?_
    refine ⟨(z4 vs hv).trans wipe_twice, ?_⟩
    refine st ρ4 _ _ q4 l0 F4 H4 σ4 S4 _ (fun b F5 H5 g5 q5 => ?_) noX
    have g25 := (g3.trans g4).trans g5
    have g15 := g2.trans g25
    have hF5 := g25.stays hF2 hD2
    have hD5 := g25.keep D _ n0 hD2
    have r5 := Dens.mono g25.ex r2
    cases b with
    | true =>
      rw [if_pos rfl] at q5 ⊢
      refine se ρ4 _ _ q5 l0 F5 H5 σ4 (S4.go g5) _ (fun v s F6 H6 g6 r6 q6 => ?_) noX
      obtain ⟨d6, e, z, q⟩ := datS_of q6
      subst e
      have hF6 := g6.stays hF5 hD5
      have hD6 := g6.keep D _ n0 hD5
      refine ⟨xs, hD6, by rw [r5.length]; exact Nat.lt_of_le_of_lt z (by decide), F6, _, _, (g15.trans g6).modNew hD hF6 n0, hF6, upd_same, (Dens.mono g6.ex r5).append (Dens.one r6), q⟩
    | false =>
      rw [if_neg Bool.false_ne_true] at q5 ⊢
      exact ⟨F5, acc, xs, g15, hF5, hD5, r5, q5⟩
  · have e : i = ds.length := by omega
    subst e
    have q2 := qe acc q2
    refine .inl ⟨wl.stop F2 H2 g2.ex g2.bs, ?_⟩
    have hD0 : H D = none := by
      cases e : H D with
      | none => rfl
      | some o =>
        rw [g1.keep D o n0 e] at hD
        cases hD
    exact k D acc xs _ _ hD0 (g1.trans g2) n0 hF2 hD2 r2 q2
def fLc (di : DI) (dg : DG) (dt : DTt) (de : DE) (vs : List Nat) : DF := fun ρ Q E => dLc di dg dt de vs ρ (fun s => ∃ ds, s = .dat (.lst ds) ∧ Q ds) E
theorem go_cutN {l0 D : Addr} {F H F2 H2 : Hp} (g : Go l0 F H F2 H2) (h0 : H D = none) (n0 : D ≠ l0) (hF : F2 D = none) : Go l0 F H F2 (fun a => if a = D then none else H2 a) := by
  refine ⟨⟨fun a u e => ?_, g.bs.nf, ?_⟩, g.ex, g.new, fun a u n e => ?_⟩
  · show (if a = D then none else H2 a) = some u
    rw [if_neg (ne_of_none e hF)]
    exact g.bs.sub a u e
  · obtain ⟨ns, h1, h2⟩ := g.bs.dr
    exact ⟨ns, by show (if l0 = D then none else H2 l0) = _; rw [if_neg n0.symm]; exact h1, h2⟩
  · show (if a = D then none else H2 a) = some u
    rw [if_neg (ne_of_none e h0)]
    exact g.keep a u n e
theorem upd_cut {H2 : Hp} {D : Addr} {o : HO} (h : H2 D = some o) : upd (fun a => if a = D then none else H2 a) D o = H2 := by
  funext a
  by_cases q : a = D
  · subst q
    rw [upd_same]
    exact h.symm
  · rw [upd_ne q]
    exact if_neg q
theorem fe_lcS {K : PySem.W.Frag} {W : WX} {wi : TI} {g : TG} {tt : TT} {te : TE} {di : DI} {dg : DG} {dt : DTt} {de : DE} {ts vs : List Nat} (hv : ∀ j ∈ ts, j ∈ vs) (si : SndI K W wi di) (sg : SndG K ts g dg) (st : SndT K W0 tt dt) (se : SndE K W0 te de) :
    SndF K W (tLc wi g tt te vs) (fLc di dg dt de vs) := fun ρ Q E q l0 F H σ S Qc k kx => by
  refine snd_lcN hv si sg st se ρ _ _ q l0 F H σ S Qc (fun D acc xs F' H' hD g n0 hF hH r q => ?_) kx
  obtain ⟨ds, e, q⟩ := q
  cases e
  have z := k xs acc F' (fun a => if a = D then none else H' a) D (go_cutN g hD n0 hF) r q (if_pos rfl)
  rw [upd_cut hH] at z
  exact z
theorem fe_lc {elt iter : Expr} {ifs : List Expr} {scope : Scope} {own : List (Str × Nat)} {wi : TI} {g : TG} {tt : Shared → Hp → Addr → List (Str × Addr) → List Addr → TT} {te : Shared → Hp → Addr → List (Str × Addr) → List Addr → TE} {di : DI} {dg : DG} {dt : DTt} {ns : List Nat} (hc : X.calm = true) (hN : X.N.Nodup) (hi : DIX X W tg iter wi di) (ok : BlkOk X.N X.env.scope scope own)
    (hg : ∀ (s : Shared) (H : Hp) (C : Addr) (cl : List (Str × Addr)) (fp : List Addr), DGX (X.blk s H scope (compEnvC scope cl C X.env) fp) tg ns g dg) (ht : ∀ (s : Shared) (H : Hp) (C : Addr) (cl : List (Str × Addr)) (fp : List Addr), DTsX (X.blk s H scope (compEnvC scope cl C X.env) fp) W0 ifs (tt s H C cl fp) dt)
    (he : ∀ (s : Shared) (H : Hp) (C : Addr) (cl : List (Str × Addr)) (fp : List Addr), DEX (X.blk s H scope (compEnvC scope cl C X.env) fp) W0 elt (te s H C cl fp) de) (ett : ∀ (s : Shared) (H : Hp) (C : Addr) (cl : List (Str × Addr)) (fp : List Addr), tt s H C cl fp = tt X.s_0 X.H_0 0 [] [] := by intros; rfl) (ete : ∀ (s : Shared) (H : Hp) (C : Addr) (cl : List (Str × Addr)) (fp : List Addr), te s H C cl fp = te X.s_0 X.H_0 0 [] [] := by intros; rfl) (hv : ∀ j ∈ ns, j ∈ own.map (·.2) := by decide) (hs : ∀ x, foldedSetIterable iter X.env x = pure x := by intro _; rfl) :
    DFX X W (.ListComp elt [⟨tg, iter, ifs, 0⟩] scope pos) (tLc wi g (tt X.s_0 X.H_0 0 [] []) (te X.s_0 X.H_0 0 [] []) (own.map (·.2))) (fLc di dg dt de (own.map (·.2))) :=
  ⟨pe_lc hc hN hi.1 ok (fun s H C cl fp => (hg s H C cl fp).1) (fun s H C cl fp => ett s H C cl fp ▸ (ht s H C cl fp).1) (fun s H C cl fp => ete s H C cl fp ▸ (he s H C cl fp).1) hs,
    fe_lcS hv hi.2 (hg X.s_0 X.H_0 0 [] []).2 (ht X.s_0 X.H_0 0 [] []).2 (he X.s_0 X.H_0 0 [] []).2⟩
theorem ds_setLcN {i : Nat} {y : Str} {py spos : Pos} {elt iter : Expr} {ifs : List Expr} {scope : Scope} {own : List (Str × Nat)} {wi : TI} {g : TG} {tt : Shared → Hp → Addr → List (Str × Addr) → List Addr → TT} {te : Shared → Hp → Addr → List (Str × Addr) → List Addr → TE} {di : DI} {dg : DG} {dt : DTt} {ns : List Nat} (hc : X.calm = true) (hN : X.N.Nodup) (hy : X.N[i]? = some y) (hyl : X.env.scope.names.lookup y = some .local)
    (hsw : swapsWith (.ListComp elt [⟨tg, iter, ifs, 0⟩] scope pos) (some (.Name y py)) spos.line X.env = pure true) (hi : DIX X W tg iter wi di) (ok : BlkOk X.N X.env.scope scope own)
    (hg : ∀ (s : Shared) (H : Hp) (C : Addr) (cl : List (Str × Addr)) (fp : List Addr), DGX (X.blk s H scope (compEnvC scope cl C X.env) fp) tg ns g dg) (ht : ∀ (s : Shared) (H : Hp) (C : Addr) (cl : List (Str × Addr)) (fp : List Addr), DTsX (X.blk s H scope (compEnvC scope cl C X.env) fp) W0 ifs (tt s H C cl fp) dt)
    (he : ∀ (s : Shared) (H : Hp) (C : Addr) (cl : List (Str × Addr)) (fp : List Addr), DEX (X.blk s H scope (compEnvC scope cl C X.env) fp) W0 elt (te s H C cl fp) de) (ett : ∀ (s : Shared) (H : Hp) (C : Addr) (cl : List (Str × Addr)) (fp : List Addr), tt s H C cl fp = tt X.s_0 X.H_0 0 [] [] := by intros; rfl) (ete : ∀ (s : Shared) (H : Hp) (C : Addr) (cl : List (Str × Addr)) (fp : List Addr), te s H C cl fp = te X.s_0 X.H_0 0 [] [] := by intros; rfl) (hv : ∀ j ∈ ns, j ∈ own.map (·.2) := by decide) (hs : ∀ x, foldedSetIterable iter X.env x = pure x := by intro _; rfl) :
    DSX X W (.Assign [.Name y py] (.ListComp elt [⟨tg, iter, ifs, 0⟩] scope pos) spos) (tAsg (tLc wi g (tt X.s_0 X.H_0 0 [] []) (te X.s_0 X.H_0 0 [] []) (own.map (·.2))) (gName i)) (dSetF i (fLc di dg dt de (own.map (·.2)))) := by
  refine ⟨ps_setLc hc hN hy hyl hsw hi.1 ok (fun s H C cl fp => (hg s H C cl fp).1) (fun s H C cl fp => ett s H C cl fp ▸ (ht s H C cl fp).1) (fun s H C cl fp => ete s H C cl fp ▸ (he s H C cl fp).1) hs, fun D ρ h l0 F H σ S C L => ?_⟩
  have se := fe_lcS (W := W) hv hi.2 (hg X.s_0 X.H_0 0 [] []).2 (ht X.s_0 X.H_0 0 [] []).2 (he X.s_0 X.H_0 0 [] []).2
  refine se ρ _ _ h l0 F H σ S _ (fun xs ds F1 H1 l g1 r1 q1 hl => ?_) (L.kx S)
  exact (L.trans S.bs (.of g1) .refl).nx F1 _ _ _ (.of (Go.loose g1.bs (.lst xs) hl)) (.putOwn i hl) ((S.go g1).putOwn i hl r1) q1
end
/-! ### x += a list, x an own list -/
theorem list_iaddW (l b : Addr) (xs ys : Array Value) (n m : Nat) (dd : Option Addr) (sl : Array (Option Value)) (h0 : ¬(!xs.isEmpty && Builtin.List.listTooLong (xs.size + ys.size)) = true) (h1 : xs.size ≤ sizeLine) (h2 : xs.size + ys.size ≤ sizeLine + 1) :
    Meets (Builtin.«list.__iadd__» ⟨[.ref l, .ref b], []⟩) (fun _ R s => s.heap.get? l = some { cls := .type "list", dict := none, data := .seq xs n, slots := #[] } ∧ s.heap.get? b = some { cls := .type "list", dict := dd, data := .seq ys m, slots := sl } ∧ R (.ok (.ret (Value.ref l))) { s with heap := s.heap.update l (Obj.mapSeq fun x => x ++ ys), toks := s.toks }) :=
  .of_wp fun prog w A R s h => by
    obtain ⟨hp, g, d, tk, os⟩ := s
    obtain ⟨hl, hb, h⟩ := h
    have f1 := AutoSeq1.idx_int
    have f3 := AutoSeq1.sub_list_list
    have hz : (xs ++ ys).size ≤ sizeLine + 1 := by
      rw [Array.size_append]
      exact h2
    wp_walk using (wpAny_updateSeq hl rfl (hz := h1) (_hz' := hz)), wpAny_loadPart' hl, wpAny_loadPart' hb
    exact ⟨_, rfl, h⟩
def rExtS (K : PySem.W.Frag) : TIp := fun x y H Q => ∃ l b xs zs, x = .ref l ∧ y = .ref b ∧ H l = some (.lst xs) ∧ SqL K H b zs ∧ xs.length + zs.length ≤ sizeLine ∧ Q (.ref l) (upd H l (.lst (xs ++ zs)))
theorem ip_ext {X : Cx} : PIp X .Add (rExtS X.K) := by
  intro pins s σ H x y v u Q I rx ry h
  obtain ⟨l, b, xs, zs, rfl, rfl, hH, hB, hz, q⟩ := h
  cases rx
  cases ry
  obtain ⟨z, its, n, r, hl, e⟩ := I.lstM hH
  obtain ⟨its2, r2, ⟨o2, n2, ho2, hc2, hd2, hdt⟩, hl2⟩ := I.list hB
  obtain ⟨cls, dd, data, sl⟩ := o2
  simp only at hc2 hd2 hdt
  subst hc2 hdt
  have e1 := r.length
  have e2 := r2.length
  have hsz : its.toArray.size + its2.toArray.size ≤ sizeLine := by rw [List.size_toArray, List.size_toArray]; omega
  have hlong : ¬ (!its.toArray.isEmpty && Builtin.List.listTooLong (its.toArray.size + its2.toArray.size)) = true := by
    rw [notLongL hsz, Bool.and_false]
    exact Bool.false_ne_true
  refine iadd_road ⟨_, e, rfl⟩ ⟨_, ho2, rfl⟩ (call_meets PySem.F.slot_list_iadd ⟨_, e, rfl⟩ PySem.F.entry_list_iadd (PySem.F.args_list_iadd_2 _ _)
    (list_iaddW l b its.toArray its2.toArray n n2 dd sl hlong (by rw [List.size_toArray]; omega) (by omega)) ⟨e, ho2, ?_⟩)
  refine ⟨.ref l, _, I.lset (its' := its ++ its2) (t' := s.toks) hH e (by simp) (r.append r2) ?_, rfl, q⟩
  rw [List.length_append]
  omega
def dExt (i : Nat) (de : DE) : DS := fun D ρ => match ρ.getD i .emp with
  | .own ds => de ρ (fun s => ∃ es, lstOf s = some es ∧ ds.length + es.length ≤ 100000 ∧ D.nx (ρ.set i (.own (ds ++ es)))) fun x => D.ex x ρ
  | _ => False
theorem ds_ext {X : Cx} {W : WX} {e : Expr} {xe : TE} {de : DE} {pos : Pos} (i : Nat) {x : Str} {p : Pos} (hNd : X.N.Nodup) (he : DEX X W e xe de) (hi : X.N[i]? = some x := by rfl) (hx : Loc X.env.scope x := by first | exact .inl rfl | exact .inr rfl)
    (hf : X.fn x = true ∨ X.env.scope.names.lookup x = some .local := by first | exact .inl rfl | exact .inr rfl | assumption) : DSX X W (.AugAssign (.Name x p) .Add e pos) (tAug i xe (rExtS X.K)) (dExt i de) := by
  obtain ⟨pe, se⟩ := he
  refine ⟨ps_aug hNd hi hx pe ip_ext hf, fun D ρ h l0 F H σ S C L => ?_⟩
  unfold dExt at h
  split at h
  · rename_i ds e0
    have e1 := getD_own e0
    obtain ⟨l, xs, hσ, hF, n0, hl, r⟩ := S.own e1
    refine ⟨_, hσ, ?_⟩
    refine se ρ _ _ h l0 F H σ S _ (fun v s F1 H1 g1 r1 q1 => ?_) (L.kx S)
    obtain ⟨es, e2, hz, q⟩ := q1
    obtain ⟨b, ys, e3, hb, rb⟩ := r1.list g1.bs (lstOf_is e2)
    subst e3
    have S1 := S.go g1
    obtain ⟨l1, xs1, hσ1, hF1, n1, hl1, rr⟩ := S1.own e1
    rw [hσ] at hσ1
    cases hσ1
    obtain ⟨S2, g2, w2⟩ := S1.mut (xs := xs1) e1 hσ hF1 n1 (rr.append rb)
    refine ⟨l, b, xs1, ys, rfl, rfl, hl1, hb, by rw [rr.length, rb.length]; exact Evl.sz_of hz, ?_⟩
    have es : σ.set i (some (.ref l)) = σ := by
      refine List.ext_getElem? fun j => ?_
      by_cases c : i = j
      · subst c
        rw [List.getElem?_set_self (List.getElem?_eq_some_iff.mp hσ).1, hσ]
      · rw [List.getElem?_set_ne c]
    dsimp only
    rw [es]
    exact (L.trans S.bs (.of g1) .refl).nx F1 _ σ _ g2 w2 S2 q
  · exact h.elim
end DW

set_option Elab.async false
set_option linter.all false
set_option maxRecDepth 100000
/-! DW, part 47: for over an instance with one slot that iterates over a tuple; its iterator stays tracked through the loop. -/
namespace DW
open PySem PySem.Spec PyProof.Rows L2 SlX
section
variable {X : Cx} {W : WX} {C : Addr} {k : Nat} {f : Str} {tg e : Expr} {te : TE} {pos : Pos}
def tForS (K : PySem.W.Frag) (C : Addr) (te : TE) (g : TG) (tb : TS) : TS := fun D σ H => te σ H fun x H1 => ∃ a dx t ys, x = .ref a ∧ Slt H1 a C dx [some (.ref t)] ∧ SqT K H1 t ys ∧ ∀ it, H1 it = none →
  ∃ V : Nat → Nat → L2.St → Hp → Prop, (∃ m, V 0 m σ (upd H1 it (TItO t it 0))) ∧ ∀ i m σ' H', V i m σ' H' → H' it = some (TItO t it i) ∧ SqT K H' t ys ∧
    ((ys[i]? = none ∧ D.nx σ' (upd H' it (TEnd it))) ∨ ∃ x, ys[i]? = some x ∧ ∃ N : L2.St → Hp → Prop, (∀ σ2 H2, N σ2 H2 → ∃ m', m' < m ∧ V (i + 1) m' σ2 H2) ∧ g x σ' (upd H' it (TItO t it (i + 1))) fun σ2 H2 => tb { D with nx := N, ct := N, bk := D.nx } σ2 H2)
theorem ps_forS {body : List Stmt} {g : TG} {tb : TS} (hp : PassesOwn (model X.prog X.w) X.A X.env X.xe) (hc : X.calm = true) (Mi : MIt X.prog X.w X.K X.mg X.base k f C) (hr : Room k X.A) (he : PE X e te) (hg : PG X tg g) (hb : PSs X body tb)
    (hs : ∀ x, foldedSetIterable e X.env x = pure x := by intro _; rfl) : PS X (.For tg e body [] pos) (tForS X.K C te g tb) := by
  refine ⟨fun pins s σ H D I h => ?_⟩
  refine wpAny_For (thn (he.run pins s σ H _ I h) fun v s1 ⟨x, H1, I1, r1, q1⟩ => ?_) hs
  obtain ⟨a, dx, t, ys, ex, ha, ht, q⟩ := q1
  subst ex
  cases (show v = Value.ref a from r1)
  obtain ⟨gg, fd, ps, p, sc, sl1, me, F, bd⟩ := Mi
  obtain ⟨sl, od, _, J, _⟩ := slt_inst I1 ha
  obtain ⟨m, hF⟩ := I1.fr
  refine PySem.W.owit_iter hF I1.ok.mod.kin J me.at_ me.fn ?_
  refine wpAny_mono (run_no (us := [.ref a]) (ws := [.ref a]) (Q := fun v H' => ∃ it, v = .ref it ∧ H1 it = none ∧ H' = upd H1 it (TItO t it 0)) F bd hr I1.env0 I1 (.cons rfl .nil) ⟨a, C, dx, t, p, ys, rfl, ha, sc, sl1, ht, fun it hit => ⟨it, rfl, hit, rfl⟩⟩) (fun u s3 z => ?_) fun _ _ x => x
  obtain ⟨v, H3, I3, rv3, it, ev, hit, eH⟩ := z
  subst ev eH
  cases (show u = Value.ref it from rv3)
  unfold PySem.W.OwitIt
  refine wpAny_specialOf (tit_get I3 upd_same).typeIs PySem.F.slot_tuple_iterator_next.lookup ?_
  obtain ⟨V, ⟨m0, w0⟩, turn⟩ := q it hit
  refine codeAny_forLoop_any (fun n s' => ∃ i σ' H', Inv X pins σ' H' s' ∧ V i n σ' H') ?_ m0 ⟨0, σ, _, I3, w0⟩
  rintro n s4 ⟨i, σ4, H4, I4, w4⟩
  obtain ⟨hi4, ht4, alt⟩ := turn i n σ4 H4 w4
  obtain ⟨its, rv, pt, hz⟩ := I4.tuple ht4
  have mu : Mut (H4 it) := by rw [hi4]; exact True.intro
  rcases alt with ⟨hn, qn⟩ | ⟨x, hx, N, hN, step⟩
  · refine wpAny_passesOwn hp (tup_stop (I4.ok.hd hc) (tit_get I4 hi4) (show s4.heap.IsTuple t its.toArray from pt) (by rw [List.getElem?_toArray]; exact rv.none_of hn) fun h' ho ext => ?_)
    have I5 := I4.write (x := it) (e := it) (t' := s4.toks) mu (.inl rfl) (fun b o nb z => ext b o nb z) ho (tend_ok ho)
    exact wpAny_execs_nil ⟨σ4, _, I5, qn⟩
  · obtain ⟨u, hu, ru⟩ := rv.get hx
    refine wpAny_passesOwn hp (wpAny_pyNext_tuple_item (tit_get I4 hi4) (show s4.heap.IsTuple t its.toArray from pt) (x := u) (by simpa using hu) fun h' st' sb => ?_)
    have I5 := I4.write (x := it) (e := it) (t' := s4.toks) (o := TItO t it (i + 1)) mu (.inl rfl) (fun b o nb z => (sb.2 b nb).trans z) (let ⟨o, ho, _⟩ := st'; ⟨o, ho⟩) (tit_ok st')
    obtain ⟨o, e1, c, d⟩ := id st'
    refine wpAny_passesOwn hp (go_of (s := { s4 with heap := h' }) e1 c d (by decide) ?_)
    refine wpAny_passesOwn hp (thn (hg.run _ _ σ4 _ x u _ I5 ru step) fun _ s6 ⟨σ6, H6, I6, q6⟩ => ?_)
    refine wpAny_passesOwn hp (thn (hb.run _ s6 σ6 H6 _ I6 q6) fun fl s7 q7 => ?_)
    have again : ∀ {σ7 : L2.St} {H7 : Hp}, Inv X pins σ7 H7 s7 → N σ7 H7 → ∃ m, m < n ∧ ∃ i σ' H', Inv X pins σ' H' s7 ∧ V i m σ' H' := fun {σ7 H7} I7 n7 => by
      obtain ⟨m', hm, w7⟩ := hN σ7 H7 n7
      exact ⟨m', hm, i + 1, σ7, H7, I7, w7⟩
    cases fl with
    | next => obtain ⟨σ7, H7, I7, n7⟩ := q7; exact again I7 n7
    | cont => obtain ⟨σ7, H7, I7, n7⟩ := q7; exact again I7 n7
    | brk => obtain ⟨σ7, H7, I7, q7⟩ := q7; exact ⟨σ7, H7, I7, q7⟩
    | ret v => obtain ⟨x7, σ7, H7, I7, r7, q7⟩ := q7; exact ⟨x7, σ7, H7, I7, r7, q7⟩
end
/-! ### over data -/
section
variable {K : PySem.W.Frag} {l0 it t : Addr} {F H F' H' : Hp} {σ σ' : L2.St} {ρ ρ' : En} {i : Nat} {o : HO}
theorem base_turn (b : Base l0 F H) (hF : F it = none) (n0 : it ≠ l0) : Base l0 F (upd H it o) := by
  refine ⟨fun a u e => ?_, b.nf, ?_⟩
  · rw [upd_ne (ne_of_none e hF)]
    exact b.sub a u e
  · obtain ⟨ns, h1, h2⟩ := b.dr
    exact ⟨ns, by rw [upd_ne n0.symm]; exact h1, h2⟩
theorem stt_turn (S : Stt K l0 F H σ ρ) (hi : H it = some (TItO t it i)) (hF : F it = none) (n0 : it ≠ l0) : Stt K l0 F (upd H it o) σ ρ := by
  refine ⟨base_turn S.bs hF n0, S.len, fun j s h => ?_, S.ap⟩
  rcases S.sl j s h with z | ⟨v, h1, h2⟩
  · exact .inl z
  · refine .inr ⟨v, h1, ?_⟩
    cases s with
    | emp => exact h2
    | dat d => exact h2
    | own ds =>
      obtain ⟨l, xs, e, k1, k2, k3, k4⟩ := h2
      refine ⟨l, xs, e, k1, k2, ?_, k4⟩
      rw [upd_ne fun z => by rw [z, hi] at k3; cases k3]
      exact k3
    | oob p0 C fs =>
      obtain ⟨a, dx, gs, e, k1, k2, k3, k4, e1, e2, k5, k6, k7⟩ := h2
      refine ⟨a, dx, gs, e, k1, k2, ?_, k4, e1, e2, k5, k6, ?_⟩
      · rw [upd_ne fun z => by rw [z, hi] at k3; cases k3]
        exact k3
      · rw [upd_ne fun z => by rw [z, hi] at k7; cases k7]
        exact k7
    | odc kvs =>
      obtain ⟨l, xs, e, k1, k2, k3, k4⟩ := h2
      refine ⟨l, xs, e, k1, k2, ?_, k4⟩
      rw [upd_ne fun z => by rw [z, hi] at k3; cases k3]
      exact k3
theorem ow_not (S : Stt K l0 F H σ ρ) (hi : H it = some (TItO t it i)) : ¬ Ow σ ρ it := by
  rintro ⟨j, s, h1, h2, h3⟩
  rcases S.sl j s h1 with z | ⟨v, k1, k2⟩
  · subst z
    cases h2
  · rw [h3] at k1
    cases k1
    cases s with
    | emp => cases h2
    | dat d => cases h2
    | own ds =>
      obtain ⟨l, xs, e, _, _, k3, _⟩ := k2
      cases e
      rw [hi] at k3
      cases k3
    | oob p0 C fs =>
      obtain ⟨a, dx, gs, e, _, _, k3, _⟩ := k2
      cases e
      rw [hi] at k3
      cases k3
    | odc kvs =>
      obtain ⟨l, xs, e, _, _, k3, _⟩ := k2
      cases e
      rw [hi] at k3
      cases k3
theorem goS_turn (g : GoS l0 F H σ ρ F' H') (hn : H it = none) (hF : F' it = none) (n0 : it ≠ l0) : GoS l0 F H σ ρ F' (upd H' it o) :=
  ⟨base_turn g.bs hF n0, g.ex, g.new, fun a u h1 h2 e => by rw [upd_ne (ne_of_none e hn)]; exact g.keep a u h1 h2 e⟩
end
section
variable {X : Cx} {W : WX} {C : Addr} {k : Nat} {f : Str} {tg e : Expr} {te : TE} {pos : Pos} {va : TS} {t : DS}
def iSl (C : Addr) (da : DE) : DI := fun ρ Q E => da ρ (fun s => ∃ ds, s = .dat (.slt C (.tup ds)) ∧ Q ds) E
theorem ds_forS {body : List Stmt} {da : DE} {g' : TG} {g : DG} {ns : List Nat} (hp : PassesOwn (model X.prog X.w) X.A X.env X.xe) (hc : X.calm = true) (Mi : MIt X.prog X.w X.K X.mg X.base k f C) (hr : Room k X.A) (he : DEX X W e te da) (hg : DGX X tg ns g' g) (hb : DSSX X W body va t) (hs : ∀ x, foldedSetIterable e X.env x = pure x := by intro _; rfl) :
    DSX X W (.For tg e body [] pos) (tForS X.K C te g' va) (dFor (iSl C da) g t) := by
  obtain ⟨pe, se⟩ := he
  obtain ⟨pg, sg⟩ := hg
  obtain ⟨p1, s1⟩ := hb
  refine ⟨ps_forS hp hc Mi hr pe pg p1 hs, fun D ρ h l0 F H σ S B L => ?_⟩
  refine se ρ _ _ h l0 F H σ S _ (fun x s F1 H1 g1 r1 q1 => ?_) (L.kx S)
  obtain ⟨ds, e, q1⟩ := q1
  subst e
  have r1 : Den X.K l0 F1 _ (.slt C (.tup ds)) := r1
  obtain ⟨a, dx, x, e, h1, h2, _, rx⟩ := r1.slt_of
  subst e
  obtain ⟨tt, ys, e, ht, hd⟩ := (show SlV X.K l0 F1 H1 x (.dat (.tup ds)) from rx).tup
  subst e
  refine ⟨a, dx, tt, ys, rfl, .inr ⟨g1.bs.sub _ _ h1, g1.bs.sub _ _ h2⟩, sameT g1.bs.sub ht, fun it hit => ?_⟩
  have n0 : it ≠ l0 := fun z => g1.bs.live (by rw [← z]; exact hit)
  have hF1 : F1 it = none := by
    cases e : F1 it with
    | none => rfl
    | some u =>
      rw [g1.bs.sub it u e] at hit
      cases hit
  have hH : H it = none := by
    cases e : H it with
    | none => rfl
    | some o =>
      rw [g1.keep it o n0 e] at hit
      cases hit
  have g1' := g1.trans (Go.loose g1.bs (TItO tt it 0) hit)
  obtain ⟨P, q0, qt, qe⟩ := q1
  refine ⟨fun i m σ' H' => m = ds.length - i ∧ i ≤ ds.length ∧ ∃ F' ρ', Same F1 F' ∧ P i ρ' ∧ Stt X.K l0 F' H' σ' ρ' ∧ GoS l0 F H σ ρ F' H' ∧ OwS H σ ρ σ' ρ' ∧ H' it = some (TItO tt it i) ∧ F' it = none, ⟨ds.length, by simp, Nat.zero_le _, F1, ρ, fun _ _ h => h, q0, S.go g1', .of g1', .refl, upd_same, hF1⟩, ?_⟩
  rintro i m σ2 H2 ⟨rfl, hi, F2, ρ2, ex2, q2, S2, g2, w2, hi2, hF2⟩
  refine ⟨hi2, sameT S2.bs.sub (sameT ex2 ht), ?_⟩
  have hl := hd.length
  by_cases hlt : i < ds.length
  · obtain ⟨y, hy, ry⟩ := hd.get (i := i) (d := ds[i]) (by simp [hlt])
    have q2 := qt i ds[i] ρ2 (by simp [hlt]) q2
    refine .inr ⟨y, hy, fun σ' H' => ∃ F' ρ', Same F1 F' ∧ P (i + 1) ρ' ∧ Stt X.K l0 F' H' σ' ρ' ∧ GoS l0 F H σ ρ F' H' ∧ OwS H σ ρ σ' ρ' ∧ H' it = some (TItO tt it (i + 1)) ∧ F' it = none, fun σ' H' z => ⟨ds.length - (i + 1), by omega, rfl, hlt, z⟩, ?_⟩
    have S3 := stt_turn (o := TItO tt it (i + 1)) S2 hi2 hF2 n0
    have g3 := goS_turn (o := TItO tt it (i + 1)) g2 hH hF2 n0
    have L3 := L.trans S.bs g3 w2
    refine sg (.dat ds[i]) ρ2 _ q2 l0 F2 _ σ2 y S3 (Den.mono ex2 ry) _ fun F4 H4 σ4 ρ4 g4 w4 S4 _ q4 => ?_
    have g24 := g3.trans S.bs w2 (.of g4)
    have w24 := OwS.trans S.bs g3 w2 w4
    have L4 := L.trans S.bs g24 w24
    have hi4 : H4 it = some (TItO tt it (i + 1)) := g4.keep it _ n0 upd_same
    have hF4 : F4 it = none := g4.stays hF2 upd_same
    have nx : ∀ F' H' σ' ρ', GoS l0 F4 H4 σ4 ρ4 F' H' → OwS H4 σ4 ρ4 σ' ρ' → Stt X.K l0 F' H' σ' ρ' → P (i + 1) ρ' → ∃ F' ρ', Same F1 F' ∧ P (i + 1) ρ' ∧ Stt X.K l0 F' H' σ' ρ' ∧ GoS l0 F H σ ρ F' H' ∧ OwS H σ ρ σ' ρ' ∧ H' it = some (TItO tt it (i + 1)) ∧ F' it = none := fun F' H' σ' ρ' g' w' S' q' => by
      have no := ow_not S4 hi4
      refine ⟨F', ρ', fun a o z => g'.ex a o (g4.ex a o (ex2 a o z)), q', S', g24.trans S.bs w24 g', OwS.trans S.bs g24 w24 w', g'.keep it _ n0 no hi4, ?_⟩
      cases e : F' it with
      | none => rfl
      | some u =>
        rcases g'.new it hF4 (by rw [e]; exact fun z => nomatch z) with z | z
        · rw [hi4] at z
          cases z
        · exact absurd z no
    exact s1 _ ρ4 q4 l0 F4 H4 σ4 S4 _ ⟨nx, L4.rt, L4.nx, nx, L4.ex, L4.rs⟩
  · have e : i = ds.length := by omega
    subst e
    have q2 := qe ρ2 q2
    have S3 := stt_turn (o := TEnd it) S2 hi2 hF2 n0
    have g3 := goS_turn (o := TEnd it) g2 hH hF2 n0
    exact .inl ⟨List.getElem?_eq_none (by omega), (L.trans S.bs g3 w2).nx F2 _ σ2 ρ2 (.of (.refl S3.bs)) .refl S3 q2⟩
end
end DW

set_option Elab.async false
set_option linter.all false
set_option maxRecDepth 100000
/-! DW, part 48: a test of an instance with one slot, by its __len__. -/
namespace DW
open PySem PySem.Spec PyProof.Rows L2 SlX
section
variable {X : Cx} {W : WX} {C : Addr} {k : Nat} {sd : Sd} {a : Expr} {xa : TE} {da : DE}
def tTruS (K : PySem.W.Frag) (C : Addr) (sd : Sd) (te : TE) : TT := fun σ H Q => te σ H fun x H1 => ∃ a dx vs, x = .ref a ∧ Slt H1 a C dx vs ∧ LenQ K sd a H1 fun n H' => Q (n != 0) H'
def dTruS (C : Addr) (sd : Sd) (da : DE) : DTt := fun ρ Q E => da ρ (fun s => ∃ d, s = .dat (.slt C d) ∧ sd [.slt C d] (fun z => ∃ n : Int, z = .v (.int n) ∧ 0 ≤ n ∧ n ≤ 100000 ∧ Q (n != 0)) fun _ => False) E
theorem dt_truS (M : MSl X.prog X.w X.K X.mg X.base k "__len__" C sd) (hb : PySem.W.findIn X.K (.ref C) "__bool__" = some none) (hr : Room (k + 1) X.A) (ha : DEX X W a xa da) (he : ∀ whole, PySem.isTrue a X.env whole = (do let v ← whole; standAt a.pos; holding [v] (truthy v)) := by intro _; rfl) :
    DTX X W a (tTruS X.K C sd xa) (dTruS C sd da) := by
  obtain ⟨pa, sa⟩ := ha
  refine ⟨⟨fun pins s σ H Q I h => ?_⟩, fun ρ Q E h l0 F H σ S Qc kk kx => ?_⟩
  · rw [he]
    refine wpAny_bind (thn (pa.run pins s σ H _ I h) fun v s1 ⟨x, H1, I1, r1, q1⟩ => ?_)
    obtain ⟨b, dx, vs, e, hs, q⟩ := q1
    subst e
    cases (show v = Value.ref b from r1)
    exact wpAny_bind (wpAny_standAt (wpAny_holding (own_truth M hb hr I1.env0 I1 hs q)))
  · refine sa ρ _ E h l0 F H σ S _ (fun x s F1 H1 g1 r1 q1 => ?_) kx
    obtain ⟨d, e, q⟩ := q1
    subst e
    have r1 : Den X.K l0 F1 _ (.slt C d) := r1
    obtain ⟨b, dx, y, e, h1, h2, _, _⟩ := r1.slt_of
    subst e
    exact ⟨b, dx, _, rfl, .inr ⟨g1.bs.sub _ _ h1, g1.bs.sub _ _ h2⟩, lenQ_of g1.bs r1 q fun n F' H' g z => kk _ F' H' (g1.trans g) z⟩
end
end DW

set_option Elab.async false
set_option linter.all false
set_option maxRecDepth 100000
/-! DW, part 49: a def that is never called (the bottom of a recursion that goes down). -/
namespace DW
open PySem PySem.Spec PyProof.Rows L2
theorem fnk_never {P : Program} {w : World} {K : PySem.W.Frag} {mg : Str → Option Value} {base : Heap} {x : Str} {st : Stmt} {N ps : List Str} {k : Nat} (D : DefAt K mg x st) (S : FnScope N ps (defScope st))
    (hbd : ∀ (kV doc pm : Value) (an : Option Addr) (cdv ct : Value) (us : List Value), us.length = ps.length → bindArgs (PySem.W.fnOf x x (defArgs st) (defBody st) (defScope st) .none kV doc pm an cdv ct) ⟨us, []⟩ = pure (ps.zip us)) : Fnk P w K mg base x (k + 1) ps [] [] (fun _ _ _ => False) := by
  obtain ⟨f, fd, h1, F⟩ := D
  refine ⟨f, fd, [], h1, F.kp, FunD.bindsN F (fun kV doc pm an cdv ct us hl => hbd kV doc pm an cdv ct us hl), .nil, dd_nil, F.ok (k := k) S (fun vs H Q E h => ?_) fun cdv A outer s H vs Q E hr h => ?_⟩
  · obtain ⟨l0, F, ds, Qd, Ed, b, r, q, _⟩ := h
    exact q.elim
  · obtain ⟨l0, F, ds, Qd, Ed, b, r, q, _⟩ := h
    exact q.elim
end DW

set_option Elab.async false
set_option linter.all false
set_option maxRecDepth 100000
/-! DW, part 50: the law's own statements may change what is frozen: links without frames; d["k"] = value in the law. -/
namespace DW
open PySem PySem.Spec PyProof.Rows L2 StX SlX ClX
/-- what the law's statements owe: nothing of the heap -/
structure LnkT (K : PySem.W.Frag) (W : WX) (D : DEnds) (C : Ends) : Prop where
  nx : ∀ l0 F H σ ρ, Stt K l0 F H σ ρ → D.nx ρ → C.nx σ H
  rt : ∀ l0 F H v d, Den K l0 F v d → D.rt d → C.rt v H
  bk : ∀ l0 F H σ ρ, Stt K l0 F H σ ρ → D.bk ρ → C.bk σ H
  ct : ∀ l0 F H σ ρ, Stt K l0 F H σ ρ → D.ct ρ → C.ct σ H
  ex : ∀ cls d x l0 F H σ ρ, Stt K l0 F H σ ρ → XDen K l0 F H cls d x → D.ex x ρ → W cls d σ H
  rs : ∀ l0 F H σ ρ v d, Stt K l0 F H σ ρ → Den K l0 F v d → D.rs d ρ → C.rt v H
def SndL (K : PySem.W.Frag) (W : WX) (ts : TS) (ds : DS) : Prop := ∀ D ρ, ds D ρ → ∀ l0 F H σ, Stt K l0 F H σ ρ → ∀ C, LnkT K W D C → ts C σ H
theorem LnkT.lnk {K : PySem.W.Frag} {W : WX} {D : DEnds} {C : Ends} (L : LnkT K W D C) {l0 : Addr} {F H : Hp} {σ : L2.St} {ρ : En} : Lnk K W l0 F H σ ρ D C :=
  ⟨fun F' H' σ' ρ' _ _ S q => L.nx l0 F' H' σ' ρ' S q, fun F' H' v d _ r q => L.rt l0 F' H' v d r q, fun F' H' σ' ρ' _ _ S q => L.bk l0 F' H' σ' ρ' S q, fun F' H' σ' ρ' _ _ S q => L.ct l0 F' H' σ' ρ' S q, fun cls d x F' H' σ' ρ' _ _ S r q => L.ex cls d x l0 F' H' σ' ρ' S r q, fun F' H' σ' ρ' v d _ _ S r q => L.rs l0 F' H' σ' ρ' v d S r q⟩
def DSL (X : Cx) (W : WX) (st : Stmt) (ts : TS) (ds : DS) : Prop := PS X st ts ∧ SndL X.K W ts ds
def DSSL (X : Cx) (W : WX) (st : List Stmt) (ts : TS) (ds : DS) : Prop := PSs X st ts ∧ SndL X.K W ts ds
section
variable {X : Cx} {W : WX} {st : Stmt} {rest p q : List Stmt} {va vb : TS} {t u : DS} {c : Expr} {ya : TT} {ta : DTt} {pos : Pos}
theorem dsl_of (h : DSX X W st va t) : DSL X W st va t := ⟨h.1, fun D ρ q l0 F H σ S C L => h.2 D ρ q l0 F H σ S C L.lnk⟩
theorem dssl_of (h : DSSX X W rest va t) : DSSL X W rest va t := ⟨h.1, fun D ρ q l0 F H σ S C L => h.2 D ρ q l0 F H σ S C L.lnk⟩
theorem dssl_cons (h1 : DSL X W st va t) (h2 : DSSL X W rest vb u) : DSSL X W (st :: rest) (tSeq va vb) (dSeq t u) := by
  obtain ⟨p1, s1⟩ := h1
  obtain ⟨p2, s2⟩ := h2
  refine ⟨pss_cons p1 p2, fun D ρ h l0 F H σ S C L => ?_⟩
  exact s1 { D with nx := u D } ρ h l0 F H σ S { C with nx := vb C } ⟨fun l0 F H σ ρ S q => s2 D ρ q l0 F H σ S C L, L.rt, L.bk, L.ct, L.ex, L.rs⟩
theorem dssl_one (h1 : DSL X W st va t) : DSSL X W [st] va t := ⟨pss_one h1.1, h1.2⟩
theorem dssl_nil : DSSL X W [] tNext dNext := dssl_of dss_nil
theorem dssl_frz (i : Nat) (h : DSSL X W rest va t) : DSSL X W rest va (dFrz i t) := by
  obtain ⟨p1, s1⟩ := h
  refine ⟨p1, fun D ρ h l0 F H σ S C L => ?_⟩
  unfold dFrz at h
  split at h
  · rename_i ds e
    obtain ⟨F', S', _, _⟩ := S.freeze (getD_own e)
    exact s1 D _ h l0 F' H σ S' C L
  · exact h.elim
theorem dsl_if (hc : DTX X W c ya ta) (ha : DSSL X W p va t) (hb : DSSL X W q vb u) : DSL X W (.If c p q pos) (tIfS ya va vb) (dIfS ta t u) := by
  obtain ⟨pc, sc⟩ := hc
  obtain ⟨p1, s1⟩ := ha
  obtain ⟨p2, s2⟩ := hb
  refine ⟨ps_if pc p1 p2, fun D ρ h l0 F H σ S C L => ?_⟩
  refine sc ρ _ _ h l0 F H σ S _ (fun b F1 H1 g1 q1 => ?_) (L.lnk.kx S)
  cases b with
  | true =>
    rw [if_pos rfl] at q1 ⊢
    exact s1 D ρ q1 l0 F1 H1 σ (S.go g1) C L
  | false =>
    rw [if_neg Bool.false_ne_true] at q1 ⊢
    exact s2 D ρ q1 l0 F1 H1 σ (S.go g1) C L
end
/-! ### data without dicts -/
inductive NoDct : Dt → Prop
  | v (x : V) : NoDct (.v x)
  | lst {ds : List Dt} (h : ∀ d ∈ ds, NoDct d) : NoDct (.lst ds)
  | tup {ds : List Dt} (h : ∀ d ∈ ds, NoDct d) : NoDct (.tup ds)
  | obj {C : Addr} {fs : List (Str × Dt)} (h : ∀ x ∈ fs, NoDct x.2) : NoDct (.obj C fs)
  | slt {C : Addr} {d : Dt} (h : NoDct d) : NoDct (.slt C d)
  | drw : NoDct .drw
theorem NoDct.lstI {ds : List Dt} : NoDct (.lst ds) → ∀ d ∈ ds, NoDct d
  | .lst h => h
theorem NoDct.tupI {ds : List Dt} : NoDct (.tup ds) → ∀ d ∈ ds, NoDct d
  | .tup h => h
theorem NoDct.objI {C : Addr} {fs : List (Str × Dt)} : NoDct (.obj C fs) → ∀ x ∈ fs, NoDct x.2
  | .obj h => h
theorem NoDct.sltI {C : Addr} {d : Dt} : NoDct (.slt C d) → NoDct d
  | .slt h => h
theorem NoDct.excN {a : Addr} {dd : Option Addr} {C : Addr} {fs : List (Str × Dt)} (h : NoDct (.exc a dd C fs)) : False := nomatch h
theorem NoDct.dctN {kvs : List (Key × Dt)} (h : NoDct (.dct kvs)) : False := nomatch h
section
variable {K : PySem.W.Frag} {l0 : Addr} {F F2 : Hp}
theorem rd_mv (m : ∀ a o, F a = some o → (∀ xs, o ≠ .dK xs) → F2 a = some o) {a : Addr} {o : HO} (h : Rd F a o) (n1 : ∀ xs, o ≠ .dK xs) : Rd F2 a o := by
  rcases h with h | ⟨ob, h⟩
  · exact .inl (m a o h n1)
  · exact .inr ⟨ob, m a _ h fun xs e => nomatch e⟩
theorem sql_mv (m : ∀ a o, F a = some o → (∀ xs, o ≠ .dK xs) → F2 a = some o) {a : Addr} {xs : List V} (h : SqL K F a xs) : SqL K F2 a xs := h.imp (fun h => rd_mv m h fun _ e => nomatch e) id
theorem sqt_mv (m : ∀ a o, F a = some o → (∀ xs, o ≠ .dK xs) → F2 a = some o) {a : Addr} {xs : List V} (h : SqT K F a xs) : SqT K F2 a xs := h.imp (fun h => rd_mv m h fun _ e => nomatch e) id
theorem slo_mv (m : ∀ a o, F a = some o → (∀ xs, o ≠ .dK xs) → F2 a = some o) {a C dx : Addr} {vs : List (Option V)} (h : F a = some (SlX.SlO a C dx vs)) : F2 a = some (SlX.SlO a C dx vs) := m _ _ h fun _ e => by cases e
mutual
theorem Den.mv (m : ∀ a o, F a = some o → (∀ xs, o ≠ .dK xs) → F2 a = some o) : ∀ {v : V} {d : Dt}, NoDct d → Den K l0 F v d → Den K l0 F2 v d
  | _, _, _, .v x => .v x
  | _, _, n, .lst h r => .lst (sql_mv m h) (Dens.mv m n.lstI r)
  | _, _, n, .tup h r => .tup (sqt_mv m h) (Dens.mv m n.tupI r)
  | _, _, n, .obj h r => .obj (m _ _ h (fun _ e => nomatch e)) (DenF.mv m n.objI r)
  | _, _, n, .slt h h2 ne r => .slt (slo_mv m h) (m _ _ h2 (fun _ e => nomatch e)) ne (Den.mv m n.sltI r)
  | _, _, n, .exc h r => n.excN.elim
  | _, _, n, .exc0 => n.excN.elim
  | _, _, n, .dct h r => n.dctN.elim
  | _, _, _, .drw => .drw
theorem Dens.mv (m : ∀ a o, F a = some o → (∀ xs, o ≠ .dK xs) → F2 a = some o) : ∀ {v : List V} {d : List Dt}, (∀ x ∈ d, NoDct x) → Dens K l0 F v d → Dens K l0 F2 v d
  | _, _, _, .nil => .nil
  | _, _, n, .cons h t => .cons (Den.mv m (n _ List.mem_cons_self) h) (Dens.mv m (fun x y => n x (List.mem_cons_of_mem _ y)) t)
theorem DenF.mv (m : ∀ a o, F a = some o → (∀ xs, o ≠ .dK xs) → F2 a = some o) : ∀ {v : List (Str × V)} {d : List (Str × Dt)}, (∀ x ∈ d, NoDct x.2) → DenF K l0 F v d → DenF K l0 F2 v d
  | _, _, _, .nil => .nil
  | _, _, n, .cons h t => .cons (Den.mv m (n _ List.mem_cons_self) h) (DenF.mv m (fun x y => n x (List.mem_cons_of_mem _ y)) t)
end
theorem DenK.mv (m : ∀ a o, F a = some o → (∀ xs, o ≠ .dK xs) → F2 a = some o) : ∀ {v : List (Key × V)} {d : List (Key × Dt)}, (∀ x ∈ d, NoDct x.2) → DenK K l0 F v d → DenK K l0 F2 v d
  | _, _, _, .nil => .nil
  | _, _, n, .cons h t => .cons (Den.mv m (n _ List.mem_cons_self) h) (DenK.mv m (fun x y => n x (List.mem_cons_of_mem _ y)) t)
/-- a dict with k ↦ d -/
def putKD (kvs : List (Key × Dt)) (k : Key) (d : Dt) : List (Key × Dt) :=
  if (kvs.any fun kv => decide (kv.1 = k)) = true then kvs.map (fun kv => if kv.1 = k then (kv.1, d) else kv) else kvs ++ [(k, d)]
theorem DenK.any (k : Key) : ∀ {xs : List (Key × V)} {kvs : List (Key × Dt)}, DenK K l0 F xs kvs → (xs.any fun kv => decide (kv.1 = k)) = (kvs.any fun kv => decide (kv.1 = k))
  | _, _, .nil => rfl
  | _, _, .cons h t => by rw [List.any_cons, List.any_cons, DenK.any k t]
theorem DenK.mapP {k : Key} {v : V} {d : Dt} (r : Den K l0 F v d) : ∀ {xs : List (Key × V)} {kvs : List (Key × Dt)}, DenK K l0 F xs kvs → DenK K l0 F (xs.map fun kv => if kv.1 = k then (kv.1, v) else kv) (kvs.map fun kv => if kv.1 = k then (kv.1, d) else kv)
  | _, _, .nil => .nil
  | _, _, .cons (f := f) h t => by
    rw [List.map_cons, List.map_cons]
    by_cases c : f = k
    · rw [if_pos c, if_pos c]
      exact .cons r (DenK.mapP r t)
    · rw [if_neg c, if_neg c]
      exact .cons h (DenK.mapP r t)
theorem DenK.snoc {k : Key} {v : V} {d : Dt} (r : Den K l0 F v d) : ∀ {xs : List (Key × V)} {kvs : List (Key × Dt)}, DenK K l0 F xs kvs → DenK K l0 F (xs ++ [(k, v)]) (kvs ++ [(k, d)])
  | _, _, .nil => .cons r .nil
  | _, _, .cons h t => .cons h (DenK.snoc r t)
theorem DenK.put {k : Key} {v : V} {d : Dt} (r : Den K l0 F v d) {xs : List (Key × V)} {kvs : List (Key × Dt)} (h : DenK K l0 F xs kvs) : DenK K l0 F (putK xs k v) (putKD kvs k d) := by
  unfold putK putKD
  rw [h.any k]
  split
  · exact h.mapP r
  · exact h.snoc r
theorem DenK.length : ∀ {xs : List (Key × V)} {kvs : List (Key × Dt)}, DenK K l0 F xs kvs → xs.length = kvs.length
  | _, _, .nil => rfl
  | _, _, .cons _ t => congrArg (· + 1) (DenK.length t)
end
def NoDS : Sl → Prop
  | .emp => True
  | .dat d => NoDct d
  | _ => False
theorem NoDS.own {s : Sl} (h : NoDS s) : s.isOwn = false := by
  cases s with
  | emp => rfl
  | dat d => rfl
  | own ds => exact h.elim
  | oob p C fs => exact h.elim
  | odc kvs => exact h.elim
theorem NoDct.put {kvs : List (Key × Dt)} {k : Key} {d : Dt} (h : ∀ x ∈ kvs, NoDct x.2) (n : NoDct d) : ∀ x ∈ putKD kvs k d, NoDct x.2 := fun x m => by
  unfold putKD at m
  split at m
  · obtain ⟨y, my, rfl⟩ := List.mem_map.mp m
    split
    · exact n
    · exact h y my
  · rcases List.mem_append.mp m with m | m
    · exact h x m
    · rw [List.mem_singleton.mp m]
      exact n
/-- d["k"] = value, the dict d stands in slot i and nowhere else -/
def dSetK (i : Nat) (k : Str) (de : DE) : DS := fun D ρ => de ρ (fun s => ∃ d kvs, s = .dat d ∧ NoDct d ∧ ρ[i]? = some (.dat (.dct kvs)) ∧ (∀ x ∈ kvs, NoDct x.2) ∧ (∀ j t, j ≠ i → ρ[j]? = some t → NoDS t) ∧ kvs.length ≤ 1000 ∧ D.nx (ρ.set i (.dat (.dct (putKD kvs (.inr k) d))))) fun x => D.ex x ρ
section
variable {X : Cx} {W : WX} {pos : Pos}
theorem dsl_setK (i : Nat) {x k : Str} {p p2 pos' : Pos} {j : Nat} {e : Expr} {te : TE} {de : DE} (hu : X.A.units + 1 < cLine) (he : DEX X W e te de) (hN : X.N[i]? = some x := by rfl) (hv : Vis X.env.scope x := by first | exact Or.inl rfl | exact Or.inr (Or.inl rfl) | exact Or.inr (Or.inr rfl)) (hd : (x == ("__debug__" : Str)) = false := by decide)
    (hcd : (x == ("__classdict__" : Str)) = false := by decide) (hs : swapsWith e (some (.Subscript (.Name x p) (.Constant (.str k) j p2) pos')) pos.line X.env = pure false := by rfl) :
    DSL X W (.Assign [.Subscript (.Name x p) (.Constant (.str k) j p2) pos'] e pos) (sDPut (tVar i) (tC (.str k)) te) (dSetK i k de) := by
  refine ⟨ps_dput hu (pe_var hN hv hd hcd) pe_str he.1 hs, fun D ρ h l0 F H σ S C L => ?_⟩
  refine he.2 ρ _ _ h l0 F H σ S _ (fun v s F1 H1 g1 r1 q1 => ?_) (L.lnk.kx S)
  obtain ⟨d, kvs, e0, nd, hi, ni, no, hl, q⟩ := q1
  subst e0
  have S1 := S.go g1
  rcases S1.sl i _ hi with z | ⟨y, hσ, ry⟩
  · cases z
  have ry : Den X.K l0 F1 y (.dct kvs) := ry
  have r1 : Den X.K l0 F1 v d := r1
  cases ry with
  | dct hF rk =>
    rename_i a xs
    have hH := g1.bs.sub _ _ hF
    have ne : a ≠ l0 := fun z => by rw [z, g1.bs.nf] at hF; cases hF
    refine ⟨_, hσ, a, _, rfl, DPut.k (k := .inr k) hH (by rw [rk.length]; exact Nat.lt_of_le_of_lt hl (by decide)), ?_⟩
    let F2 := upd F1 a (.dK (putK xs (.inr k) v))
    have m : ∀ b o, F1 b = some o → (∀ ys, o ≠ .dK ys) → F2 b = some o := fun b o e n => by
      have nb : b ≠ a := fun z => by
        rw [z, hF] at e
        cases e
        exact n xs rfl
      show upd F1 a _ b = _
      rw [upd_ne nb]
      exact e
    have bs : Base l0 F2 (upd H1 a (.dK (putK xs (.inr k) v))) := by
      refine ⟨fun b o e => ?_, ?_, ?_⟩
      · have e : upd F1 a (.dK (putK xs (.inr k) v)) b = some o := e
        by_cases c : b = a
        · subst c
          rw [upd_same] at e ⊢
          exact e
        · rw [upd_ne c] at e ⊢
          exact g1.bs.sub b o e
      · show upd F1 a _ l0 = none
        rw [upd_ne ne.symm]
        exact g1.bs.nf
      · obtain ⟨ns, h1, h2⟩ := g1.bs.dr
        exact ⟨ns, by rw [upd_ne ne.symm]; exact h1, h2⟩
    have rk2 : DenK X.K l0 F2 (putK xs (.inr k) v) (putKD kvs (.inr k) d) := DenK.mv m (NoDct.put ni nd) (rk.put (k := .inr k) r1)
    have none_own : ∀ (j : Nat) (s : Sl), (ρ.set i (.dat (.dct (putKD kvs (.inr k) d))))[j]? = some s → s.isOwn = true → False := fun j s h o => by
      by_cases c : i = j
      · subst c
        rw [List.getElem?_set_self (List.getElem?_eq_some_iff.mp hi).1] at h
        cases h
        cases o
      · rw [List.getElem?_set_ne c] at h
        rw [(no j s (fun z => c z.symm) h).own] at o
        cases o
    refine L.nx l0 F2 _ σ _ ⟨bs, by rw [List.length_set]; exact S1.len, fun j s h => ?_, fun j k' s t b h1 h2 o1 _ _ _ => (none_own j s h1 o1).elim⟩ q
    by_cases c : i = j
    · subst c
      rw [List.getElem?_set_self (List.getElem?_eq_some_iff.mp hi).1] at h
      cases h
      exact .inr ⟨_, hσ, Den.dct (show F2 a = _ from upd_same) rk2⟩
    · rw [List.getElem?_set_ne c] at h
      have n := no j s (fun z => c z.symm) h
      rcases S1.sl j s h with z | ⟨w, e1, r⟩
      · exact .inl z
      · refine .inr ⟨w, e1, ?_⟩
        cases s with
        | emp => exact r
        | dat dd => exact Den.mv m (show NoDct dd from n) r
        | own ds => exact n.elim
        | oob p C fs => exact n.elim
        | odc kvs => exact n.elim
end
theorem fn_lawL {P : Program} {w : World} {K : PySem.W.Frag} {mg : Str → Option Value} {base : Heap} {st : Stmt} {N : List Str} {k : Nat} {ds : DS} {f : Addr} {fd : FuncData}
    (F : FunD K "law" "law" (defArgs st) (defBody st) (defScope st) [] [] f fd) (S : FnScope N ["_law_script"] (defScope st)) (hN : 2 ≤ N.length)
    (hb : ∀ (cdv : Value) (A : Around) (outer : List Env) (s : Shared) (H : Hp) (E : XK), Room k (A.deeper (envOfC "law" (defScope st) s.heap.objs.size f cdv)) →
      ∃ ts, PSs (cxOf (L2.CX P w) P w K mg base N "law" (defScope st) f cdv A outer s H E) (defBody st) (tSeq (tAsg (tCallSD (spDraws K) [] (WE fun cls d _ H => E cls d H) (tCons (tVar 0) tNil)) (gName 1)) ts) ∧ SndL K (fun cls d _ H => E cls d H) ts ds)
    (hp : ∀ ns : List Int, ns.length ≤ 63 → ds (dEnds isTrue fun _ => False) (lawEn N.length ns)) : FnOk P w K mg base (L2.CX P w) (k + 1) f fd ["_law_script"] (spLaw K) := by
  refine F.ok S (fun vs H Q E h => ?_) fun cdv A outer s H vs Q E hr h => ?_
  · obtain ⟨a, ns, rfl, _⟩ := h
    rfl
  · obtain ⟨a, ns, rfl, hS, hl, hq⟩ := h
    obtain ⟨ts, p, sd⟩ := hb cdv A outer s H E hr
    refine ⟨_, p, ?_⟩
    have e0 : (start N [V.ref a])[0]? = some (some (.ref a)) := rfl
    refine ⟨.ref a, e0, a, ns, rfl, hS, fun l ms H' h1 h2 h3 h4 h5 => ?_⟩
    have bs : Base l H H' := ⟨h2, h1, ms, h3, h4, h5⟩
    have dn : Dens K l H [.ref a] [.lst (ns.map Dt.int)] := .cons (.lst hS (Dens.ofInts ns)) .nil
    have S0 := (Stt.start (N := N) bs dn).put (v := .ref l) 1 (d := .drw) .drw
    refine sd _ _ (hp ns hl) l H H' _ S0 _ ⟨fun l0 F' H' σ' ρ' S' q => ?_, fun l0 F' H' v d r q => ?_, fun l0 F' H' σ' ρ' S' q => q.elim, fun l0 F' H' σ' ρ' S' q => q.elim, fun cls d x l0 F' H' σ' ρ' S' r q => q.elim, fun l0 F' H' σ' ρ' v d S' r q => q.elim⟩
    · cases q
    · have q : d = .v (.bl true) := q
      subst q
      cases r
      exact hq H'
end DW

set_option Elab.async false
set_option linter.all false
set_option maxRecDepth 100000
set_option maxHeartbeats 2000000
/-! DW, part 51: sets of texts: made, added to, sorted. -/
namespace DW
open PySem PySem.Spec PySem.Froz PyProof.Rows L2 PpSet
/-- the text of a member -/
def txtOf (v : Value) : Str := match v with | .str x _ => x | _ => Str.empty
/-- a payload that can be walked by its places -/
def WlkD (w : World) (D : SD) : Prop := Ris D.2.2.place.toList ∧ (w.params.followText "set-order" = true ∨ D.2.2.led = true)
theorem addTx_perm (h : Int) (v : Value) (D : SD) : List.Perm (addTx h v D).1.toList ((h, v) :: D.1.toList) := by
  obtain ⟨es, ep, t⟩ := D
  have hp := layNew_perm t es h v
  rw [Array.toList_push] at hp
  have hp := hp.trans (List.perm_append_singleton _ _)
  unfold addTx
  dsimp only
  generalize (if (layNew t es h v).2.1.plain = true then { (layNew t es h v).2.1 with plain := false } else (layNew t es h v).2.1) = t2
  unfold tailTx
  split
  · exact (relayAll_perm _ _ _).trans hp
  · exact hp
theorem wlkD_add {w : World} {D : SD} (h : Int) (v : Value) (W : WlkD w D) : WlkD w (addTx h v D) := by
  obtain ⟨es, ep, t⟩ := D
  obtain ⟨r, l⟩ := W
  have r1 := layNew_ris t es h v r
  have l1 := layNew_led t es h v
  have r2 : Ris (if (layNew t es h v).2.1.plain = true then { (layNew t es h v).2.1 with plain := false } else (layNew t es h v).2.1).place.toList := by split <;> exact r1
  have l2 : (if (layNew t es h v).2.1.plain = true then { (layNew t es h v).2.1 with plain := false } else (layNew t es h v).2.1).led = t.led := by split <;> exact l1
  unfold addTx
  dsimp only
  generalize (if (layNew t es h v).2.1.plain = true then { (layNew t es h v).2.1 with plain := false } else (layNew t es h v).2.1) = t2 at r2 l2 ⊢
  unfold tailTx
  split
  · exact ⟨relayAll_ris t2 _ _, l.imp id fun z => by rw [relayAll_led t2 _ _, l2]; exact z⟩
  · exact ⟨r2, l.imp id fun z => by rw [l2]; exact z⟩
/-- the set of the texts l at a -/
structure SetT (P : Program) (w : World) (h : Heap) (a : Addr) (l : List Str) : Prop where
  ok : ∃ D, h.get? a = some (sObj "set" D) ∧ TxOk P w D l ∧ WlkD w D ∧ List.Perm (D.1.toList.map fun e => txtOf e.2) l ∧ l.Nodup
section
variable {P : Program} {w : World} {A : Around} {E : Value → Shared → Prop} {s : Shared} {a : Addr} {l : List Str}
theorem SetT.at {h h' : Heap} (R : SetT P w h a l) (k : ∀ o, h.get? a = some o → h'.get? a = some o) : SetT P w h' a l := by
  obtain ⟨D, ho, r⟩ := R
  exact ⟨D, k _ ho, r⟩
theorem SetT.live {h : Heap} (R : SetT P w h a l) : ∃ o, h.get? a = some o := by
  obtain ⟨D, ho, r⟩ := R
  exact ⟨_, ho⟩
theorem SetT.setOf {h : Heap} (R : SetT P w h a l) (hb : l.length < scanBound) : h.SetOf (PySem.strKind P w) a (fun k => decide (k ∈ l)) l.length := by
  obtain ⟨D, ho, F, _⟩ := R
  exact ⟨_, D.1, D.2.1, D.2.2, ho, ⟨rfl, rfl, rfl⟩, rfl, F.el, fun k => by rw [decide_eq_true_eq]; exact F.mem k, by rw [F.sz]; exact hb, F.fit, F.sz⟩
/-- the set with one text more -/
def addT (l : List Str) (k : Str) : List Str := if k ∈ l then l else k :: l
theorem setT_addH {k : Str} {u : Tok} {Q : Bool → Shared → Prop} (R : SetT P w s.heap a l) (hb : l.length + 1 < scanBound)
    (hQ : ∀ b h', Heap.SameBut a s.heap h' → SetT P w h' a (addT l k) → Q b { s with heap := h' }) : wpAny (model P w) A (setAddHashed a (.str k u) (hashStr w k)) Q E s := by
  obtain ⟨D, ho, F, W, pm, nd⟩ := R
  by_cases hk : k ∈ l
  · obtain ⟨es, ep, t⟩ := D
    have hkey : (PySem.strKind P w).is k (.str k u) = true := is_str k u
    have hd : (sObj "set" (es, ep, t)).data = .set es ep t := rfl
    have hf : t.fits es.size = true := F.fit
    have hel : ElemsOf (PySem.strKind P w) es.toList := F.el
    have hsz : es.size = l.length := F.sz
    have hb0 : es.size < scanBound := by omega
    unfold setAddHashed setAddHashedIn
    refine wpAny_holding (wpAny_bind (wpAny_setState_of ho hd hf ?_))
    dsimp only
    rw [byScan_of rfl hb0 hel]
    simp only [↓reduceIte]
    unfold setAddByScan
    refine wpAny_bind ?_
    refine wpAny_bind (wpAny_rule ?_)
    refine wpAny_bind (wpAny_setScan_of (knd := PySem.strKind P w) (k := k) hkey ho hd hf hel ?_)
    cases hfi : List.findIdx? (fun e => (PySem.strKind P w).is k e.2) es.toList with
    | some j =>
      dsimp only
      refine wpAny_pure (wpAny_pure (hQ _ s.heap (Heap.SameBut.refl a s.heap) ?_))
      unfold addT
      rw [if_pos hk]
      exact ⟨(es, ep, t), ho, F, W, pm, nd⟩
    | none =>
      obtain ⟨e, he, q⟩ := (F.mem k).mp hk
      have c := List.findIdx?_eq_none_iff.mp hfi e he
      rw [q] at c
      cases c
  · refine add_x ho F hk hb (hQ _ _ ?_ ?_)
    · exact Heap.SameBut.update s.heap a _
    · unfold addT
      rw [if_neg hk]
      refine ⟨addTx (hashStr w k) (.str k u) D, get_upd _ ho rfl, add_ok u F, wlkD_add _ _ W, ?_, List.nodup_cons.mpr ⟨hk, nd⟩⟩
      exact ((addTx_perm _ _ D).map _).trans (List.Perm.cons _ pm)
/-- found.add(k) -/
theorem setT_add {k : Str} {u : Tok} {Q : Value → Shared → Prop} (R : SetT P w s.heap a l) (hb : l.length + 1 < scanBound)
    (hQ : ∀ h', Heap.SameBut a s.heap h' → SetT P w h' a (addT l k) → Q .none { s with heap := h', toks := s.toks + 1 }) :
    wpAny (model P w) A (call (.builtin "set.add") [.ref a, .str k u]) Q E s := by
  have hS := R.setOf (by omega : l.length < scanBound)
  refine wpAny_call_entry F.slot_set_add hS.typeIs F.entry_set_add ?_ (F.args_set_add_2 _ _)
  unfold Builtin.«set.add» Builtin.Frozenset.oneOther
  simp only [List.isEmpty_nil, bind_assoc]
  unfold Builtin.Frozenset.addrOf setAdd
  refine wpAny_bind (wpAny_pure ?_)
  try dsimp only
  refine wpAny_bind (wpAny_pure ?_)
  try dsimp only
  refine wpAny_bind ?_
  refine wpAny_holding ?_
  refine wpAny_bind ((PySem.strKind P w).pyHash (is_str k u) ?_)
  refine setT_addH (s := { s with toks := s.toks + 1 }) R hb fun b h' sb r => ?_
  show wpAny _ _ (ret Value.none) _ _ _
  exact wpAny_pure ⟨_, rfl, hQ h' sb r⟩
theorem setT_fresh {h : Heap} (P : Program) (w : World) : SetT P w (h.push { cls := .type "set", dict := none, data := .set #[] 0 (.fresh 0 0 (!w.params.followText "set-order")) }) h.objs.size [] :=
  ⟨(#[], 0, .fresh 0 0 (!w.params.followText "set-order")), Heap.get?_push_size _ rfl, TxOk.nil (by rfl), ⟨List.Pairwise.nil, by
    show _ ∨ (!w.params.followText "set-order") = true
    cases w.params.followText "set-order"
    · exact .inr rfl
    · exact .inl rfl⟩, by simp, List.nodup_nil⟩
theorem strs_txt : ∀ vs : List Value, (∀ v ∈ vs, ∃ x t, v = Value.str x t) → StrsAre vs (vs.map txtOf)
  | [], _ => .nil
  | v :: vs, h => by
    obtain ⟨x, t, rfl⟩ := h v (List.mem_cons_self ..)
    exact .cons x t (strs_txt vs fun u hu => h u (List.mem_cons_of_mem _ hu))
end
section
variable {P : Program} {w : World} {A : Around} {E : Value → Shared → Prop} {s : Shared} {a : Addr} {l : List Str}
theorem sorted_setT {Q : Value → Shared → Prop} (R : SetT P w s.heap a l) (hh : A.handled = none) (h64 : l.length < 64)
    (hQ : ∀ s' p (out : Array Value) (c : Nat) (ys : List Str), (∀ b o, s.heap.get? b = some o → s'.heap.get? b = some o) → s'.gens = s.gens → s'.os = s.os → s.heap.objs.size ≤ p →
      s'.heap.get? p = some (seqObj "list" out c) → StrsAre out.toList ys → ys.Perm l → sortedS ys = true → Q (.ref p) s') :
    wpAny (model P w) A (call (.builtin "sorted") [.ref a]) Q E s := by
  obtain ⟨⟨es, ep, t⟩, ho, F, ⟨hr, hl⟩, pm, nd⟩ := R
  have hsz : es.size = l.length := F.sz
  have h64b : 64 ≤ scanBound := by decide
  refine Calls.call_function_entry kind_sorted plain_sorted entry_sorted (args_sorted1 _) ?_
  unfold Builtin.«sorted»
  refine wpAny_bind (m := checkCount "sorted" 1 1 _) (wpAny_pure ?_)
  refine wpAny_bind (collect_set (A := A.in1) hh ⟨_, ho, rfl, rfl⟩ F.fit (show es.size < scanBound by omega) hr hl fun s1 vs k1 hz g1 o1 pv => ?_)
  have hvl : vs.length = l.length := by rw [pv.length_eq, List.length_map, Array.length_toList]; exact hsz
  have hI : StrsAre vs (vs.map txtOf) := strs_txt vs fun v hv => by
    obtain ⟨e, he, q⟩ := List.mem_map.mp (pv.mem_iff.mp hv)
    obtain ⟨⟨k, h1, h2⟩, _⟩ := F.el e he
    obtain ⟨u, hu⟩ := Value.isStrOf_shape h1
    exact ⟨k, u, by rw [← q]; exact hu⟩
  have pk : (vs.map txtOf).Perm l := by
    have q := pv.map txtOf
    rw [List.map_map] at q
    exact q.trans pm
  refine wpAny_bind (wpAny_newList ?_ (by rw [hvl, sizeLine_eq]; omega))
  have hoL : (s1.heap.push (seqObj "list" vs.toArray 0)).get? s1.heap.objs.size = some (seqObj "list" vs.toArray 0) := Heap.get?_push_size _ rfl
  refine wpAny_bind (wpAny_holding (wpAny_call_entry slot_list_sort ⟨_, hoL, rfl⟩ entry_list_sort (list_sort_treeK strKind_oneLt hoL hI.keysOf (fun v₁ v₂ rest e => keyKind_strs (by rw [← e]; exact hI)) (by rw [hvl]; exact h64) fun st' hp hs => ⟨_, rfl, ?_⟩) (args_list_sort _)))
  obtain ⟨ys, h1, h2, h3⟩ := sorted_out_str hI hp hs
  obtain ⟨c, hc⟩ := sortedHeap_at (vs := vs) (out := (arrOf st').map (·.2)) hoL
  refine wpAny_pure ⟨_, rfl, hQ _ s1.heap.objs.size _ c ys (fun b u e => ?_) g1 o1 hz hc h1 (h2.trans pk) h3⟩
  have q := k1 b u e
  have hlt := Heap.lt_size q
  show (sortedHeap (s1.heap.push (seqObj "list" vs.toArray 0)) s1.heap.objs.size vs _).get? b = some u
  rw [sortedHeap_old (Nat.ne_of_lt hlt) (by rw [size_push']; exact Nat.lt_succ_of_lt hlt)]
  exact Heap.get?_push_of_some _ q
end
/-! ### as tracked things -/
def SetTO (P : Program) (w : World) (a : Addr) (l : List Str) : HO := .ext fun h => SetT P w h a l
theorem setTO_new {w : World} {P : Program} {H : Hp} {h : Heap} {a : Addr} {l : List Str} (R : SetT P w h a l) : ObjOk P w H h a (SetTO P w a l) := ⟨R, R.live, fun _ _ p k => SetT.at p k⟩
section
variable {X : Cx}
theorem setTO_get {pins : List (Addr × Obj)} {σ : L2.St} {H : Hp} {s : Shared} {a : Addr} {l : List Str} (I : Inv X pins σ H s) (ha : H a = some (SetTO X.prog X.w a l)) : SetT X.prog X.w s.heap a l := (I.hok a _ ha).1
theorem addT_ok {pins : List (Addr × Obj)} {σ : L2.St} {H : Hp} {s : Shared} {E : Value → Shared → Prop} {D : Addr} {l : List Str} {y : Str} {u : Tok} {Q : Value → Shared → Prop} (I : Inv X pins σ H s) (hD : H D = some (SetTO X.prog X.w D l)) (room : l.length + 1 < scanBound)
    (h : ∀ s', Inv X pins σ (upd H D (SetTO X.prog X.w D (addT l y))) s' → Q .none s') : wpAny (model X.prog X.w) X.A (call (.builtin "set.add") [.ref D, .str y u]) Q E s := by
  refine setT_add (setTO_get I hD) room fun h' sb new => ?_
  exact h _ (I.write (e := D) (t' := s.toks + 1) (by rw [hD]; trivial) (.inl rfl) (fun b u hb hu => (sb.2 b hb).trans hu) new.live (setTO_new new))
/-- sorted(found), fewer than 64 members -/
def rSortedT (P : Program) (w : World) : List V → Hp → VK → Prop := fun vs H Q => ∃ (a : Addr) (l : List Str), vs = [V.ref a] ∧ H a = some (SetTO P w a l) ∧ l.length < 64 ∧
  ∀ (ys : List Str) (p : Addr), ys.Perm l → sortedS ys = true → H p = none → Q (.ref p) (upd H p (.lst (ys.map V.str)))
theorem cr_sortedT (hc : X.calm = true) : CallR X (.builtin "sorted") (rSortedT X.prog X.w) := by
  intro pins s σ H vs us Q I r h
  obtain ⟨a, l, rfl, ha, h64, q⟩ := h
  have R := setTO_get I ha
  rw [Vals.ref1 r]
  refine sorted_setT R (I.ok.hd hc) h64 fun s' p out c ys k g o hp hg hi pm hs => ?_
  have hlen : (ys.map V.str).length ≤ sizeLine := by rw [List.length_map, pm.length_eq, sizeLine_eq]; omega
  have hn : H p = none := I.hok.fresh hp
  have J : Inv X pins σ (upd H p (.lst (ys.map V.str))) { s with heap := s'.heap, gens := s'.gens, drawn := s'.drawn, toks := s'.toks } :=
    I.call (ch := []) (Un.laid k hp hn) (I.hok.laid k hp ⟨hlen, out.toList, c, vals_of_strs hi, hg⟩) (by rw [g]; exact I.bare) (fun _ z => nomatch z)
  have e : s' = { s with heap := s'.heap, gens := s'.gens, drawn := s'.drawn, toks := s'.toks } := by
    cases s'
    cases s
    cases o
    rfl
  rw [e]
  exact ⟨.ref p, _, J, rfl, q ys p pm hs hn⟩
/-- {elt for target in iter if ..}, elt a text: D the new set -/
def tScT (P : Program) (w : World) (wi : TI) (g : TG) (tt : TT) (te : TE) (vs : List Nat) : TE := fun σ H Q => wi σ H fun J H1 => ∀ D, H1 D = none → ∃ W : Nat → Nat → Hp → Prop, (∃ m, W 0 m (upd H1 D (SetTO P w D []))) ∧ ∀ i m H, W i m H →
  (J.stop i H ∧ Q (.ref D) H) ∨ (J.go i H ∧ ∃ Nx : Hp → Prop, (∀ H', Nx H' → ∃ m', m' < m ∧ W (i + 1) m' H') ∧ ∀ x H', J.yld i H x H' → g x (wipe σ vs) H' fun σ2 H2 => wipe σ2 vs = wipe σ vs ∧ tt σ2 H2 fun b H3 =>
    if b = true then te σ2 H3 fun y H4 => ∃ (c : Str) (l : List Str), y = .str c ∧ H4 D = some (SetTO P w D l) ∧ l.length + 1 < scanBound ∧ Nx (upd H4 D (SetTO P w D (addT l c))) else Nx H3)
theorem pe_scT {elt tg iter : Expr} {ifs : List Expr} {scope : Scope} {own : List (PySem.Str × Nat)} {pos : Pos} {wi : TI} {g : TG} {tt : TT} {te : TE} (hc : X.calm = true) (hN : X.N.Nodup) (hi : PI X tg iter wi) (ok : BlkOk X.N X.env.scope scope own)
    (hg : ∀ (s : Shared) (H : Hp) (C : Addr) (cl : List (PySem.Str × Addr)) (fp : List Addr), PG (X.blk s H scope (compEnvC scope cl C X.env) fp) tg g) (ht : ∀ (s : Shared) (H : Hp) (C : Addr) (cl : List (PySem.Str × Addr)) (fp : List Addr), PTs (X.blk s H scope (compEnvC scope cl C X.env) fp) ifs tt)
    (he : ∀ (s : Shared) (H : Hp) (C : Addr) (cl : List (PySem.Str × Addr)) (fp : List Addr), PE (X.blk s H scope (compEnvC scope cl C X.env) fp) elt te) (hs : ∀ x, foldedSetIterable iter X.env x = pure x := by intro _; rfl) :
    PE X (.SetComp elt [⟨tg, iter, ifs, 0⟩] scope pos) (tScT X.prog X.w wi g tt te (own.map (·.2))) := by
  refine ⟨fun pins s σ H Q I h => ?_⟩
  rw [eval_SetComp]
  have hfree : ∀ y ∈ scope.names, y.2 = .free → ∃ c, X.env.cells.lookup y.1 = some c := fun y hy e => by
    rcases ok.free y hy e with k | k
    · exact I.ok.has _ (.inl k)
    · exact I.ok.has _ (.inr k)
  refine wpAny_comprehension_free rfl hs (closure_ok hfree) ok.kind (fun y hy e => by rw [ok.uniq y hy, e])
    (thn (hi.run pins s σ H _ I h) fun xv s1 hx => thn hx fun itv s2 h2 => ?_)
  obtain ⟨it, fp, tn, J, H2, e, I2, T, st2, f2, q⟩ := h2
  subst e
  refine newSet_ok (newEnv_comp ?_)
  generalize hD : s2.heap.objs.size = D
  have hDn : H2 D = none := I2.hok.fresh (Nat.le_of_eq hD)
  obtain ⟨W, ⟨m0, w0⟩, turn⟩ := q D hDn
  generalize hs3 : ({ s2 with heap := s2.heap.push { cls := .type "set", dict := none, data := .set #[] 0 (.fresh 0 0 (!X.w.params.followText "set-order")) } } : Shared) = s3
  have I3 : Inv X pins σ (upd H2 D (SetTO X.prog X.w D [])) s3 := by
    rw [← hs3]
    refine I2.laid (t' := s2.toks) (fun b o e => Heap.get?_push_of_some _ e) (Nat.le_of_eq hD) ?_
    rw [← hD]
    exact setTO_new (setT_fresh X.prog X.w)
  have h3 : s3.heap = s2.heap.push { cls := .type "set", dict := none, data := .set #[] 0 (.fresh 0 0 (!X.w.params.followText "set-order")) } := by rw [← hs3]
  have f3 : ∀ b ∈ fp, FpOk X pins (upd H2 D (SetTO X.prog X.w D [])) b ∧ b < s3.heap.objs.size := fun b hb => by
    obtain ⟨o, e, _⟩ := T.obj _ _ st2 b hb
    have hlt := Heap.lt_size e
    refine ⟨⟨?_, (f2 b hb).2⟩, by rw [h3, Heap.size_push]; exact Nat.lt_succ_of_lt hlt⟩
    rw [upd_ne (by rw [← hD]; exact Nat.ne_of_lt hlt)]
    exact (f2 b hb).1
  have st3 : tn 0 s3.heap := T.keep _ _ _ st2 fun b _ o e => by rw [h3]; exact Heap.get?_push_of_some _ e
  have I4 := block_start I3 ok hN f3
  generalize hcl : cellsFrom (s3.heap.objs.size + 1) scope.names (cloFrom X.env.cells scope.names []) = cl at I4 ⊢
  have pg := hg s3 (upd H2 D (SetTO X.prog X.w D [])) s3.heap.objs.size cl fp
  have pt := ht s3 (upd H2 D (SetTO X.prog X.w D [])) s3.heap.objs.size cl fp
  have pe := he s3 (upd H2 D (SetTO X.prog X.w D [])) s3.heap.objs.size cl fp
  have nfp : ∀ b ∈ fp, (upd H2 D (SetTO X.prog X.w D [])) b = none := fun b hb => (f3 b hb).1.1
  show codeAny _ _ (.compStart (.SetComp elt [⟨tg, iter, ifs, 0⟩] scope pos) 0 (.ref it) (.ref D) (compEnvC scope cl s3.heap.objs.size X.env)) _ { s3 with heap := pushCells (s3.heap.push { cls := .type "dict", data := .dict #[] }) scope.names }
  generalize hce : compEnvC scope cl s3.heap.objs.size X.env = ce at I4 pg pt pe ⊢
  have cL : ce.locals = s3.heap.objs.size := by subst hce; rfl
  generalize hH3 : upd H2 D (SetTO X.prog X.w D []) = H3 at I3 I4 pg pt pe w0 nfp f3
  generalize hs4 : ({ s3 with heap := pushCells (s3.heap.push { cls := .type "dict", data := .dict #[] }) scope.names } : Shared) = s4 at I4 ⊢
  have st4 : tn 0 s4.heap := T.keep _ _ _ st3 fun b _ o e => by rw [← hs4]; exact pushCells_keeps _ _ _ _ (Heap.get?_push_of_some _ e)
  have stat : ∀ {σ' : L2.St} {H' : Hp} {s' : Shared}, Inv (X.blk s3 H3 scope ce fp) [] σ' H' s' → (∀ b ∈ fp, H' b = none) → ∀ b ∈ fp, FpOk (X.blk s3 H3 scope ce fp) [] H' b := fun {σ' H' s'} I' hn b hb =>
    ⟨hn b hb, (I'.ok.exf b hb).1, I'.ok.exfs b hb, .inl hb, fun x c e => (I'.ok.exf b hb).2 x c e, fun p hp => absurd (show p ∈ ([] : List (Addr × Obj)) ++ [] from hp) (by simp)⟩
  refine (fun loop => codeAny_compStart_set loop (T.self X.A 0 _ _ _ st4 loop)) ?_
  refine compLoopS_any (fun n s' => ∃ i H', Inv (X.blk s3 H3 scope ce fp) [] (wipe σ (own.map (·.2))) H' s' ∧ tn i s'.heap ∧ (∀ b ∈ fp, H' b = none) ∧ W i n H') ?_ m0 ⟨0, H3, I4, st4, nfp, w0⟩
  rintro n s5 ⟨i, H5, I5, st5, n5, w5⟩
  rcases turn i n H5 w5 with ⟨stop, qq⟩ | ⟨go, Nx, hNx, step⟩
  · refine thnF (T.done (X.blk s3 H3 scope ce fp) rfl rfl rfl hc i [] s5 _ H5 (fun _ _ => False) I5 (stat I5 n5) st5 stop) fun r s6 ⟨hr, I6⟩ => ?_
    subst hr
    have I7 : Inv X pins σ H5 s6 := I3.call' (ch := fp) I6.os I6.base I6.hok I6.bare fun b hb => ⟨(f3 b hb).1.2.2.2.1, (f3 b hb).1.2.1, (f3 b hb).1.2.2.2.2.1, (f3 b hb).1.2.2.2.2.2⟩
    have nC : H5 s3.heap.objs.size = none := by
      have z : H5 ce.locals = none := I6.free
      rw [cL] at z
      exact z
    obtain ⟨m, hn, _⟩ := I6.loc
    have hn : s6.heap.Ns ce.locals m := hn
    rw [cL] at hn
    obtain ⟨f0, f1, f2, f3, f4, f5⟩ := I3.fpOk (Nat.le_refl _) nC
    exact ⟨m, hn, fun h'' sb => ⟨.ref D, H5, I7.turned (t' := s6.toks) (fun b o hb e => (sb.2 b hb).trans e) f0 f1 f3 f4 f5, rfl, qq⟩⟩
  · refine thnF (T.item (X.blk s3 H3 scope ce fp) rfl rfl rfl hc i [] s5 _ H5 (fun _ _ => False) I5 (stat I5 n5) st5 go) fun r s6 ⟨u, hr, h6⟩ => ?_
    subst hr
    refine thnF h6 fun _ s7 ⟨x, H7, I7, r7, y7, st7, n7⟩ => ?_
    have I7' := I7.pinned (stat I7 n7) (T.obj _ _ st7)
    refine thnF (pg.run _ s7 _ H7 x u _ I7' r7 (step x H7 y7)) fun _ s8 ⟨σ8, H8, I8, hw8, q8⟩ => ?_
    refine thnF (pt.run _ s8 σ8 H8 _ I8 q8) fun b s9 ⟨H9, I9, q9⟩ => ?_
    have fin : ∀ {s' : Shared} {H' : Hp}, Inv (X.blk s3 H3 scope ce fp) ([] ++ pinsAt fp s7.heap) σ8 H' s' → Nx H' → ∃ m, m < n ∧ ∃ i H', Inv (X.blk s3 H3 scope ce fp) [] (wipe σ (own.map (·.2))) H' s' ∧ tn i s'.heap ∧ (∀ b ∈ fp, H' b = none) ∧ W i m H' := fun {s' H'} I' nx => by
      obtain ⟨m', hm, w'⟩ := hNx H' nx
      have pin' : ∀ b ∈ fp, ∀ o, s7.heap.get? b = some o → s'.heap.get? b = some o ∧ H' b = none := fun b hb o e =>
        let z := I'.pin (b, o) (List.mem_append_right _ (List.mem_append_right _ (mem_pinsAt hb e)))
        ⟨z.1, z.2.1⟩
      have hl : (wipe σ (own.map (·.2))).length = σ8.length := by rw [← hw8, wipe_length]
      refine ⟨m', hm, i + 1, H', (I'.unpinned (pins := [])).weak hl (fun j v e => ?_), T.keep _ _ _ st7 fun b hb o e => (pin' b hb o e).1, fun b hb => ?_, w'⟩
      · rw [← hw8] at e
        exact (wipe_some e).1
      · obtain ⟨o, e, _⟩ := T.obj _ _ st7 b hb
        exact (pin' b hb o e).2
    cases b with
    | false =>
      simp only [Bool.false_eq_true, if_false] at q9 ⊢
      exact fin I9 q9
    | true =>
      simp only [if_true] at q9 ⊢
      refine thnF (pe.run _ s9 σ8 H9 _ I9 q9) fun z s10 ⟨yv, H10, I10, r10, c, l0, ey, hD10, hz10, nx⟩ => ?_
      subst ey
      obtain ⟨tk, rfl⟩ := (show ∃ t, z = Value.str c t from r10)
      exact addT_ok (X := X.blk s3 H3 scope ce fp) I10 hD10 hz10 fun s11 I11 => fin I11 nx
end
end DW

set_option Elab.async false
set_option linter.all false
set_option maxRecDepth 100000
/-! DW, part 52: sorted({.. for .. in ..}) of texts; an item of a text; a sign in a text; for over a text. -/
namespace DW
open PySem PySem.Spec PyProof.Rows L2
/-! ### sorted of a set comprehension -/
/-- a set comprehension of texts over ds: an invariant by the turn, of the members so far -/
def TcI (g : DG) (t : DTt) (e : DE) (ρ : En) (ds : List Dt) (Q : List Str → Prop) : Prop := ∃ P : Nat → List Str → Prop, P 0 [] ∧ (∀ (i : Nat) (x : Dt) (acc : List Str), ds[i]? = some x → P i acc → g (.dat x) ρ fun ρ2 => t ρ2 (fun b => if b = true then e ρ2 (fun s => ∃ c : Str, s = .dat (.v (.str c)) ∧ acc.length ≤ 1000 ∧ P (i + 1) (addT acc c)) (fun _ => False) else P (i + 1) acc) fun _ => False) ∧ ∀ acc, P ds.length acc → Q acc
def dSrtSc (it : DI) (g : DG) (t : DTt) (e : DE) (vs : List Nat) : DE := fun ρ Q E => it ρ (fun ds => TcI g t e (wipeD ρ vs) ds fun l => l.length < 64 ∧ ∀ ys : List Str, ys.Perm l → sortedS ys = true → Q (.dat (.lst (ys.map Dt.str)))) E
theorem dens_ofStrs {K : PySem.W.Frag} {l0 : Addr} {F : Hp} : ∀ ys : List Str, Dens K l0 F (ys.map V.str) (ys.map Dt.str)
  | [] => .nil
  | y :: ys => .cons (.v _) (dens_ofStrs ys)
theorem snd_scT {P0 : Program} {w : World} {K : PySem.W.Frag} {W : WX} {wi : TI} {g : TG} {tt : TT} {te : TE} {di : DI} {dg : DG} {dt : DTt} {de : DE} {ts vs : List Nat} (hv : ∀ j ∈ ts, j ∈ vs) (si : SndI K W wi di) (sg : SndG K ts g dg) (st : SndT K W0 tt dt) (se : SndE K W0 te de) :
    SndE K W (tCB (rSortedT P0 w) (tCons (tScT P0 w wi g tt te vs) tNil)) (dSrtSc di dg dt de vs) := fun ρ Q E h l0 F H σ S Qc k kx => by
  refine si ρ _ _ h l0 F H σ S _ (fun J ds F1 H1 g1 wl q1 => ?_) kx
  intro D hD
  have n0 : D ≠ l0 := fun e => g1.bs.live (by rw [← e]; exact hD)
  have FD : F1 D = none := by
    cases e : F1 D with
    | none => rfl
    | some u =>
      rw [g1.bs.sub D u e] at hD
      cases hD
  have S1 := S.go g1
  have noX : ∀ {F H σ}, KX K W0 l0 F H σ fun _ => False := fun _ _ _ _ _ _ _ z => z.elim
  obtain ⟨P, q0, qt, qe⟩ := q1
  refine ⟨fun i m H' => m = ds.length - i ∧ i ≤ ds.length ∧ ∃ F' acc, Go l0 F1 H1 F' H' ∧ F' D = none ∧ H' D = some (SetTO P0 w D acc) ∧ P i acc, ⟨ds.length, by simp, Nat.zero_le _, F1, [], Go.loose g1.bs _ hD, FD, upd_same, q0⟩, ?_⟩
  rintro i m H2 ⟨rfl, hi, F2, acc, g2, hF2, hD2, q2⟩
  by_cases hlt : i < ds.length
  · refine .inr ⟨wl.go i F2 H2 g2.ex g2.bs hlt, fun H' => ∃ F' acc, Go l0 F1 H1 F' H' ∧ F' D = none ∧ H' D = some (SetTO P0 w D acc) ∧ P (i + 1) acc, fun H' z => ⟨ds.length - (i + 1), by omega, rfl, hlt, z⟩, fun x H3 y => ?_⟩
    obtain ⟨F3, d, g3, hd, r3⟩ := wl.yld i F2 H2 x H3 g2.ex g2.bs hlt y
    have q2 := qt i d acc hd q2
    have g13 := g2.trans g3
    refine sg (.dat d) _ _ q2 l0 F3 H3 _ x ((S1.go g13).wipe vs) r3 _ fun F4 H4 σ4 ρ4 g4 w4 S4 z4 q4 => ?_
    refine ⟨(z4 vs hv).trans wipe_twice, ?_⟩
    refine st ρ4 _ _ q4 l0 F4 H4 σ4 S4 _ (fun b F5 H5 g5 q5 => ?_) noX
    have g25 := (g3.trans g4).trans g5
    have g15 := g2.trans g25
    have hF5 := g25.stays hF2 hD2
    have hD5 := g25.keep D _ n0 hD2
    cases b with
    | true =>
      rw [if_pos rfl] at q5 ⊢
      refine se ρ4 _ _ q5 l0 F5 H5 σ4 (S4.go g5) _ (fun v s F6 H6 g6 r6 q6 => ?_) noX
      obtain ⟨c, e, z, q⟩ := q6
      subst e
      have rv : v = .str c := by
        cases (show Den K l0 F6 v (.v (.str c)) from r6)
        rfl
      have hF6 := g6.stays hF5 hD5
      have hD6 := g6.keep D _ n0 hD5
      exact ⟨c, acc, rv, hD6, Nat.lt_of_le_of_lt (Nat.succ_le_succ z) (by decide), F6, _, (g15.trans g6).modNew hD hF6 n0, hF6, upd_same, q⟩
    | false =>
      rw [if_neg Bool.false_ne_true] at q5 ⊢
      exact ⟨F5, acc, g15, hF5, hD5, q5⟩
  · have e : i = ds.length := by omega
    subst e
    obtain ⟨h64, q2⟩ := qe acc q2
    refine .inl ⟨wl.stop F2 H2 g2.ex g2.bs, D, acc, rfl, hD2, h64, fun ys p pm hs hp => ?_⟩
    have g := Go.fresh (p := p) g2.bs (.lst (ys.map V.str)) hp
    exact k (.ref p) (.dat (.lst (ys.map Dt.str))) _ _ ((g1.trans g2).trans g) (Den.lst (SqL.of upd_same) (dens_ofStrs ys)) (q2 ys pm hs)
section
variable {X : Cx} {W : WX} {pos : Pos}
theorem de_srtSc {elt iter tg : Expr} {ifs : List Expr} {scope : Scope} {own : List (Str × Nat)} {p spos : Pos} {wi : TI} {g : TG} {tt : Shared → Hp → Addr → List (Str × Addr) → List Addr → TT} {te : Shared → Hp → Addr → List (Str × Addr) → List Addr → TE} {di : DI} {dg : DG} {dt : DTt} {de : DE} {ns : List Nat} (hc : X.calm = true) (hN : X.N.Nodup) (hgl : Gl X "sorted") (hm : X.mg "sorted" = none) (hi : DIX X W tg iter wi di) (ok : BlkOk X.N X.env.scope scope own)
    (hg : ∀ (s : Shared) (H : Hp) (C : Addr) (cl : List (Str × Addr)) (fp : List Addr), DGX (X.blk s H scope (compEnvC scope cl C X.env) fp) tg ns g dg) (ht : ∀ (s : Shared) (H : Hp) (C : Addr) (cl : List (Str × Addr)) (fp : List Addr), DTsX (X.blk s H scope (compEnvC scope cl C X.env) fp) W0 ifs (tt s H C cl fp) dt)
    (he : ∀ (s : Shared) (H : Hp) (C : Addr) (cl : List (Str × Addr)) (fp : List Addr), DEX (X.blk s H scope (compEnvC scope cl C X.env) fp) W0 elt (te s H C cl fp) de) (ett : ∀ (s : Shared) (H : Hp) (C : Addr) (cl : List (Str × Addr)) (fp : List Addr), tt s H C cl fp = tt X.s_0 X.H_0 0 [] [] := by intros; rfl) (ete : ∀ (s : Shared) (H : Hp) (C : Addr) (cl : List (Str × Addr)) (fp : List Addr), te s H C cl fp = te X.s_0 X.H_0 0 [] [] := by intros; rfl) (hv : ∀ j ∈ ns, j ∈ own.map (·.2) := by decide) (hs : ∀ x, foldedSetIterable iter X.env x = pure x := by intro _; rfl) :
    DEX X W (.Call (.Name "sorted" p) [.SetComp elt [⟨tg, iter, ifs, 0⟩] scope spos] [] pos) (tCB (rSortedT X.prog X.w) (tCons (tScT X.prog X.w wi g (tt X.s_0 X.H_0 0 [] []) (te X.s_0 X.H_0 0 [] []) (own.map (·.2))) tNil)) (dSrtSc di dg dt de (own.map (·.2))) :=
  ⟨pe_callB (cr_sortedT hc) hgl hm (by rfl) (pa_cons (pe_scT hc hN hi.1 ok (fun s H C cl fp => (hg s H C cl fp).1) (fun s H C cl fp => ett s H C cl fp ▸ (ht s H C cl fp).1) (fun s H C cl fp => ete s H C cl fp ▸ (he s H C cl fp).1) hs) pa_nil) (by decide) (by decide) (by rfl) (by rfl),
    snd_scT hv hi.2 (hg X.s_0 X.H_0 0 [] []).2 (ht X.s_0 X.H_0 0 [] []).2 (he X.s_0 X.H_0 0 [] []).2⟩
end
/-! ### texts -/
/-- an item of a list, a tuple or a text -/
def rIxS3 (K : PySem.W.Frag) : R2 := fun x y H Q => rIxS2 K x y H Q ∨ rIxS x y H Q
theorem ix_S3 {X : Cx} : IxR X (rIxS3 X.K) := IxR.or ix_S ix_str
def dIxS : D2 := fun s t Q => match s with
  | .dat (.v (.str z)) => ∃ i c, t = .dat (.v (.int i)) ∧ z.length ≤ 100000 ∧ atI z.cps.toList i = some c ∧ Q (.dat (.v (.str ⟨#[c]⟩)))
  | _ => dIx s t Q
theorem sr_ixS {K : PySem.W.Frag} : SndR K (rIxS3 K) dIxS := fun x y s t Q h l0 F H b r1 r2 Qc k => by
  unfold dIxS at h
  split at h
  · obtain ⟨i, c, e, h1, h2, q⟩ := h
    subst e
    cases r1
    cases r2
    exact .inr ⟨_, i, c, rfl, rfl, Evl.sz_of h1, h2, k.here b q⟩
  · exact .inl (sr_ix x y _ t Q h l0 F H b r1 r2 Qc k)
def dInT : D2 := fun s t Q => ∃ (c : Nat) (z : Str), s = .dat (.v (.str ⟨#[c]⟩)) ∧ t = .dat (.v (.str z)) ∧ Q (.dat (.v (.bl (decide (c ∈ z.cps.toList)))))
def dNotInT : D2 := fun s t Q => ∃ (c : Nat) (z : Str), s = .dat (.v (.str ⟨#[c]⟩)) ∧ t = .dat (.v (.str z)) ∧ Q (.dat (.v (.bl (!decide (c ∈ z.cps.toList)))))
theorem sr_inT {K : PySem.W.Frag} : SndR K L2.rInS dInT := fun x y s t Q h l0 F H b r1 r2 Qc k => by
  obtain ⟨c, z, e1, e2, q⟩ := h
  subst e1 e2
  cases r1
  cases r2
  exact ⟨c, z, rfl, rfl, k.here b q⟩
theorem sr_notInT {K : PySem.W.Frag} : SndR K L2.rNotInS dNotInT := fun x y s t Q h l0 F H b r1 r2 Qc k => by
  obtain ⟨c, z, e1, e2, q⟩ := h
  subst e1 e2
  cases r1
  cases r2
  exact ⟨c, z, rfl, rfl, k.here b q⟩
/-- the signs of a text -/
def signsD (x : Str) : List Dt := x.cps.toList.map fun c => Dt.str ⟨#[c]⟩
def iTxt (a : DE) : DI := fun ρ Q E => a ρ (fun s => ∃ x : Str, s = .dat (.v (.str x)) ∧ Q (signsD x)) E
theorem signs_len (x : Str) : (signsD x).length = x.cps.size := by unfold signsD; rw [List.length_map, Array.length_toList]
theorem Wlk.txt {K : PySem.W.Frag} {l0 : Addr} {F : Hp} {x : Str} : Wlk K l0 (Its x) F (signsD x) where
  go := fun i F' H' e b hi => by
    rw [signs_len] at hi
    exact hi
  yld := fun i F' H' y H2 e b hi z => by
    obtain ⟨e1, c, e2, e3⟩ := z
    subst e1 e3
    refine ⟨F', _, .refl b, ?_, .v _⟩
    unfold signsD
    rw [List.getElem?_map, Array.getElem?_toList, e2]
    rfl
  stop := fun F' H' e b => by
    show x.cps.size ≤ (signsD x).length
    rw [signs_len]
    exact Nat.le_refl _
section
variable {X : Cx} {W : WX} {a tg : Expr} {xa : TE} {da : DE}
theorem di_txt (ha : DEX X W a xa da) : DIX X W tg a (iStr xa) (iTxt da) := by
  obtain ⟨pa, st⟩ := ha
  refine ⟨pi_str pa, fun ρ Q E h l0 F H σ S R k kx => ?_⟩
  have h : da ρ _ E := h
  refine st ρ _ E h l0 F H σ S _ (fun x s F1 H1 g1 r1 q1 => ?_) kx
  obtain ⟨y, e, q⟩ := q1
  subst e
  have rv : x = .str y := by
    cases (show Den X.K l0 F1 x (.v (.str y)) from r1)
    rfl
  exact ⟨y, rv, k _ _ F1 H1 g1 .txt q⟩
end
end DW

set_option Elab.async false
set_option linter.all false
set_option maxRecDepth 100000
/-! DW, part 53: dicts with keys that are worked out; x.f(..), f a field that holds an instance that may be called. -/
namespace DW
open PySem PySem.Spec PyProof.Rows L2 StX
/-! ### dicts -/
abbrev DKs := En → (List (Key × Dt) → Prop) → (Xn → Prop) → Prop
def kNil : DKs := fun _ Q _ => Q []
def kCons (dk dv : DE) (r : DKs) : DKs := fun ρ Q E => dk ρ (fun s => ∃ x : Str, s = .dat (.v (.str x)) ∧ dv ρ (fun t => ∃ d, t = .dat d ∧ r ρ (fun ps => Q ((.inr x, d) :: ps)) E) E) E
def mergeKD (kvs more : List (Key × Dt)) : List (Key × Dt) := more.foldl (fun acc kv => putKD acc kv.1 kv.2) kvs
def dDispK (r : DKs) : DE := fun ρ Q E => r ρ (fun ps => ps.length ≤ 15 ∧ Q (.dat (.dct (mergeKD [] ps)))) E
def dDisp0 : DE := fun _ Q _ => Q (.dat (.dct []))
def dKeyV (dd dk : DE) : DE := fun ρ Q E => dd ρ (fun s => ∃ kvs, s = .dat (.dct kvs) ∧ dk ρ (fun t => ∃ x d, t = .dat (.v (.str x)) ∧ atS kvs x = some d ∧ Q (.dat d)) E) E
def dKIn (neg : Bool) (dk dd : DE) : DE := fun ρ Q E => dk ρ (fun t => ∃ x, t = .dat (.v (.str x)) ∧ dd ρ (fun s => ∃ kvs, s = .dat (.dct kvs) ∧ Q (.dat (.v (.bl (xor neg (atS kvs x).isSome))))) E) E
section
variable {X : Cx} {W : WX} {K : PySem.W.Frag} {l0 : Addr} {F H : Hp} {pos : Pos}
theorem DenK.merge {K : PySem.W.Frag} {l0 : Addr} {F : Hp} : ∀ {more : List (Key × V)} {md : List (Key × Dt)} {xs : List (Key × V)} {kvs : List (Key × Dt)}, DenK K l0 F more md → DenK K l0 F xs kvs → DenK K l0 F (mergeK xs more) (mergeKD kvs md)
  | _, _, _, _, .nil, h => h
  | _, _, _, _, .cons (f := f) h t, h2 => by
    have z := DenK.merge t (DenK.put (k := f) h h2)
    exact z
theorem DenK.atN : ∀ {xs : List (Key × V)} {ds : List (Key × Dt)} {k : Str}, DenK K l0 F xs ds → (valV xs (.inr k : Key)).isSome = (atS ds k).isSome
  | _, _, _, .nil => rfl
  | _, _, k, .cons (f := .inl i) (x := y) (d := b) h t => by
    rw [valV_neg (by simp)]
    have z := DenK.atN (k := k) t
    exact z
  | _, _, k, .cons (f := .inr g) (x := y) (d := b) h t => by
    by_cases q : g = k
    · subst q
      simp [atS, valV]
    · simp only [atS, if_neg q]
      rw [valV_neg (by simpa using q)]
      have z := DenK.atN (k := k) t
      exact z
structure DPKX (X : Cx) (W : WX) (pos : Pos) (keys : List (Option Expr)) (values : List Expr) (trs : List (TE × TE)) (da : DKs) : Prop where
  pp : PPs X pos keys values trs
  sd : ∀ ρ Q E, da ρ Q E → ∀ l0 F H σ, Stt X.K l0 F H σ ρ → ∀ Qc : List (V × V) → Hp → Prop,
    (∀ (kvs : List (Key × V)) (ds : List (Key × Dt)) F' H', Go l0 F H F' H' → DenK X.K l0 F' kvs ds → Q ds → Qc (kvs.map fun p => (kV p.1, p.2)) H') → KX X.K W l0 F H σ E → tPairs trs σ H Qc
theorem dkx_nil : DPKX X W pos [] [] [] kNil := ⟨pps_nil, fun ρ Q E h l0 F H σ S Qc k _ => k [] [] F H (.refl S.bs) .nil h⟩
theorem dkx_cons {ke v : Expr} {keys : List (Option Expr)} {values : List Expr} {trs : List (TE × TE)} {tk tv : TE} {dk dv : DE} {dr : DKs} (hk : DEX X W ke tk dk) (hv : DEX X W v tv dv) (hr : DPKX X W pos keys values trs dr) :
    DPKX X W pos (some ke :: keys) (v :: values) ((tk, tv) :: trs) (kCons dk dv dr) :=
  ⟨pps_cons hk.1 hv.1 hr.1, fun ρ Q E h l0 F H σ S Qc k kx => by
    refine hk.2 ρ _ E h l0 F H σ S _ (fun x s F1 H1 g1 r1 q1 => ?_) kx
    obtain ⟨x0, e1, q1⟩ := q1
    subst e1
    have e0 : x = .str x0 := by
      cases (show Den X.K l0 F1 x (.v (.str x0)) from r1)
      rfl
    subst e0
    refine hv.2 ρ _ E q1 l0 F1 H1 σ (S.go g1) _ (fun y t F2 H2 g2 r2 q2 => ?_) (kx.go g1)
    obtain ⟨d, e2, q2⟩ := q2
    subst e2
    refine hr.2 ρ _ E q2 l0 F2 H2 σ ((S.go g1).go g2) _ (fun kvs ds F3 H3 g3 r3 q3 => ?_) ((kx.go g1).go g2)
    exact k ((.inr x0, y) :: kvs) ((.inr x0, d) :: ds) F3 H3 ((g1.trans g2).trans g3) (.cons (Den.mono g3.ex r2) r3) q3⟩
theorem de_dispK {keys : List (Option Expr)} {values : List Expr} {trs : List (TE × TE)} {dr : DKs} (h : DPKX X W pos keys values trs dr) (hall : keys.all (·.isSome) = true := by rfl) (hl : keys.length = values.length := by rfl)
    (h0 : keys ≠ [] := by simp) (h15 : keys.length ≤ 15 := by decide) : DEX X W (.Dict keys values pos) (tDisp trs) (dDispK dr) := by
  refine ⟨pe_disp h.1 hall hl h0 h15, fun ρ Q E q l0 F H σ S Qc k kx p hp => ?_⟩
  have g0 := Go.loose (p := p) S.bs (.dK []) hp
  have n0 : p ≠ l0 := fun e => S.bs.live (by rw [← e]; exact hp)
  have nF : F p = none := by
    cases e : F p with
    | none => rfl
    | some u =>
      have := S.bs.sub p u e
      rw [hp] at this
      cases this
  refine h.2 ρ _ E q l0 _ _ σ (S.go g0) _ (fun kvs ds F2 H2 g2 r2 q2 => ?_) (kx.go g0)
  obtain ⟨h15', q3⟩ := q2
  have h2 : H2 p = some (.dK []) := g2.keep _ _ n0 upd_same
  have f2 : F2 p = none := g2.stays nF upd_same
  refine ⟨h2, kvs, rfl, by rw [r2.length]; exact h15', ?_⟩
  have g3 := ((g0.trans g2).modNew (o := .dK (mergeK [] kvs)) hp f2 n0).frzNew (D := p) (o := .dK (mergeK [] kvs)) hp f2 n0 upd_same
  refine k (.ref p) (.dat (.dct (mergeKD [] ds))) _ _ g3 ?_ q3
  refine Den.dct upd_same (DenK.mono (F := F2) (fun a o h => ?_) (DenK.merge r2 .nil))
  rw [upd_ne (ne_of_none h f2)]
  exact h
theorem de_disp0 : DEX X W (.Dict [] [] pos) tDNewK dDisp0 := ⟨pe_dnewK, fun ρ Q E q l0 F H σ S Qc k kx p hp => by
  have g := Go.fresh (p := p) S.bs (.dK []) hp
  exact k (.ref p) (.dat (.dct [])) _ _ g (Den.dct upd_same .nil) q⟩
theorem de_keyV {e i : Expr} {te ti : TE} {de di : DE} (hu : X.A.units + 64 < cLine) (he : DEX X W e te de) (hi : DEX X W i ti di) (hs : NoSl i := by exact fun _ _ => rfl) : DEX X W (.Subscript e i pos) (tDGet te ti) (dKeyV de di) := by
  refine ⟨pe_dget (by omega) he.1 hi.1 hs, fun ρ Q E q l0 F H σ S Qc kk kx => ?_⟩
  refine he.2 ρ _ E q l0 F H σ S _ (fun x s F1 H1 g1 r1 q1 => ?_) kx
  obtain ⟨kvs, e0, q1⟩ := q1
  subst e0
  refine hi.2 ρ _ E q1 l0 F1 H1 σ (S.go g1) _ (fun y t F2 H2 g2 r2 q2 => ?_) (kx.go g1)
  obtain ⟨x0, d, e2, e3, q3⟩ := q2
  subst e2
  have e0 : y = .str x0 := by
    cases (show Den X.K l0 F2 y (.v (.str x0)) from r2)
    rfl
  subst e0
  have r1 := Den.mono g2.ex (show Den X.K l0 F1 x (.dct kvs) from r1)
  cases r1 with
  | dct h r =>
    obtain ⟨v, e4, r4⟩ := r.at e3
    exact ⟨_, v, rfl, by rw [← e4]; exact DGet.k (k := .inr x0) (g2.bs.sub _ _ h), kk v (.dat d) _ _ (g1.trans g2) r4 q3⟩
theorem sn_kin {neg : Bool} {te ti : TE} {de di : DE} (se : SndE X.K W te de) (si : SndE X.K W ti di) : SndE X.K W (if neg then tDNotIn ti te else tDIn ti te) (dKIn neg di de) := fun ρ Q E q l0 F H σ S Qc kk kx => by
  have key : ∀ Qc : VK, (∀ (x : Str) (kvs : List (Key × Dt)) y F' H' (g : Go l0 F H F' H'), Den X.K l0 F' y (.dct kvs) → Q (.dat (.v (.bl (xor neg (atS kvs x).isSome)))) → ∃ a o, y = .ref a ∧ DGet H' a (.str x) o ∧ Qc (.bl (xor neg o.isSome)) H') → ti σ H fun y H1 => te σ H1 fun x H2 => ∃ a o, x = .ref a ∧ DGet H2 a y o ∧ Qc (.bl (xor neg o.isSome)) H2 := fun Qc h => by
    refine si ρ _ E q l0 F H σ S _ (fun x s F1 H1 g1 r1 q1 => ?_) kx
    obtain ⟨x0, e0, q1⟩ := q1
    subst e0
    have e0 : x = .str x0 := by
      cases (show Den X.K l0 F1 x (.v (.str x0)) from r1)
      rfl
    subst e0
    refine se ρ _ E q1 l0 F1 H1 σ (S.go g1) _ (fun y t F2 H2 g2 r2 q2 => ?_) (kx.go g1)
    obtain ⟨kvs, e2, q3⟩ := q2
    subst e2
    exact h x0 kvs y F2 H2 (g1.trans g2) r2 q3
  have z := key Qc fun x kvs y F' H' g r q => by
    cases r with
    | dct h r => exact ⟨_, _, rfl, DGet.k (k := .inr x) (g.bs.sub _ _ h), by rw [r.atN]; exact kk (.bl _) (.dat (.v (.bl _))) F' H' g (Den.v _) q⟩
  cases neg with
  | false => exact (by simpa [tDIn] using z)
  | true => exact (by simpa [tDNotIn] using z)
theorem de_kin {i e : Expr} {te ti : TE} {de di : DE} (hu : X.A.units + 64 < cLine) (hi : DEX X W i ti di) (he : DEX X W e te de) (hm : behindInMarks .In e = false := by first | rfl | with_unfolding_all rfl) : DEX X W (.Compare i [.In] [e] pos) (tDIn ti te) (dKIn false di de) :=
  ⟨pe_cmp (pc_din (by omega) hi.1 he.1) hm, sn_kin (neg := false) he.2 hi.2⟩
theorem de_knin {i e : Expr} {te ti : TE} {de di : DE} (hu : X.A.units + 64 < cLine) (hi : DEX X W i ti di) (he : DEX X W e te de) (hm : behindInMarks .NotIn e = false := by first | rfl | with_unfolding_all rfl) : DEX X W (.Compare i [.NotIn] [e] pos) (tDNotIn ti te) (dKIn true di de) :=
  ⟨pe_cmp (pc_dnotin (by omega) hi.1 he.1) hm, sn_kin (neg := true) he.2 hi.2⟩
theorem dt_kin {i e : Expr} {te ti : TE} {de di : DE} (hu : X.A.units + 64 < cLine) (hi : DEX X W i ti di) (he : DEX X W e te de) (hm : behindInMarks .In e = false := by first | rfl | with_unfolding_all rfl) : DTX X W (.Compare i [.In] [e] pos) (tTest (tDIn ti te)) (dTest (dKIn false di de)) :=
  ⟨pt_cmp (pc_din (by omega) hi.1 he.1) hm, snd_test (sn_kin (neg := false) he.2 hi.2)⟩
theorem dt_knin {i e : Expr} {te ti : TE} {de di : DE} (hu : X.A.units + 64 < cLine) (hi : DEX X W i ti di) (he : DEX X W e te de) (hm : behindInMarks .NotIn e = false := by first | rfl | with_unfolding_all rfl) : DTX X W (.Compare i [.NotIn] [e] pos) (tTest (tDNotIn ti te)) (dTest (dKIn true di de)) :=
  ⟨pt_cmp (pc_dnotin (by omega) hi.1 he.1) hm, snd_test (sn_kin (neg := true) he.2 hi.2)⟩
end
/-! ### x.f(..), f a field -/
section
variable {X : Cx} {W : WX} {k : Nat} {C : Addr} {sd : Sd} {o e : Expr} {es : List Expr} {to : TE} {t : TA} {dob : DE} {da : DA} {m : Str} {pos apos : Pos}
def tCallFld (X : Cx) (C : Addr) (m : Str) (sp : Sp) (E : XK) (to : TE) (t : TA) : TE := fun σ H Q => to σ H fun x H1 => ∃ a0 C0 dx fs a, x = V.ref a0 ∧ H1 a0 = some (.ins C0 dx fs) ∧ Cls X.K C0 ∧ NoAttr X.K C0 m ∧ fs.lookup m = some (.ref a) ∧
  t σ H1 fun vs H2 => InsC X H2 a C ∧ sp (V.ref a :: vs) H2 Q E
def dCallF (cs : List Addr) (m : Str) (C : Addr) (sd : Sd) (dob : DE) (da : DA) : DE := fun ρ Q E => dob ρ (fun s => ∃ C0 gs hs, s = .dat (.obj C0 gs) ∧ C0 ∈ cs ∧ gs.lookup m = some (.obj C hs) ∧ da ρ (fun ss => plain ss fun ds => sd (.obj C hs :: ds) (fun d => Q (.dat d)) fun _ => False) E) E
theorem de_callFld {cs : List Addr} {pl : Sem Bool} (c : AtOk X.K cs m) (M : CallM X.prog X.w X.K X.mg X.base k C sd) (hr : Room k X.A) (ho : DEX X W o to dob) (ha : DAX X W (e :: es) t da)
    (he : starEach (e :: es) X.env = (false, eval e X.env) :: starEach es X.env := by rfl) (hpl : (backTo pos (starEach es X.env)).any (·.1) = false := by rfl)
    (ht : eval (.Call (.Attribute o m apos) (e :: es) [] pos) X.env = (do
      let ov ← eval o X.env
      standAt apos.atName
      let (f, first) ← holding [ov] (getMethod ov m pl)
      callWith pos f first (backTo pos (starEach (e :: es) X.env)) (backToKw pos (keywordEach [] X.env))) := by rfl) :
    DEX X W (.Call (.Attribute o m apos) (e :: es) [] pos) (tCallFld X C m (spOf X.K sd) (fun _ _ _ => False) to t) (dCallF cs m C sd dob da) := by
  obtain ⟨g, fd, ps, cg, F, b⟩ := M
  refine ⟨⟨fun pins s σ H Q I h => ?_⟩, fun ρ Q E q l0 F H σ S Qc kk kx => ?_⟩
  · refine PySem.W.methodCall_KW (pl := pl) (thn (ho.1.run pins s σ H _ I h) fun u s1 ⟨x, H1, I1, rx, a0, C0, dx, fs, a, ex, ea, c0, na, l, q⟩ => ?_) ht
    subst ex
    obtain rfl : u = Value.ref a0 := rx
    refine getmeth_fld I1 ea c0 na l fun u2 s2 I2 r2 => ?_
    obtain rfl : u2 = Value.ref a := r2
    refine callO_with (thn (ha.1.run pos pins s2 σ H1 _ I2 q) fun us s3 ⟨vs, H2, I3, r, hi, q2⟩ => ?_) he hpl
    obtain ⟨ox, od, J, hd⟩ := insC_at I3 hi
    exact ⟨⟨C, ox, od, J, hd⟩, run_callO cg (raw0 F b) hr noPass I3 hi r q2⟩
  · refine ho.2 ρ _ E q l0 F H σ S _ (fun y s F1 H1 g1 r1 q1 => ?_) kx
    obtain ⟨C0, gs, hs, e1, hm, hl, q2⟩ := q1
    subst e1
    cases (show Den X.K l0 F1 y (.obj C0 gs) from r1) with
    | obj h r =>
      obtain ⟨v, h2, h3⟩ := r.look hl
      obtain ⟨a, ey⟩ : ∃ a, v = V.ref a := by cases h3; exact ⟨_, rfl⟩
      subst ey
      refine ⟨_, C0, _, _, a, rfl, g1.bs.sub _ _ h, (c C0 hm).1, (c C0 hm).2, h2, ha.2 ρ _ E q2 l0 F1 H1 σ (S.go g1) _ (fun vs ss F2 H2 g2 r2 q3 => ?_) (kx.go g1)⟩
      obtain ⟨ds, e3, q4⟩ := plain_of q3
      subst e3
      have ro := Den.mono g2.ex h3
      refine ⟨?_, ?_⟩
      · cases ro with
        | obj h _ => exact .inr ⟨_, _, g2.bs.sub _ _ h⟩
      · exact ⟨l0, F2, _, _, _, g2.bs, .cons ro (dens_of r2), q4, fun v d F' H' g r q => kk v (.dat d) F' H' ((g1.trans g2).trans g) r q, fun _ _ _ _ _ _ _ z => z.elim⟩
end
end DW

set_option Elab.async false
set_option linter.all false
set_option maxRecDepth 100000
/-! DW, part 54: properties by the class of the instance. -/
namespace DW
open PySem PySem.Spec PyProof.Rows L2
def PrTb (P : Program) (w : World) (K : PySem.W.Frag) (mg : Str → Option Value) (base : Heap) (k : Nat) (f : Str) (tbl : List (Addr × Sd)) : Prop := ∀ r ∈ tbl, PrOb P w K mg base k f r.1 r.2
theorem PrTb.mono {P : Program} {w : World} {K : PySem.W.Frag} {mg : Str → Option Value} {base : Heap} {j k : Nat} {f : Str} {tbl : List (Addr × Sd)} (M : PrTb P w K mg base j f tbl) (h : j ≤ k) : PrTb P w K mg base k f tbl := fun r m => (M r m).mono h
def dPrT (tbl : List (Addr × Sd)) (de : DE) : DE := fun ρ Q E => de ρ (fun s => ∃ C gs sd, s = .dat (.obj C gs) ∧ (C, sd) ∈ tbl ∧ sd [.obj C gs] (fun z => Q (.dat z)) (fun _ => False)) E
def tPropT (X : Cx) (k : Nat) (f : Str) (te : TE) : TE := fun σ H Q => te σ H fun x H1 => ∃ a C dx fs sd, x = .ref a ∧ H1 a = some (.ins C dx fs) ∧ PrOb X.prog X.w X.K X.mg X.base k f C sd ∧ spOf X.K sd [.ref a] H1 Q (fun _ _ _ => False)
section
variable {X : Cx} {W : WX} {k : Nat} {e : Expr} {te : TE} {de : DE} {pos : Pos}
theorem de_prT {f : Str} {tbl : List (Addr × Sd)} (T : PrTb X.prog X.w X.K X.mg X.base k f tbl) (hr : Room (k + 1) X.A) (he : DEX X W e te de) (hb : attributeBase e f X.env (eval e X.env) = eval e X.env := by rfl) : DEX X W (.Attribute e f pos) (tPropT X k f te) (dPrT tbl de) := by
  refine ⟨⟨fun pins s σ H Q I h => ?_⟩, fun ρ Q E q l0 F H σ S Qc kk kx => ?_⟩
  · refine attr_of hb (thn (he.1.run pins s σ H _ I h) fun u s1 ⟨x, H1, I1, rx, a, C, dx, fs, sd, ex, ea, ⟨p, g, fd, ps, c, o, F, b⟩, q⟩ => ?_)
    subst ex
    obtain rfl : u = Value.ref a := rx
    exact getprop_ok I1 ea c o F hr b .nil (fun pins σ H s e s' I c => (noCX H s e s' c).elim) q
  · refine he.2 ρ _ E q l0 F H σ S _ (fun x s F1 H1 g1 r1 q1 => ?_) kx
    obtain ⟨C, gs, sd, ev, hm, q2⟩ := q1
    subst ev
    have r1 : Den X.K l0 F1 x (.obj C gs) := r1
    have r2 := r1
    cases r1 with
    | obj h r => exact ⟨_, C, _, _, sd, rfl, g1.bs.sub _ _ h, T _ hm, spOf_of g1.bs (.cons r2 .nil) q2 (fun v s F' H' g r q => kk v s F' H' (g1.trans g) r q)⟩
end
end DW

set_option Elab.async false
set_option linter.all false
set_option maxRecDepth 100000
/-! DW, part 55: `is True`, == of dicts of ints, max(.., default=..), two fors in a comprehension, a, b stored into attributes. -/
namespace DW
open PySem PySem.Spec PyProof.Rows L2
/-! ### is True -/
def dIsB : D2 := fun s t Q => ∃ a b : Bool, s = .dat (.v (.bl a)) ∧ t = .dat (.v (.bl b)) ∧ Q (.dat (.v (.bl (decide (a = b)))))
theorem sr_isB {K : PySem.W.Frag} : SndR K rIsB dIsB := fun x y s t Q h l0 F H b r1 r2 Qc k => by
  obtain ⟨i, j, e1, e2, q⟩ := h
  subst e1 e2
  cases r1
  cases r2
  exact ⟨i, j, rfl, rfl, k.here b q⟩
/-! ### dict != dict, the same ints -/
def dNeDct : D2 := fun s t Q => ∃ kvs : List (Key × Dt), s = .dat (.dct kvs) ∧ t = .dat (.dct kvs) ∧ (kvs.map (·.1)).Nodup ∧ (∀ p ∈ kvs, ∃ i : Int, p.2 = .v (.int i)) ∧ Q (.dat (.v (.bl false)))
theorem DenK.keys {K : PySem.W.Frag} {l0 : Addr} {F : Hp} : ∀ {xs : List (Key × V)} {kvs : List (Key × Dt)}, DenK K l0 F xs kvs → xs.map (·.1) = kvs.map (·.1)
  | _, _, .nil => rfl
  | _, _, .cons _ t => by
    rw [List.map_cons, List.map_cons, DenK.keys t]
theorem DenK.flat {K : PySem.W.Frag} {l0 : Addr} {F : Hp} : ∀ {xs : List (Key × V)} {kvs : List (Key × Dt)}, DenK K l0 F xs kvs → (∀ p ∈ kvs, ∃ i : Int, p.2 = .v (.int i)) → ∀ q ∈ xs, ∃ i : Int, q.2 = .int i
  | _, _, .nil, _ => fun q h => nomatch h
  | _, _, .cons h t, g => fun q m => by
    rcases List.mem_cons.mp m with e | m
    · subst e
      obtain ⟨i, e⟩ := g _ (.head _)
      cases e
      cases h
      exact ⟨i, rfl⟩
    · exact DenK.flat t (fun p hp => g p (.tail _ hp)) q m
theorem DenK.same {K : PySem.W.Frag} {l0 : Addr} {F : Hp} : ∀ {xs ys : List (Key × V)} {kvs : List (Key × Dt)}, DenK K l0 F xs kvs → DenK K l0 F ys kvs → (∀ p ∈ kvs, ∃ i : Int, p.2 = .v (.int i)) → xs = ys
  | _, _, _, .nil, .nil, _ => rfl
  | _, _, _, .cons h t, .cons h2 t2, g => by
    obtain ⟨i, e⟩ := g _ (.head _)
    cases e
    cases h
    cases h2
    rw [DenK.same t t2 fun p hp => g p (.tail _ hp)]
theorem valV_mem : ∀ {xs : List (Key × V)} {p : Key × V}, (xs.map (·.1)).Nodup → p ∈ xs → valV xs p.1 = some p.2
  | [], _, _, h => nomatch h
  | q :: r, p, nd, h => by
    rw [List.map_cons, List.nodup_cons] at nd
    rcases List.mem_cons.mp h with e | h
    · subst e
      simp [valV]
    · rw [valV_neg (fun e : q.1 = p.1 => nd.1 (by rw [e]; exact List.mem_map_of_mem h))]
      exact valV_mem nd.2 h
theorem sr_neDct {K : PySem.W.Frag} : SndR K rNeDA dNeDct := fun x y s t Q h l0 F H b r1 r2 Qc k => by
  obtain ⟨kvs, e1, e2, nd, fl, q⟩ := h
  subst e1 e2
  cases (show Den K l0 F x (.dct kvs) from r1) with
  | dct h1 r1 =>
    cases (show Den K l0 F y (.dct kvs) from r2) with
    | dct h2 r2 =>
      have e := DenK.same r1 r2 fl
      subst e
      refine ⟨_, _, _, _, rfl, rfl, b.sub _ _ h1, b.sub _ _ h2, rfl, fun p hp => ⟨valV_mem (by rw [r1.keys]; exact nd) hp, ?_⟩, k.here b q⟩
      obtain ⟨i, e⟩ := DenK.flat r1 fl p hp
      rw [e]
      rfl
end DW
/-! ### max(list, default=0) -/
namespace DW
open PySem PySem.W
open PySem.Sem (wp)
theorem max_def_args (a v : Value) : argsOk "max" ⟨[a], [(Str.ofString "default", v)]⟩ := by unfold argsOk; kernel_rfl
section
variable {prog : Program} {w : World} {A : Around} {R : Result → Shared → Prop} {I : Addr} {fp wr : List Addr} {n : Nat} {P : Nat → Value → Prop} {St : Nat → Heap → Prop} {dv : Value}
theorem mxd_loop (W : Walks prog w A.in1 I fp wr n P St) (bt : Nat → Nat → Bool) (hcmp : CmpOf prog w A.in1 .Gt P bt) (S : Addr) (hSf : S ∉ fp) :
    ∀ (k j : Nat) (s : Shared) (vb : Value) (c : Nat), n - (j + 1) = k → j + 1 ≤ n → St (j + 1) s.heap → P (argBest bt j) vb →
    s.heap.get? S = some { cls := .type "list", dict := none, data := .seq #[vb, vb] c, slots := #[] } →
    (∀ v h' tk, P (argBest bt (n - 1)) v → (∀ b o, b ∉ wr → b ≠ S → s.heap.get? b = some o → h'.get? b = some o) → R (.ok (.ret v)) { s with heap := h', toks := tk }) →
    codeAny (model prog w) A (.builtin "max.loop" ⟨[.ref I, .none, .ref S], [("default", dv)]⟩) R s := by
  have hSw : S ∉ wr := fun h => hSf (W.sub _ h)
  have hname : (toString "max" ++ toString ".loop" : String) = "max.loop" := by decide
  intro k
  induction k with
  | zero =>
    intro j s vb c hk hj hst hPb hS hR
    have hin : j + 1 = n := by omega
    refine codeAny_builtin PySem.F.entry_max_loop ?_
    rw [Around.under_plainId PySem.F.plain_max_loop _]
    show wpAny _ A.in1 (seqItems? (.ref S) >>= _) _ _ s
    refine wpAny_bind (wpAny_seqItems hS rfl ?_)
    show wpAny _ A.in1 (tryCatch (pyNext (.ref I)) _ >>= _) _ _ s
    refine wpAny_bind (wpAny_tryCatch (W.done s _ _ (hin ▸ hst) fun h' tk hk' => ?_))
    have hS' := hk' S _ hSw hS
    show wpAny _ A.in1 (updateSeq S (fun _ => #[]) >>= _) _ _ _
    refine wpAny_bind ?_
    refine wpAny_updateSeq hS' rfl (wpAny_bind (wpAny_letGo (wpAny_pure ?_)))
    refine hR vb _ tk (by rw [← hin]; exact hPb) fun b o hbw hbS e => (Heap.get?_update_other _ _ (Ne.symm hbS)).trans (hk' b o hbw e)
  | succ k ih =>
    intro j s vb c hk hj hst hPb hS hR
    have hlt : j + 1 < n := by omega
    refine codeAny_builtin PySem.F.entry_max_loop ?_
    rw [Around.under_plainId PySem.F.plain_max_loop _]
    show wpAny _ A.in1 (seqItems? (.ref S) >>= _) _ _ s
    refine wpAny_bind (wpAny_seqItems hS rfl ?_)
    show wpAny _ A.in1 (tryCatch (pyNext (.ref I)) _ >>= _) _ _ s
    refine wpAny_bind (wpAny_tryCatch (W.item (j + 1) s _ _ hlt hst fun v h' tk hP hst' hk' => ?_))
    have hS' := hk' S _ hSw hS
    show wpAny _ A.in1 (tryCatch (holding [v, v] (richCompare .Gt v vb >>= _)) _ >>= _) _ _ _
    refine wpAny_bind (wpAny_tryCatch (wpAny_holding (wpAny_bind (hcmp (j + 1) (argBest bt j) v vb _ _ _ hP hPb ?_))))
    refine wpAny_bind (wpAny_holding (wpAny_truthy_bool ?_))
    refine wpAny_bind (wpAny_letGo (wpAny_pure ?_))
    cases hb : bt (j + 1) (argBest bt j) with
    | true =>
      simp only [if_true]
      refine wpAny_bind ?_
      refine wpAny_updateSeq hS' rfl (wpAny_bind (wpAny_letGo ?_))
      rw [hname]
      refine wpAny_pure ⟨plainId_quiet PySem.F.plain_max_loop _, ih (j + 1) _ v _ (by omega) hlt (W.frame _ _ _ hst' fun b hbf o e => ?_) (by simp only [argBest, hb, if_true]; exact hP) (Heap.get?_update_self _ hS' rfl)
        fun v' h'' tk'' hP' hk'' => ?_⟩
      · exact (Heap.get?_update_other _ _ (fun h : S = b => hSf (by rw [h]; exact hbf))).trans e
      · exact hR v' h'' tk'' hP' fun b o hbw hbS e => hk'' b o hbw hbS ((Heap.get?_update_other _ _ (Ne.symm hbS)).trans (hk' b o hbw e))
    | false =>
      simp only [Bool.false_eq_true, if_false]
      refine wpAny_bind (wpAny_letGo ?_)
      rw [hname]
      refine wpAny_pure ⟨plainId_quiet PySem.F.plain_max_loop _, ih (j + 1) _ vb c (by omega) hlt hst' (by simp only [argBest, hb, Bool.false_eq_true, if_false]; exact hPb) hS' fun v' h'' tk'' hP' hk'' => ?_⟩
      exact hR v' h'' tk'' hP' fun b o hbw hbS e => hk'' b o hbw hbS (hk' b o hbw e)
theorem mxd_first (W : Walks prog w A.in1 I fp wr n P St) (bt : Nat → Nat → Bool) (hcmp : CmpOf prog w A.in1 .Gt P bt) (S : Addr) (hSf : S ∉ fp) {s : Shared} {c : Nat} (hst : St 0 s.heap)
    (hS : s.heap.get? S = some { cls := .type "list", dict := none, data := .seq #[] c, slots := #[] })
    (h0 : n = 0 → ∀ h' tk, (∀ b o, b ∉ wr → b ≠ S → s.heap.get? b = some o → h'.get? b = some o) → R (.ok (.ret dv)) { s with heap := h', toks := tk })
    (hR : 0 < n → ∀ v h' tk, P (argBest bt (n - 1)) v → (∀ b o, b ∉ wr → b ≠ S → s.heap.get? b = some o → h'.get? b = some o) → R (.ok (.ret v)) { s with heap := h', toks := tk }) :
    codeAny (model prog w) A (.builtin "max.loop" ⟨[.ref I, .none, .ref S], [("default", dv)]⟩) R s := by
  have hSw : S ∉ wr := fun h => hSf (W.sub _ h)
  have hname : (toString "max" ++ toString ".loop" : String) = "max.loop" := by decide
  refine codeAny_builtin PySem.F.entry_max_loop ?_
  rw [Around.under_plainId PySem.F.plain_max_loop _]
  show wpAny _ A.in1 (seqItems? (.ref S) >>= _) _ _ s
  refine wpAny_bind (wpAny_seqItems hS rfl ?_)
  show wpAny _ A.in1 (tryCatch (pyNext (.ref I)) _ >>= _) _ _ s
  rcases Nat.eq_zero_or_pos n with hz | hn
  · refine wpAny_bind (wpAny_tryCatch (W.done s _ _ (hz ▸ hst) fun h' tk hk' => ?_))
    refine wpAny_bind (wpAny_rule (wpAny_pure ?_))
    exact h0 hz h' tk fun b o hbw hbS e => hk' b o hbw e
  · refine wpAny_bind (wpAny_tryCatch (W.item 0 s _ _ hn hst fun v h' tk hP hst' hk' => ?_))
    have hS' := hk' S _ hSw hS
    show wpAny _ A.in1 (updateSeq S (fun _ => #[v, v]) >>= _) _ _ _
    refine wpAny_bind ?_
    refine wpAny_updateSeq hS' rfl ?_
    rw [hname]
    refine wpAny_pure ⟨plainId_quiet PySem.F.plain_max_loop _, mxd_loop W bt hcmp S hSf _ 0 _ v _ rfl hn (W.frame _ _ _ hst' fun b hbf o e => ?_) hP (Heap.get?_update_self _ hS' rfl) fun v' h'' tk'' hP' hk'' => ?_⟩
    · exact (Heap.get?_update_other _ _ (fun h : S = b => hSf (by rw [h]; exact hbf))).trans e
    · exact hR hn v' h'' tk'' hP' fun b o hbw hbS e => hk'' b o hbw hbS ((Heap.get?_update_other _ _ (Ne.symm hbS)).trans (hk' b o hbw e))
end
section
variable {prog : Program} {w : World} {A : Around} {E : Value → Shared → Prop} {s : Shared} {dv : Value}
theorem call_mxd {x : Value} {Q : Value → Shared → Prop}
    (h : wpAny (model prog w) A.in1 (pyIter x) (fun it s₂ => ∃ I fp wr n P St bt, it = .ref I ∧ Walks prog w A.in1 I fp wr n P St ∧ St 0 s₂.heap ∧ (∀ b ∈ fp, b < s₂.heap.objs.size) ∧ CmpOf prog w A.in1 .Gt P bt ∧
      (n = 0 → ∀ h' tk, (∀ b o, b ∉ wr → s₂.heap.get? b = some o → h'.get? b = some o) → Q dv { s₂ with heap := h', toks := tk }) ∧
      (0 < n → ∀ v h' tk, P (argBest bt (n - 1)) v → (∀ b o, b ∉ wr → s₂.heap.get? b = some o → h'.get? b = some o) → Q v { s₂ with heap := h', toks := tk })) E s) :
    wpAny (model prog w) A (call (.builtin "max") [x] [(Str.ofString "default", dv)]) Q E s := by
  have hname : (toString "max" ++ toString ".loop" : String) = "max.loop" := by decide
  refine PyProof.Rows.kmk_tree PySem.F.kind_max PySem.F.plain_max PySem.F.entry_max (max_def_args _ _) ?_
  show wpAny _ A.in1 (Builtin.Builtins.bindParams "max" ["key", "default"] 0 ⟨[], [(Str.ofString "default", dv)]⟩ >>= _) _ _ s
  refine wpAny_bind (wpAny_of_eq (show Builtin.Builtins.bindParams "max" ["key", "default"] 0 ⟨[], [(Str.ofString "default", dv)]⟩ = pure [none, some dv] from rfl) ?_)
  refine wpAny_bind (wpAny_pure ?_)
  refine wpAny_bind (wpAny_mono h (fun it s₂ h₂ => ?_) fun _ _ e => e)
  obtain ⟨I, fp, wr, n, P, St, bt, rfl, W, hst, hfp, hcmp, h0, hQ⟩ := h₂
  refine wpAny_bind (wpAny_newObj_type ?_)
  have hSf : s₂.heap.objs.size ∉ fp := fun hm => Nat.lt_irrefl _ (hfp _ hm)
  rw [hname]
  refine wpAny_pure ⟨plainId_quiet PySem.F.plain_max_loop _, mxd_first W bt hcmp s₂.heap.objs.size hSf (W.frame _ _ _ hst fun b _ o e => Heap.get?_push_of_some _ e) (Heap.get?_push_size _ rfl) (fun hz h' tk hk => ?_) fun hn v h' tk hP hk => ?_⟩
  · exact h0 hz h' tk fun b o hbw e => hk b o hbw (Nat.ne_of_lt (Heap.lt_size e)) (Heap.get?_push_of_some _ e)
  · exact hQ hn v h' tk hP fun b o hbw e => hk b o hbw (Nat.ne_of_lt (Heap.lt_size e)) (Heap.get?_push_of_some _ e)
theorem mxd_ints {xs : Array (Int × Tok)} {l : Addr} {Q : Value → Shared → Prop} (hh : A.handled = none) (hl : s.heap.IsList l (intItems xs))
    (h0 : xs.size = 0 → ∀ h' tk, (∀ b o, s.heap.get? b = some o → h'.get? b = some o) → Q dv { s with heap := h', toks := tk })
    (h : 0 < xs.size → ∀ v h' tk, (intItems xs)[argBest (fun i j => decide (numAt xs i > numAt xs j)) (xs.size - 1)]? = some v → (∀ b o, s.heap.get? b = some o → h'.get? b = some o) → Q v { s with heap := h', toks := tk }) :
    wpAny (model prog w) A (call (.builtin "max") [.ref l] [(Str.ofString "default", dv)]) Q E s := by
  refine call_mxd (iter_intList hl fun s₂ e st hfp hlI => ?_)
  subst e
  have hs : (intItems xs).size = xs.size := by simp [intItems]
  refine ⟨_, _, _, _, _, _, _, rfl, Walks.list (A := A.in1) hh _ l hlI (intItems xs), st, hfp, CmpOf.ints_gt (numAt xs) (fun _ _ => intItems_at), fun hz h' tk hk => ?_, fun hn v h' tk hP hk => ?_⟩
  · exact h0 (by rw [← hs]; exact hz) h' tk (old_kept hk)
  · exact h (by rw [← hs]; exact hn) v h' tk (by simpa [intItems] using hP) (old_kept hk)
end
end DW
namespace DW
open PySem PySem.Spec PyProof.Rows L2
def rMaxDef (K : PySem.W.Frag) : List V → List V → Hp → VK → Prop := fun vs zs H Q => ∃ (a : Addr) (ns : List Int) (d : Int), vs = [V.ref a] ∧ zs = [V.int d] ∧ SqL K H a (ns.map V.int) ∧ (ns = [] → Q (.int d) H) ∧ (ns ≠ [] → ∀ m, m ∈ ns → (∀ y, y ∈ ns → y ≤ m) → Q (.int m) H)
theorem cr_maxDef {X : Cx} (hc : X.calm = true) : CallRK X (.builtin "max") [Str.ofString "default"] (rMaxDef X.K) := by
  intro pins s σ H vs zs us ws Q I r rz h
  obtain ⟨a, ns, d, rfl, rfl, hs, h0, h1⟩ := h
  obtain ⟨its, rv, hl, _⟩ := I.list hs
  rw [Vals.ref1 r]
  obtain ⟨wv, rfl, t, rfl⟩ : ∃ wv, ws = [wv] ∧ ∃ t, wv = Value.int d t := by
    cases rz with
    | cons hz tz =>
      cases tz
      obtain ⟨t, e⟩ := (show ∃ t, _ = Value.int d t from hz)
      exact ⟨_, rfl, t, e⟩
  have hi := rv.ints
  obtain ⟨xs, e⟩ := hi.allInts.items
  have hn : numsOf (intItems xs).toList = ns := by rw [← e]; exact hi.numsOf
  rw [nums_intItems] at hn
  subst hn
  have hl2 := hl.isList
  rw [e] at hl2
  show wpAny _ _ (call (.builtin "max") [.ref a] [(Str.ofString "default", .int d t)]) _ _ _
  refine mxd_ints (I.ok.hd hc) hl2 (fun hz h' tk hk => ?_) fun hz v h' tk hv hk => ?_
  · exact ⟨.int d, H, I.kept hk, ⟨_, rfl⟩, h0 (by
      have : xs = #[] := Array.eq_empty_of_size_eq_zero hz
      rw [this]
      rfl)⟩
  · obtain ⟨t', rfl⟩ := intItems_at hv
    obtain ⟨g1, g2⟩ := argBest_gt (numAt xs) (xs.size - 1)
    refine ⟨.int _, H, I.kept hk, ⟨_, rfl⟩, h1 (fun z => by have := congrArg List.length z; rw [List.length_map, Array.length_toList, List.length_nil] at this; omega) _ ?_ fun y hy => ?_⟩
    · rw [numAt_eq]; exact PySem.getD_mem (by rw [List.length_map, Array.length_toList]; omega)
    · obtain ⟨j, hj, rfl⟩ := mem_getD hy
      rw [List.length_map, Array.length_toList] at hj
      rw [← numAt_eq]; exact g2 j (by omega)
def dMaxDef (da dk : DA) : DE := fun ρ Q E => da ρ (fun ss => ∃ ns : List Int, ss = [.dat (.lst (ns.map Dt.int))] ∧ dk ρ (fun zs => ∃ d : Int, zs = [.dat (.v (.int d))] ∧ (ns = [] → Q (.dat (.v (.int d)))) ∧ (ns ≠ [] → ∀ m, m ∈ ns → (∀ y, y ∈ ns → y ≤ m) → Q (.dat (.v (.int m))))) E) E
theorem de_maxDef {X : Cx} {W : WX} {e : Expr} {es : List Expr} {kws : List Keyword} {t tk : TA} {da dk : DA} {p pos : Pos} {x : Str} (hc : X.calm = true) (hg : Gl X x) (hm : X.mg x = none) (hv : bootBuiltins x = some (.builtin "max")) (ha : DAX X W (e :: es) t da) (hk : DKX X W kws tk dk) (hn : x ≠ "__name__" := by decide) (hdb : (x == ("__debug__" : Str)) = false := by decide)
    (he : backTo pos (starEach (e :: es) X.env) = (false, eval e X.env) :: backTo pos (starEach es X.env) := by rfl) (hpl : (backTo pos (starEach (e :: es) X.env)).any (·.1) = false := by rfl)
    (hall : (backToKw pos (keywordEach kws X.env)).all (·.1.isSome) = true := by rfl) (hnone : (backToKw pos (keywordEach kws X.env)).any (·.1.isNone) = false := by rfl) (hks : (backToKw pos (keywordEach kws X.env)).filterMap (·.1) = [Str.ofString "default"] := by rfl) :
    DEX X W (.Call (.Name x p) (e :: es) kws pos) (tCKw (rMaxDef X.K) t tk) (dMaxDef da dk) := by
  refine ⟨pe_callBK (cr_maxDef hc) hg hm hv ha.1 hk.1 hn hdb he hpl hall hnone hks, fun ρ Q E q l0 F H σ S Qc kk kx => ?_⟩
  refine ha.2 ρ _ E q l0 F H σ S _ (fun vs ss F1 H1 g1 r1 q1 => ?_) kx
  obtain ⟨ns, e1, q1⟩ := q1
  subst e1
  refine hk.2 ρ _ E q1 l0 F1 H1 σ (S.go g1) _ (fun zs ts F2 H2 g2 r2 q2 => ?_) (kx.go g1)
  obtain ⟨d, e2, q2, q3⟩ := q2
  subst e2
  obtain ⟨⟩ | ⟨a1, ⟨⟩⟩ := r1
  obtain ⟨⟩ | ⟨a2, ⟨⟩⟩ := r2
  cases a2
  obtain ⟨a, xs, ev, z1, z2⟩ := (a1.go g2).list g2.bs (.inl rfl)
  subst ev
  rw [z2.ints] at z1
  exact ⟨a, ns, d, rfl, rfl, z1, fun e => kk (.int d) (.dat (.v (.int d))) F2 H2 (g1.trans g2) (Den.v _) (q2 e), fun e m h1 h2 => kk (.int m) (.dat (.v (.int m))) F2 H2 (g1.trans g2) (Den.v _) (q3 e m h1 h2)⟩
/-! ### two fors in a comprehension -/
section
variable {K : PySem.W.Frag} {W : WX} {l0 : Addr} {F H F' H' : Hp} {σ : L2.St} {ρ : En}
theorem Stt.goI {x : Addr} {xs : List V} (S : Stt K l0 F H σ ρ) (g : GoI l0 x F H F' H') (hx : H x = some (.lst xs)) (n : ¬ Ow σ ρ x) : Stt K l0 F' H' σ ρ := by
  have stay : ∀ {l : Addr} {o : HO}, F l = none → H l = some o → l ≠ x → F' l = none := fun {l o} h1 h2 h3 => by
    cases e : F' l with
    | none => rfl
    | some u =>
      rcases g.new l h1 (by rw [e]; exact fun z => nomatch z) with z | z
      · rw [h2] at z
        cases z
      · exact absurd z h3
  refine ⟨g.bs, S.len, fun i s h => (S.sl i s h).imp id fun ⟨v, h1, h2⟩ => ⟨v, h1, ?_⟩, S.ap⟩
  cases s with
  | emp => exact h2
  | dat d => exact Den.mono g.ex h2
  | own ds =>
    obtain ⟨l, ys, e, z1, z2, z3, z4⟩ := h2
    subst e
    have ne : l ≠ x := fun e => n ⟨i, _, h, rfl, by rw [← e]; exact h1⟩
    exact ⟨l, ys, rfl, stay z1 z3 ne, z2, g.keep _ _ z2 ne z3, Dens.mono g.ex z4⟩
  | oob p0 C fs =>
    obtain ⟨a, dx, gs, e, z1, z2, z3, z4, e1, e2, y1, y2, y3⟩ := h2
    subst e
    have ne : a ≠ x := fun e => n ⟨i, _, h, rfl, by rw [← e]; exact h1⟩
    have nd : dx ≠ x := fun e => by rw [e, hx] at y3; cases y3
    exact ⟨a, dx, gs, rfl, stay z1 z3 ne, z2, g.keep _ _ z2 ne z3, DenF.mono g.ex z4, e1, e2, stay y1 y3 nd, y2, g.keep _ _ y2 nd y3⟩
  | odc kvs =>
    obtain ⟨l, ys, e, z1, z2, z3, z4⟩ := h2
    subst e
    have ne : l ≠ x := fun e => n ⟨i, _, h, rfl, by rw [← e]; exact h1⟩
    exact ⟨l, ys, rfl, stay z1 z3 ne, z2, g.keep _ _ z2 ne z3, DenK.mono g.ex z4⟩
theorem GoI.refl {x : Addr} (b : Base l0 F H) : GoI l0 x F H F H := ⟨b, fun _ _ h => h, fun _ h1 h2 => absurd h1 h2, fun _ _ _ _ h => h⟩
theorem GoI.trans {x : Addr} {F1 H1 F2 H2 : Hp} {o : HO} (hx : F1 x = none) (g : GoI l0 x F H F1 H1) (k : Go l0 F1 H1 F2 H2) : GoI l0 x F H F2 H2 where
  bs := k.bs
  ex := fun a o h => k.ex a o (g.ex a o h)
  new := fun a h1 h2 => by
    by_cases q : F1 a = none
    · have z := k.new a q h2
      cases e : H a with
      | none => exact .inl rfl
      | some o =>
        by_cases w : a = l0
        · subst w
          exact absurd z g.bs.live
        · by_cases w2 : a = x
          · exact .inr w2
          · rw [g.keep a o w w2 e] at z
            cases z
    · exact g.new a h1 q
  keep := fun a o n1 n2 h => k.keep a o n1 (g.keep a o n1 n2 h)
theorem GoI.mod {x : Addr} {o : HO} (g : GoI l0 x F H F' H') (hF : F' x = none) (n0 : x ≠ l0) : GoI l0 x F H F' (upd H' x o) := by
  refine ⟨⟨fun a u e => ?_, g.bs.nf, ?_⟩, g.ex, g.new, fun a u n1 n2 e => ?_⟩
  · rw [upd_ne (ne_of_none e hF)]
    exact g.bs.sub a u e
  · obtain ⟨ns, h1, h2⟩ := g.bs.dr
    exact ⟨ns, by rw [upd_ne n0.symm]; exact h1, h2⟩
  · rw [upd_ne n2]
    exact g.keep a u n1 n2 e
end
/-- the inner turns -/
def LcIn (g : DG) (t : DTt) (e : DE) (ρ : En) (ds : List Dt) (acc0 : List Dt) (Q : List Dt → Prop) : Prop := ∃ P : Nat → List Dt → Prop, P 0 acc0 ∧ (∀ (i : Nat) (x : Dt) (acc : List Dt), ds[i]? = some x → P i acc → g (.dat x) ρ fun ρ2 => t ρ2 (fun b => if b = true then e ρ2 (datS fun d => acc.length ≤ 100000 ∧ P (i + 1) (acc ++ [d])) fun _ => False else P (i + 1) acc) fun _ => False) ∧ ∀ acc, P ds.length acc → Q acc
def LcI2 (g : DG) (t : DTt) (it1 : DI) (g1 : DG) (t1 : DTt) (e : DE) (vs1 : List Nat) (ρ : En) (ds : List Dt) (Q : List Dt → Prop) : Prop := ∃ P : Nat → List Dt → Prop, P 0 [] ∧ (∀ (i : Nat) (x : Dt) (acc : List Dt), ds[i]? = some x → P i acc → g (.dat x) ρ fun ρ2 => t ρ2 (fun b => if b = true then it1 ρ2 (fun ds1 => LcIn g1 t1 e (wipeD ρ2 vs1) ds1 acc (P (i + 1))) (fun _ => False) else P (i + 1) acc) fun _ => False) ∧ ∀ acc, P ds.length acc → Q acc
def dLc2 (it : DI) (g : DG) (t : DTt) (it1 : DI) (g1 : DG) (t1 : DTt) (e : DE) (vs vs1 : List Nat) : DE := fun ρ Q E => it ρ (fun ds => LcI2 g t it1 g1 t1 e vs1 (wipeD ρ vs) ds fun rs => Q (.dat (.lst rs))) E
theorem snd_lc2 {K : PySem.W.Frag} {W : WX} {wi wi1 : TI} {g g1 : TG} {tt tt1 : TT} {te : TE} {di di1 : DI} {dg dg1 : DG} {dt dt1 : DTt} {de : DE} {ts ts1 vs vs1 : List Nat} (hv : ∀ j ∈ ts, j ∈ vs) (hv1 : ∀ j ∈ ts1, j ∈ vs1) (si : SndI K W wi di) (sg : SndG K ts g dg) (st : SndT K W0 tt dt)
    (si1 : SndI K W0 wi1 di1) (sg1 : SndG K ts1 g1 dg1) (st1 : SndT K W0 tt1 dt1) (se : SndE K W0 te de) :
    SndE K W (tLc2 wi g tt wi1 g1 tt1 te vs vs1) (dLc2 di dg dt di1 dg1 dt1 de vs vs1) := fun ρ Q E h l0 F H σ S Qc k kx => by
  refine si ρ _ _ h l0 F H σ S _ (fun J ds F1 H1 g1' wl q1 => ?_) kx
  intro D hD
  have n0 : D ≠ l0 := fun e => g1'.bs.live (by rw [← e]; exact hD)
  have FD : F1 D = none := by
    cases e : F1 D with
    | none => rfl
    | some u =>
      rw [g1'.bs.sub D u e] at hD
      cases hD
  have S1 := S.go g1'
  have noX : ∀ {F H σ}, KX K W0 l0 F H σ fun _ => False := fun _ _ _ _ _ _ _ z => z.elim
  obtain ⟨P, q0, qt, qe⟩ := q1
  refine ⟨fun i m H' => m = ds.length - i ∧ i ≤ ds.length ∧ ∃ F' acc xs, Go l0 F1 H1 F' H' ∧ F' D = none ∧ H' D = some (.lst xs) ∧ Dens K l0 F' xs acc ∧ P i acc, ⟨ds.length, by simp, Nat.zero_le _, F1, [], [], Go.loose g1'.bs (.lst []) hD, FD, upd_same, .nil, q0⟩, ?_⟩
  rintro i m H2 ⟨rfl, hi, F2, acc, xs, g2, hF2, hD2, r2, q2⟩
  by_cases hlt : i < ds.length
  · refine .inr ⟨wl.go i F2 H2 g2.ex g2.bs hlt, fun H' => ∃ F' acc xs, Go l0 F1 H1 F' H' ∧ F' D = none ∧ H' D = some (.lst xs) ∧ Dens K l0 F' xs acc ∧ P (i + 1) acc, fun H' z => ⟨ds.length - (i + 1), by omega, rfl, hlt, z⟩, fun x H3 y => ?_⟩
    obtain ⟨F3, d, g3, hd, r3⟩ := wl.yld i F2 H2 x H3 g2.ex g2.bs hlt y
    have q2 := qt i d acc hd q2
    have g13 := g2.trans g3
    have Sw := (S1.go g13).wipe vs
    refine sg (.dat d) _ _ q2 l0 F3 H3 _ x Sw r3 _ fun F4 H4 σ4 ρ4 g4 w4 S4 z4 q4 => ?_
    refine ⟨(z4 vs hv).trans wipe_twice, ?_⟩
    refine st ρ4 _ _ q4 l0 F4 H4 σ4 S4 _ (fun b F5 H5 g5 q5 => ?_) noX
    have g25 := (g3.trans g4).trans g5
    have g15 := g2.trans g25
    have hF5 := g25.stays hF2 hD2
    have hD5 := g25.keep D _ n0 hD2
    have r5 := Dens.mono g25.ex r2
    cases b with
    | false =>
      rw [if_neg Bool.false_ne_true] at q5 ⊢
      exact ⟨F5, acc, xs, g15, hF5, hD5, r5, q5⟩
    | true =>
      rw [if_pos rfl] at q5 ⊢
      have S5 := S4.go g5
      -- the accumulator is no slot's own
      have nOw : ¬ Ow σ4 ρ4 D := fun z => by
        rcases w4 D z with z | z
        · obtain ⟨j, s, z1, z2, z3⟩ := z
          rcases (S1.wipe vs).sl j s z1 with e | ⟨v, e1, e2⟩
          · subst e
            cases z2
          · rw [z3] at e1
            cases e1
            cases s with
            | emp => cases z2
            | dat d => cases z2
            | own ds' =>
              obtain ⟨l, ys, e', _, _, h3, _⟩ := e2
              cases e'
              rw [hD] at h3
              cases h3
            | oob p0 C fs =>
              obtain ⟨l, dx, gs, e', _, _, h3, _⟩ := e2
              cases e'
              rw [hD] at h3
              cases h3
            | odc kvs =>
              obtain ⟨l, ys, e', _, _, h3, _⟩ := e2
              cases e'
              rw [hD] at h3
              cases h3
        · have := g3.keep D _ n0 hD2
          rw [this] at z
          cases z
      refine si1 ρ4 _ _ q5 l0 F5 H5 σ4 S5 _ (fun J1 ds1 F6 H6 g6 wl1 q6 => ?_) noX
      have S6 := S5.go g6
      have hF6 := g6.stays hF5 hD5
      have hD6 := g6.keep D _ n0 hD5
      have r6 := Dens.mono g6.ex r5
      have g16 := g15.trans g6
      obtain ⟨P1, p0, pt, pe⟩ := q6
      refine ⟨fun j m H' => m = ds1.length - j ∧ j ≤ ds1.length ∧ ∃ F' acc xs, Go l0 F1 H1 F' H' ∧ GoI l0 D F6 H6 F' H' ∧ F' D = none ∧ H' D = some (.lst xs) ∧ Dens K l0 F' xs acc ∧ P1 j acc, ⟨ds1.length, by simp, Nat.zero_le _, F6, acc, xs, g16, .refl g6.bs, hF6, hD6, r6, p0⟩, ?_⟩
      rintro j m H7 ⟨rfl, hj, F7, acc7, xs7, g17, gi7, hF7, hD7, r7, q7⟩
      by_cases hlt1 : j < ds1.length
      · refine .inr ⟨wl1.go j F7 H7 gi7.ex gi7.bs hlt1, fun H' => ∃ F' acc xs, Go l0 F1 H1 F' H' ∧ GoI l0 D F6 H6 F' H' ∧ F' D = none ∧ H' D = some (.lst xs) ∧ Dens K l0 F' xs acc ∧ P1 (j + 1) acc, fun H' z => ⟨ds1.length - (j + 1), by omega, rfl, hlt1, z⟩, fun y H8 yy => ?_⟩
        obtain ⟨F8, d8, g8, hd8, r8⟩ := wl1.yld j F7 H7 y H8 gi7.ex gi7.bs hlt1 yy
        have q7 := pt j d8 acc7 hd8 q7
        have gi8 := gi7.trans (o := .lst []) hF7 g8
        have S8 := (S6.goI gi8 hD6 nOw).wipe vs1
        refine sg1 (.dat d8) _ _ q7 l0 F8 H8 _ y S8 r8 _ fun F9 H9 σ9 ρ9 g9 w9 S9 z9 q9 => ?_
        refine ⟨(z9 vs1 hv1).trans wipe_twice, ?_⟩
        refine st1 ρ9 _ _ q9 l0 F9 H9 σ9 S9 _ (fun b FA HA gA qA => ?_) noX
        have g7A := (g8.trans g9).trans gA
        have hFA := g7A.stays hF7 hD7
        have hDA := g7A.keep D _ n0 hD7
        have rA := Dens.mono g7A.ex r7
        cases b with
        | true =>
          rw [if_pos rfl] at qA ⊢
          refine se ρ9 _ _ qA l0 FA HA σ9 (S9.go gA) _ (fun v s FB HB gB rB qB => ?_) noX
          obtain ⟨dB, e, z, q⟩ := datS_of qB
          subst e
          have hFB := gB.stays hFA hDA
          have hDB := gB.keep D _ n0 hDA
          have g7B := g7A.trans gB
          exact ⟨xs7, hDB, by rw [rA.length]; exact Nat.lt_of_le_of_lt z (by decide), FB, _, _, (g17.trans g7B).modNew hD hFB n0, (gi7.trans (o := .lst []) hF7 g7B).mod hFB n0, hFB, upd_same, (Dens.mono gB.ex rA).append (Dens.one rB), q⟩
        | false =>
          rw [if_neg Bool.false_ne_true] at qA ⊢
          exact ⟨FA, acc7, xs7, g17.trans g7A, gi7.trans (o := .lst []) hF7 g7A, hFA, hDA, rA, qA⟩
      · have e : j = ds1.length := by omega
        subst e
        have q7 := pe acc7 q7
        exact .inl ⟨wl1.stop F7 H7 gi7.ex gi7.bs, F7, acc7, xs7, g17, hF7, hD7, r7, q7⟩
  · have e : i = ds.length := by omega
    subst e
    have q2 := qe acc q2
    refine .inl ⟨wl.stop F2 H2 g2.ex g2.bs, ?_⟩
    have g := g2.frzNew hD hF2 n0 hD2
    exact k (.ref D) (.dat (.lst acc)) _ _ (g1'.trans g) (Den.lst (SqL.of upd_same) (Dens.mono (fun a u e => by rw [upd_ne (ne_of_none e hF2)]; exact e) r2)) q2
section
variable {X : Cx} {W : WX} {tg tg1 : Expr} {de : DE} {pos : Pos}
theorem de_lc2 {elt iter iter1 : Expr} {ifs ifs1 : List Expr} {scope : Scope} {own : List (Str × Nat)} {vs1 : List Nat} {wi : TI} {g g1 : TG} {wi1 : Shared → Hp → Addr → List (Str × Addr) → List Addr → TI} {tt tt1 : Shared → Hp → Addr → List (Str × Addr) → List Addr → TT} {te : Shared → Hp → Addr → List (Str × Addr) → List Addr → TE} {di di1 : DI} {dg dg1 : DG} {dt dt1 : DTt} {ns ns1 : List Nat} (hc : X.calm = true) (hN : X.N.Nodup) (hi : DIX X W tg iter wi di) (ok : BlkOk X.N X.env.scope scope own)
    (hg : ∀ (s : Shared) (H : Hp) (C : Addr) (cl : List (Str × Addr)) (fp : List Addr), DGX (X.blk s H scope (compEnvC scope cl C X.env) fp) tg ns g dg) (ht : ∀ (s : Shared) (H : Hp) (C : Addr) (cl : List (Str × Addr)) (fp : List Addr), DTsX (X.blk s H scope (compEnvC scope cl C X.env) fp) W0 ifs (tt s H C cl fp) dt)
    (hi1 : ∀ (s : Shared) (H : Hp) (C : Addr) (cl : List (Str × Addr)) (fp : List Addr), DIX (X.blk s H scope (compEnvC scope cl C X.env) fp) W0 tg1 iter1 (wi1 s H C cl fp) di1)
    (hg1 : ∀ (s : Shared) (H : Hp) (C : Addr) (cl : List (Str × Addr)) (fp : List Addr), DGX (X.blk s H scope (compEnvC scope cl C X.env) fp) tg1 ns1 g1 dg1) (ht1 : ∀ (s : Shared) (H : Hp) (C : Addr) (cl : List (Str × Addr)) (fp : List Addr), DTsX (X.blk s H scope (compEnvC scope cl C X.env) fp) W0 ifs1 (tt1 s H C cl fp) dt1)
    (he : ∀ (s : Shared) (H : Hp) (C : Addr) (cl : List (Str × Addr)) (fp : List Addr), DEX (X.blk s H scope (compEnvC scope cl C X.env) fp) W0 elt (te s H C cl fp) de) (ett : ∀ (s : Shared) (H : Hp) (C : Addr) (cl : List (Str × Addr)) (fp : List Addr), tt s H C cl fp = tt X.s_0 X.H_0 0 [] [] := by intros; rfl) (ett1 : ∀ (s : Shared) (H : Hp) (C : Addr) (cl : List (Str × Addr)) (fp : List Addr), tt1 s H C cl fp = tt1 X.s_0 X.H_0 0 [] [] := by intros; rfl) (ewi1 : ∀ (s : Shared) (H : Hp) (C : Addr) (cl : List (Str × Addr)) (fp : List Addr), wi1 s H C cl fp = wi1 X.s_0 X.H_0 0 [] [] := by intros; rfl) (ete : ∀ (s : Shared) (H : Hp) (C : Addr) (cl : List (Str × Addr)) (fp : List Addr), te s H C cl fp = te X.s_0 X.H_0 0 [] [] := by intros; rfl)
    (hv : ∀ j ∈ ns, j ∈ own.map (·.2) := by decide) (hv1 : ∀ j ∈ ns1, j ∈ vs1 := by decide) (hvs : ∀ i ∈ vs1, i ∈ own.map (·.2) := by decide) (hs : ∀ x, foldedSetIterable iter X.env x = pure x := by intro _; rfl) (hs1 : ∀ env x, foldedSetIterable iter1 env x = pure x := by intro _ _; rfl) :
    DEX X W (.ListComp elt [⟨tg, iter, ifs, 0⟩, ⟨tg1, iter1, ifs1, 0⟩] scope pos) (tLc2 wi g (tt X.s_0 X.H_0 0 [] []) (wi1 X.s_0 X.H_0 0 [] []) g1 (tt1 X.s_0 X.H_0 0 [] []) (te X.s_0 X.H_0 0 [] []) (own.map (·.2)) vs1) (dLc2 di dg dt di1 dg1 dt1 de (own.map (·.2)) vs1) :=
  ⟨pe_lc2 hc hN hi.1 ok hvs (fun s H C cl fp => (hg s H C cl fp).1) (fun s H C cl fp => ett s H C cl fp ▸ (ht s H C cl fp).1) (fun s H C cl fp => ewi1 s H C cl fp ▸ (hi1 s H C cl fp).1) (fun s H C cl fp => (hg1 s H C cl fp).1) (fun s H C cl fp => ett1 s H C cl fp ▸ (ht1 s H C cl fp).1) (fun s H C cl fp => ete s H C cl fp ▸ (he s H C cl fp).1) hs hs1,
    snd_lc2 hv hv1 hi.2 (hg X.s_0 X.H_0 0 [] []).2 (ht X.s_0 X.H_0 0 [] []).2 (hi1 X.s_0 X.H_0 0 [] []).2 (hg1 X.s_0 X.H_0 0 [] []).2 (ht1 X.s_0 X.H_0 0 [] []).2 (he X.s_0 X.H_0 0 [] []).2⟩
end
/-! ### self.f, self.g = e -/
def gFld (K : PySem.W.Frag) (ta : TE) (f : Str) : TG := fun v σ H Q => ta σ H fun x H1 => ∃ a C dx fs, x = .ref a ∧ H1 a = some (.ins C dx fs) ∧ Cls K C ∧ NoAttr K C f ∧ fs.length < 1000 ∧ Q σ (upd H1 a (.ins C dx (putF f v fs)))
theorem pg_fld {X : Cx} {o : Expr} {f : Str} {pos : Pos} {ta : TE} (ha : PE X o ta)
    (hq : ∀ v, assign (.Attribute o f pos) X.env v = (do
      let ov ← holding [v] (eval o X.env)
      standAt pos.atName
      holding [v, ov] (setAttr ov f v)
      release [v, ov] []) := by intro _; rfl) : PG X (.Attribute o f pos) (gFld X.K ta f) := by
  refine ⟨fun pins s σ H v u Q I r h => ?_⟩
  rw [hq]
  refine wpAny_bind (wpAny_holding (thn (ha.run pins s σ H _ I h) fun ov s1 ⟨x, H1, I1, r1, a, C, dx, fs, ex, ea, c, n, l, q⟩ => ?_))
  subst ex
  obtain rfl : ov = Value.ref a := r1
  refine wpAny_bind (wpAny_standAt (wpAny_bind (wpAny_holding ?_)))
  exact setattr_ok I1 ea c n l r fun s3 I3 => wpAny_release ⟨σ, _, I3, q⟩
def dFld2 (cs cs2 : List Addr) (i : Nat) (f g : Str) (de : DE) : DS := fun D ρ => de ρ (datS fun d => ∃ d1 d2, d = .tup [d1, d2] ∧ ∃ q C fs, ρ[i]? = some (.oob q C fs) ∧ C ∈ cs ∧ C ∈ cs2 ∧ fs.length < 999 ∧ D.nx (ρ.set i (.oob q C (putD g d2 (putD f d1 fs))))) fun x => D.ex x ρ
theorem putD_len (f : Str) (d : Dt) : ∀ fs : List (Str × Dt), (putD f d fs).length ≤ fs.length + 1
  | [] => Nat.le_refl _
  | q :: r => by
    unfold putD
    have := putD_len f d r
    split <;> simp only [List.length_cons] <;> omega
theorem ds_fld2 {X : Cx} {W : WX} {value : Expr} {te : TE} {de : DE} {cs cs2 : List Addr} {f g : Str} (c : AtOk X.K cs f) (c2 : AtOk X.K cs2 g) (i : Nat) {y : Str} {p1 p2 p3 p4 pt pos : Pos} {kt : Nat} (hc : X.calm = true) (hv : DEX X W value te de) (hN : X.N[i]? = some y := by rfl) (hvis : Vis X.env.scope y := by first | exact Or.inl rfl | exact Or.inr (Or.inl rfl) | exact Or.inr (Or.inr rfl))
    (hd : (y == ("__debug__" : Str)) = false := by decide) (hcd : (y == ("__classdict__" : Str)) = false := by decide)
    (hs : swapsWithSole [.Tuple [.Attribute (.Name y p1) f p2, .Attribute (.Name y p3) g p4] kt pt] value pos.line X.env = pure false := by rfl) (hw : swappedStores [.Tuple [.Attribute (.Name y p1) f p2, .Attribute (.Name y p3) g p4] kt pt] value X.env = pure none := by rfl)
    (hq1 : ∀ v, assign (.Attribute (.Name y p1) f p2) X.env v = (do
      let ov ← holding [v] (eval (.Name y p1) X.env)
      standAt p2.atName
      holding [v, ov] (setAttr ov f v)
      release [v, ov] []) := by intro _; rfl)
    (hq2 : ∀ v, assign (.Attribute (.Name y p3) g p4) X.env v = (do
      let ov ← holding [v] (eval (.Name y p3) X.env)
      standAt p4.atName
      holding [v, ov] (setAttr ov g v)
      release [v, ov] []) := by intro _; rfl) :
    DSX X W (.Assign [.Tuple [.Attribute (.Name y p1) f p2, .Attribute (.Name y p3) g p4] kt pt] value pos) (tAsg te (gTup X.K 2 (gCons (gFld X.K (tVar i) f) (gCons (gFld X.K (tVar i) g) gNil)))) (dFld2 cs cs2 i f g de) := by
  refine ⟨ps_asg hv.1 (pg_tup hc (pgs_cons (pg_fld (pe_var hN hvis hd hcd) hq1) (pgs_cons (pg_fld (pe_var hN hvis hd hcd) hq2) pgs_nil))) hs hw, fun D ρ h l0 F H σ S C L => ?_⟩
  refine hv.2 ρ _ _ h l0 F H σ S _ (fun v s F1 H1 g1 r1 q1 => ?_) (L.kx S)
  obtain ⟨d, e, q2⟩ := datS_of q1
  subst e
  obtain ⟨d1, d2, e2, q, Cl, fs, hρ, hm, hm2, hl, qq⟩ := q2
  subst e2
  obtain ⟨a, xs, ev, z1, z2⟩ := r1.tup
  subst ev
  obtain ⟨x1, x2, ex, y1, y2⟩ : ∃ x1 x2, xs = [x1, x2] ∧ Den X.K l0 F1 x1 d1 ∧ Den X.K l0 F1 x2 d2 := by
    cases z2 with
    | cons h t =>
      cases t with
      | cons h2 t =>
        cases t
        exact ⟨_, _, rfl, h, h2⟩
  subst ex
  have S1 := S.go g1
  obtain ⟨gs, hσ, hF, n0, hH, r, _⟩ := S1.oob hρ
  obtain ⟨S2, g2, w2⟩ := S1.mutI (C' := Cl) hρ (DenF.put (f := f) y1 r)
  have hρ2 : (ρ.set i (.oob q Cl (putD f d1 fs)))[i]? = some (.oob q Cl (putD f d1 fs)) := by rw [List.getElem?_set_self (lt_of_get hρ)]
  obtain ⟨S3, g3, w3⟩ := S2.mutI (C' := Cl) hρ2 (DenF.put (f := g) y2 (DenF.put (f := f) y1 r))
  rw [List.set_set] at S3 w3
  refine ⟨a, _, rfl, sameT g1.bs.sub z1, rfl, _, _, rfl, .ref q.1, hσ, q.1, Cl, q.2, gs, rfl, hH, (c Cl hm).1, (c Cl hm).2, by rw [r.len]; omega, _, _, rfl, .ref q.1, hσ, q.1, Cl, q.2, _, rfl, upd_same, (c2 Cl hm2).1, (c2 Cl hm2).2, ?_, rfl, ?_⟩
  · rw [(DenF.put (f := f) y1 r).len]
    have := putD_len f d1 fs
    omega
  · rw [upd_upd] at S3 g3 ⊢
    exact (L.trans S.bs (.of g1) .refl).nx F1 _ σ _ (GoS.trans S1.bs g2 w2 g3) (OwS.trans S1.bs g2 w2 w3) S3 qq
end DW

set_option Elab.async false
set_option linter.all false
set_option maxRecDepth 100000
/-! DW, part 56: cuts of the pure side. -/
namespace DW
theorem asg_cut {de : DE} {g : DG} {u : DS} {D : DEnds} {ρ : En} (P : En → Prop) (h2 : ∀ ρ', P ρ' → u D ρ') (h1 : ∀ K : En → Prop, (∀ ρ', P ρ' → K ρ') → dAsg de g { D with nx := K } ρ) : dSeq (dAsg de g) u D ρ := h1 _ h2
theorem st_cut {u : DS} {D : DEnds} {ρ : En} (P : En → Prop) (h : P ρ) (k : ∀ ρ', P ρ' → u D ρ') : u D ρ := k ρ h
theorem gdN {i : Nat} {d : Dt} {ρ : En} {R : En → Prop} (h : R (ρ.set i (.dat d))) : gdName i (.dat d) ρ R := h
theorem nxN {K : En → Prop} {rt : Dt → Prop} {bk ct : En → Prop} {ex : Xn → En → Prop} {rs : Dt → En → Prop} {ρ : En} (h : K ρ) : DEnds.nx { nx := K, rt := rt, bk := bk, ct := ct, ex := ex, rs := rs } ρ := h
theorem if_cut {c : DTt} {t1 t2 u : DS} {D : DEnds} {ρ : En} (P : En → Prop) (h1 : ∀ K : En → Prop, (∀ ρ', P ρ' → K ρ') → dIfS c t1 t2 { D with nx := K } ρ) (h2 : ∀ ρ', P ρ' → u D ρ') : dSeq (dIfS c t1 t2) u D ρ := h1 _ h2
/-- a statement once, then what stands behind it -/
theorem sq_cut {t u : DS} {D : DEnds} {ρ : En} (P : En → Prop) (h1 : ∀ K : En → Prop, (∀ ρ', P ρ' → K ρ') → t { D with nx := K } ρ) (h2 : ∀ ρ', P ρ' → u D ρ') : dSeq t u D ρ := h1 _ h2
theorem pl_ap {ss : List Sl} {ds : List Dt} {f : List Dt → Prop} (e : ss = ds.map Sl.dat) (q : f ds) : plain ss f := by
  subst e
  induction ds generalizing f with
  | nil => exact q
  | cons d ds ih => exact ih (f := fun r => f (d :: r)) q
end DW

set_option Elab.async false
set_option linter.all false
set_option maxRecDepth 100000
set_option maxHeartbeats 4000000
namespace Lw
open PySem PySem.Spec PyProof.Rows L2 DW
/-- the addresses of the classes -/
structure Kl where
  ReadError : Addr
  BadStretch : Addr
  BadText : Addr
  BadStep : Addr
  BadName : Addr
  UnknownName : Addr
  TooMany : Addr
  Stretches : Addr
  Chain : Addr
  Condition : Addr
  Test : Addr
  KeyTest : Addr
  Both : Addr
  Either : Addr
  Not : Addr
  Step : Addr
  Shift : Addr
  Scale : Addr
  Floor : Addr
  Clip : Addr
  Sign : Addr
def iss_Stretches (kl : Kl) : List (Addr × Bool) := [(kl.Stretches, true)]
def exm_ReadError (kl : Kl) : List (Addr × Bool) := [(kl.ReadError, true), (kl.BadStretch, true), (kl.BadText, true), (kl.BadStep, true), (kl.BadName, true), (kl.UnknownName, true), (kl.TooMany, true)]
def exm_UnknownName (kl : Kl) : List (Addr × Bool) := [(kl.ReadError, false), (kl.BadStretch, false), (kl.BadText, false), (kl.BadStep, false), (kl.BadName, false), (kl.UnknownName, true), (kl.TooMany, false)]
def isx_BadName (kl : Kl) : List (Addr × Bool) := [(kl.ReadError, false), (kl.BadStretch, false), (kl.BadText, false), (kl.BadStep, false), (kl.BadName, true), (kl.UnknownName, false), (kl.TooMany, false)]
def isx_ValueError (kl : Kl) : List (Addr × Bool) := [(kl.ReadError, true), (kl.BadStretch, true), (kl.BadText, true), (kl.BadStep, true), (kl.BadName, true), (kl.UnknownName, true), (kl.TooMany, true)]
def isx_ReadError (kl : Kl) : List (Addr × Bool) := [(kl.ReadError, true), (kl.BadStretch, true), (kl.BadText, true), (kl.BadStep, true), (kl.BadName, true), (kl.UnknownName, true), (kl.TooMany, true)]
/-! ### steps -/
def sd_Step_image (kl : Kl) : Sd := fun as Q _ => ∃ n : Int, as = [.obj kl.Step [], .v (.int n)] ∧ Q (.v (.int n))
def d_Step_image : DS := (dRet (dVar 1))
theorem pure_Step_image (kl : Kl) : ∀ as Q E, sd_Step_image kl as Q E → d_Step_image (dEnds Q E) (startD 2 as) := by
  rintro as Q E ⟨n, rfl, hq⟩
  exact hq
def shD (kl : Kl) (b : Int) : Dt := .obj kl.Shift [("by", .v (.int b))]
def sd_Shift___init__ (kl : Kl) : Sd := fun as Q _ => ∃ b : Int, as = [.v (.int b)] ∧ -(10 ^ 18) ≤ b ∧ b ≤ 10 ^ 18 ∧ Q (shD kl b)
def d_Shift___init__ (kl : Kl) : DS := (dSeq (dIfS (dOr (dTest (dOp dLt (dVar 1) (dUn dNeg (dC (.int 1000000000000000000))))) (dTest (dOp dGt (dVar 1) (dC (.int 1000000000000000000)))))
  dNever
  dNext)
  (dFld [kl.Shift] 0 "by" (dVar 1)))
theorem pure_Shift___init__ (kl : Kl) : ∀ p as Q E, sd_Shift___init__ kl as Q E → d_Shift___init__ kl (dEndsI p kl.Shift Q E) (startI p kl.Shift 2 as) := by
  rintro p as Q E ⟨b, rfl, h1, h2, hq⟩
  refine iteD (fun h => by omega) (fun _ => ?_)
  refine iteD (fun h => by omega) (fun _ => ?_)
  exact ⟨_, _, _, rfl, by simp, by decide, _, rfl, hq⟩
def sd_Shift_image (kl : Kl) : Sd := fun as Q _ => ∃ b n : Int, as = [shD kl b, .v (.int n)] ∧ Q (.v (.int (n + b)))
def d_Shift_image (kl : Kl) : DS := (dRetE (dOp dAdd (dVar 1) (dAt [kl.Shift] "by" (dVar 0))))
theorem pure_Shift_image (kl : Kl) : ∀ as Q E, sd_Shift_image kl as Q E → d_Shift_image kl (dEnds Q E) (startD 2 as) := by
  rintro as Q E ⟨b, n, rfl, hq⟩
  exact ⟨_, _, _, rfl, by simp, rfl, hq⟩
def scD (kl : Kl) (b : Int) : Dt := .obj kl.Scale [("factor", .v (.int b))]
def sd_Scale___init__ (kl : Kl) : Sd := fun as Q _ => ∃ b : Int, as = [.v (.int b)] ∧ b ≠ 0 ∧ -1000000 ≤ b ∧ b ≤ 1000000 ∧ Q (scD kl b)
def d_Scale___init__ (kl : Kl) : DS := (dSeq (dIfS (dOr (dTest (dOp dEq (dVar 1) (dC (.int 0)))) (dTest (dOp dGt (dCB dAbs (dCons (dVar 1) dNil)) (dC (.int 1000000)))))
  dNever
  dNext)
  (dFld [kl.Scale] 0 "factor" (dVar 1)))
theorem pure_Scale___init__ (kl : Kl) : ∀ p as Q E, sd_Scale___init__ kl as Q E → d_Scale___init__ kl (dEndsI p kl.Scale Q E) (startI p kl.Scale 2 as) := by
  rintro p as Q E ⟨b, rfl, h0, h1, h2, hq⟩
  refine ⟨_, _, rfl, rfl, rfl, rfl, ?_⟩
  refine iteE (fun h => absurd h h0) (fun _ => ?_)
  refine iteD (fun h => ?_) (fun _ => ?_)
  · have : ¬ (1000000 : Int) < (if b < 0 then -b else b) := by split <;> omega
    exact absurd h this
  exact ⟨_, _, _, rfl, by simp, by decide, _, rfl, hq⟩
def sd_Scale_image (kl : Kl) : Sd := fun as Q _ => ∃ b n : Int, as = [scD kl b, .v (.int n)] ∧ -1000000 ≤ b ∧ b ≤ 1000000 ∧ Q (.v (.int (n * b)))
def d_Scale_image (kl : Kl) : DS := (dRetE (dOp dMul (dVar 1) (dAt [kl.Scale] "factor" (dVar 0))))
theorem pure_Scale_image (kl : Kl) : ∀ as Q E, sd_Scale_image kl as Q E → d_Scale_image kl (dEnds Q E) (startD 2 as) := by
  rintro as Q E ⟨b, n, rfl, h1, h2, hq⟩
  exact ⟨_, _, _, rfl, by simp, rfl, .inr (.inl ⟨by omega, by omega⟩), hq⟩
def flD (kl : Kl) (b : Int) : Dt := .obj kl.Floor [("divisor", .v (.int b))]
def sd_Floor___init__ (kl : Kl) : Sd := fun as Q _ => ∃ b : Int, as = [.v (.int b)] ∧ 1 ≤ b ∧ b ≤ 10 ^ 18 ∧ Q (flD kl b)
def d_Floor___init__ (kl : Kl) : DS := (dSeq (dIfS (dOr (dTest (dOp dLt (dVar 1) (dC (.int 1)))) (dTest (dOp dGt (dVar 1) (dC (.int 1000000000000000000)))))
  dNever
  dNext)
  (dFld [kl.Floor] 0 "divisor" (dVar 1)))
theorem pure_Floor___init__ (kl : Kl) : ∀ p as Q E, sd_Floor___init__ kl as Q E → d_Floor___init__ kl (dEndsI p kl.Floor Q E) (startI p kl.Floor 2 as) := by
  rintro p as Q E ⟨b, rfl, h1, h2, hq⟩
  refine iteD (fun h => by omega) (fun _ => ?_)
  refine iteD (fun h => by omega) (fun _ => ?_)
  exact ⟨_, _, _, rfl, by simp, by decide, _, rfl, hq⟩
def sd_Floor_image (kl : Kl) : Sd := fun as Q _ => ∃ b n : Int, as = [flD kl b, .v (.int n)] ∧ 1 ≤ b ∧ b ≤ 10 ^ 18 ∧ Q (.v (.int (n / b)))
def d_Floor_image (kl : Kl) : DS := (dRetE (dOp dFdiv (dVar 1) (dAt [kl.Floor] "divisor" (dVar 0))))
theorem pure_Floor_image (kl : Kl) : ∀ as Q E, sd_Floor_image kl as Q E → d_Floor_image kl (dEnds Q E) (startD 2 as) := by
  rintro as Q E ⟨b, n, rfl, h1, h2, hq⟩
  exact ⟨_, _, _, rfl, by simp, rfl, ⟨by omega, by omega⟩, hq⟩
/-- an instance of Clip or of Sign -/
def clD (C : Addr) (a b : Int) : Dt := .obj C [("low", .v (.int a)), ("high", .v (.int b))]
def sd_Clip___init__ (kl : Kl) : Sd := fun as Q _ => ∃ a b : Int, as = [.v (.int a), .v (.int b)] ∧ -(10 ^ 18) ≤ a ∧ a ≤ b ∧ b ≤ 10 ^ 18 ∧ Q (clD kl.Clip a b)
def d_Clip___init__ (kl : Kl) : DS := (dSeq (dIfS (dOr (dTest (dOp dLt (dVar 1) (dUn dNeg (dC (.int 1000000000000000000))))) (dTest (dOp dGt (dVar 1) (dC (.int 1000000000000000000)))))
  dNever
  dNext)
  (dSeq (dIfS (dOr (dTest (dOp dLt (dVar 2) (dUn dNeg (dC (.int 1000000000000000000))))) (dTest (dOp dGt (dVar 2) (dC (.int 1000000000000000000)))))
  dNever
  dNext)
  (dSeq (dIfS (dTest (dOp dGt (dVar 1) (dVar 2)))
  dNever
  dNext)
  (dSeq (dFld [kl.Clip, kl.Sign] 0 "low" (dVar 1))
  (dFld [kl.Clip, kl.Sign] 0 "high" (dVar 2))))))
theorem pure_Clip___init__ (kl : Kl) : ∀ p as Q E, sd_Clip___init__ kl as Q E → d_Clip___init__ kl (dEndsI p kl.Clip Q E) (startI p kl.Clip 3 as) := by
  rintro p as Q E ⟨a, b, rfl, h1, h2, h3, hq⟩
  refine iteD (fun h => by omega) (fun _ => ?_)
  refine iteD (fun h => by omega) (fun _ => ?_)
  refine iteD (fun h => by omega) (fun _ => ?_)
  refine iteD (fun h => by omega) (fun _ => ?_)
  refine iteD (fun h => by omega) (fun _ => ?_)
  refine ⟨_, _, _, rfl, by simp, by decide, ?_⟩
  exact ⟨_, _, _, rfl, by simp, (by decide : (1 : Nat) < 1000), _, rfl, hq⟩
def sd_Clip_image (kl : Kl) : Sd := fun as Q _ => ∃ C a b n, as = [clD C a b, .v (.int n)] ∧ C ∈ [kl.Clip, kl.Sign] ∧ Q (.v (.int (max a (min b n))))
def d_Clip_image (kl : Kl) : DS := (dRetE (dCB dMax2 (dCons (dAt [kl.Clip, kl.Sign] "low" (dVar 0)) (dCons (dCB dMin2 (dCons (dAt [kl.Clip, kl.Sign] "high" (dVar 0)) (dCons (dVar 1) dNil))) dNil))))
theorem pure_Clip_image (kl : Kl) : ∀ as Q E, sd_Clip_image kl as Q E → d_Clip_image kl (dEnds Q E) (startD 2 as) := by
  rintro as Q E ⟨C, a, b, n, rfl, hC, hq⟩
  refine ⟨_, _, _, rfl, hC, rfl, ?_⟩
  refine ⟨_, _, _, rfl, hC, rfl, ?_⟩
  have e : (if (if n < b then n else b) > a then (if n < b then n else b) else a) = max a (min b n) := by
    split <;> split <;> omega
  show Q (.v (.int (if (if n < b then n else b) > a then (if n < b then n else b) else a)))
  rw [e]
  exact hq

def is_Stretches (kl : Kl) : List (Addr × Bool) := [(kl.Chain, false), (kl.Condition, false), (kl.Test, false), (kl.KeyTest, false), (kl.Both, false), (kl.Either, false), (kl.Not, false), (kl.Step, false), (kl.Shift, false), (kl.Scale, false), (kl.Floor, false), (kl.Clip, false), (kl.Sign, false)]
def is_Test (kl : Kl) : List (Addr × Bool) := [(kl.Chain, false), (kl.Condition, false), (kl.Test, true), (kl.KeyTest, false), (kl.Both, false), (kl.Either, false), (kl.Not, false), (kl.Step, false), (kl.Shift, false), (kl.Scale, false), (kl.Floor, false), (kl.Clip, false), (kl.Sign, false)]
def is_Chain (kl : Kl) : List (Addr × Bool) := [(kl.Chain, true), (kl.Condition, false), (kl.Test, false), (kl.KeyTest, false), (kl.Both, false), (kl.Either, false), (kl.Not, false), (kl.Step, false), (kl.Shift, false), (kl.Scale, false), (kl.Floor, false), (kl.Clip, false), (kl.Sign, false)]
def is_Condition (kl : Kl) : List (Addr × Bool) := [(kl.Chain, false), (kl.Condition, true), (kl.Test, true), (kl.KeyTest, true), (kl.Both, true), (kl.Either, true), (kl.Not, true), (kl.Step, false), (kl.Shift, false), (kl.Scale, false), (kl.Floor, false), (kl.Clip, false), (kl.Sign, false)]
def is_KeyTest (kl : Kl) : List (Addr × Bool) := [(kl.Chain, false), (kl.Condition, false), (kl.Test, false), (kl.KeyTest, true), (kl.Both, false), (kl.Either, false), (kl.Not, false), (kl.Step, false), (kl.Shift, false), (kl.Scale, false), (kl.Floor, false), (kl.Clip, false), (kl.Sign, false)]

/-! ### deeds -/
inductive Deed where
  | step | shift (b : Int) | scale (b : Int) | floor (b : Int) | clip (a b : Int) | sign
def dd3 (x : Str) (a b : Int) : Dt := .tup [.v (.str x), .v (.int a), .v (.int b)]
def Deed.dt : Deed → Dt
  | .step => dd3 "step" 0 0
  | .shift b => dd3 "shift" b 0
  | .scale b => dd3 "scale" b 0
  | .floor b => dd3 "floor" b 0
  | .clip a b => dd3 "clip" a b
  | .sign => dd3 "sign" (-1) 1
def Deed.ok : Deed → Prop
  | .step => True
  | .shift b => -(10 ^ 18) ≤ b ∧ b ≤ 10 ^ 18
  | .scale b => b ≠ 0 ∧ -1000000 ≤ b ∧ b ≤ 1000000
  | .floor b => 1 ≤ b ∧ b ≤ 10 ^ 18
  | .clip a b => -(10 ^ 18) ≤ a ∧ a ≤ b ∧ b ≤ 10 ^ 18
  | .sign => True
def Deed.obj (kl : Kl) : Deed → Dt
  | .step => .obj kl.Step []
  | .shift b => shD kl b
  | .scale b => scD kl b
  | .floor b => flD kl b
  | .clip a b => clD kl.Clip a b
  | .sign => clD kl.Sign (-1) 1
def Deed.img : Deed → Int → Int
  | .step, n => n
  | .shift b, n => n + b
  | .scale b, n => n * b
  | .floor b, n => n / b
  | .clip a b, n => max a (min b n)
  | .sign, n => max (-1) (min 1 n)
theorem iteSt {x y : Str} {A B : Prop} (h : x = y) (q : A) : if PyData.eqv (.str x) (.str y) = true then A else B := by
  subst h
  rw [if_pos (by rw [PyData.eqv]; exact beq_self_eq_true x)]
  exact q
theorem iteSf {x y : Str} {A B : Prop} (h : x ≠ y) (q : B) : if PyData.eqv (.str x) (.str y) = true then A else B := by
  rw [if_neg (by rw [PyData.eqv]; simpa using h)]
  exact q
/-! ### a number from low to high -/
def sd__law_amount : Sd := fun as Q _ => ∃ low high : Int, as = [.drw, .v (.int low), .v (.int high)] ∧ low ≤ high ∧ ∀ r, low ≤ r → r ≤ high → Q (.v (.int r))
def d__law_amount : DS := (dSeq (dAsg (dCall sd__law_next [] (dCons (dVar 0) (dCons (dOp dPow (dC (.int 10)) (dC (.int 20))) dNil))) (gdName 3))
  (dSeq (dAsg (dOp dMod (dCB dInt1 (dCons (dVar 3) dNil)) (dC (.int 4))) (gdName 4))
  (dSeq (dAsg (dOp dFdiv (dVar 3) (dC (.int 4))) (gdName 3))
  (dSeq (dIfS (dTest (dOp dEq (dVar 4) (dC (.int 1))))
  (dRetE (dCB dMin2 (dCons (dVar 2) (dCons (dOp dAdd (dVar 1) (dOp dMod (dCB dInt1 (dCons (dVar 3) dNil)) (dC (.int 4)))) dNil))))
  dNext)
  (dSeq (dIfS (dTest (dOp dEq (dVar 4) (dC (.int 2))))
  (dRetE (dCB dMax2 (dCons (dVar 1) (dCons (dOp dSub (dVar 2) (dOp dMod (dCB dInt1 (dCons (dVar 3) dNil)) (dC (.int 4)))) dNil))))
  dNext)
  (dSeq (dIfS (dTest (dOp dEq (dVar 4) (dC (.int 3))))
  (dRetE (dCB dMax2 (dCons (dVar 1) (dCons (dCB dMin2 (dCons (dVar 2) (dCons (dOp dSub (dOp dMod (dCB dInt1 (dCons (dVar 3) dNil)) (dC (.int 21))) (dC (.int 10))) dNil))) dNil))))
  dNext)
  (dRetE (dOp dAdd (dVar 1) (dOp dMod (dCB dInt1 (dCons (dVar 3) dNil)) (dOp dAdd (dOp dSub (dVar 2) (dVar 1)) (dC (.int 1))))))))))))
theorem len__law_amount : ∀ as Q E, sd__law_amount as Q E → as.length = 3 := by
  rintro _ _ _ ⟨_, _, rfl, _⟩
  rfl
theorem pure__law_amount : ∀ as Q E, sd__law_amount as Q E → d__law_amount (dEnds Q E) (startD 5 as) := by
  rintro as Q E ⟨low, high, rfl, hl, hq⟩
  refine ⟨⟨by decide, by decide, by decide⟩, ?_⟩
  refine ⟨10 ^ 20, rfl, by decide, fun n h0 h1 => ?_⟩
  refine ⟨(by decide : (0 : Int) < 4), ?_⟩
  refine ⟨(⟨by decide, by decide⟩ : (0 : Int) < 4 ∧ (4 : Int) < 2 ^ 250), ?_⟩
  have n0 : 0 ≤ n / 4 := Int.ediv_nonneg h0 (by decide)
  have m1 : ∀ m : Int, 0 < m → 0 ≤ (n / 4) % m ∧ (n / 4) % m < m := fun m h => ⟨Int.emod_nonneg _ (by omega), Int.emod_lt_of_pos _ h⟩
  refine ⟨_, _, rfl, rfl, rfl, rfl, ?_⟩
  refine iteE (fun h => ?_) (fun h => ?_)
  · refine ⟨(by decide : (0 : Int) < 4), ?_⟩
    have := m1 4 (by decide)
    refine hq _ ?_ ?_ <;> split <;> omega
  refine ⟨_, _, rfl, rfl, rfl, rfl, ?_⟩
  refine iteE (fun h => ?_) (fun h => ?_)
  · refine ⟨(by decide : (0 : Int) < 4), ?_⟩
    have := m1 4 (by decide)
    refine hq _ ?_ ?_ <;> split <;> omega
  refine ⟨_, _, rfl, rfl, rfl, rfl, ?_⟩
  refine iteE (fun h => ?_) (fun h => ?_)
  · refine ⟨(by decide : (0 : Int) < 21), ?_⟩
    have := m1 21 (by decide)
    refine hq _ ?_ ?_ <;> split <;> split <;> omega
  · have hp : 0 < high - low + 1 := by omega
    have := m1 _ hp
    refine ⟨hp, ?_⟩
    refine hq _ ?_ ?_ <;> omega

def sd__law_deed : Sd := fun as Q _ => ∃ k : Int, as = [.drw, .v (.int k)] ∧ ∀ d : Deed, d.ok → Q d.dt
def d__law_deed : DS := (dSeq (dIfS (dTest (dOp dEq (dVar 1) (dC (.int 1))))
  (dRetE (dTup (dCons (dC (.str (PySem.Str.ofString "shift"))) (dCons (dCall sd__law_amount [] (dCons (dVar 0) (dCons (dUn dNeg (dOp dPow (dC (.int 10)) (dC (.int 18)))) (dCons (dOp dPow (dC (.int 10)) (dC (.int 18))) dNil)))) (dCons (dC (.int 0)) dNil)))))
  dNext)
  (dSeq (dIfS (dTest (dOp dEq (dVar 1) (dC (.int 2))))
  (dSeq (dAsg (dCall sd__law_amount [] (dCons (dVar 0) (dCons (dUn dNeg (dC (.int 1000000))) (dCons (dC (.int 1000000)) dNil)))) (gdName 2))
  (dSeq (dIfS (dTest (dOp dEq (dVar 2) (dC (.int 0))))
  (dAsg (dC (.int 1)) (gdName 2))
  dNext)
  (dRetE (dTup (dCons (dC (.str (PySem.Str.ofString "scale"))) (dCons (dVar 2) (dCons (dC (.int 0)) dNil)))))))
  dNext)
  (dSeq (dIfS (dTest (dOp dEq (dVar 1) (dC (.int 3))))
  (dRetE (dTup (dCons (dC (.str (PySem.Str.ofString "floor"))) (dCons (dCall sd__law_amount [] (dCons (dVar 0) (dCons (dC (.int 1)) (dCons (dOp dPow (dC (.int 10)) (dC (.int 18))) dNil)))) (dCons (dC (.int 0)) dNil)))))
  dNext)
  (dSeq (dIfS (dTest (dOp dEq (dVar 1) (dC (.int 4))))
  (dSeq (dAsg (dCall sd__law_amount [] (dCons (dVar 0) (dCons (dUn dNeg (dOp dPow (dC (.int 10)) (dC (.int 18)))) (dCons (dOp dPow (dC (.int 10)) (dC (.int 18))) dNil)))) (gdName 3))
  (dRetE (dTup (dCons (dC (.str (PySem.Str.ofString "clip"))) (dCons (dVar 3) (dCons (dCall sd__law_amount [] (dCons (dVar 0) (dCons (dVar 3) (dCons (dOp dPow (dC (.int 10)) (dC (.int 18))) dNil)))) dNil))))))
  dNext)
  (dSeq (dIfS (dTest (dOp dEq (dVar 1) (dC (.int 5))))
  (dRetE (dTup (dCons (dC (.str (PySem.Str.ofString "sign"))) (dCons (dUn dNeg (dC (.int 1))) (dCons (dC (.int 1)) dNil)))))
  dNext)
  (dRetE (dTup (dCons (dC (.str (PySem.Str.ofString "step"))) (dCons (dC (.int 0)) (dCons (dC (.int 0)) dNil))))))))))
theorem len__law_deed : ∀ as Q E, sd__law_deed as Q E → as.length = 2 := by
  rintro _ _ _ ⟨_, rfl, _⟩
  rfl
theorem pure__law_deed : ∀ as Q E, sd__law_deed as Q E → d__law_deed (dEnds Q E) (startD 4 as) := by
  rintro as Q E ⟨k, rfl, hq⟩
  have cp : CPow 10 18 := ⟨by decide, by decide, by decide⟩
  refine ⟨_, _, rfl, rfl, rfl, rfl, ?_⟩
  refine iteE (fun h => ?_) (fun _ => ?_)
  · refine ⟨cp, cp, ?_⟩
    refine ⟨-(10 ^ 18), 10 ^ 18, rfl, by decide, fun r h1 h2 => ?_⟩
    exact ⟨by simp, hq (.shift r) ⟨h1, h2⟩⟩
  refine ⟨_, _, rfl, rfl, rfl, rfl, ?_⟩
  refine iteE (fun h => ?_) (fun _ => ?_)
  · refine ⟨-1000000, 1000000, rfl, by decide, fun r h1 h2 => ?_⟩
    refine ⟨_, _, rfl, rfl, rfl, rfl, ?_⟩
    refine iteE (fun h => ?_) (fun h => ?_)
    · exact ⟨by simp, hq (.scale 1) ⟨by decide, by decide, by decide⟩⟩
    · exact ⟨by simp, hq (.scale r) ⟨h, h1, h2⟩⟩
  refine ⟨_, _, rfl, rfl, rfl, rfl, ?_⟩
  refine iteE (fun h => ?_) (fun _ => ?_)
  · refine ⟨cp, ?_⟩
    refine ⟨1, 10 ^ 18, rfl, by decide, fun r h1 h2 => ?_⟩
    exact ⟨by simp, hq (.floor r) ⟨h1, h2⟩⟩
  refine ⟨_, _, rfl, rfl, rfl, rfl, ?_⟩
  refine iteE (fun h => ?_) (fun _ => ?_)
  · refine ⟨cp, cp, ?_⟩
    refine ⟨-(10 ^ 18), 10 ^ 18, rfl, by decide, fun a h1 h2 => ?_⟩
    refine ⟨cp, ?_⟩
    refine ⟨a, 10 ^ 18, rfl, h2, fun b h3 h4 => ?_⟩
    exact ⟨by simp, hq (.clip a b) ⟨h1, h3, h4⟩⟩
  refine ⟨_, _, rfl, rfl, rfl, rfl, ?_⟩
  refine iteE (fun h => ?_) (fun _ => ?_)
  · exact ⟨by simp, hq .sign trivial⟩
  · exact ⟨by simp, hq .step trivial⟩


theorem eqSt {x : Str} {Q : Sl → Prop} (h : SeqAt.shaped (.str x) = true) (q : Q (.dat (.v (.bl true)))) : dEq (.dat (.v (.str x))) (.dat (.v (.str x))) Q := by
  refine ⟨_, _, rfl, rfl, h, h, ?_⟩
  have e : PyData.eqv (.str x) (.str x) = true := by
    rw [PyData.eqv]
    exact beq_self_eq_true x
  rw [e]
  exact q
theorem eqSf {x y : Str} {Q : Sl → Prop} (h : SeqAt.shaped (.str x) = true) (h2 : SeqAt.shaped (.str y) = true) (n : x ≠ y) (q : Q (.dat (.v (.bl false)))) : dEq (.dat (.v (.str x))) (.dat (.v (.str y))) Q := by
  refine ⟨_, _, rfl, rfl, h, h2, ?_⟩
  have e : PyData.eqv (.str x) (.str y) = false := by
    rw [PyData.eqv]
    exact beq_false_of_ne n
  rw [e]
  exact q
def sd_Sign___init__ (kl : Kl) : Sd := fun as Q _ => as = [] ∧ Q (clD kl.Sign (-1) 1)
def sd_Sign_image (kl : Kl) : Sd := fun as Q _ => ∃ n : Int, as = [clD kl.Sign (-1) 1, .v (.int n)] ∧ Q (.v (.int (max (-1) (min 1 n))))
theorem atI0 {a b c : Dt} : atI [a, b, c] 0 = some a := rfl
theorem atI1 {a b c : Dt} : atI [a, b, c] 1 = some b := rfl
theorem atI2 {a b c : Dt} : atI [a, b, c] 2 = some c := rfl
def sd__law_built (kl : Kl) : Sd := fun as Q _ => ∃ d : Deed, as = [d.dt] ∧ d.ok ∧ Q (d.obj kl)
def d__law_built (kl : Kl) : DS := (dSeq (dIfS (dTest (dOp dEq (dOp dIx (dVar 0) (dC (.int 0))) (dC (.str (PySem.Str.ofString "shift")))))
  (dRetE (dMake (sd_Shift___init__ kl) (dCons (dOp dIx (dVar 0) (dC (.int 1))) dNil)))
  dNext)
  (dSeq (dIfS (dTest (dOp dEq (dOp dIx (dVar 0) (dC (.int 0))) (dC (.str (PySem.Str.ofString "scale")))))
  (dRetE (dMake (sd_Scale___init__ kl) (dCons (dOp dIx (dVar 0) (dC (.int 1))) dNil)))
  dNext)
  (dSeq (dIfS (dTest (dOp dEq (dOp dIx (dVar 0) (dC (.int 0))) (dC (.str (PySem.Str.ofString "floor")))))
  (dRetE (dMake (sd_Floor___init__ kl) (dCons (dOp dIx (dVar 0) (dC (.int 1))) dNil)))
  dNext)
  (dSeq (dIfS (dTest (dOp dEq (dOp dIx (dVar 0) (dC (.int 0))) (dC (.str (PySem.Str.ofString "clip")))))
  (dRetE (dMake (sd_Clip___init__ kl) (dCons (dOp dIx (dVar 0) (dC (.int 1))) (dCons (dOp dIx (dVar 0) (dC (.int 2))) dNil))))
  dNext)
  (dSeq (dIfS (dTest (dOp dEq (dOp dIx (dVar 0) (dC (.int 0))) (dC (.str (PySem.Str.ofString "sign")))))
  (dRetE (dMake (sd_Sign___init__ kl) dNil))
  dNext)
  (dRetE (dBare kl.Step)))))))
theorem len__law_built (kl : Kl) : ∀ as Q E, sd__law_built kl as Q E → as.length = 1 := by
  rintro _ _ _ ⟨_, rfl, _⟩
  rfl
theorem pure__law_built (kl : Kl) : ∀ as Q E, sd__law_built kl as Q E → d__law_built kl (dEnds Q E) (startD 1 as) := by
  rintro as Q E ⟨d, rfl, ho, hq⟩
  cases d with
  | shift b =>
    refine ⟨_, atI0, _, _, rfl, rfl, by decide +kernel, by decide +kernel, ?_⟩
    exact ⟨_, atI1, b, rfl, ho.1, ho.2, hq⟩
  | scale b =>
    refine ⟨_, atI0, _, _, rfl, rfl, by decide +kernel, by decide +kernel, ?_⟩
    refine ⟨_, atI0, _, _, rfl, rfl, by decide +kernel, by decide +kernel, ?_⟩
    exact ⟨_, atI1, b, rfl, ho.1, ho.2.1, ho.2.2, hq⟩
  | floor b =>
    refine ⟨_, atI0, _, _, rfl, rfl, by decide +kernel, by decide +kernel, ?_⟩
    refine ⟨_, atI0, _, _, rfl, rfl, by decide +kernel, by decide +kernel, ?_⟩
    refine ⟨_, atI0, _, _, rfl, rfl, by decide +kernel, by decide +kernel, ?_⟩
    exact ⟨_, atI1, b, rfl, ho.1, ho.2, hq⟩
  | clip a b =>
    refine ⟨_, atI0, _, _, rfl, rfl, by decide +kernel, by decide +kernel, ?_⟩
    refine ⟨_, atI0, _, _, rfl, rfl, by decide +kernel, by decide +kernel, ?_⟩
    refine ⟨_, atI0, _, _, rfl, rfl, by decide +kernel, by decide +kernel, ?_⟩
    refine ⟨_, atI0, _, _, rfl, rfl, by decide +kernel, by decide +kernel, ?_⟩
    exact ⟨_, atI1, _, atI2, a, b, rfl, ho.1, ho.2.1, ho.2.2, hq⟩
  | sign =>
    refine ⟨_, atI0, _, _, rfl, rfl, by decide +kernel, by decide +kernel, ?_⟩
    refine ⟨_, atI0, _, _, rfl, rfl, by decide +kernel, by decide +kernel, ?_⟩
    refine ⟨_, atI0, _, _, rfl, rfl, by decide +kernel, by decide +kernel, ?_⟩
    refine ⟨_, atI0, _, _, rfl, rfl, by decide +kernel, by decide +kernel, ?_⟩
    refine ⟨_, atI0, _, _, rfl, rfl, by decide +kernel, by decide +kernel, ?_⟩
    exact ⟨rfl, hq⟩
  | step =>
    refine ⟨_, atI0, _, _, rfl, rfl, by decide +kernel, by decide +kernel, ?_⟩
    refine ⟨_, atI0, _, _, rfl, rfl, by decide +kernel, by decide +kernel, ?_⟩
    refine ⟨_, atI0, _, _, rfl, rfl, by decide +kernel, by decide +kernel, ?_⟩
    refine ⟨_, atI0, _, _, rfl, rfl, by decide +kernel, by decide +kernel, ?_⟩
    refine ⟨_, atI0, _, _, rfl, rfl, by decide +kernel, by decide +kernel, ?_⟩
    exact hq
def sd__law_image : Sd := fun as Q _ => ∃ (d : Deed) (n : Int), as = [d.dt, .v (.int n)] ∧ d.ok ∧ Q (.v (.int (d.img n)))
def d__law_image : DS := (dSeq (dIfS (dTest (dOp dEq (dOp dIx (dVar 0) (dC (.int 0))) (dC (.str (PySem.Str.ofString "shift")))))
  (dRetE (dOp dAdd (dVar 1) (dOp dIx (dVar 0) (dC (.int 1)))))
  dNext)
  (dSeq (dIfS (dTest (dOp dEq (dOp dIx (dVar 0) (dC (.int 0))) (dC (.str (PySem.Str.ofString "scale")))))
  (dRetE (dOp dMul (dVar 1) (dOp dIx (dVar 0) (dC (.int 1)))))
  dNext)
  (dSeq (dIfS (dTest (dOp dEq (dOp dIx (dVar 0) (dC (.int 0))) (dC (.str (PySem.Str.ofString "floor")))))
  (dRetE (dOp dFdiv (dVar 1) (dOp dIx (dVar 0) (dC (.int 1)))))
  dNext)
  (dSeq (dIfS (dOr (dTest (dOp dEq (dOp dIx (dVar 0) (dC (.int 0))) (dC (.str (PySem.Str.ofString "clip"))))) (dTest (dOp dEq (dOp dIx (dVar 0) (dC (.int 0))) (dC (.str (PySem.Str.ofString "sign"))))))
  (dSeq (dIfS (dTest (dOp dLt (dVar 1) (dOp dIx (dVar 0) (dC (.int 1)))))
  (dRetE (dOp dIx (dVar 0) (dC (.int 1))))
  dNext)
  (dIfS (dTest (dOp dGt (dVar 1) (dOp dIx (dVar 0) (dC (.int 2)))))
  (dRetE (dOp dIx (dVar 0) (dC (.int 2))))
  dNext))
  dNext)
  (dRet (dVar 1))))))
theorem len__law_image : ∀ as Q E, sd__law_image as Q E → as.length = 2 := by
  rintro _ _ _ ⟨_, _, rfl, _⟩
  rfl
theorem pure__law_image : ∀ as Q E, sd__law_image as Q E → d__law_image (dEnds Q E) (startD 2 as) := by
  rintro as Q E ⟨d, n, rfl, ho, hq⟩
  cases d with
  | shift b =>
    refine ⟨_, atI0, _, _, rfl, rfl, by decide +kernel, by decide +kernel, ?_⟩
    exact ⟨_, atI1, hq⟩
  | scale b =>
    refine ⟨_, atI0, _, _, rfl, rfl, by decide +kernel, by decide +kernel, ?_⟩
    refine ⟨_, atI0, _, _, rfl, rfl, by decide +kernel, by decide +kernel, ?_⟩
    have h1 := ho.2.1
    have h2 := ho.2.2
    exact ⟨_, atI1, .inr (.inl ⟨by omega, by omega⟩), hq⟩
  | floor b =>
    refine ⟨_, atI0, _, _, rfl, rfl, by decide +kernel, by decide +kernel, ?_⟩
    refine ⟨_, atI0, _, _, rfl, rfl, by decide +kernel, by decide +kernel, ?_⟩
    refine ⟨_, atI0, _, _, rfl, rfl, by decide +kernel, by decide +kernel, ?_⟩
    have h1 := ho.1
    have h2 := ho.2
    exact ⟨_, atI1, ⟨by omega, by omega⟩, hq⟩
  | clip a b =>
    have h2 := ho.2.1
    refine ⟨_, atI0, _, _, rfl, rfl, by decide +kernel, by decide +kernel, ?_⟩
    refine ⟨_, atI0, _, _, rfl, rfl, by decide +kernel, by decide +kernel, ?_⟩
    refine ⟨_, atI0, _, _, rfl, rfl, by decide +kernel, by decide +kernel, ?_⟩
    refine ⟨_, atI0, _, _, rfl, rfl, by decide +kernel, by decide +kernel, ?_⟩
    refine ⟨_, atI1, iteD (fun h => ?_) (fun h => ?_)⟩
    · have h : n < a := h
      have e : Deed.img (.clip a b) n = a := by show max a (min b n) = a; omega
      rw [e] at hq
      exact ⟨_, atI1, hq⟩
    · have h : ¬ n < a := h
      refine ⟨_, atI2, iteD (fun h3 => ?_) (fun h3 => ?_)⟩
      · have h3 : b < n := h3
        have e : Deed.img (.clip a b) n = b := by show max a (min b n) = b; omega
        rw [e] at hq
        exact ⟨_, atI2, hq⟩
      · have h3 : ¬ b < n := h3
        have e : Deed.img (.clip a b) n = n := by show max a (min b n) = n; omega
        rw [e] at hq
        exact hq
  | sign =>
    refine ⟨_, atI0, _, _, rfl, rfl, by decide +kernel, by decide +kernel, ?_⟩
    refine ⟨_, atI0, _, _, rfl, rfl, by decide +kernel, by decide +kernel, ?_⟩
    refine ⟨_, atI0, _, _, rfl, rfl, by decide +kernel, by decide +kernel, ?_⟩
    refine ⟨_, atI0, _, _, rfl, rfl, by decide +kernel, by decide +kernel, ?_⟩
    refine ⟨_, atI0, _, _, rfl, rfl, by decide +kernel, by decide +kernel, ?_⟩
    refine ⟨_, atI1, iteD (fun h => ?_) (fun h => ?_)⟩
    · have h : n < -1 := h
      have e : Deed.img .sign n = -1 := by show max (-1) (min 1 n) = -1; omega
      rw [e] at hq
      exact ⟨_, atI1, hq⟩
    · have h : ¬ n < -1 := h
      refine ⟨_, atI2, iteD (fun h3 => ?_) (fun h3 => ?_)⟩
      · have h3 : 1 < n := h3
        have e : Deed.img .sign n = 1 := by show max (-1) (min 1 n) = 1; omega
        rw [e] at hq
        exact ⟨_, atI2, hq⟩
      · have h3 : ¬ 1 < n := h3
        have e : Deed.img .sign n = n := by show max (-1) (min 1 n) = n; omega
        rw [e] at hq
        exact hq
  | step =>
    refine ⟨_, atI0, _, _, rfl, rfl, by decide +kernel, by decide +kernel, ?_⟩
    refine ⟨_, atI0, _, _, rfl, rfl, by decide +kernel, by decide +kernel, ?_⟩
    refine ⟨_, atI0, _, _, rfl, rfl, by decide +kernel, by decide +kernel, ?_⟩
    refine ⟨_, atI0, _, _, rfl, rfl, by decide +kernel, by decide +kernel, ?_⟩
    refine ⟨_, atI0, _, _, rfl, rfl, by decide +kernel, by decide +kernel, ?_⟩
    exact hq

/-! ### Sign: its methods call those of Clip -/
def sd_ClipS (kl : Kl) : Sd := fun as Q _ => ∃ a b : Int, as = [.v (.int a), .v (.int b)] ∧ -(10 ^ 18) ≤ a ∧ a ≤ b ∧ b ≤ 10 ^ 18 ∧ Q (clD kl.Sign a b)
theorem pure_ClipS (kl : Kl) : ∀ p as Q E, sd_ClipS kl as Q E → d_Clip___init__ kl (dEndsI p kl.Sign Q E) (startI p kl.Sign 3 as) := by
  rintro p as Q E ⟨a, b, rfl, h1, h2, h3, hq⟩
  refine iteD (fun h => by omega) (fun _ => ?_)
  refine iteD (fun h => by omega) (fun _ => ?_)
  refine iteD (fun h => by omega) (fun _ => ?_)
  refine iteD (fun h => by omega) (fun _ => ?_)
  refine iteD (fun h => by omega) (fun _ => ?_)
  refine ⟨_, _, _, rfl, by simp, by decide, ?_⟩
  exact ⟨_, _, _, rfl, by simp, (by decide : (1 : Nat) < 1000), _, rfl, hq⟩
theorem len_Sign___init__ (kl : Kl) : ∀ as Q E, sd_Sign___init__ kl as Q E → as.length = 0 := by
  rintro _ _ _ ⟨rfl, _⟩
  rfl
theorem len_Sign_image (kl : Kl) : ∀ as Q E, sd_Sign_image kl as Q E → as.length = 2 := by
  rintro _ _ _ ⟨_, rfl, _⟩
  rfl

def tb_image (kl : Kl) : List (Addr × Sd) := [(kl.Step, sd_Step_image kl), (kl.Shift, sd_Shift_image kl), (kl.Scale, sd_Scale_image kl), (kl.Floor, sd_Floor_image kl), (kl.Clip, sd_Clip_image kl), (kl.Sign, sd_Sign_image kl)]
theorem img_of (kl : Kl) (d : Deed) (n : Int) (ho : d.ok) : ∃ C gs sd, Sl.dat (d.obj kl) = .dat (.obj C gs) ∧ (C, sd) ∈ tb_image kl ∧ gs.lookup ("image" : Str) = none ∧ ∀ (Q : Dt → Prop) (E : Xn → Prop), Q (.v (.int (d.img n))) → sd [.obj C gs, .v (.int n)] Q E := by
  cases d with
  | step => exact ⟨_, _, sd_Step_image kl, rfl, by simp [tb_image], rfl, fun Q E q => ⟨n, rfl, q⟩⟩
  | shift b => exact ⟨_, _, sd_Shift_image kl, rfl, by simp [tb_image], rfl, fun Q E q => ⟨b, n, rfl, q⟩⟩
  | scale b => exact ⟨_, _, sd_Scale_image kl, rfl, by simp [tb_image], rfl, fun Q E q => ⟨b, n, rfl, ho.2.1, ho.2.2, q⟩⟩
  | floor b => exact ⟨_, _, sd_Floor_image kl, rfl, by simp [tb_image], rfl, fun Q E q => ⟨b, n, rfl, ho.1, ho.2, q⟩⟩
  | clip a b => exact ⟨_, _, sd_Clip_image kl, rfl, by simp [tb_image], rfl, fun Q E q => ⟨_, a, b, n, rfl, by simp, q⟩⟩
  | sign => exact ⟨_, _, sd_Sign_image kl, rfl, by simp [tb_image], rfl, fun Q E q => ⟨n, rfl, q⟩⟩


/-! ### stretches as pairs: their numbers, the normal form -/
abbrev Pr := Int × Int
def In (ps : List Pr) (x : Int) : Prop := ∃ p ∈ ps, p.1 ≤ x ∧ x ≤ p.2
theorem In_nil (x : Int) : ¬ In [] x := fun ⟨_, h, _⟩ => by cases h
theorem In_cons {p : Pr} {ps : List Pr} {x : Int} : In (p :: ps) x ↔ (p.1 ≤ x ∧ x ≤ p.2) ∨ In ps x := by
  constructor
  · rintro ⟨q, h, h2⟩
    rcases List.mem_cons.mp h with e | h
    · subst e
      exact .inl h2
    · exact .inr ⟨q, h, h2⟩
  · rintro (h | ⟨q, h, h2⟩)
    · exact ⟨p, List.mem_cons_self, h⟩
    · exact ⟨q, List.mem_cons_of_mem _ h, h2⟩
theorem In_append {ps qs : List Pr} {x : Int} : In (ps ++ qs) x ↔ In ps x ∨ In qs x := by
  constructor
  · rintro ⟨q, h, h2⟩
    rcases List.mem_append.mp h with h | h
    · exact .inl ⟨q, h, h2⟩
    · exact .inr ⟨q, h, h2⟩
  · rintro (⟨q, h, h2⟩ | ⟨q, h, h2⟩)
    · exact ⟨q, List.mem_append_left _ h, h2⟩
    · exact ⟨q, List.mem_append_right _ h, h2⟩
theorem In_perm {ps qs : List Pr} (e : ps.Perm qs) (x : Int) : In ps x ↔ In qs x := ⟨fun ⟨p, h, h2⟩ => ⟨p, e.mem_iff.mp h, h2⟩, fun ⟨p, h, h2⟩ => ⟨p, e.mem_iff.mpr h, h2⟩⟩
theorem In_reverse {ps : List Pr} (x : Int) : In ps.reverse x ↔ In ps x := In_perm (List.reverse_perm ps) x
def Ok (ps : List Pr) : Prop := ∀ p ∈ ps, p.1 ≤ p.2
def Lim (ps : List Pr) : Prop := ∀ p ∈ ps, -(10 ^ 18) ≤ p.1 ∧ p.2 ≤ 10 ^ 18
def NF (ps : List Pr) : Prop := Ok ps ∧ ps.Pairwise fun p q => p.2 + 1 < q.1
theorem NF.tail {p : Pr} {ps : List Pr} (h : NF (p :: ps)) : NF ps := ⟨fun q m => h.1 q (List.mem_cons_of_mem _ m), (List.pairwise_cons.mp h.2).2⟩
theorem NF.far {p : Pr} {ps : List Pr} (h : NF (p :: ps)) {x : Int} (i : In ps x) : p.2 + 1 < x := by
  obtain ⟨q, m, h1, h2⟩ := i
  have := (List.pairwise_cons.mp h.2).1 q m
  omega
theorem NF.low {p : Pr} {ps : List Pr} (h : NF (p :: ps)) {x : Int} (i : In (p :: ps) x) : p.1 ≤ x := by
  rcases In_cons.mp i with i | i
  · exact i.1
  · have := h.far i
    have := h.1 p List.mem_cons_self
    omega
theorem NF.uniq : ∀ {ps qs : List Pr}, NF ps → NF qs → (∀ x, In ps x ↔ In qs x) → ps = qs
  | [], [], _, _, _ => rfl
  | [], q :: qs, _, h2, e => absurd ((e q.1).mpr ⟨q, List.mem_cons_self, Int.le_refl _, h2.1 q List.mem_cons_self⟩) (In_nil _)
  | p :: ps, [], h1, _, e => absurd ((e p.1).mp ⟨p, List.mem_cons_self, Int.le_refl _, h1.1 p List.mem_cons_self⟩) (In_nil _)
  | p :: ps, q :: qs, h1, h2, e => by
    have op := h1.1 p List.mem_cons_self
    have oq := h2.1 q List.mem_cons_self
    have a1 := h2.low ((e p.1).mp (In_cons.mpr (.inl ⟨Int.le_refl _, op⟩)))
    have a2 := h1.low ((e q.1).mpr (In_cons.mpr (.inl ⟨Int.le_refl _, oq⟩)))
    have b1 : ¬ p.2 < q.2 := fun z => by
      rcases In_cons.mp ((e (p.2 + 1)).mpr (In_cons.mpr (.inl ⟨by omega, by omega⟩))) with i | i
      · omega
      · have := h1.far i
        omega
    have b2 : ¬ q.2 < p.2 := fun z => by
      rcases In_cons.mp ((e (q.2 + 1)).mp (In_cons.mpr (.inl ⟨by omega, by omega⟩))) with i | i
      · omega
      · have := h2.far i
        omega
    have ep : p = q := Prod.ext (by omega) (by omega)
    subst ep
    rw [NF.uniq h1.tail h2.tail fun x => ?_]
    constructor
    · intro i
      rcases In_cons.mp ((e x).mp (In_cons.mpr (.inr i))) with j | j
      · have := h1.far i
        omega
      · exact j
    · intro i
      rcases In_cons.mp ((e x).mpr (In_cons.mpr (.inr i))) with j | j
      · have := h2.far i
        omega
      · exact j
/-- one more stretch; the last one comes first -/
def push (acc : List Pr) (p : Pr) : List Pr := match acc with
  | [] => [p]
  | b :: t => if p.1 ≤ b.2 + 1 then (b.1, max b.2 p.2) :: t else p :: b :: t
def RNF (acc : List Pr) : Prop := Ok acc ∧ acc.Pairwise fun q p => p.2 + 1 < q.1
theorem RNF.nf {acc : List Pr} (h : RNF acc) : NF acc.reverse := ⟨fun p m => h.1 p (List.mem_reverse.mp m), List.pairwise_reverse.mpr h.2⟩
theorem push_ok {acc : List Pr} {p : Pr} (h : RNF acc) (hp : p.1 ≤ p.2) (hl : ∀ b t, acc = b :: t → b.1 ≤ p.1) : RNF (push acc p) ∧ (∀ x, In (push acc p) x ↔ In acc x ∨ (p.1 ≤ x ∧ x ≤ p.2)) ∧ (∀ b t, push acc p = b :: t → b.1 ≤ p.1) ∧ (push acc p).length ≤ acc.length + 1 := by
  cases acc with
  | nil =>
    refine ⟨⟨fun q m => ?_, List.pairwise_singleton _ _⟩, fun x => ?_, fun b t e => ?_, by simp [push]⟩
    · have e : q = p := by simpa [push] using m
      rw [e]
      exact hp
    · rw [show push [] p = [p] from rfl, In_cons]
      simp [In_nil]
    · cases e
      exact Int.le_refl _
  | cons b t =>
    have hb := hl b t rfl
    have ob := h.1 b List.mem_cons_self
    obtain ⟨h2, h3⟩ := List.pairwise_cons.mp h.2
    unfold push
    by_cases q : p.1 ≤ b.2 + 1
    · simp only [if_pos q]
      refine ⟨⟨fun r m => ?_, List.pairwise_cons.mpr ⟨fun r m => h2 r m, h3⟩⟩, fun x => ?_, fun c u e => ?_, by simp⟩
      · rcases List.mem_cons.mp m with e | m
        · subst e
          show b.1 ≤ max b.2 p.2
          omega
        · exact h.1 r (List.mem_cons_of_mem _ m)
      · rw [In_cons, In_cons]
        show (b.1 ≤ x ∧ x ≤ max b.2 p.2) ∨ _ ↔ _
        constructor
        · rintro (i | i)
          · by_cases z : x ≤ b.2
            · exact .inl (.inl ⟨i.1, z⟩)
            · exact .inr (by omega)
          · exact .inl (.inr i)
        · rintro ((i | i) | i)
          · exact .inl (by omega)
          · exact .inr i
          · exact .inl (by omega)
      · cases e
        exact hb
    · simp only [if_neg q]
      refine ⟨⟨fun r m => ?_, List.pairwise_cons.mpr ⟨fun r m => ?_, h.2⟩⟩, fun x => ?_, fun c u e => ?_, by simp⟩
      · rcases List.mem_cons.mp m with e | m
        · rw [e]
          exact hp
        · exact h.1 r m
      · rcases List.mem_cons.mp m with e | m
        · rw [e]
          omega
        · have := h2 r m
          omega
      · rw [In_cons]
        exact Or.comm
      · cases e
        exact Int.le_refl _
theorem pushes_ok : ∀ (qs acc : List Pr), RNF acc → (∀ q ∈ qs, q.1 ≤ q.2) → (∀ q ∈ qs, ∀ b t, acc = b :: t → b.1 ≤ q.1) → qs.Pairwise (fun p q => p.1 ≤ q.1) → RNF (qs.foldl push acc) ∧ (∀ x, In (qs.foldl push acc) x ↔ In acc x ∨ In qs x) ∧ (qs.foldl push acc).length ≤ acc.length + qs.length
  | [], acc, h, _, _, _ => ⟨h, fun x => by simp [In_nil], by simp⟩
  | q :: qs, acc, h, ho, hl, hs => by
    obtain ⟨s1, s2⟩ := List.pairwise_cons.mp hs
    obtain ⟨h1, h2, h3, h4⟩ := push_ok h (ho q List.mem_cons_self) (hl q List.mem_cons_self)
    obtain ⟨k1, k2, k3⟩ := pushes_ok qs (push acc q) h1 (fun r m => ho r (List.mem_cons_of_mem _ m)) (fun r m b t e => by
      have := h3 b t e
      have := s1 r m
      omega) s2
    refine ⟨k1, fun x => ?_, by simp only [List.foldl_cons, List.length_cons]; omega⟩
    rw [List.foldl_cons, k2, h2, In_cons]
    constructor
    · rintro ((i | i) | i)
      · exact .inl i
      · exact .inr (.inl i)
      · exact .inr (.inr i)
    · rintro (i | i | i)
      · exact .inl (.inl i)
      · exact .inl (.inr i)
      · exact .inr i
theorem srtd_low {qs : List Pr} (h : SrtO.Srtd SrtO.lexB qs) : qs.Pairwise (fun p q => p.1 ≤ q.1) := by
  refine List.Pairwise.imp (fun {p q} z => ?_) h
  have z2 : ¬ (q.1 < p.1 ∨ (q.1 = p.1 ∧ q.2 < p.2)) := fun w => by
    have := SrtO.lexB_iff.mpr w
    rw [this] at z
    cases z
  omega
def isSq (d : Dt) (ps : List Pr) : Prop := d = .lst (ps.map prD) ∨ d = .tup (ps.map prD)

/-! ### what two sets share, what a set lacks -/
def app (res : List Pr) (lo hi : Int) : List Pr := if lo ≤ hi then res ++ [(lo, hi)] else res
theorem In_app {res : List Pr} {lo hi x : Int} : In (app res lo hi) x ↔ In res x ∨ (lo ≤ x ∧ x ≤ hi) := by
  unfold app
  by_cases h : lo ≤ hi
  · rw [if_pos h, In_append, In_cons]
    simp [In_nil]
  · rw [if_neg h]
    constructor
    · exact .inl
    · rintro (i | i)
      · exact i
      · omega
theorem NF.drop {ps : List Pr} (h : NF ps) (i : Nat) : NF (ps.drop i) := ⟨fun p m => h.1 p (List.mem_of_mem_drop m), h.2.sublist (List.drop_sublist i ps)⟩
theorem drop_at {α : Type} {xs : List α} {i : Nat} {p : α} (h : xs[i]? = some p) : xs.drop i = p :: xs.drop (i + 1) := by
  rw [List.drop_eq_getElem_cons (List.getElem?_eq_some_iff.mp h).1, (List.getElem?_eq_some_iff.mp h).2]
def CI (l r res : List Pr) (i j : Nat) : Prop := i ≤ l.length ∧ j ≤ r.length ∧ res.length ≤ i + j ∧ Ok res ∧ Lim res ∧ ∀ x, (In l x ∧ In r x) ↔ In res x ∨ (In (l.drop i) x ∧ In (r.drop j) x)
theorem ci_next {l r res : List Pr} {i j : Nat} {a b : Pr} (hl : NF l) (hr : NF r) (lim : Lim l) (h : CI l r res i j) (ha : l[i]? = some a) (hb : r[j]? = some b) :
    (a.2 < b.2 → CI l r (app res (max a.1 b.1) (min a.2 b.2)) (i + 1) j) ∧ (¬ a.2 < b.2 → CI l r (app res (max a.1 b.1) (min a.2 b.2)) i (j + 1)) := by
  obtain ⟨h1, h2, h3, h4, h5, h6⟩ := h
  have li := (List.getElem?_eq_some_iff.mp ha).1
  have lj := (List.getElem?_eq_some_iff.mp hb).1
  have na := hl.drop i
  have nb := hr.drop j
  rw [drop_at ha] at na
  rw [drop_at hb] at nb
  have lima := lim a (List.mem_of_getElem? ha)
  have len : (app res (max a.1 b.1) (min a.2 b.2)).length ≤ i + j + 1 := by
    unfold app
    split
    · simp; omega
    · omega
  have ok : Ok (app res (max a.1 b.1) (min a.2 b.2)) := fun q m => by
    unfold app at m
    split at m
    · rcases List.mem_append.mp m with m | m
      · exact h4 q m
      · have e : q = (max a.1 b.1, min a.2 b.2) := by simpa using m
        rw [e]
        assumption
    · exact h4 q m
  have lm : Lim (app res (max a.1 b.1) (min a.2 b.2)) := fun q m => by
    unfold app at m
    split at m
    · rcases List.mem_append.mp m with m | m
      · exact h5 q m
      · have e : q = (max a.1 b.1, min a.2 b.2) := by simpa using m
        rw [e]
        show -(10 ^ 18) ≤ max a.1 b.1 ∧ min a.2 b.2 ≤ 10 ^ 18
        omega
    · exact h5 q m
  refine ⟨fun q => ⟨by omega, h2, by omega, ok, lm, fun x => ?_⟩, fun q => ⟨h1, by omega, by omega, ok, lm, fun x => ?_⟩⟩
  · rw [h6, In_app, drop_at ha, drop_at hb, In_cons (p := a), In_cons (p := b)]
    constructor
    · rintro (i | ⟨i | i, k | k⟩)
      · exact .inl (.inl i)
      · exact .inl (.inr (by omega))
      · have := nb.far k
        omega
      · exact .inr ⟨i, .inl k⟩
      · exact .inr ⟨i, .inr k⟩
    · rintro ((i | i) | ⟨i, k⟩)
      · exact .inl i
      · exact .inr ⟨.inl (by omega), .inl (by omega)⟩
      · exact .inr ⟨.inr i, k⟩
  · rw [h6, In_app, drop_at ha, drop_at hb, In_cons (p := a), In_cons (p := b)]
    constructor
    · rintro (i | ⟨i | i, k | k⟩)
      · exact .inl (.inl i)
      · exact .inl (.inr (by omega))
      · exact .inr ⟨.inl i, k⟩
      · have := na.far i
        omega
      · exact .inr ⟨.inr i, k⟩
    · rintro ((i | i) | ⟨i, k⟩)
      · exact .inl i
      · exact .inr ⟨.inl (by omega), .inl (by omega)⟩
      · exact .inr ⟨i, .inr k⟩
theorem ci_end {l r res : List Pr} {i j : Nat} (h : CI l r res i j) (e : l.length ≤ i ∨ r.length ≤ j) (x : Int) : In res x ↔ In l x ∧ In r x := by
  rw [h.2.2.2.2.2 x]
  constructor
  · exact .inl
  · rintro (k | ⟨k1, k2⟩)
    · exact k
    · rcases e with e | e
      · rw [List.drop_eq_nil_of_le e] at k1
        exact absurd k1 (In_nil x)
      · rw [List.drop_eq_nil_of_le e] at k2
        exact absurd k2 (In_nil x)
def GI (ps res : List Pr) (s : Int) (k : Nat) : Prop := (-(10 ^ 18) ≤ s ∧ s ≤ 10 ^ 18 + 1) ∧ NF res ∧ (∀ q ∈ res, -(10 ^ 18) ≤ q.1 ∧ q.2 + 1 < s) ∧ (∀ x, In res x ↔ (-(10 ^ 18) ≤ x ∧ x < s) ∧ ¬ In (ps.take k) x) ∧ (∀ x, In (ps.take k) x → x < s) ∧ (∀ q ∈ ps.drop k, s ≤ q.1) ∧ res.length ≤ k
theorem NF.snoc {res : List Pr} {lo hi s : Int} (h : NF res) (h2 : ∀ q ∈ res, q.2 + 1 < s) (h3 : s ≤ lo) (h4 : lo ≤ hi) : NF (res ++ [(lo, hi)]) := by
  refine ⟨fun q m => ?_, List.pairwise_append.mpr ⟨h.2, List.pairwise_singleton _ _, fun p m q m2 => ?_⟩⟩
  · rcases List.mem_append.mp m with m | m
    · exact h.1 q m
    · have e : q = (lo, hi) := by simpa using m
      rw [e]
      exact h4
  · have e : q = (lo, hi) := by simpa using m2
    rw [e]
    have := h2 p m
    show p.2 + 1 < lo
    omega
theorem gi_next {ps res : List Pr} {s : Int} {k : Nat} {p : Pr} (hn : NF ps) (hl : Lim ps) (h : GI ps res s k) (hp : ps[k]? = some p) : GI ps (app res s (p.1 - 1)) (p.2 + 1) (k + 1) := by
  obtain ⟨h1, h2, h3, h4, h5, h6, h7⟩ := h
  have nd := hn.drop k
  rw [drop_at hp] at nd h6
  have op := nd.1 p List.mem_cons_self
  have lp := hl p (List.mem_of_getElem? hp)
  have sp := h6 p List.mem_cons_self
  have ti : ∀ x, In (ps.take (k + 1)) x ↔ In (ps.take k) x ∨ (p.1 ≤ x ∧ x ≤ p.2) := fun x => by
    rw [show ps.take (k + 1) = ps.take k ++ [p] by rw [List.take_add_one, hp]; rfl, In_append, In_cons]
    simp [In_nil]
  refine ⟨by omega, ?_, fun q m => ?_, fun x => ?_, fun x i => ?_, fun q m => ?_, ?_⟩
  · unfold app
    split
    · exact h2.snoc (fun q m => (h3 q m).2) (Int.le_refl _) (by assumption)
    · exact h2
  · unfold app at m
    split at m
    · rcases List.mem_append.mp m with m | m
      · have := h3 q m
        omega
      · have e : q = (s, p.1 - 1) := by simpa using m
        rw [e]
        show -(10 ^ 18) ≤ s ∧ p.1 - 1 + 1 < p.2 + 1
        omega
    · have := h3 q m
      omega
  · rw [In_app, h4, ti]
    constructor
    · rintro (⟨a, b⟩ | a)
      · exact ⟨by omega, fun z => z.elim b (by omega)⟩
      · refine ⟨by omega, fun z => z.elim (fun z => ?_) (by omega)⟩
        have := h5 x z
        omega
    · rintro ⟨a, b⟩
      by_cases c : x < s
      · exact .inl ⟨by omega, fun z => b (.inl z)⟩
      · refine .inr ⟨by omega, ?_⟩
        by_cases d : x ≤ p.1 - 1
        · exact d
        · exact absurd (.inr (by omega)) b
  · rcases (ti x).mp i with i | i
    · have := h5 x i
      omega
    · omega
  · have := (List.pairwise_cons.mp nd.2).1 q m
    omega
  · unfold app
    split
    · simp; omega
    · omega
theorem gi_end {ps res : List Pr} {s : Int} {k : Nat} (h : GI ps res s k) (e : ps.length ≤ k) : NF (app res s (10 ^ 18)) ∧ Lim (app res s (10 ^ 18)) ∧ (∀ x, In (app res s (10 ^ 18)) x ↔ (-(10 ^ 18) ≤ x ∧ x ≤ 10 ^ 18) ∧ ¬ In ps x) ∧ (app res s (10 ^ 18)).length ≤ k + 1 := by
  obtain ⟨h1, h2, h3, h4, h5, h6, h7⟩ := h
  rw [List.take_of_length_le e] at h4 h5
  refine ⟨?_, fun q m => ?_, fun x => ?_, ?_⟩
  · unfold app
    split
    · exact h2.snoc (fun q m => (h3 q m).2) (Int.le_refl _) (by assumption)
    · exact h2
  · unfold app at m
    split at m
    · rcases List.mem_append.mp m with m | m
      · have := h3 q m
        omega
      · have e : q = (s, 10 ^ 18) := by simpa using m
        rw [e]
        exact ⟨h1.1, Int.le_refl _⟩
    · have := h3 q m
      omega
  · rw [In_app, h4]
    constructor
    · rintro (⟨a, b⟩ | a)
      · exact ⟨by omega, b⟩
      · refine ⟨by omega, fun z => ?_⟩
        have := h5 x z
        omega
    · rintro ⟨a, b⟩
      by_cases c : x < s
      · exact .inl ⟨by omega, b⟩
      · exact .inr (by omega)
  · unfold app
    split
    · simp; omega
    · omega


/-! ### stretches.py -/
theorem at2a {a b : Dt} : atI [a, b] 0 = some a := rfl
theorem at2b {a b : Dt} : atI [a, b] 1 = some b := rfl
theorem atLast {xs : List Dt} {a : Dt} : atI (xs ++ [a]) (-1) = some a := by
  unfold atI ixN
  rw [if_neg (by omega), if_pos (by rw [List.length_append, List.length_singleton]; omega)]
  simp
  rw [show (-1 + ((xs.length : Int) + 1)).toNat = xs.length by omega]
  simp
theorem iteLast {A B : Prop} {xs : List Dt} {a : Dt} (h : A) : if (!(xs ++ [a]).isEmpty) = true then A else B := by
  rw [if_pos (by simp)]
  exact h
theorem mx {a b : Int} : (if b > a then b else a) = max a b := by split <;> omega
theorem mn {a b : Int} : (if b < a then b else a) = min a b := by split <;> omega
theorem get_map {α : Type} {f : α → Dt} {xs : List α} {i : Nat} {x : Dt} (h : (xs.map f)[i]? = some x) : ∃ p, xs[i]? = some p ∧ x = f p := by
  rw [List.getElem?_map] at h
  cases q : xs[i]? with
  | none => rw [q] at h; cases h
  | some p => rw [q] at h; cases h; exact ⟨p, rfl, rfl⟩
theorem at_map {α : Type} {f : α → Dt} {xs : List α} {i : Nat} {j : Int} {p : α} (e : j = (i : Int)) (h : xs[i]? = some p) : atI (xs.map f) j = some (f p) := atI_of e (by rw [List.getElem?_map, h]; rfl)
theorem take_next {α : Type} {xs : List α} {i : Nat} {p : α} (h : xs[i]? = some p) : xs.take (i + 1) = xs.take i ++ [p] := by
  rw [List.take_add_one, h]
  rfl

def sd_joined : Sd := fun as Q _ => ∃ ps : List Pr, as = [.lst (ps.map prD)] ∧ Ok ps ∧ ps.length ≤ 90000 ∧ ∀ qs, NF qs → (∀ x, In qs x ↔ In ps x) → qs.length ≤ ps.length → Q (.tup (qs.map prD))
def d_joined : DS := (dSeq (dOwn 1 dNil)
  (dSeq (dFor (iSeq (dCB dSortP (dCons (dVar 0) dNil))) (gdSq 2 (gdCons (gdName 2) (gdCons (gdName 3) gdNil)))
  (dIfS (dAnd (dTru (dVar 1)) (dTest (dOp dLe (dVar 2) (dOp dAdd (dOp dIx (dOp dIx (dVar 1) (dUn dNeg (dC (.int 1)))) (dC (.int 1))) (dC (.int 1))))))
  (dSeq (dPop 1 4)
  (dApp 1 (dTup (dCons (dOp dIx (dVar 4) (dC (.int 0))) (dCons (dCB dMax2 (dCons (dOp dIx (dVar 4) (dC (.int 1))) (dCons (dVar 3) dNil))) dNil)))))
  (dApp 1 (dTup (dCons (dVar 2) (dCons (dVar 3) dNil))))))
  (dFrz 1 (dRetE (dCB dTupleOf (dCons (dVar 1) dNil))))))
theorem len_joined : ∀ as Q E, sd_joined as Q E → as.length = 1 := by
  rintro _ _ _ ⟨_, rfl, _⟩
  rfl
theorem pure_joined : ∀ as Q E, sd_joined as Q E → d_joined (dEnds Q E) (startD 5 as) := by
  rintro as Q E ⟨ps, rfl, ho, hl, hq⟩
  refine ⟨by simp, ?_⟩
  refine ⟨ps, rfl, fun qs hs hp => ?_⟩
  have hlen := hp.length_eq
  have hok : ∀ q ∈ qs, q.1 ≤ q.2 := fun q m => ho q (hp.mem_iff.mp m)
  have pk : ∀ i, RNF ((qs.take i).foldl push []) ∧ (∀ x, In ((qs.take i).foldl push []) x ↔ In [] x ∨ In (qs.take i) x) ∧ ((qs.take i).foldl push []).length ≤ ([] : List Pr).length + (qs.take i).length := fun i =>
    pushes_ok (qs.take i) [] ⟨fun q m => (nomatch m), .nil⟩ (fun q m => hok q (List.mem_of_mem_take m)) (fun q m b t e => nomatch e) ((srtd_low hs).sublist (List.take_sublist i qs))
  have lk : ∀ i, ((qs.take i).foldl push []).length ≤ 90000 := fun i => by
    have := (pk i).2.2
    simp only [List.length_nil, List.length_take] at this
    omega
  refine for_inv (fun i ρ => ∃ L s2 s3 s4, ρ = [.dat (.lst (ps.map prD)), .own L, s2, s3, s4] ∧ L = ((qs.take i).foldl push []).reverse.map prD) ⟨[], _, _, _, rfl, by simp⟩ ?_ ?_
  · rintro i x ρ hx ⟨L, s2, s3, s4, rfl, hL⟩
    obtain ⟨p, hp, rfl⟩ := get_map hx
    have nx : (qs.take (i + 1)).foldl push [] = push ((qs.take i).foldl push []) p := by rw [take_next hp, List.foldl_append]; rfl
    have lk := lk i
    rw [nx]
    generalize (qs.take i).foldl push [] = acc at hL lk
    refine ⟨rfl, rfl, ?_⟩
    cases acc with
    | nil =>
      subst hL
      refine ⟨by simp, by simp, ?_⟩
      exact ⟨_, _, _, _, rfl, rfl⟩
    | cons b t =>
      have hL : L = t.reverse.map prD ++ [prD b] := by rw [hL]; simp
      subst hL
      simp only [List.length_cons] at lk
      refine iteLast ?_
      refine ⟨_, atLast, _, at2b, ?_⟩
      refine iteD (fun h => ?_) (fun h => ?_)
      · have h : p.1 ≤ b.2 + 1 := h
        rw [show push (b :: t) p = (b.1, max b.2 p.2) :: t from if_pos h]
        refine ⟨_, _, rfl, _, at2a, _, at2b, by simp, by simp; omega, ?_⟩
        refine ⟨_, _, _, _, rfl, ?_⟩
        rw [mx]
        simp
      · have h : ¬ p.1 ≤ b.2 + 1 := h
        rw [show push (b :: t) p = p :: b :: t from if_neg h]
        refine ⟨by simp, by simp; omega, ?_⟩
        exact ⟨_, _, _, _, rfl, by simp⟩
  · rintro ρ ⟨L, s2, s3, s4, rfl, rfl⟩
    obtain ⟨k1, k2, k3⟩ := pk (qs.map prD).length
    rw [List.length_map, List.take_length] at k1 k2 k3 ⊢
    refine hq _ k1.nf (fun x => ?_) (by rw [List.length_reverse]; simp only [List.length_nil] at k3; omega)
    rw [In_reverse, k2, In_perm hp]
    simp [In_nil]
/-! ### the constructor -/
def badP (p : Pr) : Bool := decide (p.1 < -(10 ^ 18) ∨ 10 ^ 18 < p.2 ∨ p.2 < p.1)
def badX (kl : Kl) (p : Pr) : Xn := ⟨kl.BadStretch, [("high", .v (.int p.2)), ("low", .v (.int p.1))]⟩
def St (ps : List Pr) : Prop := NF ps ∧ Lim ps
def stD (kl : Kl) (ps : List Pr) : Dt := .slt kl.Stretches (.tup (ps.map prD))
theorem badP_no {p : Pr} (h : badP p = false) : p.1 ≤ p.2 ∧ -(10 ^ 18) ≤ p.1 ∧ p.2 ≤ 10 ^ 18 := by
  have := of_decide_eq_false h
  omega
theorem badP_yes {p : Pr} (h : p.1 < -(10 ^ 18) ∨ 10 ^ 18 < p.2 ∨ p.2 < p.1) : badP p = true := decide_eq_true h
theorem find_at {ps : List Pr} {i : Nat} {p : Pr} (h : ps[i]? = some p) (hb : badP p = true) (hn : ∀ q ∈ ps.take i, badP q = false) : ps.find? badP = some p := by
  rw [← List.take_append_drop i ps, List.find?_append, List.find?_eq_none.mpr (fun q m => by rw [hn q m]; simp)]
  rw [List.drop_eq_getElem_cons (List.getElem?_eq_some_iff.mp h).1, (List.getElem?_eq_some_iff.mp h).2]
  simp [List.find?_cons, hb]
theorem lim_of {ps qs : List Pr} (h1 : Ok qs) (h2 : Lim ps) (e : ∀ x, In qs x ↔ In ps x) : Lim qs := fun q m => by
  obtain ⟨r, m1, a1, a2⟩ := (e q.1).mp ⟨q, m, Int.le_refl _, h1 q m⟩
  obtain ⟨s, m2, b1, b2⟩ := (e q.2).mp ⟨q, m, h1 q m, Int.le_refl _⟩
  have := h2 r m1
  have := h2 s m2
  omega
def Good (ps : List Pr) : Prop := Ok ps ∧ Lim ps
theorem good_find {ps : List Pr} (h : Good ps) : ps.find? badP = none := List.find?_eq_none.mpr fun p m => by
  have := h.1 p m
  have := h.2 p m
  have e : badP p = false := decide_eq_false (by omega)
  rw [e]
  simp
def sd_Stretches___init__ (kl : Kl) : Sd := fun as Q E => ∃ (ps : List Pr) (d : Dt), as = [d] ∧ (d = .lst (ps.map prD) ∨ d = .tup (ps.map prD)) ∧ ps.length ≤ 90000 ∧ (∀ p, ps.find? badP = some p → E (badX kl p)) ∧ (ps.find? badP = none → ∀ qs, St qs → (∀ x, In qs x ↔ In ps x) → qs.length ≤ ps.length → Q (stD kl qs))
def d_Stretches___init__ (kl : Kl) : DS := (dSeqB (dOwn 2 dNil)
  (dSeqB (dFor (iSeq (dVar 1)) (gdSq 2 (gdCons (gdName 3) (gdCons (gdName 4) gdNil)))
  (dSeq (dIfS (dOr (dTest (dOp dLt (dVar 3) (dUn dNeg (dC (.int 1000000000000000000))))) (dOr (dTest (dOp dGt (dVar 4) (dC (.int 1000000000000000000)))) (dTest (dOp dGt (dVar 3) (dVar 4)))))
  (dRaise kl.BadStretch ["low", "high"] (dCons (dVar 3) (dCons (dVar 4) dNil)))
  dNext)
  (dApp 2 (dTup (dCons (dVar 3) (dCons (dVar 4) dNil))))))
  (dFrz 2 (dSlF [kl.Stretches] (dCall sd_joined [] (dCons (dVar 2) dNil))))))
theorem len_Stretches___init__ (kl : Kl) : ∀ as Q E, sd_Stretches___init__ kl as Q E → as.length + 1 = 2 := by
  rintro _ _ _ ⟨_, _, rfl, _⟩
  rfl
theorem pure_Stretches___init__ (kl : Kl) : ∀ p as Q E, sd_Stretches___init__ kl as Q E → d_Stretches___init__ kl (dEndsS p kl.Stretches Q E) (startI p kl.Stretches 5 as) := by
  rintro p as Q E ⟨ps, d, rfl, hd, hl, he, hq⟩
  refine ⟨by simp, ?_⟩
  have key : ∀ (d : Dt), ForI (gdSq 2 (gdCons (gdName 3) (gdCons (gdName 4) gdNil))) (dSeq (dIfS (dOr (dTest (dOp dLt (dVar 3) (dUn dNeg (dC (.int 1000000000000000000))))) (dOr (dTest (dOp dGt (dVar 4) (dC (.int 1000000000000000000)))) (dTest (dOp dGt (dVar 3) (dVar 4)))))
      (dRaise kl.BadStretch ["low", "high"] (dCons (dVar 3) (dCons (dVar 4) dNil)))
      dNext)
      (dApp 2 (dTup (dCons (dVar 3) (dCons (dVar 4) dNil)))))
      { nx := dFrz 2 (dSlF [kl.Stretches] (dCall sd_joined [] (dCons (dVar 2) dNil))) (dEndsS p kl.Stretches Q E), rt := fun _ => False, bk := fun _ => False, ct := fun _ => False, ex := (dEndsS p kl.Stretches Q E).ex } (ps.map prD) [.oob p kl.Stretches [], .dat d, .own [], .emp, .emp] := fun d => by
    refine for_inv (fun i ρ => ∃ L s3 s4, ρ = [.oob p kl.Stretches [], .dat d, .own L, s3, s4] ∧ L = (ps.take i).map prD ∧ ∀ q ∈ ps.take i, badP q = false) ⟨[], _, _, rfl, by simp, by simp⟩ ?_ ?_
    · rintro i x ρ hx ⟨L, s3, s4, rfl, rfl, hn⟩
      obtain ⟨q, hp, rfl⟩ := get_map hx
      refine ⟨rfl, rfl, ?_⟩
      refine iteD (fun h => ⟨rfl, he q (find_at hp (badP_yes (.inl h)) hn)⟩) (fun h1 => ?_)
      refine iteD (fun h => ⟨rfl, he q (find_at hp (badP_yes (.inr (.inl h))) hn)⟩) (fun h2 => ?_)
      refine iteD (fun h => ⟨rfl, he q (find_at hp (badP_yes (.inr (.inr h))) hn)⟩) (fun h3 => ?_)
      have h1 : ¬ q.1 < -(10 ^ 18) := h1
      have h2 : ¬ 10 ^ 18 < q.2 := h2
      have h3 : ¬ q.2 < q.1 := h3
      refine ⟨by simp, by simp; omega, ?_⟩
      refine ⟨_, _, _, rfl, by rw [take_next hp, List.map_append]; rfl, fun r m => ?_⟩
      rw [take_next hp] at m
      rcases List.mem_append.mp m with m | m
      · exact hn r m
      · have e : r = q := by simpa using m
        rw [e]
        exact decide_eq_false (by omega)
    · rintro ρ ⟨L, s3, s4, rfl, rfl, hn⟩
      rw [List.length_map, List.take_length] at hn ⊢
      have ok : Ok ps := fun q m => (badP_no (hn q m)).1
      have lim : Lim ps := fun q m => (badP_no (hn q m)).2
      refine ⟨ps, rfl, ok, hl, fun qs h1 h2 h3 => ?_⟩
      exact ⟨_, _, rfl, by simp, _, _, rfl, rfl, hq (good_find ⟨ok, lim⟩) qs ⟨h1, lim_of h1.1 lim h2⟩ h2 h3⟩
  rcases hd with rfl | rfl
  · exact key _
  · exact key _


def sd_Stretches___len__ (kl : Kl) : Sd := fun as Q _ => ∃ l : List Pr, as = [stD kl l] ∧ Q (.v (.int (l.length : Int)))
def d_Stretches___len__ (kl : Kl) : DS := (dRetE (dCB dLen (dCons (dSlA [kl.Stretches] (dVar 0)) dNil)))
theorem pure_Stretches___len__ (kl : Kl) : ∀ as Q E, sd_Stretches___len__ kl as Q E → d_Stretches___len__ kl (dEnds Q E) (startD 1 as) := by
  rintro as Q E ⟨l, rfl, hq⟩
  refine ⟨_, _, rfl, by simp, ?_⟩
  show Q (.v (.int ((l.map prD).length : Int)))
  rw [List.length_map]
  exact hq

theorem no_bad {ps : List Pr} {A : Prop} (g : Good ps) (p : Pr) (h : ps.find? badP = some p) : A := by
  rw [good_find g] at h
  cases h
theorem nf_nil : NF [] := ⟨fun q m => (nomatch m), .nil⟩
theorem good_nil : Good [] := ⟨fun q m => (nomatch m), fun q m => (nomatch m)⟩

/-! ### casts -/
def chD (kl : Kl) (ss : List Dt) : Dt := .obj kl.Chain [("steps", .tup ss)]
def tooM (kl : Kl) (n : Int) : Xn := ⟨kl.TooMany, [("limit", .v (.int n))]⟩
def objs (kl : Kl) (ds : List Deed) : List Dt := ds.map fun d => d.obj kl
theorem objs_app (kl : Kl) (a b : List Deed) : objs kl a ++ objs kl b = objs kl (a ++ b) := by
  unfold objs
  rw [List.map_append]
def run14 (ds : List Deed) (n : Int) : Int := ds.foldl (fun n d => d.img n) n
theorem objs_len (kl : Kl) (ds : List Deed) : (objs kl ds).length = ds.length := by
  unfold objs
  rw [List.length_map]
theorem objs_get {kl : Kl} {ds : List Deed} {i : Nat} {d : Deed} (h : ds[i]? = some d) : (objs kl ds)[i]? = some (d.obj kl) := by
  unfold objs
  rw [List.getElem?_map, h]
  rfl
def sd_Chain___init__ (kl : Kl) : Sd := fun as Q E => ∃ ss : List Dt, as = [.tup ss] ∧ (6 < ss.length → E (tooM kl 6)) ∧ (ss.length ≤ 6 → Q (chD kl ss))
def d_Chain___init__ (kl : Kl) : DS := (dSeq (dIfS (dTest (dOp dGt (dCB dLen (dCons (dVar 1) dNil)) (dC (.int 6))))
  (dRaise kl.TooMany ["limit"] (dCons (dC (.int 6)) dNil))
  dNext)
  (dFld [kl.Chain] 0 "steps" (dVar 1)))
theorem pure_Chain___init__ (kl : Kl) : ∀ p as Q E, sd_Chain___init__ kl as Q E → d_Chain___init__ kl (dEndsI p kl.Chain Q E) (startI p kl.Chain 2 as) := by
  rintro p as Q E ⟨ss, rfl, he, hq⟩
  refine iteD (fun h => ⟨rfl, he ?_⟩) (fun h1 => ?_)
  · have h : (ss.length : Int) > 6 := h
    omega
  have h1 : ¬ (ss.length : Int) > 6 := h1
  exact ⟨_, _, _, rfl, by simp, by decide, _, rfl, hq (by omega)⟩
def sd_Chain___call__ (kl : Kl) : Sd := fun as Q _ => ∃ (ds : List Deed) (n : Int), as = [chD kl (objs kl ds), .v (.int n)] ∧ (∀ d ∈ ds, d.ok) ∧ Q (.v (.int (run14 ds n)))
def d_Chain___call__ (kl : Kl) : DS := (dSeq (dFor (iSeq (dAt [kl.Chain] "steps" (dVar 0))) (gdName 2)
  (dAsg (dMeth (tb_image kl) "image" (dVar 2) (dCons (dVar 1) dNil)) (gdName 1)))
  (dRet (dVar 1)))
theorem run14_snoc (ds : List Deed) (d : Deed) (n : Int) : run14 (ds ++ [d]) n = d.img (run14 ds n) := by
  unfold run14
  rw [List.foldl_append]
  rfl
theorem objs_at {kl : Kl} {ds : List Deed} {i : Nat} {x : Dt} (h : (objs kl ds)[i]? = some x) : ∃ d, ds[i]? = some d ∧ x = d.obj kl := by
  unfold objs at h
  rw [List.getElem?_map] at h
  cases e : ds[i]? with
  | none => rw [e] at h; cases h
  | some d => rw [e] at h; cases h; exact ⟨d, rfl, rfl⟩
theorem tk_snoc {α : Type} {ds : List α} {i : Nat} {d : α} (h : ds[i]? = some d) : ds.take (i + 1) = ds.take i ++ [d] := by
  rw [List.take_add_one, h]
  rfl
theorem pure_Chain___call__ (kl : Kl) : ∀ as Q E, sd_Chain___call__ kl as Q E → d_Chain___call__ kl (dEnds Q E) (startD 3 as) := by
  rintro as Q E ⟨ds, n, rfl, ho, hq⟩
  refine ⟨_, _, _, rfl, by simp, rfl, ?_⟩
  refine for_inv (fun i ρ => ∃ s2, ρ = [.dat (chD kl (objs kl ds)), .dat (.v (.int (run14 (ds.take i) n))), s2]) ⟨_, rfl⟩ ?_ ?_
  · rintro i x ρ hx ⟨s2, rfl⟩
    obtain ⟨d, hd, rfl⟩ := objs_at hx
    have hm := List.mem_of_getElem? hd
    obtain ⟨C, gs, sd, h1, h2, h3, h4⟩ := img_of kl d (run14 (ds.take i) n) (ho d hm)
    refine ⟨C, gs, sd, h1, h2, h3, ?_⟩
    refine h4 _ _ ?_
    exact ⟨.dat (d.obj kl), by rw [tk_snoc hd, run14_snoc]; rfl⟩
  · rintro ρ ⟨s2, rfl⟩
    have e : ds.take (objs kl ds).length = ds := by
      unfold objs
      rw [List.length_map, List.take_length]
    rw [e]
    exact hq
def sd_Chain___rshift__ (kl : Kl) : Sd := fun as Q E => ∃ a b : List Dt, as = [chD kl a, chD kl b] ∧ a.length + b.length ≤ 1000 ∧ (6 < (a ++ b).length → E (tooM kl 6)) ∧ ((a ++ b).length ≤ 6 → Q (chD kl (a ++ b)))
def d_Chain___rshift__ (kl : Kl) : DS := (dRetE (dMake (sdStar 0 (sd_Chain___init__ kl)) (dStar (dAt [kl.Chain] "steps" (dVar 0)) (dStar (dAt [kl.Chain] "steps" (dVar 1)) dNil))))
theorem pure_Chain___rshift__ (kl : Kl) : ∀ as Q E, sd_Chain___rshift__ kl as Q E → d_Chain___rshift__ kl (dEnds Q E) (startD 2 as) := by
  rintro as Q E ⟨a, b, rfl, hl, he, hq⟩
  refine ⟨_, _, _, rfl, by simp, rfl, ?_⟩
  refine ⟨a, rfl, ⟨_, rfl⟩, ?_⟩
  refine ⟨_, _, _, rfl, by simp, rfl, ?_⟩
  refine ⟨b, rfl, ⟨_, rfl⟩, ?_⟩
  have e : a.map Sl.dat ++ (b.map Sl.dat ++ []) = (a ++ b).map Sl.dat := by
    rw [List.append_nil, List.map_append]
  show plain (a.map Sl.dat ++ (b.map Sl.dat ++ [])) _
  rw [e]
  refine plain_map ?_
  exact ⟨[], a ++ b, rfl, rfl, by rw [List.length_append]; omega, a ++ b, rfl, he, hq⟩


def sd__law_result : Sd := fun as Q _ => ∃ (ds : List Deed) (n : Int), as = [.lst (ds.map Deed.dt), .v (.int n)] ∧ (∀ d ∈ ds, d.ok) ∧ Q (.v (.int (run14 ds n)))
def d__law_result : DS := (dSeq (dFor (iSeq (dVar 0)) (gdName 2)
  (dAsg (dCall sd__law_image [] (dCons (dVar 2) (dCons (dVar 1) dNil))) (gdName 1)))
  (dRet (dVar 1)))
theorem len__law_result : ∀ as Q E, sd__law_result as Q E → as.length = 2 := by
  rintro _ _ _ ⟨_, _, rfl, _⟩
  rfl
theorem dts_at {ds : List Deed} {i : Nat} {x : Dt} (h : (ds.map Deed.dt)[i]? = some x) : ∃ d, ds[i]? = some d ∧ x = d.dt := by
  rw [List.getElem?_map] at h
  cases e : ds[i]? with
  | none => rw [e] at h; cases h
  | some d => rw [e] at h; cases h; exact ⟨d, rfl, rfl⟩
theorem pure__law_result : ∀ as Q E, sd__law_result as Q E → d__law_result (dEnds Q E) (startD 3 as) := by
  rintro as Q E ⟨ds, n, rfl, ho, hq⟩
  refine for_inv (fun i ρ => ∃ s2, ρ = [.dat (.lst (ds.map Deed.dt)), .dat (.v (.int (run14 (ds.take i) n))), s2]) ⟨_, rfl⟩ ?_ ?_
  · rintro i x ρ hx ⟨s2, rfl⟩
    obtain ⟨d, hd, rfl⟩ := dts_at hx
    have hm := List.mem_of_getElem? hd
    refine ⟨d, _, rfl, ho d hm, ?_⟩
    exact ⟨.dat d.dt, by rw [tk_snoc hd, run14_snoc]; rfl⟩
  · rintro ρ ⟨s2, rfl⟩
    have e : ds.take (ds.map Deed.dt).length = ds := by
      rw [List.length_map, List.take_length]
    rw [e]
    exact hq
def sd__law_linked (kl : Kl) : Sd := fun as Q E => ∃ a : List Dt, as = [.lst a] ∧ a.length ≤ 7 ∧ (6 < a.length → E (tooM kl 6)) ∧ (a.length ≤ 6 → Q (chD kl a))
def d__law_linked (kl : Kl) : DS := (dSeq (dAsg (dCB dLen (dCons (dVar 0) dNil)) (gdName 1))
  (dSeq (dIfS (dTest (dOp dEq (dVar 1) (dC (.int 0))))
  (dRetE (dMake (sdStar 0 (sd_Chain___init__ kl)) dNil))
  dNext)
  (dSeq (dIfS (dTest (dOp dEq (dVar 1) (dC (.int 1))))
  (dRetE (dMake (sdStar 0 (sd_Chain___init__ kl)) (dCons (dOp dIx (dVar 0) (dC (.int 0))) dNil)))
  dNext)
  (dSeq (dIfS (dTest (dOp dEq (dVar 1) (dC (.int 2))))
  (dRetE (dMake (sdStar 0 (sd_Chain___init__ kl)) (dCons (dOp dIx (dVar 0) (dC (.int 0))) (dCons (dOp dIx (dVar 0) (dC (.int 1))) dNil))))
  dNext)
  (dSeq (dIfS (dTest (dOp dEq (dVar 1) (dC (.int 3))))
  (dRetE (dMake (sdStar 0 (sd_Chain___init__ kl)) (dCons (dOp dIx (dVar 0) (dC (.int 0))) (dCons (dOp dIx (dVar 0) (dC (.int 1))) (dCons (dOp dIx (dVar 0) (dC (.int 2))) dNil)))))
  dNext)
  (dSeq (dIfS (dTest (dOp dEq (dVar 1) (dC (.int 4))))
  (dRetE (dMake (sdStar 0 (sd_Chain___init__ kl)) (dCons (dOp dIx (dVar 0) (dC (.int 0))) (dCons (dOp dIx (dVar 0) (dC (.int 1))) (dCons (dOp dIx (dVar 0) (dC (.int 2))) (dCons (dOp dIx (dVar 0) (dC (.int 3))) dNil))))))
  dNext)
  (dSeq (dIfS (dTest (dOp dEq (dVar 1) (dC (.int 5))))
  (dRetE (dMake (sdStar 0 (sd_Chain___init__ kl)) (dCons (dOp dIx (dVar 0) (dC (.int 0))) (dCons (dOp dIx (dVar 0) (dC (.int 1))) (dCons (dOp dIx (dVar 0) (dC (.int 2))) (dCons (dOp dIx (dVar 0) (dC (.int 3))) (dCons (dOp dIx (dVar 0) (dC (.int 4))) dNil)))))))
  dNext)
  (dSeq (dIfS (dTest (dOp dEq (dVar 1) (dC (.int 6))))
  (dRetE (dMake (sdStar 0 (sd_Chain___init__ kl)) (dCons (dOp dIx (dVar 0) (dC (.int 0))) (dCons (dOp dIx (dVar 0) (dC (.int 1))) (dCons (dOp dIx (dVar 0) (dC (.int 2))) (dCons (dOp dIx (dVar 0) (dC (.int 3))) (dCons (dOp dIx (dVar 0) (dC (.int 4))) (dCons (dOp dIx (dVar 0) (dC (.int 5))) dNil))))))))
  dNext)
  (dRetE (dMake (sdStar 0 (sd_Chain___init__ kl)) (dCons (dOp dIx (dVar 0) (dC (.int 0))) (dCons (dOp dIx (dVar 0) (dC (.int 1))) (dCons (dOp dIx (dVar 0) (dC (.int 2))) (dCons (dOp dIx (dVar 0) (dC (.int 3))) (dCons (dOp dIx (dVar 0) (dC (.int 4))) (dCons (dOp dIx (dVar 0) (dC (.int 5))) (dCons (dOp dIx (dVar 0) (dC (.int 6))) dNil)))))))))))))))))
theorem len__law_linked (kl : Kl) : ∀ as Q E, sd__law_linked kl as Q E → as.length = 1 := by
  rintro _ _ _ ⟨_, rfl, _⟩
  rfl
theorem pure__law_linked (kl : Kl) : ∀ as Q E, sd__law_linked kl as Q E → d__law_linked kl (dEnds Q E) (startD 2 as) := by
  rintro as Q E ⟨a, rfl, hl, he, hq⟩
  match a, hl with
  | [], _ =>
    refine ⟨_, _, rfl, rfl, rfl, rfl, ?_⟩
    exact ⟨[], [], rfl, rfl, by simp, [], rfl, he, hq⟩
  | [a], _ =>
    refine ⟨_, _, rfl, rfl, rfl, rfl, ?_⟩
    refine ⟨_, _, rfl, rfl, rfl, rfl, ?_⟩
    refine ⟨_, rfl, ?_⟩
    exact ⟨[], [a], rfl, rfl, by simp, [a], rfl, he, hq⟩
  | [a, b], _ =>
    iterate 3 refine ⟨_, _, rfl, rfl, rfl, rfl, ?_⟩
    iterate 2 refine ⟨_, rfl, ?_⟩
    exact ⟨[], [a, b], rfl, rfl, by simp, [a, b], rfl, he, hq⟩
  | [a, b, c], _ =>
    iterate 4 refine ⟨_, _, rfl, rfl, rfl, rfl, ?_⟩
    iterate 3 refine ⟨_, rfl, ?_⟩
    exact ⟨[], [a, b, c], rfl, rfl, by simp, [a, b, c], rfl, he, hq⟩
  | [a, b, c, d], _ =>
    iterate 5 refine ⟨_, _, rfl, rfl, rfl, rfl, ?_⟩
    iterate 4 refine ⟨_, rfl, ?_⟩
    exact ⟨[], [a, b, c, d], rfl, rfl, by simp, [a, b, c, d], rfl, he, hq⟩
  | [a, b, c, d, e], _ =>
    iterate 6 refine ⟨_, _, rfl, rfl, rfl, rfl, ?_⟩
    iterate 5 refine ⟨_, rfl, ?_⟩
    exact ⟨[], [a, b, c, d, e], rfl, rfl, by simp, [a, b, c, d, e], rfl, he, hq⟩
  | [a, b, c, d, e, f], _ =>
    iterate 7 refine ⟨_, _, rfl, rfl, rfl, rfl, ?_⟩
    iterate 6 refine ⟨_, rfl, ?_⟩
    exact ⟨[], [a, b, c, d, e, f], rfl, rfl, by simp, [a, b, c, d, e, f], rfl, he, hq⟩
  | [a, b, c, d, e, f, g], _ =>
    iterate 7 refine ⟨_, _, rfl, rfl, rfl, rfl, ?_⟩
    iterate 7 refine ⟨_, rfl, ?_⟩
    exact ⟨[], [a, b, c, d, e, f, g], rfl, rfl, by simp, [a, b, c, d, e, f, g], rfl, he, hq⟩


def hasB (ps : List Pr) (x : Int) : Bool := ps.any fun p => decide (p.1 ≤ x) && decide (x ≤ p.2)
theorem hasB_iff {ps : List Pr} {x : Int} : hasB ps x = true ↔ In ps x := by
  unfold hasB In
  rw [List.any_eq_true]
  constructor
  · rintro ⟨p, m, h⟩
    rw [Bool.and_eq_true, decide_eq_true_eq, decide_eq_true_eq] at h
    exact ⟨p, m, h⟩
  · rintro ⟨p, m, h⟩
    refine ⟨p, m, ?_⟩
    rw [Bool.and_eq_true, decide_eq_true_eq, decide_eq_true_eq]
    exact h
theorem hasB_false {ps : List Pr} {x : Int} (h : ¬ In ps x) : hasB ps x = false := by
  cases e : hasB ps x with
  | false => rfl
  | true => exact absurd (hasB_iff.mp e) h

def sd__law_has : Sd := fun as Q _ => ∃ (ps : List Pr) (d : Dt) (x : Int), as = [d, .v (.int x)] ∧ isSq d ps ∧ Q (.v (.bl (hasB ps x)))
def d__law_has : DS := (dSeq (dFor (iSeq (dVar 0)) (gdSq 2 (gdCons (gdName 2) (gdCons (gdName 3) gdNil)))
  (dIfS (dAnd (dTest (dOp dLe (dVar 2) (dVar 1))) (dTest (dOp dLe (dVar 1) (dVar 3))))
  (dRetE (dC (.bl true)))
  dNext))
  (dRetE (dC (.bl false))))
theorem len__law_has : ∀ as Q E, sd__law_has as Q E → as.length = 2 := by
  rintro _ _ _ ⟨_, _, _, rfl, _⟩
  rfl
theorem pure__law_has : ∀ as Q E, sd__law_has as Q E → d__law_has (dEnds Q E) (startD 4 as) := by
  rintro as Q E ⟨ps, d, x, rfl, hd, hq⟩
  rcases hd with rfl | rfl
  all_goals
    refine for_inv (fun i ρ => ∃ d s2 s3, ρ = [.dat d, .int x, s2, s3] ∧ ¬ In (ps.take i) x) ⟨_, _, _, rfl, by simp [In_nil]⟩ ?_ ?_
    · rintro i y ρ hy ⟨d, s2, s3, rfl, hn⟩
      obtain ⟨p, hp, rfl⟩ := get_map hy
      refine ⟨rfl, rfl, ?_⟩
      have nx : p.1 ≤ x → x ≤ p.2 → hasB ps x = true := fun h1 h2 => hasB_iff.mpr ⟨p, List.mem_of_getElem? hp, h1, h2⟩
      have no : ¬ (p.1 ≤ x ∧ x ≤ p.2) → ¬ In (ps.take (i + 1)) x := fun h => by
        rw [take_next hp, In_append, In_cons]
        rintro (z | z | z)
        · exact hn z
        · exact h z
        · exact In_nil _ z
      refine iteD (fun h1 => ?_) (fun h1 => ?_)
      · refine iteD (fun h2 => ?_) (fun h2 => ?_)
        · rw [nx h1 h2] at hq
          exact hq
        · exact ⟨_, _, _, rfl, no fun z => h2 z.2⟩
      · exact ⟨_, _, _, rfl, no fun z => h1 z.1⟩
    · rintro ρ ⟨d, s2, s3, rfl, hn⟩
      rw [List.length_map, List.take_length] at hn
      rw [hasB_false hn] at hq
      exact hq


def sd_Stretches___contains__ (kl : Kl) : Sd := fun as Q _ => ∃ (l : List Pr) (x : Int), as = [stD kl l, .v (.int x)] ∧ Q (.v (.bl (hasB l x)))
def d_Stretches___contains__ (kl : Kl) : DS := (dSeq (dFor (iSeq (dSlA [kl.Stretches] (dVar 0))) (gdSq 2 (gdCons (gdName 2) (gdCons (gdName 3) gdNil)))
  (dIfS (dTest (dChain dLe dLe (dVar 2) (dVar 1) (dVar 3)))
  (dRetE (dC (.bl true)))
  dNext))
  (dRetE (dC (.bl false))))
theorem pure_Stretches___contains__ (kl : Kl) : ∀ as Q E, sd_Stretches___contains__ kl as Q E → d_Stretches___contains__ kl (dEnds Q E) (startD 4 as) := by
  rintro as Q E ⟨ps, x, rfl, hq⟩
  refine ⟨_, _, rfl, by simp, ?_⟩
  refine for_inv (fun i ρ => ∃ s2 s3, ρ = [.dat (stD kl ps), .int x, s2, s3] ∧ ¬ In (ps.take i) x) ⟨_, _, rfl, by simp [In_nil]⟩ ?_ ?_
  · rintro i y ρ hy ⟨s2, s3, rfl, hn⟩
    obtain ⟨p, hp, rfl⟩ := get_map hy
    refine ⟨rfl, rfl, ?_⟩
    have nx : p.1 ≤ x → x ≤ p.2 → hasB ps x = true := fun h1 h2 => hasB_iff.mpr ⟨p, List.mem_of_getElem? hp, h1, h2⟩
    have no : ¬ (p.1 ≤ x ∧ x ≤ p.2) → ¬ In (ps.take (i + 1)) x := fun h => by
      rw [take_next hp, In_append, In_cons]
      rintro (z | z | z)
      · exact hn z
      · exact h z
      · exact In_nil _ z
    refine iteD (fun h1 => ?_) (fun h1 => ?_)
    · refine iteD (fun h2 => ?_) (fun h2 => ?_)
      · rw [nx h1 h2] at hq
        exact hq
      · exact ⟨_, _, rfl, no fun z => h2 z.2⟩
    · exact ⟨_, _, rfl, no fun z => h1 z.1⟩
  · rintro ρ ⟨s2, s3, rfl, hn⟩
    rw [List.length_map, List.take_length] at hn
    rw [hasB_false hn] at hq
    exact hq


/-! ### a drawn name -/
def lettersS : Str := PySem.Str.ofString "abcdefghijklmnopqrstuvwxyz"
/-- a text of small letters -/
def Small (x : Str) : Prop := ∀ c ∈ x.cps.toList, c ∈ lettersS.cps.toList
def WordOk (x : Str) : Prop := Small x ∧ 1 ≤ x.length ∧ x.length ≤ 20 ∧ x ≠ PySem.Str.ofString "key"
theorem str_app (x y : Str) : (x ++ y).cps.toList = x.cps.toList ++ y.cps.toList := by
  show (x.cps ++ y.cps).toList = _
  rw [Array.toList_append]
theorem str_len (x : Str) : x.length = x.cps.toList.length := by
  rw [Array.length_toList]
  rfl
theorem small_snoc {x : Str} {c : Nat} (h : Small x) (hc : c ∈ lettersS.cps.toList) : Small (x ++ (⟨#[c]⟩ : Str)) := fun d hd => by
  rw [str_app] at hd
  rcases List.mem_append.mp hd with z | z
  · exact h d z
  · have e : d = c := List.mem_singleton.mp z
    rw [e]
    exact hc
theorem len_snoc (x : Str) (c : Nat) : (x ++ (⟨#[c]⟩ : Str)).length = x.length + 1 := by
  rw [str_len, str_app, List.length_append, str_len x]
  rfl
/-- equality of texts as the walk asks it -/
theorem iteT {a b : Str} {A B : Prop} (h1 : a = b → A) (h2 : a ≠ b → B) : if PyData.eqv (.str a) (.str b) = true then A else B := by
  by_cases e : a = b
  · have z : PyData.eqv (.str a) (.str b) = true := (beq_iff_eq.mpr e : (a == b) = true)
    rw [if_pos z]
    exact h1 e
  · have z : ¬ PyData.eqv (.str a) (.str b) = true := fun z => e (beq_iff_eq.mp (show (a == b) = true from z))
    rw [if_neg z]
    exact h2 e
theorem small_ok {x : Str} (h : Small x) : SeqAt.shaped (.str x) = true := by
  have z : x.cps.all (· < 0x110000) = true := by
    rw [Array.all_eq_true']
    intro c hc
    have h1 := h c (Array.mem_toList_iff.mpr hc)
    have h2 : ∀ c ∈ lettersS.cps.toList, decide (c < 0x110000) = true := by decide +kernel
    exact h2 c h1
  have z : PyData.canLay0 (.str x) = true := z
  unfold SeqAt.shaped
  rw [z]
  rfl
theorem letter_at {n : Int} : ∃ c, atI lettersS.cps.toList (n % 26) = some c ∧ c ∈ lettersS.cps.toList := by
  have h0 : 0 ≤ n % 26 := Int.emod_nonneg _ (by decide)
  have h1 : n % 26 < 26 := Int.emod_lt_of_pos _ (by decide)
  obtain ⟨k, hk⟩ := Int.eq_ofNat_of_zero_le h0
  rw [hk] at h1 ⊢
  have h2 : k < 26 := by omega
  have h3 : ∀ k : Fin 26, ∃ c, atI lettersS.cps.toList ((k.val : Nat) : Int) = some c ∧ c ∈ lettersS.cps.toList := by
    intro k
    have z : ((atI lettersS.cps.toList ((k.val : Nat) : Int)).any fun c => decide (c ∈ lettersS.cps.toList)) = true := by
      revert k
      decide +kernel
    cases e : atI lettersS.cps.toList ((k.val : Nat) : Int) with
    | none => rw [e] at z; cases z
    | some c => rw [e] at z; exact ⟨c, rfl, of_decide_eq_true z⟩
  exact h3 ⟨k, h2⟩
def sd__law_word : Sd := fun as Q _ => as = [.drw] ∧ ∀ x : Str, WordOk x → Q (.v (.str x))
def d__law_word : DS := (dSeq (dAsg (dC (.str (PySem.Str.ofString "abcdefghijklmnopqrstuvwxyz"))) (gdName 1))
  (dSeq (dAsg (dOp dIx (dLst (dCons (dC (.int 3)) (dCons (dC (.int 1)) (dCons (dC (.int 20)) (dCons (dOp dAdd (dC (.int 2)) (dCall sd__law_next [] (dCons (dVar 0) (dCons (dC (.int 18)) dNil)))) dNil))))) (dCall sd__law_next [] (dCons (dVar 0) (dCons (dC (.int 4)) dNil)))) (gdName 2))
  (dSeq (dAsg (dCall sd__law_next [] (dCons (dVar 0) (dCons (dOp dPow (dC (.int 10)) (dC (.int 20))) dNil))) (gdName 3))
  (dSeq (dAsg (dC (.str (PySem.Str.ofString ""))) (gdName 4))
  (dSeq (dFor (iR1 (dCons (dVar 2) dNil)) (gdName 5)
  (dSeq (dIfS (dTest (dOp dEq (dVar 5) (dC (.int 14))))
  (dAsg (dCall sd__law_next [] (dCons (dVar 0) (dCons (dOp dPow (dC (.int 10)) (dC (.int 20))) dNil))) (gdName 3))
  dNext)
  (dSeq (dAsg (dOp dAdd (dVar 4) (dOp dIxS (dVar 1) (dOp dMod (dCB dInt1 (dCons (dVar 3) dNil)) (dC (.int 26))))) (gdName 4))
  (dAsg (dOp dFdiv (dVar 3) (dC (.int 26))) (gdName 3)))))
  (dSeq (dIfS (dTest (dOp dEq (dVar 4) (dC (.str (PySem.Str.ofString "key")))))
  (dRetE (dC (.str (PySem.Str.ofString "keys"))))
  dNext)
  (dRet (dVar 4))))))))
theorem len__law_word : ∀ as Q E, sd__law_word as Q E → as.length = 1 := by
  rintro _ _ _ ⟨rfl, _⟩
  rfl
theorem pure__law_word : ∀ as Q E, sd__law_word as Q E → d__law_word (dEnds Q E) (startD 6 as) := by
  rintro as Q E ⟨rfl, hq⟩
  have c20 : CPow 10 20 := ⟨by decide, by decide, by decide⟩
  refine ⟨18, rfl, by decide, fun a a0 a1 => ?_⟩
  refine ⟨by simp, ?_⟩
  refine ⟨4, rfl, by decide, fun b b0 b1 => ?_⟩
  have hm : ∃ m : Int, atI [Dt.int 3, Dt.int 1, Dt.int 20, Dt.int (2 + a)] b = some (.int m) ∧ 1 ≤ m ∧ m ≤ 20 := by
    have hb : b = 0 ∨ b = 1 ∨ b = 2 ∨ b = 3 := by omega
    rcases hb with rfl | rfl | rfl | rfl
    · exact ⟨3, rfl, by decide, by decide⟩
    · exact ⟨1, rfl, by decide, by decide⟩
    · exact ⟨20, rfl, by decide, by decide⟩
    · exact ⟨2 + a, rfl, by omega, by omega⟩
  obtain ⟨m, e, m1, m2⟩ := hm
  refine ⟨.int m, e, ?_⟩
  refine ⟨c20, ?_⟩
  refine ⟨10 ^ 20, rfl, by decide, fun n n0 n1 => ?_⟩
  refine ⟨by omega, by omega, ?_⟩
  refine for_rng (fun i ρ => ∃ (n : Int) (x : Str) (s5 : Sl), 0 ≤ n ∧ Small x ∧ x.length = i ∧ ρ = [.dat .drw, .dat (.v (.str lettersS)), .dat (.v (.int m)), .dat (.v (.int n)), .dat (.v (.str x)), s5]) ⟨n, Str.empty, .emp, n0, fun c hc => by simp [Str.empty] at hc, rfl, rfl⟩ ?_ ?_
  · rintro i ρ hi ⟨n, x, s5, n0, hx, hl, rfl⟩
    have him : (i : Int) < m := by omega
    refine ⟨_, _, rfl, rfl, rfl, rfl, ?_⟩
    refine iteE (fun _ => ?_) (fun _ => ?_)
    · refine ⟨c20, ?_⟩
      refine ⟨10 ^ 20, rfl, by decide, fun n n0 _ => ?_⟩
      refine ⟨(by decide : (0 : Int) < 26), ?_⟩
      obtain ⟨c, hc, hc2⟩ := letter_at (n := n)
      refine ⟨_, c, rfl, by decide, hc, ?_⟩
      refine ⟨by rw [hl]; show i + 1 ≤ 100000; omega, ?_⟩
      refine ⟨(⟨by decide, by decide⟩ : (0 : Int) < 26 ∧ (26 : Int) < 2 ^ 250), ?_⟩
      exact ⟨n / 26, x ++ (⟨#[c]⟩ : Str), _, Int.ediv_nonneg n0 (by decide), small_snoc hx hc2, by rw [len_snoc, hl], rfl⟩
    · refine ⟨(by decide : (0 : Int) < 26), ?_⟩
      obtain ⟨c, hc, hc2⟩ := letter_at (n := n)
      refine ⟨_, c, rfl, by decide, hc, ?_⟩
      refine ⟨by rw [hl]; show i + 1 ≤ 100000; omega, ?_⟩
      refine ⟨(⟨by decide, by decide⟩ : (0 : Int) < 26 ∧ (26 : Int) < 2 ^ 250), ?_⟩
      exact ⟨n / 26, x ++ (⟨#[c]⟩ : Str), _, Int.ediv_nonneg n0 (by decide), small_snoc hx hc2, by rw [len_snoc, hl], rfl⟩
  · rintro ρ ⟨n, x, s5, n0, hx, hl, rfl⟩
    refine ⟨_, _, rfl, rfl, small_ok hx, by decide +kernel, ?_⟩
    refine iteT (fun _ => ?_) (fun hk => ?_)
    · refine hq _ ⟨?_, ?_, ?_, ?_⟩
      · show ∀ c ∈ _, _
        decide +kernel
      · decide +kernel
      · decide +kernel
      · decide +kernel
    · exact hq x ⟨hx, by omega, by omega, hk⟩


/-! ### tests, as data -/
def testD (kl : Kl) (x : Str) (l : List Pr) (ss : List Dt) : Dt := .obj kl.Test [("name", .v (.str x)), ("numbers", stD kl l), ("cast", chD kl ss), ("many", .v (.int 1)), ("level", .v (.int 1))]
def keytD (kl : Kl) (l : List Pr) (ss : List Dt) : Dt := .obj kl.KeyTest [("numbers", stD kl l), ("cast", chD kl ss), ("many", .v (.int 1)), ("level", .v (.int 1))]
def noName (kl : Kl) (x : Str) : Xn := ⟨kl.UnknownName, [("name", .v (.str x))]⟩
def sd_is_name : Sd := fun as Q _ => ∃ x : Str, as = [.v (.str x)] ∧ WordOk x ∧ Q (.v (.bl true))
def d_is_name : DS := (dSeq (dIfS (dOr (dNot (dTru (dCB (dIsi .str) (dCons (dVar 0) (dCons (dC (.ty "str")) dNil))))) (dOr (dTest (dOp dEq (dVar 0) (dC (.str (PySem.Str.ofString "key"))))) (dNot (dTest (dChain dLe dLe (dC (.int 1)) (dCB dLen (dCons (dVar 0) dNil)) (dC (.int 20)))))))
  (dRetE (dC (.bl false)))
  dNext)
  (dSeq (dFor (iTxt (dVar 0)) (gdName 1)
  (dIfS (dTest (dOp dNotInT (dVar 1) (dC (.str (PySem.Str.ofString "abcdefghijklmnopqrstuvwxyz")))))
  (dRetE (dC (.bl false)))
  dNext))
  (dRetE (dC (.bl true)))))
theorem len_is_name : ∀ as Q E, sd_is_name as Q E → as.length = 1 := by
  rintro _ _ _ ⟨_, rfl, _⟩
  rfl
theorem pure_is_name : ∀ as Q E, sd_is_name as Q E → d_is_name (dEnds Q E) (startD 2 as) := by
  rintro as Q E ⟨x, rfl, ⟨hs, h1, h2, hk⟩, hq⟩
  refine ⟨rfl, _, rfl, ?_⟩
  refine ⟨_, _, rfl, rfl, small_ok hs, by decide +kernel, ?_⟩
  refine iteT (fun e => (hk e).elim) (fun _ => ?_)
  refine ⟨by omega, ?_⟩
  refine iteD (fun _ => ?_) (fun h => (h (by omega)).elim)
  show if (!decide ((x.length : Int) ≤ 20)) = true then _ else _
  rw [decide_eq_true (by omega : (x.length : Int) ≤ 20)]
  refine ⟨x, rfl, ?_⟩
  refine for_inv (fun i ρ => ∃ s1, ρ = [.dat (.v (.str x)), s1]) ⟨_, rfl⟩ ?_ ?_
  · rintro i y ρ hy ⟨s1, rfl⟩
    unfold signsD at hy
    rw [List.getElem?_map] at hy
    cases e : x.cps.toList[i]? with
    | none => rw [e] at hy; cases hy
    | some c =>
      rw [e] at hy
      cases hy
      have hc := hs c (List.mem_of_getElem? e)
      refine ⟨c, lettersS, rfl, rfl, ?_⟩
      show if (!decide (c ∈ lettersS.cps.toList)) = true then _ else _
      rw [decide_eq_true hc]
      exact ⟨_, rfl⟩
  · rintro ρ ⟨s1, rfl⟩
    exact hq
def sd_check_numbers (kl : Kl) : Sd := fun as Q _ => ∃ l : List Pr, as = [stD kl l] ∧ l.length ≤ 4 ∧ Q .non
def d_check_numbers (kl : Kl) : DS := (dIfS (dTest (dOp dGt (dCB (dLenS kl.Stretches (sd_Stretches___len__ kl)) (dCons (dVar 0) dNil)) (dC (.int 4))))
  (dRaise kl.TooMany ["limit"] (dCons (dC (.int 4)) dNil))
  dNext)
theorem len_check_numbers (kl : Kl) : ∀ as Q E, sd_check_numbers kl as Q E → as.length = 1 := by
  rintro _ _ _ ⟨_, rfl, _⟩
  rfl
theorem pure_check_numbers (kl : Kl) : ∀ as Q E, sd_check_numbers kl as Q E → d_check_numbers kl (dEnds Q E) (startD 1 as) := by
  rintro as Q E ⟨l, rfl, hl, hq⟩
  refine ⟨rfl, l, rfl, (l.length : Int), rfl, by omega, by omega, ?_⟩
  refine iteD (fun h => ?_) (fun _ => hq)
  have h : (l.length : Int) > 4 := h
  omega
def castOk (kl : Kl) (c : Dt) (ss : List Dt) : Prop := (c = .non ∧ ss = []) ∨ c = chD kl ss
def sd_Test___init__ (kl : Kl) : Sd := fun as Q _ => ∃ (x : Str) (l : List Pr) (c : Dt) (ss : List Dt), as = [.v (.str x), stD kl l, c] ∧ WordOk x ∧ l.length ≤ 4 ∧ castOk kl c ss ∧ Q (testD kl x l ss)
def d_Test___init__ (kl : Kl) : DS := (dSeq (dIfS (dNot (dTru (dCall sd_is_name [] (dCons (dVar 1) dNil))))
  dNever
  dNext)
  (dSeq (dDrop (dCall (sd_check_numbers kl) [] (dCons (dVar 2) dNil)))
  (dSeq (dFld [kl.Test] 0 "name" (dVar 1))
  (dSeq (dFld [kl.Test, kl.KeyTest] 0 "numbers" (dVar 2))
  (dSeq (dFld [kl.Test, kl.KeyTest] 0 "cast" (dIf (dTest (dOp dIsN (dVar 3) (dC .non))) (dMake (sdStar 0 (sd_Chain___init__ kl)) dNil) (dVar 3)))
  (dSeq (dFld [kl.Test, kl.KeyTest, kl.Both, kl.Either, kl.Not] 0 "many" (dC (.int 1)))
  (dFld [kl.Test, kl.KeyTest, kl.Both, kl.Either, kl.Not] 0 "level" (dC (.int 1)))))))))
theorem len_Test___init__ (kl : Kl) : ∀ as Q E, sd_Test___init__ kl as Q E → as.length + 1 = 4 := by
  rintro _ _ _ ⟨_, _, _, _, rfl, _⟩
  rfl
theorem pure_Test___init__ (kl : Kl) : ∀ p as Q E, sd_Test___init__ kl as Q E → d_Test___init__ kl (dEndsI p kl.Test Q E) (startI p kl.Test 4 as) := by
  rintro p as Q E ⟨x, l, c, ss, rfl, hx, hl, hc, hq⟩
  refine ⟨x, rfl, hx, ?_⟩
  refine ⟨l, rfl, hl, ?_⟩
  refine ⟨_, _, _, rfl, by simp, (by decide : (0 : Nat) < 1000), ?_⟩
  refine ⟨_, _, _, rfl, by simp, (by decide : (1 : Nat) < 1000), ?_⟩
  rcases hc with ⟨rfl, rfl⟩ | rfl
  · refine ⟨rfl, true, rfl, ?_⟩
    refine ⟨[], [], rfl, rfl, by simp, [], rfl, fun h => by simp at h, fun _ => ?_⟩
    refine ⟨_, _, _, rfl, by simp, (by decide : (2 : Nat) < 1000), ?_⟩
    refine ⟨_, _, _, rfl, by simp, (by decide : (3 : Nat) < 1000), ?_⟩
    exact ⟨_, _, _, rfl, by simp, (by decide : (4 : Nat) < 1000), _, rfl, hq⟩
  · refine ⟨rfl, false, rfl, ?_⟩
    refine ⟨_, _, _, rfl, by simp, (by decide : (2 : Nat) < 1000), ?_⟩
    refine ⟨_, _, _, rfl, by simp, (by decide : (3 : Nat) < 1000), ?_⟩
    exact ⟨_, _, _, rfl, by simp, (by decide : (4 : Nat) < 1000), _, rfl, hq⟩
def sd_KeyTest___init__ (kl : Kl) : Sd := fun as Q _ => ∃ (l : List Pr) (c : Dt) (ss : List Dt), as = [stD kl l, c] ∧ l.length ≤ 4 ∧ castOk kl c ss ∧ Q (keytD kl l ss)
def d_KeyTest___init__ (kl : Kl) : DS := (dSeq (dDrop (dCall (sd_check_numbers kl) [] (dCons (dVar 1) dNil)))
  (dSeq (dFld [kl.Test, kl.KeyTest] 0 "numbers" (dVar 1))
  (dSeq (dFld [kl.Test, kl.KeyTest] 0 "cast" (dIf (dTest (dOp dIsN (dVar 2) (dC .non))) (dMake (sdStar 0 (sd_Chain___init__ kl)) dNil) (dVar 2)))
  (dSeq (dFld [kl.Test, kl.KeyTest, kl.Both, kl.Either, kl.Not] 0 "many" (dC (.int 1)))
  (dFld [kl.Test, kl.KeyTest, kl.Both, kl.Either, kl.Not] 0 "level" (dC (.int 1)))))))
theorem len_KeyTest___init__ (kl : Kl) : ∀ as Q E, sd_KeyTest___init__ kl as Q E → as.length + 1 = 3 := by
  rintro _ _ _ ⟨_, _, _, rfl, _⟩
  rfl
theorem pure_KeyTest___init__ (kl : Kl) : ∀ p as Q E, sd_KeyTest___init__ kl as Q E → d_KeyTest___init__ kl (dEndsI p kl.KeyTest Q E) (startI p kl.KeyTest 3 as) := by
  rintro p as Q E ⟨l, c, ss, rfl, hl, hc, hq⟩
  refine ⟨l, rfl, hl, ?_⟩
  refine ⟨_, _, _, rfl, by simp, (by decide : (0 : Nat) < 1000), ?_⟩
  rcases hc with ⟨rfl, rfl⟩ | rfl
  · refine ⟨rfl, true, rfl, ?_⟩
    refine ⟨[], [], rfl, rfl, by simp, [], rfl, fun h => by simp at h, fun _ => ?_⟩
    refine ⟨_, _, _, rfl, by simp, (by decide : (1 : Nat) < 1000), ?_⟩
    refine ⟨_, _, _, rfl, by simp, (by decide : (2 : Nat) < 1000), ?_⟩
    exact ⟨_, _, _, rfl, by simp, (by decide : (3 : Nat) < 1000), _, rfl, hq⟩
  · refine ⟨rfl, false, rfl, ?_⟩
    refine ⟨_, _, _, rfl, by simp, (by decide : (1 : Nat) < 1000), ?_⟩
    refine ⟨_, _, _, rfl, by simp, (by decide : (2 : Nat) < 1000), ?_⟩
    exact ⟨_, _, _, rfl, by simp, (by decide : (3 : Nat) < 1000), _, rfl, hq⟩


def sd_Test_gather (kl : Kl) : Sd := fun as Q _ => ∃ (x : Str) (l : List Pr) (ss : List Dt), as = [testD kl x l ss] ∧ Q (.lst [testD kl x l ss])
def d_Test_gather : DS := (dRetE (dLst (dCons (dVar 0) dNil)))
theorem pure_Test_gather (kl : Kl) : ∀ as Q E, sd_Test_gather kl as Q E → d_Test_gather (dEnds Q E) (startD 1 as) := by
  rintro as Q E ⟨x, l, ss, rfl, hq⟩
  exact ⟨by simp, hq⟩
def sd_KeyTest_gather (kl : Kl) : Sd := fun as Q _ => ∃ (l : List Pr) (ss : List Dt), as = [keytD kl l ss] ∧ Q (.lst [keytD kl l ss])
def d_KeyTest_gather : DS := (dRetE (dLst (dCons (dVar 0) dNil)))
theorem pure_KeyTest_gather (kl : Kl) : ∀ as Q E, sd_KeyTest_gather kl as Q E → d_KeyTest_gather (dEnds Q E) (startD 1 as) := by
  rintro as Q E ⟨l, ss, rfl, hq⟩
  exact ⟨by simp, hq⟩
def sd_Test_passes (kl : Kl) : Sd := fun as Q _ => ∃ (x : Str) (l : List Pr) (ds : List Deed) (k n : Int) (kvs : List (Key × Dt)), as = [testD kl x l (objs kl ds), .v (.int k), .dct kvs] ∧ (∀ d ∈ ds, d.ok) ∧ DW.atS kvs x = some (.v (.int n)) ∧ Q (.v (.bl (hasB l (run14 ds n))))
def d_Test_passes (kl : Kl) : DS := (dRetE (dOp (dInS kl.Stretches (sd_Stretches___contains__ kl) dIn) (dCallF [kl.Test, kl.KeyTest] "cast" kl.Chain (sd_Chain___call__ kl) (dVar 0) (dCons (dKeyV (dVar 2) (dAt [kl.Test] "name" (dVar 0))) dNil)) (dAt [kl.Test, kl.KeyTest] "numbers" (dVar 0))))
theorem pure_Test_passes (kl : Kl) : ∀ as Q E, sd_Test_passes kl as Q E → d_Test_passes kl (dEnds Q E) (startD 3 as) := by
  rintro as Q E ⟨x, l, ds, k, n, kvs, rfl, ho, ha, hq⟩
  refine ⟨_, _, _, rfl, by simp, rfl, ?_⟩
  refine ⟨kvs, rfl, ?_⟩
  refine ⟨_, _, _, rfl, by simp, rfl, ?_⟩
  refine ⟨x, _, rfl, ha, ?_⟩
  refine ⟨ds, n, rfl, ho, ?_⟩
  refine ⟨_, _, _, rfl, by simp, rfl, ?_⟩
  exact ⟨rfl, _, rfl, l, _, rfl, _, rfl, hq⟩
def sd_KeyTest_passes (kl : Kl) : Sd := fun as Q _ => ∃ (l : List Pr) (ds : List Deed) (k : Int) (kvs : List (Key × Dt)), as = [keytD kl l (objs kl ds), .v (.int k), .dct kvs] ∧ (∀ d ∈ ds, d.ok) ∧ Q (.v (.bl (hasB l (run14 ds k))))
def d_KeyTest_passes (kl : Kl) : DS := (dRetE (dOp (dInS kl.Stretches (sd_Stretches___contains__ kl) dIn) (dCallF [kl.Test, kl.KeyTest] "cast" kl.Chain (sd_Chain___call__ kl) (dVar 0) (dCons (dVar 1) dNil)) (dAt [kl.Test, kl.KeyTest] "numbers" (dVar 0))))
theorem pure_KeyTest_passes (kl : Kl) : ∀ as Q E, sd_KeyTest_passes kl as Q E → d_KeyTest_passes kl (dEnds Q E) (startD 3 as) := by
  rintro as Q E ⟨l, ds, k, kvs, rfl, ho, hq⟩
  refine ⟨_, _, _, rfl, by simp, rfl, ?_⟩
  refine ⟨ds, k, rfl, ho, ?_⟩
  refine ⟨_, _, _, rfl, by simp, rfl, ?_⟩
  exact ⟨rfl, _, rfl, l, _, rfl, _, rfl, hq⟩
def sd_Test_judge (kl : Kl) : Sd := fun as Q _ => ∃ (x : Str) (l : List Pr) (ss : List Dt) (d : Dt), as = [testD kl x l ss, .lst [d], .v (.int 0)] ∧ Q d
def d_Test_judge : DS := (dRetE (dOp dIx (dVar 1) (dVar 2)))
theorem pure_Test_judge (kl : Kl) : ∀ as Q E, sd_Test_judge kl as Q E → d_Test_judge (dEnds Q E) (startD 3 as) := by
  rintro as Q E ⟨x, l, ss, d, rfl, hq⟩
  exact ⟨d, rfl, hq⟩
def sd_KeyTest_judge (kl : Kl) : Sd := fun as Q _ => ∃ (l : List Pr) (ss : List Dt) (d : Dt), as = [keytD kl l ss, .lst [d], .v (.int 0)] ∧ Q d
def d_KeyTest_judge : DS := (dRetE (dOp dIx (dVar 1) (dVar 2)))
theorem pure_KeyTest_judge (kl : Kl) : ∀ as Q E, sd_KeyTest_judge kl as Q E → d_KeyTest_judge (dEnds Q E) (startD 3 as) := by
  rintro as Q E ⟨l, ss, d, rfl, hq⟩
  exact ⟨d, rfl, hq⟩
def tb_judge (kl : Kl) : List (Addr × Sd) := [(kl.Test, sd_Test_judge kl), (kl.KeyTest, sd_KeyTest_judge kl)]
def tb_gather (kl : Kl) : List (Addr × Sd) := [(kl.Test, sd_Test_gather kl), (kl.KeyTest, sd_KeyTest_gather kl)]
def tb_passes (kl : Kl) : List (Addr × Sd) := [(kl.Test, sd_Test_passes kl), (kl.KeyTest, sd_KeyTest_passes kl)]
def OneT (kl : Kl) (t : Dt) : Prop := (∃ x l ss, t = testD kl x l ss) ∨ ∃ l ss, t = keytD kl l ss
def sd_Condition_truth (kl : Kl) : Sd := fun as Q _ => ∃ t d : Dt, as = [t, .lst [d]] ∧ OneT kl t ∧ Q d
def d_Condition_truth (kl : Kl) : DS := (dRetE (dMeth (tb_judge kl) "judge" (dVar 0) (dCons (dVar 1) (dCons (dC (.int 0)) dNil))))
theorem pure_Condition_truth (kl : Kl) : ∀ as Q E, sd_Condition_truth kl as Q E → d_Condition_truth kl (dEnds Q E) (startD 2 as) := by
  rintro as Q E ⟨t, d, rfl, (⟨x, l, ss, rfl⟩ | ⟨l, ss, rfl⟩), hq⟩
  · exact ⟨_, _, sd_Test_judge kl, rfl, by simp [tb_judge], rfl, x, l, ss, d, rfl, hq⟩
  · exact ⟨_, _, sd_KeyTest_judge kl, rfl, by simp [tb_judge], rfl, l, ss, d, rfl, hq⟩
def sd_Condition_names (kl : Kl) : Sd := fun as Q _ => ∃ t : Dt, as = [t] ∧ ((∃ x l ss, t = testD kl x l ss ∧ Q (.tup [.v (.str x)])) ∨ ∃ l ss, t = keytD kl l ss ∧ Q (.tup []))
def d_Condition_names (kl : Kl) : DS := (dRetE (dCB dTupleOf (dCons (dSrtSc (iSeq (dMeth (tb_gather kl) "gather" (dVar 0) dNil)) (gdName 1) (dTru (dCB (dIsO kl.Test (is_Test kl)) (dCons (dVar 1) (dCons (dC (.ref kl.Test)) dNil)))) (dAt [kl.Test] "name" (dVar 1)) [1]) dNil)))
theorem pure_Condition_names (kl : Kl) : ∀ as Q E, sd_Condition_names kl as Q E → d_Condition_names kl (dEnds Q E) (startD 2 as) := by
  have one : ∀ {i : Nat} {y d : Dt}, [d][i]? = some y → i = 0 ∧ y = d := fun {i y d} h => by
    cases i with
    | zero => cases h; exact ⟨rfl, rfl⟩
    | succ i => simp at h
  rintro as Q E ⟨t, rfl, (⟨x, l, ss, rfl, hq⟩ | ⟨l, ss, rfl, hq⟩)⟩
  · refine ⟨_, _, sd_Test_gather kl, rfl, by simp [tb_gather], rfl, x, l, ss, rfl, ?_⟩
    refine ⟨fun i acc => acc = if i = 0 then [] else [x], rfl, ?_, ?_⟩
    · rintro i y acc hy rfl
      obtain ⟨rfl, rfl⟩ := one hy
      refine ⟨_, rfl, .inl ⟨_, _, true, rfl, by simp [is_Test], ?_⟩⟩
      exact ⟨_, _, _, rfl, by simp, rfl, x, rfl, by simp, rfl⟩
    · rintro acc rfl
      refine ⟨by simp, fun ys pm _ => ?_⟩
      have e : ys = [x] := List.perm_singleton.mp pm
      subst e
      exact hq
  · refine ⟨_, _, sd_KeyTest_gather kl, rfl, by simp [tb_gather], rfl, l, ss, rfl, ?_⟩
    refine ⟨fun i acc => acc = [], rfl, ?_, ?_⟩
    · rintro i y acc hy rfl
      obtain ⟨rfl, rfl⟩ := one hy
      exact ⟨_, rfl, .inl ⟨_, _, false, rfl, by simp [is_Test], rfl⟩⟩
    · rintro acc rfl
      refine ⟨by simp, fun ys pm _ => ?_⟩
      have e : ys = [] := List.perm_nil.mp pm
      subst e
      exact hq
def tb_truth (kl : Kl) : List (Addr × Sd) := [(kl.Test, sd_Condition_truth kl), (kl.KeyTest, sd_Condition_truth kl)]
def tp_names (kl : Kl) : List (Addr × Sd) := [(kl.Test, sd_Condition_names kl), (kl.KeyTest, sd_Condition_names kl)]
def sd_Condition_holds (kl : Kl) : Sd := fun as Q E => ∃ (t : Dt) (k : Int) (kvs : List (Key × Dt)), as = [t, .v (.int k), .dct kvs] ∧
  ((∃ (x : Str) (l : List Pr) (ds : List Deed), t = testD kl x l (objs kl ds) ∧ (∀ d ∈ ds, d.ok) ∧ ((DW.atS kvs x = none ∧ E (noName kl x)) ∨ ∃ n : Int, DW.atS kvs x = some (.v (.int n)) ∧ Q (.v (.bl (hasB l (run14 ds n)))))) ∨
   ∃ (l : List Pr) (ds : List Deed), t = keytD kl l (objs kl ds) ∧ (∀ d ∈ ds, d.ok) ∧ Q (.v (.bl (hasB l (run14 ds k)))))
def d_Condition_holds (kl : Kl) : DS := (dSeq (dFor (iSeq (dPrT (tp_names kl) (dVar 0))) (gdName 3)
  (dIfS (dTest (dKIn true (dVar 3) (dVar 2)))
  (dRaise kl.UnknownName ["name"] (dCons (dVar 3) dNil))
  dNext))
  (dRetE (dMeth (tb_truth kl) "truth" (dVar 0) (dCons (dLc (iSeq (dMeth (tb_gather kl) "gather" (dVar 0) dNil)) (gdName 4) dYes (dMeth (tb_passes kl) "passes" (dVar 4) (dCons (dVar 1) (dCons (dVar 2) dNil))) [4]) dNil))))
theorem pure_Condition_holds (kl : Kl) : ∀ as Q E, sd_Condition_holds kl as Q E → d_Condition_holds kl (dEnds Q E) (startD 5 as) := by
  have one : ∀ {i : Nat} {y d : Dt}, [d][i]? = some y → i = 0 ∧ y = d := fun {i y d} h => by
    cases i with
    | zero => cases h; exact ⟨rfl, rfl⟩
    | succ i => simp at h
  rintro as Q E ⟨t, k, kvs, rfl, (⟨x, l, ds, rfl, ho, hx⟩ | ⟨l, ds, rfl, ho, hq⟩)⟩
  · refine ⟨_, _, sd_Condition_names kl, rfl, by simp [tp_names], _, rfl, .inl ⟨x, l, _, rfl, ?_⟩⟩
    refine for_inv (fun i ρ => ∃ s3 s4, ρ = [.dat (testD kl x l (objs kl ds)), .dat (.v (.int k)), .dat (.dct kvs), s3, s4] ∧ (i = 0 ∨ ∃ n : Int, DW.atS kvs x = some (.v (.int n)) ∧ Q (.v (.bl (hasB l (run14 ds n)))))) ⟨_, _, rfl, .inl rfl⟩ ?_ ?_
    · rintro i y ρ hy ⟨s3, s4, rfl, _⟩
      obtain ⟨rfl, rfl⟩ := one hy
      refine ⟨x, rfl, kvs, rfl, ?_⟩
      rcases hx with ⟨h1, h2⟩ | ⟨n, h1, h2⟩
      · show if (xor true (DW.atS kvs x).isSome) = true then _ else _
        rw [h1]
        exact ⟨rfl, h2⟩
      · show if (xor true (DW.atS kvs x).isSome) = true then _ else _
        rw [h1]
        exact ⟨_, _, rfl, .inr ⟨n, rfl, h2⟩⟩
    · rintro ρ ⟨s3, s4, rfl, h⟩
      rcases h with h | ⟨n, h1, h2⟩
      · cases h
      · refine ⟨_, _, sd_Condition_truth kl, rfl, by simp [tb_truth], rfl, ?_⟩
        refine ⟨_, _, sd_Test_gather kl, rfl, by simp [tb_gather], rfl, x, l, _, rfl, ?_⟩
        refine ⟨fun i acc => acc = if i = 0 then [] else [.v (.bl (hasB l (run14 ds n)))], rfl, ?_, ?_⟩
        · rintro i y acc hy rfl
          obtain ⟨rfl, rfl⟩ := one hy
          refine ⟨_, _, sd_Test_passes kl, rfl, by simp [tb_passes], rfl, x, l, ds, k, n, kvs, rfl, ho, h1, ?_⟩
          exact ⟨by simp, rfl⟩
        · rintro acc rfl
          exact ⟨_, _, rfl, .inl ⟨x, l, _, rfl⟩, h2⟩
  · refine ⟨_, _, sd_Condition_names kl, rfl, by simp [tp_names], _, rfl, .inr ⟨l, _, rfl, ?_⟩⟩
    refine for_inv (fun i ρ => ∃ s3 s4, ρ = [.dat (keytD kl l (objs kl ds)), .dat (.v (.int k)), .dat (.dct kvs), s3, s4]) ⟨_, _, rfl⟩ ?_ ?_
    · rintro i y ρ hy ⟨s3, s4, rfl⟩
      cases hy
    · rintro ρ ⟨s3, s4, rfl⟩
      refine ⟨_, _, sd_Condition_truth kl, rfl, by simp [tb_truth], rfl, ?_⟩
      refine ⟨_, _, sd_KeyTest_gather kl, rfl, by simp [tb_gather], rfl, l, _, rfl, ?_⟩
      refine ⟨fun i acc => acc = if i = 0 then [] else [.v (.bl (hasB l (run14 ds k)))], rfl, ?_, ?_⟩
      · rintro i y acc hy rfl
        obtain ⟨rfl, rfl⟩ := one hy
        refine ⟨_, _, sd_KeyTest_passes kl, rfl, by simp [tb_passes], rfl, l, ds, k, kvs, rfl, ho, ?_⟩
        exact ⟨by simp, rfl⟩
      · rintro acc rfl
        exact ⟨_, _, rfl, .inr ⟨l, _, rfl⟩, hq⟩
def tb_holds (kl : Kl) : List (Addr × Sd) := [(kl.Test, sd_Condition_holds kl), (kl.KeyTest, sd_Condition_holds kl)]


theorem atI_mod {zs : List Int} (h : 0 < zs.length) (k : Int) : ∃ z, atI (zs.map Dt.int) (k % ((zs.map Dt.int).length : Int)) = some (.int z) := by
  rw [List.length_map]
  have h0 : 0 ≤ k % (zs.length : Int) := Int.emod_nonneg _ (by omega)
  have h1 := Int.emod_lt_of_pos k (by omega : (0 : Int) < zs.length)
  obtain ⟨j, hj⟩ := Int.eq_ofNat_of_zero_le h0
  rw [hj] at h1 ⊢
  have hlt : j < zs.length := by omega
  exact ⟨zs[j], atI_nat (by rw [List.getElem?_map, List.getElem?_eq_getElem hlt]; rfl)⟩
def sd__law_around : Sd := fun as Q _ => ∃ (ds : List Deed) (zs : List Int), as = [.drw, .lst (ds.map Deed.dt), .lst (zs.map Dt.int)] ∧ (∀ d ∈ ds, d.ok) ∧ 0 < zs.length ∧ ∀ ps : List Pr, Good ps → ps.length ≤ 4 → Q (.lst (ps.map prD))
def d__law_around : DS := (dSeq (dOwn 3 dNil)
  (dSeq (dFor (iR1 (dCons (dOp dMod (dOp dAdd (dCall sd__law_next [] (dCons (dVar 0) (dCons (dC (.int 5)) dNil))) (dC (.int 2))) (dC (.int 5))) dNil)) (gdName 4)
  (dSeq (dAsg (dCall sd__law_result [] (dCons (dVar 1) (dCons (dOp dIx (dVar 2) (dOp dMod (dCB dInt1 (dCons (dVar 4) dNil)) (dCB dLen (dCons (dVar 2) dNil)))) dNil))) (gdName 5))
  (dSeq (dAsg (dCall sd__law_amount [] (dCons (dVar 0) (dCons (dUn dNeg (dOp dPow (dC (.int 10)) (dC (.int 18)))) (dCons (dOp dPow (dC (.int 10)) (dC (.int 18))) dNil)))) (gdName 6))
  (dSeq (dAsg (dCall sd__law_amount [] (dCons (dVar 0) (dCons (dVar 6) (dCons (dOp dPow (dC (.int 10)) (dC (.int 18))) dNil)))) (gdName 7))
  (dSeq (dIfS (dAnd (dTest (dOp dNe (dCall sd__law_next [] (dCons (dVar 0) (dCons (dC (.int 3)) dNil))) (dC (.int 1)))) (dTest (dOp dLe (dCB dAbs (dCons (dVar 5) dNil)) (dOp dPow (dC (.int 10)) (dC (.int 18))))))
  (dSeq (dAsg (dCB dMax2 (dCons (dUn dNeg (dOp dPow (dC (.int 10)) (dC (.int 18)))) (dCons (dOp dSub (dVar 5) (dCall sd__law_next [] (dCons (dVar 0) (dCons (dC (.int 4)) dNil)))) dNil))) (gdName 6))
  (dAsg (dCB dMin2 (dCons (dOp dPow (dC (.int 10)) (dC (.int 18))) (dCons (dCB dMax2 (dCons (dVar 6) (dCons (dOp dSub (dOp dAdd (dVar 5) (dCall sd__law_next [] (dCons (dVar 0) (dCons (dC (.int 4)) dNil)))) (dC (.int 1))) dNil))) dNil))) (gdName 7)))
  dNext)
  (dApp 3 (dTup (dCons (dVar 6) (dCons (dVar 7) dNil)))))))))
  (dRet (dVar 3))))
theorem len__law_around : ∀ as Q E, sd__law_around as Q E → as.length = 3 := by
  rintro _ _ _ ⟨_, _, rfl, _⟩
  rfl
theorem good_add {ps : List Pr} {a b : Int} (g : Good ps) (h : a ≤ b) (h1 : -(10 ^ 18) ≤ a) (h2 : b ≤ 10 ^ 18) : Good (ps ++ [(a, b)]) := ⟨fun q m => by
  rcases List.mem_append.mp m with m | m
  · exact g.1 q m
  · rw [List.mem_singleton.mp m]
    exact h, fun q m => by
  rcases List.mem_append.mp m with m | m
  · exact g.2 q m
  · rw [List.mem_singleton.mp m]
    exact ⟨h1, h2⟩⟩
theorem pure__law_around : ∀ as Q E, sd__law_around as Q E → d__law_around (dEnds Q E) (startD 8 as) := by
  rintro as Q E ⟨ds, zs, rfl, ho, hz, hq⟩
  have c18 : CPow 10 18 := ⟨by decide, by decide, by decide⟩
  refine ⟨by simp, ?_⟩
  refine ⟨5, rfl, by decide, fun n _ _ => ?_⟩
  refine ⟨(by decide : (0 : Int) < 5), ?_⟩
  have m0 : 0 ≤ (n + 2) % 5 ∧ (n + 2) % 5 < 5 := ⟨Int.emod_nonneg _ (by decide), Int.emod_lt_of_pos _ (by decide)⟩
  refine ⟨by show -(2 ^ 62) ≤ (n + 2) % 5; omega, by show (n + 2) % 5 < 2 ^ 62; omega, ?_⟩
  refine for_rng (fun i ρ => ∃ (ps : List Pr) (L : List Dt) (s4 s5 s6 s7 : Sl), ρ = [.dat .drw, .dat (.lst (ds.map Deed.dt)), .dat (.lst (zs.map Dt.int)), .own L, s4, s5, s6, s7] ∧ L = ps.map prD ∧ Good ps ∧ ps.length ≤ i) ⟨[], _, _, _, _, _, rfl, rfl, good_nil, by simp⟩ ?_ ?_
  · rintro i ρ hi ⟨ps, _, s4, s5, s6, s7, rfl, rfl, g, hl⟩
    have hi : i < ((n + 2) % 5).toNat := hi
    refine ⟨(by rw [List.length_map]; omega : (0 : Int) < ((zs.map Dt.int).length : Int)), ?_⟩
    obtain ⟨z, ez⟩ := atI_mod hz (0 + (i : Nat))
    refine ⟨_, ez, ?_⟩
    refine ⟨ds, z, rfl, ho, ?_⟩
    generalize run14 ds z = m
    refine ⟨c18, c18, ?_⟩
    refine ⟨-(10 ^ 18), 10 ^ 18, rfl, by decide, fun lo h1 h2 => ?_⟩
    refine ⟨c18, ?_⟩
    refine ⟨lo, 10 ^ 18, rfl, h2, fun hi h3 h4 => ?_⟩
    refine ⟨3, rfl, by decide, fun t _ _ => ?_⟩
    refine ⟨_, _, rfl, rfl, rfl, rfl, ?_⟩
    have fin : ∀ a b : Int, -(10 ^ 18) ≤ a → a ≤ b → b ≤ 10 ^ 18 → ∃ (ps' : List Pr) (L : List Dt) (s4' s5' s6' s7' : Sl), ([.dat .drw, .dat (.lst (ds.map Deed.dt)), .dat (.lst (zs.map Dt.int)), .own (ps.map prD ++ [.tup [.v (.int a), .v (.int b)]]), .dat (.v (.int (0 + (i : Nat)))), .int m, .int a, .int b] : En) = [.dat .drw, .dat (.lst (ds.map Deed.dt)), .dat (.lst (zs.map Dt.int)), .own L, s4', s5', s6', s7'] ∧ L = ps'.map prD ∧ Good ps' ∧ ps'.length ≤ i + 1 :=
      fun a b k1 k2 k3 => ⟨ps ++ [(a, b)], _, _, _, _, _, rfl, by rw [List.map_append]; rfl, good_add g k2 k1 k3, by simp; omega⟩
    refine iteN (fun _ => ?_) (fun _ => ?_)
    · refine ⟨c18, ?_⟩
      refine iteD (fun h => ?_) (fun _ => ?_)
      · have h : (if m < 0 then -m else m) ≤ 10 ^ 18 := h
        have h5 : -(10 ^ 18) ≤ m ∧ m ≤ 10 ^ 18 := by split at h <;> omega
        refine ⟨c18, ?_⟩
        refine ⟨4, rfl, by decide, fun u u0 _ => ?_⟩
        refine ⟨c18, ?_⟩
        refine ⟨4, rfl, by decide, fun w w0 _ => ?_⟩
        refine ⟨by simp, by simp; omega, ?_⟩
        refine fin (if m - u > -(10 ^ 18) then m - u else -(10 ^ 18)) (if (if m + w - 1 > (if m - u > -(10 ^ 18) then m - u else -(10 ^ 18)) then m + w - 1 else (if m - u > -(10 ^ 18) then m - u else -(10 ^ 18))) < 10 ^ 18 then (if m + w - 1 > (if m - u > -(10 ^ 18) then m - u else -(10 ^ 18)) then m + w - 1 else (if m - u > -(10 ^ 18) then m - u else -(10 ^ 18))) else 10 ^ 18) ?_ ?_ ?_ <;> (repeat' split) <;> omega
      · exact ⟨by simp, by simp; omega, fin lo hi h1 h3 h4⟩
    · exact ⟨by simp, by simp; omega, fin lo hi h1 h3 h4⟩
  · rintro ρ ⟨ps, _, s4, s5, s6, s7, rfl, rfl, g, hl⟩
    exact hq ps g (by omega)


theorem iteNb {a b : Bool} {A B : Prop} (e : a = b) (q : B) : if (!PyData.eqv (.bool a) (.bool b)) = true then A else B := by
  subst e
  exact iteNs rfl q

theorem okT (ps : List Pr) : okD 60 (.tup (ps.map prD)) = true := by
  show (ps.map prD).all (okD 59) = true
  rw [List.all_map, List.all_eq_true]
  exact fun _ _ => rfl

/-! ### one test, asked -/
theorem small_lay {x : Str} (h : Small x) : (PyData.str x).canLay0 = true := by
  have z : x.cps.all (· < 0x110000) = true := by
    rw [Array.all_eq_true']
    intro c hc
    have h1 := h c (Array.mem_toList_iff.mpr hc)
    have h2 : ∀ c ∈ lettersS.cps.toList, decide (c < 0x110000) = true := by decide +kernel
    exact h2 c h1
  exact z
def sd_Condition_tests (kl : Kl) : Sd := fun as Q _ => ∃ t : Dt, as = [t] ∧ OneT kl t ∧ Q (.tup [t])
def d_Condition_tests (kl : Kl) : DS := (dRetE (dCB dTupleOf (dCons (dMeth (tb_gather kl) "gather" (dVar 0) dNil) dNil)))
theorem pure_Condition_tests (kl : Kl) : ∀ as Q E, sd_Condition_tests kl as Q E → d_Condition_tests kl (dEnds Q E) (startD 1 as) := by
  rintro as Q E ⟨t, rfl, (⟨x, l, ss, rfl⟩ | ⟨l, ss, rfl⟩), hq⟩
  · exact ⟨_, _, sd_Test_gather kl, rfl, by simp [tb_gather], rfl, x, l, ss, rfl, hq⟩
  · exact ⟨_, _, sd_KeyTest_gather kl, rfl, by simp [tb_gather], rfl, l, ss, rfl, hq⟩
def sd_Condition_depth (kl : Kl) : Sd := fun as Q _ => ∃ t : Dt, as = [t] ∧ OneT kl t ∧ Q (.v (.int 1))
def d_Condition_depth (kl : Kl) : DS := (dRetE (dAt [kl.Test, kl.KeyTest, kl.Both, kl.Either, kl.Not] "level" (dVar 0)))
theorem pure_Condition_depth (kl : Kl) : ∀ as Q E, sd_Condition_depth kl as Q E → d_Condition_depth kl (dEnds Q E) (startD 1 as) := by
  rintro as Q E ⟨t, rfl, (⟨x, l, ss, rfl⟩ | ⟨l, ss, rfl⟩), hq⟩
  · exact ⟨_, _, _, rfl, by simp, rfl, hq⟩
  · exact ⟨_, _, _, rfl, by simp, rfl, hq⟩
def tp_tests (kl : Kl) : List (Addr × Sd) := [(kl.Test, sd_Condition_tests kl), (kl.KeyTest, sd_Condition_tests kl)]
def tp_depth (kl : Kl) : List (Addr × Sd) := [(kl.Test, sd_Condition_depth kl), (kl.KeyTest, sd_Condition_depth kl)]
def sd__law_lacks (kl : Kl) : Sd := fun as Q _ => ∃ (t : Dt) (k : Int) (kvs : List (Key × Dt)), as = [t, .v (.int k), .dct kvs] ∧
  ((∃ (x : Str) (l : List Pr) (ds : List Deed), t = testD kl x l (objs kl ds) ∧ (∀ d ∈ ds, d.ok) ∧ ((DW.atS kvs x = none ∧ Q (.lst [.v (.str x), .bl true, .bl false])) ∨ ∃ n : Int, DW.atS kvs x = some (.v (.int n)) ∧ Q (.lst [.v (.bl (hasB l (run14 ds n)))]))) ∨
   ∃ (l : List Pr) (ds : List Deed), t = keytD kl l (objs kl ds) ∧ (∀ d ∈ ds, d.ok) ∧ Q (.lst [.v (.bl (hasB l (run14 ds k)))]))
def d__law_lacks (kl : Kl) : DS := (dSeq (dAsg (dLst dNil) (gdName 3))
  (dSeq (dTry (dAsg (dLst (dCons (dMeth (tb_holds kl) "holds" (dVar 0) (dCons (dVar 1) (dCons (dVar 2) dNil))) dNil)) (gdName 3))
  ((exm_UnknownName kl, some 4, (fun a cls d => (dAsg (dLst (dCons (dXf a cls d kl.UnknownName "name" (dVar 4)) (dCons (dAndV (dCB (dIsX a cls d (.ref kl.ReadError) (isx_ReadError kl)) (dCons (dVar 4) (dCons (dC (.ref kl.ReadError)) dNil))) (dCB (dIsX a cls d (.ty "ValueError") (isx_ValueError kl)) (dCons (dVar 4) (dCons (dC (.ty "ValueError")) dNil)))) (dCons (dCB (dIsX a cls d (.ref kl.BadName) (isx_BadName kl)) (dCons (dVar 4) (dCons (dC (.ref kl.BadName)) dNil))) dNil)))) (gdName 3)))) :: ((exm_ReadError kl, none, (fun a cls d => (dAsg (dLst dNil) (gdName 3)))) :: [])))
  (dRet (dVar 3))))
theorem len__law_lacks (kl : Kl) : ∀ as Q E, sd__law_lacks kl as Q E → as.length = 3 := by
  rintro _ _ _ ⟨_, _, _, rfl, _⟩
  rfl
theorem pure__law_lacks (kl : Kl) : ∀ as Q E, sd__law_lacks kl as Q E → d__law_lacks kl (dEnds Q E) (startD 5 as) := by
  rintro as Q E ⟨t, k, kvs, rfl, (⟨x, l, ds, rfl, ho, hx⟩ | ⟨l, ds, rfl, ho, hq⟩)⟩
  · refine ⟨by simp, ?_⟩
    refine ⟨_, _, sd_Condition_holds kl, rfl, by simp [tb_holds], rfl, ?_⟩
    refine ⟨_, _, _, rfl, .inl ⟨x, l, ds, rfl, ho, ?_⟩⟩
    rcases hx with ⟨h1, hq⟩ | ⟨n, h1, hq⟩
    · refine .inl ⟨h1, ?_⟩
      refine ⟨true, by simp [exm_UnknownName, noName], fun _ a' dd => ?_, fun h => nomatch h⟩
      refine ⟨_, _, rfl, rfl, rfl, ?_⟩
      refine ⟨_, _, true, rfl, rfl, by simp [isx_ReadError, noName], ?_⟩
      refine ⟨_, _, true, rfl, rfl, by simp [isx_ValueError, noName], ?_⟩
      refine ⟨_, _, false, rfl, rfl, by simp [isx_BadName, noName], ?_⟩
      exact ⟨by simp, hq⟩
    · exact .inr ⟨n, h1, by simp, hq⟩
  · refine ⟨by simp, ?_⟩
    refine ⟨_, _, sd_Condition_holds kl, rfl, by simp [tb_holds], rfl, ?_⟩
    exact ⟨_, _, _, rfl, .inr ⟨l, ds, rfl, ho, by simp, hq⟩⟩
def sd__law_holds_as (kl : Kl) : Sd := fun as Q _ => ∃ (t : Dt) (k : Int) (kvs : List (Key × Dt)) (b : Bool), as = [t, .v (.int k), .dct kvs, .v (.bl b)] ∧
  ((∃ (x : Str) (l : List Pr) (ds : List Deed) (n : Int), t = testD kl x l (objs kl ds) ∧ (∀ d ∈ ds, d.ok) ∧ DW.atS kvs x = some (.v (.int n)) ∧ hasB l (run14 ds n) = b) ∨
   ∃ (l : List Pr) (ds : List Deed), t = keytD kl l (objs kl ds) ∧ (∀ d ∈ ds, d.ok) ∧ hasB l (run14 ds k) = b) ∧ Q (.v (.bl true))
def d__law_holds_as (kl : Kl) : DS := (dSeq (dAsg (dCall (sd__law_lacks kl) [] (dCons (dVar 0) (dCons (dVar 1) (dCons (dVar 2) dNil)))) (gdName 4))
  (dRetE (dAndV (dOp dEq (dCB dLen (dCons (dVar 4) dNil)) (dC (.int 1))) (dAndV (dCB (dIsi .bool) (dCons (dOp dIx (dVar 4) (dC (.int 0))) (dCons (dC (.ty "bool")) dNil))) (dOp dEq (dOp dIx (dVar 4) (dC (.int 0))) (dVar 3))))))
theorem len__law_holds_as (kl : Kl) : ∀ as Q E, sd__law_holds_as kl as Q E → as.length = 4 := by
  rintro _ _ _ ⟨_, _, _, _, rfl, _⟩
  rfl
theorem pure__law_holds_as (kl : Kl) : ∀ as Q E, sd__law_holds_as kl as Q E → d__law_holds_as kl (dEnds Q E) (startD 5 as) := by
  have fin : ∀ (t : Dt) (k : Int) (kvs : List (Key × Dt)) (b : Bool) (Q : Dt → Prop) (E : Xn → Prop), Q (.v (.bl true)) → (dRetE (dAndV (dOp dEq (dCB dLen (dCons (dVar 4) dNil)) (dC (.int 1))) (dAndV (dCB (dIsi .bool) (dCons (dOp dIx (dVar 4) (dC (.int 0))) (dCons (dC (.ty "bool")) dNil))) (dOp dEq (dOp dIx (dVar 4) (dC (.int 0))) (dVar 3))))) (dEnds Q E) [.dat t, .dat (.v (.int k)), .dat (.dct kvs), .dat (.v (.bl b)), .dat (.lst [.v (.bl b)])] := by
    intro t k kvs b Q E hq
    refine ⟨_, _, rfl, rfl, rfl, rfl, ?_⟩
    refine ⟨_, rfl, ?_⟩
    refine ⟨rfl, .bool, rfl, ?_⟩
    refine ⟨.v (.bl b), rfl, ?_⟩
    refine ⟨_, _, rfl, rfl, rfl, rfl, ?_⟩
    show Q (.v (.bl (PyData.eqv (.bool b) (.bool b))))
    have e : PyData.eqv (.bool b) (.bool b) = true := by cases b <;> rfl
    rw [e]
    exact hq
  rintro as Q E ⟨t, k, kvs, b, rfl, (⟨x, l, ds, n, rfl, ho, h1, rfl⟩ | ⟨l, ds, rfl, ho, rfl⟩), hq⟩
  · exact ⟨_, _, _, rfl, .inl ⟨x, l, ds, rfl, ho, .inr ⟨n, h1, fin _ _ _ _ _ _ hq⟩⟩⟩
  · exact ⟨_, _, _, rfl, .inr ⟨l, ds, rfl, ho, fin _ _ _ _ _ _ hq⟩⟩
def sd__law_shape (kl : Kl) : Sd := fun as Q _ => ∃ t d : Dt, as = [t, d] ∧ ((∃ x l ss, t = testD kl x l ss ∧ Small x ∧ d = .tup [.v (.str x)]) ∨ ∃ l ss, t = keytD kl l ss ∧ d = .tup []) ∧ Q (.v (.bl true))
def d__law_shape (kl : Kl) : DS := (dSeq (dIfS (dOr (dNot (dTru (dCB (dIsO kl.Condition (is_Condition kl)) (dCons (dVar 0) (dCons (dC (.ref kl.Condition)) dNil))))) (dOr (dTest (dOp dNe (dPrT (tp_names kl) (dVar 0)) (dVar 1))) (dNot (dTru (dCB (dIsi .tuple) (dCons (dPrT (tp_names kl) (dVar 0)) (dCons (dC (.ty "tuple")) dNil)))))))
  (dRetE (dC (.bl false)))
  dNext)
  (dSeq (dIfS (dOr (dNot (dTru (dCB (dIsi .tuple) (dCons (dPrT (tp_tests kl) (dVar 0)) (dCons (dC (.ty "tuple")) dNil))))) (dOr (dTest (dOp dNe (dCB dLen (dCons (dPrT (tp_tests kl) (dVar 0)) dNil)) (dC (.int 1)))) (dTest (dOp dNe (dPrT (tp_depth kl) (dVar 0)) (dC (.int 1))))))
  (dRetE (dC (.bl false)))
  dNext)
  (dSeq (dIfS (dOr (dTest (dOp dNe (dCB (dIsO kl.Test (is_Test kl)) (dCons (dOp dIx (dPrT (tp_tests kl) (dVar 0)) (dC (.int 0))) (dCons (dC (.ref kl.Test)) dNil))) (dOp dNe (dVar 1) (dTup dNil)))) (dTest (dOp dNe (dCB (dIsO kl.KeyTest (is_KeyTest kl)) (dCons (dOp dIx (dPrT (tp_tests kl) (dVar 0)) (dC (.int 0))) (dCons (dC (.ref kl.KeyTest)) dNil))) (dOp dEq (dVar 1) (dTup dNil)))))
  (dRetE (dC (.bl false)))
  dNext)
  (dRetE (dAndV (dOp dIsB (dMeth (tb_truth kl) "truth" (dVar 0) (dCons (dLst (dCons (dC (.bl true)) dNil)) dNil)) (dC (.bl true))) (dOp dIsB (dMeth (tb_truth kl) "truth" (dVar 0) (dCons (dLst (dCons (dC (.bl false)) dNil)) dNil)) (dC (.bl false))))))))
theorem len__law_shape (kl : Kl) : ∀ as Q E, sd__law_shape kl as Q E → as.length = 2 := by
  rintro _ _ _ ⟨_, _, rfl, _⟩
  rfl
theorem pure__law_shape (kl : Kl) : ∀ as Q E, sd__law_shape kl as Q E → d__law_shape kl (dEnds Q E) (startD 2 as) := by
  have key : ∀ (t d : Dt) (C : Addr) (gs : List (Str × Dt)) (b : Bool) (p : PyData) (Q : Dt → Prop) (E : Xn → Prop), t = .obj C gs → OneT kl t → C ∈ [kl.Test, kl.KeyTest] → (C, sd_Condition_names kl) ∈ tp_names kl → (C, sd_Condition_tests kl) ∈ tp_tests kl → (C, sd_Condition_depth kl) ∈ tp_depth kl → (C, sd_Condition_truth kl) ∈ tb_truth kl → (C, true) ∈ is_Condition kl → (C, b) ∈ is_Test kl → (C, !b) ∈ is_KeyTest kl → gs.lookup ("truth" : Str) = none →
      okD 60 d = true → (∃ ds, d = .tup ds) → toPy d = some p → SeqAt.shaped p = true → PyData.eqv p (.tuple []) = !b → (∀ Q' E', Q' d → sd_Condition_names kl [t] Q' E') → Q (.v (.bl true)) → d__law_shape kl (dEnds Q E) (startD 2 [t, d]) := by
    rintro t d C gs b p Q E rfl ot hC h1 h2 h3 h4 h5 h6 h7 hl ok ⟨ds, rfl⟩ hp hs he hn hq
    have h20 : (∀ Q' E', Q' (.tup [.obj C gs]) → sd_Condition_tests kl [.obj C gs] Q' E') := fun Q' E' q => ⟨_, rfl, ot, q⟩
    refine ⟨_, rfl, .inl ⟨_, _, true, rfl, h5, ?_⟩⟩
    refine ⟨_, _, _, rfl, h1, hn _ _ ?_⟩
    refine dVar_ap (d := .tup ds) rfl ?_
    refine dNe_self ok ?_
    refine ⟨_, _, _, rfl, h1, hn _ _ ?_⟩
    refine ⟨rfl, .tuple, rfl, ?_⟩
    refine ⟨_, _, _, rfl, h2, h20 _ _ ?_⟩
    refine ⟨rfl, .tuple, rfl, ?_⟩
    refine ⟨_, _, _, rfl, h2, h20 _ _ ?_⟩
    refine ⟨_, _, rfl, rfl, rfl, rfl, ?_⟩
    refine ⟨_, _, _, rfl, h3, _, rfl, ot, ?_⟩
    refine ⟨_, _, rfl, rfl, rfl, rfl, ?_⟩
    refine ⟨_, _, _, rfl, h2, h20 _ _ ?_⟩
    refine ⟨_, rfl, ?_⟩
    refine ⟨_, rfl, .inl ⟨_, _, b, rfl, h6, ?_⟩⟩
    refine ⟨by simp, ?_⟩
    refine ⟨p, .tuple [], hp, rfl, hs, rfl, ?_⟩
    rw [he]
    refine ⟨_, _, rfl, rfl, rfl, rfl, ?_⟩
    refine iteNb (by cases b <;> rfl) ?_
    refine ⟨_, _, _, rfl, h2, h20 _ _ ?_⟩
    refine ⟨_, rfl, ?_⟩
    refine ⟨_, rfl, .inl ⟨_, _, !b, rfl, h7, ?_⟩⟩
    refine ⟨by simp, ?_⟩
    refine ⟨p, .tuple [], hp, rfl, hs, rfl, ?_⟩
    rw [he]
    refine ⟨_, _, rfl, rfl, rfl, rfl, ?_⟩
    refine iteNb rfl ?_
    refine ⟨_, _, _, rfl, h4, hl, by simp, ?_⟩
    refine ⟨_, _, rfl, ot, ?_⟩
    refine ⟨_, _, rfl, rfl, ?_⟩
    refine ⟨_, _, _, rfl, h4, hl, by simp, ?_⟩
    refine ⟨_, _, rfl, ot, ?_⟩
    exact ⟨_, _, rfl, rfl, hq⟩
  rintro as Q E ⟨t, d, rfl, (⟨x, l, ss, rfl, hx, rfl⟩ | ⟨l, ss, rfl, rfl⟩), hq⟩
  · refine key _ _ kl.Test _ true (.tuple [.str x]) Q E rfl (.inl ⟨_, _, _, rfl⟩) (by simp) (by simp [tp_names]) (by simp [tp_tests]) (by simp [tp_depth]) (by simp [tb_truth]) (by simp [is_Condition]) (by simp [is_Test]) (by simp [is_KeyTest]) rfl ?_ ⟨_, rfl⟩ rfl ?_ rfl (fun Q' E' q => ⟨_, rfl, .inl ⟨_, _, _, rfl, q⟩⟩) hq
    · simp only [okD, List.all_cons, List.all_nil, Bool.and_true, small_lay hx]
    · unfold SeqAt.shaped
      have z : (PyData.tuple [.str x]).canLay0 = true := by
        simp only [PyData.canLay0, PyData.canLayAll0, Bool.and_true]
        exact small_lay hx
      rw [z]
      rfl
  · exact key _ _ kl.KeyTest _ false (.tuple []) Q E rfl (.inr ⟨_, _, rfl⟩) (by simp) (by simp [tp_names]) (by simp [tp_tests]) (by simp [tp_depth]) (by simp [tb_truth]) (by simp [is_Condition]) (by simp [is_Test]) (by simp [is_KeyTest]) rfl rfl ⟨_, rfl⟩ rfl rfl rfl (fun Q' E' q => ⟨_, rfl, .inr ⟨_, _, rfl, q⟩⟩) hq


theorem hasB_eq {a b : List Pr} {x : Int} (h : In a x ↔ In b x) : hasB a x = hasB b x := by
  by_cases c : In b x
  · rw [hasB_iff.mpr c, hasB_iff.mpr (h.mpr c)]
  · rw [hasB_false c, hasB_false fun z => c (h.mp z)]
theorem bl_take {kl : Kl} (ds : List Deed) (hl : ds.length ≤ 3) : ∀ (i : Nat) (d : Deed), ds[i]? = some d → (objs kl (ds.take i)).length ≤ 100000 ∧ objs kl (ds.take i) ++ [d.obj kl] = objs kl (ds.take (i + 1)) := fun i d hd => by
  refine ⟨by rw [objs_len, List.length_take]; omega, ?_⟩
  rw [tk_snoc hd]
  unfold objs
  rw [List.map_append]
  rfl
theorem mg2 {w o : Str} (h : o ≠ w) (a b : Dt) : mergeKD [] [((.inr w : Key), a), (.inr o, b)] = [(.inr w, a), (.inr o, b)] := by
  have h2 : ¬ w = o := fun e => h e.symm
  simp [mergeKD, putKD, h2]
theorem mg1 (w : Str) (a : Dt) : mergeKD [] [((.inr w : Key), a)] = [(.inr w, a)] := rfl
def d_law (kl : Kl) : DS := (dSeq (dSetF 2 (fLc (iR1 (dCons (dC (.int 3)) dNil)) (gdName 16) dYes (dCall sd__law_amount [] (dCons (dVar 1) (dCons (dUn dNeg (dOp dPow (dC (.int 10)) (dC (.int 18)))) (dCons (dOp dPow (dC (.int 10)) (dC (.int 18))) dNil)))) [16]))
  (dSeq (dApp 2 (dCall sd__law_amount [] (dCons (dVar 1) (dCons (dUn dNeg (dOp dPow (dC (.int 10)) (dC (.int 19)))) (dCons (dOp dPow (dC (.int 10)) (dC (.int 19))) dNil)))))
  (dSeq (dAsg (dLc (iR1 (dCons (dCall sd__law_next [] (dCons (dVar 1) (dCons (dC (.int 4)) dNil))) dNil)) (gdName 16) dYes (dCall sd__law_deed [] (dCons (dVar 1) (dCons (dCall sd__law_next [] (dCons (dVar 1) (dCons (dC (.int 6)) dNil))) dNil))) [16]) (gdName 3))
  (dFrz 2 (dSeq (dAsg (dCall sd__law_around [] (dCons (dVar 1) (dCons (dVar 3) (dCons (dVar 2) dNil)))) (gdName 4))
  (dSeq (dAsg (dCall sd__law_word [] (dCons (dVar 1) dNil)) (gdName 5))
  (dSeq (dAsg (dMake (sd_Stretches___init__ kl) (dCons (dCB dListOf (dCons (dVar 4) dNil)) dNil)) (gdName 6))
  (dSeq (dAsg (dCall (sd__law_linked kl) [] (dCons (dLc (iSeq (dVar 3)) (gdName 17) dYes (dCall (sd__law_built kl) [] (dCons (dVar 17) dNil)) [17]) dNil)) (gdName 7))
  (dSeq (dAsg (dCall sd__law_next [] (dCons (dVar 1) (dCons (dC (.int 3)) dNil))) (gdName 8))
  (dSeq (dIfS (dAnd (dTest (dOp dEqL (dVar 3) (dLst dNil))) (dTest (dOp dEq (dVar 8) (dC (.int 0)))))
  (dSeq (dAsg (dMake (sd_Test___init__ kl) (dAppD (dCons (dVar 5) (dCons (dVar 6) dNil)) [Dt.non])) (gdName 9))
  (dAsg (dMake (sd_KeyTest___init__ kl) (dAppD (dCons (dVar 6) dNil) [Dt.non])) (gdName 10)))
  (dIfS (dAnd (dTest (dOp dEqL (dVar 3) (dLst dNil))) (dTest (dOp dEq (dVar 8) (dC (.int 1)))))
  (dSeq (dAsg (dMake (sd_Test___init__ kl) (dKwN (dCons (dVar 5) (dCons (dVar 6) dNil)) (dCons (dC .non) dNil) 2 (["cast"] : List Str).length (fun vs zs => vs ++ ((zs.drop 0).take 1 ++ [])))) (gdName 9))
  (dAsg (dMake (sd_KeyTest___init__ kl) (dKwN (dCons (dVar 6) dNil) (dCons (dC .non) dNil) 1 (["cast"] : List Str).length (fun vs zs => vs ++ ((zs.drop 0).take 1 ++ [])))) (gdName 10)))
  (dSeq (dAsg (dMake (sd_Test___init__ kl) (dKwN (dCons (dVar 5) (dCons (dVar 6) dNil)) (dCons (dVar 7) dNil) 2 (["cast"] : List Str).length (fun vs zs => vs ++ ((zs.drop 0).take 1 ++ [])))) (gdName 9))
  (dAsg (dMake (sd_KeyTest___init__ kl) (dKwN (dCons (dVar 6) dNil) (dCons (dVar 7) dNil) 1 (["cast"] : List Str).length (fun vs zs => vs ++ ((zs.drop 0).take 1 ++ [])))) (gdName 10)))))
  (dSeq (dIfS (dOr (dNot (dTru (dCall (sd__law_shape kl) [] (dCons (dVar 9) (dCons (dTup (dCons (dVar 5) dNil)) dNil))))) (dNot (dTru (dCall (sd__law_shape kl) [] (dCons (dVar 10) (dCons (dTup dNil) dNil))))))
  (dRetE (dC (.bl false)))
  dNext)
  (dSeq (dAsg (dC (.str (PySem.Str.ofString "b"))) (gdName 11))
  (dSeq (dIfS (dTest (dOp dEq (dVar 5) (dC (.str (PySem.Str.ofString "b")))))
  (dAsg (dC (.str (PySem.Str.ofString "c"))) (gdName 11))
  dNext)
  (dSeq (dFor (iSeq (dVar 2)) (gdName 12)
  (dSeq (dAsg (dCall sd__law_has [] (dCons (dVar 4) (dCons (dCall sd__law_result [] (dCons (dVar 3) (dCons (dVar 12) dNil))) dNil))) (gdName 13))
  (dSeq (dFor (iSeq (dLst (dCons (dC (.int 0)) (dCons (dVar 12) (dCons (dOp dIx (dVar 2) (dC (.int 0))) dNil))))) (gdName 14)
  (dSeq (dAsg (dDispK (kCons (dVar 5) (dVar 12) (kCons (dVar 11) (dC (.int 0)) kNil))) (gdName 15))
  (dSeq (dIfS (dOr (dNot (dTru (dCall (sd__law_holds_as kl) [] (dCons (dVar 9) (dCons (dVar 14) (dCons (dVar 15) (dCons (dVar 13) dNil))))))) (dNot (dTru (dCall (sd__law_holds_as kl) [] (dCons (dVar 9) (dCons (dVar 14) (dCons (dDispK (kCons (dVar 5) (dVar 12) kNil)) (dCons (dVar 13) dNil))))))))
  (dRetE (dC (.bl false)))
  dNext)
  (dIfS (dOr (dTest (dOp dNeDct (dVar 15) (dDispK (kCons (dVar 5) (dVar 12) (kCons (dVar 11) (dC (.int 0)) kNil))))) (dTest (dOp dNe (dCall (sd__law_lacks kl) [] (dCons (dVar 9) (dCons (dVar 14) (dCons (dDispK (kCons (dVar 11) (dVar 12) kNil)) dNil)))) (dLst (dCons (dVar 5) (dCons (dC (.bl true)) (dCons (dC (.bl false)) dNil)))))))
  (dRetE (dC (.bl false)))
  dNext))))
  (dIfS (dOr (dNot (dTru (dCall (sd__law_holds_as kl) [] (dCons (dVar 10) (dCons (dVar 12) (dCons dDisp0 (dCons (dVar 13) dNil))))))) (dNot (dTru (dCall (sd__law_holds_as kl) [] (dCons (dVar 10) (dCons (dVar 12) (dCons (dDispK (kCons (dVar 5) (dC (.int 0)) kNil)) (dCons (dVar 13) dNil))))))))
  (dRetE (dC (.bl false)))
  dNext))))
  (dRetE (dC (.bl true)))))))))))))))))
theorem pure_law (kl : Kl) : ∀ ns : List Int, ns.length ≤ 63 → d_law kl (dEnds isTrue fun _ => False) (lawEn 18 ns) := by
  intro ns _
  have c18 : CPow 10 18 := ⟨by decide, by decide, by decide⟩
  have c19 : CPow 10 19 := ⟨by decide, by decide, by decide⟩
  have e0 : lawEn 18 ns = [.dat (.lst (ns.map Dt.int)), .dat .drw, .emp, .emp, .emp, .emp, .emp, .emp, .emp, .emp, .emp, .emp, .emp, .emp, .emp, .emp, .emp, .emp] := rfl
  rw [e0]
  clear e0
  generalize Sl.dat (.lst (ns.map Dt.int)) = s0
  refine ⟨by decide, by decide, ?_⟩
  refine ⟨fun i acc => ∃ zs : List Int, acc = zs.map Dt.int ∧ zs.length = i, ⟨[], rfl, rfl⟩, ?_, ?_⟩
  · rintro i x acc hx ⟨zs, rfl, hz⟩
    have hi : i < 3 := by
      have := (List.getElem?_eq_some_iff.mp hx).1
      rwa [intsR_len] at this
    refine ⟨c18, c18, ?_⟩
    refine ⟨-(10 ^ 18), 10 ^ 18, rfl, by decide, fun r _ _ => ?_⟩
    exact ⟨by rw [List.length_map]; omega, zs ++ [r], by rw [List.map_append]; rfl, by simp [hz]⟩
  rintro acc ⟨zs, rfl, hz⟩
  rw [intsR_len] at hz
  refine ⟨_, rfl, ?_⟩
  refine ⟨c19, c19, ?_⟩
  refine ⟨-(10 ^ 19), 10 ^ 19, rfl, by decide, fun r _ _ => ?_⟩
  refine ⟨by simp; omega, ?_⟩
  have e1 : zs.map Dt.int ++ [Dt.int r] = (zs ++ [r]).map Dt.int := by rw [List.map_append]; rfl
  have hz4 : (zs ++ [r]).length = 4 := by
    rw [List.length_append, hz]
    rfl
  simp only [List.set_cons_succ, List.set_cons_zero]
  rw [e1]
  generalize zs ++ [r] = ps at hz4
  clear e1
  refine ⟨4, rfl, by decide, fun n h0 h1 => ?_⟩
  refine ⟨by omega, by omega, ?_⟩
  refine ⟨fun i acc => ∃ ds : List Deed, acc = ds.map Deed.dt ∧ ds.length = i ∧ ∀ d ∈ ds, d.ok, ⟨[], rfl, rfl, fun _ z => (nomatch z)⟩, ?_, ?_⟩
  · rintro i x acc hx ⟨ds, rfl, hl, ho⟩
    have hi : i < n.toNat := by
      have := (List.getElem?_eq_some_iff.mp hx).1
      rwa [intsR_len] at this
    refine ⟨6, rfl, by decide, fun k _ _ => ?_⟩
    refine ⟨k, rfl, fun d hd => ?_⟩
    refine ⟨by rw [List.length_map]; omega, ds ++ [d], by rw [List.map_append]; rfl, by simp [hl], fun z hz => ?_⟩
    rcases List.mem_append.mp hz with w | w
    · exact ho z w
    · rw [List.mem_singleton.mp w]
      exact hd
  rintro acc ⟨one, rfl, hl1, ho1⟩
  rw [intsR_len] at hl1
  have l1 : one.length ≤ 3 := by omega
  clear hl1
  have o1 := objs_len kl one
  refine ⟨one, ps, rfl, ho1, by omega, fun rows gr lr => ?_⟩
  refine ⟨rfl, fun w hw => ?_⟩
  refine ⟨rows, _, rfl, .inl rfl, by omega, fun p h => no_bad gr p h, fun _ s hs es ls => ?_⟩
  simp only [List.set_cons_succ, List.set_cons_zero]
  refine ⟨fun i acc => acc = objs kl (one.take i), rfl, ?_, ?_⟩
  · rintro i x acc hx rfl
    obtain ⟨d, hd, rfl⟩ := dts_at hx
    exact ⟨d, rfl, ho1 d (List.mem_of_getElem? hd), bl_take one l1 i d hd⟩
  rintro acc rfl
  rw [List.length_map, List.take_length]
  refine ⟨objs kl one, rfl, by omega, fun h => by omega, fun _ => ?_⟩
  simp only [List.set_cons_succ, List.set_cons_zero]
  refine ⟨3, rfl, by decide, fun kd k0 k1 => ?_⟩
  simp only [List.set_cons_succ, List.set_cons_zero]
  have es' : ∀ n, In s n ↔ In rows n := es
  -- the two tests, however made
  refine gdN ?_
  simp only [List.set_cons_succ, List.set_cons_zero]
  refine sq_cut (fun ρ => ρ = [s0, .dat .drw, .dat (.lst (ps.map Dt.int)), .dat (.lst (one.map Deed.dt)), .dat (.lst (rows.map prD)), .dat (.v (.str w)), .dat (stD kl s), .dat (chD kl (objs kl one)), .dat (.v (.int kd)), .dat (testD kl w s (objs kl one)), .dat (keytD kl s (objs kl one)), .emp, .emp, .emp, .emp, .emp, .emp, .emp]) ?_ ?_
  · intro K hK
    have fin := hK _ rfl
    have e : ∀ {A B : Prop}, (one ≠ [] → B) → (one = [] → A) → if (one.map Deed.dt).isEmpty = true then A else B := fun {A B} h1 h2 => by
      cases one with
      | nil => exact h2 rfl
      | cons d r => exact h1 (fun z => nomatch z)
    have last : ∀ {D : DEnds}, D.nx = K → dSeq (dAsg (dMake (sd_Test___init__ kl) (dKwN (dCons (dVar 5) (dCons (dVar 6) dNil)) (dCons (dVar 7) dNil) 2 (["cast"] : List Str).length (fun vs zs => vs ++ ((zs.drop 0).take 1 ++ [])))) (gdName 9)) (dAsg (dMake (sd_KeyTest___init__ kl) (dKwN (dCons (dVar 6) dNil) (dCons (dVar 7) dNil) 1 (["cast"] : List Str).length (fun vs zs => vs ++ ((zs.drop 0).take 1 ++ [])))) (gdName 10)) D [s0, .dat .drw, .dat (.lst (ps.map Dt.int)), .dat (.lst (one.map Deed.dt)), .dat (.lst (rows.map prD)), .dat (.v (.str w)), .dat (stD kl s), .dat (chD kl (objs kl one)), .dat (.v (.int kd)), .emp, .emp, .emp, .emp, .emp, .emp, .emp, .emp, .emp] := by
      rintro D rfl
      refine ⟨⟨rfl, rfl⟩, w, s, _, objs kl one, rfl, hw, by omega, .inr rfl, ?_⟩
      refine ⟨⟨rfl, rfl⟩, s, _, objs kl one, rfl, by omega, .inr rfl, ?_⟩
      exact fin
    refine ⟨by simp, _, rfl, rfl, ?_⟩
    refine e (fun _ => ?_) (fun h0 => ?_)
    · refine ⟨by simp, _, rfl, rfl, ?_⟩
      refine e (fun _ => last rfl) (fun h0 => ?_)
      refine ⟨_, _, rfl, rfl, rfl, rfl, ?_⟩
      refine iteE (fun _ => ?_) (fun _ => last rfl)
      subst h0
      refine ⟨⟨rfl, rfl⟩, w, s, _, [], rfl, hw, by omega, .inl ⟨rfl, rfl⟩, ?_⟩
      refine ⟨⟨rfl, rfl⟩, s, _, [], rfl, by omega, .inl ⟨rfl, rfl⟩, ?_⟩
      exact fin
    · refine ⟨_, _, rfl, rfl, rfl, rfl, ?_⟩
      refine iteE (fun _ => ?_) (fun _ => ?_)
      · subst h0
        refine ⟨w, s, _, [], rfl, hw, by omega, .inl ⟨rfl, rfl⟩, ?_⟩
        refine ⟨s, _, [], rfl, by omega, .inl ⟨rfl, rfl⟩, ?_⟩
        exact fin
      · refine ⟨by simp, _, rfl, rfl, ?_⟩
        refine e (fun _ => last rfl) (fun h0 => ?_)
        refine ⟨_, _, rfl, rfl, rfl, rfl, ?_⟩
        refine iteE (fun _ => ?_) (fun _ => last rfl)
        subst h0
        refine ⟨⟨rfl, rfl⟩, w, s, _, [], rfl, hw, by omega, .inl ⟨rfl, rfl⟩, ?_⟩
        refine ⟨⟨rfl, rfl⟩, s, _, [], rfl, by omega, .inl ⟨rfl, rfl⟩, ?_⟩
        exact fin
  rintro ρ rfl
  refine sq_cut (fun ρ => ρ = [s0, .dat .drw, .dat (.lst (ps.map Dt.int)), .dat (.lst (one.map Deed.dt)), .dat (.lst (rows.map prD)), .dat (.v (.str w)), .dat (stD kl s), .dat (chD kl (objs kl one)), .dat (.v (.int kd)), .dat (testD kl w s (objs kl one)), .dat (keytD kl s (objs kl one)), .emp, .emp, .emp, .emp, .emp, .emp, .emp]) ?_ ?_
  · intro K hK
    refine ⟨by simp, ?_⟩
    refine ⟨_, _, rfl, .inl ⟨w, s, _, rfl, hw.1, rfl⟩, ?_⟩
    refine ⟨by simp, ?_⟩
    exact ⟨_, _, rfl, .inr ⟨s, _, rfl, rfl⟩, hK _ rfl⟩
  rintro ρ rfl
  refine sq_cut (fun ρ => ρ = [s0, .dat .drw, .dat (.lst (ps.map Dt.int)), .dat (.lst (one.map Deed.dt)), .dat (.lst (rows.map prD)), .dat (.v (.str w)), .dat (stD kl s), .dat (chD kl (objs kl one)), .dat (.v (.int kd)), .dat (testD kl w s (objs kl one)), .dat (keytD kl s (objs kl one)), .dat (.v (.str (PySem.Str.ofString "b"))), .emp, .emp, .emp, .emp, .emp, .emp]) ?_ ?_
  · intro K hK
    exact hK _ rfl
  rintro ρ rfl
  refine sq_cut (fun ρ => ∃ o : Str, o ≠ w ∧ Small o ∧ ρ = [s0, .dat .drw, .dat (.lst (ps.map Dt.int)), .dat (.lst (one.map Deed.dt)), .dat (.lst (rows.map prD)), .dat (.v (.str w)), .dat (stD kl s), .dat (chD kl (objs kl one)), .dat (.v (.int kd)), .dat (testD kl w s (objs kl one)), .dat (keytD kl s (objs kl one)), .dat (.v (.str o)), .emp, .emp, .emp, .emp, .emp, .emp]) ?_ ?_
  · intro K hK
    refine ⟨_, _, rfl, rfl, small_ok hw.1, by decide +kernel, ?_⟩
    refine iteT (fun e => ?_) (fun e => ?_)
    · refine hK _ ⟨_, ?_, ?_, rfl⟩
      · rw [e]
        decide +kernel
      · show ∀ c ∈ _, _
        decide +kernel
    · refine hK _ ⟨_, fun z => e z.symm, ?_, rfl⟩
      show ∀ c ∈ _, _
      decide +kernel
  rintro ρ ⟨o, ho, so, rfl⟩
  refine for_inv (fun i ρ => ∃ s12 s13 s14 s15, ρ = [s0, .dat .drw, .dat (.lst (ps.map Dt.int)), .dat (.lst (one.map Deed.dt)), .dat (.lst (rows.map prD)), .dat (.v (.str w)), .dat (stD kl s), .dat (chD kl (objs kl one)), .dat (.v (.int kd)), .dat (testD kl w s (objs kl one)), .dat (keytD kl s (objs kl one)), .dat (.v (.str o)), s12, s13, s14, s15, .emp, .emp]) ⟨_, _, _, _, rfl⟩ ?_ ?_
  · rintro i x ρ hx ⟨s12, s13, s14, s15, rfl⟩
    obtain ⟨m, hm0, rfl⟩ := get_map hx
    refine ⟨one, m, rfl, ho1, ?_⟩
    refine ⟨rows, _, _, rfl, .inl rfl, ?_⟩
    have eh : hasB s (run14 one m) = hasB rows (run14 one m) := hasB_eq (es' _)
    obtain ⟨p0, hp0⟩ : ∃ p0, ps[0]? = some p0 := ⟨ps[0], List.getElem?_eq_getElem (by omega)⟩
    refine ⟨.int p0, by rw [show (0 : Int) = ((0 : Nat) : Int) from rfl]; exact atI_nat (by rw [List.getElem?_map, hp0]; rfl), ?_⟩
    refine ⟨by simp, ?_⟩
    refine for_inv (fun i ρ => ∃ s14 s15, ρ = [s0, .dat .drw, .dat (.lst (ps.map Dt.int)), .dat (.lst (one.map Deed.dt)), .dat (.lst (rows.map prD)), .dat (.v (.str w)), .dat (stD kl s), .dat (chD kl (objs kl one)), .dat (.v (.int kd)), .dat (testD kl w s (objs kl one)), .dat (keytD kl s (objs kl one)), .dat (.v (.str o)), .int m, .dat (.v (.bl (hasB rows (run14 one m)))), s14, s15, .emp, .emp]) ⟨_, _, rfl⟩ ?_ ?_
    · rintro i y ρ hy ⟨s14, s15, rfl⟩
      obtain ⟨k, rfl⟩ : ∃ k : Int, y = .int k := by
        match i, hy with
        | 0, h => cases h; exact ⟨_, rfl⟩
        | 1, h => cases h; exact ⟨_, rfl⟩
        | 2, h => cases h; exact ⟨_, rfl⟩
        | i + 3, h => simp at h
      refine ⟨w, rfl, _, rfl, o, rfl, _, rfl, by simp, ?_⟩
      rw [mg2 ho]
      refine ⟨_, k, _, _, rfl, .inl ⟨w, s, one, m, rfl, ho1, by simp [DW.atS], eh⟩, ?_⟩
      refine ⟨w, rfl, _, rfl, by simp, ?_⟩
      rw [mg1]
      refine ⟨_, k, _, _, rfl, .inl ⟨w, s, one, m, rfl, ho1, by simp [DW.atS], eh⟩, ?_⟩
      refine ⟨w, rfl, _, rfl, o, rfl, _, rfl, by simp, ?_⟩
      rw [mg2 ho]
      refine ⟨_, rfl, rfl, by simp [ho.symm], ?_, ?_⟩
      · rintro p hp
        simp only [List.mem_cons, List.not_mem_nil, or_false] at hp
        rcases hp with rfl | rfl
        · exact ⟨_, rfl⟩
        · exact ⟨_, rfl⟩
      refine ⟨o, rfl, _, rfl, by simp, ?_⟩
      rw [mg1]
      refine ⟨_, k, _, rfl, .inl ⟨w, s, one, rfl, ho1, .inl ⟨by simp [DW.atS, ho], ?_⟩⟩⟩
      refine ⟨by simp, ?_⟩
      refine pl_ap (ds := [.v (.str w), .bl true, .bl false]) rfl ?_
      refine dNe_self (d := .lst [.v (.str w), .bl true, .bl false]) (by simp only [okD, List.all_cons, List.all_nil, Bool.and_true, small_lay hw.1]) ?_
      exact ⟨_, _, rfl⟩
    rintro ρ ⟨s14, s15, rfl⟩
    refine ⟨_, m, _, _, rfl, .inr ⟨s, one, rfl, ho1, eh⟩, ?_⟩
    refine ⟨w, rfl, _, rfl, by simp, ?_⟩
    refine ⟨_, m, _, _, rfl, .inr ⟨s, one, rfl, ho1, eh⟩, ?_⟩
    exact ⟨_, _, _, _, rfl⟩
  rintro ρ ⟨s12, s13, s14, s15, rfl⟩
  exact rfl


structure Cf (K : PySem.W.Frag) (mg : Str → Option Value) (kl : Kl) : Prop where
  g_ReadError : mg "ReadError" = some (.ref kl.ReadError)
  g_BadStretch : mg "BadStretch" = some (.ref kl.BadStretch)
  g_BadText : mg "BadText" = some (.ref kl.BadText)
  g_BadStep : mg "BadStep" = some (.ref kl.BadStep)
  g_BadName : mg "BadName" = some (.ref kl.BadName)
  g_UnknownName : mg "UnknownName" = some (.ref kl.UnknownName)
  g_TooMany : mg "TooMany" = some (.ref kl.TooMany)
  g_Stretches : mg "Stretches" = some (.ref kl.Stretches)
  g_Chain : mg "Chain" = some (.ref kl.Chain)
  g_Condition : mg "Condition" = some (.ref kl.Condition)
  g_Test : mg "Test" = some (.ref kl.Test)
  g_KeyTest : mg "KeyTest" = some (.ref kl.KeyTest)
  g_Both : mg "Both" = some (.ref kl.Both)
  g_Either : mg "Either" = some (.ref kl.Either)
  g_Not : mg "Not" = some (.ref kl.Not)
  g_Step : mg "Step" = some (.ref kl.Step)
  g_Shift : mg "Shift" = some (.ref kl.Shift)
  g_Scale : mg "Scale" = some (.ref kl.Scale)
  g_Floor : mg "Floor" = some (.ref kl.Floor)
  g_Clip : mg "Clip" = some (.ref kl.Clip)
  g_Sign : mg "Sign" = some (.ref kl.Sign)
  at_steps : AtOk K [kl.Chain] "steps"
  at_many : AtOk K [kl.Test, kl.KeyTest, kl.Both, kl.Either, kl.Not] "many"
  at_level : AtOk K [kl.Test, kl.KeyTest, kl.Both, kl.Either, kl.Not] "level"
  at_name : AtOk K [kl.Test] "name"
  at_numbers : AtOk K [kl.Test, kl.KeyTest] "numbers"
  at_cast : AtOk K [kl.Test, kl.KeyTest] "cast"
  at_parts : AtOk K [kl.Both, kl.Either] "parts"
  at_part : AtOk K [kl.Not] "part"
  at_by : AtOk K [kl.Shift] "by"
  at_factor : AtOk K [kl.Scale] "factor"
  at_divisor : AtOk K [kl.Floor] "divisor"
  at_low : AtOk K [kl.Clip, kl.Sign] "low"
  at_high : AtOk K [kl.Clip, kl.Sign] "high"
  is_Stretches : IsTbl K kl.Stretches (is_Stretches kl)
  is_Test : IsTbl K kl.Test (is_Test kl)
  is_Condition : IsTbl K kl.Condition (is_Condition kl)
  is_KeyTest : IsTbl K kl.KeyTest (is_KeyTest kl)
  iss_Stretches : IsTblS K kl.Stretches (iss_Stretches kl)
  sl_pairs : SlOk K [kl.Stretches] "pairs"
  exm_ReadError : ∀ r ∈ exm_ReadError kl, PySem.W.exmOne K (.ref r.1) (.ref kl.ReadError) = some r.2
  exm_UnknownName : ∀ r ∈ exm_UnknownName kl, PySem.W.exmOne K (.ref r.1) (.ref kl.UnknownName) = some r.2
  isx_BadName : IsTblX K (.ref kl.BadName) (isx_BadName kl)
  isx_ValueError : IsTblX K (.ty "ValueError") (isx_ValueError kl)
  isx_ReadError : IsTblX K (.ref kl.ReadError) (isx_ReadError kl)
  xf_UnknownName : XfC K kl.UnknownName
  no_UnknownName_name : PySem.W.findIn K (.ref kl.UnknownName) "name" = some none
def top (i : Nat) : Stmt := PySem.Challenge.pw_stretchesread_k37_one_test.main.body.getD i (.Pass ⟨0, 0, 0, 0⟩)
structure Bi (mg : Str → Option Value) : Prop where
  int : mg "int" = none
  len : mg "len" = none
  min : mg "min" = none
  range : mg "range" = none
  abs : mg "abs" = none
  sorted : mg "sorted" = none
  max : mg "max" = none
  tuple : mg "tuple" = none
  str : mg "str" = none
  isinstance : mg "isinstance" = none
  sum : mg "sum" = none
  ValueError : mg "ValueError" = none
  bool : mg "bool" = none
  list : mg "list" = none
structure Cs (mg : Str → Option Value) : Prop where
  LIMIT_stretches : ∃ t, mg "LIMIT_stretches" = some (.int 1000000000000000000 t)
  DIGITS : ∃ t, mg "DIGITS" = some (.str (PySem.Str.ofString "0123456789") t)
  MOST_STEPS : ∃ t, mg "MOST_STEPS" = some (.int 6 t)
  LETTERS : ∃ t, mg "LETTERS" = some (.str (PySem.Str.ofString "abcdefghijklmnopqrstuvwxyz") t)
  MOST_STRETCHES : ∃ t, mg "MOST_STRETCHES" = some (.int 4 t)
  MOST_TESTS : ∃ t, mg "MOST_TESTS" = some (.int 6 t)
  MOST_DEPTH : ∃ t, mg "MOST_DEPTH" = some (.int 10 t)
  MOST_FACTOR : ∃ t, mg "MOST_FACTOR" = some (.int 1000000 t)
section
variable {P : Program} {w : World} {K : PySem.W.Frag} {mg : Str → Option Value} {base : Heap}
theorem sc_Step_image : FnScope ["self", "number"] ["self", "number"] (defScope (inClass (top 38) 0)) := ⟨rfl, rfl, rfl, by decide +kernel, rfl, by decide +kernel, by decide +kernel⟩
theorem mo_Step_image {f : Addr} {fd : FuncData} {kl : Kl} {C : Addr} (F : FunD K "image" "Step.image" (defArgs (inClass (top 38) 0)) (defBody (inClass (top 38) 0)) (defScope (inClass (top 38) 0)) [] [] f fd) (cl : Cls K C) (hm : Meth K C "image" f) (bi : Bi mg) : MOk P w K mg base 1 "image" C (sd_Step_image kl) :=
  mok_by (k := 0) (N := ["self", "number"]) (ds := d_Step_image) F cl hm sc_Step_image (by intro as Q E h; first | (obtain ⟨_, rfl, _⟩ := h; rfl) | (obtain ⟨_, _, rfl, _⟩ := h; rfl) | (obtain ⟨_, _, _, rfl, _⟩ := h; rfl) | (obtain ⟨_, _, _, _, rfl, _⟩ := h; rfl) | (obtain ⟨_, _, _, _, _, rfl, _⟩ := h; rfl) | (obtain ⟨_, _, _, _, _, _, rfl, _⟩ := h; rfl) | (obtain ⟨_, _, _, _, _, _, _, rfl, _⟩ := h; rfl) | (obtain ⟨rfl, _⟩ := h; rfl) | (obtain ⟨_, _, _, _, _, _, _, _, rfl, _⟩ := h; rfl) | (obtain ⟨_, _, _, _, _, _, _, _, _, rfl, _⟩ := h; rfl) | (obtain ⟨_, _, _, _, _, _, _, _, _, _, rfl, _⟩ := h; rfl) | (obtain ⟨_, _, _, _, _, _, _, _, _, _, _, rfl, _⟩ := h; rfl) | (obtain ⟨_, _, _, _, _, _, _, _, _, _, _, _, rfl, _⟩ := h; rfl)) (fun _ _ _ _ _ _ us hl => match us, hl with | [_, _], _ => rfl) (fun X W f cdv A outer s H E eX eW tk po hr hu nd => ⟨_, (dss_one (ds_retv 1))⟩) (pure_Step_image kl)
theorem sc_Shift___init__ : FnScope ["self", "by"] ["self", "by"] (defScope (inClass (top 39) 0)) := ⟨rfl, rfl, rfl, by decide +kernel, rfl, by decide +kernel, by decide +kernel⟩
theorem mo_Shift___init__ {f : Addr} {fd : FuncData} {kl : Kl} (F : FunD K "__init__" "Shift.__init__" (defArgs (inClass (top 39) 0)) (defBody (inClass (top 39) 0)) (defScope (inClass (top 39) 0)) [] [] f fd) (M : Mk K kl.Shift f) (hm : mg "Shift" = some (.ref kl.Shift)) (bi : Bi mg) (cs : Cs mg) (cf : Cf K mg kl) : MakeOk P w K mg base 1 "Shift" kl.Shift (sd_Shift___init__ kl) :=
  makeok_by (k := 0) (y := "self") (N := ["by"]) (ds := d_Shift___init__ kl) F M hm sc_Shift___init__ (by intro as Q E h; first | (obtain ⟨_, rfl, _⟩ := h; rfl) | (obtain ⟨_, _, rfl, _⟩ := h; rfl) | (obtain ⟨_, _, _, rfl, _⟩ := h; rfl) | (obtain ⟨_, _, _, _, rfl, _⟩ := h; rfl) | (obtain ⟨_, _, _, _, _, rfl, _⟩ := h; rfl) | (obtain ⟨_, _, _, _, _, _, rfl, _⟩ := h; rfl) | (obtain ⟨_, _, _, _, _, _, _, rfl, _⟩ := h; rfl) | (obtain ⟨rfl, _⟩ := h; rfl) | (obtain ⟨_, _, _, _, _, _, _, _, rfl, _⟩ := h; rfl) | (obtain ⟨_, _, _, _, _, _, _, _, _, rfl, _⟩ := h; rfl) | (obtain ⟨_, _, _, _, _, _, _, _, _, _, rfl, _⟩ := h; rfl) | (obtain ⟨_, _, _, _, _, _, _, _, _, _, _, rfl, _⟩ := h; rfl) | (obtain ⟨_, _, _, _, _, _, _, _, _, _, _, _, rfl, _⟩ := h; rfl)) (fun _ _ _ _ _ _ us hl => match us, hl with | [_, _], _ => rfl) (fun X W f cdv A outer s H E eX eW tk po hr hu nd => ⟨_, (dss_cons (ds_if (dt_w (dw_or (dt_cmp op_lt sr_I0 (de_var 1) (de_neg (de_globI (by rfl) cs.LIMIT_stretches)) (nomark _)) (dw_or1 (dt_cmp op_gt sr_I0 (de_var 1) (de_globI (by rfl) cs.LIMIT_stretches) (nomark _)))))
      (dss_one ds_never)
      dss_nil)
      (dss_one (ds_fld cf.at_by 0 (de_var 1))))⟩) (pure_Shift___init__ kl)
theorem sc_Shift_image : FnScope ["self", "number"] ["self", "number"] (defScope (inClass (top 39) 1)) := ⟨rfl, rfl, rfl, by decide +kernel, rfl, by decide +kernel, by decide +kernel⟩
theorem mo_Shift_image {f : Addr} {fd : FuncData} {kl : Kl} {C : Addr} (F : FunD K "image" "Shift.image" (defArgs (inClass (top 39) 1)) (defBody (inClass (top 39) 1)) (defScope (inClass (top 39) 1)) [] [] f fd) (cl : Cls K C) (hm : Meth K C "image" f) (bi : Bi mg) (cf : Cf K mg kl) : MOk P w K mg base 1 "image" C (sd_Shift_image kl) :=
  mok_by (k := 0) (N := ["self", "number"]) (ds := d_Shift_image kl) F cl hm sc_Shift_image (by intro as Q E h; first | (obtain ⟨_, rfl, _⟩ := h; rfl) | (obtain ⟨_, _, rfl, _⟩ := h; rfl) | (obtain ⟨_, _, _, rfl, _⟩ := h; rfl) | (obtain ⟨_, _, _, _, rfl, _⟩ := h; rfl) | (obtain ⟨_, _, _, _, _, rfl, _⟩ := h; rfl) | (obtain ⟨_, _, _, _, _, _, rfl, _⟩ := h; rfl) | (obtain ⟨_, _, _, _, _, _, _, rfl, _⟩ := h; rfl) | (obtain ⟨rfl, _⟩ := h; rfl) | (obtain ⟨_, _, _, _, _, _, _, _, rfl, _⟩ := h; rfl) | (obtain ⟨_, _, _, _, _, _, _, _, _, rfl, _⟩ := h; rfl) | (obtain ⟨_, _, _, _, _, _, _, _, _, _, rfl, _⟩ := h; rfl) | (obtain ⟨_, _, _, _, _, _, _, _, _, _, _, rfl, _⟩ := h; rfl) | (obtain ⟨_, _, _, _, _, _, _, _, _, _, _, _, rfl, _⟩ := h; rfl)) (fun _ _ _ _ _ _ us hl => match us, hl with | [_, _], _ => rfl) (fun X W f cdv A outer s H E eX eW tk po hr hu nd => ⟨_, (dss_one (ds_ret (de_add (de_var 1) (de_at cf.at_by (de_var 0)))))⟩) (pure_Shift_image kl)
theorem sc_Scale___init__ : FnScope ["self", "factor"] ["self", "factor"] (defScope (inClass (top 40) 0)) := ⟨rfl, rfl, rfl, by decide +kernel, rfl, by decide +kernel, by decide +kernel⟩
theorem mo_Scale___init__ {f : Addr} {fd : FuncData} {kl : Kl} (F : FunD K "__init__" "Scale.__init__" (defArgs (inClass (top 40) 0)) (defBody (inClass (top 40) 0)) (defScope (inClass (top 40) 0)) [] [] f fd) (M : Mk K kl.Scale f) (hm : mg "Scale" = some (.ref kl.Scale)) (bi : Bi mg) (cs : Cs mg) (cf : Cf K mg kl) : MakeOk P w K mg base 1 "Scale" kl.Scale (sd_Scale___init__ kl) :=
  makeok_by (k := 0) (y := "self") (N := ["factor"]) (ds := d_Scale___init__ kl) F M hm sc_Scale___init__ (by intro as Q E h; first | (obtain ⟨_, rfl, _⟩ := h; rfl) | (obtain ⟨_, _, rfl, _⟩ := h; rfl) | (obtain ⟨_, _, _, rfl, _⟩ := h; rfl) | (obtain ⟨_, _, _, _, rfl, _⟩ := h; rfl) | (obtain ⟨_, _, _, _, _, rfl, _⟩ := h; rfl) | (obtain ⟨_, _, _, _, _, _, rfl, _⟩ := h; rfl) | (obtain ⟨_, _, _, _, _, _, _, rfl, _⟩ := h; rfl) | (obtain ⟨rfl, _⟩ := h; rfl) | (obtain ⟨_, _, _, _, _, _, _, _, rfl, _⟩ := h; rfl) | (obtain ⟨_, _, _, _, _, _, _, _, _, rfl, _⟩ := h; rfl) | (obtain ⟨_, _, _, _, _, _, _, _, _, _, rfl, _⟩ := h; rfl) | (obtain ⟨_, _, _, _, _, _, _, _, _, _, _, rfl, _⟩ := h; rfl) | (obtain ⟨_, _, _, _, _, _, _, _, _, _, _, _, rfl, _⟩ := h; rfl)) (fun _ _ _ _ _ _ us hl => match us, hl with | [_, _], _ => rfl) (fun X W f cdv A outer s H E eX eW tk po hr hu nd => ⟨_, (dss_cons (ds_if (dt_w (dw_or (dt_cmp (op_eqA hu) sr_eq (de_var 1) de_int (nomark _)) (dw_or1 (dt_cmp op_gt sr_I0 (de_cb call_abs sc_abs (by rfl) bi.abs (by decide +kernel) (da_cons (de_var 1) da_nil)) (de_globI (by rfl) cs.MOST_FACTOR) (nomark _)))))
      (dss_one ds_never)
      dss_nil)
      (dss_one (ds_fld cf.at_factor 0 (de_var 1))))⟩) (pure_Scale___init__ kl)
theorem sc_Scale_image : FnScope ["self", "number"] ["self", "number"] (defScope (inClass (top 40) 1)) := ⟨rfl, rfl, rfl, by decide +kernel, rfl, by decide +kernel, by decide +kernel⟩
theorem mo_Scale_image {f : Addr} {fd : FuncData} {kl : Kl} {C : Addr} (F : FunD K "image" "Scale.image" (defArgs (inClass (top 40) 1)) (defBody (inClass (top 40) 1)) (defScope (inClass (top 40) 1)) [] [] f fd) (cl : Cls K C) (hm : Meth K C "image" f) (bi : Bi mg) (cf : Cf K mg kl) : MOk P w K mg base 1 "image" C (sd_Scale_image kl) :=
  mok_by (k := 0) (N := ["self", "number"]) (ds := d_Scale_image kl) F cl hm sc_Scale_image (by intro as Q E h; first | (obtain ⟨_, rfl, _⟩ := h; rfl) | (obtain ⟨_, _, rfl, _⟩ := h; rfl) | (obtain ⟨_, _, _, rfl, _⟩ := h; rfl) | (obtain ⟨_, _, _, _, rfl, _⟩ := h; rfl) | (obtain ⟨_, _, _, _, _, rfl, _⟩ := h; rfl) | (obtain ⟨_, _, _, _, _, _, rfl, _⟩ := h; rfl) | (obtain ⟨_, _, _, _, _, _, _, rfl, _⟩ := h; rfl) | (obtain ⟨rfl, _⟩ := h; rfl) | (obtain ⟨_, _, _, _, _, _, _, _, rfl, _⟩ := h; rfl) | (obtain ⟨_, _, _, _, _, _, _, _, _, rfl, _⟩ := h; rfl) | (obtain ⟨_, _, _, _, _, _, _, _, _, _, rfl, _⟩ := h; rfl) | (obtain ⟨_, _, _, _, _, _, _, _, _, _, _, rfl, _⟩ := h; rfl) | (obtain ⟨_, _, _, _, _, _, _, _, _, _, _, _, rfl, _⟩ := h; rfl)) (fun _ _ _ _ _ _ us hl => match us, hl with | [_, _], _ => rfl) (fun X W f cdv A outer s H E eX eW tk po hr hu nd => ⟨_, (dss_one (ds_ret (de_mul (de_var 1) (de_at cf.at_factor (de_var 0)))))⟩) (pure_Scale_image kl)
theorem sc_Floor___init__ : FnScope ["self", "divisor"] ["self", "divisor"] (defScope (inClass (top 41) 0)) := ⟨rfl, rfl, rfl, by decide +kernel, rfl, by decide +kernel, by decide +kernel⟩
theorem mo_Floor___init__ {f : Addr} {fd : FuncData} {kl : Kl} (F : FunD K "__init__" "Floor.__init__" (defArgs (inClass (top 41) 0)) (defBody (inClass (top 41) 0)) (defScope (inClass (top 41) 0)) [] [] f fd) (M : Mk K kl.Floor f) (hm : mg "Floor" = some (.ref kl.Floor)) (bi : Bi mg) (cs : Cs mg) (cf : Cf K mg kl) : MakeOk P w K mg base 1 "Floor" kl.Floor (sd_Floor___init__ kl) :=
  makeok_by (k := 0) (y := "self") (N := ["divisor"]) (ds := d_Floor___init__ kl) F M hm sc_Floor___init__ (by intro as Q E h; first | (obtain ⟨_, rfl, _⟩ := h; rfl) | (obtain ⟨_, _, rfl, _⟩ := h; rfl) | (obtain ⟨_, _, _, rfl, _⟩ := h; rfl) | (obtain ⟨_, _, _, _, rfl, _⟩ := h; rfl) | (obtain ⟨_, _, _, _, _, rfl, _⟩ := h; rfl) | (obtain ⟨_, _, _, _, _, _, rfl, _⟩ := h; rfl) | (obtain ⟨_, _, _, _, _, _, _, rfl, _⟩ := h; rfl) | (obtain ⟨rfl, _⟩ := h; rfl) | (obtain ⟨_, _, _, _, _, _, _, _, rfl, _⟩ := h; rfl) | (obtain ⟨_, _, _, _, _, _, _, _, _, rfl, _⟩ := h; rfl) | (obtain ⟨_, _, _, _, _, _, _, _, _, _, rfl, _⟩ := h; rfl) | (obtain ⟨_, _, _, _, _, _, _, _, _, _, _, rfl, _⟩ := h; rfl) | (obtain ⟨_, _, _, _, _, _, _, _, _, _, _, _, rfl, _⟩ := h; rfl)) (fun _ _ _ _ _ _ us hl => match us, hl with | [_, _], _ => rfl) (fun X W f cdv A outer s H E eX eW tk po hr hu nd => ⟨_, (dss_cons (ds_if (dt_w (dw_or (dt_cmp op_lt sr_I0 (de_var 1) de_int (nomark _)) (dw_or1 (dt_cmp op_gt sr_I0 (de_var 1) (de_globI (by rfl) cs.LIMIT_stretches) (nomark _)))))
      (dss_one ds_never)
      dss_nil)
      (dss_one (ds_fld cf.at_divisor 0 (de_var 1))))⟩) (pure_Floor___init__ kl)
theorem sc_Floor_image : FnScope ["self", "number"] ["self", "number"] (defScope (inClass (top 41) 1)) := ⟨rfl, rfl, rfl, by decide +kernel, rfl, by decide +kernel, by decide +kernel⟩
theorem mo_Floor_image {f : Addr} {fd : FuncData} {kl : Kl} {C : Addr} (F : FunD K "image" "Floor.image" (defArgs (inClass (top 41) 1)) (defBody (inClass (top 41) 1)) (defScope (inClass (top 41) 1)) [] [] f fd) (cl : Cls K C) (hm : Meth K C "image" f) (bi : Bi mg) (cf : Cf K mg kl) : MOk P w K mg base 1 "image" C (sd_Floor_image kl) :=
  mok_by (k := 0) (N := ["self", "number"]) (ds := d_Floor_image kl) F cl hm sc_Floor_image (by intro as Q E h; first | (obtain ⟨_, rfl, _⟩ := h; rfl) | (obtain ⟨_, _, rfl, _⟩ := h; rfl) | (obtain ⟨_, _, _, rfl, _⟩ := h; rfl) | (obtain ⟨_, _, _, _, rfl, _⟩ := h; rfl) | (obtain ⟨_, _, _, _, _, rfl, _⟩ := h; rfl) | (obtain ⟨_, _, _, _, _, _, rfl, _⟩ := h; rfl) | (obtain ⟨_, _, _, _, _, _, _, rfl, _⟩ := h; rfl) | (obtain ⟨rfl, _⟩ := h; rfl) | (obtain ⟨_, _, _, _, _, _, _, _, rfl, _⟩ := h; rfl) | (obtain ⟨_, _, _, _, _, _, _, _, _, rfl, _⟩ := h; rfl) | (obtain ⟨_, _, _, _, _, _, _, _, _, _, rfl, _⟩ := h; rfl) | (obtain ⟨_, _, _, _, _, _, _, _, _, _, _, rfl, _⟩ := h; rfl) | (obtain ⟨_, _, _, _, _, _, _, _, _, _, _, _, rfl, _⟩ := h; rfl)) (fun _ _ _ _ _ _ us hl => match us, hl with | [_, _], _ => rfl) (fun X W f cdv A outer s H E eX eW tk po hr hu nd => ⟨_, (dss_one (ds_ret (de_fdiv (de_var 1) (de_at cf.at_divisor (de_var 0)))))⟩) (pure_Floor_image kl)
theorem sc_Clip___init__ : FnScope ["self", "low", "high"] ["self", "low", "high"] (defScope (inClass (top 42) 0)) := ⟨rfl, rfl, rfl, by decide +kernel, rfl, by decide +kernel, by decide +kernel⟩
theorem mo_Clip___init__ {f : Addr} {fd : FuncData} {kl : Kl} (F : FunD K "__init__" "Clip.__init__" (defArgs (inClass (top 42) 0)) (defBody (inClass (top 42) 0)) (defScope (inClass (top 42) 0)) [] [] f fd) (M : Mk K kl.Clip f) (hm : mg "Clip" = some (.ref kl.Clip)) (bi : Bi mg) (cs : Cs mg) (cf : Cf K mg kl) : MakeOk P w K mg base 1 "Clip" kl.Clip (sd_Clip___init__ kl) :=
  makeok_by (k := 0) (y := "self") (N := ["low", "high"]) (ds := d_Clip___init__ kl) F M hm sc_Clip___init__ (by intro as Q E h; first | (obtain ⟨_, rfl, _⟩ := h; rfl) | (obtain ⟨_, _, rfl, _⟩ := h; rfl) | (obtain ⟨_, _, _, rfl, _⟩ := h; rfl) | (obtain ⟨_, _, _, _, rfl, _⟩ := h; rfl) | (obtain ⟨_, _, _, _, _, rfl, _⟩ := h; rfl) | (obtain ⟨_, _, _, _, _, _, rfl, _⟩ := h; rfl) | (obtain ⟨_, _, _, _, _, _, _, rfl, _⟩ := h; rfl) | (obtain ⟨rfl, _⟩ := h; rfl) | (obtain ⟨_, _, _, _, _, _, _, _, rfl, _⟩ := h; rfl) | (obtain ⟨_, _, _, _, _, _, _, _, _, rfl, _⟩ := h; rfl) | (obtain ⟨_, _, _, _, _, _, _, _, _, _, rfl, _⟩ := h; rfl) | (obtain ⟨_, _, _, _, _, _, _, _, _, _, _, rfl, _⟩ := h; rfl) | (obtain ⟨_, _, _, _, _, _, _, _, _, _, _, _, rfl, _⟩ := h; rfl)) (fun _ _ _ _ _ _ us hl => match us, hl with | [_, _, _], _ => rfl) (fun X W f cdv A outer s H E eX eW tk po hr hu nd => ⟨_, (dss_cons (ds_if (dt_w (dw_or (dt_cmp op_lt sr_I0 (de_var 1) (de_neg (de_globI (by rfl) cs.LIMIT_stretches)) (nomark _)) (dw_or1 (dt_cmp op_gt sr_I0 (de_var 1) (de_globI (by rfl) cs.LIMIT_stretches) (nomark _)))))
      (dss_one ds_never)
      dss_nil)
      (dss_cons (ds_if (dt_w (dw_or (dt_cmp op_lt sr_I0 (de_var 2) (de_neg (de_globI (by rfl) cs.LIMIT_stretches)) (nomark _)) (dw_or1 (dt_cmp op_gt sr_I0 (de_var 2) (de_globI (by rfl) cs.LIMIT_stretches) (nomark _)))))
      (dss_one ds_never)
      dss_nil)
      (dss_cons (ds_if (dt_cmp op_gt sr_I0 (de_var 1) (de_var 2) (nomark _))
      (dss_one ds_never)
      dss_nil)
      (dss_cons (ds_fld cf.at_low 0 (de_var 1))
      (dss_one (ds_fld cf.at_high 0 (de_var 2)))))))⟩) (pure_Clip___init__ kl)
theorem sc_Clip_image : FnScope ["self", "number"] ["self", "number"] (defScope (inClass (top 42) 1)) := ⟨rfl, rfl, rfl, by decide +kernel, rfl, by decide +kernel, by decide +kernel⟩
theorem mo_Clip_image {f : Addr} {fd : FuncData} {kl : Kl} {C : Addr} (F : FunD K "image" "Clip.image" (defArgs (inClass (top 42) 1)) (defBody (inClass (top 42) 1)) (defScope (inClass (top 42) 1)) [] [] f fd) (cl : Cls K C) (hm : Meth K C "image" f) (bi : Bi mg) (cf : Cf K mg kl) : MOk P w K mg base 1 "image" C (sd_Clip_image kl) :=
  mok_by (k := 0) (N := ["self", "number"]) (ds := d_Clip_image kl) F cl hm sc_Clip_image (by intro as Q E h; first | (obtain ⟨_, rfl, _⟩ := h; rfl) | (obtain ⟨_, _, rfl, _⟩ := h; rfl) | (obtain ⟨_, _, _, rfl, _⟩ := h; rfl) | (obtain ⟨_, _, _, _, rfl, _⟩ := h; rfl) | (obtain ⟨_, _, _, _, _, rfl, _⟩ := h; rfl) | (obtain ⟨_, _, _, _, _, _, rfl, _⟩ := h; rfl) | (obtain ⟨_, _, _, _, _, _, _, rfl, _⟩ := h; rfl) | (obtain ⟨rfl, _⟩ := h; rfl) | (obtain ⟨_, _, _, _, _, _, _, _, rfl, _⟩ := h; rfl) | (obtain ⟨_, _, _, _, _, _, _, _, _, rfl, _⟩ := h; rfl) | (obtain ⟨_, _, _, _, _, _, _, _, _, _, rfl, _⟩ := h; rfl) | (obtain ⟨_, _, _, _, _, _, _, _, _, _, _, rfl, _⟩ := h; rfl) | (obtain ⟨_, _, _, _, _, _, _, _, _, _, _, _, rfl, _⟩ := h; rfl)) (fun _ _ _ _ _ _ us hl => match us, hl with | [_, _], _ => rfl) (fun X W f cdv A outer s H E eX eW tk po hr hu nd => ⟨_, (dss_one (ds_ret (de_cb (call_max2 rfl) sc_max2 (by rfl) bi.max (by decide +kernel) (da_cons (de_at cf.at_low (de_var 0)) (da_cons (de_cb (call_min2 rfl) sc_min2 (by rfl) bi.min (by decide +kernel) (da_cons (de_at cf.at_high (de_var 0)) (da_cons (de_var 1) da_nil))) da_nil)))))⟩) (pure_Clip_image kl)
theorem mi_Clip___init___Sign {f : Addr} {fd : FuncData} {kl : Kl} (F : FunD K "__init__" "Clip.__init__" (defArgs (inClass (top 42) 0)) (defBody (inClass (top 42) 0)) (defScope (inClass (top 42) 0)) [] [] f fd) (bi : Bi mg) (cs : Cs mg) (cf : Cf K mg kl) : FnOk P w K mg base (L2.CX P w) 1 f fd ["self", "low", "high"] (spIn K kl.Sign (sd_ClipS kl)) ∧ Binds K fd ["self", "low", "high"] [] :=
  inok_by (k := 0) (y := "self") (N := ["low", "high"]) (ds := d_Clip___init__ kl) F sc_Clip___init__ (by intro as Q E h; first | (obtain ⟨_, rfl, _⟩ := h; rfl) | (obtain ⟨_, _, rfl, _⟩ := h; rfl) | (obtain ⟨_, _, _, rfl, _⟩ := h; rfl) | (obtain ⟨_, _, _, _, rfl, _⟩ := h; rfl) | (obtain ⟨_, _, _, _, _, rfl, _⟩ := h; rfl) | (obtain ⟨_, _, _, _, _, _, rfl, _⟩ := h; rfl) | (obtain ⟨_, _, _, _, _, _, _, rfl, _⟩ := h; rfl) | (obtain ⟨rfl, _⟩ := h; rfl) | (obtain ⟨_, _, _, _, _, _, _, _, rfl, _⟩ := h; rfl) | (obtain ⟨_, _, _, _, _, _, _, _, _, rfl, _⟩ := h; rfl) | (obtain ⟨_, _, _, _, _, _, _, _, _, _, rfl, _⟩ := h; rfl) | (obtain ⟨_, _, _, _, _, _, _, _, _, _, _, rfl, _⟩ := h; rfl) | (obtain ⟨_, _, _, _, _, _, _, _, _, _, _, _, rfl, _⟩ := h; rfl)) (fun _ _ _ _ _ _ us hl => match us, hl with | [_, _, _], _ => rfl) (fun X W f cdv A outer s H E eX eW tk po hr hu nd => ⟨_, (dss_cons (ds_if (dt_w (dw_or (dt_cmp op_lt sr_I0 (de_var 1) (de_neg (de_globI (by rfl) cs.LIMIT_stretches)) (nomark _)) (dw_or1 (dt_cmp op_gt sr_I0 (de_var 1) (de_globI (by rfl) cs.LIMIT_stretches) (nomark _)))))
      (dss_one ds_never)
      dss_nil)
      (dss_cons (ds_if (dt_w (dw_or (dt_cmp op_lt sr_I0 (de_var 2) (de_neg (de_globI (by rfl) cs.LIMIT_stretches)) (nomark _)) (dw_or1 (dt_cmp op_gt sr_I0 (de_var 2) (de_globI (by rfl) cs.LIMIT_stretches) (nomark _)))))
      (dss_one ds_never)
      dss_nil)
      (dss_cons (ds_if (dt_cmp op_gt sr_I0 (de_var 1) (de_var 2) (nomark _))
      (dss_one ds_never)
      dss_nil)
      (dss_cons (ds_fld cf.at_low 0 (de_var 1))
      (dss_one (ds_fld cf.at_high 0 (de_var 2)))))))⟩) (pure_ClipS kl)
theorem mf_Clip_image {f : Addr} {fd : FuncData} {kl : Kl} (F : FunD K "image" "Clip.image" (defArgs (inClass (top 42) 1)) (defBody (inClass (top 42) 1)) (defScope (inClass (top 42) 1)) [] [] f fd) (bi : Bi mg) (cf : Cf K mg kl) : FnOk P w K mg base (L2.CX P w) 1 f fd ["self", "number"] (spOf K (sd_Clip_image kl)) ∧ Binds K fd ["self", "number"] [] :=
  mfn_by (k := 0) (N := ["self", "number"]) (ds := d_Clip_image kl) F sc_Clip_image (by intro as Q E h; first | (obtain ⟨_, rfl, _⟩ := h; rfl) | (obtain ⟨_, _, rfl, _⟩ := h; rfl) | (obtain ⟨_, _, _, rfl, _⟩ := h; rfl) | (obtain ⟨_, _, _, _, rfl, _⟩ := h; rfl) | (obtain ⟨_, _, _, _, _, rfl, _⟩ := h; rfl) | (obtain ⟨_, _, _, _, _, _, rfl, _⟩ := h; rfl) | (obtain ⟨_, _, _, _, _, _, _, rfl, _⟩ := h; rfl) | (obtain ⟨rfl, _⟩ := h; rfl) | (obtain ⟨_, _, _, _, _, _, _, _, rfl, _⟩ := h; rfl) | (obtain ⟨_, _, _, _, _, _, _, _, _, rfl, _⟩ := h; rfl) | (obtain ⟨_, _, _, _, _, _, _, _, _, _, rfl, _⟩ := h; rfl) | (obtain ⟨_, _, _, _, _, _, _, _, _, _, _, rfl, _⟩ := h; rfl) | (obtain ⟨_, _, _, _, _, _, _, _, _, _, _, _, rfl, _⟩ := h; rfl)) (fun _ _ _ _ _ _ us hl => match us, hl with | [_, _], _ => rfl) (fun X W f cdv A outer s H E eX eW tk po hr hu nd => ⟨_, (dss_one (ds_ret (de_cb (call_max2 rfl) sc_max2 (by rfl) bi.max (by decide +kernel) (da_cons (de_at cf.at_low (de_var 0)) (da_cons (de_cb (call_min2 rfl) sc_min2 (by rfl) bi.min (by decide +kernel) (da_cons (de_at cf.at_high (de_var 0)) (da_cons (de_var 1) da_nil))) da_nil)))))⟩) (pure_Clip_image kl)
def da_Sign___init__ : DA := (dCons (dUn dNeg (dC (.int 1))) (dCons (dC (.int 1)) dNil))
theorem ms_Sign___init__ {f fc g : Addr} {fcl : List (Str × Addr)} {fd fdg : FuncData} {psg : List Str} {kl : Kl} (Z : FunX P K ⟨"__init__", "Sign.__init__", defArgs (inClass (top 43) 0), defBody (inClass (top 43) 0), defScope (inClass (top 43) 0), fcl, fc⟩ kl.Sign f fd) (Sm : SupM K kl.Sign kl.Sign "__init__" g) (G : FnOk P w K mg base (L2.CX P w) 1 g fdg psg (spIn K kl.Sign (sd_ClipS kl))) (hbi : Binds K fdg psg []) (M : Mk K kl.Sign f) (hm : mg "Sign" = some (.ref kl.Sign)) (hp : ∀ p as Q E, sd_Sign___init__ kl as Q E → da_Sign___init__ (startI p kl.Sign 2 as) (fun ss => plain ss fun ds => sd_ClipS kl ds Q E) E) : MakeOk P w K mg base 2 "Sign" kl.Sign (sd_Sign___init__ kl) :=
  ⟨f, fd, ["self"], M, fn_supI (y := "self") (N := ["__class__"]) (ps := []) (da := da_Sign___init__) Z (NdefX.nscope_by (show NdefX.nscB ["self", "__class__"] ["self"] ["__class__"] (defScope (inClass (top 43) 0)) = true from by decide +kernel)) rfl (len_Sign___init__ kl) Sm G hbi (fun A outer s H E => ⟨⟨⟨_, rfl⟩, ⟨_, Z⟩, (show List.lookup ("super" : Str) (defScope (inClass (top 43) 0)).names = some .globalImplicit from by decide +kernel), (show List.lookup ("__class__" : Str) (defScope (inClass (top 43) 0)).names = some .free from by decide +kernel), ⟨_, rfl, rfl, (show List.lookup ("self" : Str) (defScope (inClass (top 43) 0)).names = some .local from by decide +kernel)⟩, (show (defScope (inClass (top 43) 0)).kind = .function from by decide +kernel)⟩, ⟨_, (da_cons (de_neg de_int) (da_cons de_int da_nil))⟩, rfl, rfl, rfl, rfl, rfl⟩) hp, hm, (Z.binds fun _ _ _ _ _ us hl => match us, hl with | [_], _ => rfl)⟩
def d_Sign_image (kl : Kl) : DS := (dSeq (dRetE (dSup kl.Sign (sd_Clip_image kl) (dCons (dVar 1) dNil))) dNext)
theorem ms_Sign_image {f fc g : Addr} {fcl : List (Str × Addr)} {fd fdg : FuncData} {psg : List Str} {kl : Kl} (Z : FunX P K ⟨"image", "Sign.image", defArgs (inClass (top 43) 1), defBody (inClass (top 43) 1), defScope (inClass (top 43) 1), fcl, fc⟩ kl.Sign f fd) (Sm : SupM K kl.Sign kl.Sign "image" g) (G : FnOk P w K mg base (L2.CX P w) 1 g fdg psg (spOf K (sd_Clip_image kl))) (hbi : Binds K fdg psg []) (cl : Cls K kl.Sign) (hm : Meth K kl.Sign "image" f) (hp : ∀ as Q E, sd_Sign_image kl as Q E → d_Sign_image kl (dEnds Q E) (startD 3 as)) : MOk P w K mg base 2 "image" kl.Sign (sd_Sign_image kl) :=
  ⟨f, fd, ["self", "number"], cl, hm, fn_dX (N := ["self", "number", "__class__"]) (ds := d_Sign_image kl) Z (NdefX.nscope_by (show NdefX.nscB ["self", "number", "__class__"] ["self", "number"] ["__class__"] (defScope (inClass (top 43) 1)) = true from by decide +kernel)) (len_Sign_image kl) (fun A outer s H E hr => ⟨_, dssa_cons (dsa_ret (dea_sup ⟨⟨_, rfl⟩, ⟨_, Z⟩, (show List.lookup ("super" : Str) (defScope (inClass (top 43) 1)).names = some .globalImplicit from by decide +kernel), (show List.lookup ("__class__" : Str) (defScope (inClass (top 43) 1)).names = some .free from by decide +kernel), ⟨_, rfl, rfl, (show List.lookup ("self" : Str) (defScope (inClass (top 43) 1)).names = some .local from by decide +kernel)⟩, (show (defScope (inClass (top 43) 1)).kind = .function from by decide +kernel)⟩ Sm G hbi tk_ncx hr (da_cons (de_var 1) da_nil))) (dssa_of dss_nil)⟩) hp, (Z.binds fun _ _ _ _ _ us hl => match us, hl with | [_, _], _ => rfl)⟩
theorem pures_Sign___init__ (kl : Kl) : ∀ p as Q E, sd_Sign___init__ kl as Q E → da_Sign___init__ (startI p kl.Sign 2 as) (fun ss => plain ss fun ds => sd_ClipS kl ds Q E) E := by
  rintro p as Q E ⟨rfl, hq⟩
  exact ⟨-1, 1, rfl, by decide, by decide, by decide, hq⟩
theorem pures_Sign_image (kl : Kl) : ∀ as Q E, sd_Sign_image kl as Q E → d_Sign_image kl (dEnds Q E) (startD 3 as) := by
  rintro as Q E ⟨n, rfl, hq⟩
  exact ⟨_, rfl, kl.Sign, -1, 1, n, rfl, by simp, hq⟩

theorem mx_TooMany {f fc : Addr} {fcl : List (Str × Addr)} {fd : FuncData} {kl : Kl} (Z : FunX P K ⟨"__init__", "TooMany.__init__", defArgs (inClass (top 8) 0), defBody (inClass (top 8) 0), defScope (inClass (top 8) 0), fcl, fc⟩ kl.TooMany f fd) (T : OexC K kl.TooMany) (hi : PySem.W.findIn K (.ref kl.TooMany) "__init__" = some (some (.ref f))) (ht : PySem.W.typeIn K (.ref f) = some (.type "function")) (hm : mg "TooMany" = some (.ref kl.TooMany)) (Sv : SupE K kl.TooMany kl.TooMany) (n1 : PySem.W.findIn K (.ref kl.TooMany) "limit" = some none) : ExcMk P w K mg base 1 "TooMany" kl.TooMany ["limit"] :=
  excMk1 (N := ["self", "limit", "__class__"]) Z (NdefX.nscope_by (show NdefX.nscB ["self", "limit", "__class__"] ["self", "limit"] ["__class__"] (defScope (inClass (top 8) 0)) = true from by decide +kernel)) (by decide) T hi ht hm Sv n1 (fun _ _ _ _ _ us hl => match us, hl with | [_, _], _ => rfl) (fun A outer s H E => pssa_cons (psa_expr (pea_svE ⟨⟨_, rfl⟩, ⟨_, Z⟩, (show List.lookup ("super" : Str) (defScope (inClass (top 8) 0)).names = some .globalImplicit from by decide +kernel), (show List.lookup ("__class__" : Str) (defScope (inClass (top 8) 0)).names = some .free from by decide +kernel), ⟨_, rfl, rfl, (show List.lookup ("self" : Str) (defScope (inClass (top 8) 0)).names = some .local from by decide +kernel)⟩, (show (defScope (inClass (top 8) 0)).kind = .function from by decide +kernel)⟩ (pa_cons pe_str pa_nil))) (pssa_of (pss_one (ps_ost (pv 0) (pv 1)))))
theorem mx_BadStretch {f fc : Addr} {fcl : List (Str × Addr)} {fd : FuncData} {kl : Kl} (Z : FunX P K ⟨"__init__", "BadStretch.__init__", defArgs (inClass (top 3) 0), defBody (inClass (top 3) 0), defScope (inClass (top 3) 0), fcl, fc⟩ kl.BadStretch f fd) (T : OexC K kl.BadStretch) (hi : PySem.W.findIn K (.ref kl.BadStretch) "__init__" = some (some (.ref f))) (ht : PySem.W.typeIn K (.ref f) = some (.type "function")) (hm : mg "BadStretch" = some (.ref kl.BadStretch)) (Sv : SupE K kl.BadStretch kl.BadStretch) (n1 : PySem.W.findIn K (.ref kl.BadStretch) "low" = some none) (n2 : PySem.W.findIn K (.ref kl.BadStretch) "high" = some none) : ExcMk P w K mg base 1 "BadStretch" kl.BadStretch ["low", "high"] :=
  excMk2 (N := ["self", "low", "high", "__class__"]) Z (NdefX.nscope_by (show NdefX.nscB ["self", "low", "high", "__class__"] ["self", "low", "high"] ["__class__"] (defScope (inClass (top 3) 0)) = true from by decide +kernel)) (by decide) T hi ht hm Sv n1 n2 (fun _ _ _ _ _ us hl => match us, hl with | [_, _, _], _ => rfl) (fun A outer s H E => pssa_cons (psa_expr (pea_svE ⟨⟨_, rfl⟩, ⟨_, Z⟩, (show List.lookup ("super" : Str) (defScope (inClass (top 3) 0)).names = some .globalImplicit from by decide +kernel), (show List.lookup ("__class__" : Str) (defScope (inClass (top 3) 0)).names = some .free from by decide +kernel), ⟨_, rfl, rfl, (show List.lookup ("self" : Str) (defScope (inClass (top 3) 0)).names = some .local from by decide +kernel)⟩, (show (defScope (inClass (top 3) 0)).kind = .function from by decide +kernel)⟩ (pa_cons pe_str pa_nil))) (pssa_of (pss_cons (ps_ost (pv 0) (pv 1)) (pss_one (ps_ost (pv 0) (pv 2))))))
theorem mx_BadName {f fc : Addr} {fcl : List (Str × Addr)} {fd : FuncData} {kl : Kl} (Z : FunX P K ⟨"__init__", "BadName.__init__", defArgs (inClass (top 6) 0), defBody (inClass (top 6) 0), defScope (inClass (top 6) 0), fcl, fc⟩ kl.BadName f fd) (T : OexC K kl.BadName) (hi : PySem.W.findIn K (.ref kl.BadName) "__init__" = some (some (.ref f))) (ht : PySem.W.typeIn K (.ref f) = some (.type "function")) (hm : mg "BadName" = some (.ref kl.BadName)) (Sv : SupE K kl.BadName kl.BadName) (n1 : PySem.W.findIn K (.ref kl.BadName) "name" = some none) : ExcMk P w K mg base 1 "BadName" kl.BadName ["name"] :=
  excMk1 (N := ["self", "name", "__class__"]) Z (NdefX.nscope_by (show NdefX.nscB ["self", "name", "__class__"] ["self", "name"] ["__class__"] (defScope (inClass (top 6) 0)) = true from by decide +kernel)) (by decide) T hi ht hm Sv n1 (fun _ _ _ _ _ us hl => match us, hl with | [_, _], _ => rfl) (fun A outer s H E => pssa_cons (psa_expr (pea_svE ⟨⟨_, rfl⟩, ⟨_, Z⟩, (show List.lookup ("super" : Str) (defScope (inClass (top 6) 0)).names = some .globalImplicit from by decide +kernel), (show List.lookup ("__class__" : Str) (defScope (inClass (top 6) 0)).names = some .free from by decide +kernel), ⟨_, rfl, rfl, (show List.lookup ("self" : Str) (defScope (inClass (top 6) 0)).names = some .local from by decide +kernel)⟩, (show (defScope (inClass (top 6) 0)).kind = .function from by decide +kernel)⟩ (pa_cons pe_str pa_nil))) (pssa_of (pss_one (ps_ost (pv 0) (pv 1)))))
theorem mx_UnknownName {f fc : Addr} {fcl : List (Str × Addr)} {fd : FuncData} {kl : Kl} (Z : FunX P K ⟨"__init__", "UnknownName.__init__", defArgs (inClass (top 7) 0), defBody (inClass (top 7) 0), defScope (inClass (top 7) 0), fcl, fc⟩ kl.UnknownName f fd) (T : OexC K kl.UnknownName) (hi : PySem.W.findIn K (.ref kl.UnknownName) "__init__" = some (some (.ref f))) (ht : PySem.W.typeIn K (.ref f) = some (.type "function")) (hm : mg "UnknownName" = some (.ref kl.UnknownName)) (Sv : SupE K kl.UnknownName kl.UnknownName) (n1 : PySem.W.findIn K (.ref kl.UnknownName) "name" = some none) : ExcMk P w K mg base 1 "UnknownName" kl.UnknownName ["name"] :=
  excMk1 (N := ["self", "name", "__class__"]) Z (NdefX.nscope_by (show NdefX.nscB ["self", "name", "__class__"] ["self", "name"] ["__class__"] (defScope (inClass (top 7) 0)) = true from by decide +kernel)) (by decide) T hi ht hm Sv n1 (fun _ _ _ _ _ us hl => match us, hl with | [_, _], _ => rfl) (fun A outer s H E => pssa_cons (psa_expr (pea_svE ⟨⟨_, rfl⟩, ⟨_, Z⟩, (show List.lookup ("super" : Str) (defScope (inClass (top 7) 0)).names = some .globalImplicit from by decide +kernel), (show List.lookup ("__class__" : Str) (defScope (inClass (top 7) 0)).names = some .free from by decide +kernel), ⟨_, rfl, rfl, (show List.lookup ("self" : Str) (defScope (inClass (top 7) 0)).names = some .local from by decide +kernel)⟩, (show (defScope (inClass (top 7) 0)).kind = .function from by decide +kernel)⟩ (pa_cons pe_str pa_nil))) (pssa_of (pss_one (ps_ost (pv 0) (pv 1)))))
theorem sc_Chain___init__ : FnScope ["self", "steps"] ((["self"] : List Str) ++ [("steps" : Str)]) (defScope (inClass (top 21) 1)) := ⟨rfl, rfl, rfl, by decide +kernel, rfl, by decide +kernel, by decide +kernel⟩
theorem mr_Chain___init__ {f : Addr} {fd : FuncData} {kl : Kl} (F : FunD K "__init__" "Chain.__init__" (defArgs (inClass (top 21) 1)) (defBody (inClass (top 21) 1)) (defScope (inClass (top 21) 1)) [] [] f fd) (bi : Bi mg) (cs : Cs mg) (cf : Cf K mg kl) (x_TooMany : ExcMk P w K mg base 1 "TooMany" (kl).TooMany ["limit"]) : FnR P w K mg base (L2.CX P w) 3 f (spIn K kl.Chain (sdStar 0 (sd_Chain___init__ kl))) :=
  fnr_starI (k := 2) (y := "self") (N := ["steps"]) (ps := []) (pv := "steps") (ds := d_Chain___init__ kl) F sc_Chain___init__ (fun _ _ _ _ _ _ us rest hl => match us, rest, hl with | [_], [], _ => rfl | [_], _ :: _, _ => rfl) (fun X W f cdv A outer s H E eX eW tk po hr hu nd => ⟨_, (dss_cons (ds_if (dt_cmp op_gt sr_I0 (de_cb call_lenA sc_len (by rfl) bi.len (by decide +kernel) (da_cons (de_var 1) da_nil)) (de_globI (by rfl) cs.MOST_STEPS) (nomark _))
      (dss_one (ds_raise x_TooMany rfl tk (hr.mono (by decide)) (by rfl) (da_cons (de_globI (by rfl) cs.MOST_STEPS) da_nil)))
      dss_nil)
      (dss_one (ds_fld cf.at_steps 0 (de_var 1))))⟩) (pure_Chain___init__ kl)
theorem sc_Chain___call__ : FnScope ["self", "number", "step"] ["self", "number"] (defScope (inClass (top 21) 2)) := ⟨rfl, rfl, rfl, by decide +kernel, rfl, by decide +kernel, by decide +kernel⟩
theorem mf_Chain___call__ {f : Addr} {fd : FuncData} {kl : Kl} (F : FunD K "__call__" "Chain.__call__" (defArgs (inClass (top 21) 2)) (defBody (inClass (top 21) 2)) (defScope (inClass (top 21) 2)) [] [] f fd) (bi : Bi mg) (cf : Cf K mg kl) (m_image : TblOk P w K mg base 2 "image" (tb_image kl)) : FnOk P w K mg base (L2.CX P w) 3 f fd ["self", "number"] (spOf K (sd_Chain___call__ kl)) ∧ Binds K fd ["self", "number"] [] :=
  mfn_by (k := 2) (N := ["self", "number", "step"]) (ds := d_Chain___call__ kl) F sc_Chain___call__ (by intro as Q E h; first | (obtain ⟨_, rfl, _⟩ := h; rfl) | (obtain ⟨_, _, rfl, _⟩ := h; rfl) | (obtain ⟨_, _, _, rfl, _⟩ := h; rfl) | (obtain ⟨_, _, _, _, rfl, _⟩ := h; rfl) | (obtain ⟨_, _, _, _, _, rfl, _⟩ := h; rfl) | (obtain ⟨_, _, _, _, _, _, rfl, _⟩ := h; rfl) | (obtain ⟨_, _, _, _, _, _, _, rfl, _⟩ := h; rfl) | (obtain ⟨rfl, _⟩ := h; rfl) | (obtain ⟨_, _, _, _, _, _, _, _, rfl, _⟩ := h; rfl) | (obtain ⟨_, _, _, _, _, _, _, _, _, rfl, _⟩ := h; rfl) | (obtain ⟨_, _, _, _, _, _, _, _, _, _, rfl, _⟩ := h; rfl) | (obtain ⟨_, _, _, _, _, _, _, _, _, _, _, rfl, _⟩ := h; rfl) | (obtain ⟨_, _, _, _, _, _, _, _, _, _, _, _, rfl, _⟩ := h; rfl)) (fun _ _ _ _ _ _ us hl => match us, hl with | [_, _], _ => rfl) (fun X W f cdv A outer s H E eX eW tk po hr hu nd => ⟨_, (dss_cons (ds_for po rfl (di_seq (de_at cf.at_steps (de_var 0))) (dg_name 2 nd)
      (dss_one (ds_asg (de_meth m_image tk (hr.mono (by decide)) (de_var 2) (da_cons (de_var 1) da_nil)) (dg_name 1 nd))))
      (dss_one (ds_retv 1)))⟩) (pure_Chain___call__ kl)
theorem sc_joined : FnScope ["rows", "result", "low", "high", "before"] ["rows"] (defScope (top 12)) := ⟨rfl, rfl, rfl, by decide +kernel, rfl, by decide +kernel, by decide +kernel⟩
theorem fk_joined (D : DefAt K mg "joined" (top 12)) (bi : Bi mg) : Fnk P w K mg base "joined" 1 ["rows"] [] [] sd_joined :=
  fnk_by (k := 0) (N := ["rows", "result", "low", "high", "before"]) (ds := d_joined) D sc_joined len_joined (fun _ _ _ _ _ _ us hl => match us, hl with | [_], _ => rfl) (fun X W f cdv A outer s H E eX eW tk po hr hu nd => ⟨_, (dss_cons (ds_own 1 nd da_nil)
      (dss_cons (ds_for po rfl (di_seq (de_cb cr_sortT sc_sortP (by rfl) bi.sorted (by decide +kernel) (da_cons (de_var 0) da_nil))) (dg_sq rfl (dgs_cons (dg_name 2 nd) (dgs_cons (dg_name 3 nd) dgs_nil)))
      (dss_one (ds_if (dt_w (dw_and (dt_tru (de_var 1)) (dw_and1 (dt_cmp op_le sr_I0 (de_var 2) (de_add (de_ix ix_S sr_ix (de_ix ix_S sr_ix (de_var 1) (de_neg de_int) (fun _ _ => rfl)) de_int (fun _ _ => rfl)) de_int) (nomark _)))))
      (dss_cons (ds_pop 1 4 nd)
      (dss_one (ds_app 1 (de_tup (da_cons (de_ix ix_S sr_ix (de_var 4) de_int (fun _ _ => rfl)) (da_cons (de_cb (call_max2 rfl) sc_max2 (by rfl) bi.max (by decide +kernel) (da_cons (de_ix ix_S sr_ix (de_var 4) de_int (fun _ _ => rfl)) (da_cons (de_var 3) da_nil))) da_nil))))))
      (dss_one (ds_app 1 (de_tup (da_cons (de_var 2) (da_cons (de_var 3) da_nil))))))))
      (dss_frz 1 (dss_one (ds_ret (de_ct call_tupleS sc_tuple (by rfl) bi.tuple (by decide +kernel) (da_cons (de_var 1) da_nil)))))))⟩) pure_joined
theorem sc_Stretches___init__ : FnScope ["self", "pairs", "rows", "low", "high"] ["self", "pairs"] (defScope (inClass (top 18) 2)) := ⟨rfl, rfl, rfl, by decide +kernel, rfl, by decide +kernel, by decide +kernel⟩
theorem ms_Stretches___init__ {f : Addr} {fd : FuncData} {kl : Kl} (F : FunD K "__init__" "Stretches.__init__" (defArgs (inClass (top 18) 2)) (defBody (inClass (top 18) 2)) (defScope (inClass (top 18) 2)) [V.ref (He.dflAt ("Stretches", some "__init__") 0 K)] [] f fd) (bi : Bi mg) (cs : Cs mg) (c_joined : Fnk P w K mg base "joined" 1 ["rows"] [] [] sd_joined) (cf : Cf K mg kl) (x_BadStretch : ExcMk P w K mg base 1 "BadStretch" (kl).BadStretch ["low", "high"]) : FnOk P w K mg base (L2.CX P w) 3 f fd ["self", "pairs"] (spInS K kl.Stretches (sd_Stretches___init__ kl)) :=
  slnok_by (k := 2) (y := "self") (N := ["pairs", "rows", "low", "high"]) (ds := d_Stretches___init__ kl) F sc_Stretches___init__ (len_Stretches___init__ kl) (fun X W f cdv A outer s H E eX eW tk po hr hu nd => ⟨_, (dssb_cons (ds_own 2 nd da_nil)
      (dssb_cons (ds_for po rfl (di_seq (de_var 1)) (dg_sq rfl (dgs_cons (dg_name 3 nd) (dgs_cons (dg_name 4 nd) dgs_nil)))
      (dss_cons (ds_if (dt_w (dw_or (dt_cmp op_lt sr_I0 (de_var 3) (de_neg (de_globI (by rfl) cs.LIMIT_stretches)) (nomark _)) (dw_or (dt_cmp op_gt sr_I0 (de_var 4) (de_globI (by rfl) cs.LIMIT_stretches) (nomark _)) (dw_or1 (dt_cmp op_gt sr_I0 (de_var 3) (de_var 4) (nomark _))))))
      (dss_one (ds_raise x_BadStretch rfl tk (hr.mono (by decide)) (by rfl) (da_cons (de_var 3) (da_cons (de_var 4) da_nil))))
      dss_nil)
      (dss_one (ds_app 2 (de_tup (da_cons (de_var 3) (da_cons (de_var 4) da_nil)))))))
      (dssb_frz 2 (dssb_slf cf.sl_pairs (de_callF c_joined tk (hr.mono (by decide)) (by rfl) (da_cons (de_var 2) da_nil))))))⟩) (pure_Stretches___init__ kl)
theorem bo_Stretches___init__ {f : Addr} {fd : FuncData} (F : FunD K "__init__" "Stretches.__init__" (defArgs (inClass (top 18) 2)) (defBody (inClass (top 18) 2)) (defScope (inClass (top 18) 2)) [V.ref (He.dflAt ("Stretches", some "__init__") 0 K)] [] f fd) : Binds K fd ["self", "pairs"] [] := binds_of0 (FunD.binds1 F 2 1 (by simp) rfl (fun _ _ _ _ _ _ _ us its hl hi => match us, its, hl, hi with | [_, _], [_], _, _ => ⟨_, rfl, rfl⟩))
theorem bz_Stretches___init__ {f : Addr} {fd : FuncData} (F : FunD K "__init__" "Stretches.__init__" (defArgs (inClass (top 18) 2)) (defBody (inClass (top 18) 2)) (defScope (inClass (top 18) 2)) [V.ref (He.dflAt ("Stretches", some "__init__") 0 K)] [] f fd) : ∃ ds, Vals [V.ref (He.dflAt ("Stretches", some "__init__") 0 K)] ds ∧ Binds K fd ["self", "pairs"] ds := FunD.binds1 F 1 0 (by simp) rfl (fun _ _ _ _ _ _ _ us its hl hi => match us, its, hl, hi with | [_], [_], _, _ => ⟨_, rfl, rfl⟩)
theorem sc_Stretches___len__ : FnScope ["self"] ["self"] (defScope (inClass (top 18) 6)) := ⟨rfl, rfl, rfl, by decide +kernel, rfl, by decide +kernel, by decide +kernel⟩
theorem mf_Stretches___len__ {f : Addr} {fd : FuncData} {kl : Kl} (F : FunD K "__len__" "Stretches.__len__" (defArgs (inClass (top 18) 6)) (defBody (inClass (top 18) 6)) (defScope (inClass (top 18) 6)) [] [] f fd) (bi : Bi mg) (cf : Cf K mg kl) : FnOk P w K mg base (L2.CX P w) 1 f fd ["self"] (spOf K (sd_Stretches___len__ kl)) ∧ Binds K fd ["self"] [] :=
  mfn_by (k := 0) (N := ["self"]) (ds := d_Stretches___len__ kl) F sc_Stretches___len__ (by intro as Q E h; first | (obtain ⟨_, rfl, _⟩ := h; rfl) | (obtain ⟨_, _, rfl, _⟩ := h; rfl) | (obtain ⟨_, _, _, rfl, _⟩ := h; rfl) | (obtain ⟨_, _, _, _, rfl, _⟩ := h; rfl) | (obtain ⟨_, _, _, _, _, rfl, _⟩ := h; rfl) | (obtain ⟨_, _, _, _, _, _, rfl, _⟩ := h; rfl) | (obtain ⟨_, _, _, _, _, _, _, rfl, _⟩ := h; rfl) | (obtain ⟨rfl, _⟩ := h; rfl) | (obtain ⟨_, _, _, _, _, _, _, _, rfl, _⟩ := h; rfl) | (obtain ⟨_, _, _, _, _, _, _, _, _, rfl, _⟩ := h; rfl) | (obtain ⟨_, _, _, _, _, _, _, _, _, _, rfl, _⟩ := h; rfl) | (obtain ⟨_, _, _, _, _, _, _, _, _, _, _, rfl, _⟩ := h; rfl) | (obtain ⟨_, _, _, _, _, _, _, _, _, _, _, _, rfl, _⟩ := h; rfl)) (fun _ _ _ _ _ _ us hl => match us, hl with | [_], _ => rfl) (fun X W f cdv A outer s H E eX eW tk po hr hu nd => ⟨_, (dss_one (ds_ret (de_cb call_lenA sc_len (by rfl) bi.len (by decide +kernel) (da_cons (de_slA cf.sl_pairs (de_var 0)) da_nil))))⟩) (pure_Stretches___len__ kl)
theorem sc_Stretches___contains__ : FnScope ["self", "number", "low", "high"] ["self", "number"] (defScope (inClass (top 18) 7)) := ⟨rfl, rfl, rfl, by decide +kernel, rfl, by decide +kernel, by decide +kernel⟩
theorem mf_Stretches___contains__ {f : Addr} {fd : FuncData} {kl : Kl} (F : FunD K "__contains__" "Stretches.__contains__" (defArgs (inClass (top 18) 7)) (defBody (inClass (top 18) 7)) (defScope (inClass (top 18) 7)) [] [] f fd) (bi : Bi mg) (cf : Cf K mg kl) : FnOk P w K mg base (L2.CX P w) 1 f fd ["self", "number"] (spOf K (sd_Stretches___contains__ kl)) ∧ Binds K fd ["self", "number"] [] :=
  mfn_by (k := 0) (N := ["self", "number", "low", "high"]) (ds := d_Stretches___contains__ kl) F sc_Stretches___contains__ (by intro as Q E h; first | (obtain ⟨_, rfl, _⟩ := h; rfl) | (obtain ⟨_, _, rfl, _⟩ := h; rfl) | (obtain ⟨_, _, _, rfl, _⟩ := h; rfl) | (obtain ⟨_, _, _, _, rfl, _⟩ := h; rfl) | (obtain ⟨_, _, _, _, _, rfl, _⟩ := h; rfl) | (obtain ⟨_, _, _, _, _, _, rfl, _⟩ := h; rfl) | (obtain ⟨_, _, _, _, _, _, _, rfl, _⟩ := h; rfl) | (obtain ⟨rfl, _⟩ := h; rfl) | (obtain ⟨_, _, _, _, _, _, _, _, rfl, _⟩ := h; rfl) | (obtain ⟨_, _, _, _, _, _, _, _, _, rfl, _⟩ := h; rfl) | (obtain ⟨_, _, _, _, _, _, _, _, _, _, rfl, _⟩ := h; rfl) | (obtain ⟨_, _, _, _, _, _, _, _, _, _, _, rfl, _⟩ := h; rfl) | (obtain ⟨_, _, _, _, _, _, _, _, _, _, _, _, rfl, _⟩ := h; rfl)) (fun _ _ _ _ _ _ us hl => match us, hl with | [_, _], _ => rfl) (fun X W f cdv A outer s H E eX eW tk po hr hu nd => ⟨_, (dss_cons (ds_for po rfl (di_seq (de_slA cf.sl_pairs (de_var 0))) (dg_sq rfl (dgs_cons (dg_name 2 nd) (dgs_cons (dg_name 3 nd) dgs_nil)))
      (dss_one (ds_if (dt_chain op_le op_le sr_I0 sr_I0 (de_var 2) (de_var 1) (de_var 3))
      (dss_one (ds_ret de_bl))
      dss_nil)))
      (dss_one (ds_ret de_bl)))⟩) (pure_Stretches___contains__ kl)
theorem sc_is_name : FnScope ["name", "letter"] ["name"] (defScope (top 27)) := ⟨rfl, rfl, rfl, by decide +kernel, rfl, by decide +kernel, by decide +kernel⟩
theorem fk_is_name (D : DefAt K mg "is_name" (top 27)) (bi : Bi mg) (cs : Cs mg) : Fnk P w K mg base "is_name" 1 ["name"] [] [] sd_is_name :=
  fnk_by (k := 0) (N := ["name", "letter"]) (ds := d_is_name) D sc_is_name len_is_name (fun _ _ _ _ _ _ us hl => match us, hl with | [_], _ => rfl) (fun X W f cdv A outer s H E eX eW tk po hr hu nd => ⟨_, (dss_cons (ds_if (dt_w (dw_or (dt_not (dt_tru (de_cb call_isi (sc_isi .str) (by rfl) bi.isinstance (by decide +kernel) (da_cons (de_var 0) (da_cons (de_tyn (by rfl) bi.str (by decide +kernel)) da_nil))))) (dw_or (dt_cmp (op_eqA hu) sr_eq (de_var 0) de_str (nomark _)) (dw_or1 (dt_not (dt_chain op_le op_le sr_I0 sr_I0 de_int (de_cb call_lenA sc_len (by rfl) bi.len (by decide +kernel) (da_cons (de_var 0) da_nil)) de_int))))))
      (dss_one (ds_ret de_bl))
      dss_nil)
      (dss_cons (ds_for po rfl (di_txt (de_var 0)) (dg_name 1 nd)
      (dss_one (ds_if (dt_cmp L2.op_notInS sr_notInT (de_var 1) (de_globS (by rfl) cs.LETTERS) (by with_unfolding_all rfl))
      (dss_one (ds_ret de_bl))
      dss_nil)))
      (dss_one (ds_ret de_bl))))⟩) pure_is_name
theorem sc_check_numbers : FnScope ["numbers"] ["numbers"] (defScope (top 28)) := ⟨rfl, rfl, rfl, by decide +kernel, rfl, by decide +kernel, by decide +kernel⟩
theorem fk_check_numbers {kl : Kl} (D : DefAt K mg "check_numbers" (top 28)) (bi : Bi mg) (cs : Cs mg) (cf : Cf K mg kl) (x_TooMany : ExcMk P w K mg base 1 "TooMany" (kl).TooMany ["limit"]) (ms_Stretches___len__ : MSl P w K mg base 1 "__len__" (kl).Stretches (sd_Stretches___len__ kl)) : Fnk P w K mg base "check_numbers" 3 ["numbers"] [] [] (sd_check_numbers kl) :=
  fnk_by (k := 2) (N := ["numbers"]) (ds := d_check_numbers kl) D sc_check_numbers (len_check_numbers kl) (fun _ _ _ _ _ _ us hl => match us, hl with | [_], _ => rfl) (fun X W f cdv A outer s H E eX eW tk po hr hu nd => ⟨_, (dss_one (ds_if (dt_cmp op_gt sr_I0 (de_cb (CallR.or (call_lenSl ms_Stretches___len__ (hr.mono (by decide))) call_lenA) (sc_lenSl sc_len) (by rfl) bi.len (by decide +kernel) (da_cons (de_var 0) da_nil)) (de_globI (by rfl) cs.MOST_STRETCHES) (nomark _))
      (dss_one (ds_raise x_TooMany rfl tk (hr.mono (by decide)) (by rfl) (da_cons (de_globI (by rfl) cs.MOST_STRETCHES) da_nil)))
      dss_nil))⟩) (pure_check_numbers kl)
theorem sc_Test___init__ : FnScope ["self", "name", "numbers", "cast"] ["self", "name", "numbers", "cast"] (defScope (inClass (top 31) 0)) := ⟨rfl, rfl, rfl, by decide +kernel, rfl, by decide +kernel, by decide +kernel⟩
theorem mi0_Test___init__ {f : Addr} {fd : FuncData} {kl : Kl} (F : FunD K "__init__" "Test.__init__" (defArgs (inClass (top 31) 0)) (defBody (inClass (top 31) 0)) (defScope (inClass (top 31) 0)) [] [("cast", V.non)] f fd) (bi : Bi mg) (c_is_name : Fnk P w K mg base "is_name" 1 ["name"] [] [] sd_is_name) (c_check_numbers : Fnk P w K mg base "check_numbers" 3 ["numbers"] [] [] (sd_check_numbers kl)) (cf : Cf K mg kl) (kr_Chain : MakeOkR P w K mg base 3 "Chain" (kl).Chain (sdStar 0 (sd_Chain___init__ kl))) : FnOk P w K mg base (L2.CX P w) 5 f fd ["self", "name", "numbers", "cast"] (spIn K kl.Test (sd_Test___init__ kl)) :=
  inokW_by (k := 4) (y := "self") (N := ["name", "numbers", "cast"]) (ds := d_Test___init__ kl) F sc_Test___init__ (len_Test___init__ kl) (fun X W f cdv A outer s H E eX eW tk po hr hu nd => ⟨_, (dss_cons (ds_if (dt_not (dt_tru (de_callF c_is_name tk (hr.mono (by decide)) (by rfl) (da_cons (de_var 1) da_nil))))
      (dss_one ds_never)
      dss_nil)
      (dss_cons (ds_expr (de_callF c_check_numbers tk (hr.mono (by decide)) (by rfl) (da_cons (de_var 2) da_nil)))
      (dss_cons (ds_fld cf.at_name 0 (de_var 1))
      (dss_cons (ds_fld cf.at_numbers 0 (de_var 2))
      (dss_cons (ds_fld cf.at_cast 0 (de_if (dt_cmp op_isN sr_isN (de_var 3) de_non (nomark _)) (de_makeR0 kr_Chain tk (hr.mono (by decide)) (by rfl)) (de_var 3)))
      (dss_cons (ds_fld cf.at_many 0 de_int)
      (dss_one (ds_fld cf.at_level 0 de_int))))))))⟩) (pure_Test___init__ kl)
theorem bo_Test___init__ {f : Addr} {fd : FuncData} (F : FunD K "__init__" "Test.__init__" (defArgs (inClass (top 31) 0)) (defBody (inClass (top 31) 0)) (defScope (inClass (top 31) 0)) [] [("cast", V.non)] f fd) : ∃ ds, Vals [V.non] ds ∧ Binds K fd ["self", "name", "numbers", "cast"] ds := FunD.binds0 F 3 (by simp) rfl (fun _ _ _ _ _ _ us ks hl hk => match us, ks, hl, hk with | [_, _, _], [_], _, _ => ⟨_, _, _, _, _, _, rfl, rfl, rfl⟩)
theorem bn_Test___init___cast {f : Addr} {fd : FuncData} (F : FunD K "__init__" "Test.__init__" (defArgs (inClass (top 31) 0)) (defBody (inClass (top 31) 0)) (defScope (inClass (top 31) 0)) [] [("cast", V.non)] f fd) : ∃ mv : List Value, KBn K fd ["self", "name", "numbers", "cast"] 3 ["cast"] (fun us ws => us ++ ((ws.drop 0).take 1 ++ [])) (fun us ws => us ++ ((ws.drop 0).take 1 ++ [])) := FunD.kbinds0 F 3 ["cast"] [] (fun us ms ws => us ++ ((ws.drop 0).take 1 ++ [])) (by simp) (by simp) (fun a b c => pairs_app a (pairs_app (vals_cut 0 c) .nil)) (fun _ _ _ _ _ _ us ms ws h1 h2 h3 => match us, ms, ws, h1, h2, h3 with | [_, _, _], [], [_], _, _, _ => (by exact rfl))
theorem sc_KeyTest___init__ : FnScope ["self", "numbers", "cast"] ["self", "numbers", "cast"] (defScope (inClass (top 32) 0)) := ⟨rfl, rfl, rfl, by decide +kernel, rfl, by decide +kernel, by decide +kernel⟩
theorem mi0_KeyTest___init__ {f : Addr} {fd : FuncData} {kl : Kl} (F : FunD K "__init__" "KeyTest.__init__" (defArgs (inClass (top 32) 0)) (defBody (inClass (top 32) 0)) (defScope (inClass (top 32) 0)) [] [("cast", V.non)] f fd) (bi : Bi mg) (c_check_numbers : Fnk P w K mg base "check_numbers" 3 ["numbers"] [] [] (sd_check_numbers kl)) (cf : Cf K mg kl) (kr_Chain : MakeOkR P w K mg base 3 "Chain" (kl).Chain (sdStar 0 (sd_Chain___init__ kl))) : FnOk P w K mg base (L2.CX P w) 5 f fd ["self", "numbers", "cast"] (spIn K kl.KeyTest (sd_KeyTest___init__ kl)) :=
  inokW_by (k := 4) (y := "self") (N := ["numbers", "cast"]) (ds := d_KeyTest___init__ kl) F sc_KeyTest___init__ (len_KeyTest___init__ kl) (fun X W f cdv A outer s H E eX eW tk po hr hu nd => ⟨_, (dss_cons (ds_expr (de_callF c_check_numbers tk (hr.mono (by decide)) (by rfl) (da_cons (de_var 1) da_nil)))
      (dss_cons (ds_fld cf.at_numbers 0 (de_var 1))
      (dss_cons (ds_fld cf.at_cast 0 (de_if (dt_cmp op_isN sr_isN (de_var 2) de_non (nomark _)) (de_makeR0 kr_Chain tk (hr.mono (by decide)) (by rfl)) (de_var 2)))
      (dss_cons (ds_fld cf.at_many 0 de_int)
      (dss_one (ds_fld cf.at_level 0 de_int))))))⟩) (pure_KeyTest___init__ kl)
theorem bo_KeyTest___init__ {f : Addr} {fd : FuncData} (F : FunD K "__init__" "KeyTest.__init__" (defArgs (inClass (top 32) 0)) (defBody (inClass (top 32) 0)) (defScope (inClass (top 32) 0)) [] [("cast", V.non)] f fd) : ∃ ds, Vals [V.non] ds ∧ Binds K fd ["self", "numbers", "cast"] ds := FunD.binds0 F 2 (by simp) rfl (fun _ _ _ _ _ _ us ks hl hk => match us, ks, hl, hk with | [_, _], [_], _, _ => ⟨_, _, _, _, _, _, rfl, rfl, rfl⟩)
theorem bn_KeyTest___init___cast {f : Addr} {fd : FuncData} (F : FunD K "__init__" "KeyTest.__init__" (defArgs (inClass (top 32) 0)) (defBody (inClass (top 32) 0)) (defScope (inClass (top 32) 0)) [] [("cast", V.non)] f fd) : ∃ mv : List Value, KBn K fd ["self", "numbers", "cast"] 2 ["cast"] (fun us ws => us ++ ((ws.drop 0).take 1 ++ [])) (fun us ws => us ++ ((ws.drop 0).take 1 ++ [])) := FunD.kbinds0 F 2 ["cast"] [] (fun us ms ws => us ++ ((ws.drop 0).take 1 ++ [])) (by simp) (by simp) (fun a b c => pairs_app a (pairs_app (vals_cut 0 c) .nil)) (fun _ _ _ _ _ _ us ms ws h1 h2 h3 => match us, ms, ws, h1, h2, h3 with | [_, _], [], [_], _, _, _ => (by exact rfl))
theorem sc_Test_gather : FnScope ["self"] ["self"] (defScope (inClass (top 31) 2)) := ⟨rfl, rfl, rfl, by decide +kernel, rfl, by decide +kernel, by decide +kernel⟩
theorem mo_Test_gather {f : Addr} {fd : FuncData} {kl : Kl} {C : Addr} (F : FunD K "gather" "Test.gather" (defArgs (inClass (top 31) 2)) (defBody (inClass (top 31) 2)) (defScope (inClass (top 31) 2)) [] [] f fd) (cl : Cls K C) (hm : Meth K C "gather" f) (bi : Bi mg) : MOk P w K mg base 1 "gather" C (sd_Test_gather kl) :=
  mok_by (k := 0) (N := ["self"]) (ds := d_Test_gather) F cl hm sc_Test_gather (by intro as Q E h; first | (obtain ⟨_, rfl, _⟩ := h; rfl) | (obtain ⟨_, _, rfl, _⟩ := h; rfl) | (obtain ⟨_, _, _, rfl, _⟩ := h; rfl) | (obtain ⟨_, _, _, _, rfl, _⟩ := h; rfl) | (obtain ⟨_, _, _, _, _, rfl, _⟩ := h; rfl) | (obtain ⟨_, _, _, _, _, _, rfl, _⟩ := h; rfl) | (obtain ⟨_, _, _, _, _, _, _, rfl, _⟩ := h; rfl) | (obtain ⟨rfl, _⟩ := h; rfl) | (obtain ⟨_, _, _, _, _, _, _, _, rfl, _⟩ := h; rfl) | (obtain ⟨_, _, _, _, _, _, _, _, _, rfl, _⟩ := h; rfl) | (obtain ⟨_, _, _, _, _, _, _, _, _, _, rfl, _⟩ := h; rfl) | (obtain ⟨_, _, _, _, _, _, _, _, _, _, _, rfl, _⟩ := h; rfl) | (obtain ⟨_, _, _, _, _, _, _, _, _, _, _, _, rfl, _⟩ := h; rfl)) (fun _ _ _ _ _ _ us hl => match us, hl with | [_], _ => rfl) (fun X W f cdv A outer s H E eX eW tk po hr hu nd => ⟨_, (dss_one (ds_ret (de_lst (da_cons (de_var 0) da_nil))))⟩) (pure_Test_gather kl)
theorem sc_KeyTest_gather : FnScope ["self"] ["self"] (defScope (inClass (top 32) 2)) := ⟨rfl, rfl, rfl, by decide +kernel, rfl, by decide +kernel, by decide +kernel⟩
theorem mo_KeyTest_gather {f : Addr} {fd : FuncData} {kl : Kl} {C : Addr} (F : FunD K "gather" "KeyTest.gather" (defArgs (inClass (top 32) 2)) (defBody (inClass (top 32) 2)) (defScope (inClass (top 32) 2)) [] [] f fd) (cl : Cls K C) (hm : Meth K C "gather" f) (bi : Bi mg) : MOk P w K mg base 1 "gather" C (sd_KeyTest_gather kl) :=
  mok_by (k := 0) (N := ["self"]) (ds := d_KeyTest_gather) F cl hm sc_KeyTest_gather (by intro as Q E h; first | (obtain ⟨_, rfl, _⟩ := h; rfl) | (obtain ⟨_, _, rfl, _⟩ := h; rfl) | (obtain ⟨_, _, _, rfl, _⟩ := h; rfl) | (obtain ⟨_, _, _, _, rfl, _⟩ := h; rfl) | (obtain ⟨_, _, _, _, _, rfl, _⟩ := h; rfl) | (obtain ⟨_, _, _, _, _, _, rfl, _⟩ := h; rfl) | (obtain ⟨_, _, _, _, _, _, _, rfl, _⟩ := h; rfl) | (obtain ⟨rfl, _⟩ := h; rfl) | (obtain ⟨_, _, _, _, _, _, _, _, rfl, _⟩ := h; rfl) | (obtain ⟨_, _, _, _, _, _, _, _, _, rfl, _⟩ := h; rfl) | (obtain ⟨_, _, _, _, _, _, _, _, _, _, rfl, _⟩ := h; rfl) | (obtain ⟨_, _, _, _, _, _, _, _, _, _, _, rfl, _⟩ := h; rfl) | (obtain ⟨_, _, _, _, _, _, _, _, _, _, _, _, rfl, _⟩ := h; rfl)) (fun _ _ _ _ _ _ us hl => match us, hl with | [_], _ => rfl) (fun X W f cdv A outer s H E eX eW tk po hr hu nd => ⟨_, (dss_one (ds_ret (de_lst (da_cons (de_var 0) da_nil))))⟩) (pure_KeyTest_gather kl)
theorem sc_Test_passes : FnScope ["self", "key", "values"] ["self", "key", "values"] (defScope (inClass (top 31) 3)) := ⟨rfl, rfl, rfl, by decide +kernel, rfl, by decide +kernel, by decide +kernel⟩
theorem mo_Test_passes {f : Addr} {fd : FuncData} {kl : Kl} {C : Addr} (F : FunD K "passes" "Test.passes" (defArgs (inClass (top 31) 3)) (defBody (inClass (top 31) 3)) (defScope (inClass (top 31) 3)) [] [] f fd) (cl : Cls K C) (hm : Meth K C "passes" f) (bi : Bi mg) (cf : Cf K mg kl) (ms_Stretches___contains__ : MSl P w K mg base 1 "__contains__" (kl).Stretches (sd_Stretches___contains__ kl)) (co_Chain : CallM P w K mg base 3 (kl).Chain (sd_Chain___call__ kl)) : MOk P w K mg base 4 "passes" C (sd_Test_passes kl) :=
  mok_by (k := 3) (N := ["self", "key", "values"]) (ds := d_Test_passes kl) F cl hm sc_Test_passes (by intro as Q E h; first | (obtain ⟨_, rfl, _⟩ := h; rfl) | (obtain ⟨_, _, rfl, _⟩ := h; rfl) | (obtain ⟨_, _, _, rfl, _⟩ := h; rfl) | (obtain ⟨_, _, _, _, rfl, _⟩ := h; rfl) | (obtain ⟨_, _, _, _, _, rfl, _⟩ := h; rfl) | (obtain ⟨_, _, _, _, _, _, rfl, _⟩ := h; rfl) | (obtain ⟨_, _, _, _, _, _, _, rfl, _⟩ := h; rfl) | (obtain ⟨rfl, _⟩ := h; rfl) | (obtain ⟨_, _, _, _, _, _, _, _, rfl, _⟩ := h; rfl) | (obtain ⟨_, _, _, _, _, _, _, _, _, rfl, _⟩ := h; rfl) | (obtain ⟨_, _, _, _, _, _, _, _, _, _, rfl, _⟩ := h; rfl) | (obtain ⟨_, _, _, _, _, _, _, _, _, _, _, rfl, _⟩ := h; rfl) | (obtain ⟨_, _, _, _, _, _, _, _, _, _, _, _, rfl, _⟩ := h; rfl)) (fun _ _ _ _ _ _ us hl => match us, hl with | [_, _, _], _ => rfl) (fun X W f cdv A outer s H E eX eW tk po hr hu nd => ⟨_, (dss_one (ds_ret (de_cmp (L2.OpR.or (op_inS ms_Stretches___contains__ (hr.mono (by decide))) op_in_seq) (sr_inS sr_in) (de_callFld cf.at_cast co_Chain (hr.mono (by decide)) (de_var 0) (da_cons (de_keyV hu (de_var 2) (de_at cf.at_name (de_var 0))) da_nil)) (de_at cf.at_numbers (de_var 0)) (by with_unfolding_all rfl))))⟩) (pure_Test_passes kl)
theorem sc_KeyTest_passes : FnScope ["self", "key", "values"] ["self", "key", "values"] (defScope (inClass (top 32) 3)) := ⟨rfl, rfl, rfl, by decide +kernel, rfl, by decide +kernel, by decide +kernel⟩
theorem mo_KeyTest_passes {f : Addr} {fd : FuncData} {kl : Kl} {C : Addr} (F : FunD K "passes" "KeyTest.passes" (defArgs (inClass (top 32) 3)) (defBody (inClass (top 32) 3)) (defScope (inClass (top 32) 3)) [] [] f fd) (cl : Cls K C) (hm : Meth K C "passes" f) (bi : Bi mg) (cf : Cf K mg kl) (ms_Stretches___contains__ : MSl P w K mg base 1 "__contains__" (kl).Stretches (sd_Stretches___contains__ kl)) (co_Chain : CallM P w K mg base 3 (kl).Chain (sd_Chain___call__ kl)) : MOk P w K mg base 4 "passes" C (sd_KeyTest_passes kl) :=
  mok_by (k := 3) (N := ["self", "key", "values"]) (ds := d_KeyTest_passes kl) F cl hm sc_KeyTest_passes (by intro as Q E h; first | (obtain ⟨_, rfl, _⟩ := h; rfl) | (obtain ⟨_, _, rfl, _⟩ := h; rfl) | (obtain ⟨_, _, _, rfl, _⟩ := h; rfl) | (obtain ⟨_, _, _, _, rfl, _⟩ := h; rfl) | (obtain ⟨_, _, _, _, _, rfl, _⟩ := h; rfl) | (obtain ⟨_, _, _, _, _, _, rfl, _⟩ := h; rfl) | (obtain ⟨_, _, _, _, _, _, _, rfl, _⟩ := h; rfl) | (obtain ⟨rfl, _⟩ := h; rfl) | (obtain ⟨_, _, _, _, _, _, _, _, rfl, _⟩ := h; rfl) | (obtain ⟨_, _, _, _, _, _, _, _, _, rfl, _⟩ := h; rfl) | (obtain ⟨_, _, _, _, _, _, _, _, _, _, rfl, _⟩ := h; rfl) | (obtain ⟨_, _, _, _, _, _, _, _, _, _, _, rfl, _⟩ := h; rfl) | (obtain ⟨_, _, _, _, _, _, _, _, _, _, _, _, rfl, _⟩ := h; rfl)) (fun _ _ _ _ _ _ us hl => match us, hl with | [_, _, _], _ => rfl) (fun X W f cdv A outer s H E eX eW tk po hr hu nd => ⟨_, (dss_one (ds_ret (de_cmp (L2.OpR.or (op_inS ms_Stretches___contains__ (hr.mono (by decide))) op_in_seq) (sr_inS sr_in) (de_callFld cf.at_cast co_Chain (hr.mono (by decide)) (de_var 0) (da_cons (de_var 1) da_nil)) (de_at cf.at_numbers (de_var 0)) (by with_unfolding_all rfl))))⟩) (pure_KeyTest_passes kl)
theorem sc_Test_judge : FnScope ["self", "marks", "start"] ["self", "marks", "start"] (defScope (inClass (top 31) 4)) := ⟨rfl, rfl, rfl, by decide +kernel, rfl, by decide +kernel, by decide +kernel⟩
theorem mo_Test_judge {f : Addr} {fd : FuncData} {kl : Kl} {C : Addr} (F : FunD K "judge" "Test.judge" (defArgs (inClass (top 31) 4)) (defBody (inClass (top 31) 4)) (defScope (inClass (top 31) 4)) [] [] f fd) (cl : Cls K C) (hm : Meth K C "judge" f) (bi : Bi mg) : MOk P w K mg base 1 "judge" C (sd_Test_judge kl) :=
  mok_by (k := 0) (N := ["self", "marks", "start"]) (ds := d_Test_judge) F cl hm sc_Test_judge (by intro as Q E h; first | (obtain ⟨_, rfl, _⟩ := h; rfl) | (obtain ⟨_, _, rfl, _⟩ := h; rfl) | (obtain ⟨_, _, _, rfl, _⟩ := h; rfl) | (obtain ⟨_, _, _, _, rfl, _⟩ := h; rfl) | (obtain ⟨_, _, _, _, _, rfl, _⟩ := h; rfl) | (obtain ⟨_, _, _, _, _, _, rfl, _⟩ := h; rfl) | (obtain ⟨_, _, _, _, _, _, _, rfl, _⟩ := h; rfl) | (obtain ⟨rfl, _⟩ := h; rfl) | (obtain ⟨_, _, _, _, _, _, _, _, rfl, _⟩ := h; rfl) | (obtain ⟨_, _, _, _, _, _, _, _, _, rfl, _⟩ := h; rfl) | (obtain ⟨_, _, _, _, _, _, _, _, _, _, rfl, _⟩ := h; rfl) | (obtain ⟨_, _, _, _, _, _, _, _, _, _, _, rfl, _⟩ := h; rfl) | (obtain ⟨_, _, _, _, _, _, _, _, _, _, _, _, rfl, _⟩ := h; rfl)) (fun _ _ _ _ _ _ us hl => match us, hl with | [_, _, _], _ => rfl) (fun X W f cdv A outer s H E eX eW tk po hr hu nd => ⟨_, (dss_one (ds_ret (de_ix ix_S sr_ix (de_var 1) (de_var 2) (fun _ _ => rfl))))⟩) (pure_Test_judge kl)
theorem sc_KeyTest_judge : FnScope ["self", "marks", "start"] ["self", "marks", "start"] (defScope (inClass (top 32) 4)) := ⟨rfl, rfl, rfl, by decide +kernel, rfl, by decide +kernel, by decide +kernel⟩
theorem mo_KeyTest_judge {f : Addr} {fd : FuncData} {kl : Kl} {C : Addr} (F : FunD K "judge" "KeyTest.judge" (defArgs (inClass (top 32) 4)) (defBody (inClass (top 32) 4)) (defScope (inClass (top 32) 4)) [] [] f fd) (cl : Cls K C) (hm : Meth K C "judge" f) (bi : Bi mg) : MOk P w K mg base 1 "judge" C (sd_KeyTest_judge kl) :=
  mok_by (k := 0) (N := ["self", "marks", "start"]) (ds := d_KeyTest_judge) F cl hm sc_KeyTest_judge (by intro as Q E h; first | (obtain ⟨_, rfl, _⟩ := h; rfl) | (obtain ⟨_, _, rfl, _⟩ := h; rfl) | (obtain ⟨_, _, _, rfl, _⟩ := h; rfl) | (obtain ⟨_, _, _, _, rfl, _⟩ := h; rfl) | (obtain ⟨_, _, _, _, _, rfl, _⟩ := h; rfl) | (obtain ⟨_, _, _, _, _, _, rfl, _⟩ := h; rfl) | (obtain ⟨_, _, _, _, _, _, _, rfl, _⟩ := h; rfl) | (obtain ⟨rfl, _⟩ := h; rfl) | (obtain ⟨_, _, _, _, _, _, _, _, rfl, _⟩ := h; rfl) | (obtain ⟨_, _, _, _, _, _, _, _, _, rfl, _⟩ := h; rfl) | (obtain ⟨_, _, _, _, _, _, _, _, _, _, rfl, _⟩ := h; rfl) | (obtain ⟨_, _, _, _, _, _, _, _, _, _, _, rfl, _⟩ := h; rfl) | (obtain ⟨_, _, _, _, _, _, _, _, _, _, _, _, rfl, _⟩ := h; rfl)) (fun _ _ _ _ _ _ us hl => match us, hl with | [_, _, _], _ => rfl) (fun X W f cdv A outer s H E eX eW tk po hr hu nd => ⟨_, (dss_one (ds_ret (de_ix ix_S sr_ix (de_var 1) (de_var 2) (fun _ _ => rfl))))⟩) (pure_KeyTest_judge kl)
theorem sc_Condition_truth : FnScope ["self", "marks"] ["self", "marks"] (defScope (inClass (top 30) 6)) := ⟨rfl, rfl, rfl, by decide +kernel, rfl, by decide +kernel, by decide +kernel⟩
theorem mo_Condition_truth {f : Addr} {fd : FuncData} {kl : Kl} {C : Addr} (F : FunD K "truth" "Condition.truth" (defArgs (inClass (top 30) 6)) (defBody (inClass (top 30) 6)) (defScope (inClass (top 30) 6)) [] [] f fd) (cl : Cls K C) (hm : Meth K C "truth" f) (bi : Bi mg) (cf : Cf K mg kl) (m_judge : TblOk P w K mg base 1 "judge" (tb_judge kl)) : MOk P w K mg base 2 "truth" C (sd_Condition_truth kl) :=
  mok_by (k := 1) (N := ["self", "marks"]) (ds := d_Condition_truth kl) F cl hm sc_Condition_truth (by intro as Q E h; first | (obtain ⟨_, rfl, _⟩ := h; rfl) | (obtain ⟨_, _, rfl, _⟩ := h; rfl) | (obtain ⟨_, _, _, rfl, _⟩ := h; rfl) | (obtain ⟨_, _, _, _, rfl, _⟩ := h; rfl) | (obtain ⟨_, _, _, _, _, rfl, _⟩ := h; rfl) | (obtain ⟨_, _, _, _, _, _, rfl, _⟩ := h; rfl) | (obtain ⟨_, _, _, _, _, _, _, rfl, _⟩ := h; rfl) | (obtain ⟨rfl, _⟩ := h; rfl) | (obtain ⟨_, _, _, _, _, _, _, _, rfl, _⟩ := h; rfl) | (obtain ⟨_, _, _, _, _, _, _, _, _, rfl, _⟩ := h; rfl) | (obtain ⟨_, _, _, _, _, _, _, _, _, _, rfl, _⟩ := h; rfl) | (obtain ⟨_, _, _, _, _, _, _, _, _, _, _, rfl, _⟩ := h; rfl) | (obtain ⟨_, _, _, _, _, _, _, _, _, _, _, _, rfl, _⟩ := h; rfl)) (fun _ _ _ _ _ _ us hl => match us, hl with | [_, _], _ => rfl) (fun X W f cdv A outer s H E eX eW tk po hr hu nd => ⟨_, (dss_one (ds_ret (de_meth m_judge tk (hr.mono (by decide)) (de_var 0) (da_cons (de_var 1) (da_cons de_int da_nil)))))⟩) (pure_Condition_truth kl)
theorem sc_Condition_names : FnScope ["self", "test"] ["self"] (defScope (inClass (top 30) 3)) := ⟨rfl, rfl, rfl, by decide +kernel, rfl, by decide +kernel, by decide +kernel⟩
theorem mf_Condition_names {f : Addr} {fd : FuncData} {kl : Kl} (F : FunD K "names" "Condition.names" (defArgs (inClass (top 30) 3)) (defBody (inClass (top 30) 3)) (defScope (inClass (top 30) 3)) [] [] f fd) (bi : Bi mg) (cf : Cf K mg kl) (m_gather : TblOk P w K mg base 1 "gather" (tb_gather kl)) : FnOk P w K mg base (L2.CX P w) 2 f fd ["self"] (spOf K (sd_Condition_names kl)) ∧ Binds K fd ["self"] [] :=
  mfn_by (k := 1) (N := ["self", "test"]) (ds := d_Condition_names kl) F sc_Condition_names (by intro as Q E h; first | (obtain ⟨_, rfl, _⟩ := h; rfl) | (obtain ⟨_, _, rfl, _⟩ := h; rfl) | (obtain ⟨_, _, _, rfl, _⟩ := h; rfl) | (obtain ⟨_, _, _, _, rfl, _⟩ := h; rfl) | (obtain ⟨_, _, _, _, _, rfl, _⟩ := h; rfl) | (obtain ⟨_, _, _, _, _, _, rfl, _⟩ := h; rfl) | (obtain ⟨_, _, _, _, _, _, _, rfl, _⟩ := h; rfl) | (obtain ⟨rfl, _⟩ := h; rfl) | (obtain ⟨_, _, _, _, _, _, _, _, rfl, _⟩ := h; rfl) | (obtain ⟨_, _, _, _, _, _, _, _, _, rfl, _⟩ := h; rfl) | (obtain ⟨_, _, _, _, _, _, _, _, _, _, rfl, _⟩ := h; rfl) | (obtain ⟨_, _, _, _, _, _, _, _, _, _, _, rfl, _⟩ := h; rfl) | (obtain ⟨_, _, _, _, _, _, _, _, _, _, _, _, rfl, _⟩ := h; rfl)) (fun _ _ _ _ _ _ us hl => match us, hl with | [_], _ => rfl) (fun X W f cdv A outer s H E eX eW tk po hr hu nd => ⟨_, (dss_one (ds_ret (de_ct call_tupleS sc_tuple (by rfl) bi.tuple (by decide +kernel) (da_cons (de_srtSc (own := [("test", 1)]) rfl nd (by rfl) bi.sorted (di_seq (de_meth0 m_gather tk (hr.mono (by decide)) (de_var 0))) (blkOk_by (N := ["self", "test"]) (sc := defScope (inClass (top 30) 3)) (by decide +kernel)) (fun _ _ _ _ _ => (dg_name 1 nd)) (fun _ _ _ _ _ => (dts_one (dt_tru (de_cb call_isi (sc_isO cf.is_Test) (by rfl) bi.isinstance (by decide +kernel) (da_cons (de_var 1) (da_cons (de_clsn (by rfl) cf.g_Test) da_nil)))))) (fun _ _ _ _ _ => (de_at cf.at_name (de_var 1)))) da_nil))))⟩) (pure_Condition_names kl)
theorem sc_Condition_tests : FnScope ["self"] ["self"] (defScope (inClass (top 30) 2)) := ⟨rfl, rfl, rfl, by decide +kernel, rfl, by decide +kernel, by decide +kernel⟩
theorem mf_Condition_tests {f : Addr} {fd : FuncData} {kl : Kl} (F : FunD K "tests" "Condition.tests" (defArgs (inClass (top 30) 2)) (defBody (inClass (top 30) 2)) (defScope (inClass (top 30) 2)) [] [] f fd) (bi : Bi mg) (cf : Cf K mg kl) (m_gather : TblOk P w K mg base 1 "gather" (tb_gather kl)) : FnOk P w K mg base (L2.CX P w) 2 f fd ["self"] (spOf K (sd_Condition_tests kl)) ∧ Binds K fd ["self"] [] :=
  mfn_by (k := 1) (N := ["self"]) (ds := d_Condition_tests kl) F sc_Condition_tests (by intro as Q E h; first | (obtain ⟨_, rfl, _⟩ := h; rfl) | (obtain ⟨_, _, rfl, _⟩ := h; rfl) | (obtain ⟨_, _, _, rfl, _⟩ := h; rfl) | (obtain ⟨_, _, _, _, rfl, _⟩ := h; rfl) | (obtain ⟨_, _, _, _, _, rfl, _⟩ := h; rfl) | (obtain ⟨_, _, _, _, _, _, rfl, _⟩ := h; rfl) | (obtain ⟨_, _, _, _, _, _, _, rfl, _⟩ := h; rfl) | (obtain ⟨rfl, _⟩ := h; rfl) | (obtain ⟨_, _, _, _, _, _, _, _, rfl, _⟩ := h; rfl) | (obtain ⟨_, _, _, _, _, _, _, _, _, rfl, _⟩ := h; rfl) | (obtain ⟨_, _, _, _, _, _, _, _, _, _, rfl, _⟩ := h; rfl) | (obtain ⟨_, _, _, _, _, _, _, _, _, _, _, rfl, _⟩ := h; rfl) | (obtain ⟨_, _, _, _, _, _, _, _, _, _, _, _, rfl, _⟩ := h; rfl)) (fun _ _ _ _ _ _ us hl => match us, hl with | [_], _ => rfl) (fun X W f cdv A outer s H E eX eW tk po hr hu nd => ⟨_, (dss_one (ds_ret (de_ct call_tupleS sc_tuple (by rfl) bi.tuple (by decide +kernel) (da_cons (de_meth0 m_gather tk (hr.mono (by decide)) (de_var 0)) da_nil))))⟩) (pure_Condition_tests kl)
theorem sc_Condition_depth : FnScope ["self"] ["self"] (defScope (inClass (top 30) 4)) := ⟨rfl, rfl, rfl, by decide +kernel, rfl, by decide +kernel, by decide +kernel⟩
theorem mf_Condition_depth {f : Addr} {fd : FuncData} {kl : Kl} (F : FunD K "depth" "Condition.depth" (defArgs (inClass (top 30) 4)) (defBody (inClass (top 30) 4)) (defScope (inClass (top 30) 4)) [] [] f fd) (bi : Bi mg) (cf : Cf K mg kl) : FnOk P w K mg base (L2.CX P w) 1 f fd ["self"] (spOf K (sd_Condition_depth kl)) ∧ Binds K fd ["self"] [] :=
  mfn_by (k := 0) (N := ["self"]) (ds := d_Condition_depth kl) F sc_Condition_depth (by intro as Q E h; first | (obtain ⟨_, rfl, _⟩ := h; rfl) | (obtain ⟨_, _, rfl, _⟩ := h; rfl) | (obtain ⟨_, _, _, rfl, _⟩ := h; rfl) | (obtain ⟨_, _, _, _, rfl, _⟩ := h; rfl) | (obtain ⟨_, _, _, _, _, rfl, _⟩ := h; rfl) | (obtain ⟨_, _, _, _, _, _, rfl, _⟩ := h; rfl) | (obtain ⟨_, _, _, _, _, _, _, rfl, _⟩ := h; rfl) | (obtain ⟨rfl, _⟩ := h; rfl) | (obtain ⟨_, _, _, _, _, _, _, _, rfl, _⟩ := h; rfl) | (obtain ⟨_, _, _, _, _, _, _, _, _, rfl, _⟩ := h; rfl) | (obtain ⟨_, _, _, _, _, _, _, _, _, _, rfl, _⟩ := h; rfl) | (obtain ⟨_, _, _, _, _, _, _, _, _, _, _, rfl, _⟩ := h; rfl) | (obtain ⟨_, _, _, _, _, _, _, _, _, _, _, _, rfl, _⟩ := h; rfl)) (fun _ _ _ _ _ _ us hl => match us, hl with | [_], _ => rfl) (fun X W f cdv A outer s H E eX eW tk po hr hu nd => ⟨_, (dss_one (ds_ret (de_at cf.at_level (de_var 0))))⟩) (pure_Condition_depth kl)
theorem sc_Condition_holds : FnScope ["self", "key", "values", "name", "test"] ["self", "key", "values"] (defScope (inClass (top 30) 5)) := ⟨rfl, rfl, rfl, by decide +kernel, rfl, by decide +kernel, by decide +kernel⟩
theorem mo_Condition_holds {f : Addr} {fd : FuncData} {kl : Kl} {C : Addr} (F : FunD K "holds" "Condition.holds" (defArgs (inClass (top 30) 5)) (defBody (inClass (top 30) 5)) (defScope (inClass (top 30) 5)) [] [] f fd) (cl : Cls K C) (hm : Meth K C "holds" f) (bi : Bi mg) (cf : Cf K mg kl) (m_gather : TblOk P w K mg base 1 "gather" (tb_gather kl)) (m_passes : TblOk P w K mg base 4 "passes" (tb_passes kl)) (m_truth : TblOk P w K mg base 2 "truth" (tb_truth kl)) (x_UnknownName : ExcMk P w K mg base 1 "UnknownName" (kl).UnknownName ["name"]) (pt_names : PrTb P w K mg base 2 "names" (tp_names kl)) : MOk P w K mg base 5 "holds" C (sd_Condition_holds kl) :=
  mok_by (k := 4) (N := ["self", "key", "values", "name", "test"]) (ds := d_Condition_holds kl) F cl hm sc_Condition_holds (by intro as Q E h; first | (obtain ⟨_, rfl, _⟩ := h; rfl) | (obtain ⟨_, _, rfl, _⟩ := h; rfl) | (obtain ⟨_, _, _, rfl, _⟩ := h; rfl) | (obtain ⟨_, _, _, _, rfl, _⟩ := h; rfl) | (obtain ⟨_, _, _, _, _, rfl, _⟩ := h; rfl) | (obtain ⟨_, _, _, _, _, _, rfl, _⟩ := h; rfl) | (obtain ⟨_, _, _, _, _, _, _, rfl, _⟩ := h; rfl) | (obtain ⟨rfl, _⟩ := h; rfl) | (obtain ⟨_, _, _, _, _, _, _, _, rfl, _⟩ := h; rfl) | (obtain ⟨_, _, _, _, _, _, _, _, _, rfl, _⟩ := h; rfl) | (obtain ⟨_, _, _, _, _, _, _, _, _, _, rfl, _⟩ := h; rfl) | (obtain ⟨_, _, _, _, _, _, _, _, _, _, _, rfl, _⟩ := h; rfl) | (obtain ⟨_, _, _, _, _, _, _, _, _, _, _, _, rfl, _⟩ := h; rfl)) (fun _ _ _ _ _ _ us hl => match us, hl with | [_, _, _], _ => rfl) (fun X W f cdv A outer s H E eX eW tk po hr hu nd => ⟨_, (dss_cons (ds_for po rfl (di_seq (de_prT pt_names (hr.mono (by decide)) (de_var 0))) (dg_name 3 nd)
      (dss_one (ds_if (dt_knin hu (de_var 3) (de_var 2))
      (dss_one (ds_raise x_UnknownName rfl tk (hr.mono (by decide)) (by rfl) (da_cons (de_var 3) da_nil)))
      dss_nil)))
      (dss_one (ds_ret (de_meth m_truth tk (hr.mono (by decide)) (de_var 0) (da_cons (de_lc (own := [("test", 4)]) rfl nd (di_seq (de_meth0 m_gather tk (hr.mono (by decide)) (de_var 0))) (blkOk_by (N := ["self", "key", "values", "name", "test"]) (sc := defScope (inClass (top 30) 5)) (by decide +kernel)) (fun _ _ _ _ _ => (dg_name 4 nd)) (fun _ _ _ _ _ => dts_nil) (fun _ _ _ _ _ => (de_meth m_passes takes0 (hr.mono (by decide)) (de_var 4) (da_cons (de_var 1) (da_cons (de_var 2) da_nil))))) da_nil)))))⟩) (pure_Condition_holds kl)
theorem sc__law_draws : FnScope ["_law_script", "_law_draws_here", "_law_k", "_law_size", "_law_turn", "_law_mixed"] ["_law_script"] (defScope (top 45)) := ⟨rfl, rfl, rfl, by decide +kernel, rfl, by decide +kernel, by decide +kernel⟩
theorem dk__law_draws (D : DefAt K mg "_law_draws" (top 45)) (bi : Bi mg) : Drk P w K mg base :=
  drk_of D sc__law_draws (fun _ _ _ _ _ _ us hl => match us, hl with | [_], _ => rfl) fun f cdv A outer s H E po =>
    have nd := sc__law_draws.nd
    ⟨_, (dss_cons (ds_own 1 nd da_nil)
      (dss_cons (ds_for po rfl (di_range1 (by rfl) bi.range (da_cons (de_cb (call_min2 rfl) sc_min2 (by rfl) bi.min (by decide +kernel) (da_cons (de_cb call_lenA sc_len (by rfl) bi.len (by decide +kernel) (da_cons (de_var 0) da_nil)) (da_cons de_int da_nil))) da_nil)) (dg_name 2 nd)
      (dss_cons (ds_asg (de_cb call_abs sc_abs (by rfl) bi.abs (by decide +kernel) (da_cons (de_ix ix_S sr_ix (de_var 0) (de_var 2) (fun _ _ => rfl)) da_nil)) (dg_name 3 nd))
      (dss_one (ds_if (dt_cmp op_ge sr_I0 (de_var 3) (de_pow de_int de_int) (nomark _))
      (dss_one (ds_for po rfl (di_range1 (by rfl) bi.range (da_cons de_int da_nil)) (dg_name 4 nd)
      (dss_one (ds_if (dt_cmp op_gt sr_I0 (de_var 3) de_int (nomark _))
      (dss_cons (ds_app 1 (de_mod (de_ct call_int1 sc_int1 (by rfl) bi.int (by decide +kernel) (da_cons (de_var 3) da_nil)) (de_pow de_int de_int)))
      (dss_one (ds_asg (de_fdiv (de_var 3) (de_pow de_int de_int)) (dg_name 3 nd))))
      dss_nil))))
      (dss_cons (ds_asg (de_add (de_mul de_int (de_var 3)) (de_ct call_int1 sc_int1 (by rfl) bi.int (by decide +kernel) (da_cons (de_cmp op_lt sr_I0 (de_ix ix_S sr_ix (de_var 0) (de_var 2) (fun _ _ => rfl)) de_int (nomark _)) da_nil))) (dg_name 3 nd))
      (dss_one (ds_for po rfl (di_range1 (by rfl) bi.range (da_cons de_int da_nil)) (dg_name 4 nd)
      (dss_cons (ds_asg (de_mod (de_ct call_int1 sc_int1 (by rfl) bi.int (by decide +kernel) (da_cons (de_add (de_mul (de_var 3) de_int) (de_mul (de_add (de_add (de_mul de_int (de_var 2)) (de_var 4)) de_int) de_int)) da_nil)) de_int) (dg_name 5 nd))
      (dss_cons (ds_asg (de_mod (de_ct call_int1 sc_int1 (by rfl) bi.int (by decide +kernel) (da_cons (de_mul (de_var 5) (de_var 5)) da_nil)) de_int) (dg_name 5 nd))
      (dss_one (ds_app 1 (de_mod (de_ct call_int1 sc_int1 (by rfl) bi.int (by decide +kernel) (da_cons (de_mul (de_var 5) (de_var 5)) da_nil)) de_int))))))))))))
      (dss_one (ds_retv 1))))⟩
theorem sc__law_next : FnScope ["_law_draws_here", "_law_many"] ["_law_draws_here", "_law_many"] (defScope (top 46)) := ⟨rfl, rfl, rfl, by decide +kernel, rfl, by decide +kernel, by decide +kernel⟩
theorem fk__law_next (D : DefAt K mg "_law_next" (top 46)) (bi : Bi mg) : Fnk P w K mg base "_law_next" 1 ["_law_draws_here", "_law_many"] [] [] sd__law_next :=
  fnk_next D sc__law_next (fun _ _ _ _ _ _ us hl => match us, hl with | [_, _], _ => rfl) fun f cdv A outer s H E hu =>
    pss_cons (ps_if (pt_cmpR (op_eqD hu) (pv 0) (pe_lst pa_nil) (nomark _)) (pss_one (ps_ret pe_int)) pss_nil)
      (pss_one (ps_ret (pe_op op_mod (pe_callTy call_int1 (by rfl) bi.int (by decide +kernel) (pa_cons (pe_bm PySem.F.plainAttrs_list PySem.F.slot_list_pop PySem.F.type_list_pop mt_popAt (pv 0) (pa_cons pe_int pa_nil)) pa_nil)) (pv 1))))
theorem sc__law_amount : FnScope ["_law_draws_here", "_law_low", "_law_high", "_law_number", "_law_kind"] ["_law_draws_here", "_law_low", "_law_high"] (defScope (top 47)) := ⟨rfl, rfl, rfl, by decide +kernel, rfl, by decide +kernel, by decide +kernel⟩
theorem fk__law_amount (D : DefAt K mg "_law_amount" (top 47)) (bi : Bi mg) (c__law_next : Fnk P w K mg base "_law_next" 1 ["_law_draws_here", "_law_many"] [] [] sd__law_next) : Fnk P w K mg base "_law_amount" 2 ["_law_draws_here", "_law_low", "_law_high"] [] [] sd__law_amount :=
  fnk_by (k := 1) (N := ["_law_draws_here", "_law_low", "_law_high", "_law_number", "_law_kind"]) (ds := d__law_amount) D sc__law_amount len__law_amount (fun _ _ _ _ _ _ us hl => match us, hl with | [_, _, _], _ => rfl) (fun X W f cdv A outer s H E eX eW tk po hr hu nd => ⟨_, (dss_cons (ds_asg (de_callF c__law_next tk (hr.mono (by decide)) (by rfl) (da_cons (de_var 0) (da_cons (de_pow de_int de_int) da_nil))) (dg_name 3 nd))
      (dss_cons (ds_asg (de_mod (de_ct call_int1 sc_int1 (by rfl) bi.int (by decide +kernel) (da_cons (de_var 3) da_nil)) de_int) (dg_name 4 nd))
      (dss_cons (ds_asg (de_fdiv (de_var 3) de_int) (dg_name 3 nd))
      (dss_cons (ds_if (dt_cmp (op_eqA hu) sr_eq (de_var 4) de_int (nomark _))
      (dss_one (ds_ret (de_cb (call_min2 rfl) sc_min2 (by rfl) bi.min (by decide +kernel) (da_cons (de_var 2) (da_cons (de_add (de_var 1) (de_mod (de_ct call_int1 sc_int1 (by rfl) bi.int (by decide +kernel) (da_cons (de_var 3) da_nil)) de_int)) da_nil)))))
      dss_nil)
      (dss_cons (ds_if (dt_cmp (op_eqA hu) sr_eq (de_var 4) de_int (nomark _))
      (dss_one (ds_ret (de_cb (call_max2 rfl) sc_max2 (by rfl) bi.max (by decide +kernel) (da_cons (de_var 1) (da_cons (de_sub (de_var 2) (de_mod (de_ct call_int1 sc_int1 (by rfl) bi.int (by decide +kernel) (da_cons (de_var 3) da_nil)) de_int)) da_nil)))))
      dss_nil)
      (dss_cons (ds_if (dt_cmp (op_eqA hu) sr_eq (de_var 4) de_int (nomark _))
      (dss_one (ds_ret (de_cb (call_max2 rfl) sc_max2 (by rfl) bi.max (by decide +kernel) (da_cons (de_var 1) (da_cons (de_cb (call_min2 rfl) sc_min2 (by rfl) bi.min (by decide +kernel) (da_cons (de_var 2) (da_cons (de_sub (de_mod (de_ct call_int1 sc_int1 (by rfl) bi.int (by decide +kernel) (da_cons (de_var 3) da_nil)) de_int) de_int) da_nil))) da_nil)))))
      dss_nil)
      (dss_one (ds_ret (de_add (de_var 1) (de_mod (de_ct call_int1 sc_int1 (by rfl) bi.int (by decide +kernel) (da_cons (de_var 3) da_nil)) (de_add (de_sub (de_var 2) (de_var 1)) de_int)))))))))))⟩) pure__law_amount
theorem sc__law_deed : FnScope ["_law_draws_here", "_law_kind", "_law_factor", "_law_low"] ["_law_draws_here", "_law_kind"] (defScope (top 48)) := ⟨rfl, rfl, rfl, by decide +kernel, rfl, by decide +kernel, by decide +kernel⟩
theorem fk__law_deed (D : DefAt K mg "_law_deed" (top 48)) (bi : Bi mg) (c__law_amount : Fnk P w K mg base "_law_amount" 2 ["_law_draws_here", "_law_low", "_law_high"] [] [] sd__law_amount) : Fnk P w K mg base "_law_deed" 3 ["_law_draws_here", "_law_kind"] [] [] sd__law_deed :=
  fnk_by (k := 2) (N := ["_law_draws_here", "_law_kind", "_law_factor", "_law_low"]) (ds := d__law_deed) D sc__law_deed len__law_deed (fun _ _ _ _ _ _ us hl => match us, hl with | [_, _], _ => rfl) (fun X W f cdv A outer s H E eX eW tk po hr hu nd => ⟨_, (dss_cons (ds_if (dt_cmp (op_eqA hu) sr_eq (de_var 1) de_int (nomark _))
      (dss_one (ds_ret (de_tup (da_cons de_str (da_cons (de_callF c__law_amount tk (hr.mono (by decide)) (by rfl) (da_cons (de_var 0) (da_cons (de_neg (de_pow de_int de_int)) (da_cons (de_pow de_int de_int) da_nil)))) (da_cons de_int da_nil))))))
      dss_nil)
      (dss_cons (ds_if (dt_cmp (op_eqA hu) sr_eq (de_var 1) de_int (nomark _))
      (dss_cons (ds_asg (de_callF c__law_amount tk (hr.mono (by decide)) (by rfl) (da_cons (de_var 0) (da_cons (de_neg de_int) (da_cons de_int da_nil)))) (dg_name 2 nd))
      (dss_cons (ds_if (dt_cmp (op_eqA hu) sr_eq (de_var 2) de_int (nomark _))
      (dss_one (ds_asg de_int (dg_name 2 nd)))
      dss_nil)
      (dss_one (ds_ret (de_tup (da_cons de_str (da_cons (de_var 2) (da_cons de_int da_nil))))))))
      dss_nil)
      (dss_cons (ds_if (dt_cmp (op_eqA hu) sr_eq (de_var 1) de_int (nomark _))
      (dss_one (ds_ret (de_tup (da_cons de_str (da_cons (de_callF c__law_amount tk (hr.mono (by decide)) (by rfl) (da_cons (de_var 0) (da_cons de_int (da_cons (de_pow de_int de_int) da_nil)))) (da_cons de_int da_nil))))))
      dss_nil)
      (dss_cons (ds_if (dt_cmp (op_eqA hu) sr_eq (de_var 1) de_int (nomark _))
      (dss_cons (ds_asg (de_callF c__law_amount tk (hr.mono (by decide)) (by rfl) (da_cons (de_var 0) (da_cons (de_neg (de_pow de_int de_int)) (da_cons (de_pow de_int de_int) da_nil)))) (dg_name 3 nd))
      (dss_one (ds_ret (de_tup (da_cons de_str (da_cons (de_var 3) (da_cons (de_callF c__law_amount tk (hr.mono (by decide)) (by rfl) (da_cons (de_var 0) (da_cons (de_var 3) (da_cons (de_pow de_int de_int) da_nil)))) da_nil)))))))
      dss_nil)
      (dss_cons (ds_if (dt_cmp (op_eqA hu) sr_eq (de_var 1) de_int (nomark _))
      (dss_one (ds_ret (de_tup (da_cons de_str (da_cons (de_neg de_int) (da_cons de_int da_nil))))))
      dss_nil)
      (dss_one (ds_ret (de_tup (da_cons de_str (da_cons de_int (da_cons de_int da_nil)))))))))))⟩) pure__law_deed
theorem sc__law_built : FnScope ["_law_deed_here"] ["_law_deed_here"] (defScope (top 49)) := ⟨rfl, rfl, rfl, by decide +kernel, rfl, by decide +kernel, by decide +kernel⟩
theorem fk__law_built {kl : Kl} (D : DefAt K mg "_law_built" (top 49)) (bi : Bi mg) (cf : Cf K mg kl) (k_Shift : MakeOk P w K mg base 1 "Shift" (kl).Shift (sd_Shift___init__ kl)) (k_Scale : MakeOk P w K mg base 1 "Scale" (kl).Scale (sd_Scale___init__ kl)) (k_Floor : MakeOk P w K mg base 1 "Floor" (kl).Floor (sd_Floor___init__ kl)) (k_Clip : MakeOk P w K mg base 1 "Clip" (kl).Clip (sd_Clip___init__ kl)) (k_Sign : MakeOk P w K mg base 2 "Sign" (kl).Sign (sd_Sign___init__ kl)) (kb_Step : Mk0 K (kl).Step) : Fnk P w K mg base "_law_built" 4 ["_law_deed_here"] [] [] (sd__law_built kl) :=
  fnk_by (k := 3) (N := ["_law_deed_here"]) (ds := d__law_built kl) D sc__law_built (len__law_built kl) (fun _ _ _ _ _ _ us hl => match us, hl with | [_], _ => rfl) (fun X W f cdv A outer s H E eX eW tk po hr hu nd => ⟨_, (dss_cons (ds_if (dt_cmp (op_eqA hu) sr_eq (de_ix ix_S sr_ix (de_var 0) de_int (fun _ _ => rfl)) de_str (nomark _))
      (dss_one (ds_ret (de_make k_Shift tk (hr.mono (by decide)) (by rfl) (da_cons (de_ix ix_S sr_ix (de_var 0) de_int (fun _ _ => rfl)) da_nil))))
      dss_nil)
      (dss_cons (ds_if (dt_cmp (op_eqA hu) sr_eq (de_ix ix_S sr_ix (de_var 0) de_int (fun _ _ => rfl)) de_str (nomark _))
      (dss_one (ds_ret (de_make k_Scale tk (hr.mono (by decide)) (by rfl) (da_cons (de_ix ix_S sr_ix (de_var 0) de_int (fun _ _ => rfl)) da_nil))))
      dss_nil)
      (dss_cons (ds_if (dt_cmp (op_eqA hu) sr_eq (de_ix ix_S sr_ix (de_var 0) de_int (fun _ _ => rfl)) de_str (nomark _))
      (dss_one (ds_ret (de_make k_Floor tk (hr.mono (by decide)) (by rfl) (da_cons (de_ix ix_S sr_ix (de_var 0) de_int (fun _ _ => rfl)) da_nil))))
      dss_nil)
      (dss_cons (ds_if (dt_cmp (op_eqA hu) sr_eq (de_ix ix_S sr_ix (de_var 0) de_int (fun _ _ => rfl)) de_str (nomark _))
      (dss_one (ds_ret (de_make k_Clip tk (hr.mono (by decide)) (by rfl) (da_cons (de_ix ix_S sr_ix (de_var 0) de_int (fun _ _ => rfl)) (da_cons (de_ix ix_S sr_ix (de_var 0) de_int (fun _ _ => rfl)) da_nil)))))
      dss_nil)
      (dss_cons (ds_if (dt_cmp (op_eqA hu) sr_eq (de_ix ix_S sr_ix (de_var 0) de_int (fun _ _ => rfl)) de_str (nomark _))
      (dss_one (ds_ret (de_make0 k_Sign tk (hr.mono (by decide)) (by rfl))))
      dss_nil)
      (dss_one (ds_ret (de_bare kb_Step (by rfl) cf.g_Step))))))))⟩) (pure__law_built kl)
theorem sc__law_image : FnScope ["_law_deed_here", "_law_number"] ["_law_deed_here", "_law_number"] (defScope (top 50)) := ⟨rfl, rfl, rfl, by decide +kernel, rfl, by decide +kernel, by decide +kernel⟩
theorem fk__law_image (D : DefAt K mg "_law_image" (top 50)) (bi : Bi mg) : Fnk P w K mg base "_law_image" 1 ["_law_deed_here", "_law_number"] [] [] sd__law_image :=
  fnk_by (k := 0) (N := ["_law_deed_here", "_law_number"]) (ds := d__law_image) D sc__law_image len__law_image (fun _ _ _ _ _ _ us hl => match us, hl with | [_, _], _ => rfl) (fun X W f cdv A outer s H E eX eW tk po hr hu nd => ⟨_, (dss_cons (ds_if (dt_cmp (op_eqA hu) sr_eq (de_ix ix_S sr_ix (de_var 0) de_int (fun _ _ => rfl)) de_str (nomark _))
      (dss_one (ds_ret (de_add (de_var 1) (de_ix ix_S sr_ix (de_var 0) de_int (fun _ _ => rfl)))))
      dss_nil)
      (dss_cons (ds_if (dt_cmp (op_eqA hu) sr_eq (de_ix ix_S sr_ix (de_var 0) de_int (fun _ _ => rfl)) de_str (nomark _))
      (dss_one (ds_ret (de_mul (de_var 1) (de_ix ix_S sr_ix (de_var 0) de_int (fun _ _ => rfl)))))
      dss_nil)
      (dss_cons (ds_if (dt_cmp (op_eqA hu) sr_eq (de_ix ix_S sr_ix (de_var 0) de_int (fun _ _ => rfl)) de_str (nomark _))
      (dss_one (ds_ret (de_fdiv (de_var 1) (de_ix ix_S sr_ix (de_var 0) de_int (fun _ _ => rfl)))))
      dss_nil)
      (dss_cons (ds_if (dt_w (dw_or (dt_cmp (op_eqA hu) sr_eq (de_ix ix_S sr_ix (de_var 0) de_int (fun _ _ => rfl)) de_str (nomark _)) (dw_or1 (dt_cmp (op_eqA hu) sr_eq (de_ix ix_S sr_ix (de_var 0) de_int (fun _ _ => rfl)) de_str (nomark _)))))
      (dss_cons (ds_if (dt_cmp op_lt sr_I0 (de_var 1) (de_ix ix_S sr_ix (de_var 0) de_int (fun _ _ => rfl)) (nomark _))
      (dss_one (ds_ret (de_ix ix_S sr_ix (de_var 0) de_int (fun _ _ => rfl))))
      dss_nil)
      (dss_one (ds_if (dt_cmp op_gt sr_I0 (de_var 1) (de_ix ix_S sr_ix (de_var 0) de_int (fun _ _ => rfl)) (nomark _))
      (dss_one (ds_ret (de_ix ix_S sr_ix (de_var 0) de_int (fun _ _ => rfl))))
      dss_nil)))
      dss_nil)
      (dss_one (ds_retv 1))))))⟩) pure__law_image
theorem sc__law_result : FnScope ["_law_deeds", "_law_number", "_law_deed_here"] ["_law_deeds", "_law_number"] (defScope (top 51)) := ⟨rfl, rfl, rfl, by decide +kernel, rfl, by decide +kernel, by decide +kernel⟩
theorem fk__law_result (D : DefAt K mg "_law_result" (top 51)) (bi : Bi mg) (c__law_image : Fnk P w K mg base "_law_image" 1 ["_law_deed_here", "_law_number"] [] [] sd__law_image) : Fnk P w K mg base "_law_result" 2 ["_law_deeds", "_law_number"] [] [] sd__law_result :=
  fnk_by (k := 1) (N := ["_law_deeds", "_law_number", "_law_deed_here"]) (ds := d__law_result) D sc__law_result len__law_result (fun _ _ _ _ _ _ us hl => match us, hl with | [_, _], _ => rfl) (fun X W f cdv A outer s H E eX eW tk po hr hu nd => ⟨_, (dss_cons (ds_for po rfl (di_seq (de_var 0)) (dg_name 2 nd)
      (dss_one (ds_asg (de_callF c__law_image tk (hr.mono (by decide)) (by rfl) (da_cons (de_var 2) (da_cons (de_var 1) da_nil))) (dg_name 1 nd))))
      (dss_one (ds_retv 1)))⟩) pure__law_result
theorem sc__law_linked : FnScope ["_law_steps", "_law_count"] ["_law_steps"] (defScope (top 52)) := ⟨rfl, rfl, rfl, by decide +kernel, rfl, by decide +kernel, by decide +kernel⟩
theorem fk__law_linked {kl : Kl} (D : DefAt K mg "_law_linked" (top 52)) (bi : Bi mg) (cf : Cf K mg kl) (kr_Chain : MakeOkR P w K mg base 3 "Chain" (kl).Chain (sdStar 0 (sd_Chain___init__ kl))) : Fnk P w K mg base "_law_linked" 5 ["_law_steps"] [] [] (sd__law_linked kl) :=
  fnk_by (k := 4) (N := ["_law_steps", "_law_count"]) (ds := d__law_linked kl) D sc__law_linked (len__law_linked kl) (fun _ _ _ _ _ _ us hl => match us, hl with | [_], _ => rfl) (fun X W f cdv A outer s H E eX eW tk po hr hu nd => ⟨_, (dss_cons (ds_asg (de_cb call_lenA sc_len (by rfl) bi.len (by decide +kernel) (da_cons (de_var 0) da_nil)) (dg_name 1 nd))
      (dss_cons (ds_if (dt_cmp (op_eqA hu) sr_eq (de_var 1) de_int (nomark _))
      (dss_one (ds_ret (de_makeR0 kr_Chain tk (hr.mono (by decide)) (by rfl))))
      dss_nil)
      (dss_cons (ds_if (dt_cmp (op_eqA hu) sr_eq (de_var 1) de_int (nomark _))
      (dss_one (ds_ret (de_makeR kr_Chain tk (hr.mono (by decide)) (by rfl) (da_cons (de_ix ix_S sr_ix (de_var 0) de_int (fun _ _ => rfl)) da_nil))))
      dss_nil)
      (dss_cons (ds_if (dt_cmp (op_eqA hu) sr_eq (de_var 1) de_int (nomark _))
      (dss_one (ds_ret (de_makeR kr_Chain tk (hr.mono (by decide)) (by rfl) (da_cons (de_ix ix_S sr_ix (de_var 0) de_int (fun _ _ => rfl)) (da_cons (de_ix ix_S sr_ix (de_var 0) de_int (fun _ _ => rfl)) da_nil)))))
      dss_nil)
      (dss_cons (ds_if (dt_cmp (op_eqA hu) sr_eq (de_var 1) de_int (nomark _))
      (dss_one (ds_ret (de_makeR kr_Chain tk (hr.mono (by decide)) (by rfl) (da_cons (de_ix ix_S sr_ix (de_var 0) de_int (fun _ _ => rfl)) (da_cons (de_ix ix_S sr_ix (de_var 0) de_int (fun _ _ => rfl)) (da_cons (de_ix ix_S sr_ix (de_var 0) de_int (fun _ _ => rfl)) da_nil))))))
      dss_nil)
      (dss_cons (ds_if (dt_cmp (op_eqA hu) sr_eq (de_var 1) de_int (nomark _))
      (dss_one (ds_ret (de_makeR kr_Chain tk (hr.mono (by decide)) (by rfl) (da_cons (de_ix ix_S sr_ix (de_var 0) de_int (fun _ _ => rfl)) (da_cons (de_ix ix_S sr_ix (de_var 0) de_int (fun _ _ => rfl)) (da_cons (de_ix ix_S sr_ix (de_var 0) de_int (fun _ _ => rfl)) (da_cons (de_ix ix_S sr_ix (de_var 0) de_int (fun _ _ => rfl)) da_nil)))))))
      dss_nil)
      (dss_cons (ds_if (dt_cmp (op_eqA hu) sr_eq (de_var 1) de_int (nomark _))
      (dss_one (ds_ret (de_makeR kr_Chain tk (hr.mono (by decide)) (by rfl) (da_cons (de_ix ix_S sr_ix (de_var 0) de_int (fun _ _ => rfl)) (da_cons (de_ix ix_S sr_ix (de_var 0) de_int (fun _ _ => rfl)) (da_cons (de_ix ix_S sr_ix (de_var 0) de_int (fun _ _ => rfl)) (da_cons (de_ix ix_S sr_ix (de_var 0) de_int (fun _ _ => rfl)) (da_cons (de_ix ix_S sr_ix (de_var 0) de_int (fun _ _ => rfl)) da_nil))))))))
      dss_nil)
      (dss_cons (ds_if (dt_cmp (op_eqA hu) sr_eq (de_var 1) de_int (nomark _))
      (dss_one (ds_ret (de_makeR kr_Chain tk (hr.mono (by decide)) (by rfl) (da_cons (de_ix ix_S sr_ix (de_var 0) de_int (fun _ _ => rfl)) (da_cons (de_ix ix_S sr_ix (de_var 0) de_int (fun _ _ => rfl)) (da_cons (de_ix ix_S sr_ix (de_var 0) de_int (fun _ _ => rfl)) (da_cons (de_ix ix_S sr_ix (de_var 0) de_int (fun _ _ => rfl)) (da_cons (de_ix ix_S sr_ix (de_var 0) de_int (fun _ _ => rfl)) (da_cons (de_ix ix_S sr_ix (de_var 0) de_int (fun _ _ => rfl)) da_nil)))))))))
      dss_nil)
      (dss_one (ds_ret (de_makeR kr_Chain tk (hr.mono (by decide)) (by rfl) (da_cons (de_ix ix_S sr_ix (de_var 0) de_int (fun _ _ => rfl)) (da_cons (de_ix ix_S sr_ix (de_var 0) de_int (fun _ _ => rfl)) (da_cons (de_ix ix_S sr_ix (de_var 0) de_int (fun _ _ => rfl)) (da_cons (de_ix ix_S sr_ix (de_var 0) de_int (fun _ _ => rfl)) (da_cons (de_ix ix_S sr_ix (de_var 0) de_int (fun _ _ => rfl)) (da_cons (de_ix ix_S sr_ix (de_var 0) de_int (fun _ _ => rfl)) (da_cons (de_ix ix_S sr_ix (de_var 0) de_int (fun _ _ => rfl)) da_nil))))))))))))))))))⟩) (pure__law_linked kl)
theorem sc__law_has : FnScope ["_law_rows", "_law_number", "_law_low", "_law_high"] ["_law_rows", "_law_number"] (defScope (top 53)) := ⟨rfl, rfl, rfl, by decide +kernel, rfl, by decide +kernel, by decide +kernel⟩
theorem fk__law_has (D : DefAt K mg "_law_has" (top 53)) (bi : Bi mg) : Fnk P w K mg base "_law_has" 1 ["_law_rows", "_law_number"] [] [] sd__law_has :=
  fnk_by (k := 0) (N := ["_law_rows", "_law_number", "_law_low", "_law_high"]) (ds := d__law_has) D sc__law_has len__law_has (fun _ _ _ _ _ _ us hl => match us, hl with | [_, _], _ => rfl) (fun X W f cdv A outer s H E eX eW tk po hr hu nd => ⟨_, (dss_cons (ds_for po rfl (di_seq (de_var 0)) (dg_sq rfl (dgs_cons (dg_name 2 nd) (dgs_cons (dg_name 3 nd) dgs_nil)))
      (dss_one (ds_if (dt_w (dw_and (dt_cmp op_le sr_I0 (de_var 2) (de_var 1) (nomark _)) (dw_and1 (dt_cmp op_le sr_I0 (de_var 1) (de_var 3) (nomark _)))))
      (dss_one (ds_ret de_bl))
      dss_nil)))
      (dss_one (ds_ret de_bl)))⟩) pure__law_has
theorem sc__law_around : FnScope ["_law_draws_here", "_law_deeds", "_law_places", "_law_rows", "_law_k", "_law_image_here", "_law_low", "_law_high"] ["_law_draws_here", "_law_deeds", "_law_places"] (defScope (top 54)) := ⟨rfl, rfl, rfl, by decide +kernel, rfl, by decide +kernel, by decide +kernel⟩
theorem fk__law_around (D : DefAt K mg "_law_around" (top 54)) (bi : Bi mg) (c__law_next : Fnk P w K mg base "_law_next" 1 ["_law_draws_here", "_law_many"] [] [] sd__law_next) (c__law_result : Fnk P w K mg base "_law_result" 2 ["_law_deeds", "_law_number"] [] [] sd__law_result) (c__law_amount : Fnk P w K mg base "_law_amount" 2 ["_law_draws_here", "_law_low", "_law_high"] [] [] sd__law_amount) : Fnk P w K mg base "_law_around" 3 ["_law_draws_here", "_law_deeds", "_law_places"] [] [] sd__law_around :=
  fnk_by (k := 2) (N := ["_law_draws_here", "_law_deeds", "_law_places", "_law_rows", "_law_k", "_law_image_here", "_law_low", "_law_high"]) (ds := d__law_around) D sc__law_around len__law_around (fun _ _ _ _ _ _ us hl => match us, hl with | [_, _, _], _ => rfl) (fun X W f cdv A outer s H E eX eW tk po hr hu nd => ⟨_, (dss_cons (ds_own 3 nd da_nil)
      (dss_cons (ds_for po rfl (di_range1 (by rfl) bi.range (da_cons (de_mod (de_add (de_callF c__law_next tk (hr.mono (by decide)) (by rfl) (da_cons (de_var 0) (da_cons de_int da_nil))) de_int) de_int) da_nil)) (dg_name 4 nd)
      (dss_cons (ds_asg (de_callF c__law_result tk (hr.mono (by decide)) (by rfl) (da_cons (de_var 1) (da_cons (de_ix ix_S sr_ix (de_var 2) (de_mod (de_ct call_int1 sc_int1 (by rfl) bi.int (by decide +kernel) (da_cons (de_var 4) da_nil)) (de_cb call_lenA sc_len (by rfl) bi.len (by decide +kernel) (da_cons (de_var 2) da_nil))) (fun _ _ => rfl)) da_nil))) (dg_name 5 nd))
      (dss_cons (ds_asg (de_callF c__law_amount tk (hr.mono (by decide)) (by rfl) (da_cons (de_var 0) (da_cons (de_neg (de_pow de_int de_int)) (da_cons (de_pow de_int de_int) da_nil)))) (dg_name 6 nd))
      (dss_cons (ds_asg (de_callF c__law_amount tk (hr.mono (by decide)) (by rfl) (da_cons (de_var 0) (da_cons (de_var 6) (da_cons (de_pow de_int de_int) da_nil)))) (dg_name 7 nd))
      (dss_cons (ds_if (dt_w (dw_and (dt_cmp (op_neA hu) sr_ne (de_callF c__law_next tk (hr.mono (by decide)) (by rfl) (da_cons (de_var 0) (da_cons de_int da_nil))) de_int (nomark _)) (dw_and1 (dt_cmp op_le sr_I0 (de_cb call_abs sc_abs (by rfl) bi.abs (by decide +kernel) (da_cons (de_var 5) da_nil)) (de_pow de_int de_int) (nomark _)))))
      (dss_cons (ds_asg (de_cb (call_max2 rfl) sc_max2 (by rfl) bi.max (by decide +kernel) (da_cons (de_neg (de_pow de_int de_int)) (da_cons (de_sub (de_var 5) (de_callF c__law_next tk (hr.mono (by decide)) (by rfl) (da_cons (de_var 0) (da_cons de_int da_nil)))) da_nil))) (dg_name 6 nd))
      (dss_one (ds_asg (de_cb (call_min2 rfl) sc_min2 (by rfl) bi.min (by decide +kernel) (da_cons (de_pow de_int de_int) (da_cons (de_cb (call_max2 rfl) sc_max2 (by rfl) bi.max (by decide +kernel) (da_cons (de_var 6) (da_cons (de_sub (de_add (de_var 5) (de_callF c__law_next tk (hr.mono (by decide)) (by rfl) (da_cons (de_var 0) (da_cons de_int da_nil)))) de_int) da_nil))) da_nil))) (dg_name 7 nd))))
      dss_nil)
      (dss_one (ds_app 3 (de_tup (da_cons (de_var 6) (da_cons (de_var 7) da_nil))))))))))
      (dss_one (ds_retv 3))))⟩) pure__law_around
theorem sc__law_word : FnScope ["_law_draws_here", "_law_letters", "_law_many", "_law_number", "_law_word_here", "_law_k"] ["_law_draws_here"] (defScope (top 55)) := ⟨rfl, rfl, rfl, by decide +kernel, rfl, by decide +kernel, by decide +kernel⟩
theorem fk__law_word (D : DefAt K mg "_law_word" (top 55)) (bi : Bi mg) (c__law_next : Fnk P w K mg base "_law_next" 1 ["_law_draws_here", "_law_many"] [] [] sd__law_next) : Fnk P w K mg base "_law_word" 2 ["_law_draws_here"] [] [] sd__law_word :=
  fnk_by (k := 1) (N := ["_law_draws_here", "_law_letters", "_law_many", "_law_number", "_law_word_here", "_law_k"]) (ds := d__law_word) D sc__law_word len__law_word (fun _ _ _ _ _ _ us hl => match us, hl with | [_], _ => rfl) (fun X W f cdv A outer s H E eX eW tk po hr hu nd => ⟨_, (dss_cons (ds_asg de_str (dg_name 1 nd))
      (dss_cons (ds_asg (de_ix ix_S sr_ix (de_lst (da_cons de_int (da_cons de_int (da_cons de_int (da_cons (de_add de_int (de_callF c__law_next tk (hr.mono (by decide)) (by rfl) (da_cons (de_var 0) (da_cons de_int da_nil)))) da_nil))))) (de_callF c__law_next tk (hr.mono (by decide)) (by rfl) (da_cons (de_var 0) (da_cons de_int da_nil))) (fun _ _ => rfl)) (dg_name 2 nd))
      (dss_cons (ds_asg (de_callF c__law_next tk (hr.mono (by decide)) (by rfl) (da_cons (de_var 0) (da_cons (de_pow de_int de_int) da_nil))) (dg_name 3 nd))
      (dss_cons (ds_asg de_str (dg_name 4 nd))
      (dss_cons (ds_for po rfl (di_range1 (by rfl) bi.range (da_cons (de_var 2) da_nil)) (dg_name 5 nd)
      (dss_cons (ds_if (dt_cmp (op_eqA hu) sr_eq (de_var 5) de_int (nomark _))
      (dss_one (ds_asg (de_callF c__law_next tk (hr.mono (by decide)) (by rfl) (da_cons (de_var 0) (da_cons (de_pow de_int de_int) da_nil))) (dg_name 3 nd)))
      dss_nil)
      (dss_cons (ds_asg (de_add (de_var 4) (de_ix ix_S3 sr_ixS (de_var 1) (de_mod (de_ct call_int1 sc_int1 (by rfl) bi.int (by decide +kernel) (da_cons (de_var 3) da_nil)) de_int) (fun _ _ => rfl))) (dg_name 4 nd))
      (dss_one (ds_asg (de_fdiv (de_var 3) de_int) (dg_name 3 nd))))))
      (dss_cons (ds_if (dt_cmp (op_eqA hu) sr_eq (de_var 4) de_str (nomark _))
      (dss_one (ds_ret de_str))
      dss_nil)
      (dss_one (ds_retv 4))))))))⟩) pure__law_word
theorem sc__law_lacks : FnScope ["_law_condition", "_law_key", "_law_values", "_law_told", "e"] ["_law_condition", "_law_key", "_law_values"] (defScope (top 56)) := ⟨rfl, rfl, rfl, by decide +kernel, rfl, by decide +kernel, by decide +kernel⟩
theorem fk__law_lacks {kl : Kl} (D : DefAt K mg "_law_lacks" (top 56)) (bi : Bi mg) (cf : Cf K mg kl) (m_holds : TblOk P w K mg base 5 "holds" (tb_holds kl)) : Fnk P w K mg base "_law_lacks" 6 ["_law_condition", "_law_key", "_law_values"] [] [] (sd__law_lacks kl) :=
  fnk_by (k := 5) (N := ["_law_condition", "_law_key", "_law_values", "_law_told", "e"]) (ds := d__law_lacks kl) D sc__law_lacks (len__law_lacks kl) (fun _ _ _ _ _ _ us hl => match us, hl with | [_, _, _], _ => rfl) (fun X W f cdv A outer s H E eX eW tk po hr hu nd => ⟨_, (dss_cons (ds_asg (de_lst da_nil) (dg_name 3 nd))
      (dss_cons (ds_try nd tk (fun W' pn xe tk po => (dss_one (ds_asg (de_lst (da_cons (de_meth m_holds tk (hr.mono (by decide)) (de_var 0) (da_cons (de_var 1) (da_cons (de_var 2) da_nil))) da_nil)) (dg_name 3 nd))))
      (dck_named (i := 4) cf.exm_UnknownName (by rfl) cf.g_UnknownName (fun a oe cls d pn hz hf => (dss_one (ds_asg (de_lst (da_cons (de_xf cf.xf_UnknownName cf.no_UnknownName_name hz hf (de_var 4)) (da_cons (de_and (de_cb (call_isX hz hf) (sc_isX cf.isx_ReadError) (by rfl) bi.isinstance (by decide +kernel) (da_cons (de_var 4) (da_cons (de_clsn (by rfl) cf.g_ReadError) da_nil))) (de_oneA (de_cb (call_isX hz hf) (sc_isX cf.isx_ValueError) (by rfl) bi.isinstance (by decide +kernel) (da_cons (de_var 4) (da_cons (de_tyn (by rfl) bi.ValueError (by decide +kernel)) da_nil))))) (da_cons (de_cb (call_isX hz hf) (sc_isX cf.isx_BadName) (by rfl) bi.isinstance (by decide +kernel) (da_cons (de_var 4) (da_cons (de_clsn (by rfl) cf.g_BadName) da_nil))) da_nil)))) (dg_name 3 nd)))) (dck_bare cf.exm_ReadError (by rfl) cf.g_ReadError (fun a oe cls d pn hz hf => (dss_one (ds_asg (de_lst da_nil) (dg_name 3 nd)))) dck_nil)))
      (dss_one (ds_retv 3))))⟩) (pure__law_lacks kl)
theorem sc__law_holds_as : FnScope ["_law_condition", "_law_key", "_law_values", "_law_due", "_law_told"] ["_law_condition", "_law_key", "_law_values", "_law_due"] (defScope (top 57)) := ⟨rfl, rfl, rfl, by decide +kernel, rfl, by decide +kernel, by decide +kernel⟩
theorem fk__law_holds_as {kl : Kl} (D : DefAt K mg "_law_holds_as" (top 57)) (bi : Bi mg) (c__law_lacks : Fnk P w K mg base "_law_lacks" 6 ["_law_condition", "_law_key", "_law_values"] [] [] (sd__law_lacks kl)) (cf : Cf K mg kl) : Fnk P w K mg base "_law_holds_as" 7 ["_law_condition", "_law_key", "_law_values", "_law_due"] [] [] (sd__law_holds_as kl) :=
  fnk_by (k := 6) (N := ["_law_condition", "_law_key", "_law_values", "_law_due", "_law_told"]) (ds := d__law_holds_as kl) D sc__law_holds_as (len__law_holds_as kl) (fun _ _ _ _ _ _ us hl => match us, hl with | [_, _, _, _], _ => rfl) (fun X W f cdv A outer s H E eX eW tk po hr hu nd => ⟨_, (dss_cons (ds_asg (de_callF c__law_lacks tk (hr.mono (by decide)) (by rfl) (da_cons (de_var 0) (da_cons (de_var 1) (da_cons (de_var 2) da_nil)))) (dg_name 4 nd))
      (dss_one (ds_ret (de_and (de_cmp (op_eqA hu) sr_eq (de_cb call_lenA sc_len (by rfl) bi.len (by decide +kernel) (da_cons (de_var 4) da_nil)) de_int (nomark _)) (de_and (de_cb call_isi (sc_isi .bool) (by rfl) bi.isinstance (by decide +kernel) (da_cons (de_ix ix_S sr_ix (de_var 4) de_int (fun _ _ => rfl)) (da_cons (de_tyn (by rfl) bi.bool (by decide +kernel)) da_nil))) (de_oneA (de_cmp (op_eqA hu) sr_eq (de_ix ix_S sr_ix (de_var 4) de_int (fun _ _ => rfl)) (de_var 3) (nomark _))))))))⟩) (pure__law_holds_as kl)
theorem sc__law_shape : FnScope ["_law_condition", "_law_names"] ["_law_condition", "_law_names"] (defScope (top 58)) := ⟨rfl, rfl, rfl, by decide +kernel, rfl, by decide +kernel, by decide +kernel⟩
theorem fk__law_shape {kl : Kl} (D : DefAt K mg "_law_shape" (top 58)) (bi : Bi mg) (cf : Cf K mg kl) (m_truth : TblOk P w K mg base 2 "truth" (tb_truth kl)) (pt_names : PrTb P w K mg base 2 "names" (tp_names kl)) (pt_depth : PrTb P w K mg base 1 "depth" (tp_depth kl)) (pt_tests : PrTb P w K mg base 2 "tests" (tp_tests kl)) : Fnk P w K mg base "_law_shape" 4 ["_law_condition", "_law_names"] [] [] (sd__law_shape kl) :=
  fnk_by (k := 3) (N := ["_law_condition", "_law_names"]) (ds := d__law_shape kl) D sc__law_shape (len__law_shape kl) (fun _ _ _ _ _ _ us hl => match us, hl with | [_, _], _ => rfl) (fun X W f cdv A outer s H E eX eW tk po hr hu nd => ⟨_, (dss_cons (ds_if (dt_w (dw_or (dt_not (dt_tru (de_cb call_isi (sc_isO cf.is_Condition) (by rfl) bi.isinstance (by decide +kernel) (da_cons (de_var 0) (da_cons (de_clsn (by rfl) cf.g_Condition) da_nil))))) (dw_or (dt_cmp (op_neA hu) sr_ne (de_prT pt_names (hr.mono (by decide)) (de_var 0)) (de_var 1) (nomark _)) (dw_or1 (dt_not (dt_tru (de_cb call_isi (sc_isi .tuple) (by rfl) bi.isinstance (by decide +kernel) (da_cons (de_prT pt_names (hr.mono (by decide)) (de_var 0)) (da_cons (de_tyn (by rfl) bi.tuple (by decide +kernel)) da_nil)))))))))
      (dss_one (ds_ret de_bl))
      dss_nil)
      (dss_cons (ds_if (dt_w (dw_or (dt_not (dt_tru (de_cb call_isi (sc_isi .tuple) (by rfl) bi.isinstance (by decide +kernel) (da_cons (de_prT pt_tests (hr.mono (by decide)) (de_var 0)) (da_cons (de_tyn (by rfl) bi.tuple (by decide +kernel)) da_nil))))) (dw_or (dt_cmp (op_neA hu) sr_ne (de_cb call_lenA sc_len (by rfl) bi.len (by decide +kernel) (da_cons (de_prT pt_tests (hr.mono (by decide)) (de_var 0)) da_nil)) de_int (nomark _)) (dw_or1 (dt_cmp (op_neA hu) sr_ne (de_prT pt_depth (hr.mono (by decide)) (de_var 0)) de_int (nomark _))))))
      (dss_one (ds_ret de_bl))
      dss_nil)
      (dss_cons (ds_if (dt_w (dw_or (dt_cmp (op_neA hu) sr_ne (de_cb call_isi (sc_isO cf.is_Test) (by rfl) bi.isinstance (by decide +kernel) (da_cons (de_ix ix_S sr_ix (de_prT pt_tests (hr.mono (by decide)) (de_var 0)) de_int (fun _ _ => rfl)) (da_cons (de_clsn (by rfl) cf.g_Test) da_nil))) (de_cmp (op_neA hu) sr_ne (de_var 1) (de_tup da_nil) (nomark _)) (nomark _)) (dw_or1 (dt_cmp (op_neA hu) sr_ne (de_cb call_isi (sc_isO cf.is_KeyTest) (by rfl) bi.isinstance (by decide +kernel) (da_cons (de_ix ix_S sr_ix (de_prT pt_tests (hr.mono (by decide)) (de_var 0)) de_int (fun _ _ => rfl)) (da_cons (de_clsn (by rfl) cf.g_KeyTest) da_nil))) (de_cmp (op_eqA hu) sr_eq (de_var 1) (de_tup da_nil) (nomark _)) (nomark _)))))
      (dss_one (ds_ret de_bl))
      dss_nil)
      (dss_one (ds_ret (de_and (de_cmp L2.op_isBl sr_isB (de_meth m_truth tk (hr.mono (by decide)) (de_var 0) (da_cons (de_lst (da_cons de_bl da_nil)) da_nil)) de_bl (nomark _)) (de_oneA (de_cmp L2.op_isBl sr_isB (de_meth m_truth tk (hr.mono (by decide)) (de_var 0) (da_cons (de_lst (da_cons de_bl da_nil)) da_nil)) de_bl (nomark _)))))))))⟩) (pure__law_shape kl)
theorem sc_law : FnScope ["_law_script", "_law_draws_here", "_law_places", "_law_deeds", "_law_rows", "_law_name", "_law_numbers", "_law_chain", "_law_kind", "_law_test", "_law_keyed", "_law_other", "_law_place", "_law_due", "_law_key", "_law_values", "_law_k", "_law_deed_here"] ["_law_script"] (defScope (top 59)) := ⟨rfl, rfl, rfl, by decide +kernel, rfl, by decide +kernel, by decide +kernel⟩
theorem ok_law {kl : Kl} {f : Addr} {fd : FuncData} (F : FunD K "law" "law" (defArgs (top 59)) (defBody (top 59)) (defScope (top 59)) [] [] f fd) (bi : Bi mg) (dk : Drk P w K mg base) (c__law_amount : Fnk P w K mg base "_law_amount" 2 ["_law_draws_here", "_law_low", "_law_high"] [] [] sd__law_amount) (c__law_next : Fnk P w K mg base "_law_next" 1 ["_law_draws_here", "_law_many"] [] [] sd__law_next) (c__law_deed : Fnk P w K mg base "_law_deed" 3 ["_law_draws_here", "_law_kind"] [] [] sd__law_deed) (c__law_around : Fnk P w K mg base "_law_around" 3 ["_law_draws_here", "_law_deeds", "_law_places"] [] [] sd__law_around) (c__law_word : Fnk P w K mg base "_law_word" 2 ["_law_draws_here"] [] [] sd__law_word) (c__law_built : Fnk P w K mg base "_law_built" 4 ["_law_deed_here"] [] [] (sd__law_built kl)) (c__law_linked : Fnk P w K mg base "_law_linked" 5 ["_law_steps"] [] [] (sd__law_linked kl)) (c__law_shape : Fnk P w K mg base "_law_shape" 4 ["_law_condition", "_law_names"] [] [] (sd__law_shape kl)) (c__law_result : Fnk P w K mg base "_law_result" 2 ["_law_deeds", "_law_number"] [] [] sd__law_result) (c__law_has : Fnk P w K mg base "_law_has" 1 ["_law_rows", "_law_number"] [] [] sd__law_has) (c__law_holds_as : Fnk P w K mg base "_law_holds_as" 7 ["_law_condition", "_law_key", "_law_values", "_law_due"] [] [] (sd__law_holds_as kl)) (c__law_lacks : Fnk P w K mg base "_law_lacks" 6 ["_law_condition", "_law_key", "_law_values"] [] [] (sd__law_lacks kl)) (cf : Cf K mg kl) (kl_Stretches : MakeSl P w K mg base 3 "Stretches" (kl).Stretches (sd_Stretches___init__ kl)) (ko_Test : MakeOkD P w K mg base 5 "Test" (kl).Test (sd_Test___init__ kl) [V.non] [Dt.non]) (ko_KeyTest : MakeOkD P w K mg base 5 "KeyTest" (kl).KeyTest (sd_KeyTest___init__ kl) [V.non] [Dt.non]) (kn_Test_cast : MakeOkN P w K mg base 5 "Test" (kl).Test (sd_Test___init__ kl) 2 ["cast"] (fun vs zs => vs ++ ((zs.drop 0).take 1 ++ []))) (kn_KeyTest_cast : MakeOkN P w K mg base 5 "KeyTest" (kl).KeyTest (sd_KeyTest___init__ kl) 1 ["cast"] (fun vs zs => vs ++ ((zs.drop 0).take 1 ++ []))) : FnOk P w K mg base (L2.CX P w) 8 f fd ["_law_script"] (spLaw K) :=
  fn_law (k := 7) (ds := (d_law kl)) F sc_law (by decide) (fun cdv A outer s H E hr =>
    have tk := tk_cx (P := P) (w := w) (K := K) (mg := mg) (base := base) (N := ["_law_script", "_law_draws_here", "_law_places", "_law_deeds", "_law_rows", "_law_name", "_law_numbers", "_law_chain", "_law_kind", "_law_test", "_law_keyed", "_law_other", "_law_place", "_law_due", "_law_key", "_law_values", "_law_k", "_law_deed_here"]) (qual := "law") (scope := defScope (top 59)) (f := f) (cdv := cdv) (A := A) (outer := outer) (s := s) (H := H) (E := E)
    have po := po_cx (P := P) (w := w) (K := K) (mg := mg) (base := base) (N := ["_law_script", "_law_draws_here", "_law_places", "_law_deeds", "_law_rows", "_law_name", "_law_numbers", "_law_chain", "_law_kind", "_law_test", "_law_keyed", "_law_other", "_law_place", "_law_due", "_law_key", "_law_values", "_law_k", "_law_deed_here"]) (qual := "law") (scope := defScope (top 59)) (f := f) (cdv := cdv) (A := A) (outer := outer) (s := s) (H := H) (E := E)
    have hu := hr.units
    have nd := sc_law.nd
    have T : DSSX (cxOf (L2.CX P w) P w K mg base ["_law_script", "_law_draws_here", "_law_places", "_law_deeds", "_law_rows", "_law_name", "_law_numbers", "_law_chain", "_law_kind", "_law_test", "_law_keyed", "_law_other", "_law_place", "_law_due", "_law_key", "_law_values", "_law_k", "_law_deed_here"] "law" (defScope (top 59)) f cdv A outer s H E) (WX0 E) ((defBody (top 59)).drop 1) _ (d_law kl) := (dss_cons (ds_setLcN (i := 2) (own := [("_law_k", 16)]) rfl nd rfl rfl (sw_true rfl rfl rfl (by decide +kernel)) (di_range1 (by rfl) bi.range (da_cons de_int da_nil)) (blkOk_by (N := ["_law_script", "_law_draws_here", "_law_places", "_law_deeds", "_law_rows", "_law_name", "_law_numbers", "_law_chain", "_law_kind", "_law_test", "_law_keyed", "_law_other", "_law_place", "_law_due", "_law_key", "_law_values", "_law_k", "_law_deed_here"]) (sc := defScope (top 59)) (by decide +kernel)) (fun _ _ _ _ _ => (dg_name 16 nd)) (fun _ _ _ _ _ => dts_nil) (fun _ _ _ _ _ => (de_callF c__law_amount takes0 (hr.mono (by decide)) (by rfl) (da_cons (de_var 1) (da_cons (de_neg (de_pow de_int de_int)) (da_cons (de_pow de_int de_int) da_nil))))))
      (dss_cons (ds_app 2 (de_callF c__law_amount tk (hr.mono (by decide)) (by rfl) (da_cons (de_var 1) (da_cons (de_neg (de_pow de_int de_int)) (da_cons (de_pow de_int de_int) da_nil)))))
      (dss_cons (ds_setLc (i := 3) (own := [("_law_k", 16)]) rfl nd rfl rfl (sw_true rfl rfl rfl (by decide +kernel)) (di_range1 (by rfl) bi.range (da_cons (de_callF c__law_next tk (hr.mono (by decide)) (by rfl) (da_cons (de_var 1) (da_cons de_int da_nil))) da_nil)) (blkOk_by (N := ["_law_script", "_law_draws_here", "_law_places", "_law_deeds", "_law_rows", "_law_name", "_law_numbers", "_law_chain", "_law_kind", "_law_test", "_law_keyed", "_law_other", "_law_place", "_law_due", "_law_key", "_law_values", "_law_k", "_law_deed_here"]) (sc := defScope (top 59)) (by decide +kernel)) (fun _ _ _ _ _ => (dg_name 16 nd)) (fun _ _ _ _ _ => dts_nil) (fun _ _ _ _ _ => (de_callF c__law_deed takes0 (hr.mono (by decide)) (by rfl) (da_cons (de_var 1) (da_cons (de_callF c__law_next takes0 (hr.mono (by decide)) (by rfl) (da_cons (de_var 1) (da_cons de_int da_nil))) da_nil)))))
      (dss_frz 2 (dss_cons (ds_asg (de_callF c__law_around tk (hr.mono (by decide)) (by rfl) (da_cons (de_var 1) (da_cons (de_var 3) (da_cons (de_var 2) da_nil)))) (dg_name 4 nd))
      (dss_cons (ds_asg (de_callF c__law_word tk (hr.mono (by decide)) (by rfl) (da_cons (de_var 1) da_nil)) (dg_name 5 nd))
      (dss_cons (ds_asg (de_makeSl kl_Stretches tk (hr.mono (by decide)) (by rfl) (da_cons (de_ct call_listS sc_list (by rfl) bi.list (by decide +kernel) (da_cons (de_var 4) da_nil)) da_nil)) (dg_name 6 nd))
      (dss_cons (ds_asg (de_callF c__law_linked tk (hr.mono (by decide)) (by rfl) (da_cons (de_lc (own := [("_law_deed_here", 17)]) rfl nd (di_seq (de_var 3)) (blkOk_by (N := ["_law_script", "_law_draws_here", "_law_places", "_law_deeds", "_law_rows", "_law_name", "_law_numbers", "_law_chain", "_law_kind", "_law_test", "_law_keyed", "_law_other", "_law_place", "_law_due", "_law_key", "_law_values", "_law_k", "_law_deed_here"]) (sc := defScope (top 59)) (by decide +kernel)) (fun _ _ _ _ _ => (dg_name 17 nd)) (fun _ _ _ _ _ => dts_nil) (fun _ _ _ _ _ => (de_callF c__law_built takes0 (hr.mono (by decide)) (by rfl) (da_cons (de_var 17) da_nil)))) da_nil)) (dg_name 7 nd))
      (dss_cons (ds_asg (de_callF c__law_next tk (hr.mono (by decide)) (by rfl) (da_cons (de_var 1) (da_cons de_int da_nil))) (dg_name 8 nd))
      (dss_cons (ds_if (dt_w (dw_and (dt_cmp (op_eqL hu) sr_eqL (de_var 3) (de_lst da_nil) (nomark _)) (dw_and1 (dt_cmp (op_eqA hu) sr_eq (de_var 8) de_int (nomark _)))))
      (dss_cons (ds_asg (de_makeD ko_Test tk (hr.mono (by decide)) (by rfl) (da_cons (de_var 5) (da_cons (de_var 6) da_nil))) (dg_name 9 nd))
      (dss_one (ds_asg (de_makeD ko_KeyTest tk (hr.mono (by decide)) (by rfl) (da_cons (de_var 6) da_nil)) (dg_name 10 nd))))
      (dss_one (ds_if (dt_w (dw_and (dt_cmp (op_eqL hu) sr_eqL (de_var 3) (de_lst da_nil) (nomark _)) (dw_and1 (dt_cmp (op_eqA hu) sr_eq (de_var 8) de_int (nomark _)))))
      (dss_cons (ds_asg (de_makeN kn_Test_cast tk (hr.mono (by decide)) (by rfl) (da_cons (de_var 5) (da_cons (de_var 6) da_nil)) (dk_cons de_non dk_nil) (fun r s => pairs_app r (pairs_app (pairs_cut 0 s) .nil))) (dg_name 9 nd))
      (dss_one (ds_asg (de_makeN kn_KeyTest_cast tk (hr.mono (by decide)) (by rfl) (da_cons (de_var 6) da_nil) (dk_cons de_non dk_nil) (fun r s => pairs_app r (pairs_app (pairs_cut 0 s) .nil))) (dg_name 10 nd))))
      (dss_cons (ds_asg (de_makeN kn_Test_cast tk (hr.mono (by decide)) (by rfl) (da_cons (de_var 5) (da_cons (de_var 6) da_nil)) (dk_cons (de_var 7) dk_nil) (fun r s => pairs_app r (pairs_app (pairs_cut 0 s) .nil))) (dg_name 9 nd))
      (dss_one (ds_asg (de_makeN kn_KeyTest_cast tk (hr.mono (by decide)) (by rfl) (da_cons (de_var 6) da_nil) (dk_cons (de_var 7) dk_nil) (fun r s => pairs_app r (pairs_app (pairs_cut 0 s) .nil))) (dg_name 10 nd)))))))
      (dss_cons (ds_if (dt_w (dw_or (dt_not (dt_tru (de_callF c__law_shape tk (hr.mono (by decide)) (by rfl) (da_cons (de_var 9) (da_cons (de_tup (da_cons (de_var 5) da_nil)) da_nil))))) (dw_or1 (dt_not (dt_tru (de_callF c__law_shape tk (hr.mono (by decide)) (by rfl) (da_cons (de_var 10) (da_cons (de_tup da_nil) da_nil))))))))
      (dss_one (ds_ret de_bl))
      dss_nil)
      (dss_cons (ds_asg de_str (dg_name 11 nd))
      (dss_cons (ds_if (dt_cmp (op_eqA hu) sr_eq (de_var 5) de_str (nomark _))
      (dss_one (ds_asg de_str (dg_name 11 nd)))
      dss_nil)
      (dss_cons (ds_for po rfl (di_seq (de_var 2)) (dg_name 12 nd)
      (dss_cons (ds_asg (de_callF c__law_has tk (hr.mono (by decide)) (by rfl) (da_cons (de_var 4) (da_cons (de_callF c__law_result tk (hr.mono (by decide)) (by rfl) (da_cons (de_var 3) (da_cons (de_var 12) da_nil))) da_nil))) (dg_name 13 nd))
      (dss_cons (ds_for po rfl (di_seq (de_lst (da_cons de_int (da_cons (de_var 12) (da_cons (de_ix ix_S sr_ix (de_var 2) de_int (fun _ _ => rfl)) da_nil))))) (dg_name 14 nd)
      (dss_cons (ds_asg (de_dispK (dkx_cons (de_var 5) (de_var 12) (dkx_cons (de_var 11) de_int dkx_nil))) (dg_name 15 nd))
      (dss_cons (ds_if (dt_w (dw_or (dt_not (dt_tru (de_callF c__law_holds_as tk (hr.mono (by decide)) (by rfl) (da_cons (de_var 9) (da_cons (de_var 14) (da_cons (de_var 15) (da_cons (de_var 13) da_nil))))))) (dw_or1 (dt_not (dt_tru (de_callF c__law_holds_as tk (hr.mono (by decide)) (by rfl) (da_cons (de_var 9) (da_cons (de_var 14) (da_cons (de_dispK (dkx_cons (de_var 5) (de_var 12) dkx_nil)) (da_cons (de_var 13) da_nil))))))))))
      (dss_one (ds_ret de_bl))
      dss_nil)
      (dss_one (ds_if (dt_w (dw_or (dt_cmp (L2.op_ne_dictA (Nat.lt_of_le_of_lt (Nat.le_add_right _ 64) hu)) sr_neDct (de_var 15) (de_dispK (dkx_cons (de_var 5) (de_var 12) (dkx_cons (de_var 11) de_int dkx_nil))) (nomark _)) (dw_or1 (dt_cmp (op_neA hu) sr_ne (de_callF c__law_lacks tk (hr.mono (by decide)) (by rfl) (da_cons (de_var 9) (da_cons (de_var 14) (da_cons (de_dispK (dkx_cons (de_var 11) (de_var 12) dkx_nil)) da_nil)))) (de_lst (da_cons (de_var 5) (da_cons de_bl (da_cons de_bl da_nil)))) (nomark _)))))
      (dss_one (ds_ret de_bl))
      dss_nil)))))
      (dss_one (ds_if (dt_w (dw_or (dt_not (dt_tru (de_callF c__law_holds_as tk (hr.mono (by decide)) (by rfl) (da_cons (de_var 10) (da_cons (de_var 12) (da_cons de_disp0 (da_cons (de_var 13) da_nil))))))) (dw_or1 (dt_not (dt_tru (de_callF c__law_holds_as tk (hr.mono (by decide)) (by rfl) (da_cons (de_var 10) (da_cons (de_var 12) (da_cons (de_dispK (dkx_cons (de_var 5) de_int dkx_nil)) (da_cons (de_var 13) da_nil))))))))))
      (dss_one (ds_ret de_bl))
      dss_nil)))))
      (dss_one (ds_ret de_bl))))))))))))))))
    ⟨_, pss_cons (ps_draws dk tk (hr.mono (by decide)) nd) T.1, T.2⟩) (pure_law kl)
end
def df (x : Str) (st : Stmt) : He.DefD := ⟨(x, none), x, x, defArgs st, defBody st, defScope st, [], []⟩
def fns : List He.DefD := [df "_law_draws" (top 45),
  df "_law_amount" (top 47),
  df "_law_next" (top 46),
  df "_law_deed" (top 48),
  df "_law_around" (top 54),
  df "_law_result" (top 51),
  df "_law_image" (top 50),
  df "_law_word" (top 55),
  df "_law_built" (top 49),
  ⟨("Shift", some "__init__"), "__init__", "Shift.__init__", defArgs (inClass (top 39) 0), defBody (inClass (top 39) 0), defScope (inClass (top 39) 0), [], []⟩,
  ⟨("Scale", some "__init__"), "__init__", "Scale.__init__", defArgs (inClass (top 40) 0), defBody (inClass (top 40) 0), defScope (inClass (top 40) 0), [], []⟩,
  ⟨("Floor", some "__init__"), "__init__", "Floor.__init__", defArgs (inClass (top 41) 0), defBody (inClass (top 41) 0), defScope (inClass (top 41) 0), [], []⟩,
  ⟨("Clip", some "__init__"), "__init__", "Clip.__init__", defArgs (inClass (top 42) 0), defBody (inClass (top 42) 0), defScope (inClass (top 42) 0), [], []⟩,
  df "_law_linked" (top 52),
  ⟨("Chain", some "__init__"), "__init__", "Chain.__init__", defArgs (inClass (top 21) 1), defBody (inClass (top 21) 1), defScope (inClass (top 21) 1), [], []⟩,
  df "_law_shape" (top 58),
  ⟨("Condition", some "truth"), "truth", "Condition.truth", defArgs (inClass (top 30) 6), defBody (inClass (top 30) 6), defScope (inClass (top 30) 6), [], []⟩,
  ⟨("Test", some "judge"), "judge", "Test.judge", defArgs (inClass (top 31) 4), defBody (inClass (top 31) 4), defScope (inClass (top 31) 4), [], []⟩,
  ⟨("KeyTest", some "judge"), "judge", "KeyTest.judge", defArgs (inClass (top 32) 4), defBody (inClass (top 32) 4), defScope (inClass (top 32) 4), [], []⟩,
  ⟨("Test", some "gather"), "gather", "Test.gather", defArgs (inClass (top 31) 2), defBody (inClass (top 31) 2), defScope (inClass (top 31) 2), [], []⟩,
  ⟨("KeyTest", some "gather"), "gather", "KeyTest.gather", defArgs (inClass (top 32) 2), defBody (inClass (top 32) 2), defScope (inClass (top 32) 2), [], []⟩,
  df "_law_has" (top 53),
  df "_law_holds_as" (top 57),
  df "_law_lacks" (top 56),
  ⟨("Condition", some "holds"), "holds", "Condition.holds", defArgs (inClass (top 30) 5), defBody (inClass (top 30) 5), defScope (inClass (top 30) 5), [], []⟩,
  ⟨("Test", some "passes"), "passes", "Test.passes", defArgs (inClass (top 31) 3), defBody (inClass (top 31) 3), defScope (inClass (top 31) 3), [], []⟩,
  ⟨("Stretches", some "__contains__"), "__contains__", "Stretches.__contains__", defArgs (inClass (top 18) 7), defBody (inClass (top 18) 7), defScope (inClass (top 18) 7), [], []⟩,
  ⟨("Chain", some "__call__"), "__call__", "Chain.__call__", defArgs (inClass (top 21) 2), defBody (inClass (top 21) 2), defScope (inClass (top 21) 2), [], []⟩,
  ⟨("Step", some "image"), "image", "Step.image", defArgs (inClass (top 38) 0), defBody (inClass (top 38) 0), defScope (inClass (top 38) 0), [], []⟩,
  ⟨("Shift", some "image"), "image", "Shift.image", defArgs (inClass (top 39) 1), defBody (inClass (top 39) 1), defScope (inClass (top 39) 1), [], []⟩,
  ⟨("Scale", some "image"), "image", "Scale.image", defArgs (inClass (top 40) 1), defBody (inClass (top 40) 1), defScope (inClass (top 40) 1), [], []⟩,
  ⟨("Floor", some "image"), "image", "Floor.image", defArgs (inClass (top 41) 1), defBody (inClass (top 41) 1), defScope (inClass (top 41) 1), [], []⟩,
  ⟨("Clip", some "image"), "image", "Clip.image", defArgs (inClass (top 42) 1), defBody (inClass (top 42) 1), defScope (inClass (top 42) 1), [], []⟩,
  ⟨("KeyTest", some "passes"), "passes", "KeyTest.passes", defArgs (inClass (top 32) 3), defBody (inClass (top 32) 3), defScope (inClass (top 32) 3), [], []⟩,
  ⟨("Stretches", some "__init__"), "__init__", "Stretches.__init__", defArgs (inClass (top 18) 2), defBody (inClass (top 18) 2), defScope (inClass (top 18) 2), [.adr (He.dflAt ("Stretches", some "__init__") 0)], []⟩,
  df "joined" (top 12),
  ⟨("Test", some "__init__"), "__init__", "Test.__init__", defArgs (inClass (top 31) 0), defBody (inClass (top 31) 0), defScope (inClass (top 31) 0), [], [("cast", .non)]⟩,
  df "is_name" (top 27),
  df "check_numbers" (top 28),
  ⟨("Stretches", some "__len__"), "__len__", "Stretches.__len__", defArgs (inClass (top 18) 6), defBody (inClass (top 18) 6), defScope (inClass (top 18) 6), [], []⟩,
  ⟨("KeyTest", some "__init__"), "__init__", "KeyTest.__init__", defArgs (inClass (top 32) 0), defBody (inClass (top 32) 0), defScope (inClass (top 32) 0), [], [("cast", .non)]⟩,
  df "law" (top 59)]
def fas : List He.Fa := [.free "int", .free "len", .free "min", .free "range", .free "abs", .free "sorted", .free "max", .free "tuple", .free "str", .free "isinstance", .free "sum", .free "ValueError", .free "bool", .free "list", .int "LIMIT_stretches" 1000000000000000000, .str "DIGITS" (PySem.Str.ofString "0123456789"), .int "MOST_STEPS" 6, .str "LETTERS" (PySem.Str.ofString "abcdefghijklmnopqrstuvwxyz"), .int "MOST_STRETCHES" 4, .int "MOST_TESTS" 6, .int "MOST_DEPTH" 10, .int "MOST_FACTOR" 1000000, .glo "_law_draws", .glo "_law_amount", .glo "_law_next", .glo "_law_deed", .glo "_law_around", .glo "_law_result", .glo "_law_image", .glo "_law_word", .glo "_law_built", .glo "ReadError", .glo "BadStretch", .glo "BadText", .glo "BadStep", .glo "BadName", .glo "UnknownName", .glo "TooMany", .glo "Stretches", .glo "Chain", .glo "Condition", .glo "Test", .glo "KeyTest", .glo "Both", .glo "Either", .glo "Not", .glo "Step", .glo "Shift", .glo "Scale", .glo "Floor", .glo "Clip", .glo "Sign", .cls "Chain", .noat "Chain" "steps", .cls "Not", .noat "Not" "many", .cls "Either", .noat "Either" "many", .cls "Both", .noat "Both" "many", .cls "KeyTest", .noat "KeyTest" "many", .cls "Test", .noat "Test" "many", .noat "Not" "level", .noat "Either" "level", .noat "Both" "level", .noat "KeyTest" "level", .noat "Test" "level", .noat "Test" "name", .noat "KeyTest" "numbers", .noat "Test" "numbers", .noat "KeyTest" "cast", .noat "Test" "cast", .noat "Either" "parts", .noat "Both" "parts", .noat "Not" "part", .cls "Shift", .noat "Shift" "by", .cls "Scale", .noat "Scale" "factor", .cls "Floor", .noat "Floor" "divisor", .cls "Sign", .noat "Sign" "low", .cls "Clip", .noat "Clip" "low", .noat "Sign" "high", .noat "Clip" "high", .cls "Step", .cls "Condition", .mkr "Shift", .mkr "Scale", .mkr "Floor", .mkr "Clip", .mkr "Sign", .glo "_law_linked", .mkr "Chain", .glo "_law_shape", .meth "Test" "truth", .meth "Test" "judge", .meth "KeyTest" "judge", .meth "KeyTest" "truth", .meth "Test" "gather", .meth "KeyTest" "gather", .glo "_law_has", .glo "_law_holds_as", .glo "_law_lacks", .meth "Test" "holds", .meth "Test" "passes", .meth "Stretches" "__contains__", .meth "Step" "image", .meth "Shift" "image", .meth "Scale" "image", .meth "Floor" "image", .meth "Clip" "image", .meth "Sign" "image", .meth "KeyTest" "passes", .meth "KeyTest" "holds", .glo "joined", .mkr "Stretches", .mkr "Test", .glo "is_name", .glo "check_numbers", .meth "Stretches" "__len__", .mkr "KeyTest", .glo "law"]
def fxs : List DefX := [⟨("Sign", some "__init__"), "__init__", "Sign.__init__", defArgs (inClass (top 43) 0), defBody (inClass (top 43) 0), defScope (inClass (top 43) 0), "Sign"⟩,
  ⟨("TooMany", some "__init__"), "__init__", "TooMany.__init__", defArgs (inClass (top 8) 0), defBody (inClass (top 8) 0), defScope (inClass (top 8) 0), "TooMany"⟩,
  ⟨("Sign", some "image"), "image", "Sign.image", defArgs (inClass (top 43) 1), defBody (inClass (top 43) 1), defScope (inClass (top 43) 1), "Sign"⟩,
  ⟨("UnknownName", some "__init__"), "__init__", "UnknownName.__init__", defArgs (inClass (top 7) 0), defBody (inClass (top 7) 0), defScope (inClass (top 7) 0), "UnknownName"⟩,
  ⟨("BadStretch", some "__init__"), "__init__", "BadStretch.__init__", defArgs (inClass (top 3) 0), defBody (inClass (top 3) 0), defScope (inClass (top 3) 0), "BadStretch"⟩]
def exs : List (PySem.W.Frag → Bool) := [fun K => isCb K (He.ga K "Sign"),
  fun K => kitB K (He.ga K "Sign") (.ref (He.ga K "Stretches")) false,
  fun K => isCb K (He.ga K "Clip"),
  fun K => kitB K (He.ga K "Clip") (.ref (He.ga K "Stretches")) false,
  fun K => isCb K (He.ga K "Floor"),
  fun K => kitB K (He.ga K "Floor") (.ref (He.ga K "Stretches")) false,
  fun K => isCb K (He.ga K "Scale"),
  fun K => kitB K (He.ga K "Scale") (.ref (He.ga K "Stretches")) false,
  fun K => isCb K (He.ga K "Shift"),
  fun K => kitB K (He.ga K "Shift") (.ref (He.ga K "Stretches")) false,
  fun K => isCb K (He.ga K "Step"),
  fun K => kitB K (He.ga K "Step") (.ref (He.ga K "Stretches")) false,
  fun K => isCb K (He.ga K "Not"),
  fun K => kitB K (He.ga K "Not") (.ref (He.ga K "Stretches")) false,
  fun K => isCb K (He.ga K "Either"),
  fun K => kitB K (He.ga K "Either") (.ref (He.ga K "Stretches")) false,
  fun K => isCb K (He.ga K "Both"),
  fun K => kitB K (He.ga K "Both") (.ref (He.ga K "Stretches")) false,
  fun K => isCb K (He.ga K "KeyTest"),
  fun K => kitB K (He.ga K "KeyTest") (.ref (He.ga K "Stretches")) false,
  fun K => isCb K (He.ga K "Test"),
  fun K => kitB K (He.ga K "Test") (.ref (He.ga K "Stretches")) false,
  fun K => isCb K (He.ga K "Condition"),
  fun K => kitB K (He.ga K "Condition") (.ref (He.ga K "Stretches")) false,
  fun K => isCb K (He.ga K "Chain"),
  fun K => kitB K (He.ga K "Chain") (.ref (He.ga K "Stretches")) false,
  fun K => plB K (He.ga K "Stretches"),
  fun K => kitB K (He.ga K "Sign") (.ref (He.ga K "Test")) false,
  fun K => kitB K (He.ga K "Clip") (.ref (He.ga K "Test")) false,
  fun K => kitB K (He.ga K "Floor") (.ref (He.ga K "Test")) false,
  fun K => kitB K (He.ga K "Scale") (.ref (He.ga K "Test")) false,
  fun K => kitB K (He.ga K "Shift") (.ref (He.ga K "Test")) false,
  fun K => kitB K (He.ga K "Step") (.ref (He.ga K "Test")) false,
  fun K => kitB K (He.ga K "Not") (.ref (He.ga K "Test")) false,
  fun K => kitB K (He.ga K "Either") (.ref (He.ga K "Test")) false,
  fun K => kitB K (He.ga K "Both") (.ref (He.ga K "Test")) false,
  fun K => kitB K (He.ga K "KeyTest") (.ref (He.ga K "Test")) false,
  fun K => kitB K (He.ga K "Test") (.ref (He.ga K "Test")) true,
  fun K => kitB K (He.ga K "Condition") (.ref (He.ga K "Test")) false,
  fun K => kitB K (He.ga K "Chain") (.ref (He.ga K "Test")) false,
  fun K => plB K (He.ga K "Test"),
  fun K => kitB K (He.ga K "Sign") (.ref (He.ga K "Condition")) false,
  fun K => kitB K (He.ga K "Clip") (.ref (He.ga K "Condition")) false,
  fun K => kitB K (He.ga K "Floor") (.ref (He.ga K "Condition")) false,
  fun K => kitB K (He.ga K "Scale") (.ref (He.ga K "Condition")) false,
  fun K => kitB K (He.ga K "Shift") (.ref (He.ga K "Condition")) false,
  fun K => kitB K (He.ga K "Step") (.ref (He.ga K "Condition")) false,
  fun K => kitB K (He.ga K "Not") (.ref (He.ga K "Condition")) true,
  fun K => kitB K (He.ga K "Either") (.ref (He.ga K "Condition")) true,
  fun K => kitB K (He.ga K "Both") (.ref (He.ga K "Condition")) true,
  fun K => kitB K (He.ga K "KeyTest") (.ref (He.ga K "Condition")) true,
  fun K => kitB K (He.ga K "Test") (.ref (He.ga K "Condition")) true,
  fun K => kitB K (He.ga K "Condition") (.ref (He.ga K "Condition")) true,
  fun K => kitB K (He.ga K "Chain") (.ref (He.ga K "Condition")) false,
  fun K => plB K (He.ga K "Condition"),
  fun K => kitB K (He.ga K "Sign") (.ref (He.ga K "KeyTest")) false,
  fun K => kitB K (He.ga K "Clip") (.ref (He.ga K "KeyTest")) false,
  fun K => kitB K (He.ga K "Floor") (.ref (He.ga K "KeyTest")) false,
  fun K => kitB K (He.ga K "Scale") (.ref (He.ga K "KeyTest")) false,
  fun K => kitB K (He.ga K "Shift") (.ref (He.ga K "KeyTest")) false,
  fun K => kitB K (He.ga K "Step") (.ref (He.ga K "KeyTest")) false,
  fun K => kitB K (He.ga K "Not") (.ref (He.ga K "KeyTest")) false,
  fun K => kitB K (He.ga K "Either") (.ref (He.ga K "KeyTest")) false,
  fun K => kitB K (He.ga K "Both") (.ref (He.ga K "KeyTest")) false,
  fun K => kitB K (He.ga K "KeyTest") (.ref (He.ga K "KeyTest")) true,
  fun K => kitB K (He.ga K "Test") (.ref (He.ga K "KeyTest")) false,
  fun K => kitB K (He.ga K "Condition") (.ref (He.ga K "KeyTest")) false,
  fun K => kitB K (He.ga K "Chain") (.ref (He.ga K "KeyTest")) false,
  fun K => plB K (He.ga K "KeyTest"),
  fun K => slcB K (He.ga K "Stretches"),
  fun K => siB K (He.ga K "Stretches"),
  fun K => kitB K (He.ga K "Stretches") (.ref (He.ga K "Stretches")) true,
  fun K => sl1B K (He.ga K "Stretches") "pairs",
  fun K => exmB K (He.ga K "TooMany") (He.ga K "ReadError") true,
  fun K => exmB K (He.ga K "UnknownName") (He.ga K "ReadError") true,
  fun K => exmB K (He.ga K "BadName") (He.ga K "ReadError") true,
  fun K => exmB K (He.ga K "BadStep") (He.ga K "ReadError") true,
  fun K => exmB K (He.ga K "BadText") (He.ga K "ReadError") true,
  fun K => exmB K (He.ga K "BadStretch") (He.ga K "ReadError") true,
  fun K => exmB K (He.ga K "ReadError") (He.ga K "ReadError") true,
  fun K => exmB K (He.ga K "TooMany") (He.ga K "UnknownName") false,
  fun K => exmB K (He.ga K "UnknownName") (He.ga K "UnknownName") true,
  fun K => exmB K (He.ga K "BadName") (He.ga K "UnknownName") false,
  fun K => exmB K (He.ga K "BadStep") (He.ga K "UnknownName") false,
  fun K => exmB K (He.ga K "BadText") (He.ga K "UnknownName") false,
  fun K => exmB K (He.ga K "BadStretch") (He.ga K "UnknownName") false,
  fun K => exmB K (He.ga K "ReadError") (He.ga K "UnknownName") false,
  fun K => excB K (He.ga K "TooMany"),
  fun K => kitB K (He.ga K "TooMany") (.ref (He.ga K "BadName")) false,
  fun K => excB K (He.ga K "UnknownName"),
  fun K => kitB K (He.ga K "UnknownName") (.ref (He.ga K "BadName")) false,
  fun K => excB K (He.ga K "BadName"),
  fun K => kitB K (He.ga K "BadName") (.ref (He.ga K "BadName")) true,
  fun K => excB K (He.ga K "BadStep"),
  fun K => kitB K (He.ga K "BadStep") (.ref (He.ga K "BadName")) false,
  fun K => excB K (He.ga K "BadText"),
  fun K => kitB K (He.ga K "BadText") (.ref (He.ga K "BadName")) false,
  fun K => excB K (He.ga K "BadStretch"),
  fun K => kitB K (He.ga K "BadStretch") (.ref (He.ga K "BadName")) false,
  fun K => excB K (He.ga K "ReadError"),
  fun K => kitB K (He.ga K "ReadError") (.ref (He.ga K "BadName")) false,
  fun K => kitB K (He.ga K "TooMany") (.type "ValueError") true,
  fun K => kitB K (He.ga K "UnknownName") (.type "ValueError") true,
  fun K => kitB K (He.ga K "BadName") (.type "ValueError") true,
  fun K => kitB K (He.ga K "BadStep") (.type "ValueError") true,
  fun K => kitB K (He.ga K "BadText") (.type "ValueError") true,
  fun K => kitB K (He.ga K "BadStretch") (.type "ValueError") true,
  fun K => kitB K (He.ga K "ReadError") (.type "ValueError") true,
  fun K => kitB K (He.ga K "TooMany") (.ref (He.ga K "ReadError")) true,
  fun K => kitB K (He.ga K "UnknownName") (.ref (He.ga K "ReadError")) true,
  fun K => kitB K (He.ga K "BadName") (.ref (He.ga K "ReadError")) true,
  fun K => kitB K (He.ga K "BadStep") (.ref (He.ga K "ReadError")) true,
  fun K => kitB K (He.ga K "BadText") (.ref (He.ga K "ReadError")) true,
  fun K => kitB K (He.ga K "BadStretch") (.ref (He.ga K "ReadError")) true,
  fun K => kitB K (He.ga K "ReadError") (.ref (He.ga K "ReadError")) true,
  fun K => noatB K (He.ga K "UnknownName") "name",
  fun K => supMB K (He.ga K "Sign") (He.ga K "Sign") "__init__" (He.fAd K ("Clip", some "__init__")),
  fun K => mk0B K (He.ga K "Step"),
  fun K => initB K (He.ga K "TooMany") (He.fAd K ("TooMany", some "__init__")),
  fun K => noatB K (He.ga K "TooMany") "limit",
  fun K => oexB K (He.ga K "TooMany"),
  fun K => supEB K (He.ga K "TooMany") (He.ga K "TooMany"),
  fun K => samB (He.fAd K ("Test", some "truth")) (He.fAd K ("Condition", some "truth")),
  fun K => samB (He.fAd K ("KeyTest", some "truth")) (He.fAd K ("Condition", some "truth")),
  fun K => prB K (He.ga K "Test") "names",
  fun K => prB K (He.ga K "KeyTest") "names",
  fun K => prB K (He.ga K "Test") "depth",
  fun K => prB K (He.ga K "KeyTest") "depth",
  fun K => prB K (He.ga K "Test") "tests",
  fun K => prB K (He.ga K "KeyTest") "tests",
  fun K => samB (He.fAd K ("Test", some "holds")) (He.fAd K ("Condition", some "holds")),
  fun K => supMB K (He.ga K "Sign") (He.ga K "Sign") "image" (He.fAd K ("Clip", some "image")),
  fun K => calB K (He.ga K "Chain") (He.fAd K ("Chain", some "__call__")),
  fun K => initB K (He.ga K "UnknownName") (He.fAd K ("UnknownName", some "__init__")),
  fun K => oexB K (He.ga K "UnknownName"),
  fun K => supEB K (He.ga K "UnknownName") (He.ga K "UnknownName"),
  fun K => samB (He.fAd K ("KeyTest", some "holds")) (He.fAd K ("Condition", some "holds")),
  fun K => initB K (He.ga K "BadStretch") (He.fAd K ("BadStretch", some "__init__")),
  fun K => noatB K (He.ga K "BadStretch") "low",
  fun K => noatB K (He.ga K "BadStretch") "high",
  fun K => oexB K (He.ga K "BadStretch"),
  fun K => supEB K (He.ga K "BadStretch") (He.ga K "BadStretch")]
def fps : List DefP := [⟨fun K => prFn K (He.ga K "Test") "names", "names", "Condition.names", defArgs (inClass (top 30) 3), defBody (inClass (top 30) 3), defScope (inClass (top 30) 3), []⟩,
  ⟨fun K => prFn K (He.ga K "KeyTest") "names", "names", "Condition.names", defArgs (inClass (top 30) 3), defBody (inClass (top 30) 3), defScope (inClass (top 30) 3), []⟩,
  ⟨fun K => prFn K (He.ga K "Test") "depth", "depth", "Condition.depth", defArgs (inClass (top 30) 4), defBody (inClass (top 30) 4), defScope (inClass (top 30) 4), []⟩,
  ⟨fun K => prFn K (He.ga K "KeyTest") "depth", "depth", "Condition.depth", defArgs (inClass (top 30) 4), defBody (inClass (top 30) 4), defScope (inClass (top 30) 4), []⟩,
  ⟨fun K => prFn K (He.ga K "Test") "tests", "tests", "Condition.tests", defArgs (inClass (top 30) 2), defBody (inClass (top 30) 2), defScope (inClass (top 30) 2), []⟩,
  ⟨fun K => prFn K (He.ga K "KeyTest") "tests", "tests", "Condition.tests", defArgs (inClass (top 30) 2), defBody (inClass (top 30) 2), defScope (inClass (top 30) 2), []⟩]
def tp : Top := ⟨fas, fns, fxs, exs, fps⟩
abbrev R : PySem.W.OpenRow := PySem.W.OpenLaw.row PySem.Challenge.rw_stretchesread_k37_one_test
abbrev hk : PySem.W.Hook := hookZ R.prog 6 tp
def ob (s : PySem.W.SharedT) : AlX := obsZ R.prog 6 tp (HandSHeadRun.getT s)
theorem ob_eq (s : PySem.W.SharedT) : ob s = hk.obs s.abs := obsZ_eq (HandSHeadRun.getT_eq s)
def loose : List Str := (["_wall", "ReadError", "BadStretch", "BadText", "BadStep", "BadName", "UnknownName", "TooMany", "LIMIT_stretches", "DIGITS", "joined", "common", "gaps", "written", "read_number", "read_stretch", "Stretches", "MOST_STEPS", "Chain", "LETTERS", "MOST_TESTS", "MOST_DEPTH", "MOST_STRETCHES", "is_name", "check_numbers", "measured", "Condition", "Test", "KeyTest", "Both"] : List Str) ++ (["Either", "Not", "MOST_FACTOR", "Step", "Shift", "Scale", "Floor", "Clip", "Sign", "_law_draws", "_law_next", "_law_amount", "_law_deed", "_law_built", "_law_image", "_law_result", "_law_linked", "_law_has", "_law_around", "_law_word", "_law_lacks", "_law_holds_as", "_law_shape"] : List Str)
theorem run (w : World) : HandSHeadRun.RunEq R (PySem.W.view R.prog [59]) hk ob 30000 loose w := by
  intro os
  kernel_rfl
def klOf (K : PySem.W.Frag) : Kl := ⟨He.ga K "ReadError", He.ga K "BadStretch", He.ga K "BadText", He.ga K "BadStep", He.ga K "BadName", He.ga K "UnknownName", He.ga K "TooMany", He.ga K "Stretches", He.ga K "Chain", He.ga K "Condition", He.ga K "Test", He.ga K "KeyTest", He.ga K "Both", He.ga K "Either", He.ga K "Not", He.ga K "Step", He.ga K "Shift", He.ga K "Scale", He.ga K "Floor", He.ga K "Clip", He.ga K "Sign"⟩
theorem facts {w : World} {K : PySem.W.Frag} {h : Heap} {mg : Str → Option Value} {fa : Addr} (X : K.In h) (G : h.Ns mainGlobals mg) (hfa : mg ("law" : Str) = some (.ref fa)) (c : tp.obs R.prog K = tp.val) :
    ∃ fd : FuncData, (∀ (s : Shared) (v : Value), BindsTo s fd ⟨[v], []⟩ [("_law_script", v)]) ∧ ∀ base : Heap, K.In base → base.Ns mainGlobals mg → FnOk R.prog w K mg base (L2.CX R.prog w) 8 fa fd ["_law_script"] (spLaw K) := by
  have c1 : He.SaysD fas fns K := Top.sd c
  obtain ⟨fd, F⟩ := c1.def_ 41 (d := df "law" (top 59)) rfl
  have e := hfa.symm.trans (He.glo_ok X G (c1.fact 126 (f := .glo "law") rfl))
  cases e
  have b := FunD.bindsA (ps := ["_law_script"]) F fun _ _ _ _ _ _ us hl => match us, hl with | [_], _ => rfl
  refine ⟨fd, fun s v => b s [v] rfl, fun base _ _ => ?_⟩
  let P : Program := R.prog
  have bi : Bi mg := ⟨He.free_ok X G (c1.fact 0 (f := .free "int") rfl), He.free_ok X G (c1.fact 1 (f := .free "len") rfl), He.free_ok X G (c1.fact 2 (f := .free "min") rfl), He.free_ok X G (c1.fact 3 (f := .free "range") rfl), He.free_ok X G (c1.fact 4 (f := .free "abs") rfl), He.free_ok X G (c1.fact 5 (f := .free "sorted") rfl), He.free_ok X G (c1.fact 6 (f := .free "max") rfl), He.free_ok X G (c1.fact 7 (f := .free "tuple") rfl), He.free_ok X G (c1.fact 8 (f := .free "str") rfl), He.free_ok X G (c1.fact 9 (f := .free "isinstance") rfl), He.free_ok X G (c1.fact 10 (f := .free "sum") rfl), He.free_ok X G (c1.fact 11 (f := .free "ValueError") rfl), He.free_ok X G (c1.fact 12 (f := .free "bool") rfl), He.free_ok X G (c1.fact 13 (f := .free "list") rfl)⟩
  have cs : Cs mg := ⟨He.int_ok X G (c1.fact 14 rfl), He.str_ok X G (c1.fact 15 rfl), He.int_ok X G (c1.fact 16 rfl), He.str_ok X G (c1.fact 17 rfl), He.int_ok X G (c1.fact 18 rfl), He.int_ok X G (c1.fact 19 rfl), He.int_ok X G (c1.fact 20 rfl), He.int_ok X G (c1.fact 21 rfl)⟩
  have dk : Drk P w K mg base := dk__law_draws (defAt_of X G c1 0 22 rfl rfl) bi
  have c__law_next : Fnk P w K mg base "_law_next" 1 ["_law_draws_here", "_law_many"] [] [] sd__law_next := fk__law_next (defAt_of X G c1 2 24 rfl rfl) bi
  have c__law_amount : Fnk P w K mg base "_law_amount" 2 ["_law_draws_here", "_law_low", "_law_high"] [] [] sd__law_amount := fk__law_amount (defAt_of X G c1 1 23 rfl rfl) bi c__law_next
  have c__law_deed : Fnk P w K mg base "_law_deed" 3 ["_law_draws_here", "_law_kind"] [] [] sd__law_deed := fk__law_deed (defAt_of X G c1 3 25 rfl rfl) bi c__law_amount
  have c__law_image : Fnk P w K mg base "_law_image" 1 ["_law_deed_here", "_law_number"] [] [] sd__law_image := fk__law_image (defAt_of X G c1 6 28 rfl rfl) bi
  have c__law_result : Fnk P w K mg base "_law_result" 2 ["_law_deeds", "_law_number"] [] [] sd__law_result := fk__law_result (defAt_of X G c1 5 27 rfl rfl) bi c__law_image
  have c__law_around : Fnk P w K mg base "_law_around" 3 ["_law_draws_here", "_law_deeds", "_law_places"] [] [] sd__law_around := fk__law_around (defAt_of X G c1 4 26 rfl rfl) bi c__law_next c__law_result c__law_amount
  have c__law_word : Fnk P w K mg base "_law_word" 2 ["_law_draws_here"] [] [] sd__law_word := fk__law_word (defAt_of X G c1 7 29 rfl rfl) bi c__law_next
  have cf : Cf K mg (klOf K) := {
    g_ReadError := (He.glo_ok X G (c1.fact 31 (f := .glo "ReadError") rfl))
    g_BadStretch := (He.glo_ok X G (c1.fact 32 (f := .glo "BadStretch") rfl))
    g_BadText := (He.glo_ok X G (c1.fact 33 (f := .glo "BadText") rfl))
    g_BadStep := (He.glo_ok X G (c1.fact 34 (f := .glo "BadStep") rfl))
    g_BadName := (He.glo_ok X G (c1.fact 35 (f := .glo "BadName") rfl))
    g_UnknownName := (He.glo_ok X G (c1.fact 36 (f := .glo "UnknownName") rfl))
    g_TooMany := (He.glo_ok X G (c1.fact 37 (f := .glo "TooMany") rfl))
    g_Stretches := (He.glo_ok X G (c1.fact 38 (f := .glo "Stretches") rfl))
    g_Chain := (He.glo_ok X G (c1.fact 39 (f := .glo "Chain") rfl))
    g_Condition := (He.glo_ok X G (c1.fact 40 (f := .glo "Condition") rfl))
    g_Test := (He.glo_ok X G (c1.fact 41 (f := .glo "Test") rfl))
    g_KeyTest := (He.glo_ok X G (c1.fact 42 (f := .glo "KeyTest") rfl))
    g_Both := (He.glo_ok X G (c1.fact 43 (f := .glo "Both") rfl))
    g_Either := (He.glo_ok X G (c1.fact 44 (f := .glo "Either") rfl))
    g_Not := (He.glo_ok X G (c1.fact 45 (f := .glo "Not") rfl))
    g_Step := (He.glo_ok X G (c1.fact 46 (f := .glo "Step") rfl))
    g_Shift := (He.glo_ok X G (c1.fact 47 (f := .glo "Shift") rfl))
    g_Scale := (He.glo_ok X G (c1.fact 48 (f := .glo "Scale") rfl))
    g_Floor := (He.glo_ok X G (c1.fact 49 (f := .glo "Floor") rfl))
    g_Clip := (He.glo_ok X G (c1.fact 50 (f := .glo "Clip") rfl))
    g_Sign := (He.glo_ok X G (c1.fact 51 (f := .glo "Sign") rfl))
    at_steps := (atOk_cons (He.cls_ok (c1.fact 52 (f := .cls "Chain") rfl)) (He.noat_ok (c1.fact 53 (f := .noat "Chain" "steps") rfl)) atOk_nil)
    at_many := (atOk_cons (He.cls_ok (c1.fact 62 (f := .cls "Test") rfl)) (He.noat_ok (c1.fact 63 (f := .noat "Test" "many") rfl)) (atOk_cons (He.cls_ok (c1.fact 60 (f := .cls "KeyTest") rfl)) (He.noat_ok (c1.fact 61 (f := .noat "KeyTest" "many") rfl)) (atOk_cons (He.cls_ok (c1.fact 58 (f := .cls "Both") rfl)) (He.noat_ok (c1.fact 59 (f := .noat "Both" "many") rfl)) (atOk_cons (He.cls_ok (c1.fact 56 (f := .cls "Either") rfl)) (He.noat_ok (c1.fact 57 (f := .noat "Either" "many") rfl)) (atOk_cons (He.cls_ok (c1.fact 54 (f := .cls "Not") rfl)) (He.noat_ok (c1.fact 55 (f := .noat "Not" "many") rfl)) atOk_nil)))))
    at_level := (atOk_cons (He.cls_ok (c1.fact 62 (f := .cls "Test") rfl)) (He.noat_ok (c1.fact 68 (f := .noat "Test" "level") rfl)) (atOk_cons (He.cls_ok (c1.fact 60 (f := .cls "KeyTest") rfl)) (He.noat_ok (c1.fact 67 (f := .noat "KeyTest" "level") rfl)) (atOk_cons (He.cls_ok (c1.fact 58 (f := .cls "Both") rfl)) (He.noat_ok (c1.fact 66 (f := .noat "Both" "level") rfl)) (atOk_cons (He.cls_ok (c1.fact 56 (f := .cls "Either") rfl)) (He.noat_ok (c1.fact 65 (f := .noat "Either" "level") rfl)) (atOk_cons (He.cls_ok (c1.fact 54 (f := .cls "Not") rfl)) (He.noat_ok (c1.fact 64 (f := .noat "Not" "level") rfl)) atOk_nil)))))
    at_name := (atOk_cons (He.cls_ok (c1.fact 62 (f := .cls "Test") rfl)) (He.noat_ok (c1.fact 69 (f := .noat "Test" "name") rfl)) atOk_nil)
    at_numbers := (atOk_cons (He.cls_ok (c1.fact 62 (f := .cls "Test") rfl)) (He.noat_ok (c1.fact 71 (f := .noat "Test" "numbers") rfl)) (atOk_cons (He.cls_ok (c1.fact 60 (f := .cls "KeyTest") rfl)) (He.noat_ok (c1.fact 70 (f := .noat "KeyTest" "numbers") rfl)) atOk_nil))
    at_cast := (atOk_cons (He.cls_ok (c1.fact 62 (f := .cls "Test") rfl)) (He.noat_ok (c1.fact 73 (f := .noat "Test" "cast") rfl)) (atOk_cons (He.cls_ok (c1.fact 60 (f := .cls "KeyTest") rfl)) (He.noat_ok (c1.fact 72 (f := .noat "KeyTest" "cast") rfl)) atOk_nil))
    at_parts := (atOk_cons (He.cls_ok (c1.fact 58 (f := .cls "Both") rfl)) (He.noat_ok (c1.fact 75 (f := .noat "Both" "parts") rfl)) (atOk_cons (He.cls_ok (c1.fact 56 (f := .cls "Either") rfl)) (He.noat_ok (c1.fact 74 (f := .noat "Either" "parts") rfl)) atOk_nil))
    at_part := (atOk_cons (He.cls_ok (c1.fact 54 (f := .cls "Not") rfl)) (He.noat_ok (c1.fact 76 (f := .noat "Not" "part") rfl)) atOk_nil)
    at_by := (atOk_cons (He.cls_ok (c1.fact 77 (f := .cls "Shift") rfl)) (He.noat_ok (c1.fact 78 (f := .noat "Shift" "by") rfl)) atOk_nil)
    at_factor := (atOk_cons (He.cls_ok (c1.fact 79 (f := .cls "Scale") rfl)) (He.noat_ok (c1.fact 80 (f := .noat "Scale" "factor") rfl)) atOk_nil)
    at_divisor := (atOk_cons (He.cls_ok (c1.fact 81 (f := .cls "Floor") rfl)) (He.noat_ok (c1.fact 82 (f := .noat "Floor" "divisor") rfl)) atOk_nil)
    at_low := (atOk_cons (He.cls_ok (c1.fact 85 (f := .cls "Clip") rfl)) (He.noat_ok (c1.fact 86 (f := .noat "Clip" "low") rfl)) (atOk_cons (He.cls_ok (c1.fact 83 (f := .cls "Sign") rfl)) (He.noat_ok (c1.fact 84 (f := .noat "Sign" "low") rfl)) atOk_nil))
    at_high := (atOk_cons (He.cls_ok (c1.fact 85 (f := .cls "Clip") rfl)) (He.noat_ok (c1.fact 88 (f := .noat "Clip" "high") rfl)) (atOk_cons (He.cls_ok (c1.fact 83 (f := .cls "Sign") rfl)) (He.noat_ok (c1.fact 87 (f := .noat "Sign" "high") rfl)) atOk_nil))
    is_Stretches := ⟨(all_cons (p := fun r : Addr × Bool => IsC K r.1 ∧ PySem.W.kitOne K (.ref r.1) (.ref (klOf K).Stretches) = some r.2) ⟨isCb_ok (He.cls_ok (c1.fact 52 (f := .cls "Chain") rfl)) (Top.e c 24 rfl), kitB_ok (Top.e c 25 rfl)⟩ (all_cons (p := fun r : Addr × Bool => IsC K r.1 ∧ PySem.W.kitOne K (.ref r.1) (.ref (klOf K).Stretches) = some r.2) ⟨isCb_ok (He.cls_ok (c1.fact 90 (f := .cls "Condition") rfl)) (Top.e c 22 rfl), kitB_ok (Top.e c 23 rfl)⟩ (all_cons (p := fun r : Addr × Bool => IsC K r.1 ∧ PySem.W.kitOne K (.ref r.1) (.ref (klOf K).Stretches) = some r.2) ⟨isCb_ok (He.cls_ok (c1.fact 62 (f := .cls "Test") rfl)) (Top.e c 20 rfl), kitB_ok (Top.e c 21 rfl)⟩ (all_cons (p := fun r : Addr × Bool => IsC K r.1 ∧ PySem.W.kitOne K (.ref r.1) (.ref (klOf K).Stretches) = some r.2) ⟨isCb_ok (He.cls_ok (c1.fact 60 (f := .cls "KeyTest") rfl)) (Top.e c 18 rfl), kitB_ok (Top.e c 19 rfl)⟩ (all_cons (p := fun r : Addr × Bool => IsC K r.1 ∧ PySem.W.kitOne K (.ref r.1) (.ref (klOf K).Stretches) = some r.2) ⟨isCb_ok (He.cls_ok (c1.fact 58 (f := .cls "Both") rfl)) (Top.e c 16 rfl), kitB_ok (Top.e c 17 rfl)⟩ (all_cons (p := fun r : Addr × Bool => IsC K r.1 ∧ PySem.W.kitOne K (.ref r.1) (.ref (klOf K).Stretches) = some r.2) ⟨isCb_ok (He.cls_ok (c1.fact 56 (f := .cls "Either") rfl)) (Top.e c 14 rfl), kitB_ok (Top.e c 15 rfl)⟩ (all_cons (p := fun r : Addr × Bool => IsC K r.1 ∧ PySem.W.kitOne K (.ref r.1) (.ref (klOf K).Stretches) = some r.2) ⟨isCb_ok (He.cls_ok (c1.fact 54 (f := .cls "Not") rfl)) (Top.e c 12 rfl), kitB_ok (Top.e c 13 rfl)⟩ (all_cons (p := fun r : Addr × Bool => IsC K r.1 ∧ PySem.W.kitOne K (.ref r.1) (.ref (klOf K).Stretches) = some r.2) ⟨isCb_ok (He.cls_ok (c1.fact 89 (f := .cls "Step") rfl)) (Top.e c 10 rfl), kitB_ok (Top.e c 11 rfl)⟩ (all_cons (p := fun r : Addr × Bool => IsC K r.1 ∧ PySem.W.kitOne K (.ref r.1) (.ref (klOf K).Stretches) = some r.2) ⟨isCb_ok (He.cls_ok (c1.fact 77 (f := .cls "Shift") rfl)) (Top.e c 8 rfl), kitB_ok (Top.e c 9 rfl)⟩ (all_cons (p := fun r : Addr × Bool => IsC K r.1 ∧ PySem.W.kitOne K (.ref r.1) (.ref (klOf K).Stretches) = some r.2) ⟨isCb_ok (He.cls_ok (c1.fact 79 (f := .cls "Scale") rfl)) (Top.e c 6 rfl), kitB_ok (Top.e c 7 rfl)⟩ (all_cons (p := fun r : Addr × Bool => IsC K r.1 ∧ PySem.W.kitOne K (.ref r.1) (.ref (klOf K).Stretches) = some r.2) ⟨isCb_ok (He.cls_ok (c1.fact 81 (f := .cls "Floor") rfl)) (Top.e c 4 rfl), kitB_ok (Top.e c 5 rfl)⟩ (all_cons (p := fun r : Addr × Bool => IsC K r.1 ∧ PySem.W.kitOne K (.ref r.1) (.ref (klOf K).Stretches) = some r.2) ⟨isCb_ok (He.cls_ok (c1.fact 85 (f := .cls "Clip") rfl)) (Top.e c 2 rfl), kitB_ok (Top.e c 3 rfl)⟩ (all_cons (p := fun r : Addr × Bool => IsC K r.1 ∧ PySem.W.kitOne K (.ref r.1) (.ref (klOf K).Stretches) = some r.2) ⟨isCb_ok (He.cls_ok (c1.fact 83 (f := .cls "Sign") rfl)) (Top.e c 0 rfl), kitB_ok (Top.e c 1 rfl)⟩ all_nil))))))))))))), plB_ok (Top.e c 26 rfl)⟩
    is_Test := ⟨(all_cons (p := fun r : Addr × Bool => IsC K r.1 ∧ PySem.W.kitOne K (.ref r.1) (.ref (klOf K).Test) = some r.2) ⟨isCb_ok (He.cls_ok (c1.fact 52 (f := .cls "Chain") rfl)) (Top.e c 24 rfl), kitB_ok (Top.e c 39 rfl)⟩ (all_cons (p := fun r : Addr × Bool => IsC K r.1 ∧ PySem.W.kitOne K (.ref r.1) (.ref (klOf K).Test) = some r.2) ⟨isCb_ok (He.cls_ok (c1.fact 90 (f := .cls "Condition") rfl)) (Top.e c 22 rfl), kitB_ok (Top.e c 38 rfl)⟩ (all_cons (p := fun r : Addr × Bool => IsC K r.1 ∧ PySem.W.kitOne K (.ref r.1) (.ref (klOf K).Test) = some r.2) ⟨isCb_ok (He.cls_ok (c1.fact 62 (f := .cls "Test") rfl)) (Top.e c 20 rfl), kitB_ok (Top.e c 37 rfl)⟩ (all_cons (p := fun r : Addr × Bool => IsC K r.1 ∧ PySem.W.kitOne K (.ref r.1) (.ref (klOf K).Test) = some r.2) ⟨isCb_ok (He.cls_ok (c1.fact 60 (f := .cls "KeyTest") rfl)) (Top.e c 18 rfl), kitB_ok (Top.e c 36 rfl)⟩ (all_cons (p := fun r : Addr × Bool => IsC K r.1 ∧ PySem.W.kitOne K (.ref r.1) (.ref (klOf K).Test) = some r.2) ⟨isCb_ok (He.cls_ok (c1.fact 58 (f := .cls "Both") rfl)) (Top.e c 16 rfl), kitB_ok (Top.e c 35 rfl)⟩ (all_cons (p := fun r : Addr × Bool => IsC K r.1 ∧ PySem.W.kitOne K (.ref r.1) (.ref (klOf K).Test) = some r.2) ⟨isCb_ok (He.cls_ok (c1.fact 56 (f := .cls "Either") rfl)) (Top.e c 14 rfl), kitB_ok (Top.e c 34 rfl)⟩ (all_cons (p := fun r : Addr × Bool => IsC K r.1 ∧ PySem.W.kitOne K (.ref r.1) (.ref (klOf K).Test) = some r.2) ⟨isCb_ok (He.cls_ok (c1.fact 54 (f := .cls "Not") rfl)) (Top.e c 12 rfl), kitB_ok (Top.e c 33 rfl)⟩ (all_cons (p := fun r : Addr × Bool => IsC K r.1 ∧ PySem.W.kitOne K (.ref r.1) (.ref (klOf K).Test) = some r.2) ⟨isCb_ok (He.cls_ok (c1.fact 89 (f := .cls "Step") rfl)) (Top.e c 10 rfl), kitB_ok (Top.e c 32 rfl)⟩ (all_cons (p := fun r : Addr × Bool => IsC K r.1 ∧ PySem.W.kitOne K (.ref r.1) (.ref (klOf K).Test) = some r.2) ⟨isCb_ok (He.cls_ok (c1.fact 77 (f := .cls "Shift") rfl)) (Top.e c 8 rfl), kitB_ok (Top.e c 31 rfl)⟩ (all_cons (p := fun r : Addr × Bool => IsC K r.1 ∧ PySem.W.kitOne K (.ref r.1) (.ref (klOf K).Test) = some r.2) ⟨isCb_ok (He.cls_ok (c1.fact 79 (f := .cls "Scale") rfl)) (Top.e c 6 rfl), kitB_ok (Top.e c 30 rfl)⟩ (all_cons (p := fun r : Addr × Bool => IsC K r.1 ∧ PySem.W.kitOne K (.ref r.1) (.ref (klOf K).Test) = some r.2) ⟨isCb_ok (He.cls_ok (c1.fact 81 (f := .cls "Floor") rfl)) (Top.e c 4 rfl), kitB_ok (Top.e c 29 rfl)⟩ (all_cons (p := fun r : Addr × Bool => IsC K r.1 ∧ PySem.W.kitOne K (.ref r.1) (.ref (klOf K).Test) = some r.2) ⟨isCb_ok (He.cls_ok (c1.fact 85 (f := .cls "Clip") rfl)) (Top.e c 2 rfl), kitB_ok (Top.e c 28 rfl)⟩ (all_cons (p := fun r : Addr × Bool => IsC K r.1 ∧ PySem.W.kitOne K (.ref r.1) (.ref (klOf K).Test) = some r.2) ⟨isCb_ok (He.cls_ok (c1.fact 83 (f := .cls "Sign") rfl)) (Top.e c 0 rfl), kitB_ok (Top.e c 27 rfl)⟩ all_nil))))))))))))), plB_ok (Top.e c 40 rfl)⟩
    is_Condition := ⟨(all_cons (p := fun r : Addr × Bool => IsC K r.1 ∧ PySem.W.kitOne K (.ref r.1) (.ref (klOf K).Condition) = some r.2) ⟨isCb_ok (He.cls_ok (c1.fact 52 (f := .cls "Chain") rfl)) (Top.e c 24 rfl), kitB_ok (Top.e c 53 rfl)⟩ (all_cons (p := fun r : Addr × Bool => IsC K r.1 ∧ PySem.W.kitOne K (.ref r.1) (.ref (klOf K).Condition) = some r.2) ⟨isCb_ok (He.cls_ok (c1.fact 90 (f := .cls "Condition") rfl)) (Top.e c 22 rfl), kitB_ok (Top.e c 52 rfl)⟩ (all_cons (p := fun r : Addr × Bool => IsC K r.1 ∧ PySem.W.kitOne K (.ref r.1) (.ref (klOf K).Condition) = some r.2) ⟨isCb_ok (He.cls_ok (c1.fact 62 (f := .cls "Test") rfl)) (Top.e c 20 rfl), kitB_ok (Top.e c 51 rfl)⟩ (all_cons (p := fun r : Addr × Bool => IsC K r.1 ∧ PySem.W.kitOne K (.ref r.1) (.ref (klOf K).Condition) = some r.2) ⟨isCb_ok (He.cls_ok (c1.fact 60 (f := .cls "KeyTest") rfl)) (Top.e c 18 rfl), kitB_ok (Top.e c 50 rfl)⟩ (all_cons (p := fun r : Addr × Bool => IsC K r.1 ∧ PySem.W.kitOne K (.ref r.1) (.ref (klOf K).Condition) = some r.2) ⟨isCb_ok (He.cls_ok (c1.fact 58 (f := .cls "Both") rfl)) (Top.e c 16 rfl), kitB_ok (Top.e c 49 rfl)⟩ (all_cons (p := fun r : Addr × Bool => IsC K r.1 ∧ PySem.W.kitOne K (.ref r.1) (.ref (klOf K).Condition) = some r.2) ⟨isCb_ok (He.cls_ok (c1.fact 56 (f := .cls "Either") rfl)) (Top.e c 14 rfl), kitB_ok (Top.e c 48 rfl)⟩ (all_cons (p := fun r : Addr × Bool => IsC K r.1 ∧ PySem.W.kitOne K (.ref r.1) (.ref (klOf K).Condition) = some r.2) ⟨isCb_ok (He.cls_ok (c1.fact 54 (f := .cls "Not") rfl)) (Top.e c 12 rfl), kitB_ok (Top.e c 47 rfl)⟩ (all_cons (p := fun r : Addr × Bool => IsC K r.1 ∧ PySem.W.kitOne K (.ref r.1) (.ref (klOf K).Condition) = some r.2) ⟨isCb_ok (He.cls_ok (c1.fact 89 (f := .cls "Step") rfl)) (Top.e c 10 rfl), kitB_ok (Top.e c 46 rfl)⟩ (all_cons (p := fun r : Addr × Bool => IsC K r.1 ∧ PySem.W.kitOne K (.ref r.1) (.ref (klOf K).Condition) = some r.2) ⟨isCb_ok (He.cls_ok (c1.fact 77 (f := .cls "Shift") rfl)) (Top.e c 8 rfl), kitB_ok (Top.e c 45 rfl)⟩ (all_cons (p := fun r : Addr × Bool => IsC K r.1 ∧ PySem.W.kitOne K (.ref r.1) (.ref (klOf K).Condition) = some r.2) ⟨isCb_ok (He.cls_ok (c1.fact 79 (f := .cls "Scale") rfl)) (Top.e c 6 rfl), kitB_ok (Top.e c 44 rfl)⟩ (all_cons (p := fun r : Addr × Bool => IsC K r.1 ∧ PySem.W.kitOne K (.ref r.1) (.ref (klOf K).Condition) = some r.2) ⟨isCb_ok (He.cls_ok (c1.fact 81 (f := .cls "Floor") rfl)) (Top.e c 4 rfl), kitB_ok (Top.e c 43 rfl)⟩ (all_cons (p := fun r : Addr × Bool => IsC K r.1 ∧ PySem.W.kitOne K (.ref r.1) (.ref (klOf K).Condition) = some r.2) ⟨isCb_ok (He.cls_ok (c1.fact 85 (f := .cls "Clip") rfl)) (Top.e c 2 rfl), kitB_ok (Top.e c 42 rfl)⟩ (all_cons (p := fun r : Addr × Bool => IsC K r.1 ∧ PySem.W.kitOne K (.ref r.1) (.ref (klOf K).Condition) = some r.2) ⟨isCb_ok (He.cls_ok (c1.fact 83 (f := .cls "Sign") rfl)) (Top.e c 0 rfl), kitB_ok (Top.e c 41 rfl)⟩ all_nil))))))))))))), plB_ok (Top.e c 54 rfl)⟩
    is_KeyTest := ⟨(all_cons (p := fun r : Addr × Bool => IsC K r.1 ∧ PySem.W.kitOne K (.ref r.1) (.ref (klOf K).KeyTest) = some r.2) ⟨isCb_ok (He.cls_ok (c1.fact 52 (f := .cls "Chain") rfl)) (Top.e c 24 rfl), kitB_ok (Top.e c 67 rfl)⟩ (all_cons (p := fun r : Addr × Bool => IsC K r.1 ∧ PySem.W.kitOne K (.ref r.1) (.ref (klOf K).KeyTest) = some r.2) ⟨isCb_ok (He.cls_ok (c1.fact 90 (f := .cls "Condition") rfl)) (Top.e c 22 rfl), kitB_ok (Top.e c 66 rfl)⟩ (all_cons (p := fun r : Addr × Bool => IsC K r.1 ∧ PySem.W.kitOne K (.ref r.1) (.ref (klOf K).KeyTest) = some r.2) ⟨isCb_ok (He.cls_ok (c1.fact 62 (f := .cls "Test") rfl)) (Top.e c 20 rfl), kitB_ok (Top.e c 65 rfl)⟩ (all_cons (p := fun r : Addr × Bool => IsC K r.1 ∧ PySem.W.kitOne K (.ref r.1) (.ref (klOf K).KeyTest) = some r.2) ⟨isCb_ok (He.cls_ok (c1.fact 60 (f := .cls "KeyTest") rfl)) (Top.e c 18 rfl), kitB_ok (Top.e c 64 rfl)⟩ (all_cons (p := fun r : Addr × Bool => IsC K r.1 ∧ PySem.W.kitOne K (.ref r.1) (.ref (klOf K).KeyTest) = some r.2) ⟨isCb_ok (He.cls_ok (c1.fact 58 (f := .cls "Both") rfl)) (Top.e c 16 rfl), kitB_ok (Top.e c 63 rfl)⟩ (all_cons (p := fun r : Addr × Bool => IsC K r.1 ∧ PySem.W.kitOne K (.ref r.1) (.ref (klOf K).KeyTest) = some r.2) ⟨isCb_ok (He.cls_ok (c1.fact 56 (f := .cls "Either") rfl)) (Top.e c 14 rfl), kitB_ok (Top.e c 62 rfl)⟩ (all_cons (p := fun r : Addr × Bool => IsC K r.1 ∧ PySem.W.kitOne K (.ref r.1) (.ref (klOf K).KeyTest) = some r.2) ⟨isCb_ok (He.cls_ok (c1.fact 54 (f := .cls "Not") rfl)) (Top.e c 12 rfl), kitB_ok (Top.e c 61 rfl)⟩ (all_cons (p := fun r : Addr × Bool => IsC K r.1 ∧ PySem.W.kitOne K (.ref r.1) (.ref (klOf K).KeyTest) = some r.2) ⟨isCb_ok (He.cls_ok (c1.fact 89 (f := .cls "Step") rfl)) (Top.e c 10 rfl), kitB_ok (Top.e c 60 rfl)⟩ (all_cons (p := fun r : Addr × Bool => IsC K r.1 ∧ PySem.W.kitOne K (.ref r.1) (.ref (klOf K).KeyTest) = some r.2) ⟨isCb_ok (He.cls_ok (c1.fact 77 (f := .cls "Shift") rfl)) (Top.e c 8 rfl), kitB_ok (Top.e c 59 rfl)⟩ (all_cons (p := fun r : Addr × Bool => IsC K r.1 ∧ PySem.W.kitOne K (.ref r.1) (.ref (klOf K).KeyTest) = some r.2) ⟨isCb_ok (He.cls_ok (c1.fact 79 (f := .cls "Scale") rfl)) (Top.e c 6 rfl), kitB_ok (Top.e c 58 rfl)⟩ (all_cons (p := fun r : Addr × Bool => IsC K r.1 ∧ PySem.W.kitOne K (.ref r.1) (.ref (klOf K).KeyTest) = some r.2) ⟨isCb_ok (He.cls_ok (c1.fact 81 (f := .cls "Floor") rfl)) (Top.e c 4 rfl), kitB_ok (Top.e c 57 rfl)⟩ (all_cons (p := fun r : Addr × Bool => IsC K r.1 ∧ PySem.W.kitOne K (.ref r.1) (.ref (klOf K).KeyTest) = some r.2) ⟨isCb_ok (He.cls_ok (c1.fact 85 (f := .cls "Clip") rfl)) (Top.e c 2 rfl), kitB_ok (Top.e c 56 rfl)⟩ (all_cons (p := fun r : Addr × Bool => IsC K r.1 ∧ PySem.W.kitOne K (.ref r.1) (.ref (klOf K).KeyTest) = some r.2) ⟨isCb_ok (He.cls_ok (c1.fact 83 (f := .cls "Sign") rfl)) (Top.e c 0 rfl), kitB_ok (Top.e c 55 rfl)⟩ all_nil))))))))))))), plB_ok (Top.e c 68 rfl)⟩
    iss_Stretches := isTblS_one (Top.e c 69 rfl) (Top.e c 70 rfl) (Top.e c 71 rfl)
    sl_pairs := slOk_one (Top.e c 69 rfl) (Top.e c 72 rfl)
    exm_ReadError := (all_cons (p := fun r : Addr × Bool => PySem.W.exmOne K (.ref r.1) (.ref (klOf K).ReadError) = some r.2) (exmB_ok (Top.e c 79 rfl)) (all_cons (p := fun r : Addr × Bool => PySem.W.exmOne K (.ref r.1) (.ref (klOf K).ReadError) = some r.2) (exmB_ok (Top.e c 78 rfl)) (all_cons (p := fun r : Addr × Bool => PySem.W.exmOne K (.ref r.1) (.ref (klOf K).ReadError) = some r.2) (exmB_ok (Top.e c 77 rfl)) (all_cons (p := fun r : Addr × Bool => PySem.W.exmOne K (.ref r.1) (.ref (klOf K).ReadError) = some r.2) (exmB_ok (Top.e c 76 rfl)) (all_cons (p := fun r : Addr × Bool => PySem.W.exmOne K (.ref r.1) (.ref (klOf K).ReadError) = some r.2) (exmB_ok (Top.e c 75 rfl)) (all_cons (p := fun r : Addr × Bool => PySem.W.exmOne K (.ref r.1) (.ref (klOf K).ReadError) = some r.2) (exmB_ok (Top.e c 74 rfl)) (all_cons (p := fun r : Addr × Bool => PySem.W.exmOne K (.ref r.1) (.ref (klOf K).ReadError) = some r.2) (exmB_ok (Top.e c 73 rfl)) all_nil)))))))
    exm_UnknownName := (all_cons (p := fun r : Addr × Bool => PySem.W.exmOne K (.ref r.1) (.ref (klOf K).UnknownName) = some r.2) (exmB_ok (Top.e c 86 rfl)) (all_cons (p := fun r : Addr × Bool => PySem.W.exmOne K (.ref r.1) (.ref (klOf K).UnknownName) = some r.2) (exmB_ok (Top.e c 85 rfl)) (all_cons (p := fun r : Addr × Bool => PySem.W.exmOne K (.ref r.1) (.ref (klOf K).UnknownName) = some r.2) (exmB_ok (Top.e c 84 rfl)) (all_cons (p := fun r : Addr × Bool => PySem.W.exmOne K (.ref r.1) (.ref (klOf K).UnknownName) = some r.2) (exmB_ok (Top.e c 83 rfl)) (all_cons (p := fun r : Addr × Bool => PySem.W.exmOne K (.ref r.1) (.ref (klOf K).UnknownName) = some r.2) (exmB_ok (Top.e c 82 rfl)) (all_cons (p := fun r : Addr × Bool => PySem.W.exmOne K (.ref r.1) (.ref (klOf K).UnknownName) = some r.2) (exmB_ok (Top.e c 81 rfl)) (all_cons (p := fun r : Addr × Bool => PySem.W.exmOne K (.ref r.1) (.ref (klOf K).UnknownName) = some r.2) (exmB_ok (Top.e c 80 rfl)) all_nil)))))))
    isx_BadName := ⟨(all_cons (p := fun r : Addr × Bool => ExcC K r.1 ∧ (PySem.W.clsIn K r.1).isSome = true) (excB_ok (Top.e c 99 rfl)) (all_cons (p := fun r : Addr × Bool => ExcC K r.1 ∧ (PySem.W.clsIn K r.1).isSome = true) (excB_ok (Top.e c 97 rfl)) (all_cons (p := fun r : Addr × Bool => ExcC K r.1 ∧ (PySem.W.clsIn K r.1).isSome = true) (excB_ok (Top.e c 95 rfl)) (all_cons (p := fun r : Addr × Bool => ExcC K r.1 ∧ (PySem.W.clsIn K r.1).isSome = true) (excB_ok (Top.e c 93 rfl)) (all_cons (p := fun r : Addr × Bool => ExcC K r.1 ∧ (PySem.W.clsIn K r.1).isSome = true) (excB_ok (Top.e c 91 rfl)) (all_cons (p := fun r : Addr × Bool => ExcC K r.1 ∧ (PySem.W.clsIn K r.1).isSome = true) (excB_ok (Top.e c 89 rfl)) (all_cons (p := fun r : Addr × Bool => ExcC K r.1 ∧ (PySem.W.clsIn K r.1).isSome = true) (excB_ok (Top.e c 87 rfl)) all_nil))))))), (.ref (He.ga K "BadName")), fun u => relRef, (all_cons (p := fun r : Addr × Bool => PySem.W.kitOne K (.ref r.1) (.ref (He.ga K "BadName")) = some r.2) (kitB_ok (Top.e c 100 rfl)) (all_cons (p := fun r : Addr × Bool => PySem.W.kitOne K (.ref r.1) (.ref (He.ga K "BadName")) = some r.2) (kitB_ok (Top.e c 98 rfl)) (all_cons (p := fun r : Addr × Bool => PySem.W.kitOne K (.ref r.1) (.ref (He.ga K "BadName")) = some r.2) (kitB_ok (Top.e c 96 rfl)) (all_cons (p := fun r : Addr × Bool => PySem.W.kitOne K (.ref r.1) (.ref (He.ga K "BadName")) = some r.2) (kitB_ok (Top.e c 94 rfl)) (all_cons (p := fun r : Addr × Bool => PySem.W.kitOne K (.ref r.1) (.ref (He.ga K "BadName")) = some r.2) (kitB_ok (Top.e c 92 rfl)) (all_cons (p := fun r : Addr × Bool => PySem.W.kitOne K (.ref r.1) (.ref (He.ga K "BadName")) = some r.2) (kitB_ok (Top.e c 90 rfl)) (all_cons (p := fun r : Addr × Bool => PySem.W.kitOne K (.ref r.1) (.ref (He.ga K "BadName")) = some r.2) (kitB_ok (Top.e c 88 rfl)) all_nil)))))))⟩
    isx_ValueError := ⟨(all_cons (p := fun r : Addr × Bool => ExcC K r.1 ∧ (PySem.W.clsIn K r.1).isSome = true) (excB_ok (Top.e c 99 rfl)) (all_cons (p := fun r : Addr × Bool => ExcC K r.1 ∧ (PySem.W.clsIn K r.1).isSome = true) (excB_ok (Top.e c 97 rfl)) (all_cons (p := fun r : Addr × Bool => ExcC K r.1 ∧ (PySem.W.clsIn K r.1).isSome = true) (excB_ok (Top.e c 95 rfl)) (all_cons (p := fun r : Addr × Bool => ExcC K r.1 ∧ (PySem.W.clsIn K r.1).isSome = true) (excB_ok (Top.e c 93 rfl)) (all_cons (p := fun r : Addr × Bool => ExcC K r.1 ∧ (PySem.W.clsIn K r.1).isSome = true) (excB_ok (Top.e c 91 rfl)) (all_cons (p := fun r : Addr × Bool => ExcC K r.1 ∧ (PySem.W.clsIn K r.1).isSome = true) (excB_ok (Top.e c 89 rfl)) (all_cons (p := fun r : Addr × Bool => ExcC K r.1 ∧ (PySem.W.clsIn K r.1).isSome = true) (excB_ok (Top.e c 87 rfl)) all_nil))))))), (.type "ValueError"), fun u => relTy, (all_cons (p := fun r : Addr × Bool => PySem.W.kitOne K (.ref r.1) (.type "ValueError") = some r.2) (kitB_ok (Top.e c 107 rfl)) (all_cons (p := fun r : Addr × Bool => PySem.W.kitOne K (.ref r.1) (.type "ValueError") = some r.2) (kitB_ok (Top.e c 106 rfl)) (all_cons (p := fun r : Addr × Bool => PySem.W.kitOne K (.ref r.1) (.type "ValueError") = some r.2) (kitB_ok (Top.e c 105 rfl)) (all_cons (p := fun r : Addr × Bool => PySem.W.kitOne K (.ref r.1) (.type "ValueError") = some r.2) (kitB_ok (Top.e c 104 rfl)) (all_cons (p := fun r : Addr × Bool => PySem.W.kitOne K (.ref r.1) (.type "ValueError") = some r.2) (kitB_ok (Top.e c 103 rfl)) (all_cons (p := fun r : Addr × Bool => PySem.W.kitOne K (.ref r.1) (.type "ValueError") = some r.2) (kitB_ok (Top.e c 102 rfl)) (all_cons (p := fun r : Addr × Bool => PySem.W.kitOne K (.ref r.1) (.type "ValueError") = some r.2) (kitB_ok (Top.e c 101 rfl)) all_nil)))))))⟩
    isx_ReadError := ⟨(all_cons (p := fun r : Addr × Bool => ExcC K r.1 ∧ (PySem.W.clsIn K r.1).isSome = true) (excB_ok (Top.e c 99 rfl)) (all_cons (p := fun r : Addr × Bool => ExcC K r.1 ∧ (PySem.W.clsIn K r.1).isSome = true) (excB_ok (Top.e c 97 rfl)) (all_cons (p := fun r : Addr × Bool => ExcC K r.1 ∧ (PySem.W.clsIn K r.1).isSome = true) (excB_ok (Top.e c 95 rfl)) (all_cons (p := fun r : Addr × Bool => ExcC K r.1 ∧ (PySem.W.clsIn K r.1).isSome = true) (excB_ok (Top.e c 93 rfl)) (all_cons (p := fun r : Addr × Bool => ExcC K r.1 ∧ (PySem.W.clsIn K r.1).isSome = true) (excB_ok (Top.e c 91 rfl)) (all_cons (p := fun r : Addr × Bool => ExcC K r.1 ∧ (PySem.W.clsIn K r.1).isSome = true) (excB_ok (Top.e c 89 rfl)) (all_cons (p := fun r : Addr × Bool => ExcC K r.1 ∧ (PySem.W.clsIn K r.1).isSome = true) (excB_ok (Top.e c 87 rfl)) all_nil))))))), (.ref (He.ga K "ReadError")), fun u => relRef, (all_cons (p := fun r : Addr × Bool => PySem.W.kitOne K (.ref r.1) (.ref (He.ga K "ReadError")) = some r.2) (kitB_ok (Top.e c 114 rfl)) (all_cons (p := fun r : Addr × Bool => PySem.W.kitOne K (.ref r.1) (.ref (He.ga K "ReadError")) = some r.2) (kitB_ok (Top.e c 113 rfl)) (all_cons (p := fun r : Addr × Bool => PySem.W.kitOne K (.ref r.1) (.ref (He.ga K "ReadError")) = some r.2) (kitB_ok (Top.e c 112 rfl)) (all_cons (p := fun r : Addr × Bool => PySem.W.kitOne K (.ref r.1) (.ref (He.ga K "ReadError")) = some r.2) (kitB_ok (Top.e c 111 rfl)) (all_cons (p := fun r : Addr × Bool => PySem.W.kitOne K (.ref r.1) (.ref (He.ga K "ReadError")) = some r.2) (kitB_ok (Top.e c 110 rfl)) (all_cons (p := fun r : Addr × Bool => PySem.W.kitOne K (.ref r.1) (.ref (He.ga K "ReadError")) = some r.2) (kitB_ok (Top.e c 109 rfl)) (all_cons (p := fun r : Addr × Bool => PySem.W.kitOne K (.ref r.1) (.ref (He.ga K "ReadError")) = some r.2) (kitB_ok (Top.e c 108 rfl)) all_nil)))))))⟩
    xf_UnknownName := excB_xf (Top.e c 89 rfl)
    no_UnknownName_name := noatB_ok (Top.e c 115 rfl)
  }
  obtain ⟨fd_F_Shift___init__, F_Shift___init__⟩ := c1.def_ 9 (d := ⟨("Shift", some "__init__"), "__init__", "Shift.__init__", defArgs (inClass (top 39) 0), defBody (inClass (top 39) 0), defScope (inClass (top 39) 0), [], []⟩) rfl
  have k_Shift : MakeOk P w K mg base 1 "Shift" ((klOf K)).Shift (sd_Shift___init__ (klOf K)) := MakeOk.mono (mo_Shift___init__ F_Shift___init__ (He.mkr_ok (c1.fact 91 (f := .mkr "Shift") rfl)) (He.glo_ok X G (c1.fact 47 (f := .glo "Shift") rfl)) bi cs cf) (by decide)
  obtain ⟨fd_F_Scale___init__, F_Scale___init__⟩ := c1.def_ 10 (d := ⟨("Scale", some "__init__"), "__init__", "Scale.__init__", defArgs (inClass (top 40) 0), defBody (inClass (top 40) 0), defScope (inClass (top 40) 0), [], []⟩) rfl
  have k_Scale : MakeOk P w K mg base 1 "Scale" ((klOf K)).Scale (sd_Scale___init__ (klOf K)) := MakeOk.mono (mo_Scale___init__ F_Scale___init__ (He.mkr_ok (c1.fact 92 (f := .mkr "Scale") rfl)) (He.glo_ok X G (c1.fact 48 (f := .glo "Scale") rfl)) bi cs cf) (by decide)
  obtain ⟨fd_F_Floor___init__, F_Floor___init__⟩ := c1.def_ 11 (d := ⟨("Floor", some "__init__"), "__init__", "Floor.__init__", defArgs (inClass (top 41) 0), defBody (inClass (top 41) 0), defScope (inClass (top 41) 0), [], []⟩) rfl
  have k_Floor : MakeOk P w K mg base 1 "Floor" ((klOf K)).Floor (sd_Floor___init__ (klOf K)) := MakeOk.mono (mo_Floor___init__ F_Floor___init__ (He.mkr_ok (c1.fact 93 (f := .mkr "Floor") rfl)) (He.glo_ok X G (c1.fact 49 (f := .glo "Floor") rfl)) bi cs cf) (by decide)
  obtain ⟨fd_F_Clip___init__, F_Clip___init__⟩ := c1.def_ 12 (d := ⟨("Clip", some "__init__"), "__init__", "Clip.__init__", defArgs (inClass (top 42) 0), defBody (inClass (top 42) 0), defScope (inClass (top 42) 0), [], []⟩) rfl
  have k_Clip : MakeOk P w K mg base 1 "Clip" ((klOf K)).Clip (sd_Clip___init__ (klOf K)) := MakeOk.mono (mo_Clip___init__ F_Clip___init__ (He.mkr_ok (c1.fact 94 (f := .mkr "Clip") rfl)) (He.glo_ok X G (c1.fact 50 (f := .glo "Clip") rfl)) bi cs cf) (by decide)
  obtain ⟨fd_Z_Sign___init__, Z_Sign___init__⟩ := Top.x c 0 (d := ⟨("Sign", some "__init__"), "__init__", "Sign.__init__", defArgs (inClass (top 43) 0), defBody (inClass (top 43) 0), defScope (inClass (top 43) 0), "Sign"⟩) rfl
  have G_Sign___init__ := mi_Clip___init___Sign (kl := klOf K) (P := P) (w := w) (base := base) F_Clip___init__ bi cs cf
  have k_Sign : MakeOk P w K mg base 2 "Sign" ((klOf K)).Sign (sd_Sign___init__ (klOf K)) := MakeOk.mono (ms_Sign___init__ (kl := klOf K) Z_Sign___init__ (supMB_ok (Top.e c 116 rfl)) G_Sign___init__.1 G_Sign___init__.2 (He.mkr_ok (c1.fact 95 (f := .mkr "Sign") rfl)) (He.glo_ok X G (c1.fact 51 (f := .glo "Sign") rfl)) (pures_Sign___init__ (klOf K))) (by decide)
  have kb_Step : Mk0 K ((klOf K)).Step := mk0B_ok (Top.e c 117 rfl)
  have c__law_built : Fnk P w K mg base "_law_built" 4 ["_law_deed_here"] [] [] (sd__law_built (klOf K)) := fk__law_built (defAt_of X G c1 8 30 rfl rfl) bi cf k_Shift k_Scale k_Floor k_Clip k_Sign kb_Step
  obtain ⟨fd_F_Chain___init__, F_Chain___init__⟩ := c1.def_ 14 (d := ⟨("Chain", some "__init__"), "__init__", "Chain.__init__", defArgs (inClass (top 21) 1), defBody (inClass (top 21) 1), defScope (inClass (top 21) 1), [], []⟩) rfl
  obtain ⟨fd_Z_TooMany___init__, Z_TooMany___init__⟩ := Top.x c 1 (d := ⟨("TooMany", some "__init__"), "__init__", "TooMany.__init__", defArgs (inClass (top 8) 0), defBody (inClass (top 8) 0), defScope (inClass (top 8) 0), "TooMany"⟩) rfl
  have x_TooMany : ExcMk P w K mg base 1 "TooMany" ((klOf K)).TooMany ["limit"] := mx_TooMany Z_TooMany___init__ (oexB_ok (Top.e c 120 rfl)) (initB_ok (Top.e c 118 rfl)).1 (initB_ok (Top.e c 118 rfl)).2 (He.glo_ok X G (c1.fact 37 (f := .glo "TooMany") rfl)) (supEB_ok (Top.e c 121 rfl)) (noatB_ok (Top.e c 119 rfl))
  have kr_Chain : MakeOkR P w K mg base 3 "Chain" ((klOf K)).Chain (sdStar 0 (sd_Chain___init__ (klOf K))) := ⟨_, (He.mkr_ok (c1.fact 97 (f := .mkr "Chain") rfl)), mr_Chain___init__ (P := P) (w := w) (kl := klOf K) (base := base) F_Chain___init__ bi cs cf x_TooMany, (He.glo_ok X G (c1.fact 39 (f := .glo "Chain") rfl))⟩
  have c__law_linked : Fnk P w K mg base "_law_linked" 5 ["_law_steps"] [] [] (sd__law_linked (klOf K)) := fk__law_linked (defAt_of X G c1 13 96 rfl rfl) bi cf kr_Chain
  obtain ⟨fd_F_Condition_truth, F_Condition_truth⟩ := c1.def_ 16 (d := ⟨("Condition", some "truth"), "truth", "Condition.truth", defArgs (inClass (top 30) 6), defBody (inClass (top 30) 6), defScope (inClass (top 30) 6), [], []⟩) rfl
  obtain ⟨fd_F_Test_judge, F_Test_judge⟩ := c1.def_ 17 (d := ⟨("Test", some "judge"), "judge", "Test.judge", defArgs (inClass (top 31) 4), defBody (inClass (top 31) 4), defScope (inClass (top 31) 4), [], []⟩) rfl
  obtain ⟨fd_F_KeyTest_judge, F_KeyTest_judge⟩ := c1.def_ 18 (d := ⟨("KeyTest", some "judge"), "judge", "KeyTest.judge", defArgs (inClass (top 32) 4), defBody (inClass (top 32) 4), defScope (inClass (top 32) 4), [], []⟩) rfl
  have m_judge : TblOk P w K mg base 1 "judge" (tb_judge (klOf K)) := (all_cons (p := fun r : Addr × Sd => MOk P w K mg base 1 "judge" r.1 r.2) (MOk.mono (mo_Test_judge (kl := klOf K) F_Test_judge (He.cls_ok (c1.fact 62 (f := .cls "Test") rfl)) (He.meth_ok (c1.fact 100 (f := .meth "Test" "judge") rfl)) bi) (by decide)) (all_cons (p := fun r : Addr × Sd => MOk P w K mg base 1 "judge" r.1 r.2) (MOk.mono (mo_KeyTest_judge (kl := klOf K) F_KeyTest_judge (He.cls_ok (c1.fact 60 (f := .cls "KeyTest") rfl)) (He.meth_ok (c1.fact 101 (f := .meth "KeyTest" "judge") rfl)) bi) (by decide)) all_nil))
  have m_truth : TblOk P w K mg base 2 "truth" (tb_truth (klOf K)) := (all_cons (p := fun r : Addr × Sd => MOk P w K mg base 2 "truth" r.1 r.2) (MOk.mono (mo_Condition_truth (kl := klOf K) F_Condition_truth (He.cls_ok (c1.fact 62 (f := .cls "Test") rfl)) ((samB_ok (Top.e c 122 rfl)) ▸ (He.meth_ok (c1.fact 99 (f := .meth "Test" "truth") rfl))) bi cf m_judge) (by decide)) (all_cons (p := fun r : Addr × Sd => MOk P w K mg base 2 "truth" r.1 r.2) (MOk.mono (mo_Condition_truth (kl := klOf K) F_Condition_truth (He.cls_ok (c1.fact 60 (f := .cls "KeyTest") rfl)) ((samB_ok (Top.e c 123 rfl)) ▸ (He.meth_ok (c1.fact 102 (f := .meth "KeyTest" "truth") rfl))) bi cf m_judge) (by decide)) all_nil))
  obtain ⟨fd_P_Test_Condition_names, P_Test_Condition_names⟩ := Top.p c 0 (d := ⟨fun K => prFn K (He.ga K "Test") "names", "names", "Condition.names", defArgs (inClass (top 30) 3), defBody (inClass (top 30) 3), defScope (inClass (top 30) 3), []⟩) rfl
  obtain ⟨q_Test_Condition_names, q1_Test_Condition_names, q2_Test_Condition_names, q3_Test_Condition_names, q4_Test_Condition_names⟩ := prB_ok (Top.e c 124 rfl)
  obtain ⟨fd_F_Test_gather, F_Test_gather⟩ := c1.def_ 19 (d := ⟨("Test", some "gather"), "gather", "Test.gather", defArgs (inClass (top 31) 2), defBody (inClass (top 31) 2), defScope (inClass (top 31) 2), [], []⟩) rfl
  obtain ⟨fd_F_KeyTest_gather, F_KeyTest_gather⟩ := c1.def_ 20 (d := ⟨("KeyTest", some "gather"), "gather", "KeyTest.gather", defArgs (inClass (top 32) 2), defBody (inClass (top 32) 2), defScope (inClass (top 32) 2), [], []⟩) rfl
  have m_gather : TblOk P w K mg base 1 "gather" (tb_gather (klOf K)) := (all_cons (p := fun r : Addr × Sd => MOk P w K mg base 1 "gather" r.1 r.2) (MOk.mono (mo_Test_gather (kl := klOf K) F_Test_gather (He.cls_ok (c1.fact 62 (f := .cls "Test") rfl)) (He.meth_ok (c1.fact 103 (f := .meth "Test" "gather") rfl)) bi) (by decide)) (all_cons (p := fun r : Addr × Sd => MOk P w K mg base 1 "gather" r.1 r.2) (MOk.mono (mo_KeyTest_gather (kl := klOf K) F_KeyTest_gather (He.cls_ok (c1.fact 60 (f := .cls "KeyTest") rfl)) (He.meth_ok (c1.fact 104 (f := .meth "KeyTest" "gather") rfl)) bi) (by decide)) all_nil))
  obtain ⟨fd_P_KeyTest_Condition_names, P_KeyTest_Condition_names⟩ := Top.p c 1 (d := ⟨fun K => prFn K (He.ga K "KeyTest") "names", "names", "Condition.names", defArgs (inClass (top 30) 3), defBody (inClass (top 30) 3), defScope (inClass (top 30) 3), []⟩) rfl
  obtain ⟨q_KeyTest_Condition_names, q1_KeyTest_Condition_names, q2_KeyTest_Condition_names, q3_KeyTest_Condition_names, q4_KeyTest_Condition_names⟩ := prB_ok (Top.e c 125 rfl)
  have pt_names : PrTb P w K mg base 2 "names" (tp_names (klOf K)) := (all_cons (p := fun r : Addr × Sd => PrOb P w K mg base 2 "names" r.1 r.2) (PrOb.mono ⟨_, _, _, _, (He.cls_ok (c1.fact 62 (f := .cls "Test") rfl)), ⟨q1_Test_Condition_names, q2_Test_Condition_names, q3_Test_Condition_names, q4_Test_Condition_names⟩, (mf_Condition_names (P := P) (w := w) (kl := klOf K) (base := base) P_Test_Condition_names bi cf m_gather).1, (mf_Condition_names (P := P) (w := w) (kl := klOf K) (base := base) P_Test_Condition_names bi cf m_gather).2⟩ (by decide)) (all_cons (p := fun r : Addr × Sd => PrOb P w K mg base 2 "names" r.1 r.2) (PrOb.mono ⟨_, _, _, _, (He.cls_ok (c1.fact 60 (f := .cls "KeyTest") rfl)), ⟨q1_KeyTest_Condition_names, q2_KeyTest_Condition_names, q3_KeyTest_Condition_names, q4_KeyTest_Condition_names⟩, (mf_Condition_names (P := P) (w := w) (kl := klOf K) (base := base) P_KeyTest_Condition_names bi cf m_gather).1, (mf_Condition_names (P := P) (w := w) (kl := klOf K) (base := base) P_KeyTest_Condition_names bi cf m_gather).2⟩ (by decide)) all_nil))
  obtain ⟨fd_P_Test_Condition_depth, P_Test_Condition_depth⟩ := Top.p c 2 (d := ⟨fun K => prFn K (He.ga K "Test") "depth", "depth", "Condition.depth", defArgs (inClass (top 30) 4), defBody (inClass (top 30) 4), defScope (inClass (top 30) 4), []⟩) rfl
  obtain ⟨q_Test_Condition_depth, q1_Test_Condition_depth, q2_Test_Condition_depth, q3_Test_Condition_depth, q4_Test_Condition_depth⟩ := prB_ok (Top.e c 126 rfl)
  obtain ⟨fd_P_KeyTest_Condition_depth, P_KeyTest_Condition_depth⟩ := Top.p c 3 (d := ⟨fun K => prFn K (He.ga K "KeyTest") "depth", "depth", "Condition.depth", defArgs (inClass (top 30) 4), defBody (inClass (top 30) 4), defScope (inClass (top 30) 4), []⟩) rfl
  obtain ⟨q_KeyTest_Condition_depth, q1_KeyTest_Condition_depth, q2_KeyTest_Condition_depth, q3_KeyTest_Condition_depth, q4_KeyTest_Condition_depth⟩ := prB_ok (Top.e c 127 rfl)
  have pt_depth : PrTb P w K mg base 1 "depth" (tp_depth (klOf K)) := (all_cons (p := fun r : Addr × Sd => PrOb P w K mg base 1 "depth" r.1 r.2) (PrOb.mono ⟨_, _, _, _, (He.cls_ok (c1.fact 62 (f := .cls "Test") rfl)), ⟨q1_Test_Condition_depth, q2_Test_Condition_depth, q3_Test_Condition_depth, q4_Test_Condition_depth⟩, (mf_Condition_depth (P := P) (w := w) (kl := klOf K) (base := base) P_Test_Condition_depth bi cf).1, (mf_Condition_depth (P := P) (w := w) (kl := klOf K) (base := base) P_Test_Condition_depth bi cf).2⟩ (by decide)) (all_cons (p := fun r : Addr × Sd => PrOb P w K mg base 1 "depth" r.1 r.2) (PrOb.mono ⟨_, _, _, _, (He.cls_ok (c1.fact 60 (f := .cls "KeyTest") rfl)), ⟨q1_KeyTest_Condition_depth, q2_KeyTest_Condition_depth, q3_KeyTest_Condition_depth, q4_KeyTest_Condition_depth⟩, (mf_Condition_depth (P := P) (w := w) (kl := klOf K) (base := base) P_KeyTest_Condition_depth bi cf).1, (mf_Condition_depth (P := P) (w := w) (kl := klOf K) (base := base) P_KeyTest_Condition_depth bi cf).2⟩ (by decide)) all_nil))
  obtain ⟨fd_P_Test_Condition_tests, P_Test_Condition_tests⟩ := Top.p c 4 (d := ⟨fun K => prFn K (He.ga K "Test") "tests", "tests", "Condition.tests", defArgs (inClass (top 30) 2), defBody (inClass (top 30) 2), defScope (inClass (top 30) 2), []⟩) rfl
  obtain ⟨q_Test_Condition_tests, q1_Test_Condition_tests, q2_Test_Condition_tests, q3_Test_Condition_tests, q4_Test_Condition_tests⟩ := prB_ok (Top.e c 128 rfl)
  obtain ⟨fd_P_KeyTest_Condition_tests, P_KeyTest_Condition_tests⟩ := Top.p c 5 (d := ⟨fun K => prFn K (He.ga K "KeyTest") "tests", "tests", "Condition.tests", defArgs (inClass (top 30) 2), defBody (inClass (top 30) 2), defScope (inClass (top 30) 2), []⟩) rfl
  obtain ⟨q_KeyTest_Condition_tests, q1_KeyTest_Condition_tests, q2_KeyTest_Condition_tests, q3_KeyTest_Condition_tests, q4_KeyTest_Condition_tests⟩ := prB_ok (Top.e c 129 rfl)
  have pt_tests : PrTb P w K mg base 2 "tests" (tp_tests (klOf K)) := (all_cons (p := fun r : Addr × Sd => PrOb P w K mg base 2 "tests" r.1 r.2) (PrOb.mono ⟨_, _, _, _, (He.cls_ok (c1.fact 62 (f := .cls "Test") rfl)), ⟨q1_Test_Condition_tests, q2_Test_Condition_tests, q3_Test_Condition_tests, q4_Test_Condition_tests⟩, (mf_Condition_tests (P := P) (w := w) (kl := klOf K) (base := base) P_Test_Condition_tests bi cf m_gather).1, (mf_Condition_tests (P := P) (w := w) (kl := klOf K) (base := base) P_Test_Condition_tests bi cf m_gather).2⟩ (by decide)) (all_cons (p := fun r : Addr × Sd => PrOb P w K mg base 2 "tests" r.1 r.2) (PrOb.mono ⟨_, _, _, _, (He.cls_ok (c1.fact 60 (f := .cls "KeyTest") rfl)), ⟨q1_KeyTest_Condition_tests, q2_KeyTest_Condition_tests, q3_KeyTest_Condition_tests, q4_KeyTest_Condition_tests⟩, (mf_Condition_tests (P := P) (w := w) (kl := klOf K) (base := base) P_KeyTest_Condition_tests bi cf m_gather).1, (mf_Condition_tests (P := P) (w := w) (kl := klOf K) (base := base) P_KeyTest_Condition_tests bi cf m_gather).2⟩ (by decide)) all_nil))
  have c__law_shape : Fnk P w K mg base "_law_shape" 4 ["_law_condition", "_law_names"] [] [] (sd__law_shape (klOf K)) := fk__law_shape (defAt_of X G c1 15 98 rfl rfl) bi cf m_truth pt_names pt_depth pt_tests
  have c__law_has : Fnk P w K mg base "_law_has" 1 ["_law_rows", "_law_number"] [] [] sd__law_has := fk__law_has (defAt_of X G c1 21 105 rfl rfl) bi
  obtain ⟨fd_F_Condition_holds, F_Condition_holds⟩ := c1.def_ 24 (d := ⟨("Condition", some "holds"), "holds", "Condition.holds", defArgs (inClass (top 30) 5), defBody (inClass (top 30) 5), defScope (inClass (top 30) 5), [], []⟩) rfl
  obtain ⟨fd_F_Test_passes, F_Test_passes⟩ := c1.def_ 25 (d := ⟨("Test", some "passes"), "passes", "Test.passes", defArgs (inClass (top 31) 3), defBody (inClass (top 31) 3), defScope (inClass (top 31) 3), [], []⟩) rfl
  obtain ⟨fd_F_Stretches___contains__, F_Stretches___contains__⟩ := c1.def_ 26 (d := ⟨("Stretches", some "__contains__"), "__contains__", "Stretches.__contains__", defArgs (inClass (top 18) 7), defBody (inClass (top 18) 7), defScope (inClass (top 18) 7), [], []⟩) rfl
  have ms_Stretches___contains__ : MSl P w K mg base 1 "__contains__" ((klOf K)).Stretches (sd_Stretches___contains__ (klOf K)) := MSl.mono ⟨_, _, _, (slcB_ok (Top.e c 69 rfl)).1, (slcB_ok (Top.e c 69 rfl)).2, (He.meth_ok (c1.fact 110 (f := .meth "Stretches" "__contains__") rfl)), (mf_Stretches___contains__ (P := P) (w := w) (kl := klOf K) (base := base) F_Stretches___contains__ bi cf).1, (mf_Stretches___contains__ (P := P) (w := w) (kl := klOf K) (base := base) F_Stretches___contains__ bi cf).2⟩ (by decide)
  obtain ⟨fd_F_Chain___call__, F_Chain___call__⟩ := c1.def_ 27 (d := ⟨("Chain", some "__call__"), "__call__", "Chain.__call__", defArgs (inClass (top 21) 2), defBody (inClass (top 21) 2), defScope (inClass (top 21) 2), [], []⟩) rfl
  obtain ⟨fd_F_Step_image, F_Step_image⟩ := c1.def_ 28 (d := ⟨("Step", some "image"), "image", "Step.image", defArgs (inClass (top 38) 0), defBody (inClass (top 38) 0), defScope (inClass (top 38) 0), [], []⟩) rfl
  obtain ⟨fd_F_Shift_image, F_Shift_image⟩ := c1.def_ 29 (d := ⟨("Shift", some "image"), "image", "Shift.image", defArgs (inClass (top 39) 1), defBody (inClass (top 39) 1), defScope (inClass (top 39) 1), [], []⟩) rfl
  obtain ⟨fd_F_Scale_image, F_Scale_image⟩ := c1.def_ 30 (d := ⟨("Scale", some "image"), "image", "Scale.image", defArgs (inClass (top 40) 1), defBody (inClass (top 40) 1), defScope (inClass (top 40) 1), [], []⟩) rfl
  obtain ⟨fd_F_Floor_image, F_Floor_image⟩ := c1.def_ 31 (d := ⟨("Floor", some "image"), "image", "Floor.image", defArgs (inClass (top 41) 1), defBody (inClass (top 41) 1), defScope (inClass (top 41) 1), [], []⟩) rfl
  obtain ⟨fd_F_Clip_image, F_Clip_image⟩ := c1.def_ 32 (d := ⟨("Clip", some "image"), "image", "Clip.image", defArgs (inClass (top 42) 1), defBody (inClass (top 42) 1), defScope (inClass (top 42) 1), [], []⟩) rfl
  obtain ⟨fd_Z_Sign_image, Z_Sign_image⟩ := Top.x c 2 (d := ⟨("Sign", some "image"), "image", "Sign.image", defArgs (inClass (top 43) 1), defBody (inClass (top 43) 1), defScope (inClass (top 43) 1), "Sign"⟩) rfl
  have G_Sign_image := mf_Clip_image (kl := klOf K) (P := P) (w := w) (base := base) F_Clip_image bi cf
  have m_image : TblOk P w K mg base 2 "image" (tb_image (klOf K)) := (all_cons (p := fun r : Addr × Sd => MOk P w K mg base 2 "image" r.1 r.2) (MOk.mono (mo_Step_image (kl := klOf K) F_Step_image (He.cls_ok (c1.fact 89 (f := .cls "Step") rfl)) (He.meth_ok (c1.fact 111 (f := .meth "Step" "image") rfl)) bi) (by decide)) (all_cons (p := fun r : Addr × Sd => MOk P w K mg base 2 "image" r.1 r.2) (MOk.mono (mo_Shift_image (kl := klOf K) F_Shift_image (He.cls_ok (c1.fact 77 (f := .cls "Shift") rfl)) (He.meth_ok (c1.fact 112 (f := .meth "Shift" "image") rfl)) bi cf) (by decide)) (all_cons (p := fun r : Addr × Sd => MOk P w K mg base 2 "image" r.1 r.2) (MOk.mono (mo_Scale_image (kl := klOf K) F_Scale_image (He.cls_ok (c1.fact 79 (f := .cls "Scale") rfl)) (He.meth_ok (c1.fact 113 (f := .meth "Scale" "image") rfl)) bi cf) (by decide)) (all_cons (p := fun r : Addr × Sd => MOk P w K mg base 2 "image" r.1 r.2) (MOk.mono (mo_Floor_image (kl := klOf K) F_Floor_image (He.cls_ok (c1.fact 81 (f := .cls "Floor") rfl)) (He.meth_ok (c1.fact 114 (f := .meth "Floor" "image") rfl)) bi cf) (by decide)) (all_cons (p := fun r : Addr × Sd => MOk P w K mg base 2 "image" r.1 r.2) (MOk.mono (mo_Clip_image (kl := klOf K) F_Clip_image (He.cls_ok (c1.fact 85 (f := .cls "Clip") rfl)) (He.meth_ok (c1.fact 115 (f := .meth "Clip" "image") rfl)) bi cf) (by decide)) (all_cons (p := fun r : Addr × Sd => MOk P w K mg base 2 "image" r.1 r.2) (MOk.mono (ms_Sign_image (kl := klOf K) Z_Sign_image (supMB_ok (Top.e c 131 rfl)) G_Sign_image.1 G_Sign_image.2 (He.cls_ok (c1.fact 83 (f := .cls "Sign") rfl)) (He.meth_ok (c1.fact 116 (f := .meth "Sign" "image") rfl)) (pures_Sign_image (klOf K))) (by decide)) all_nil))))))
  have co_Chain : CallM P w K mg base 3 ((klOf K)).Chain (sd_Chain___call__ (klOf K)) := ⟨_, _, _, calB_ok (Top.e c 132 rfl), (mf_Chain___call__ (P := P) (w := w) (kl := klOf K) (base := base) F_Chain___call__ bi cf m_image).1, (mf_Chain___call__ (P := P) (w := w) (kl := klOf K) (base := base) F_Chain___call__ bi cf m_image).2⟩
  obtain ⟨fd_F_KeyTest_passes, F_KeyTest_passes⟩ := c1.def_ 33 (d := ⟨("KeyTest", some "passes"), "passes", "KeyTest.passes", defArgs (inClass (top 32) 3), defBody (inClass (top 32) 3), defScope (inClass (top 32) 3), [], []⟩) rfl
  have m_passes : TblOk P w K mg base 4 "passes" (tb_passes (klOf K)) := (all_cons (p := fun r : Addr × Sd => MOk P w K mg base 4 "passes" r.1 r.2) (MOk.mono (mo_Test_passes (kl := klOf K) F_Test_passes (He.cls_ok (c1.fact 62 (f := .cls "Test") rfl)) (He.meth_ok (c1.fact 109 (f := .meth "Test" "passes") rfl)) bi cf ms_Stretches___contains__ co_Chain) (by decide)) (all_cons (p := fun r : Addr × Sd => MOk P w K mg base 4 "passes" r.1 r.2) (MOk.mono (mo_KeyTest_passes (kl := klOf K) F_KeyTest_passes (He.cls_ok (c1.fact 60 (f := .cls "KeyTest") rfl)) (He.meth_ok (c1.fact 117 (f := .meth "KeyTest" "passes") rfl)) bi cf ms_Stretches___contains__ co_Chain) (by decide)) all_nil))
  obtain ⟨fd_Z_UnknownName___init__, Z_UnknownName___init__⟩ := Top.x c 3 (d := ⟨("UnknownName", some "__init__"), "__init__", "UnknownName.__init__", defArgs (inClass (top 7) 0), defBody (inClass (top 7) 0), defScope (inClass (top 7) 0), "UnknownName"⟩) rfl
  have x_UnknownName : ExcMk P w K mg base 1 "UnknownName" ((klOf K)).UnknownName ["name"] := mx_UnknownName Z_UnknownName___init__ (oexB_ok (Top.e c 134 rfl)) (initB_ok (Top.e c 133 rfl)).1 (initB_ok (Top.e c 133 rfl)).2 (He.glo_ok X G (c1.fact 36 (f := .glo "UnknownName") rfl)) (supEB_ok (Top.e c 135 rfl)) (noatB_ok (Top.e c 115 rfl))
  have m_holds : TblOk P w K mg base 5 "holds" (tb_holds (klOf K)) := (all_cons (p := fun r : Addr × Sd => MOk P w K mg base 5 "holds" r.1 r.2) (MOk.mono (mo_Condition_holds (kl := klOf K) F_Condition_holds (He.cls_ok (c1.fact 62 (f := .cls "Test") rfl)) ((samB_ok (Top.e c 130 rfl)) ▸ (He.meth_ok (c1.fact 108 (f := .meth "Test" "holds") rfl))) bi cf m_gather m_passes m_truth x_UnknownName pt_names) (by decide)) (all_cons (p := fun r : Addr × Sd => MOk P w K mg base 5 "holds" r.1 r.2) (MOk.mono (mo_Condition_holds (kl := klOf K) F_Condition_holds (He.cls_ok (c1.fact 60 (f := .cls "KeyTest") rfl)) ((samB_ok (Top.e c 136 rfl)) ▸ (He.meth_ok (c1.fact 118 (f := .meth "KeyTest" "holds") rfl))) bi cf m_gather m_passes m_truth x_UnknownName pt_names) (by decide)) all_nil))
  have c__law_lacks : Fnk P w K mg base "_law_lacks" 6 ["_law_condition", "_law_key", "_law_values"] [] [] (sd__law_lacks (klOf K)) := fk__law_lacks (defAt_of X G c1 23 107 rfl rfl) bi cf m_holds
  have c__law_holds_as : Fnk P w K mg base "_law_holds_as" 7 ["_law_condition", "_law_key", "_law_values", "_law_due"] [] [] (sd__law_holds_as (klOf K)) := fk__law_holds_as (defAt_of X G c1 22 106 rfl rfl) bi c__law_lacks cf
  obtain ⟨fd_F_Stretches___init__, F_Stretches___init__⟩ := c1.def_ 34 (d := ⟨("Stretches", some "__init__"), "__init__", "Stretches.__init__", defArgs (inClass (top 18) 2), defBody (inClass (top 18) 2), defScope (inClass (top 18) 2), [.adr (He.dflAt ("Stretches", some "__init__") 0)], []⟩) rfl
  have c_joined : Fnk P w K mg base "joined" 1 ["rows"] [] [] sd_joined := fk_joined (defAt_of X G c1 35 119 rfl rfl) bi
  obtain ⟨fd_Z_BadStretch___init__, Z_BadStretch___init__⟩ := Top.x c 4 (d := ⟨("BadStretch", some "__init__"), "__init__", "BadStretch.__init__", defArgs (inClass (top 3) 0), defBody (inClass (top 3) 0), defScope (inClass (top 3) 0), "BadStretch"⟩) rfl
  have x_BadStretch : ExcMk P w K mg base 1 "BadStretch" ((klOf K)).BadStretch ["low", "high"] := mx_BadStretch Z_BadStretch___init__ (oexB_ok (Top.e c 140 rfl)) (initB_ok (Top.e c 137 rfl)).1 (initB_ok (Top.e c 137 rfl)).2 (He.glo_ok X G (c1.fact 32 (f := .glo "BadStretch") rfl)) (supEB_ok (Top.e c 141 rfl)) (noatB_ok (Top.e c 138 rfl)) (noatB_ok (Top.e c 139 rfl))
  have fi_Stretches := ms_Stretches___init__ (P := P) (w := w) (kl := klOf K) (base := base) F_Stretches___init__ bi cs c_joined cf x_BadStretch
  have kl_Stretches : MakeSl P w K mg base 3 "Stretches" ((klOf K)).Stretches (sd_Stretches___init__ (klOf K)) := MakeSl.mono ⟨_, _, _, (He.mkr_ok (c1.fact 120 (f := .mkr "Stretches") rfl)), fi_Stretches, (He.glo_ok X G (c1.fact 38 (f := .glo "Stretches") rfl)), bo_Stretches___init__ F_Stretches___init__⟩ (by decide)
  obtain ⟨fd_F_Test___init__, F_Test___init__⟩ := c1.def_ 36 (d := ⟨("Test", some "__init__"), "__init__", "Test.__init__", defArgs (inClass (top 31) 0), defBody (inClass (top 31) 0), defScope (inClass (top 31) 0), [], [("cast", .non)]⟩) rfl
  have c_is_name : Fnk P w K mg base "is_name" 1 ["name"] [] [] sd_is_name := fk_is_name (defAt_of X G c1 37 122 rfl rfl) bi cs
  obtain ⟨fd_F_Stretches___len__, F_Stretches___len__⟩ := c1.def_ 39 (d := ⟨("Stretches", some "__len__"), "__len__", "Stretches.__len__", defArgs (inClass (top 18) 6), defBody (inClass (top 18) 6), defScope (inClass (top 18) 6), [], []⟩) rfl
  have ms_Stretches___len__ : MSl P w K mg base 1 "__len__" ((klOf K)).Stretches (sd_Stretches___len__ (klOf K)) := MSl.mono ⟨_, _, _, (slcB_ok (Top.e c 69 rfl)).1, (slcB_ok (Top.e c 69 rfl)).2, (He.meth_ok (c1.fact 124 (f := .meth "Stretches" "__len__") rfl)), (mf_Stretches___len__ (P := P) (w := w) (kl := klOf K) (base := base) F_Stretches___len__ bi cf).1, (mf_Stretches___len__ (P := P) (w := w) (kl := klOf K) (base := base) F_Stretches___len__ bi cf).2⟩ (by decide)
  have c_check_numbers : Fnk P w K mg base "check_numbers" 3 ["numbers"] [] [] (sd_check_numbers (klOf K)) := fk_check_numbers (defAt_of X G c1 38 123 rfl rfl) bi cs cf x_TooMany ms_Stretches___len__
  have G0_Test___init__ := mi0_Test___init__ (P := P) (w := w) (kl := klOf K) (base := base) F_Test___init__ bi c_is_name c_check_numbers cf kr_Chain
  obtain ⟨ds_Test, hd_Test, hb_Test⟩ := bo_Test___init__ F_Test___init__
  have ko_Test : MakeOkD P w K mg base 5 "Test" ((klOf K)).Test (sd_Test___init__ (klOf K)) [V.non] [Dt.non] := MakeOkD.mono ⟨_, _, _, _, (He.mkr_ok (c1.fact 121 (f := .mkr "Test") rfl)), G0_Test___init__, (He.glo_ok X G (c1.fact 41 (f := .glo "Test") rfl)), hb_Test, hd_Test, fun l0 F => (.cons (.v _) .nil)⟩ (by decide)
  obtain ⟨fd_F_KeyTest___init__, F_KeyTest___init__⟩ := c1.def_ 40 (d := ⟨("KeyTest", some "__init__"), "__init__", "KeyTest.__init__", defArgs (inClass (top 32) 0), defBody (inClass (top 32) 0), defScope (inClass (top 32) 0), [], [("cast", .non)]⟩) rfl
  have G0_KeyTest___init__ := mi0_KeyTest___init__ (P := P) (w := w) (kl := klOf K) (base := base) F_KeyTest___init__ bi c_check_numbers cf kr_Chain
  obtain ⟨ds_KeyTest, hd_KeyTest, hb_KeyTest⟩ := bo_KeyTest___init__ F_KeyTest___init__
  have ko_KeyTest : MakeOkD P w K mg base 5 "KeyTest" ((klOf K)).KeyTest (sd_KeyTest___init__ (klOf K)) [V.non] [Dt.non] := MakeOkD.mono ⟨_, _, _, _, (He.mkr_ok (c1.fact 125 (f := .mkr "KeyTest") rfl)), G0_KeyTest___init__, (He.glo_ok X G (c1.fact 42 (f := .glo "KeyTest") rfl)), hb_KeyTest, hd_KeyTest, fun l0 F => (.cons (.v _) .nil)⟩ (by decide)
  obtain ⟨mv_Test_cast, kb_Test_cast⟩ := bn_Test___init___cast F_Test___init__
  have kn_Test_cast : MakeOkN P w K mg base 5 "Test" ((klOf K)).Test (sd_Test___init__ (klOf K)) 2 ["cast"] (fun vs zs => vs ++ ((zs.drop 0).take 1 ++ [])) := MakeOkN.mono ⟨_, _, _, _, _, (He.mkr_ok (c1.fact 121 (f := .mkr "Test") rfl)), G0_Test___init__, (He.glo_ok X G (c1.fact 41 (f := .glo "Test") rfl)), kb_Test_cast, fun _ vs zs _ h => match zs, h with | [_], _ => rfl⟩ (by decide)
  obtain ⟨mv_KeyTest_cast, kb_KeyTest_cast⟩ := bn_KeyTest___init___cast F_KeyTest___init__
  have kn_KeyTest_cast : MakeOkN P w K mg base 5 "KeyTest" ((klOf K)).KeyTest (sd_KeyTest___init__ (klOf K)) 1 ["cast"] (fun vs zs => vs ++ ((zs.drop 0).take 1 ++ [])) := MakeOkN.mono ⟨_, _, _, _, _, (He.mkr_ok (c1.fact 125 (f := .mkr "KeyTest") rfl)), G0_KeyTest___init__, (He.glo_ok X G (c1.fact 42 (f := .glo "KeyTest") rfl)), kb_KeyTest_cast, fun _ vs zs _ h => match zs, h with | [_], _ => rfl⟩ (by decide)
  exact ok_law (kl := klOf K) F bi dk c__law_amount c__law_next c__law_deed c__law_around c__law_word c__law_built c__law_linked c__law_shape c__law_result c__law_has c__law_holds_as c__law_lacks cf kl_Stretches ko_Test ko_KeyTest kn_Test_cast kn_KeyTest_cast
end Lw
open PySem PySem.W PySem.Calls PyProof.Rows
theorem PySem.Challenge.cw_stretchesread_k37_one_test_holds : PySem.Challenge.rw_stretchesread_k37_one_test.Holds := by
  w_on; o_law
  refine HandSHeadRun.head_any (r := OpenLaw.row PySem.Challenge.rw_stretchesread_k37_one_test) (q := view (OpenLaw.row PySem.Challenge.rw_stretchesread_k37_one_test).prog [59]) (H := Lw.hk) (ob := Lw.ob) (M := 30000) (loose := Lw.loose) (d := HandSHeadRun.topDef (OpenLaw.row PySem.Challenge.rw_stretchesread_k37_one_test).prog 59) (kwd := []) Lw.ob_eq
    (by kernel_rfl) (fun s => by kernel_rfl) Lw.run (by kernel_rfl) (by kernel_rfl) (by kernel_rfl) (by rfl) (by first | assumption | decide +kernel) (by decide +kernel) ⟨rfl, rfl, rfl, rfl, rfl, by decide +kernel⟩ ?hw ?hc
  case hw => w_witness2
  case hc =>
    refine DW.hook_ok (l := PySem.Challenge.rw_stretchesread_k37_one_test) (n := 63) (k := 8) (x := "_law_script") rfl (by decide) (by kernel_rfl) ⟨rfl, by decide, by decide⟩ ?F
    intro w mg fa h Y G hmg0
    obtain ⟨K, KX, c⟩ := Y
    have hmg : mg ("law" : PySem.Str) = some (.ref fa) := by
      have e : (HandSHeadRun.topDef (OpenLaw.row PySem.Challenge.rw_stretchesread_k37_one_test).prog 59).name = ("law" : PySem.Str) := by kernel_rfl
      rw [← e]
      exact hmg0
    obtain ⟨fd, hb, hF⟩ := Lw.facts (w := w) KX G hmg c
    exact ⟨K, fd, DW.spLaw K, KX, hb, fun H a ns hl _ hS => ⟨a, ns, rfl, hS, hl, fun _ => rfl⟩, hF⟩
#print axioms PySem.Challenge.cw_stretchesread_k37_one_test_holds

